/-
  Proved here: the law renlaw12.EvalOpers returns true for every input of the stated bulk and leaves its arguments as they were; no further condition.
  By an AI agent; no person has read it.
-/
import Derived.Test.YtimhplnifencnaaGreatDoorPartl
import Derived.KernelRfl
import GoSem.ClaimGoes
set_option linter.all false
set_option linter.deprecated false
set_option maxRecDepth 1000000
namespace Go.Mach
theorem tX : R.cN.strip = some true := by kernel_rfl
theorem mI : R.cN.sat (· = true) := by
  have h := tX
  generalize R.cN = m at h
  exact Res.db h rfl
end Go.Mach
set_option maxRecDepth 100000
namespace Go.Mach
open Res
theorem et {α : Type} {m : Res α} {a : α} (h : m.strip = some a) : m.sat (· = a) := Res.db h rfl
abbrev xA := aB.den
abbrev TreeT := List xA
theorem vX {t : TreeT} {e0 : xA} (hl : t.length ≤ 4096) (h0 : t[0]? = some e0) (hk0 : e0.1 = 1) (ho : (R.gl t).sat (· = true)) (h1 : ∀ (n : Nat) (e : xA), 0 < n → t[n]? = some e → e.1 ≠ 1) (hf : ∀ (n : Nat) (e : xA), t[n]? = some e → (R.cf e).sat (· = true))
    (hk : ∀ n : Nat, n < t.length → (R.gu t n).sat (· = true)) (hd : (R.gG t).sat fun d => (R.cn d).sat fun m => m ≤ 48) : (R.fa t).sat (· = true) := by
  unfold R.fa
  have hpos : 0 < t.length := (List.getElem?_eq_some_iff.1 h0).1
  refine aG fun _ => aQ (a := false) ?_ (aJ rfl ?_)
  · refine aJ (by rw [beq_eq_false_iff_ne]; omega) (aJ (by rw [dq]; omega) (cT (by omega) (by simpa using hpos) fun e he _ => ?_))
    have he : t[0]? = some e := he
    rw [h0] at he; cases he
    exact aJ (by simp [hk0]) (aQ ho (aD rfl))
  refine aQ (a := .inl ()) ?_ (xH (aV hd fun d hd => aG fun _ => aV hd fun m hm => aG fun _ => aD (by rw [fo]; exact hm)))
  refine rP (fun i : Int => i) t.length (by omega) (fun i : Int => 0 ≤ i ∧ i ≤ t.length) ⟨by omega, by omega⟩ (fun i h => h) ?_
  rintro i ⟨i0, i1⟩
  refine bf (fun h => ?_) fun _ => aD rfl
  rw [ei] at h
  have hi : i.toNat < t.length := by omega
  have hin : ((i.toNat : Nat) : Int) = i := by omega
  have w : IntKind.wrap .i64 (i + 1) = i + 1 := wrap64 ⟨by omega, by omega⟩
  refine aQ (a := false) (bf (fun hp => ?_) fun hp => ?_) (aJ rfl (aD ⟨w, by rw [w]; omega, by rw [w]; omega⟩))
  · rw [ei] at hp
    refine cT i0 hi fun e he _ => ?_
    refine aJ (by simpa using h1 _ e (by omega) he) (cT i0 hi fun e' he' _ => aQ (hf _ _ he') (aJ rfl (aQ (a := true) ?_ (aD rfl))))
    have := hk _ hi
    rwa [hin] at this
  · refine cT i0 hi fun e' he' _ => aQ (hf _ _ he') (aJ rfl (aQ (a := true) ?_ (aD rfl)))
    have := hk _ hi
    rwa [hin] at this
theorem rn {t : TreeT} (hl : t.length ≤ 4096) (hm : (R.fa t).sat (· = true)) {up : List Int} (hp : (R.eH t).sat (· = up)) (hw : ∀ n : Nat, n < t.length → (R.gC t up n).sat (· = false)) : (R.dd t).sat (· = (0, 0)) := by
  unfold R.dd
  refine aG fun _ => aQ hm (aJ rfl (aQ hp (aG fun _ => aQ (a := .inl ()) ?_ (xH (aD rfl)))))
  refine rP (fun i : Int => i) t.length (by omega) (fun i : Int => 0 ≤ i ∧ i ≤ t.length) ⟨by omega, by omega⟩ (fun i h => h) ?_
  rintro i ⟨i0, i1⟩
  refine bf (fun h => ?_) fun _ => aD rfl
  rw [ei] at h
  have hi : i.toNat < t.length := by omega
  have hin : ((i.toNat : Nat) : Int) = i := by omega
  have w : IntKind.wrap .i64 (i + 1) = i + 1 := wrap64 ⟨by omega, by omega⟩
  have := hw _ hi
  rw [hin] at this
  exact aQ this (aJ rfl (aD ⟨w, by rw [w]; omega, by rw [w]; omega⟩))
end Go.Mach
set_option maxRecDepth 1000000
namespace Go.Mach
open Res
abbrev iB := aA.den
abbrev jL := aB.den
theorem lv : ∃ k, fuel = k + 40 := ⟨2 ^ 70 - 40, by decide⟩
theorem mU {α β : Type} {Q : β → Prop} {m m' : Res α} {a : α} {k : α → Res β} (h : m = m') (h2 : m'.sat (· = a)) (hk : (k a).sat Q) : (m.bind k).sat Q := h ▸ aQ h2 hk
theorem Aj {α β : Type} {Q : β → Prop} {m : Res α} {P : α → Prop} {k : α → Res β} (h : m.sat P) (hk : ∀ u, m.strip = some u → P u → (k u).sat Q) : (m.bind k).sat Q := by
  by_cases hf : m.facts
  · obtain ⟨u, h1, h2⟩ := oX h hf
    exact aQ (db h1 rfl) (hk u h1 h2)
  · exact aY (kR hf)
abbrev vz : iB := (0, ((0, 0), ((false, []), ([], 0))))
abbrev vnum (n : Int) : iB := (3, ((0, n), ((false, []), ([], 0))))
abbrev vbig (m : List Int) : iB := (4, ((0, 0), ((false, m), ([], 0))))
abbrev vstr (s : List Int) : iB := (5, ((0, 0), ((false, []), (s, 0))))
inductive qc : iB → Prop
  | und : qc vz
  | null : qc (1, vz.2)
  | wz (b : Int) : b = 0 ∨ b = 1 → qc (2, ((0, 0), ((false, []), ([], b))))
  | num (n : Int × Int) : (n.1 = 0 → -9007199254740991 ≤ n.2 ∧ n.2 ≤ 9007199254740991) → qc (3, (n, vz.2.2))
  | big (b : Bool × List Int) : (R.gZ b).strip = some true → qc (4, ((0, 0), (b, ([], 0))))
  | str (s : List Int) : s.length ≤ 4096 → qc (vstr s)
  | obj (r : Int) : 0 ≤ r → qc (6, ((0, 0), ((false, []), ([], r))))
theorem kq {a : iB} : (R.eu a).sat (fun r => r = true → a = (a.1, vz.2)) := by
  obtain ⟨k, ⟨n1, n2⟩, ⟨ng, mg⟩, s, ref⟩ := a
  unfold R.eu
  refine aG fun _ => bf (fun h1 => ga (bf (fun _ => aD fun h => by cases h) fun h2 => iq (fun h3 => iq (fun h4 => aD fun h5 => ?_) fun _ => aD fun h => by cases h) fun _ => aD fun h => by cases h)) fun _ => aD fun h => by cases h
  simp only [Bool.and_true, Bool.and_eq_true, beq_iff_eq] at h1 h2 h5
  have e3 : mg = [] := List.length_eq_zero_iff.1 (by simpa using h3)
  have e4 : s = [] := List.length_eq_zero_iff.1 (by simpa using h4)
  obtain ⟨rfl, rfl⟩ := h1
  subst h2 e3 e4 h5
  rfl
theorem yX {a : Int × Int} : (R.gd a).sat (fun r => r = true → a.1 = 0 → -9007199254740991 ≤ a.2 ∧ a.2 ≤ 9007199254740991) := by
  unfold R.gd
  refine aG fun _ => iq (fun h => ko (fun h1 => aD fun h2 _ => ⟨h1, of_decide_eq_true h2⟩) fun _ => aD fun h => by cases h) fun h => ?_
  refine aV (R := fun _ => True) (by repeat' (first | with_reducible (first | refine aD ?_ | refine aG fun _ => ?_ | refine ga ?_ | refine ky (fun _ => ?_) fun _ => ?_ | refine ko (fun _ => ?_) fun _ => ?_ | refine iq (fun _ => ?_) fun _ => ?_ | refine aZ rfl ?_ | refine aJ rfl ?_ | refine bf (fun _ => ?_) fun _ => ?_ | refine ld ?_ | refine mY ?_ | refine kc ?_ | refine q_e ?_ | refine q_p fun _ _ => ?_ | refine q_b fun _ => ?_ | refine cT ?_ ?_ fun _ _ _ => ?_ | refine fJ ?_ ?_ fun _ _ _ => ?_ | refine ik ?_| refine kF ?_ ?_ | refine lL ?_ ?_ | refine lh ?_ ?_ | refine n_d ?_ ?_ | refine jy (fun _ => ?_) fun _ => ?_ | exact safe | refine aY ?_) | exact trivial | dsimp only [Nx, Dn] | with_reducible (first | rfl | refine And.intro ?_ ?_ | intro _ | contradiction) | omega | refine cd (by decide) ?_ | (simp (disch := omega) only [wrap64, fP, fK, List.length_append, List.length_cons, List.length_nil, List.length_take, List.length_drop, List.length_set, List.length_replicate, List.length_reverse] <;> omega) | (simp (disch := omega) only [wrap64, fP, fK, List.length_append, List.length_cons, List.length_nil, List.length_take, List.length_drop, List.length_set, List.length_replicate, List.length_reverse] at * <;> omega) | exact Int.tmod_nonneg _ (by omega) | (simp_all [ei, fo, dq, fC] <;> omega))) fun _ _ => bf (fun _ => aD fun _ h0 => absurd h0 h) fun _ => aD fun _ h0 => absurd h0 h
theorem rU {a : iB} : (R.fL a).sat (fun r => r = true → qc a) := by
  obtain ⟨k, n, b, s, ref⟩ := a
  unfold R.fL
  refine aG fun _ => aV (R := fun c => c = true → k = 0 ∨ k = 1) (iq (fun h => aD fun _ => .inl h) fun _ => aD fun h => .inr (eq_of_beq h)) fun c hc => bf (fun h => ?_) fun _ => ?_
  · refine aV kq fun r hr => aD fun h2 => ?_
    have e : (k, n, b, s, ref) = (k, vz.2) := hr h2
    cases e
    rcases hc h with rfl | rfl
    · exact .und
    · exact .null
  refine iq (fun h => ?_) fun _ => iq (fun h => ?_) fun _ => iq (fun h => ?_) fun _ => iq (fun h => ?_) fun _ => iq (fun h => ?_) fun _ => aD fun h => by cases h
  · refine aV kq fun r hr => bf (fun h1 => ?_) fun _ => aD fun h => by cases h
    have e : (k, n, b, s, (0 : Int)) = (k, vz.2) := hr h1
    cases e
    subst h
    exact iq (fun h => aD fun _ => .wz _ (.inl h)) fun _ => aD fun h => .wz _ (.inr (eq_of_beq h))
  · refine aV kq fun r hr => bf (fun h1 => ?_) fun _ => aD fun h => by cases h
    have e : (k, ((0 : Int), (0 : Int)), b, s, ref) = (k, vz.2) := hr h1
    cases e
    subst h
    exact aV yX fun r hr => aD fun h2 => .num n (hr h2)
  · refine aV kq fun r hr => bf (fun h1 => ?_) fun _ => aD fun h => by cases h
    have e : (k, n, ((false, []) : Bool × List Int), s, ref) = (k, vz.2) := hr h1
    cases e
    subst h
    exact Aj (P := fun _ => True) safe fun c hc _ => aD fun h2 => .big b (by rw [hc, h2])
  · refine aV kq fun r hr => bf (fun h1 => ?_) fun _ => aD fun h => by cases h
    have e : (k, n, b, ([] : List Int), ref) = (k, vz.2) := hr h1
    cases e
    subst h
    exact aD fun h2 => .str s (by have h3 : (List.length s : Int) ≤ 4096 := of_decide_eq_true h2; omega)
  · refine aV kq fun r hr => bf (fun h1 => ?_) fun _ => aD fun h => by cases h
    have e : (k, n, b, s, (0 : Int)) = (k, vz.2) := hr h1
    cases e
    subst h
    exact aD fun h2 => .obj ref (of_decide_eq_true h2)
inductive js : jL → iB → Prop
  | null : js (36, ([], ([], ((0, 0), ((false, []), []))))) (1, vz.2)
  | tru : js (34, ([], ([], ((0, 0), ((false, []), []))))) (2, ((0, 0), ((false, []), ([], 1))))
  | fls : js (35, ([], ([], ((0, 0), ((false, []), []))))) (2, ((0, 0), ((false, []), ([], 0))))
  | num (n : Int) : 0 ≤ n → n ≤ 9007199254740991 → js (30, ([], ([], ((0, n), ((false, []), []))))) (vnum n)
  | big (m : List Int) : (R.gZ (false, m)).strip = some true → js (31, ([], ([], ((0, 0), ((false, m), []))))) (vbig m)
  | str (s : List Int) : s.length ≤ 4096 → js (32, ([], (s, ((0, 0), ((false, []), []))))) (vstr s)
theorem vT {b : List Int} (h : b.length ≤ 4096) : (R.cJ b).sat (· = vstr b) := by
  unfold R.cJ
  refine aG fun _ => ?_
  rw [fP, show min (List.length b : Int) 4096 = List.length b by omega]
  refine ik (kF (by omega) (kF (by omega) (aY (aD (aG fun _ => aD ?_)))))
  rw [Int.toNat_natCast, List.drop_zero, List.take_length]
theorem Ag {x : jL} {a : iB} (h : js x a) (G : bJ) (r : aM.den) (i : Int) (e : ai.den) (h0 : decide (0 ≤ i) = true) (hx : r.1[i.toNat]? = some x) : (R.eval_run_value G r i e).sat (· = ((a, 0), r)) := by
  unfold R.eval_run_value
  have hi : i.toNat < List.length r.1 := (List.getElem?_eq_some_iff.1 hx).1
  refine aG fun _ => fJ (of_decide_eq_true h0) hi fun y hy _ => ?_
  rw [hx] at hy
  cases hy
  cases h with
  | null => exact et (by kernel_rfl)
  | tru => exact et (by kernel_rfl)
  | fls => exact et (by kernel_rfl)
  | num n h0 h1 => exact et (by kernel_rfl)
  | big m hm => exact et (by kernel_rfl)
  | str s hs => exact aJ rfl (aJ rfl (aZ rfl (aQ (vT hs) (aG fun _ => aD rfl))))
theorem sI {x : jL} {a : iB} (h : js x a) : (R.cf x).sat (· = true) := by
  cases h with
  | null => exact et (by kernel_rfl)
  | tru => exact et (by kernel_rfl)
  | fls => exact et (by kernel_rfl)
  | num n h0 h1 =>
    unfold R.cf
    refine aG fun _ => aQ (a := false) (et (by kernel_rfl)) (aJ rfl (aQ (a := false) (et (by kernel_rfl)) (aJ rfl (aZ rfl (aZ rfl (aZ rfl (aQ (a := true) ?_ (aZ rfl (aD (decide_eq_true h0))))))))))
    unfold R.gd
    exact aG fun _ => aZ rfl (aZ (decide_eq_true (by show (-9007199254740991 : Int) ≤ n; omega)) (aD (decide_eq_true h1)))
  | big m hm =>
    unfold R.cf
    exact aG fun _ => aQ (a := false) (et (by kernel_rfl)) (aJ rfl (aQ (a := false) (et (by kernel_rfl)) (aJ rfl (aJ rfl (aZ rfl (aZ rfl (aQ (db hm rfl) (aZ rfl (aD rfl)))))))))
  | str s hs =>
    unfold R.cf
    exact aG fun _ => aQ (a := false) (et (by kernel_rfl)) (aJ rfl (aQ (a := true) (et (by kernel_rfl)) (aZ rfl (aZ rfl (aD (decide_eq_true (by show (List.length s : Int) ≤ 4096; omega)))))))
theorem qd {x : jL} {a : iB} (h : js x a) : (R.fL a).sat (· = true) := by
  cases h with
  | null => exact et (by kernel_rfl)
  | tru => exact et (by kernel_rfl)
  | fls => exact et (by kernel_rfl)
  | num n h0 h1 =>
    unfold R.fL
    refine aG fun _ => aQ (a := false) (et (by kernel_rfl)) (aJ rfl (aJ rfl (aZ rfl (aQ (a := true) (et (by kernel_rfl)) (aZ rfl (aQ (a := true) ?_ (aD rfl)))))))
    unfold R.gd
    exact aG fun _ => aZ rfl (aZ (decide_eq_true (by show (-9007199254740991 : Int) ≤ n; omega)) (aD (decide_eq_true h1)))
  | big m hm =>
    unfold R.fL
    exact aG fun _ => aQ (a := false) (et (by kernel_rfl)) (aJ rfl (aJ rfl (aJ rfl (aZ rfl (aQ (a := true) (et (by kernel_rfl)) (aZ rfl (aQ (db hm rfl) (aD rfl))))))))
  | str s hs =>
    unfold R.fL
    exact aG fun _ => aQ (a := false) (et (by kernel_rfl)) (aJ rfl (aJ rfl (aJ rfl (aJ rfl (aZ rfl (aQ (a := true) (et (by kernel_rfl)) (aZ rfl (aD (decide_eq_true (by show (List.length s : Int) ≤ 4096; omega))))))))))
theorem wo {a : List Int} : (R.eC a a).sat (· = true) := by
  unfold R.eC
  refine aG fun h => ?_
  simp only [Sg.i, oks, Sh.ok, Ty.ok, List.map, Par.v, Bool.and_eq_true] at h
  have := lI h.1
  refine ga (iq (fun _ => ?_) fun h => absurd rfl h)
  refine aV (qp (Q := fun x : Unit ⊕ Bool => x = .inl ()) (fun i => i) a.length (by omega) (fun _ => True) (by omega) (by omega) trivial fun i h0 h1 _ => ky (fun hi => cT h0 (by omega) fun e he _ => cT h0 (by omega) fun e' he' _ => ?_) fun _ => aD rfl) fun x hx => ?_
  · rw [he] at he'; cases he'
    exact ga (aZ (by simp) (aD ⟨rfl, hi, trivial⟩))
  · subst hx
    exact aD rfl
end Go.Mach
set_option maxRecDepth 1000000
namespace Go.Mach
open Res
noncomputable def vj (t : List jL) : Bool :=
  decide (t.length ≤ 4096) && ((R.gl t).strip == some true && ((List.range t.length).all (fun n => (R.gu t n).strip == some true) && match ((R.gG t).bind R.cn).strip with
    | some m => ile m 48
    | none => false))
theorem yM {e0 : jL} {rest : List jL} (hb : vj (e0 :: rest) = true) (hk0 : e0.1 = 1) (h1 : ∀ e ∈ rest, e.1 ≠ 1) (hf : ∀ e ∈ e0 :: rest, (R.cf e).sat (· = true)) : (R.fa (e0 :: rest)).sat (· = true) := by
  simp only [vj, Bool.and_eq_true, decide_eq_true_eq, beq_iff_eq, List.all_eq_true, List.mem_range] at hb
  obtain ⟨b1, b2, b3, b4⟩ := hb
  refine vX (e0 := e0) b1 rfl hk0 (db b2 rfl) (fun n e hn he => ?_) (fun n e he => hf e (List.mem_of_getElem? he)) (fun n hn => db (b3 n hn) rfl) ?_
  · obtain ⟨m, rfl⟩ : ∃ m, n = m + 1 := ⟨n - 1, by omega⟩
    exact h1 e (List.mem_of_getElem? (by simpa using he))
  · rw [← uT]
    split at b4
    · rename_i m hm
      exact db hm (of_decide_eq_true b4)
    · cases b4
noncomputable def xG (t : List jL) : Bool := match (R.eH t).strip with
  | some up => (List.range t.length).all fun n => (R.gC t up n).strip == some false
  | none => false
theorem wm {t : List jL} (hl : t.length ≤ 4096) (hm : (R.fa t).sat (· = true)) (hb : xG t = true) : (R.dd t).sat (· = (0, 0)) := by
  unfold xG at hb
  split at hb
  · rename_i up hup
    simp only [List.all_eq_true, List.mem_range, beq_iff_eq] at hb
    exact rn hl hm (db hup rfl) fun n hn => db (hb n hn) rfl
  · cases hb
abbrev nd (k : Int) (name : List UInt8) (kids : List Int) : jL := (k, (name, ([], ((0, 0), ((false, []), kids)))))
abbrev tD : da.den := (0, (0, (0, (0, (0, (false, (false, (0, (0, ((0, 0), ([], 0)))))))))))
theorem yP {t : List jL} {Q : da.den × fQ.den → Prop} (hc : (R.dd t).sat (· = (0, 0))) (hr : (R.ba t (20, (20, 50)) []).sat Q) : (R.fe t (20, (20, 50)) []).sat Q := by
  unfold R.fe
  exact aG fun _ => aQ hc (aG fun _ => aQ (a := false) (et (by kernel_rfl)) (aJ rfl (aV hr fun x hx => aG fun _ => aD hx)))
theorem zC {x : jL} {a : iB} (h : js x a) : x.1 ≠ 1 := by cases h <;> simp
theorem lf {x : jL} {a : iB} (h : js x a) {n : Nat} {r : aM.den} {i : Int} {e : ai.den} {β : Type} {Q : β → Prop} {k : (iB × Int) × aM.den → Res β} (h0 : decide (0 ≤ i) = true) (hx : r.1[i.toNat]? = some x) (hk : (k ((a, 0), r)).sat Q) : (((bz (n + 1)).eval_run_value r i e).bind k).sat Q := aQ (Ag h (bz n) r i e h0 hx) hk
end Go.Mach
set_option maxRecDepth 1000000
namespace Go.Mach
open Res
theorem xv {a : iB} (h : qc a) : (R.bW a).sat (fun r => r.2 = true → js r.1 a) := by
  unfold R.bW
  refine aG fun _ => ?_
  cases h with
  | und => exact aJ rfl (aJ rfl (aJ rfl (aJ rfl (aJ rfl (aD fun h => by cases h)))))
  | null => exact aZ rfl (aD fun _ => .null)
  | wz b hb =>
    rcases hb with rfl | rfl
    · exact aJ rfl (aZ rfl (aD fun _ => .fls))
    · exact aJ rfl (aZ rfl (aD fun _ => .tru))
  | num n hn =>
    obtain ⟨n1, n2⟩ := n
    refine aJ rfl (aJ rfl (aZ rfl (iq (fun h0 => aD fun h1 => ?_) fun _ => aD fun h => by cases h)))
    have h0 : n1 = 0 := h0
    subst h0
    exact .num n2 (of_decide_eq_true h1) (hn rfl).2
  | big b hb =>
    obtain ⟨ng, m⟩ := b
    refine aJ rfl (aJ rfl (aJ rfl (aZ rfl (aD fun h1 => ?_))))
    have h1 : ng = false := by simpa using h1
    subst h1
    exact .big m hb
  | str s hs => exact aJ rfl (aJ rfl (aJ rfl (aJ rfl (aZ rfl (aD fun _ => .str s hs)))))
  | obj r hr => exact aJ rfl (aJ rfl (aJ rfl (aJ rfl (aJ rfl (aD fun h => by cases h)))))
end Go.Mach
set_option maxRecDepth 100000
namespace Go.Mach
open Res
instance Ay {a} : iL (R.cE a) (fun r => r.1 ≠ 6) := by
  unfold R.cE
  refine ⟨?_⟩
  repeat' (first | with_reducible (first | refine aD ?_ | refine aG fun _ => ?_ | refine ga ?_ | refine ky (fun _ => ?_) fun _ => ?_ | refine ko (fun _ => ?_) fun _ => ?_ | refine iq (fun _ => ?_) fun _ => ?_ | refine aZ rfl ?_ | refine aJ rfl ?_ | refine bf (fun _ => ?_) fun _ => ?_ | refine ld ?_ | refine mY ?_ | refine kc ?_ | refine q_e ?_ | refine q_p fun _ _ => ?_ | refine q_b fun _ => ?_ | refine cT ?_ ?_ fun _ _ _ => ?_ | refine fJ ?_ ?_ fun _ _ _ => ?_ | refine ik ?_ | refine kF ?_ ?_ | refine lL ?_ ?_ | refine lh ?_ ?_ | refine n_d ?_ ?_ | refine jy (fun _ => ?_) fun _ => ?_ | exact safe | refine aY ?_) | exact trivial | dsimp only [Nx, Dn] | with_reducible (first | rfl | refine And.intro ?_ ?_ | intro _ | contradiction) | omega | refine cd (by decide) ?_ | (simp (disch := omega) only [wrap64, fP, fK, List.length_append, List.length_cons, List.length_nil] <;> omega) | (simp_all [ei, fo, dq, fC] <;> omega))
instance A0 {a} : iL (R.eT a) (fun r => r.1 ≠ 6) := by
  unfold R.eT
  refine ⟨?_⟩
  repeat' (first | with_reducible (first | refine aD ?_ | refine aG fun _ => ?_ | refine ga ?_ | refine ky (fun _ => ?_) fun _ => ?_ | refine ko (fun _ => ?_) fun _ => ?_ | refine iq (fun _ => ?_) fun _ => ?_ | refine aZ rfl ?_ | refine aJ rfl ?_ | refine bf (fun _ => ?_) fun _ => ?_ | refine ld ?_ | refine mY ?_ | refine kc ?_ | refine q_e ?_ | refine q_p fun _ _ => ?_ | refine q_b fun _ => ?_ | refine cT ?_ ?_ fun _ _ _ => ?_ | refine fJ ?_ ?_ fun _ _ _ => ?_ | refine ik ?_ | refine kF ?_ ?_ | refine lL ?_ ?_ | refine lh ?_ ?_ | refine n_d ?_ ?_ | refine jy (fun _ => ?_) fun _ => ?_ | exact safe | refine aY ?_) | exact trivial | dsimp only [Nx, Dn] | with_reducible (first | rfl | refine And.intro ?_ ?_ | intro _ | contradiction) | omega | refine cd (by decide) ?_ | (simp (disch := omega) only [wrap64, fP, fK, List.length_append, List.length_cons, List.length_nil] <;> omega) | (simp_all [ei, fo, dq, fC] <;> omega))
instance A6 {a} : iL (R.cJ a) (fun r => r.1 ≠ 6) := by
  unfold R.cJ
  refine ⟨?_⟩
  repeat' (first | with_reducible (first | refine aD ?_ | refine aG fun _ => ?_ | refine ga ?_ | refine ky (fun _ => ?_) fun _ => ?_ | refine ko (fun _ => ?_) fun _ => ?_ | refine iq (fun _ => ?_) fun _ => ?_ | refine aZ rfl ?_ | refine aJ rfl ?_ | refine bf (fun _ => ?_) fun _ => ?_ | refine ld ?_ | refine mY ?_ | refine kc ?_ | refine q_e ?_ | refine q_p fun _ _ => ?_ | refine q_b fun _ => ?_ | refine cT ?_ ?_ fun _ _ _ => ?_ | refine fJ ?_ ?_ fun _ _ _ => ?_ | refine ik ?_ | refine kF ?_ ?_ | refine lL ?_ ?_ | refine lh ?_ ?_ | refine n_d ?_ ?_ | refine jy (fun _ => ?_) fun _ => ?_ | exact safe | refine aY ?_) | exact trivial | dsimp only [Nx, Dn] | with_reducible (first | rfl | refine And.intro ?_ ?_ | intro _ | contradiction) | omega | refine cd (by decide) ?_ | (simp (disch := omega) only [wrap64, fP, fK, List.length_append, List.length_cons, List.length_nil] <;> omega) | (simp_all [ei, fo, dq, fC] <;> omega))
instance zr {a} : iL (R.az a) (fun r => r.1 ≠ 6) := by
  unfold R.az
  refine ⟨?_⟩
  repeat' (first | with_reducible (first | refine aD ?_ | refine aG fun _ => ?_ | refine ga ?_ | refine ky (fun _ => ?_) fun _ => ?_ | refine ko (fun _ => ?_) fun _ => ?_ | refine iq (fun _ => ?_) fun _ => ?_ | refine aZ rfl ?_ | refine aJ rfl ?_ | refine bf (fun _ => ?_) fun _ => ?_ | refine ld ?_ | refine mY ?_ | refine kc ?_ | refine q_e ?_ | refine q_p fun _ _ => ?_ | refine q_b fun _ => ?_ | refine cT ?_ ?_ fun _ _ _ => ?_ | refine fJ ?_ ?_ fun _ _ _ => ?_ | refine ik ?_ | refine kF ?_ ?_ | refine lL ?_ ?_ | refine lh ?_ ?_ | refine n_d ?_ ?_ | refine jy (fun _ => ?_) fun _ => ?_ | exact safe | refine aY ?_) | exact trivial | dsimp only [Nx, Dn] | with_reducible (first | rfl | refine And.intro ?_ ?_ | intro _ | contradiction) | omega | refine cd (by decide) ?_ | (simp (disch := omega) only [wrap64, fP, fK, List.length_append, List.length_cons, List.length_nil] <;> omega) | (simp_all [ei, fo, dq, fC] <;> omega))
instance yz {a} : iL (R.cA a) (fun r => 0 ≤ r.2 ∧ r.2 ≤ 5) := by
  unfold R.cA
  refine ⟨?_⟩
  repeat' (first | with_reducible (first | refine aD ?_ | refine aG fun _ => ?_ | refine ga ?_ | refine ky (fun _ => ?_) fun _ => ?_ | refine ko (fun _ => ?_) fun _ => ?_ | refine iq (fun _ => ?_) fun _ => ?_ | refine aZ rfl ?_ | refine aJ rfl ?_ | refine bf (fun _ => ?_) fun _ => ?_ | refine ld ?_ | refine mY ?_ | refine kc ?_ | refine q_e ?_ | refine q_p fun _ _ => ?_ | refine q_b fun _ => ?_ | refine cT ?_ ?_ fun _ _ _ => ?_ | refine fJ ?_ ?_ fun _ _ _ => ?_ | refine ik ?_ | refine kF ?_ ?_ | refine lL ?_ ?_ | refine lh ?_ ?_ | refine n_d ?_ ?_ | refine jy (fun _ => ?_) fun _ => ?_ | exact safe | refine aY ?_) | exact trivial | dsimp only [Nx, Dn] | with_reducible (first | rfl | refine And.intro ?_ ?_ | intro _ | contradiction) | omega | refine cd (by decide) ?_ | (simp (disch := omega) only [wrap64, fP, fK, List.length_append, List.length_cons, List.length_nil] <;> omega) | (simp_all [ei, fo, dq, fC] <;> omega))
instance yc {a} : iL (R.cH a) (fun r => (0 ≤ r.2 ∧ r.2 ≤ 5) ∧ r.1.1 ≠ 6) := by
  unfold R.cH
  refine ⟨?_⟩
  repeat' (first | with_reducible (first | refine aD ?_ | refine aG fun _ => ?_ | refine ga ?_ | refine ky (fun _ => ?_) fun _ => ?_ | refine ko (fun _ => ?_) fun _ => ?_ | refine iq (fun _ => ?_) fun _ => ?_ | refine aZ rfl ?_ | refine aJ rfl ?_ | refine bf (fun _ => ?_) fun _ => ?_ | refine ld ?_ | refine mY ?_ | refine kc ?_ | refine q_e ?_ | refine q_p fun _ _ => ?_ | refine q_b fun _ => ?_ | refine cT ?_ ?_ fun _ _ _ => ?_ | refine fJ ?_ ?_ fun _ _ _ => ?_ | refine ik ?_ | refine kF ?_ ?_ | refine lL ?_ ?_ | refine lh ?_ ?_ | refine n_d ?_ ?_ | refine jy (fun _ => ?_) fun _ => ?_ | exact safe | refine aY ?_) | exact trivial | dsimp only [Nx, Dn] | with_reducible (first | rfl | refine And.intro ?_ ?_ | intro _ | contradiction) | omega | refine cd (by decide) ?_ | (simp (disch := omega) only [wrap64, fP, fK, List.length_append, List.length_cons, List.length_nil] <;> omega) | (simp_all [ei, fo, dq, fC] <;> omega))
instance yC {a b} : iL (R.cG a b) (fun r => (0 ≤ r.2 ∧ r.2 ≤ 5) ∧ r.1.1 ≠ 6) := by
  unfold R.cG
  refine ⟨?_⟩
  repeat' (first | with_reducible (first | refine aD ?_ | refine aG fun _ => ?_ | refine ga ?_ | refine ky (fun _ => ?_) fun _ => ?_ | refine ko (fun _ => ?_) fun _ => ?_ | refine iq (fun _ => ?_) fun _ => ?_ | refine aZ rfl ?_ | refine aJ rfl ?_ | refine bf (fun _ => ?_) fun _ => ?_ | refine ld ?_ | refine mY ?_ | refine kc ?_ | refine q_e ?_ | refine q_p fun _ _ => ?_ | refine q_b fun _ => ?_ | refine cT ?_ ?_ fun _ _ _ => ?_ | refine fJ ?_ ?_ fun _ _ _ => ?_ | refine ik ?_ | refine kF ?_ ?_ | refine lL ?_ ?_ | refine lh ?_ ?_ | refine n_d ?_ ?_ | refine jy (fun _ => ?_) fun _ => ?_ | exact safe | refine aY ?_) | exact trivial | dsimp only [Nx, Dn] | with_reducible (first | rfl | refine And.intro ?_ ?_ | intro _ | contradiction) | omega | refine cd (by decide) ?_ | (simp (disch := omega) only [wrap64, fP, fK, List.length_append, List.length_cons, List.length_nil] <;> omega) | (simp_all [ei, fo, dq, fC] <;> omega))
instance zB {a b} : iL (R.eD a b) (fun r => (0 ≤ r.2 ∧ r.2 ≤ 5) ∧ r.1.1 ≠ 6) := by
  unfold R.eD
  refine ⟨?_⟩
  repeat' (first | with_reducible (first | refine aD ?_ | refine aG fun _ => ?_ | refine ga ?_ | refine ky (fun _ => ?_) fun _ => ?_ | refine ko (fun _ => ?_) fun _ => ?_ | refine iq (fun _ => ?_) fun _ => ?_ | refine aZ rfl ?_ | refine aJ rfl ?_ | refine bf (fun _ => ?_) fun _ => ?_ | refine ld ?_ | refine mY ?_ | refine kc ?_ | refine q_e ?_ | refine q_p fun _ _ => ?_ | refine q_b fun _ => ?_ | refine cT ?_ ?_ fun _ _ _ => ?_ | refine fJ ?_ ?_ fun _ _ _ => ?_ | refine ik ?_ | refine kF ?_ ?_ | refine lL ?_ ?_ | refine lh ?_ ?_ | refine n_d ?_ ?_ | refine jy (fun _ => ?_) fun _ => ?_ | exact safe | refine aY ?_) | exact trivial | dsimp only [Nx, Dn] | with_reducible (first | rfl | refine And.intro ?_ ?_ | intro _ | contradiction) | omega | refine cd (by decide) ?_ | (simp (disch := omega) only [wrap64, fP, fK, List.length_append, List.length_cons, List.length_nil] <;> omega) | (simp_all [ei, fo, dq, fC] <;> omega))
theorem o0 {a} : (R.bg a).sat (fun r => r.1.length ≤ 2 ^ 40 ∧ 0 ≤ r.2 ∧ r.2 ≤ 5) := by
  unfold R.bg
  have tx : ∀ {l : List UInt8} {Q : List Int → Prop}, l.length ≤ 2 ^ 40 → (∀ r : List Int, r.length ≤ 2 ^ 40 → Q r) → (R.aq l).sat Q := fun hl hQ => jU (gH hl) fun r hr => hQ r (by rw [hr]; exact hl)
  refine aG fun _ => q_p fun c hc => aG fun _ => ?_
  have e : ∀ r : List Int, r.length ≤ 2 ^ 40 → (given (aq.g.o r) (Res.ok ((r, (0 : Int))))).sat (fun r : List Int × Int => r.1.length ≤ 2 ^ 40 ∧ 0 ≤ r.2 ∧ r.2 ≤ 5) := fun r hr => aG fun _ => aD ⟨hr, Int.le_refl _, (by decide : (0 : Int) ≤ 5)⟩
  refine bf (fun _ => aY (tx (by decide) e)) fun _ => bf (fun _ => aY (tx (by decide) e)) fun _ => bf (fun _ => bf (fun _ => aY (tx (by decide) e)) fun _ => aY (tx (by decide) e)) fun _ => bf (fun _ => q_p fun t ht => aG fun _ => aY (tx ht e)) fun _ => bf (fun _ => q_p fun t ht => aG fun _ => aY (tx ht e)) fun _ => bf (fun _ => aQ (a := c.2.2.2.1) rfl (aG fun _ => aD ⟨by have := hc.2; show c.2.2.2.1.length ≤ 2 ^ 40; omega, Int.le_refl _, (by decide : (0 : Int) ≤ 5)⟩)) fun _ => aD ⟨by decide, by decide, by decide⟩
instance Al {a b} : iL (R.iH a b) (fun r => (0 ≤ r.2 ∧ r.2 ≤ 5) ∧ r.1.1 ≠ 6) := by
  unfold R.iH
  refine ⟨aG fun _ => aV o0 fun x hx => aG fun _ => bf (fun _ => aD ⟨hx.2, (by decide : (0 : Int) ≠ 6)⟩) fun _ => aV o0 fun y hy => aG fun _ => bf (fun _ => aD ⟨hy.2, (by decide : (0 : Int) ≠ 6)⟩) fun _ => bf (fun _ => aD ⟨by decide, by decide⟩) fun _ => ?_⟩
  have h1 := hx.1
  have h2 := hy.1
  exact cd (decide_eq_true (by omega)) (q_p fun r hr => aG fun _ => aD ⟨⟨Int.le_refl _, (by decide : (0 : Int) ≤ 5)⟩, hr⟩)
instance yK {a b} : iL (R.dG a b) (fun r => (0 ≤ r.2.2 ∧ r.2.2 ≤ 5) ∧ r.1.1 ≠ 6 ∧ r.2.1.1 ≠ 6) := by
  unfold R.dG
  refine ⟨?_⟩
  repeat' (first | with_reducible (first | refine aD ?_ | refine aG fun _ => ?_ | refine ga ?_ | refine ky (fun _ => ?_) fun _ => ?_ | refine ko (fun _ => ?_) fun _ => ?_ | refine iq (fun _ => ?_) fun _ => ?_ | refine aZ rfl ?_ | refine aJ rfl ?_ | refine bf (fun _ => ?_) fun _ => ?_ | refine ld ?_ | refine mY ?_ | refine kc ?_ | refine q_e ?_ | refine q_p fun _ _ => ?_ | refine q_b fun _ => ?_ | refine cT ?_ ?_ fun _ _ _ => ?_ | refine fJ ?_ ?_ fun _ _ _ => ?_ | refine ik ?_ | refine kF ?_ ?_ | refine lL ?_ ?_ | refine lh ?_ ?_ | refine n_d ?_ ?_ | refine jy (fun _ => ?_) fun _ => ?_ | exact safe | refine aY ?_) | exact trivial | dsimp only [Nx, Dn] | with_reducible (first | rfl | refine And.intro ?_ ?_ | intro _ | contradiction) | omega | refine cd (by decide) ?_ | (simp (disch := omega) only [wrap64, fP, fK, List.length_append, List.length_cons, List.length_nil] <;> omega) | (simp_all [ei, fo, dq, fC] <;> omega))
instance AD {o a b} : iL (R.iG o a b) (fun r => (0 ≤ r.2 ∧ r.2 ≤ 5) ∧ r.1.1 ≠ 6) := by
  unfold R.iG
  refine ⟨?_⟩
  repeat' (first | with_reducible (first | refine aD ?_ | refine aG fun _ => ?_ | refine ga ?_ | refine ky (fun _ => ?_) fun _ => ?_ | refine ko (fun _ => ?_) fun _ => ?_ | refine iq (fun _ => ?_) fun _ => ?_ | refine aZ rfl ?_ | refine aJ rfl ?_ | refine bf (fun _ => ?_) fun _ => ?_ | refine ld ?_ | refine mY ?_ | refine kc ?_ | refine q_e ?_ | refine q_p fun _ _ => ?_ | refine q_b fun _ => ?_ | refine cT ?_ ?_ fun _ _ _ => ?_ | refine fJ ?_ ?_ fun _ _ _ => ?_ | refine ik ?_ | refine kF ?_ ?_ | refine lL ?_ ?_ | refine lh ?_ ?_ | refine n_d ?_ ?_ | refine jy (fun _ => ?_) fun _ => ?_ | exact safe | refine aY ?_) | exact trivial | dsimp only [Nx, Dn] | with_reducible (first | rfl | refine And.intro ?_ ?_ | intro _ | contradiction) | omega | refine cd (by decide) ?_ | (simp (disch := omega) only [wrap64, fP, fK, List.length_append, List.length_cons, List.length_nil] <;> omega) | (simp_all [ei, fo, dq, fC] <;> omega))
instance AW {o a b} : iL (R.gX o a b) (fun r => (0 ≤ r.2 ∧ r.2 ≤ 5) ∧ r.1.1 ≠ 6) := by
  unfold R.gX
  refine ⟨?_⟩
  repeat' (first | with_reducible (first | refine aD ?_ | refine aG fun _ => ?_ | refine ga ?_ | refine ky (fun _ => ?_) fun _ => ?_ | refine ko (fun _ => ?_) fun _ => ?_ | refine iq (fun _ => ?_) fun _ => ?_ | refine aZ rfl ?_ | refine aJ rfl ?_ | refine bf (fun _ => ?_) fun _ => ?_ | refine ld ?_ | refine mY ?_ | refine kc ?_ | refine q_e ?_ | refine q_p fun _ _ => ?_ | refine q_b fun _ => ?_ | refine cT ?_ ?_ fun _ _ _ => ?_ | refine fJ ?_ ?_ fun _ _ _ => ?_ | refine ik ?_ | refine kF ?_ ?_ | refine lL ?_ ?_ | refine lh ?_ ?_ | refine n_d ?_ ?_ | refine jy (fun _ => ?_) fun _ => ?_ | exact safe | refine aY ?_) | exact trivial | dsimp only [Nx, Dn] | with_reducible (first | rfl | refine And.intro ?_ ?_ | intro _ | contradiction) | omega | refine cd (by decide) ?_ | (simp (disch := omega) only [wrap64, fP, fK, List.length_append, List.length_cons, List.length_nil] <;> omega) | (simp_all [ei, fo, dq, fC] <;> omega))
instance Au {o a b} : iL (R.iK o a b) (fun r => (0 ≤ r.2 ∧ r.2 ≤ 5) ∧ r.1.1 ≠ 6) := by
  unfold R.iK
  refine ⟨?_⟩
  repeat' (first | with_reducible (first | refine aD ?_ | refine aG fun _ => ?_ | refine ga ?_ | refine ky (fun _ => ?_) fun _ => ?_ | refine ko (fun _ => ?_) fun _ => ?_ | refine iq (fun _ => ?_) fun _ => ?_ | refine aZ rfl ?_ | refine aJ rfl ?_ | refine bf (fun _ => ?_) fun _ => ?_ | refine ld ?_ | refine mY ?_ | refine kc ?_ | refine q_e ?_ | refine q_p fun _ _ => ?_ | refine q_b fun _ => ?_ | refine cT ?_ ?_ fun _ _ _ => ?_ | refine fJ ?_ ?_ fun _ _ _ => ?_ | refine ik ?_ | refine kF ?_ ?_ | refine lL ?_ ?_ | refine lh ?_ ?_ | refine n_d ?_ ?_ | refine jy (fun _ => ?_) fun _ => ?_ | exact safe | refine aY ?_) | exact trivial | dsimp only [Nx, Dn] | with_reducible (first | rfl | refine And.intro ?_ ?_ | intro _ | contradiction) | omega | refine cd (by decide) ?_ | (simp (disch := omega) only [wrap64, fP, fK, List.length_append, List.length_cons, List.length_nil] <;> omega) | (simp_all [ei, fo, dq, fC] <;> omega))
instance AG {a b t n} : iL (R.fA a b t n) (fun r => (0 ≤ r.2 ∧ r.2 ≤ 5) ∧ r.1.1 ≠ 6) := by
  unfold R.fA
  refine ⟨?_⟩
  repeat' (first | with_reducible (first | refine aD ?_ | refine aG fun _ => ?_ | refine ga ?_ | refine ky (fun _ => ?_) fun _ => ?_ | refine ko (fun _ => ?_) fun _ => ?_ | refine iq (fun _ => ?_) fun _ => ?_ | refine aZ rfl ?_ | refine aJ rfl ?_ | refine bf (fun _ => ?_) fun _ => ?_ | refine ld ?_ | refine mY ?_ | refine kc ?_ | refine q_e ?_ | refine q_p fun _ _ => ?_ | refine q_b fun _ => ?_ | refine cT ?_ ?_ fun _ _ _ => ?_ | refine fJ ?_ ?_ fun _ _ _ => ?_ | refine ik ?_ | refine kF ?_ ?_ | refine lL ?_ ?_ | refine lh ?_ ?_ | refine n_d ?_ ?_ | refine jy (fun _ => ?_) fun _ => ?_ | exact safe | refine aY ?_) | exact trivial | dsimp only [Nx, Dn] | with_reducible (first | rfl | refine And.intro ?_ ?_ | intro _ | contradiction) | omega | refine cd (by decide) ?_ | (simp (disch := omega) only [wrap64, fP, fK, List.length_append, List.length_cons, List.length_nil] <;> omega) | (simp_all [ei, fo, dq, fC] <;> omega))
instance zh {a b} : iL (R.gP a b) (fun r => 0 ≤ r.2 ∧ r.2 ≤ 5) := by
  unfold R.gP
  refine ⟨?_⟩
  repeat' (first | with_reducible (first | refine aD ?_ | refine aG fun _ => ?_ | refine ga ?_ | refine ky (fun _ => ?_) fun _ => ?_ | refine ko (fun _ => ?_) fun _ => ?_ | refine iq (fun _ => ?_) fun _ => ?_ | refine aZ rfl ?_ | refine aJ rfl ?_ | refine bf (fun _ => ?_) fun _ => ?_ | refine ld ?_ | refine mY ?_ | refine kc ?_ | refine q_e ?_ | refine q_p fun _ _ => ?_ | refine q_b fun _ => ?_ | refine cT ?_ ?_ fun _ _ _ => ?_ | refine fJ ?_ ?_ fun _ _ _ => ?_ | refine ik ?_ | refine kF ?_ ?_ | refine lL ?_ ?_ | refine lh ?_ ?_ | refine n_d ?_ ?_ | refine jy (fun _ => ?_) fun _ => ?_ | exact safe | refine aY ?_) | exact trivial | dsimp only [Nx, Dn] | with_reducible (first | rfl | refine And.intro ?_ ?_ | intro _ | contradiction) | omega | refine cd (by decide) ?_ | (simp (disch := omega) only [wrap64, fP, fK, List.length_append, List.length_cons, List.length_nil] <;> omega) | (simp_all [ei, fo, dq, fC] <;> omega))
instance yh {o a b} : iL (R.bF o a b) (fun r => (0 ≤ r.2 ∧ r.2 ≤ 5) ∧ r.1.1 ≠ 6) := by
  unfold R.bF
  refine ⟨?_⟩
  repeat' (first | with_reducible (first | refine aD ?_ | refine aG fun _ => ?_ | refine ga ?_ | refine ky (fun _ => ?_) fun _ => ?_ | refine ko (fun _ => ?_) fun _ => ?_ | refine iq (fun _ => ?_) fun _ => ?_ | refine aZ rfl ?_ | refine aJ rfl ?_ | refine bf (fun _ => ?_) fun _ => ?_ | refine ld ?_ | refine mY ?_ | refine kc ?_ | refine q_e ?_ | refine q_p fun _ _ => ?_ | refine q_b fun _ => ?_ | refine cT ?_ ?_ fun _ _ _ => ?_ | refine fJ ?_ ?_ fun _ _ _ => ?_ | refine ik ?_ | refine kF ?_ ?_ | refine lL ?_ ?_ | refine lh ?_ ?_ | refine n_d ?_ ?_ | refine jy (fun _ => ?_) fun _ => ?_ | exact safe | refine aV (R := fun _ => True) ?_ fun _ _ => ?_) | exact trivial | dsimp only [Nx, Dn] | with_reducible (first | rfl | refine And.intro ?_ ?_ | intro _ | contradiction) | omega | refine cd (by decide) ?_ | (simp (disch := omega) only [wrap64, fP, fK, List.length_append, List.length_cons, List.length_nil] <;> omega) | (simp_all [ei, fo, dq, fC] <;> omega))
end Go.Mach
set_option maxRecDepth 1000000
namespace Go.Mach
open Res
theorem w_nof {α β : Type} {Q : β → Prop} {m m' : Res α} {k : α → Res β} (e : m = m') (h : ¬ m'.facts) : (m.bind k).sat Q := e ▸ aY (kR h)
theorem vW {α : Type} {m : Res α} {P : α → Prop} (h : m.sat P) : ¬ m.facts ∨ ∃ u, m.strip = some u ∧ P u := by
  by_cases hf : m.facts
  · obtain ⟨u, h1, h2⟩ := oX h hf
    exact .inr ⟨u, h1, h2⟩
  · exact .inl hf
theorem AH {v : iB} (hv : v.1 ≠ 6) : (R.bg v).sat (fun r => r.2 = 0) := by
  unfold R.bg
  have hc : (R.bH v).sat (fun c => qc c ∧ c.1 ≠ 6) := by
    unfold R.bH
    refine aG fun _ => aV rU fun r hr => bf (fun _ => aD ⟨.und, by simp⟩) fun h => aD ⟨hr ?_, hv⟩
    cases r
    · cases h
    · rfl
  have e : ∀ r : List Int, (given (aq.g.o r) (Res.ok ((r, (0 : Int))))).sat (fun r : List Int × Int => r.2 = 0) := fun r => aG fun _ => aD rfl
  refine aG fun _ => aV hc fun c ⟨hm, h6⟩ => aG fun _ => ?_
  cases hm with
  | und => exact aZ rfl (aV (gH (by decide)) fun r _ => e r)
  | null => exact aJ rfl (aZ rfl (aV (gH (by decide)) fun r _ => e r))
  | wz b hb => exact aJ rfl (aJ rfl (aZ rfl (bf (fun _ => aV (gH (by decide)) fun r _ => e r) fun _ => aV (gH (by decide)) fun r _ => e r)))
  | num n hn => exact aJ rfl (aJ rfl (aJ rfl (aZ rfl (q_p fun t ht => aG fun _ => aV (gH ht) fun r _ => e r))))
  | big b hb => exact aJ rfl (aJ rfl (aJ rfl (aJ rfl (aZ rfl (q_p fun t ht => aG fun _ => aV (gH ht) fun r _ => e r)))))
  | str s hs => exact aJ rfl (aJ rfl (aJ rfl (aJ rfl (aJ rfl (aZ rfl (aQ (a := s) rfl (aG fun _ => aD rfl)))))))
  | obj r hr => exact absurd rfl h6
abbrev asks (l : List Int) : da.den × fQ.den := ((11, (0, (0, (0, (0, (false, (false, (0, (0, ((0, 0), (l, 0))))))))))), (0, []))
abbrev vh (s : Int) : List Int := if s = 1 then [84, 121, 112, 101, 69, 114, 114, 111, 114] else if s = 2 then [82, 97, 110, 103, 101, 69, 114, 114, 111, 114] else if s = 4 then [82, 101, 102, 101, 114, 101, 110, 99, 101, 69, 114, 114, 111, 114] else [83, 121, 110, 116, 97, 120, 69, 114, 114, 111, 114]
inductive Out (v : iB) : Int → da.den × fQ.den → Prop
  | asks (l : List Int) : (R.bg v).strip = some (l, 0) → Out v 0 (asks l)
  | exit (q : da.den) (e : List Int) : Out v 3 (q, (3, e))
  | sZ (q : da.den) (s : Int) : s = 1 ∨ s = 2 ∨ s = 4 ∨ s = 5 → Out v s (q, (2, vh s))
theorem xb {s : Int} (h : 0 ≤ s ∧ s ≤ 5) : s = 0 ∨ s = 1 ∨ s = 2 ∨ s = 3 ∨ s = 4 ∨ s = 5 := by omega
theorem yA {v : iB} {s : Int} {r : da.den × fQ.den} (h : Out v s r) : (R.eB r.1 r.2 v s).sat (· = true) := by
  cases h with
  | asks l hu =>
    unfold R.eB
    exact aG fun _ => aZ rfl (aQ (db hu rfl) (aG fun _ => aZ rfl (aZ rfl (aZ rfl (aQ wo (aD rfl))))))
  | exit q e => exact et (by kernel_rfl)
  | sZ q s hs => rcases hs with rfl | rfl | rfl | rfl <;> exact et (by kernel_rfl)
theorem yx {t : List jL} {P : da.den × fQ.den → Prop} (hm : (R.fa t).sat (· = true)) (hl : t.length ≤ 4096) (hb : xG t = true) (hr : (R.ba t (20, (20, 50)) []).sat P) : (R.fe t (20, (20, 50)) []).sat P := yP (wm hl hm hb) hr
end Go.Mach
set_option maxRecDepth 1000000
namespace Go.Mach
open Res
abbrev bi (op : List UInt8) (x0 x1 : jL) : List jL := [nd 1 [] [1], nd 3 [] [2], nd 50 [] [3, 6], nd 52 [114, 101, 112, 111, 114, 116] [4], nd 52 [97, 103, 101, 110, 116] [5], nd 33 [36, 50, 54, 50] [], nd 46 op [7, 8], x0, x1]
theorem AL {op} {x0 : jL} {a0 : iB} (h0 : js x0 a0) {x1 : jL} {a1 : iB} (h1 : js x1 a1) : vj (bi op x0 x1) = true := by cases h0 <;> cases h1 <;> kernel_rfl
theorem AK {op} {x0 : jL} {a0 : iB} (h0 : js x0 a0) {x1 : jL} {a1 : iB} (h1 : js x1 a1) : xG (bi op x0 x1) = true := by cases h0 <;> cases h1 <;> kernel_rfl
theorem bi_n {op : List UInt8} {x0 : jL} {a0 : iB} (h0 : js x0 a0) {x1 : jL} {a1 : iB} (h1 : js x1 a1) (ho : (op == [105, 110]) = false) {Q} (hn : ¬ (R.bF op a0 a1).facts) : (R.ba (bi op x0 x1) (20, (20, 50)) []).sat (Q) := by
  unfold R.ba R.bV
  obtain ⟨k, hk⟩ := lv
  rw [hk]
  with_reducible refine aC ?_
  with_reducible refine aR (by kernel_rfl) ?_
  with_reducible refine aC ?_
  with_reducible refine aY ?_
  with_reducible refine aC ?_
  with_reducible refine aR (by kernel_rfl) ?_
  with_reducible refine aC ?_
  with_reducible refine aJ (by kernel_rfl) ?_
  with_reducible refine aR (by kernel_rfl) ?_
  with_reducible refine aC ?_
  with_reducible refine aJ (by kernel_rfl) ?_
  with_reducible refine cS (by kernel_rfl) (by kernel_rfl) ?_
  with_reducible refine gy ?_; delta R.eval_run_list
  with_reducible refine aC ?_
  with_reducible refine aY ?_
  with_reducible refine kI hk ?_
  with_reducible refine aZ (by kernel_rfl) ?_
  with_reducible refine cS (by kernel_rfl) (by kernel_rfl) ?_
  with_reducible refine ef ?_; delta R.eval_run_statement
  with_reducible refine aC ?_
  with_reducible refine aR (by kernel_rfl) ?_
  with_reducible refine aC ?_
  with_reducible refine aJ (by kernel_rfl) ?_
  with_reducible refine iS ?_; delta R.eval_run_act
  with_reducible refine aC ?_
  with_reducible refine cS (by kernel_rfl) (by kernel_rfl) ?_
  with_reducible refine aZ (by kernel_rfl) ?_
  with_reducible refine cS (by kernel_rfl) (by kernel_rfl) ?_
  with_reducible refine aP ?_; delta R.eval_run_expression
  with_reducible refine aC ?_
  with_reducible refine aR (by kernel_rfl) ?_
  with_reducible refine aC ?_
  with_reducible refine aJ (by kernel_rfl) ?_
  with_reducible refine cb ?_; delta R.eval_run_value
  with_reducible refine aC ?_
  with_reducible refine cS (by kernel_rfl) (by kernel_rfl) ?_
  iterate 4 (with_reducible refine aJ (by kernel_rfl) ?_)
  with_reducible refine aR (by kernel_rfl) ?_
  iterate 5 (with_reducible refine aJ (by kernel_rfl) ?_)
  with_reducible refine aR (by kernel_rfl) ?_
  with_reducible refine aJ (by kernel_rfl) ?_
  with_reducible refine bX ?_; delta R.eval_run_operation
  with_reducible refine aC ?_
  with_reducible refine aJ (by kernel_rfl) ?_
  with_reducible refine aR (by kernel_rfl) ?_
  iterate 5 (with_reducible refine aJ (by kernel_rfl) ?_)
  with_reducible refine aZ (by kernel_rfl) ?_
  with_reducible refine gA ?_; delta R.eval_run_callee
  with_reducible refine aC ?_
  with_reducible refine cS (by kernel_rfl) (by kernel_rfl) ?_
  with_reducible refine aR (by kernel_rfl) ?_
  with_reducible refine aC ?_
  with_reducible refine aJ (by kernel_rfl) ?_
  with_reducible refine cd (by kernel_rfl) ?_
  with_reducible refine ed ?_; delta R.eval_run_arguments
  with_reducible refine aC ?_
  with_reducible refine aY ?_
  with_reducible refine kI hk ?_
  with_reducible refine aZ (by kernel_rfl) ?_
  with_reducible refine cS (by kernel_rfl) (by kernel_rfl) ?_
  with_reducible refine aP ?_; delta R.eval_run_expression
  with_reducible refine aC ?_
  with_reducible refine aR (by kernel_rfl) ?_
  with_reducible refine aC ?_
  with_reducible refine aJ (by kernel_rfl) ?_
  with_reducible refine cb ?_; delta R.eval_run_value
  with_reducible refine aC ?_
  with_reducible refine cS (by kernel_rfl) (by kernel_rfl) ?_
  iterate 4 (with_reducible refine aJ (by kernel_rfl) ?_)
  with_reducible refine aR (by kernel_rfl) ?_
  iterate 5 (with_reducible refine aJ (by kernel_rfl) ?_)
  with_reducible refine aR (by kernel_rfl) ?_
  with_reducible refine aJ (by kernel_rfl) ?_
  with_reducible refine bX ?_; delta R.eval_run_operation
  with_reducible refine aC ?_
  with_reducible refine aJ (by kernel_rfl) ?_
  with_reducible refine aR (by kernel_rfl) ?_
  with_reducible refine aJ (by kernel_rfl) ?_
  with_reducible refine aZ (by kernel_rfl) ?_
  with_reducible refine gB ?_; delta R.eval_run_binary
  with_reducible refine aC ?_
  with_reducible refine cS (by kernel_rfl) (by kernel_rfl) ?_
  with_reducible refine aP ?_; delta R.eval_run_expression
  with_reducible refine aC ?_
  with_reducible refine aR (by kernel_rfl) ?_
  with_reducible refine aC ?_
  with_reducible refine aJ (by kernel_rfl) ?_
  with_reducible refine lf h0 (by kernel_rfl) (by kernel_rfl) ?_
  with_reducible refine aC ?_
  with_reducible refine aD ?_
  with_reducible refine aC ?_
  with_reducible refine aJ (by kernel_rfl) ?_
  with_reducible refine cS (by kernel_rfl) (by kernel_rfl) ?_
  with_reducible refine aP ?_; delta R.eval_run_expression
  with_reducible refine aC ?_
  with_reducible refine aR (by kernel_rfl) ?_
  with_reducible refine aC ?_
  with_reducible refine aJ (by kernel_rfl) ?_
  with_reducible refine lf h1 (by kernel_rfl) (by kernel_rfl) ?_
  with_reducible refine aC ?_
  with_reducible refine aD ?_
  with_reducible refine aC ?_
  with_reducible refine aJ (by kernel_rfl) ?_
  with_reducible refine jQ ho (by kernel_rfl) ?_
  exact w_nof (m' := R.bF op a0 a1) (by kernel_rfl) hn
theorem bi_1 {op : List UInt8} {x0 : jL} {a0 : iB} (h0 : js x0 a0) {x1 : jL} {a1 : iB} (h1 : js x1 a1) (ho : (op == [105, 110]) = false) {v : iB} (hv : (R.bF op a0 a1).strip = some (v, 1)) : (R.ba (bi op x0 x1) (20, (20, 50)) []).sat (fun r => r = (tD, (2, vh 1))) := by
  unfold R.ba R.bV
  obtain ⟨k, hk⟩ := lv
  rw [hk]
  with_reducible refine aC ?_
  with_reducible refine aR (by kernel_rfl) ?_
  with_reducible refine aC ?_
  with_reducible refine aY ?_
  with_reducible refine aC ?_
  with_reducible refine aR (by kernel_rfl) ?_
  with_reducible refine aC ?_
  with_reducible refine aJ (by kernel_rfl) ?_
  with_reducible refine aR (by kernel_rfl) ?_
  with_reducible refine aC ?_
  with_reducible refine aJ (by kernel_rfl) ?_
  with_reducible refine cS (by kernel_rfl) (by kernel_rfl) ?_
  with_reducible refine gy ?_; delta R.eval_run_list
  with_reducible refine aC ?_
  with_reducible refine aY ?_
  with_reducible refine kI hk ?_
  with_reducible refine aZ (by kernel_rfl) ?_
  with_reducible refine cS (by kernel_rfl) (by kernel_rfl) ?_
  with_reducible refine ef ?_; delta R.eval_run_statement
  with_reducible refine aC ?_
  with_reducible refine aR (by kernel_rfl) ?_
  with_reducible refine aC ?_
  with_reducible refine aJ (by kernel_rfl) ?_
  with_reducible refine iS ?_; delta R.eval_run_act
  with_reducible refine aC ?_
  with_reducible refine cS (by kernel_rfl) (by kernel_rfl) ?_
  with_reducible refine aZ (by kernel_rfl) ?_
  with_reducible refine cS (by kernel_rfl) (by kernel_rfl) ?_
  with_reducible refine aP ?_; delta R.eval_run_expression
  with_reducible refine aC ?_
  with_reducible refine aR (by kernel_rfl) ?_
  with_reducible refine aC ?_
  with_reducible refine aJ (by kernel_rfl) ?_
  with_reducible refine cb ?_; delta R.eval_run_value
  with_reducible refine aC ?_
  with_reducible refine cS (by kernel_rfl) (by kernel_rfl) ?_
  iterate 4 (with_reducible refine aJ (by kernel_rfl) ?_)
  with_reducible refine aR (by kernel_rfl) ?_
  iterate 5 (with_reducible refine aJ (by kernel_rfl) ?_)
  with_reducible refine aR (by kernel_rfl) ?_
  with_reducible refine aJ (by kernel_rfl) ?_
  with_reducible refine bX ?_; delta R.eval_run_operation
  with_reducible refine aC ?_
  with_reducible refine aJ (by kernel_rfl) ?_
  with_reducible refine aR (by kernel_rfl) ?_
  iterate 5 (with_reducible refine aJ (by kernel_rfl) ?_)
  with_reducible refine aZ (by kernel_rfl) ?_
  with_reducible refine gA ?_; delta R.eval_run_callee
  with_reducible refine aC ?_
  with_reducible refine cS (by kernel_rfl) (by kernel_rfl) ?_
  with_reducible refine aR (by kernel_rfl) ?_
  with_reducible refine aC ?_
  with_reducible refine aJ (by kernel_rfl) ?_
  with_reducible refine cd (by kernel_rfl) ?_
  with_reducible refine ed ?_; delta R.eval_run_arguments
  with_reducible refine aC ?_
  with_reducible refine aY ?_
  with_reducible refine kI hk ?_
  with_reducible refine aZ (by kernel_rfl) ?_
  with_reducible refine cS (by kernel_rfl) (by kernel_rfl) ?_
  with_reducible refine aP ?_; delta R.eval_run_expression
  with_reducible refine aC ?_
  with_reducible refine aR (by kernel_rfl) ?_
  with_reducible refine aC ?_
  with_reducible refine aJ (by kernel_rfl) ?_
  with_reducible refine cb ?_; delta R.eval_run_value
  with_reducible refine aC ?_
  with_reducible refine cS (by kernel_rfl) (by kernel_rfl) ?_
  iterate 4 (with_reducible refine aJ (by kernel_rfl) ?_)
  with_reducible refine aR (by kernel_rfl) ?_
  iterate 5 (with_reducible refine aJ (by kernel_rfl) ?_)
  with_reducible refine aR (by kernel_rfl) ?_
  with_reducible refine aJ (by kernel_rfl) ?_
  with_reducible refine bX ?_; delta R.eval_run_operation
  with_reducible refine aC ?_
  with_reducible refine aJ (by kernel_rfl) ?_
  with_reducible refine aR (by kernel_rfl) ?_
  with_reducible refine aJ (by kernel_rfl) ?_
  with_reducible refine aZ (by kernel_rfl) ?_
  with_reducible refine gB ?_; delta R.eval_run_binary
  with_reducible refine aC ?_
  with_reducible refine cS (by kernel_rfl) (by kernel_rfl) ?_
  with_reducible refine aP ?_; delta R.eval_run_expression
  with_reducible refine aC ?_
  with_reducible refine aR (by kernel_rfl) ?_
  with_reducible refine aC ?_
  with_reducible refine aJ (by kernel_rfl) ?_
  with_reducible refine lf h0 (by kernel_rfl) (by kernel_rfl) ?_
  with_reducible refine aC ?_
  with_reducible refine aD ?_
  with_reducible refine aC ?_
  with_reducible refine aJ (by kernel_rfl) ?_
  with_reducible refine cS (by kernel_rfl) (by kernel_rfl) ?_
  with_reducible refine aP ?_; delta R.eval_run_expression
  with_reducible refine aC ?_
  with_reducible refine aR (by kernel_rfl) ?_
  with_reducible refine aC ?_
  with_reducible refine aJ (by kernel_rfl) ?_
  with_reducible refine lf h1 (by kernel_rfl) (by kernel_rfl) ?_
  with_reducible refine aC ?_
  with_reducible refine aD ?_
  with_reducible refine aC ?_
  with_reducible refine aJ (by kernel_rfl) ?_
  with_reducible refine jQ ho (by kernel_rfl) ?_
  with_reducible refine mU (m' := R.bF op a0 a1) (by kernel_rfl) (db hv rfl) ?_
  with_reducible refine aC ?_
  with_reducible refine aR (by kernel_rfl) ?_
  with_reducible refine aC ?_
  with_reducible refine aD ?_
  with_reducible refine aC ?_
  with_reducible refine aD ?_
  with_reducible refine aC ?_
  with_reducible refine aD ?_
  with_reducible refine aC ?_
  with_reducible refine aD ?_
  with_reducible refine aC ?_
  with_reducible refine aZ (by kernel_rfl) ?_
  with_reducible refine aD ?_
  with_reducible refine lC ?_
  with_reducible refine nu (by kernel_rfl) ?_
  with_reducible refine aD ?_
  with_reducible refine aC ?_
  with_reducible refine aZ (by kernel_rfl) ?_
  with_reducible refine aD ?_
  with_reducible refine aC ?_
  with_reducible refine aD ?_
  with_reducible refine aC ?_
  with_reducible refine aD ?_
  with_reducible refine aC ?_
  with_reducible refine aD ?_
  with_reducible refine aC ?_
  with_reducible refine aZ (by kernel_rfl) ?_
  with_reducible refine aD ?_
  with_reducible refine aC ?_
  with_reducible refine aD ?_
  with_reducible refine aC ?_
  with_reducible refine aZ (by kernel_rfl) ?_
  with_reducible refine aD ?_
  with_reducible refine lC ?_
  with_reducible refine nu (by kernel_rfl) ?_
  with_reducible refine aD ?_
  with_reducible refine aC ?_
  with_reducible refine aD ?_
  with_reducible refine aC ?_
  with_reducible refine aJ (by kernel_rfl) ?_
  with_reducible refine aZ (by kernel_rfl) ?_
  with_reducible refine aR (by kernel_rfl) ?_
  with_reducible refine aC ?_
  with_reducible refine aD ?_
  kernel_rfl
theorem bi_2 {op : List UInt8} {x0 : jL} {a0 : iB} (h0 : js x0 a0) {x1 : jL} {a1 : iB} (h1 : js x1 a1) (ho : (op == [105, 110]) = false) {v : iB} (hv : (R.bF op a0 a1).strip = some (v, 2)) : (R.ba (bi op x0 x1) (20, (20, 50)) []).sat (fun r => r = (tD, (2, vh 2))) := by
  unfold R.ba R.bV
  obtain ⟨k, hk⟩ := lv
  rw [hk]
  with_reducible refine aC ?_
  with_reducible refine aR (by kernel_rfl) ?_
  with_reducible refine aC ?_
  with_reducible refine aY ?_
  with_reducible refine aC ?_
  with_reducible refine aR (by kernel_rfl) ?_
  with_reducible refine aC ?_
  with_reducible refine aJ (by kernel_rfl) ?_
  with_reducible refine aR (by kernel_rfl) ?_
  with_reducible refine aC ?_
  with_reducible refine aJ (by kernel_rfl) ?_
  with_reducible refine cS (by kernel_rfl) (by kernel_rfl) ?_
  with_reducible refine gy ?_; delta R.eval_run_list
  with_reducible refine aC ?_
  with_reducible refine aY ?_
  with_reducible refine kI hk ?_
  with_reducible refine aZ (by kernel_rfl) ?_
  with_reducible refine cS (by kernel_rfl) (by kernel_rfl) ?_
  with_reducible refine ef ?_; delta R.eval_run_statement
  with_reducible refine aC ?_
  with_reducible refine aR (by kernel_rfl) ?_
  with_reducible refine aC ?_
  with_reducible refine aJ (by kernel_rfl) ?_
  with_reducible refine iS ?_; delta R.eval_run_act
  with_reducible refine aC ?_
  with_reducible refine cS (by kernel_rfl) (by kernel_rfl) ?_
  with_reducible refine aZ (by kernel_rfl) ?_
  with_reducible refine cS (by kernel_rfl) (by kernel_rfl) ?_
  with_reducible refine aP ?_; delta R.eval_run_expression
  with_reducible refine aC ?_
  with_reducible refine aR (by kernel_rfl) ?_
  with_reducible refine aC ?_
  with_reducible refine aJ (by kernel_rfl) ?_
  with_reducible refine cb ?_; delta R.eval_run_value
  with_reducible refine aC ?_
  with_reducible refine cS (by kernel_rfl) (by kernel_rfl) ?_
  iterate 4 (with_reducible refine aJ (by kernel_rfl) ?_)
  with_reducible refine aR (by kernel_rfl) ?_
  iterate 5 (with_reducible refine aJ (by kernel_rfl) ?_)
  with_reducible refine aR (by kernel_rfl) ?_
  with_reducible refine aJ (by kernel_rfl) ?_
  with_reducible refine bX ?_; delta R.eval_run_operation
  with_reducible refine aC ?_
  with_reducible refine aJ (by kernel_rfl) ?_
  with_reducible refine aR (by kernel_rfl) ?_
  iterate 5 (with_reducible refine aJ (by kernel_rfl) ?_)
  with_reducible refine aZ (by kernel_rfl) ?_
  with_reducible refine gA ?_; delta R.eval_run_callee
  with_reducible refine aC ?_
  with_reducible refine cS (by kernel_rfl) (by kernel_rfl) ?_
  with_reducible refine aR (by kernel_rfl) ?_
  with_reducible refine aC ?_
  with_reducible refine aJ (by kernel_rfl) ?_
  with_reducible refine cd (by kernel_rfl) ?_
  with_reducible refine ed ?_; delta R.eval_run_arguments
  with_reducible refine aC ?_
  with_reducible refine aY ?_
  with_reducible refine kI hk ?_
  with_reducible refine aZ (by kernel_rfl) ?_
  with_reducible refine cS (by kernel_rfl) (by kernel_rfl) ?_
  with_reducible refine aP ?_; delta R.eval_run_expression
  with_reducible refine aC ?_
  with_reducible refine aR (by kernel_rfl) ?_
  with_reducible refine aC ?_
  with_reducible refine aJ (by kernel_rfl) ?_
  with_reducible refine cb ?_; delta R.eval_run_value
  with_reducible refine aC ?_
  with_reducible refine cS (by kernel_rfl) (by kernel_rfl) ?_
  iterate 4 (with_reducible refine aJ (by kernel_rfl) ?_)
  with_reducible refine aR (by kernel_rfl) ?_
  iterate 5 (with_reducible refine aJ (by kernel_rfl) ?_)
  with_reducible refine aR (by kernel_rfl) ?_
  with_reducible refine aJ (by kernel_rfl) ?_
  with_reducible refine bX ?_; delta R.eval_run_operation
  with_reducible refine aC ?_
  with_reducible refine aJ (by kernel_rfl) ?_
  with_reducible refine aR (by kernel_rfl) ?_
  with_reducible refine aJ (by kernel_rfl) ?_
  with_reducible refine aZ (by kernel_rfl) ?_
  with_reducible refine gB ?_; delta R.eval_run_binary
  with_reducible refine aC ?_
  with_reducible refine cS (by kernel_rfl) (by kernel_rfl) ?_
  with_reducible refine aP ?_; delta R.eval_run_expression
  with_reducible refine aC ?_
  with_reducible refine aR (by kernel_rfl) ?_
  with_reducible refine aC ?_
  with_reducible refine aJ (by kernel_rfl) ?_
  with_reducible refine lf h0 (by kernel_rfl) (by kernel_rfl) ?_
  with_reducible refine aC ?_
  with_reducible refine aD ?_
  with_reducible refine aC ?_
  with_reducible refine aJ (by kernel_rfl) ?_
  with_reducible refine cS (by kernel_rfl) (by kernel_rfl) ?_
  with_reducible refine aP ?_; delta R.eval_run_expression
  with_reducible refine aC ?_
  with_reducible refine aR (by kernel_rfl) ?_
  with_reducible refine aC ?_
  with_reducible refine aJ (by kernel_rfl) ?_
  with_reducible refine lf h1 (by kernel_rfl) (by kernel_rfl) ?_
  with_reducible refine aC ?_
  with_reducible refine aD ?_
  with_reducible refine aC ?_
  with_reducible refine aJ (by kernel_rfl) ?_
  with_reducible refine jQ ho (by kernel_rfl) ?_
  with_reducible refine mU (m' := R.bF op a0 a1) (by kernel_rfl) (db hv rfl) ?_
  with_reducible refine aC ?_
  with_reducible refine aR (by kernel_rfl) ?_
  with_reducible refine aC ?_
  with_reducible refine aD ?_
  with_reducible refine aC ?_
  with_reducible refine aD ?_
  with_reducible refine aC ?_
  with_reducible refine aD ?_
  with_reducible refine aC ?_
  with_reducible refine aD ?_
  with_reducible refine aC ?_
  with_reducible refine aZ (by kernel_rfl) ?_
  with_reducible refine aD ?_
  with_reducible refine lC ?_
  with_reducible refine nu (by kernel_rfl) ?_
  with_reducible refine aD ?_
  with_reducible refine aC ?_
  with_reducible refine aZ (by kernel_rfl) ?_
  with_reducible refine aD ?_
  with_reducible refine aC ?_
  with_reducible refine aD ?_
  with_reducible refine aC ?_
  with_reducible refine aD ?_
  with_reducible refine aC ?_
  with_reducible refine aD ?_
  with_reducible refine aC ?_
  with_reducible refine aZ (by kernel_rfl) ?_
  with_reducible refine aD ?_
  with_reducible refine aC ?_
  with_reducible refine aD ?_
  with_reducible refine aC ?_
  with_reducible refine aZ (by kernel_rfl) ?_
  with_reducible refine aD ?_
  with_reducible refine lC ?_
  with_reducible refine nu (by kernel_rfl) ?_
  with_reducible refine aD ?_
  with_reducible refine aC ?_
  with_reducible refine aD ?_
  with_reducible refine aC ?_
  with_reducible refine aJ (by kernel_rfl) ?_
  with_reducible refine aZ (by kernel_rfl) ?_
  with_reducible refine aR (by kernel_rfl) ?_
  with_reducible refine aC ?_
  with_reducible refine aD ?_
  kernel_rfl
theorem bi_3 {op : List UInt8} {x0 : jL} {a0 : iB} (h0 : js x0 a0) {x1 : jL} {a1 : iB} (h1 : js x1 a1) (ho : (op == [105, 110]) = false) {v : iB} (hv : (R.bF op a0 a1).strip = some (v, 3)) : (R.ba (bi op x0 x1) (20, (20, 50)) []).sat (fun r => r = (tD, (3, []))) := by
  unfold R.ba R.bV
  obtain ⟨k, hk⟩ := lv
  rw [hk]
  with_reducible refine aC ?_
  with_reducible refine aR (by kernel_rfl) ?_
  with_reducible refine aC ?_
  with_reducible refine aY ?_
  with_reducible refine aC ?_
  with_reducible refine aR (by kernel_rfl) ?_
  with_reducible refine aC ?_
  with_reducible refine aJ (by kernel_rfl) ?_
  with_reducible refine aR (by kernel_rfl) ?_
  with_reducible refine aC ?_
  with_reducible refine aJ (by kernel_rfl) ?_
  with_reducible refine cS (by kernel_rfl) (by kernel_rfl) ?_
  with_reducible refine gy ?_; delta R.eval_run_list
  with_reducible refine aC ?_
  with_reducible refine aY ?_
  with_reducible refine kI hk ?_
  with_reducible refine aZ (by kernel_rfl) ?_
  with_reducible refine cS (by kernel_rfl) (by kernel_rfl) ?_
  with_reducible refine ef ?_; delta R.eval_run_statement
  with_reducible refine aC ?_
  with_reducible refine aR (by kernel_rfl) ?_
  with_reducible refine aC ?_
  with_reducible refine aJ (by kernel_rfl) ?_
  with_reducible refine iS ?_; delta R.eval_run_act
  with_reducible refine aC ?_
  with_reducible refine cS (by kernel_rfl) (by kernel_rfl) ?_
  with_reducible refine aZ (by kernel_rfl) ?_
  with_reducible refine cS (by kernel_rfl) (by kernel_rfl) ?_
  with_reducible refine aP ?_; delta R.eval_run_expression
  with_reducible refine aC ?_
  with_reducible refine aR (by kernel_rfl) ?_
  with_reducible refine aC ?_
  with_reducible refine aJ (by kernel_rfl) ?_
  with_reducible refine cb ?_; delta R.eval_run_value
  with_reducible refine aC ?_
  with_reducible refine cS (by kernel_rfl) (by kernel_rfl) ?_
  iterate 4 (with_reducible refine aJ (by kernel_rfl) ?_)
  with_reducible refine aR (by kernel_rfl) ?_
  iterate 5 (with_reducible refine aJ (by kernel_rfl) ?_)
  with_reducible refine aR (by kernel_rfl) ?_
  with_reducible refine aJ (by kernel_rfl) ?_
  with_reducible refine bX ?_; delta R.eval_run_operation
  with_reducible refine aC ?_
  with_reducible refine aJ (by kernel_rfl) ?_
  with_reducible refine aR (by kernel_rfl) ?_
  iterate 5 (with_reducible refine aJ (by kernel_rfl) ?_)
  with_reducible refine aZ (by kernel_rfl) ?_
  with_reducible refine gA ?_; delta R.eval_run_callee
  with_reducible refine aC ?_
  with_reducible refine cS (by kernel_rfl) (by kernel_rfl) ?_
  with_reducible refine aR (by kernel_rfl) ?_
  with_reducible refine aC ?_
  with_reducible refine aJ (by kernel_rfl) ?_
  with_reducible refine cd (by kernel_rfl) ?_
  with_reducible refine ed ?_; delta R.eval_run_arguments
  with_reducible refine aC ?_
  with_reducible refine aY ?_
  with_reducible refine kI hk ?_
  with_reducible refine aZ (by kernel_rfl) ?_
  with_reducible refine cS (by kernel_rfl) (by kernel_rfl) ?_
  with_reducible refine aP ?_; delta R.eval_run_expression
  with_reducible refine aC ?_
  with_reducible refine aR (by kernel_rfl) ?_
  with_reducible refine aC ?_
  with_reducible refine aJ (by kernel_rfl) ?_
  with_reducible refine cb ?_; delta R.eval_run_value
  with_reducible refine aC ?_
  with_reducible refine cS (by kernel_rfl) (by kernel_rfl) ?_
  iterate 4 (with_reducible refine aJ (by kernel_rfl) ?_)
  with_reducible refine aR (by kernel_rfl) ?_
  iterate 5 (with_reducible refine aJ (by kernel_rfl) ?_)
  with_reducible refine aR (by kernel_rfl) ?_
  with_reducible refine aJ (by kernel_rfl) ?_
  with_reducible refine bX ?_; delta R.eval_run_operation
  with_reducible refine aC ?_
  with_reducible refine aJ (by kernel_rfl) ?_
  with_reducible refine aR (by kernel_rfl) ?_
  with_reducible refine aJ (by kernel_rfl) ?_
  with_reducible refine aZ (by kernel_rfl) ?_
  with_reducible refine gB ?_; delta R.eval_run_binary
  with_reducible refine aC ?_
  with_reducible refine cS (by kernel_rfl) (by kernel_rfl) ?_
  with_reducible refine aP ?_; delta R.eval_run_expression
  with_reducible refine aC ?_
  with_reducible refine aR (by kernel_rfl) ?_
  with_reducible refine aC ?_
  with_reducible refine aJ (by kernel_rfl) ?_
  with_reducible refine lf h0 (by kernel_rfl) (by kernel_rfl) ?_
  with_reducible refine aC ?_
  with_reducible refine aD ?_
  with_reducible refine aC ?_
  with_reducible refine aJ (by kernel_rfl) ?_
  with_reducible refine cS (by kernel_rfl) (by kernel_rfl) ?_
  with_reducible refine aP ?_; delta R.eval_run_expression
  with_reducible refine aC ?_
  with_reducible refine aR (by kernel_rfl) ?_
  with_reducible refine aC ?_
  with_reducible refine aJ (by kernel_rfl) ?_
  with_reducible refine lf h1 (by kernel_rfl) (by kernel_rfl) ?_
  with_reducible refine aC ?_
  with_reducible refine aD ?_
  with_reducible refine aC ?_
  with_reducible refine aJ (by kernel_rfl) ?_
  with_reducible refine jQ ho (by kernel_rfl) ?_
  with_reducible refine mU (m' := R.bF op a0 a1) (by kernel_rfl) (db hv rfl) ?_
  with_reducible refine aC ?_
  with_reducible refine aR (by kernel_rfl) ?_
  with_reducible refine aC ?_
  with_reducible refine aD ?_
  with_reducible refine aC ?_
  with_reducible refine aD ?_
  with_reducible refine aC ?_
  with_reducible refine aD ?_
  with_reducible refine aC ?_
  with_reducible refine aD ?_
  with_reducible refine aC ?_
  with_reducible refine aZ (by kernel_rfl) ?_
  with_reducible refine aD ?_
  with_reducible refine lC ?_
  with_reducible refine nu (by kernel_rfl) ?_
  with_reducible refine aD ?_
  with_reducible refine aC ?_
  with_reducible refine aZ (by kernel_rfl) ?_
  with_reducible refine aD ?_
  with_reducible refine aC ?_
  with_reducible refine aD ?_
  with_reducible refine aC ?_
  with_reducible refine aD ?_
  with_reducible refine aC ?_
  with_reducible refine aD ?_
  with_reducible refine aC ?_
  with_reducible refine aZ (by kernel_rfl) ?_
  with_reducible refine aD ?_
  with_reducible refine aC ?_
  with_reducible refine aD ?_
  with_reducible refine aC ?_
  with_reducible refine aZ (by kernel_rfl) ?_
  with_reducible refine aD ?_
  with_reducible refine lC ?_
  with_reducible refine nu (by kernel_rfl) ?_
  with_reducible refine aD ?_
  with_reducible refine aC ?_
  with_reducible refine aD ?_
  with_reducible refine aC ?_
  with_reducible refine aZ (by kernel_rfl) ?_
  with_reducible refine aD ?_
  kernel_rfl
theorem bi_4 {op : List UInt8} {x0 : jL} {a0 : iB} (h0 : js x0 a0) {x1 : jL} {a1 : iB} (h1 : js x1 a1) (ho : (op == [105, 110]) = false) {v : iB} (hv : (R.bF op a0 a1).strip = some (v, 4)) : (R.ba (bi op x0 x1) (20, (20, 50)) []).sat (fun r => r = (tD, (2, vh 4))) := by
  unfold R.ba R.bV
  obtain ⟨k, hk⟩ := lv
  rw [hk]
  with_reducible refine aC ?_
  with_reducible refine aR (by kernel_rfl) ?_
  with_reducible refine aC ?_
  with_reducible refine aY ?_
  with_reducible refine aC ?_
  with_reducible refine aR (by kernel_rfl) ?_
  with_reducible refine aC ?_
  with_reducible refine aJ (by kernel_rfl) ?_
  with_reducible refine aR (by kernel_rfl) ?_
  with_reducible refine aC ?_
  with_reducible refine aJ (by kernel_rfl) ?_
  with_reducible refine cS (by kernel_rfl) (by kernel_rfl) ?_
  with_reducible refine gy ?_; delta R.eval_run_list
  with_reducible refine aC ?_
  with_reducible refine aY ?_
  with_reducible refine kI hk ?_
  with_reducible refine aZ (by kernel_rfl) ?_
  with_reducible refine cS (by kernel_rfl) (by kernel_rfl) ?_
  with_reducible refine ef ?_; delta R.eval_run_statement
  with_reducible refine aC ?_
  with_reducible refine aR (by kernel_rfl) ?_
  with_reducible refine aC ?_
  with_reducible refine aJ (by kernel_rfl) ?_
  with_reducible refine iS ?_; delta R.eval_run_act
  with_reducible refine aC ?_
  with_reducible refine cS (by kernel_rfl) (by kernel_rfl) ?_
  with_reducible refine aZ (by kernel_rfl) ?_
  with_reducible refine cS (by kernel_rfl) (by kernel_rfl) ?_
  with_reducible refine aP ?_; delta R.eval_run_expression
  with_reducible refine aC ?_
  with_reducible refine aR (by kernel_rfl) ?_
  with_reducible refine aC ?_
  with_reducible refine aJ (by kernel_rfl) ?_
  with_reducible refine cb ?_; delta R.eval_run_value
  with_reducible refine aC ?_
  with_reducible refine cS (by kernel_rfl) (by kernel_rfl) ?_
  iterate 4 (with_reducible refine aJ (by kernel_rfl) ?_)
  with_reducible refine aR (by kernel_rfl) ?_
  iterate 5 (with_reducible refine aJ (by kernel_rfl) ?_)
  with_reducible refine aR (by kernel_rfl) ?_
  with_reducible refine aJ (by kernel_rfl) ?_
  with_reducible refine bX ?_; delta R.eval_run_operation
  with_reducible refine aC ?_
  with_reducible refine aJ (by kernel_rfl) ?_
  with_reducible refine aR (by kernel_rfl) ?_
  iterate 5 (with_reducible refine aJ (by kernel_rfl) ?_)
  with_reducible refine aZ (by kernel_rfl) ?_
  with_reducible refine gA ?_; delta R.eval_run_callee
  with_reducible refine aC ?_
  with_reducible refine cS (by kernel_rfl) (by kernel_rfl) ?_
  with_reducible refine aR (by kernel_rfl) ?_
  with_reducible refine aC ?_
  with_reducible refine aJ (by kernel_rfl) ?_
  with_reducible refine cd (by kernel_rfl) ?_
  with_reducible refine ed ?_; delta R.eval_run_arguments
  with_reducible refine aC ?_
  with_reducible refine aY ?_
  with_reducible refine kI hk ?_
  with_reducible refine aZ (by kernel_rfl) ?_
  with_reducible refine cS (by kernel_rfl) (by kernel_rfl) ?_
  with_reducible refine aP ?_; delta R.eval_run_expression
  with_reducible refine aC ?_
  with_reducible refine aR (by kernel_rfl) ?_
  with_reducible refine aC ?_
  with_reducible refine aJ (by kernel_rfl) ?_
  with_reducible refine cb ?_; delta R.eval_run_value
  with_reducible refine aC ?_
  with_reducible refine cS (by kernel_rfl) (by kernel_rfl) ?_
  iterate 4 (with_reducible refine aJ (by kernel_rfl) ?_)
  with_reducible refine aR (by kernel_rfl) ?_
  iterate 5 (with_reducible refine aJ (by kernel_rfl) ?_)
  with_reducible refine aR (by kernel_rfl) ?_
  with_reducible refine aJ (by kernel_rfl) ?_
  with_reducible refine bX ?_; delta R.eval_run_operation
  with_reducible refine aC ?_
  with_reducible refine aJ (by kernel_rfl) ?_
  with_reducible refine aR (by kernel_rfl) ?_
  with_reducible refine aJ (by kernel_rfl) ?_
  with_reducible refine aZ (by kernel_rfl) ?_
  with_reducible refine gB ?_; delta R.eval_run_binary
  with_reducible refine aC ?_
  with_reducible refine cS (by kernel_rfl) (by kernel_rfl) ?_
  with_reducible refine aP ?_; delta R.eval_run_expression
  with_reducible refine aC ?_
  with_reducible refine aR (by kernel_rfl) ?_
  with_reducible refine aC ?_
  with_reducible refine aJ (by kernel_rfl) ?_
  with_reducible refine lf h0 (by kernel_rfl) (by kernel_rfl) ?_
  with_reducible refine aC ?_
  with_reducible refine aD ?_
  with_reducible refine aC ?_
  with_reducible refine aJ (by kernel_rfl) ?_
  with_reducible refine cS (by kernel_rfl) (by kernel_rfl) ?_
  with_reducible refine aP ?_; delta R.eval_run_expression
  with_reducible refine aC ?_
  with_reducible refine aR (by kernel_rfl) ?_
  with_reducible refine aC ?_
  with_reducible refine aJ (by kernel_rfl) ?_
  with_reducible refine lf h1 (by kernel_rfl) (by kernel_rfl) ?_
  with_reducible refine aC ?_
  with_reducible refine aD ?_
  with_reducible refine aC ?_
  with_reducible refine aJ (by kernel_rfl) ?_
  with_reducible refine jQ ho (by kernel_rfl) ?_
  with_reducible refine mU (m' := R.bF op a0 a1) (by kernel_rfl) (db hv rfl) ?_
  with_reducible refine aC ?_
  with_reducible refine aR (by kernel_rfl) ?_
  with_reducible refine aC ?_
  with_reducible refine aD ?_
  with_reducible refine aC ?_
  with_reducible refine aD ?_
  with_reducible refine aC ?_
  with_reducible refine aD ?_
  with_reducible refine aC ?_
  with_reducible refine aD ?_
  with_reducible refine aC ?_
  with_reducible refine aZ (by kernel_rfl) ?_
  with_reducible refine aD ?_
  with_reducible refine lC ?_
  with_reducible refine nu (by kernel_rfl) ?_
  with_reducible refine aD ?_
  with_reducible refine aC ?_
  with_reducible refine aZ (by kernel_rfl) ?_
  with_reducible refine aD ?_
  with_reducible refine aC ?_
  with_reducible refine aD ?_
  with_reducible refine aC ?_
  with_reducible refine aD ?_
  with_reducible refine aC ?_
  with_reducible refine aD ?_
  with_reducible refine aC ?_
  with_reducible refine aZ (by kernel_rfl) ?_
  with_reducible refine aD ?_
  with_reducible refine aC ?_
  with_reducible refine aD ?_
  with_reducible refine aC ?_
  with_reducible refine aZ (by kernel_rfl) ?_
  with_reducible refine aD ?_
  with_reducible refine lC ?_
  with_reducible refine nu (by kernel_rfl) ?_
  with_reducible refine aD ?_
  with_reducible refine aC ?_
  with_reducible refine aD ?_
  with_reducible refine aC ?_
  with_reducible refine aJ (by kernel_rfl) ?_
  with_reducible refine aZ (by kernel_rfl) ?_
  with_reducible refine aR (by kernel_rfl) ?_
  with_reducible refine aC ?_
  with_reducible refine aD ?_
  kernel_rfl
theorem bi_5 {op : List UInt8} {x0 : jL} {a0 : iB} (h0 : js x0 a0) {x1 : jL} {a1 : iB} (h1 : js x1 a1) (ho : (op == [105, 110]) = false) {v : iB} (hv : (R.bF op a0 a1).strip = some (v, 5)) : (R.ba (bi op x0 x1) (20, (20, 50)) []).sat (fun r => r = (tD, (2, vh 5))) := by
  unfold R.ba R.bV
  obtain ⟨k, hk⟩ := lv
  rw [hk]
  with_reducible refine aC ?_
  with_reducible refine aR (by kernel_rfl) ?_
  with_reducible refine aC ?_
  with_reducible refine aY ?_
  with_reducible refine aC ?_
  with_reducible refine aR (by kernel_rfl) ?_
  with_reducible refine aC ?_
  with_reducible refine aJ (by kernel_rfl) ?_
  with_reducible refine aR (by kernel_rfl) ?_
  with_reducible refine aC ?_
  with_reducible refine aJ (by kernel_rfl) ?_
  with_reducible refine cS (by kernel_rfl) (by kernel_rfl) ?_
  with_reducible refine gy ?_; delta R.eval_run_list
  with_reducible refine aC ?_
  with_reducible refine aY ?_
  with_reducible refine kI hk ?_
  with_reducible refine aZ (by kernel_rfl) ?_
  with_reducible refine cS (by kernel_rfl) (by kernel_rfl) ?_
  with_reducible refine ef ?_; delta R.eval_run_statement
  with_reducible refine aC ?_
  with_reducible refine aR (by kernel_rfl) ?_
  with_reducible refine aC ?_
  with_reducible refine aJ (by kernel_rfl) ?_
  with_reducible refine iS ?_; delta R.eval_run_act
  with_reducible refine aC ?_
  with_reducible refine cS (by kernel_rfl) (by kernel_rfl) ?_
  with_reducible refine aZ (by kernel_rfl) ?_
  with_reducible refine cS (by kernel_rfl) (by kernel_rfl) ?_
  with_reducible refine aP ?_; delta R.eval_run_expression
  with_reducible refine aC ?_
  with_reducible refine aR (by kernel_rfl) ?_
  with_reducible refine aC ?_
  with_reducible refine aJ (by kernel_rfl) ?_
  with_reducible refine cb ?_; delta R.eval_run_value
  with_reducible refine aC ?_
  with_reducible refine cS (by kernel_rfl) (by kernel_rfl) ?_
  iterate 4 (with_reducible refine aJ (by kernel_rfl) ?_)
  with_reducible refine aR (by kernel_rfl) ?_
  iterate 5 (with_reducible refine aJ (by kernel_rfl) ?_)
  with_reducible refine aR (by kernel_rfl) ?_
  with_reducible refine aJ (by kernel_rfl) ?_
  with_reducible refine bX ?_; delta R.eval_run_operation
  with_reducible refine aC ?_
  with_reducible refine aJ (by kernel_rfl) ?_
  with_reducible refine aR (by kernel_rfl) ?_
  iterate 5 (with_reducible refine aJ (by kernel_rfl) ?_)
  with_reducible refine aZ (by kernel_rfl) ?_
  with_reducible refine gA ?_; delta R.eval_run_callee
  with_reducible refine aC ?_
  with_reducible refine cS (by kernel_rfl) (by kernel_rfl) ?_
  with_reducible refine aR (by kernel_rfl) ?_
  with_reducible refine aC ?_
  with_reducible refine aJ (by kernel_rfl) ?_
  with_reducible refine cd (by kernel_rfl) ?_
  with_reducible refine ed ?_; delta R.eval_run_arguments
  with_reducible refine aC ?_
  with_reducible refine aY ?_
  with_reducible refine kI hk ?_
  with_reducible refine aZ (by kernel_rfl) ?_
  with_reducible refine cS (by kernel_rfl) (by kernel_rfl) ?_
  with_reducible refine aP ?_; delta R.eval_run_expression
  with_reducible refine aC ?_
  with_reducible refine aR (by kernel_rfl) ?_
  with_reducible refine aC ?_
  with_reducible refine aJ (by kernel_rfl) ?_
  with_reducible refine cb ?_; delta R.eval_run_value
  with_reducible refine aC ?_
  with_reducible refine cS (by kernel_rfl) (by kernel_rfl) ?_
  iterate 4 (with_reducible refine aJ (by kernel_rfl) ?_)
  with_reducible refine aR (by kernel_rfl) ?_
  iterate 5 (with_reducible refine aJ (by kernel_rfl) ?_)
  with_reducible refine aR (by kernel_rfl) ?_
  with_reducible refine aJ (by kernel_rfl) ?_
  with_reducible refine bX ?_; delta R.eval_run_operation
  with_reducible refine aC ?_
  with_reducible refine aJ (by kernel_rfl) ?_
  with_reducible refine aR (by kernel_rfl) ?_
  with_reducible refine aJ (by kernel_rfl) ?_
  with_reducible refine aZ (by kernel_rfl) ?_
  with_reducible refine gB ?_; delta R.eval_run_binary
  with_reducible refine aC ?_
  with_reducible refine cS (by kernel_rfl) (by kernel_rfl) ?_
  with_reducible refine aP ?_; delta R.eval_run_expression
  with_reducible refine aC ?_
  with_reducible refine aR (by kernel_rfl) ?_
  with_reducible refine aC ?_
  with_reducible refine aJ (by kernel_rfl) ?_
  with_reducible refine lf h0 (by kernel_rfl) (by kernel_rfl) ?_
  with_reducible refine aC ?_
  with_reducible refine aD ?_
  with_reducible refine aC ?_
  with_reducible refine aJ (by kernel_rfl) ?_
  with_reducible refine cS (by kernel_rfl) (by kernel_rfl) ?_
  with_reducible refine aP ?_; delta R.eval_run_expression
  with_reducible refine aC ?_
  with_reducible refine aR (by kernel_rfl) ?_
  with_reducible refine aC ?_
  with_reducible refine aJ (by kernel_rfl) ?_
  with_reducible refine lf h1 (by kernel_rfl) (by kernel_rfl) ?_
  with_reducible refine aC ?_
  with_reducible refine aD ?_
  with_reducible refine aC ?_
  with_reducible refine aJ (by kernel_rfl) ?_
  with_reducible refine jQ ho (by kernel_rfl) ?_
  with_reducible refine mU (m' := R.bF op a0 a1) (by kernel_rfl) (db hv rfl) ?_
  with_reducible refine aC ?_
  with_reducible refine aR (by kernel_rfl) ?_
  with_reducible refine aC ?_
  with_reducible refine aD ?_
  with_reducible refine aC ?_
  with_reducible refine aD ?_
  with_reducible refine aC ?_
  with_reducible refine aD ?_
  with_reducible refine aC ?_
  with_reducible refine aD ?_
  with_reducible refine aC ?_
  with_reducible refine aZ (by kernel_rfl) ?_
  with_reducible refine aD ?_
  with_reducible refine lC ?_
  with_reducible refine nu (by kernel_rfl) ?_
  with_reducible refine aD ?_
  with_reducible refine aC ?_
  with_reducible refine aZ (by kernel_rfl) ?_
  with_reducible refine aD ?_
  with_reducible refine aC ?_
  with_reducible refine aD ?_
  with_reducible refine aC ?_
  with_reducible refine aD ?_
  with_reducible refine aC ?_
  with_reducible refine aD ?_
  with_reducible refine aC ?_
  with_reducible refine aZ (by kernel_rfl) ?_
  with_reducible refine aD ?_
  with_reducible refine aC ?_
  with_reducible refine aD ?_
  with_reducible refine aC ?_
  with_reducible refine aZ (by kernel_rfl) ?_
  with_reducible refine aD ?_
  with_reducible refine lC ?_
  with_reducible refine nu (by kernel_rfl) ?_
  with_reducible refine aD ?_
  with_reducible refine aC ?_
  with_reducible refine aD ?_
  with_reducible refine aC ?_
  with_reducible refine aJ (by kernel_rfl) ?_
  with_reducible refine aZ (by kernel_rfl) ?_
  with_reducible refine aR (by kernel_rfl) ?_
  with_reducible refine aC ?_
  with_reducible refine aD ?_
  kernel_rfl
theorem bi_0N {op : List UInt8} {x0 : jL} {a0 : iB} (h0 : js x0 a0) {x1 : jL} {a1 : iB} (h1 : js x1 a1) (ho : (op == [105, 110]) = false) {v : iB} (hv : (R.bF op a0 a1).strip = some (v, 0)) (hno : v.1 ≠ 6) {Q} (hn : ¬ (R.bg v).facts) : (R.ba (bi op x0 x1) (20, (20, 50)) []).sat (Q) := by
  unfold R.ba R.bV
  obtain ⟨k, hk⟩ := lv
  rw [hk]
  with_reducible refine aC ?_
  with_reducible refine aR (by kernel_rfl) ?_
  with_reducible refine aC ?_
  with_reducible refine aY ?_
  with_reducible refine aC ?_
  with_reducible refine aR (by kernel_rfl) ?_
  with_reducible refine aC ?_
  with_reducible refine aJ (by kernel_rfl) ?_
  with_reducible refine aR (by kernel_rfl) ?_
  with_reducible refine aC ?_
  with_reducible refine aJ (by kernel_rfl) ?_
  with_reducible refine cS (by kernel_rfl) (by kernel_rfl) ?_
  with_reducible refine gy ?_; delta R.eval_run_list
  with_reducible refine aC ?_
  with_reducible refine aY ?_
  with_reducible refine kI hk ?_
  with_reducible refine aZ (by kernel_rfl) ?_
  with_reducible refine cS (by kernel_rfl) (by kernel_rfl) ?_
  with_reducible refine ef ?_; delta R.eval_run_statement
  with_reducible refine aC ?_
  with_reducible refine aR (by kernel_rfl) ?_
  with_reducible refine aC ?_
  with_reducible refine aJ (by kernel_rfl) ?_
  with_reducible refine iS ?_; delta R.eval_run_act
  with_reducible refine aC ?_
  with_reducible refine cS (by kernel_rfl) (by kernel_rfl) ?_
  with_reducible refine aZ (by kernel_rfl) ?_
  with_reducible refine cS (by kernel_rfl) (by kernel_rfl) ?_
  with_reducible refine aP ?_; delta R.eval_run_expression
  with_reducible refine aC ?_
  with_reducible refine aR (by kernel_rfl) ?_
  with_reducible refine aC ?_
  with_reducible refine aJ (by kernel_rfl) ?_
  with_reducible refine cb ?_; delta R.eval_run_value
  with_reducible refine aC ?_
  with_reducible refine cS (by kernel_rfl) (by kernel_rfl) ?_
  iterate 4 (with_reducible refine aJ (by kernel_rfl) ?_)
  with_reducible refine aR (by kernel_rfl) ?_
  iterate 5 (with_reducible refine aJ (by kernel_rfl) ?_)
  with_reducible refine aR (by kernel_rfl) ?_
  with_reducible refine aJ (by kernel_rfl) ?_
  with_reducible refine bX ?_; delta R.eval_run_operation
  with_reducible refine aC ?_
  with_reducible refine aJ (by kernel_rfl) ?_
  with_reducible refine aR (by kernel_rfl) ?_
  iterate 5 (with_reducible refine aJ (by kernel_rfl) ?_)
  with_reducible refine aZ (by kernel_rfl) ?_
  with_reducible refine gA ?_; delta R.eval_run_callee
  with_reducible refine aC ?_
  with_reducible refine cS (by kernel_rfl) (by kernel_rfl) ?_
  with_reducible refine aR (by kernel_rfl) ?_
  with_reducible refine aC ?_
  with_reducible refine aJ (by kernel_rfl) ?_
  with_reducible refine cd (by kernel_rfl) ?_
  with_reducible refine ed ?_; delta R.eval_run_arguments
  with_reducible refine aC ?_
  with_reducible refine aY ?_
  with_reducible refine kI hk ?_
  with_reducible refine aZ (by kernel_rfl) ?_
  with_reducible refine cS (by kernel_rfl) (by kernel_rfl) ?_
  with_reducible refine aP ?_; delta R.eval_run_expression
  with_reducible refine aC ?_
  with_reducible refine aR (by kernel_rfl) ?_
  with_reducible refine aC ?_
  with_reducible refine aJ (by kernel_rfl) ?_
  with_reducible refine cb ?_; delta R.eval_run_value
  with_reducible refine aC ?_
  with_reducible refine cS (by kernel_rfl) (by kernel_rfl) ?_
  iterate 4 (with_reducible refine aJ (by kernel_rfl) ?_)
  with_reducible refine aR (by kernel_rfl) ?_
  iterate 5 (with_reducible refine aJ (by kernel_rfl) ?_)
  with_reducible refine aR (by kernel_rfl) ?_
  with_reducible refine aJ (by kernel_rfl) ?_
  with_reducible refine bX ?_; delta R.eval_run_operation
  with_reducible refine aC ?_
  with_reducible refine aJ (by kernel_rfl) ?_
  with_reducible refine aR (by kernel_rfl) ?_
  with_reducible refine aJ (by kernel_rfl) ?_
  with_reducible refine aZ (by kernel_rfl) ?_
  with_reducible refine gB ?_; delta R.eval_run_binary
  with_reducible refine aC ?_
  with_reducible refine cS (by kernel_rfl) (by kernel_rfl) ?_
  with_reducible refine aP ?_; delta R.eval_run_expression
  with_reducible refine aC ?_
  with_reducible refine aR (by kernel_rfl) ?_
  with_reducible refine aC ?_
  with_reducible refine aJ (by kernel_rfl) ?_
  with_reducible refine lf h0 (by kernel_rfl) (by kernel_rfl) ?_
  with_reducible refine aC ?_
  with_reducible refine aD ?_
  with_reducible refine aC ?_
  with_reducible refine aJ (by kernel_rfl) ?_
  with_reducible refine cS (by kernel_rfl) (by kernel_rfl) ?_
  with_reducible refine aP ?_; delta R.eval_run_expression
  with_reducible refine aC ?_
  with_reducible refine aR (by kernel_rfl) ?_
  with_reducible refine aC ?_
  with_reducible refine aJ (by kernel_rfl) ?_
  with_reducible refine lf h1 (by kernel_rfl) (by kernel_rfl) ?_
  with_reducible refine aC ?_
  with_reducible refine aD ?_
  with_reducible refine aC ?_
  with_reducible refine aJ (by kernel_rfl) ?_
  with_reducible refine jQ ho (by kernel_rfl) ?_
  with_reducible refine mU (m' := R.bF op a0 a1) (by kernel_rfl) (db hv rfl) ?_
  with_reducible refine aC ?_
  with_reducible refine aR (by kernel_rfl) ?_
  with_reducible refine aC ?_
  with_reducible refine aD ?_
  with_reducible refine aC ?_
  with_reducible refine aD ?_
  with_reducible refine aC ?_
  with_reducible refine aD ?_
  with_reducible refine aC ?_
  with_reducible refine aD ?_
  with_reducible refine aC ?_
  with_reducible refine aJ (by kernel_rfl) ?_
  with_reducible refine cd (by kernel_rfl) ?_
  with_reducible refine aD ?_
  with_reducible refine jK ?_
  with_reducible refine fR ?_
  with_reducible refine aJ (by kernel_rfl) ?_
  with_reducible refine aD ?_
  with_reducible refine lC ?_
  with_reducible refine wv (by kernel_rfl) ?_
  with_reducible refine aD ?_
  with_reducible refine aC ?_
  with_reducible refine aJ (by kernel_rfl) ?_
  with_reducible refine nV ?_; delta R.eval_run_call
  with_reducible refine aC ?_
  with_reducible refine aJ (by kernel_rfl) ?_
  with_reducible refine aR (by kernel_rfl) ?_
  with_reducible refine aC ?_
  with_reducible refine aR (by kernel_rfl) ?_
  with_reducible refine aZ (by kernel_rfl) ?_
  with_reducible refine na ?_; delta R.eval_run_does
  with_reducible refine aC ?_
  with_reducible refine aR (by kernel_rfl) ?_
  with_reducible refine aC ?_
  with_reducible refine aR (by kernel_rfl) ?_
  iterate 10 (with_reducible refine aJ (by kernel_rfl) ?_)
  with_reducible refine aR (by kernel_rfl) ?_
  with_reducible refine aJ (by kernel_rfl) ?_
  with_reducible refine aR (by kernel_rfl) ?_
  with_reducible refine aJ (by kernel_rfl) ?_
  with_reducible refine aR (by kernel_rfl) ?_
  with_reducible refine aJ (by kernel_rfl) ?_
  with_reducible refine aR (by kernel_rfl) ?_
  with_reducible refine aZ (by kernel_rfl) ?_
  with_reducible refine aR (by kernel_rfl) ?_
  with_reducible refine aC ?_
  with_reducible refine nU ?_; delta R.eval_run_host
  with_reducible refine aC ?_
  with_reducible refine aY ?_
  iterate 3 (with_reducible refine aJ (by kernel_rfl) ?_)
  with_reducible refine aZ (by kernel_rfl) ?_
  exact w_nof (m' := R.bg v) (by kernel_rfl) hn
theorem bi_0T {op : List UInt8} {x0 : jL} {a0 : iB} (h0 : js x0 a0) {x1 : jL} {a1 : iB} (h1 : js x1 a1) (ho : (op == [105, 110]) = false) {v : iB} (hv : (R.bF op a0 a1).strip = some (v, 0)) (hno : v.1 ≠ 6) {l : List Int} (hu : (R.bg v).strip = some (l, 0)) : (R.ba (bi op x0 x1) (20, (20, 50)) []).sat (· = asks l) := by
  unfold R.ba R.bV
  obtain ⟨k, hk⟩ := lv
  rw [hk]
  with_reducible refine aC ?_
  with_reducible refine aR (by kernel_rfl) ?_
  with_reducible refine aC ?_
  with_reducible refine aY ?_
  with_reducible refine aC ?_
  with_reducible refine aR (by kernel_rfl) ?_
  with_reducible refine aC ?_
  with_reducible refine aJ (by kernel_rfl) ?_
  with_reducible refine aR (by kernel_rfl) ?_
  with_reducible refine aC ?_
  with_reducible refine aJ (by kernel_rfl) ?_
  with_reducible refine cS (by kernel_rfl) (by kernel_rfl) ?_
  with_reducible refine gy ?_; delta R.eval_run_list
  with_reducible refine aC ?_
  with_reducible refine aY ?_
  with_reducible refine kI hk ?_
  with_reducible refine aZ (by kernel_rfl) ?_
  with_reducible refine cS (by kernel_rfl) (by kernel_rfl) ?_
  with_reducible refine ef ?_; delta R.eval_run_statement
  with_reducible refine aC ?_
  with_reducible refine aR (by kernel_rfl) ?_
  with_reducible refine aC ?_
  with_reducible refine aJ (by kernel_rfl) ?_
  with_reducible refine iS ?_; delta R.eval_run_act
  with_reducible refine aC ?_
  with_reducible refine cS (by kernel_rfl) (by kernel_rfl) ?_
  with_reducible refine aZ (by kernel_rfl) ?_
  with_reducible refine cS (by kernel_rfl) (by kernel_rfl) ?_
  with_reducible refine aP ?_; delta R.eval_run_expression
  with_reducible refine aC ?_
  with_reducible refine aR (by kernel_rfl) ?_
  with_reducible refine aC ?_
  with_reducible refine aJ (by kernel_rfl) ?_
  with_reducible refine cb ?_; delta R.eval_run_value
  with_reducible refine aC ?_
  with_reducible refine cS (by kernel_rfl) (by kernel_rfl) ?_
  iterate 4 (with_reducible refine aJ (by kernel_rfl) ?_)
  with_reducible refine aR (by kernel_rfl) ?_
  iterate 5 (with_reducible refine aJ (by kernel_rfl) ?_)
  with_reducible refine aR (by kernel_rfl) ?_
  with_reducible refine aJ (by kernel_rfl) ?_
  with_reducible refine bX ?_; delta R.eval_run_operation
  with_reducible refine aC ?_
  with_reducible refine aJ (by kernel_rfl) ?_
  with_reducible refine aR (by kernel_rfl) ?_
  iterate 5 (with_reducible refine aJ (by kernel_rfl) ?_)
  with_reducible refine aZ (by kernel_rfl) ?_
  with_reducible refine gA ?_; delta R.eval_run_callee
  with_reducible refine aC ?_
  with_reducible refine cS (by kernel_rfl) (by kernel_rfl) ?_
  with_reducible refine aR (by kernel_rfl) ?_
  with_reducible refine aC ?_
  with_reducible refine aJ (by kernel_rfl) ?_
  with_reducible refine cd (by kernel_rfl) ?_
  with_reducible refine ed ?_; delta R.eval_run_arguments
  with_reducible refine aC ?_
  with_reducible refine aY ?_
  with_reducible refine kI hk ?_
  with_reducible refine aZ (by kernel_rfl) ?_
  with_reducible refine cS (by kernel_rfl) (by kernel_rfl) ?_
  with_reducible refine aP ?_; delta R.eval_run_expression
  with_reducible refine aC ?_
  with_reducible refine aR (by kernel_rfl) ?_
  with_reducible refine aC ?_
  with_reducible refine aJ (by kernel_rfl) ?_
  with_reducible refine cb ?_; delta R.eval_run_value
  with_reducible refine aC ?_
  with_reducible refine cS (by kernel_rfl) (by kernel_rfl) ?_
  iterate 4 (with_reducible refine aJ (by kernel_rfl) ?_)
  with_reducible refine aR (by kernel_rfl) ?_
  iterate 5 (with_reducible refine aJ (by kernel_rfl) ?_)
  with_reducible refine aR (by kernel_rfl) ?_
  with_reducible refine aJ (by kernel_rfl) ?_
  with_reducible refine bX ?_; delta R.eval_run_operation
  with_reducible refine aC ?_
  with_reducible refine aJ (by kernel_rfl) ?_
  with_reducible refine aR (by kernel_rfl) ?_
  with_reducible refine aJ (by kernel_rfl) ?_
  with_reducible refine aZ (by kernel_rfl) ?_
  with_reducible refine gB ?_; delta R.eval_run_binary
  with_reducible refine aC ?_
  with_reducible refine cS (by kernel_rfl) (by kernel_rfl) ?_
  with_reducible refine aP ?_; delta R.eval_run_expression
  with_reducible refine aC ?_
  with_reducible refine aR (by kernel_rfl) ?_
  with_reducible refine aC ?_
  with_reducible refine aJ (by kernel_rfl) ?_
  with_reducible refine lf h0 (by kernel_rfl) (by kernel_rfl) ?_
  with_reducible refine aC ?_
  with_reducible refine aD ?_
  with_reducible refine aC ?_
  with_reducible refine aJ (by kernel_rfl) ?_
  with_reducible refine cS (by kernel_rfl) (by kernel_rfl) ?_
  with_reducible refine aP ?_; delta R.eval_run_expression
  with_reducible refine aC ?_
  with_reducible refine aR (by kernel_rfl) ?_
  with_reducible refine aC ?_
  with_reducible refine aJ (by kernel_rfl) ?_
  with_reducible refine lf h1 (by kernel_rfl) (by kernel_rfl) ?_
  with_reducible refine aC ?_
  with_reducible refine aD ?_
  with_reducible refine aC ?_
  with_reducible refine aJ (by kernel_rfl) ?_
  with_reducible refine jQ ho (by kernel_rfl) ?_
  with_reducible refine mU (m' := R.bF op a0 a1) (by kernel_rfl) (db hv rfl) ?_
  with_reducible refine aC ?_
  with_reducible refine aR (by kernel_rfl) ?_
  with_reducible refine aC ?_
  with_reducible refine aD ?_
  with_reducible refine aC ?_
  with_reducible refine aD ?_
  with_reducible refine aC ?_
  with_reducible refine aD ?_
  with_reducible refine aC ?_
  with_reducible refine aD ?_
  with_reducible refine aC ?_
  with_reducible refine aJ (by kernel_rfl) ?_
  with_reducible refine cd (by kernel_rfl) ?_
  with_reducible refine aD ?_
  with_reducible refine jK ?_
  with_reducible refine fR ?_
  with_reducible refine aJ (by kernel_rfl) ?_
  with_reducible refine aD ?_
  with_reducible refine lC ?_
  with_reducible refine wv (by kernel_rfl) ?_
  with_reducible refine aD ?_
  with_reducible refine aC ?_
  with_reducible refine aJ (by kernel_rfl) ?_
  with_reducible refine nV ?_; delta R.eval_run_call
  with_reducible refine aC ?_
  with_reducible refine aJ (by kernel_rfl) ?_
  with_reducible refine aR (by kernel_rfl) ?_
  with_reducible refine aC ?_
  with_reducible refine aR (by kernel_rfl) ?_
  with_reducible refine aZ (by kernel_rfl) ?_
  with_reducible refine na ?_; delta R.eval_run_does
  with_reducible refine aC ?_
  with_reducible refine aR (by kernel_rfl) ?_
  with_reducible refine aC ?_
  with_reducible refine aR (by kernel_rfl) ?_
  iterate 10 (with_reducible refine aJ (by kernel_rfl) ?_)
  with_reducible refine aR (by kernel_rfl) ?_
  with_reducible refine aJ (by kernel_rfl) ?_
  with_reducible refine aR (by kernel_rfl) ?_
  with_reducible refine aJ (by kernel_rfl) ?_
  with_reducible refine aR (by kernel_rfl) ?_
  with_reducible refine aJ (by kernel_rfl) ?_
  with_reducible refine aR (by kernel_rfl) ?_
  with_reducible refine aZ (by kernel_rfl) ?_
  with_reducible refine aR (by kernel_rfl) ?_
  with_reducible refine aC ?_
  with_reducible refine nU ?_; delta R.eval_run_host
  with_reducible refine aC ?_
  with_reducible refine aY ?_
  iterate 3 (with_reducible refine aJ (by kernel_rfl) ?_)
  with_reducible refine aZ (by kernel_rfl) ?_
  with_reducible refine mU (m' := R.bg v) (by kernel_rfl) (db hu rfl) ?_
  with_reducible refine aC ?_
  with_reducible refine aJ (by kernel_rfl) ?_
  with_reducible refine aD ?_
  with_reducible refine wv (by kernel_rfl) ?_
  with_reducible refine aR (by kernel_rfl) ?_
  with_reducible refine aC ?_
  with_reducible refine aZ (by kernel_rfl) ?_
  with_reducible refine aD ?_
  with_reducible refine aC ?_
  with_reducible refine aD ?_
  with_reducible refine aC ?_
  with_reducible refine aD ?_
  with_reducible refine aC ?_
  with_reducible refine aD ?_
  with_reducible refine aC ?_
  with_reducible refine aD ?_
  with_reducible refine aC ?_
  with_reducible refine aD ?_
  with_reducible refine aC ?_
  with_reducible refine aD ?_
  with_reducible refine aC ?_
  with_reducible refine aZ (by kernel_rfl) ?_
  with_reducible refine aD ?_
  with_reducible refine aC ?_
  with_reducible refine aD ?_
  with_reducible refine aC ?_
  with_reducible refine aZ (by kernel_rfl) ?_
  with_reducible refine aD ?_
  with_reducible refine lC ?_
  with_reducible refine nu (by kernel_rfl) ?_
  with_reducible refine aD ?_
  with_reducible refine aC ?_
  with_reducible refine aD ?_
  with_reducible refine aC ?_
  with_reducible refine aZ (by kernel_rfl) ?_
  with_reducible refine aD ?_
  kernel_rfl
theorem bi_0 {op : List UInt8} {x0 : jL} {a0 : iB} (h0 : js x0 a0) {x1 : jL} {a1 : iB} (h1 : js x1 a1) (ho : (op == [105, 110]) = false) {v : iB} (hv : (R.bF op a0 a1).strip = some (v, 0)) (hno : v.1 ≠ 6) : (R.ba (bi op x0 x1) (20, (20, 50)) []).sat (fun r => Out v 0 r) := by
  rcases vW (AH (v := v) hno) with hn | ⟨⟨l, s⟩, hu, hs⟩
  · exact bi_0N h0 h1 ho hv hno hn
  · have hs : s = 0 := hs
    subst hs
    exact jU (bi_0T h0 h1 ho hv hno hu) fun r e => e ▸ .asks l hu
theorem bi_run {op : List UInt8} {x0 : jL} {a0 : iB} (h0 : js x0 a0) {x1 : jL} {a1 : iB} (h1 : js x1 a1) (ho : (op == [105, 110]) = false) : (R.ba (bi op x0 x1) (20, (20, 50)) []).sat (fun r => ∃ v s, (R.bF op a0 a1).strip = some (v, s) ∧ Out v s r) := by
  rcases vW (m := R.bF op a0 a1) iL.ok with hn | ⟨⟨v, s⟩, hv, g1, g6⟩
  · exact bi_n h0 h1 ho hn
  have g1 : 0 ≤ s ∧ s ≤ 5 := g1
  rcases xb g1 with rfl | rfl | rfl | rfl | rfl | rfl
  · exact jU (bi_0 h0 h1 ho hv g6) fun r h => ⟨v, 0, hv, h⟩
  · exact jU (bi_1 h0 h1 ho hv) fun r e => e ▸ ⟨v, 1, hv, .sZ tD 1 (by simp)⟩
  · exact jU (bi_2 h0 h1 ho hv) fun r e => e ▸ ⟨v, 2, hv, .sZ tD 2 (by simp)⟩
  · exact jU (bi_3 h0 h1 ho hv) fun r e => e ▸ ⟨v, 3, hv, .exit tD []⟩
  · exact jU (bi_4 h0 h1 ho hv) fun r e => e ▸ ⟨v, 4, hv, .sZ tD 4 (by simp)⟩
  · exact jU (bi_5 h0 h1 ho hv) fun r e => e ▸ ⟨v, 5, hv, .sZ tD 5 (by simp)⟩
end Go.Mach
set_option maxRecDepth 1000000
namespace Go.Mach
open Res
theorem uD {e0 : jL} {rest : List jL} {i : Nat} {e : jL} {b : Bool} (hb : vj (e0 :: rest) = true) (hk0 : e0.1 = 1) (h1 : ∀ e ∈ rest, e.1 ≠ 1) (hi : (e0 :: rest)[i]? = some e) (hf : ∀ (j : Nat) e', (e0 :: rest)[j]? = some e' → j ≠ i → (R.cf e').sat (· = true)) (hs : (R.cf e).sat (· = b)) : (R.fa (e0 :: rest)).sat (· = b) := by
  cases b with
  | true =>
    refine yM hb hk0 h1 fun e' he' => ?_
    obtain ⟨j, hj, rfl⟩ := List.mem_iff_getElem.1 he'
    by_cases hji : j = i
    · subst hji
      rw [List.getElem?_eq_getElem hj] at hi
      cases hi
      exact hs
    · exact hf j _ (List.getElem?_eq_getElem hj) hji
  | false =>
    simp only [vj, Bool.and_eq_true, decide_eq_true_eq, beq_iff_eq, List.all_eq_true, List.mem_range] at hb
    obtain ⟨b1, b2, b3, b4⟩ := hb
    generalize ht : e0 :: rest = t at *
    have h0 : t[0]? = some e0 := by rw [← ht]; rfl
    have hne : ∀ (n : Nat) e, 0 < n → t[n]? = some e → e.1 ≠ 1 := fun n e hn he => by
      obtain ⟨m, rfl⟩ : ∃ m, n = m + 1 := ⟨n - 1, by omega⟩
      rw [← ht] at he
      exact h1 e (List.mem_of_getElem? (by simpa using he))
    have hpos : 0 < t.length := (List.getElem?_eq_some_iff.1 h0).1
    have hil : i < t.length := (List.getElem?_eq_some_iff.1 hi).1
    unfold R.fa
    refine aG fun _ => aQ (a := false) ?_ (aJ rfl ?_)
    · refine aJ (by rw [beq_eq_false_iff_ne]; omega) (aJ (by rw [dq]; omega) (cT (by omega) (by simpa using hpos) fun e he _ => ?_))
      have he : t[0]? = some e := he
      rw [h0] at he; cases he
      exact aJ (by simp [hk0]) (aQ (db b2 rfl) (aD rfl))
    refine aQ (a := .inr false) ?_ (Ad (aD rfl))
    refine rP (fun i : Int => i) t.length (by omega) (fun j : Int => 0 ≤ j ∧ j ≤ i) ⟨by omega, by omega⟩ (fun j h => ⟨h.1, by omega⟩) ?_
    rintro j ⟨i0, i1⟩
    refine bf (fun h => ?_) fun h => ?_
    · have hj : j.toNat < t.length := by omega
      have hin : ((j.toNat : Nat) : Int) = j := by omega
      have w : IntKind.wrap .i64 (j + 1) = j + 1 := wrap64 ⟨by omega, by omega⟩
      have kd : (R.gu t j).sat (· = true) := by
        have := db (Φ := (· = true)) (b3 _ hj) rfl
        rwa [hin] at this
      by_cases hji : j.toNat = i
      · have fd : ∀ e', t[j.toNat]? = some e' → (R.cf e').sat (· = false) := fun e' he' => by
          rw [hji, hi] at he'; cases he'; exact hs
        refine aQ (a := true) (bf (fun hp => ?_) fun hp => ?_) (aZ rfl (aD rfl))
        · rw [ei] at hp
          refine cT i0 hj fun e he _ => ?_
          exact aJ (by simpa using hne _ e (by omega) he) (cT i0 hj fun e' he' _ => aQ (fd _ he') (aZ rfl (aD rfl)))
        · exact cT i0 hj fun e' he' _ => aQ (fd _ he') (aZ rfl (aD rfl))
      · refine aQ (a := false) (bf (fun hp => ?_) fun hp => ?_) (aJ rfl (aD ⟨w, by rw [w]; omega, by rw [w]; omega⟩))
        · rw [ei] at hp
          refine cT i0 hj fun e he _ => ?_
          exact aJ (by simpa using hne _ e (by omega) he) (cT i0 hj fun e' he' _ => aQ (hf _ _ he' hji) (aJ rfl (aQ kd (aD rfl))))
        · exact cT i0 hj fun e' he' _ => aQ (hf _ _ he' hji) (aJ rfl (aQ kd (aD rfl)))
    · rw [dq] at h; omega
end Go.Mach
set_option maxRecDepth 1000000
namespace Go.Mach
open Res
theorem yr : ∀ F : Res Bool, F = R.cN → F.sat (· = true) := by
  intro F h
  have h2 := tX
  rw [← h] at h2
  exact Res.db h2 rfl
instance zf {a} : Safe (R.bW a) := by unfold R.bW; repeat' (first | with_reducible (first | apply Safe.g' | apply Safe.br' | apply Safe.bd' | apply Safe.sm' | intro _ | infer_instance))
theorem pV (a : iB) : (R.bW a).sat fun _ => True := safe
theorem tH {a : iB} {β : Type} {Q : β → Prop} {k : jL × Bool → Res β} (h1 : ∀ x, js x a → (k (x, true)).sat Q) (h2 : ∀ x e, e = false ∨ ¬ qc a → (k (x, e)).sat Q) : ((R.bW a).bind k).sat Q := by
  by_cases hm : qc a
  · refine aV (xv hm) fun ⟨x, e⟩ hx => ?_
    cases e
    · exact h2 x _ (.inl rfl)
    · exact h1 x (hx rfl)
  · exact aV (pV a) fun ⟨x, e⟩ _ => h2 x e (.inr hm)
theorem t_may {a : iB} {k : Res Bool} (h : ¬ qc a) : (Res.bind (R.fL a) fun r => br (!r) (.ok true) k).sat (· = true) := aV rU fun r hr => by
  cases r
  · exact aZ rfl (aD rfl)
  · exact absurd (hr rfl) h
theorem t_e {e : Bool} {p : Prop} {k : Res Bool} (he : e = false ∨ p) (h : p → k.sat (· = true)) : (br (!e) (.ok true) k).sat (· = true) := by
  cases e
  · exact aZ rfl (aD rfl)
  · rcases he with he | he
    · cases he
    · exact aJ rfl (h he)
theorem t_any {e : Bool} {k : Res Bool} (h : k.sat (· = true)) : (br (!e) (.ok true) k).sat (· = true) := bf (fun _ => aD rfl) fun _ => h
end Go.Mach
set_option maxRecDepth 1000000
namespace Go.Mach
open Res
theorem bi_no {op : List UInt8} (hl : ilt 4096 (op.length : Int) = false) (h0 : (op == [43]) = false) (h1 : (op == [45]) = false) (h2 : (op == [42]) = false) (h3 : (op == [47]) = false) (h4 : (op == [37]) = false) (h5 : (op == [38]) = false) (h6 : (op == [124]) = false) (h7 : (op == [94]) = false) (h8 : (op == [60, 60]) = false) (h9 : (op == [62, 62]) = false) (h10 : (op == [62, 62, 62]) = false) (h11 : (op == [60]) = false) (h12 : (op == [62]) = false) (h13 : (op == [60, 61]) = false) (h14 : (op == [62, 61]) = false) (h15 : (op == [61, 61]) = false) (h16 : (op == [33, 61]) = false) (h17 : (op == [61, 61, 61]) = false) (h18 : (op == [33, 61, 61]) = false) (h19 : (op == [105, 110]) = false) : (R.cf (nd 46 op [7, 8])).sat (· = false) := by
  unfold R.cf
  obtain ⟨k, hk⟩ := lv
  with_reducible refine aC ?_
  with_reducible refine aY ?_
  with_reducible refine jQ hl (by kernel_rfl) ?_
  iterate 2 (with_reducible refine aZ (by kernel_rfl) ?_)
  with_reducible refine aJ (by kernel_rfl) ?_
  with_reducible refine aZ (by kernel_rfl) ?_
  with_reducible refine aJ (by kernel_rfl) ?_
  with_reducible refine aZ (by kernel_rfl) ?_
  with_reducible refine aJ (by kernel_rfl) ?_
  with_reducible refine aD ?_
  with_reducible refine aJ (by kernel_rfl) ?_
  with_reducible refine aR (by kernel_rfl) ?_
  iterate 3 (with_reducible refine aJ (by kernel_rfl) ?_)
  with_reducible refine aY ?_; delta R.eX
  with_reducible refine aC ?_
  with_reducible refine aR (by kernel_rfl) ?_
  with_reducible refine aJ (by kernel_rfl) ?_
  with_reducible refine aR (by kernel_rfl) ?_
  iterate 5 (with_reducible refine aJ (by kernel_rfl) ?_)
  with_reducible refine aZ (by kernel_rfl) ?_
  with_reducible refine aY ?_; delta R.aN
  with_reducible refine aC ?_
  with_reducible refine aY ?_; delta R.bI
  with_reducible refine aC ?_
  with_reducible refine aY ?_
  with_reducible refine kI hk ?_
  with_reducible refine aZ (by kernel_rfl) ?_
  with_reducible refine jc (by kernel_rfl) (by kernel_rfl) ?_
  with_reducible refine jQ h0 (by kernel_rfl) ?_
  with_reducible refine aD ?_
  with_reducible refine jK ?_
  with_reducible refine fR ?_
  with_reducible refine aZ (by kernel_rfl) ?_
  with_reducible refine jc (by kernel_rfl) (by kernel_rfl) ?_
  with_reducible refine jQ h1 (by kernel_rfl) ?_
  with_reducible refine aD ?_
  with_reducible refine jK ?_
  with_reducible refine fR ?_
  with_reducible refine aZ (by kernel_rfl) ?_
  with_reducible refine jc (by kernel_rfl) (by kernel_rfl) ?_
  with_reducible refine jQ h2 (by kernel_rfl) ?_
  with_reducible refine aD ?_
  with_reducible refine jK ?_
  with_reducible refine fR ?_
  with_reducible refine aZ (by kernel_rfl) ?_
  with_reducible refine jc (by kernel_rfl) (by kernel_rfl) ?_
  with_reducible refine jQ h3 (by kernel_rfl) ?_
  with_reducible refine aD ?_
  with_reducible refine jK ?_
  with_reducible refine fR ?_
  with_reducible refine aZ (by kernel_rfl) ?_
  with_reducible refine jc (by kernel_rfl) (by kernel_rfl) ?_
  with_reducible refine jQ h4 (by kernel_rfl) ?_
  with_reducible refine aD ?_
  with_reducible refine jK ?_
  with_reducible refine fR ?_
  with_reducible refine aZ (by kernel_rfl) ?_
  with_reducible refine jc (by kernel_rfl) (by kernel_rfl) ?_
  with_reducible refine jQ h5 (by kernel_rfl) ?_
  with_reducible refine aD ?_
  with_reducible refine jK ?_
  with_reducible refine fR ?_
  with_reducible refine aZ (by kernel_rfl) ?_
  with_reducible refine jc (by kernel_rfl) (by kernel_rfl) ?_
  with_reducible refine jQ h6 (by kernel_rfl) ?_
  with_reducible refine aD ?_
  with_reducible refine jK ?_
  with_reducible refine fR ?_
  with_reducible refine aZ (by kernel_rfl) ?_
  with_reducible refine jc (by kernel_rfl) (by kernel_rfl) ?_
  with_reducible refine jQ h7 (by kernel_rfl) ?_
  with_reducible refine aD ?_
  with_reducible refine jK ?_
  with_reducible refine fR ?_
  with_reducible refine aZ (by kernel_rfl) ?_
  with_reducible refine jc (by kernel_rfl) (by kernel_rfl) ?_
  with_reducible refine jQ h8 (by kernel_rfl) ?_
  with_reducible refine aD ?_
  with_reducible refine jK ?_
  with_reducible refine fR ?_
  with_reducible refine aZ (by kernel_rfl) ?_
  with_reducible refine jc (by kernel_rfl) (by kernel_rfl) ?_
  with_reducible refine jQ h9 (by kernel_rfl) ?_
  with_reducible refine aD ?_
  with_reducible refine jK ?_
  with_reducible refine fR ?_
  with_reducible refine aZ (by kernel_rfl) ?_
  with_reducible refine jc (by kernel_rfl) (by kernel_rfl) ?_
  with_reducible refine jQ h10 (by kernel_rfl) ?_
  with_reducible refine aD ?_
  with_reducible refine jK ?_
  with_reducible refine fR ?_
  with_reducible refine aZ (by kernel_rfl) ?_
  with_reducible refine jc (by kernel_rfl) (by kernel_rfl) ?_
  with_reducible refine jQ h11 (by kernel_rfl) ?_
  with_reducible refine aD ?_
  with_reducible refine jK ?_
  with_reducible refine fR ?_
  with_reducible refine aZ (by kernel_rfl) ?_
  with_reducible refine jc (by kernel_rfl) (by kernel_rfl) ?_
  with_reducible refine jQ h12 (by kernel_rfl) ?_
  with_reducible refine aD ?_
  with_reducible refine jK ?_
  with_reducible refine fR ?_
  with_reducible refine aZ (by kernel_rfl) ?_
  with_reducible refine jc (by kernel_rfl) (by kernel_rfl) ?_
  with_reducible refine jQ h13 (by kernel_rfl) ?_
  with_reducible refine aD ?_
  with_reducible refine jK ?_
  with_reducible refine fR ?_
  with_reducible refine aZ (by kernel_rfl) ?_
  with_reducible refine jc (by kernel_rfl) (by kernel_rfl) ?_
  with_reducible refine jQ h14 (by kernel_rfl) ?_
  with_reducible refine aD ?_
  with_reducible refine jK ?_
  with_reducible refine fR ?_
  with_reducible refine aZ (by kernel_rfl) ?_
  with_reducible refine jc (by kernel_rfl) (by kernel_rfl) ?_
  with_reducible refine jQ h15 (by kernel_rfl) ?_
  with_reducible refine aD ?_
  with_reducible refine jK ?_
  with_reducible refine fR ?_
  with_reducible refine aZ (by kernel_rfl) ?_
  with_reducible refine jc (by kernel_rfl) (by kernel_rfl) ?_
  with_reducible refine jQ h16 (by kernel_rfl) ?_
  with_reducible refine aD ?_
  with_reducible refine jK ?_
  with_reducible refine fR ?_
  with_reducible refine aZ (by kernel_rfl) ?_
  with_reducible refine jc (by kernel_rfl) (by kernel_rfl) ?_
  with_reducible refine jQ h17 (by kernel_rfl) ?_
  with_reducible refine aD ?_
  with_reducible refine jK ?_
  with_reducible refine fR ?_
  with_reducible refine aZ (by kernel_rfl) ?_
  with_reducible refine jc (by kernel_rfl) (by kernel_rfl) ?_
  with_reducible refine jQ h18 (by kernel_rfl) ?_
  with_reducible refine aD ?_
  with_reducible refine jK ?_
  with_reducible refine fR ?_
  with_reducible refine aZ (by kernel_rfl) ?_
  with_reducible refine jc (by kernel_rfl) (by kernel_rfl) ?_
  with_reducible refine jQ h19 (by kernel_rfl) ?_
  with_reducible refine aD ?_
  with_reducible refine jK ?_
  with_reducible refine fR ?_
  with_reducible refine aJ (by kernel_rfl) ?_
  with_reducible refine aD ?_
  with_reducible refine lC ?_
  with_reducible refine wv (by kernel_rfl) ?_
  with_reducible refine aD ?_
  with_reducible refine aC ?_
  iterate 3 (with_reducible refine aD ?_)
  kernel_rfl
abbrev xK : List (List UInt8) := [[43], [45], [42], [47], [37], [38], [124], [94], [60, 60], [62, 62], [62, 62, 62], [60], [62], [60, 61], [62, 61], [61, 61], [33, 61], [61, 61, 61], [33, 61, 61], [105, 110]]
theorem yO {op : List UInt8} (hl : ilt 4096 (op.length : Int) = false) : ∃ b, (R.cf (nd 46 op [7, 8])).sat (· = b) ∧ (b = true → op ∈ xK) := by
  by_cases hm : op ∈ xK
  · refine ⟨true, ?_, fun _ => hm⟩
    simp only [xK, List.mem_cons, List.not_mem_nil, or_false] at hm
    rcases hm with rfl | rfl | rfl | rfl | rfl | rfl | rfl | rfl | rfl | rfl | rfl | rfl | rfl | rfl | rfl | rfl | rfl | rfl | rfl | rfl <;> exact et (by kernel_rfl)
  · refine ⟨false, ?_, fun h => by cases h⟩
    simp only [xK, List.mem_cons, List.not_mem_nil, or_false, not_or] at hm
    obtain ⟨h0, h1, h2, h3, h4, h5, h6, h7, h8, h9, h10, h11, h12, h13, h14, h15, h16, h17, h18, h19⟩ := hm
    exact bi_no hl (beq_eq_false_iff_ne.2 h0) (beq_eq_false_iff_ne.2 h1) (beq_eq_false_iff_ne.2 h2) (beq_eq_false_iff_ne.2 h3) (beq_eq_false_iff_ne.2 h4) (beq_eq_false_iff_ne.2 h5) (beq_eq_false_iff_ne.2 h6) (beq_eq_false_iff_ne.2 h7) (beq_eq_false_iff_ne.2 h8) (beq_eq_false_iff_ne.2 h9) (beq_eq_false_iff_ne.2 h10) (beq_eq_false_iff_ne.2 h11) (beq_eq_false_iff_ne.2 h12) (beq_eq_false_iff_ne.2 h13) (beq_eq_false_iff_ne.2 h14) (beq_eq_false_iff_ne.2 h15) (beq_eq_false_iff_ne.2 h16) (beq_eq_false_iff_ne.2 h17) (beq_eq_false_iff_ne.2 h18) (beq_eq_false_iff_ne.2 h19)
theorem bi_may {op : List UInt8} (hl : ilt 4096 (op.length : Int) = false) {x0 x1 : jL} {a0 a1 : iB} (h0 : js x0 a0) (h1 : js x1 a1) : ∃ b, (R.fa (bi op x0 x1)).sat (· = b) := by
  obtain ⟨b, hb, _⟩ := yO hl
  refine ⟨b, uD (i := 6) (AL h0 h1) rfl (fun e he => ?_) rfl (fun j e he hj => ?_) hb⟩
  · simp only [List.mem_cons, List.not_mem_nil, or_false] at he
    rcases he with rfl | rfl | rfl | rfl | rfl | rfl | rfl | rfl <;> first | exact zC h0 | exact zC h1 | simp
  · match j, he with
    | 0, he | 1, he | 2, he | 3, he | 4, he | 5, he => cases he; exact et (by kernel_rfl)
    | 6, _ => exact absurd rfl hj
    | 7, he => cases he; exact sI h0
    | 8, he => cases he; exact sI h1
    | n + 9, he => simp at he
theorem s8 (op : List UInt8) (a b : iB) : iL (R.cq op a b) (· = true) := by
  constructor
  unfold R.cq
  have firstF := yr
  generalize hF : R.cN = F at firstF ⊢
  have mI := firstF _ rfl
  refine aG fun _ => aQ mI (aJ rfl ?_)
  refine tH (fun x hx => aG fun _ => ?_) fun x e he => aG fun _ => aV (pV b) fun r _ => aG fun _ => aQ (t_e he fun h => t_any (t_may h)) (aZ rfl (aQ mI (aD rfl)))
  refine tH (fun y hy => aG fun _ => ?_) fun y e he => aG fun _ => aQ (aJ rfl (t_e he fun h => aQ (qd hx) (aJ rfl (t_may h)))) (aZ rfl (aQ mI (aD rfl)))
  refine aV (R := fun b => b = false → ilt 10 (op.length : Int) = false ∧ (op == [105, 110]) = false) (aJ rfl (aJ rfl (aQ (qd hx) (aJ rfl (aQ (qd hy) (aJ rfl (bf (fun _ => aD (fun h => by cases h)) fun hl => aD fun h => ⟨hl, h⟩))))))) fun b hb => bf (fun _ => aQ mI (aD rfl)) fun h2 => ?_
  obtain ⟨hl, ho⟩ := hb h2
  have hl : ilt 4096 (op.length : Int) = false := by rw [dq] at hl ⊢; omega
  obtain ⟨b, hm⟩ := bi_may hl hx hy
  refine aQ (a := bi op x y) (et (by kernel_rfl)) (aG fun _ => aQ hm (bf (fun _ => aQ mI (aD rfl)) fun h3 => ?_))
  obtain rfl : b = true := by cases b; cases h3; rfl
  refine aQ (a := (20, (20, 50))) (et (by kernel_rfl)) (aG fun _ => aV (yx hm (by simp) (AK hx hy) (bi_run hx hy ho)) fun r ⟨v, s, hv, ho⟩ => aG fun _ => aQ (db hv rfl) (aG fun _ => aQ mI (aZ rfl (aQ (yA ho) (aD rfl)))))
end Go.Mach
namespace Go.Mach
theorem wG {P : Program} {c : OpenClaim} (h : P.funcs.any Func.goes = false) (hs : c.start = .entering) : false = c.goesBy P := by
  have h1 : ∀ g : Nat, (P.funcs[g]?).any Func.goes = false := fun g => by
    cases hg : P.funcs[g]? with
    | none => rfl
    | some fn => simpa using (Array.any_eq_false'.1 h) fn (Array.mem_of_getElem? hg)
  have h2 : ∀ f, P.goes f = false := fun f => by
    unfold Program.goes
    rw [h, Bool.and_false, Bool.or_false, List.any_eq_false]
    exact fun g _ => by rw [h1 g]; decide
  have h3 : P.goesFrom c.func = false := by
    unfold Program.goesFrom
    cases P.funcNamed c.func with
    | none => rfl
    | some f => exact h2 f
  unfold OpenClaim.goesBy Program.goesAt
  rw [h3, hs]
  rfl
end Go.Mach
