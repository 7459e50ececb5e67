/-
  Proved here: the lines of any log of at most 40 events and 20000 bytes are one an event and one a pair, and each event's begins with its number (renlaw26.ScriptCounts), where what is read is of bulk at most 1048576 and the library's variables are laid as the program's text lays them.
  Part Oks of the texts. By an AI agent; no person has read it.
-/
import Derived.Test.YtediejlokhnldaaDoorEqs
import Derived.Lib.ItoaLen
import Derived.Lib.AtoiErrMem
import Derived.Lib.AtoiAllCases
import Derived.KernelRfl
import Derived.Test.YtediejlokhnldaaDoorProg
set_option linter.all false
set_option linter.deprecated false
/-
  The contracts of strings.Cut, strconv.Itoa, strconv.Atoi, and what they want of the package-level variables.
-/
set_option maxRecDepth 10000
namespace Go.Mach
open Go.Proofs Go.Shelf

theorem gPow : Tryd.prog.globalNamed "internal/strconv.uint64pow10" = some 3 := by kernel_rfl
theorem gSyn : Tryd.prog.globalNamed "strconv.ErrSyntax" = some 1 := by kernel_rfl
theorem gRng : Tryd.prog.globalNamed "strconv.ErrRange" = some 2 := by kernel_rfl

/-- What is known of the package-level variables. -/
def globs : Glob where
  n := 6
  holds w := (∃ m : Int, w.cell? ⟨0, 0, none⟩ = some (.int .i64 m)) ∧ Lib.TabIs Tryd.prog w "internal/strconv.uint64pow10" .u64 Lib.pow10Tab ∧
    (∃ tp p, World.var? Tryd.prog w "strconv.ErrSyntax" = some #[.iface tp p]) ∧ ∃ tp p, World.var? Tryd.prog w "strconv.ErrRange" = some #[.iface tp p]
  mono := fun w w' h ⟨⟨m, h1⟩, h2, ⟨t3, p3, h3⟩, t4, p4, h4⟩ => by
    refine ⟨⟨m, ?_⟩, ?_, ⟨t3, p3, ?_⟩, t4, p4, ?_⟩
    · simp only [World.cell?, h 0 (by decide)] at h1 ⊢; exact h1
    · simp only [Lib.TabIs, World.var?, gPow, Option.bind_some, h 3 (by decide)] at h2 ⊢; exact h2
    · simp only [World.var?, gSyn, Option.bind_some, h 1 (by decide)] at h3 ⊢; exact h3
    · simp only [World.var?, gRng, Option.bind_some, h 2 (by decide)] at h4 ⊢; exact h4

theorem int_range {n : Int} (h : inRange .i64 n = true) : -9223372036854775808 ≤ n ∧ n ≤ 9223372036854775807 := by
  have h : IntKind.wrap .i64 n = n := by simpa [inRange] using h
  have h1 : ∀ m, -9223372036854775808 ≤ IntKind.wrap .i64 m ∧ IntKind.wrap .i64 m ≤ 9223372036854775807 := by
    intro m
    have e : IntKind.wrap .i64 m = (m + 2 ^ 63) % 2 ^ 64 - 2 ^ 63 := by
      simp only [IntKind.wrap, IntKind.signed, IntKind.bits]; first | rfl | (simp; try omega)
    rw [e]
    constructor <;> omega
  rw [← h]; exact h1 n
theorem range_int {n : Int} (h0 : -9223372036854775808 ≤ n) (h1 : n ≤ 9223372036854775807) : inRange .i64 n = true := by
  have e : IntKind.wrap .i64 n = (n + 2 ^ 63) % 2 ^ 64 - 2 ^ 63 := by
    simp only [IntKind.wrap, IntKind.signed, IntKind.bits]; first | rfl | (simp; try omega)
  simp only [inRange, e, beq_iff_eq]
  omega

theorem strOk_le {n : Nat} (h : strOk n = true) : n ≤ 140737488355328 := by
  simp only [strOk, decide_eq_true_eq] at h; omega
theorem strOk_of {n : Nat} (h : n ≤ 140737488355328) : strOk n = true := by
  simp only [strOk, decide_eq_true_eq]; omega

/-- One value that is a string, a number. -/
theorem str_inv {w : World} {Z Y S : Nat → Prop} {v : Value} {x : List UInt8} (h : ValR w Z Y (false, .frz .str) v x S) : v = strV x ∧ strOk x.length = true := by
  obtain ⟨us, h1, h2, h3⟩ := h
  have h1 : us = [v] := h1
  subst h1
  have h3 : [v] = [strV x] ∧ strOk x.length = true := h3
  exact ⟨by simpa using h3.1, h3.2⟩
theorem int_inv {w : World} {Z Y S : Nat → Prop} {v : Value} {x : Int} (h : ValR w Z Y (false, .frz (.int .i64)) v x S) : v = .int .i64 x ∧ inRange .i64 x = true := by
  obtain ⟨us, h1, h2, h3⟩ := h
  have h1 : us = [v] := h1
  subst h1
  have h3 : [v] = [.int .i64 x] ∧ inRange .i64 x = true := h3
  exact ⟨by simpa using h3.1, h3.2⟩
theorem str_mk {w : World} {Z Y S : Nat → Prop} {x : List UInt8} (h : strOk x.length = true) : ValR w Z Y (false, .frz .str) (strV x) x S := ⟨[strV x], rfl, rfl, rfl, h⟩
theorem int_mk {w : World} {Z Y S : Nat → Prop} {x : Int} (h : inRange .i64 x = true) : ValR w Z Y (false, .frz (.int .i64)) (.int .i64 x) x S := ⟨[.int .i64 x], rfl, rfl, rfl, h⟩
theorem bool_mk {w : World} {Z Y S : Nat → Prop} {x : Bool} : ValR w Z Y (false, .frz .bool) (.bool x) x S := ⟨[.bool x], rfl, rfl, rfl⟩
theorem err_mk {w : World} {Z Y S : Nat → Prop} {v : Value} {b : Bool} (h1 : v.cells = #[v]) (h : ErrR b v) : ValR w Z Y (false, .err) v b S := ⟨[v], rfl, rfl, v, rfl, h⟩

/-- What a contract says where nothing of the caller's is touched. -/
theorem post_pure {w w' : World} {Z S : Nat → Prop} {ps : List Par} {rs : List VSh} {args : List Value} {e : Ending} {v : Value} {vals : List Value} {Ψ : outs (dens rs) (boxes ps) → Prop} {y : outs (dens rs) (boxes ps)}
    (he : e = .returned v) (hΨ : Ψ y) (hret : RetR rs v vals) (hv : ValsR w' Z (fun _ => False) rs vals (outFst (boxes ps) y) (fun _ => False)) (ho : OutsR w' Z (fun _ => False) ps args y (fun _ => False))
    (hZ : ∀ b, Z b → b < w.heap.size) (hsz : w.heap.size ≤ w'.heap.size) (hk : ∀ b, b < w.heap.size → w'.heap[b]? = w.heap[b]?) (hio : Io w w') :
    ∃ y v vals, ∃ Z' S1 S2 : Nat → Prop, e = .returned v ∧ Ψ y ∧ RetR rs v vals ∧
      ValsR w' Z' (fun _ => False) rs vals (outFst (boxes ps) y) S1 ∧ OutsR w' Z' (fun _ => False) ps args y S2 ∧ (∀ d, S1 d → S2 d → False) ∧
      (∀ b, S1 b ∨ S2 b → b < w'.heap.size ∧ ¬ Z' b ∧ (S b ∨ w.heap.size ≤ b)) ∧ (∀ b, Z b → Z' b) ∧ (∀ b, Z' b → b < w'.heap.size ∧ (Z b ∨ S b ∨ w.heap.size ≤ b)) ∧
      w.heap.size ≤ w'.heap.size ∧ (∀ b, b < w.heap.size → ¬ S b → w'.heap[b]? = w.heap[b]?) ∧ Io w w' :=
  ⟨y, v, vals, Z, fun _ => False, fun _ => False, he, hΨ, hret, hv, ho, fun _ h => h.elim, fun b hb => by rcases hb with hb | hb <;> exact hb.elim, fun _ h => h, fun b hb => ⟨Nat.lt_of_lt_of_le (hZ b hb) hsz, .inl hb⟩, hsz, fun b hb _ => hk b hb, hio⟩

theorem itoaS_ok : Contract Tryd.prog globs (itoaSSpec 32) := by
  refine ⟨⟨Tryd.f32, by kernel_rfl, by kernel_rfl, by kernel_rfl⟩, rfl, fun w Z Y S args x Ψ hsat hG hZ hY hS hV => ?_⟩
  obtain ⟨v, rfl, hv⟩ := hV
  have hv : ValR w Z Y (false, .frz (.int .i64)) v x S := hv
  obtain ⟨rfl, hr⟩ := int_inv hv
  obtain ⟨h0, h1⟩ := int_range hr
  have hΨ : Ψ (Lib.itoa x) := hsat
  have hc := Any.strconv_Itoa itoaLay x h0 h1 w hG.1.2.1
  change Calls Tryd.prog 32 _ _ _ at hc
  refine hc.mono ?_
  rintro e w' ⟨rfl, k, os, rfl⟩
  refine post_pure (ps := itoaS.ps) (rs := itoaS.rs) rfl hΨ rfl ⟨strV (Lib.itoa x), rfl, str_mk (strOk_of (Nat.le_trans (Lib.itoa_length_le x h0 h1) (by omega)))⟩ ⟨_, _, rfl, trivial⟩ hZ ?_ ?_ ⟨rfl, rfl, rfl⟩
  · show w.heap.size ≤ (w.heap ++ os).size
    rw [Array.size_append]; omega
  · intro b hb
    show (w.heap ++ os)[b]? = _
    rw [Array.getElem?_append_left hb]

theorem index_le (s sep : List UInt8) : (Lib.cut s sep).1.length ≤ s.length ∧ (Lib.cut s sep).2.1.length ≤ s.length := by
  unfold Lib.cut
  split
  · simp only [List.length_take, List.length_drop]; omega
  · simp

theorem cutS_ok : Contract Tryd.prog globs (cutSSpec 29) := by
  refine ⟨⟨Tryd.f29, by kernel_rfl, by kernel_rfl, by kernel_rfl⟩, rfl, fun w Z Y S args x Ψ hsat hG hZ hY hS hV => ?_⟩
  obtain ⟨x1, x2⟩ := x
  obtain ⟨v, vs', S1, S2, rfl, _, _, _, hv, v2, rfl, hv2⟩ := hV
  have hv : ValR w Z Y (false, .frz .str) v x1 S1 := hv
  have hv2 : ValR w Z Y (false, .frz .str) v2 x2 S2 := hv2
  obtain ⟨rfl, hr⟩ := str_inv hv
  obtain ⟨rfl, hr2⟩ := str_inv hv2
  have hsat : (Res.need (decide (x1.length < 4294967281)) (.ok (Lib.cut x1 x2))).sat Ψ := hsat
  obtain ⟨hlen, hΨ⟩ := sat_need hsat
  have hlen : x1.length < 4294967281 := by simpa using hlen
  have hΨ : Ψ (Lib.cut x1 x2) := hΨ
  obtain ⟨m, hm⟩ := hG.1.1
  have hc := Any.strings_Cut cutLay ⟨⟨x1⟩⟩ ⟨⟨x2⟩⟩ m w hlen hm
  change Calls Tryd.prog 29 _ _ _ at hc
  refine hc.mono ?_
  rintro e w' ⟨rfl, n, rfl⟩
  obtain ⟨i1, i2⟩ := index_le x1 x2
  have hx := strOk_le hr
  refine post_pure (ps := cutS.ps) (rs := cutS.rs) (vals := [strV (Lib.cut x1 x2).1, strV (Lib.cut x1 x2).2.1, .bool (Lib.cut x1 x2).2.2]) rfl hΨ rfl ?_ ⟨_, _, rfl, _, _, rfl, trivial⟩ hZ (Nat.le_refl _) (fun _ _ => rfl) ⟨rfl, rfl, rfl⟩
  exact ⟨_, _, fun _ => False, fun _ => False, rfl, fun _ h => h, fun _ h => h, fun _ h _ => h, str_mk (strOk_of (by omega)), _, _, fun _ => False, fun _ => False, rfl, fun _ h => h, fun _ h => h, fun _ h _ => h, str_mk (strOk_of (by omega)), _, rfl, bool_mk⟩

theorem atoiSat_range (l : List UInt8) : inRange .i64 (Lib.atoiSat l) = true := by
  unfold Lib.atoiSat
  split <;> decide

theorem atoiS_ok : Contract Tryd.prog globs (atoiSSpec 31) := by
  refine ⟨⟨Tryd.f31, by kernel_rfl, by kernel_rfl, by kernel_rfl⟩, rfl, fun w Z Y S args x Ψ hsat hG hZ hY hS hV => ?_⟩
  obtain ⟨v, rfl, hv⟩ := hV
  have hv : ValR w Z Y (false, .frz .str) v x S := hv
  obtain ⟨rfl, hr⟩ := str_inv hv
  have hx := strOk_le hr
  have hsat : (atoiSRun x).sat Ψ := hsat
  unfold atoiSRun at hsat
  have fin : ∀ (n : Int) (b : Bool) (u : Value) (w' : World), inRange .i64 n = true → ErrR b u → u.cells = #[u] → Ψ (n, b) → RowKit.Below w.heap.size w w' → ∃ y v vals, ∃ Z' S1 S2 : Nat → Prop, Ending.returned (.tuple #[.int .i64 n, u]) = .returned v ∧ Ψ y ∧ RetR atoiS.rs v vals ∧
      ValsR w' Z' (fun _ => False) atoiS.rs vals (outFst (boxes atoiS.ps) y) S1 ∧ OutsR w' Z' (fun _ => False) atoiS.ps [strV x] y S2 ∧ (∀ d, S1 d → S2 d → False) ∧
      (∀ b, S1 b ∨ S2 b → b < w'.heap.size ∧ ¬ Z' b ∧ (S b ∨ w.heap.size ≤ b)) ∧ (∀ b, Z b → Z' b) ∧ (∀ b, Z' b → b < w'.heap.size ∧ (Z b ∨ S b ∨ w.heap.size ≤ b)) ∧
      w.heap.size ≤ w'.heap.size ∧ (∀ b, b < w.heap.size → ¬ S b → w'.heap[b]? = w.heap[b]?) ∧ Io w w' := fun n b u w' h1 h2 h3 h4 h5 =>
    post_pure (ps := atoiS.ps) (rs := atoiS.rs) (vals := [.int .i64 n, u]) rfl h4 rfl ⟨_, _, fun _ => False, fun _ => False, rfl, fun _ h => h, fun _ h => h, fun _ h _ => h, int_mk h1, _, rfl, err_mk h3 h2⟩ ⟨_, _, rfl, trivial⟩ hZ h5.size h5.block ⟨h5.os, h5.output, h5.tape⟩
  rcases ha : Lib.atoiAll x with n | _ | _
  · rw [ha] at hsat
    obtain ⟨b1, b2⟩ := Lib.atoiAll_bounds ha
    have hc := Any.strconv_Atoi_ok atoiLay ⟨⟨x⟩⟩ (show x.length ≤ _ by omega) n ha w
    change Calls Tryd.prog 31 _ _ _ at hc
    refine hc.mono ?_
    rintro e w' ⟨rfl, hw⟩
    refine fin n true .nilIface w' (range_int b1 b2) (.inl ⟨rfl, rfl⟩) rfl hsat ?_
    rcases hw with rfl | ⟨t, rfl⟩
    · exact ⟨rfl, rfl, rfl, Nat.le_refl _, fun _ _ => rfl⟩
    · exact Lib.bytesWorld_below _ _ _
  · rw [ha] at hsat
    obtain ⟨tp, p, hp⟩ := hG.1.2.2.1
    have hc := Any.strconv_Atoi_syntax_var atoiLay ⟨⟨x⟩⟩ (show x.length ≤ _ by omega) ha tp p w hp
    change Calls Tryd.prog 31 _ _ _ at hc
    refine hc.mono ?_
    rintro e w' ⟨N, rfl, _, _, hb⟩
    exact fin 0 false _ w' (by decide) (.inr ⟨rfl, _, _, rfl⟩) rfl hsat hb
  · rw [ha] at hsat
    obtain ⟨tp, p, hp⟩ := hG.1.2.2.2
    have hc := Any.strconv_Atoi_range_var atoiLay ⟨⟨x⟩⟩ (show x.length ≤ _ by omega) ha tp p w hp
    change Calls Tryd.prog 31 _ _ _ at hc
    refine hc.mono ?_
    rintro e w' ⟨N, rfl, _, _, hb⟩
    exact fin (Lib.atoiSat x) false _ w' (atoiSat_range x) (.inr ⟨rfl, _, _, rfl⟩) rfl hsat hb
end Go.Mach

/-
  The contracts of the methods of strings.Builder.
-/
set_option maxRecDepth 10000
namespace Go.Mach
open Go.Proofs Go.Shelf

theorem RowR.lt {w : World} {v : Value} {xs : List UInt8} {S : Nat → Prop} {b : Nat} (h : RowR w v xs S b) : RowR w v xs (fun d => S d ∧ d < w.heap.size) b := by
  refine h.imp id ?_
  rintro ⟨g, cap, cur, h1, h2, h3, h4, h5⟩
  exact ⟨g, cap, cur, h1, ⟨h2, (Array.getElem?_eq_some_iff.1 h4).1⟩, h3, h4, h5⟩

/-- A text that comes in. -/
theorem sb_inv {w : World} {Z Y S : Nat → Prop} {v : Value} {x : List UInt8} (h : ValR w Z Y (false, .sb (93, 5)) v x S) : ∃ b q u, v = .pointer (some ⟨b, 0, none⟩) ∧ S b ∧ Blk w b q u ∧ (q = .pointer none ∨ q = .pointer (some ⟨b, 0, none⟩)) ∧ RowR w u x S b := by
  obtain ⟨us, h1, h2, h3⟩ := h
  have h1 : us = [v] := h1
  subst h1
  have h3 : SR w Z Y (.sb (93, 5)) [v] x S := h3
  simp only [SR] at h3
  obtain ⟨b, hv, h0, q, u, h4, h5, h6⟩ := h3
  exact ⟨b, q, u, by simpa using hv, h0, h4, h5, h6⟩
theorem sb_mk {w : World} {Z Y S : Nat → Prop} {b : Nat} {q u : Value} {x : List UInt8} (h0 : S b) (h : Blk w b q u) (hq : q = .pointer none ∨ q = .pointer (some ⟨b, 0, none⟩)) (hr : RowR w u x S b) : SR w Z Y (.sb (93, 5)) [.pointer (some ⟨b, 0, none⟩)] x S := by
  simp only [SR]
  exact ⟨b, rfl, h0, q, u, h, hq, hr⟩

/-- What a write hands back. -/
theorem wrote_out {w w' : World} {Z S S1 : Nat → Prop} {b : Nat} {ys : List UInt8} (hw : Wrote w w' b ys S1) (hb : S1 b) (hbl : b < w.heap.size) (hS1 : ∀ d, S1 d → S d) (hS : ∀ b, S b → b < w.heap.size ∧ ¬ Z b) (hZ : ∀ b, Z b → b < w.heap.size) :
    SR w' Z (fun _ => False) (.sb (93, 5)) [.pointer (some ⟨b, 0, none⟩)] ys (fun d => (S1 d ∨ w.heap.size ≤ d) ∧ d < w'.heap.size) ∧
      (∀ d, (S1 d ∨ w.heap.size ≤ d) ∧ d < w'.heap.size → d < w'.heap.size ∧ ¬ Z d ∧ (S d ∨ w.heap.size ≤ d)) ∧ (∀ d, d < w.heap.size → ¬ S d → w'.heap[d]? = w.heap[d]?) := by
  obtain ⟨u, h1, h2⟩ := hw.blk
  refine ⟨sb_mk ⟨.inl hb, by have := hw.size; omega⟩ h1 (.inr rfl) h2.lt, fun d hd => ⟨hd.2, ?_, hd.1.imp (hS1 d) id⟩, fun d hd hn => hw.keep d hd (fun h => hn (hS1 d h)) (fun e => hn (hS1 d (e ▸ hb)))⟩
  rcases hd.1 with h | h
  · exact (hS d (hS1 d h)).2
  · intro hz; have := hZ d hz; omega

theorem row_len {w : World} {v : Value} {xs : List UInt8} {S : Nat → Prop} {b : Nat} (h : RowR w v xs S b) : ∃ a cap, v = .slice a xs.length cap := by
  rcases h with ⟨rfl, rfl⟩ | ⟨g, cap, cur, rfl, _⟩
  · exact ⟨none, 0, rfl⟩
  · exact ⟨_, _, rfl⟩

theorem len_range {n : Nat} (h : n ≤ 140737488355328) : inRange .i64 (n : Int) = true := range_int (by omega) (by omega)

theorem sbLen_ok : Contract Tryd.prog globs (sbLenSpec 50) := by
  refine ⟨⟨Tryd.f50, by kernel_rfl, by kernel_rfl, by kernel_rfl⟩, rfl, fun w Z Y S args x Ψ hsat hG hZ hY hS hV => ?_⟩
  obtain ⟨v, rfl, hv⟩ := hV
  have hv : ValR w Z Y (false, .sb (93, 5)) v x S := hv
  obtain ⟨b, q, u, rfl, hb, hblk, hq, hrow⟩ := sb_inv hv
  have hsat : (Res.need (strOk (List.length x)) (Res.ok (((List.length x : Nat) : Int), x))).sat Ψ := hsat
  obtain ⟨hl, hΨ⟩ := sat_need hsat
  have hl := strOk_le hl
  have hΨ : Ψ (((List.length x : Nat) : Int), x) := hΨ
  obtain ⟨a, cap, rfl⟩ := row_len hrow
  refine (len_walk hblk).mono ?_
  rintro e w' ⟨rfl, rfl⟩
  refine ⟨_, _, [.int .i64 (List.length x : Nat)], Z, fun _ => False, S, rfl, hΨ, rfl, ⟨_, rfl, int_mk (len_range hl)⟩, ⟨_, _, S, fun _ => False, rfl, fun _ h => h, fun _ h => h.elim, fun _ _ h => h, ?_, trivial⟩, fun _ h => h.elim, fun d hd => ?_, fun _ h => h, fun d hd => ⟨hZ d hd, .inl hd⟩, Nat.le_refl _, fun _ _ _ => rfl, Io.refl _⟩
  · exact sb_mk hb hblk hq hrow
  · rcases hd with hd | hd
    · exact hd.elim
    · exact ⟨(hS d hd).1, (hS d hd).2, .inl hd⟩

theorem sbStr_ok : Contract Tryd.prog globs (sbStrSpec 52) := by
  refine ⟨⟨Tryd.f52, by kernel_rfl, by kernel_rfl, by kernel_rfl⟩, rfl, fun w Z Y S args x Ψ hsat hG hZ hY hS hV => ?_⟩
  obtain ⟨x1, x2, rfl⟩ : ∃ x1 x2 : List UInt8, x = (x1, x2) := ⟨x.1, x.2, rfl⟩
  obtain ⟨v, vs', S1, S2, rfl, hS1, _, _, hv, v2, rfl, hv2⟩ := hV
  have hv : ValR w Z Y (false, .sb (93, 5)) v x1 S1 := hv
  have hv2 : ValR w Z Y (false, .frz .str) v2 x2 S2 := hv2
  obtain ⟨b, q, u, rfl, hb, hblk, hq, hrow⟩ := sb_inv hv
  obtain ⟨rfl, hr2⟩ := str_inv hv2
  have hsat : (Res.need (strOk (List.length x1 + List.length x2)) (.ok ((((List.length x2 : Nat) : Int), true), x1 ++ x2))).sat Ψ := hsat
  obtain ⟨hl, hΨ⟩ := sat_need hsat
  have hl := strOk_le hl
  have hΨ : Ψ ((((List.length x2 : Nat) : Int), true), x1 ++ x2) := hΨ
  refine (wstr_walk hblk hq hrow x2 hl).mono ?_
  rintro e w' ⟨rfl, hw⟩
  obtain ⟨o1, o2, o3⟩ := wrote_out hw hb (hS b (hS1 b hb)).1 hS1 hS hZ
  refine ⟨_, _, [.int .i64 (List.length x2 : Nat), .nilIface], Z, fun _ => False, _, rfl, hΨ, rfl, ⟨_, _, fun _ => False, fun _ => False, rfl, fun _ h => h, fun _ h => h, fun _ h _ => h, int_mk (len_range (by have := strOk_le hr2; omega)), _, rfl, err_mk rfl (.inl ⟨rfl, rfl⟩)⟩,
    ⟨_, _, _, fun _ => False, rfl, fun _ h => h, fun _ h => h.elim, fun _ _ h => h, o1, _, _, rfl, trivial⟩, fun _ h => h.elim, fun d hd => ?_, fun _ h => h, fun d hd => ⟨Nat.lt_of_lt_of_le (hZ d hd) hw.size, .inl hd⟩, hw.size, o3, hw.io⟩
  rcases hd with hd | hd
  · exact hd.elim
  · exact o2 d hd

theorem byte_val {n : Int} (h : inRange .u8 n = true) : n = ((UInt8.ofNat n.toNat).toNat : Int) := by
  have h : IntKind.wrap .u8 n = n := by simpa [inRange] using h
  simp [IntKind.wrap, IntKind.signed, IntKind.bits] at h
  rw [UInt8.toNat_ofNat']
  omega

theorem sbByte_ok : Contract Tryd.prog globs (sbByteSpec 51) := by
  refine ⟨⟨Tryd.f51, by kernel_rfl, by kernel_rfl, by kernel_rfl⟩, rfl, fun w Z Y S args x Ψ hsat hG hZ hY hS hV => ?_⟩
  obtain ⟨x1, x2, rfl⟩ : ∃ (x1 : List UInt8) (x2 : Int), x = (x1, x2) := ⟨x.1, x.2, rfl⟩
  obtain ⟨v, vs', S1, S2, rfl, hS1, _, _, hv, v2, rfl, us, h1, h2, h3⟩ := hV
  have hv : ValR w Z Y (false, .sb (93, 5)) v x1 S1 := hv
  obtain ⟨b, q, u, rfl, hb, hblk, hq, hrow⟩ := sb_inv hv
  have h1 : us = [v2] := h1
  subst h1
  have h3 : [v2] = [.int .u8 x2] ∧ inRange .u8 x2 = true := h3
  obtain ⟨h3, hr⟩ := h3
  have h3 : v2 = .int .u8 x2 := by simpa using h3
  subst h3
  have hsat : (Res.need (strOk (List.length x1 + 1)) (.ok (true, x1 ++ [UInt8.ofNat (Int.toNat x2)]))).sat Ψ := hsat
  obtain ⟨hl, hΨ⟩ := sat_need hsat
  have hl := strOk_le hl
  have hΨ : Ψ (true, x1 ++ [UInt8.ofNat (Int.toNat x2)]) := hΨ
  have hc := wbyte_walk hblk hq hrow (UInt8.ofNat (Int.toNat x2)) hl
  rw [← byte_val hr] at hc
  refine hc.mono ?_
  rintro e w' ⟨rfl, hw⟩
  obtain ⟨o1, o2, o3⟩ := wrote_out hw hb (hS b (hS1 b hb)).1 hS1 hS hZ
  refine ⟨_, _, [.nilIface], Z, fun _ => False, _, rfl, hΨ, rfl, ⟨_, rfl, err_mk rfl (.inl ⟨rfl, rfl⟩)⟩,
    ⟨_, _, _, fun _ => False, rfl, fun _ h => h, fun _ h => h.elim, fun _ _ h => h, o1, _, _, rfl, trivial⟩, fun _ h => h.elim, fun d hd => ?_, fun _ h => h, fun d hd => ⟨Nat.lt_of_lt_of_le (hZ d hd) hw.size, .inl hd⟩, hw.size, o3, hw.io⟩
  rcases hd with hd | hd
  · exact hd.elim
  · exact o2 d hd

theorem sbGet_ok : Contract Tryd.prog globs (sbGetSpec 43) := by
  refine ⟨⟨Tryd.f43, by kernel_rfl, by kernel_rfl, by kernel_rfl⟩, rfl, fun w Z Y S args x Ψ hsat hG hZ hY hS hV => ?_⟩
  obtain ⟨v, rfl, hv⟩ := hV
  have hv : ValR w Z Y (false, .sb (93, 5)) v x S := hv
  obtain ⟨b, q, u, rfl, hb, hblk, hq, hrow⟩ := sb_inv hv
  have hsat : (Res.need (strOk (List.length x)) (Res.ok x)).sat Ψ := hsat
  obtain ⟨hl, hΨ⟩ := sat_need hsat
  have hΨ : Ψ x := hΨ
  refine (str_walk hblk hrow).mono ?_
  rintro e w' ⟨rfl, hr⟩
  exact ⟨_, _, [strV x], Z, fun _ => False, fun _ => False, rfl, hΨ, rfl, ⟨_, rfl, str_mk hl⟩, ⟨_, _, rfl, trivial⟩, fun _ h => h.elim, fun d hd => (by rcases hd with hd | hd <;> exact hd.elim), fun _ h => h, fun d hd => ⟨Nat.lt_of_lt_of_le (hZ d hd) hr.size, .inl hd⟩, hr.size, hr.keep, hr.io⟩
end Go.Mach

set_option maxRecDepth 100000
set_option linter.unusedVariables false
namespace Go.Mach
open Go.Proofs
theorem mixed : Tryd.prog.follows .mixedOrders = true := by kernel_rfl
theorem ok_nil (P : Program) {G : Glob} : ∀ sp ∈ ([] : List Spec), Contract P G sp := fun _ h => by cases h
theorem ok_cons {P : Program} {G : Glob} {s : Spec} {l : List Spec} (h : Contract P G s) (t : ∀ sp ∈ l, Contract P G sp) : ∀ sp ∈ s :: l, Contract P G sp := fun sp hm => by
  rcases List.mem_cons.1 hm with rfl | hm
  · exact h
  · exact t sp hm
theorem script_words.ok : Contract Tryd.prog globs script_words.spec := contract_of (E := script_words.env) (sp := script_words.spec) (fn := Tryd.f30) (ann := script_words.ann) mixed (ok_nil _) (by kernel_rfl) (by kernel_rfl) (by kernel_rfl) (by kernel_rfl) (by kernel_rfl) (by kernel_rfl) (by kernel_rfl) (fun _ => script_words.eq)
theorem script_Parse.ok : Contract Tryd.prog globs script_Parse.spec := contract_of (E := script_Parse.env) (sp := script_Parse.spec) (fn := Tryd.f10) (ann := script_Parse.ann) mixed (ok_cons atoiS_ok (ok_cons cutS_ok (ok_cons itoaS_ok (ok_cons script_words.ok (ok_nil _))))) (by kernel_rfl) (by kernel_rfl) (by kernel_rfl) (by kernel_rfl) (by kernel_rfl) (by kernel_rfl) (by kernel_rfl) (fun x => script_Parse.eq x)
theorem script_Print.ok : Contract Tryd.prog globs script_Print.spec := contract_of (E := script_Print.env) (sp := script_Print.spec) (fn := Tryd.f12) (ann := script_Print.ann) mixed (ok_cons itoaS_ok (ok_cons script_words.ok (ok_nil _))) (by kernel_rfl) (by kernel_rfl) (by kernel_rfl) (by kernel_rfl) (by kernel_rfl) (by kernel_rfl) (by kernel_rfl) (fun x => script_Print.eq x)
theorem renlaw26_first.ok : Contract Tryd.prog globs renlaw26_first.spec := contract_of (E := renlaw26_first.env) (sp := renlaw26_first.spec) (fn := Tryd.f9) (ann := renlaw26_first.ann) mixed (ok_cons script_Parse.ok (ok_cons script_Print.ok (ok_nil _))) (by kernel_rfl) (by kernel_rfl) (by kernel_rfl) (by kernel_rfl) (by kernel_rfl) (by kernel_rfl) (by kernel_rfl) (fun _ => renlaw26_first.eq)
theorem renref24_words.ok : Contract Tryd.prog globs renref24_words.spec := contract_of (E := renref24_words.env) (sp := renref24_words.spec) (fn := Tryd.f33) (ann := renref24_words.ann) mixed (ok_nil _) (by kernel_rfl) (by kernel_rfl) (by kernel_rfl) (by kernel_rfl) (by kernel_rfl) (by kernel_rfl) (by kernel_rfl) (fun _ => renref24_words.eq)
theorem renref_Dec.ok : ∀ fu, Contract Tryd.prog globs (renref_Dec.spec fu) := contract_rec (f := 28) (ps := renref_Dec.ps) (rs := renref_Dec.rs) (run := fun fu x => R.renref_Dec fu x) (E := renref_Dec.env) (fn := Tryd.f28) (ann := renref_Dec.ann) (fun _ => rfl) mixed (fun fu h => (ok_cons h (ok_nil _))) (by kernel_rfl) (by kernel_rfl) (by kernel_rfl) (by kernel_rfl) (by kernel_rfl) (by kernel_rfl) (by kernel_rfl) (fun _ => rfl) (fun fu x => renref_Dec.eq fu x)
theorem renref24_number.ok : Contract Tryd.prog globs renref24_number.spec := contract_of (E := renref24_number.env) (sp := renref24_number.spec) (fn := Tryd.f34) (ann := renref24_number.ann) mixed (ok_cons (renref_Dec.ok fuel) (ok_nil _)) (by kernel_rfl) (by kernel_rfl) (by kernel_rfl) (by kernel_rfl) (by kernel_rfl) (by kernel_rfl) (by kernel_rfl) (fun x => renref24_number.eq x)
theorem renref24_Parse.ok : Contract Tryd.prog globs renref24_Parse.spec := contract_of (E := renref24_Parse.env) (sp := renref24_Parse.spec) (fn := Tryd.f11) (ann := renref24_Parse.ann) mixed (ok_cons renref24_number.ok (ok_cons renref24_words.ok (ok_nil _))) (by kernel_rfl) (by kernel_rfl) (by kernel_rfl) (by kernel_rfl) (by kernel_rfl) (by kernel_rfl) (by kernel_rfl) (fun x => renref24_Parse.eq x)
theorem renref24_Print.ok : Contract Tryd.prog globs renref24_Print.spec := contract_of (E := renref24_Print.env) (sp := renref24_Print.spec) (fn := Tryd.f13) (ann := renref24_Print.ann) mixed (ok_cons (renref_Dec.ok fuel) (ok_cons renref24_words.ok (ok_nil _))) (by kernel_rfl) (by kernel_rfl) (by kernel_rfl) (by kernel_rfl) (by kernel_rfl) (by kernel_rfl) (by kernel_rfl) (fun x => renref24_Print.eq x)
theorem renlaw26_same.ok : Contract Tryd.prog globs renlaw26_same.spec := contract_of (E := renlaw26_same.env) (sp := renlaw26_same.spec) (fn := Tryd.f14) (ann := renlaw26_same.ann) mixed (ok_nil _) (by kernel_rfl) (by kernel_rfl) (by kernel_rfl) (by kernel_rfl) (by kernel_rfl) (by kernel_rfl) (by kernel_rfl) (fun x => renlaw26_same.eq x.1 x.2)
theorem renlaw26_ScriptLines.ok : Contract Tryd.prog globs renlaw26_ScriptLines.spec := contract_of (E := renlaw26_ScriptLines.env) (sp := renlaw26_ScriptLines.spec) (fn := Tryd.f3) (ann := renlaw26_ScriptLines.ann) mixed (ok_cons renlaw26_first.ok (ok_cons renlaw26_same.ok (ok_cons renref24_Parse.ok (ok_cons renref24_Print.ok (ok_cons script_Parse.ok (ok_cons script_Print.ok (ok_nil _))))))) (by kernel_rfl) (by kernel_rfl) (by kernel_rfl) (by kernel_rfl) (by kernel_rfl) (by kernel_rfl) (by kernel_rfl) (fun x => renlaw26_ScriptLines.eq x.1 x.2)
theorem renlaw26_ScriptBack.ok : Contract Tryd.prog globs renlaw26_ScriptBack.spec := contract_of (E := renlaw26_ScriptBack.env) (sp := renlaw26_ScriptBack.spec) (fn := Tryd.f4) (ann := renlaw26_ScriptBack.ann) mixed (ok_cons renlaw26_first.ok (ok_cons script_Parse.ok (ok_cons script_Print.ok (ok_nil _)))) (by kernel_rfl) (by kernel_rfl) (by kernel_rfl) (by kernel_rfl) (by kernel_rfl) (by kernel_rfl) (by kernel_rfl) (fun x => renlaw26_ScriptBack.eq x.1 x.2)
theorem script_act.ok : Contract Tryd.prog globs script_act.spec := contract_of (E := script_act.env) (sp := script_act.spec) (fn := Tryd.f35) (ann := script_act.ann) mixed (ok_nil _) (by kernel_rfl) (by kernel_rfl) (by kernel_rfl) (by kernel_rfl) (by kernel_rfl) (by kernel_rfl) (by kernel_rfl) (fun x => script_act.eq x.1 x.2)
theorem script_Acts.ok : Contract Tryd.prog globs script_Acts.spec := contract_of (E := script_Acts.env) (sp := script_Acts.spec) (fn := Tryd.f15) (ann := script_Acts.ann) mixed (ok_cons script_act.ok (ok_nil _)) (by kernel_rfl) (by kernel_rfl) (by kernel_rfl) (by kernel_rfl) (by kernel_rfl) (by kernel_rfl) (by kernel_rfl) (fun x => script_Acts.eq x)
theorem renlaw26_ScriptCuts.ok : Contract Tryd.prog globs renlaw26_ScriptCuts.spec := contract_of (E := renlaw26_ScriptCuts.env) (sp := renlaw26_ScriptCuts.spec) (fn := Tryd.f5) (ann := renlaw26_ScriptCuts.ann) mixed (ok_cons renlaw26_first.ok (ok_cons script_Acts.ok (ok_nil _))) (by kernel_rfl) (by kernel_rfl) (by kernel_rfl) (by kernel_rfl) (by kernel_rfl) (by kernel_rfl) (by kernel_rfl) (fun x => renlaw26_ScriptCuts.eq x.1 x.2)
theorem renref_CopyBytes.ok : Contract Tryd.prog globs renref_CopyBytes.spec := contract_of (E := renref_CopyBytes.env) (sp := renref_CopyBytes.spec) (fn := Tryd.f16) (ann := renref_CopyBytes.ann) mixed (ok_nil _) (by kernel_rfl) (by kernel_rfl) (by kernel_rfl) (by kernel_rfl) (by kernel_rfl) (by kernel_rfl) (by kernel_rfl) (fun x => renref_CopyBytes.eq x)
theorem script_Opts.ok : Contract Tryd.prog globs script_Opts.spec := contract_of (E := script_Opts.env) (sp := script_Opts.spec) (fn := Tryd.f17) (ann := script_Opts.ann) mixed (ok_nil _) (by kernel_rfl) (by kernel_rfl) (by kernel_rfl) (by kernel_rfl) (by kernel_rfl) (by kernel_rfl) (by kernel_rfl) (fun x => script_Opts.eq x)
theorem renref24_at.ok : Contract Tryd.prog globs renref24_at.spec := contract_of (E := renref24_at.env) (sp := renref24_at.spec) (fn := Tryd.f36) (ann := renref24_at.ann) mixed (ok_nil _) (by kernel_rfl) (by kernel_rfl) (by kernel_rfl) (by kernel_rfl) (by kernel_rfl) (by kernel_rfl) (by kernel_rfl) (fun x => renref24_at.eq x.1 x.2)
theorem renref24_OptsOf.ok : Contract Tryd.prog globs renref24_OptsOf.spec := contract_of (E := renref24_OptsOf.env) (sp := renref24_OptsOf.spec) (fn := Tryd.f18) (ann := renref24_OptsOf.ann) mixed (ok_cons renref24_at.ok (ok_cons renref_CopyBytes.ok (ok_nil _))) (by kernel_rfl) (by kernel_rfl) (by kernel_rfl) (by kernel_rfl) (by kernel_rfl) (by kernel_rfl) (by kernel_rfl) (fun x => renref24_OptsOf.eq x)
theorem renref24_Acts.ok : Contract Tryd.prog globs renref24_Acts.spec := contract_of (E := renref24_Acts.env) (sp := renref24_Acts.spec) (fn := Tryd.f19) (ann := renref24_Acts.ann) mixed (ok_nil _) (by kernel_rfl) (by kernel_rfl) (by kernel_rfl) (by kernel_rfl) (by kernel_rfl) (by kernel_rfl) (by kernel_rfl) (fun x => renref24_Acts.eq x)
theorem renlaw12_Limits.ok : Contract Tryd.prog globs renlaw12_Limits.spec := contract_of (E := renlaw12_Limits.env) (sp := renlaw12_Limits.spec) (fn := Tryd.f37) (ann := renlaw12_Limits.ann) mixed (ok_nil _) (by kernel_rfl) (by kernel_rfl) (by kernel_rfl) (by kernel_rfl) (by kernel_rfl) (by kernel_rfl) (by kernel_rfl) (fun x => renlaw12_Limits.eq x)
theorem renlaw24_Opts.ok : Contract Tryd.prog globs renlaw24_Opts.spec := contract_of (E := renlaw24_Opts.env) (sp := renlaw24_Opts.spec) (fn := Tryd.f20) (ann := renlaw24_Opts.ann) mixed (ok_cons renlaw12_Limits.ok (ok_nil _)) (by kernel_rfl) (by kernel_rfl) (by kernel_rfl) (by kernel_rfl) (by kernel_rfl) (by kernel_rfl) (by kernel_rfl) (fun x => renlaw24_Opts.eq x)
theorem renref_Bytes.ok : Contract Tryd.prog globs renref_Bytes.spec := contract_of (E := renref_Bytes.env) (sp := renref_Bytes.spec) (fn := Tryd.f21) (ann := renref_Bytes.ann) mixed (ok_nil _) (by kernel_rfl) (by kernel_rfl) (by kernel_rfl) (by kernel_rfl) (by kernel_rfl) (by kernel_rfl) (by kernel_rfl) (fun x => renref_Bytes.eq x.1 x.2)
theorem eval_May.ok : Contract Tryd.prog globs eval_May.spec := contract_of (E := eval_May.env) (sp := eval_May.spec) (fn := Tryd.f38) (ann := eval_May.ann) mixed (ok_nil _) (by kernel_rfl) (by kernel_rfl) (by kernel_rfl) (by kernel_rfl) (by kernel_rfl) (by kernel_rfl) (by kernel_rfl) (fun x => eval_May.eq x)
theorem cluster_May.ok : Contract Tryd.prog globs cluster_May.spec := contract_of (E := cluster_May.env) (sp := cluster_May.spec) (fn := Tryd.f22) (ann := cluster_May.ann) mixed (ok_cons eval_May.ok (ok_nil _)) (by kernel_rfl) (by kernel_rfl) (by kernel_rfl) (by kernel_rfl) (by kernel_rfl) (by kernel_rfl) (by kernel_rfl) (fun x => cluster_May.eq x)
theorem renlaw26_ScriptBytes.ok : Contract Tryd.prog globs renlaw26_ScriptBytes.spec := contract_of (E := renlaw26_ScriptBytes.env) (sp := renlaw26_ScriptBytes.spec) (fn := Tryd.f6) (ann := renlaw26_ScriptBytes.ann) mixed (ok_cons cluster_May.ok (ok_cons renlaw24_Opts.ok (ok_cons renlaw26_first.ok (ok_cons renlaw26_same.ok (ok_cons renref24_Acts.ok (ok_cons renref24_OptsOf.ok (ok_cons renref_Bytes.ok (ok_cons renref_CopyBytes.ok (ok_cons script_Acts.ok (ok_cons script_Opts.ok (ok_nil _))))))))))) (by kernel_rfl) (by kernel_rfl) (by kernel_rfl) (by kernel_rfl) (by kernel_rfl) (by kernel_rfl) (by kernel_rfl) (fun x => renlaw26_ScriptBytes.eq x)
theorem renlaw14_Few.ok : Contract Tryd.prog globs renlaw14_Few.spec := contract_of (E := renlaw14_Few.env) (sp := renlaw14_Few.spec) (fn := Tryd.f23) (ann := renlaw14_Few.ann) mixed (ok_nil _) (by kernel_rfl) (by kernel_rfl) (by kernel_rfl) (by kernel_rfl) (by kernel_rfl) (by kernel_rfl) (by kernel_rfl) (fun x => renlaw14_Few.eq x.1 x.2)
theorem script_line_word.ok : Contract Tryd.prog globs script_line_word.spec := contract_of (E := script_line_word.env) (sp := script_line_word.spec) (fn := Tryd.f40) (ann := script_line_word.ann) mixed (ok_cons sbByte_ok (ok_cons sbLen_ok (ok_cons sbStr_ok (ok_nil _)))) (by kernel_rfl) (by kernel_rfl) (by kernel_rfl) (by kernel_rfl) (by kernel_rfl) (by kernel_rfl) (by kernel_rfl) (fun x => script_line_word.eq x.1 x.2)
theorem script_line_number.ok : Contract Tryd.prog globs script_line_number.spec := contract_of (E := script_line_number.env) (sp := script_line_number.spec) (fn := Tryd.f39) (ann := script_line_number.ann) mixed (ok_cons itoaS_ok (ok_cons script_line_word.ok (ok_nil _))) (by kernel_rfl) (by kernel_rfl) (by kernel_rfl) (by kernel_rfl) (by kernel_rfl) (by kernel_rfl) (by kernel_rfl) (fun x => script_line_number.eq x.1 x.2)
theorem script_kind.ok : Contract Tryd.prog globs script_kind.spec := contract_of (E := script_kind.env) (sp := script_kind.spec) (fn := Tryd.f41) (ann := script_kind.ann) mixed (ok_nil _) (by kernel_rfl) (by kernel_rfl) (by kernel_rfl) (by kernel_rfl) (by kernel_rfl) (by kernel_rfl) (by kernel_rfl) (fun x => script_kind.eq x)
theorem script_line_bytes.ok : Contract Tryd.prog globs script_line_bytes.spec := contract_of (E := script_line_bytes.env) (sp := script_line_bytes.spec) (fn := Tryd.f42) (ann := script_line_bytes.ann) mixed (ok_cons script_line_number.ok (ok_cons script_line_word.ok (ok_nil _))) (by kernel_rfl) (by kernel_rfl) (by kernel_rfl) (by kernel_rfl) (by kernel_rfl) (by kernel_rfl) (by kernel_rfl) (fun x => script_line_bytes.eq x.1 x.2.1 x.2.2)
theorem script_Events.ok : Contract Tryd.prog globs script_Events.spec := contract_of (E := script_Events.env) (sp := script_Events.spec) (fn := Tryd.f25) (ann := script_Events.ann) mixed (ok_cons itoaS_ok (ok_cons sbGet_ok (ok_cons script_kind.ok (ok_cons script_line_bytes.ok (ok_cons script_line_number.ok (ok_cons script_line_word.ok (ok_nil _))))))) (by kernel_rfl) (by kernel_rfl) (by kernel_rfl) (by kernel_rfl) (by kernel_rfl) (by kernel_rfl) (by kernel_rfl) (fun x => script_Events.eq x)
theorem renlaw14_Event.ok : Contract Tryd.prog globs renlaw14_Event.spec := contract_of (E := renlaw14_Event.env) (sp := renlaw14_Event.spec) (fn := Tryd.f45) (ann := renlaw14_Event.ann) mixed (ok_nil _) (by kernel_rfl) (by kernel_rfl) (by kernel_rfl) (by kernel_rfl) (by kernel_rfl) (by kernel_rfl) (by kernel_rfl) (fun x => renlaw14_Event.eq x)
theorem renlaw14_Log.ok : Contract Tryd.prog globs renlaw14_Log.spec := contract_of (E := renlaw14_Log.env) (sp := renlaw14_Log.spec) (fn := Tryd.f27) (ann := renlaw14_Log.ann) mixed (ok_cons renlaw14_Event.ok (ok_nil _)) (by kernel_rfl) (by kernel_rfl) (by kernel_rfl) (by kernel_rfl) (by kernel_rfl) (by kernel_rfl) (by kernel_rfl) (fun x => renlaw14_Log.eq x)
theorem renref24_bytes.ok : Contract Tryd.prog globs renref24_bytes.spec := contract_of (E := renref24_bytes.env) (sp := renref24_bytes.spec) (fn := Tryd.f44) (ann := renref24_bytes.ann) mixed (ok_cons (renref_Dec.ok fuel) (ok_nil _)) (by kernel_rfl) (by kernel_rfl) (by kernel_rfl) (by kernel_rfl) (by kernel_rfl) (by kernel_rfl) (by kernel_rfl) (fun x => renref24_bytes.eq x.1 x.2)
theorem renref24_Events.ok : Contract Tryd.prog globs renref24_Events.spec := contract_of (E := renref24_Events.env) (sp := renref24_Events.spec) (fn := Tryd.f26) (ann := renref24_Events.ann) mixed (ok_cons (renref_Dec.ok fuel) (ok_cons renref24_bytes.ok (ok_nil _))) (by kernel_rfl) (by kernel_rfl) (by kernel_rfl) (by kernel_rfl) (by kernel_rfl) (by kernel_rfl) (by kernel_rfl) (fun x => renref24_Events.eq x)
theorem renref_Texts.ok : Contract Tryd.prog globs renref_Texts.spec := contract_of (E := renref_Texts.env) (sp := renref_Texts.spec) (fn := Tryd.f24) (ann := renref_Texts.ann) mixed (ok_nil _) (by kernel_rfl) (by kernel_rfl) (by kernel_rfl) (by kernel_rfl) (by kernel_rfl) (by kernel_rfl) (by kernel_rfl) (fun x => renref_Texts.eq x.1 x.2)
theorem renlaw26_ScriptEvents.ok : Contract Tryd.prog globs renlaw26_ScriptEvents.spec := contract_of (E := renlaw26_ScriptEvents.env) (sp := renlaw26_ScriptEvents.spec) (fn := Tryd.f7) (ann := renlaw26_ScriptEvents.ann) mixed (ok_cons renlaw14_Few.ok (ok_cons renlaw14_Log.ok (ok_cons renlaw26_first.ok (ok_cons renref24_Events.ok (ok_cons renref_Texts.ok (ok_cons script_Events.ok (ok_nil _))))))) (by kernel_rfl) (by kernel_rfl) (by kernel_rfl) (by kernel_rfl) (by kernel_rfl) (by kernel_rfl) (by kernel_rfl) (fun x => renlaw26_ScriptEvents.eq x)
theorem renlaw26_ScriptCounts.ok : Contract Tryd.prog globs renlaw26_ScriptCounts.spec := contract_of (E := renlaw26_ScriptCounts.env) (sp := renlaw26_ScriptCounts.spec) (fn := Tryd.f8) (ann := renlaw26_ScriptCounts.ann) mixed (ok_cons (renref_Dec.ok fuel) (ok_cons renlaw14_Few.ok (ok_cons renlaw26_first.ok (ok_cons script_Events.ok (ok_nil _))))) (by kernel_rfl) (by kernel_rfl) (by kernel_rfl) (by kernel_rfl) (by kernel_rfl) (by kernel_rfl) (by kernel_rfl) (fun x => renlaw26_ScriptCounts.eq x)
end Go.Mach
