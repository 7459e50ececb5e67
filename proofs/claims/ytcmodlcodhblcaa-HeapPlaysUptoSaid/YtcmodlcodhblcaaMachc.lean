/-
  Proved here: that an interpreter over plain typed values is sound for the code of the model (on the conditions that each theorem states).
  Part Machc of the texts. By an AI agent; no person has read it.
-/
import Derived.Test.YtcmodlcodhblcaaMachb
import Derived.Laws.Sem
import Derived.ChangeArms
import Derived.DataReads
import Derived.ChangeSame
import Derived.OpenShut
import Derived.RowKit
set_option linter.all false
set_option linter.deprecated false
/-
  Mach: a region that draws its order (4): any order.
-/
namespace Go.Mach

theorem val_slot {s s' : St} {x : Operand} (h : ∀ t, x = .tmp t → s.tmps[t]? = s'.tmps[t]?) : val s x = val s' x := by
  cases x with
  | tmp t => simp only [val, St.get, h t rfl]
  | _ => rfl

/-- The listed ones, one more. -/
def addS (S : Nat → Bool) (i : Nat) : Nat → Bool := fun j => S j || j == i

section
variable {E : Env} {ops : Array Oper} {A : List Nat} {s0 : St} {c0 : Nat} {es : List Ent}

theorem view_eq {m m' : Mem} (hl : m.roots.length = m'.roots.length) (c : Nat) (R : Foot) (h : ∀ r, R.has r → m.roots[r]? = m'.roots[r]?) : m.view c R = m'.view c R := by
  have : (m.mask R).roots = (m'.mask R).roots := by
    apply List.ext_getElem?
    intro r
    have h1 := view_get m c R r
    have h2 := view_get m' c R r
    by_cases hr : R.has r
    · exact (h1.1 hr).trans ((h r hr).trans (h2.1 hr).symm)
    · refine (h1.2 hr).trans (.trans ?_ (h2.2 hr).symm)
      by_cases hlt : r < m.roots.length
      · rw [List.getElem?_eq_getElem hlt, List.getElem?_eq_getElem (by omega)]; rfl
      · rw [List.getElem?_eq_none (by omega), List.getElem?_eq_none (by omega)]
  unfold Mem.view
  rw [this]

variable (hT : TrOk E ops A s0 c0 es) (hes : es.length = ops.toList.length) (he : edgesOk ops = true) (hA : ancOk ops A = true) (hs : slotsAll ops A = true)
  {S : Nat → Bool} (hS : Closed ops S) {i : Nat} (hi : i < ops.toList.length) (hSi : S i = false) (hready : ∀ e ∈ ops.toList[i].after.toList, Region.binds .any e = true → S e.on = true)

theorem zip_get (hes : es.length = ops.toList.length) {k : Nat} (hk : k < (ops.toList.zip es).length) : k < ops.toList.length ∧ ∃ (h : k < ops.toList.length) (h' : k < es.length), (ops.toList.zip es)[k] = (ops.toList[k], es[k]) := by
  have h1 : k < ops.toList.length := by rw [List.length_zip] at hk; omega
  have h2 : k < es.length := by omega
  exact ⟨h1, h1, h2, List.getElem_zip⟩

include hT hes he hA hs hS hSi hready

theorem slot_eq {d : Nat} (hd : d ∈ ops.toList[i].looksAt ops) (hii : ∀ h : i < ops.toList.length, ops.toList[i].dst = some d → False) : (stS (ops.toList.zip es) S 0 s0).tmps[d]? = (sAt ops es s0 i).tmps[d]? := by
  refine (stS_slot d _ _ _ 0 s0 s0 rfl rfl fun k hk hkd => ?_).1
  obtain ⟨h1, _, h2, h3⟩ := zip_get hes hk
  rw [h3] at hkd
  rw [Nat.zero_add]
  by_cases hki : k = i
  · subst hki; exact (hii hi hkd).elim
  · by_cases hne : S k = decide (k < i)
    · exact hne
    · exact absurd hd ((apart_of hT hes he hA hs hS hi h1 hSi hready hki hne).slot d hkd).1
theorem slot_eq' {d : Nat} (hd : d ∈ ops.toList[i].looksAt ops) : (stS (ops.toList.zip es) S 0 s0).tmps[d]? = (sAt ops es s0 i).tmps[d]? := by
  refine (stS_slot d _ _ _ 0 s0 s0 rfl rfl fun k hk hkd => ?_).1
  obtain ⟨h1, _, h2, h3⟩ := zip_get hes hk
  rw [h3] at hkd
  rw [Nat.zero_add]
  by_cases hki : k = i
  · subst hki; rw [hSi]; simp
  · by_cases hne : S k = decide (k < i)
    · exact hne
    · exact absurd hd ((apart_of hT hes he hA hs hS hi h1 hSi hready hki hne).slot d hkd).1

theorem root_eq (hi' : i < es.length) {r : Nat} (hr : es[i].rd.has r) : (stS (ops.toList.zip es) S 0 s0).mem.roots[r]? = (sAt ops es s0 i).mem.roots[r]? := by
  refine (stS_root r _ _ _ 0 s0 s0 (hT.fits rfl) rfl rfl rfl fun k hk hkd => ?_).1
  obtain ⟨h1, _, h2, h3⟩ := zip_get hes hk
  rw [h3] at hkd
  rw [Nat.zero_add]
  by_cases hki : k = i
  · subst hki; rw [hSi]; simp
  · by_cases hne : S k = decide (k < i)
    · exact hne
    · exact absurd hr ((apart_of hT hes he hA hs hS hi h1 hSi hready hki hne).root r hkd).1

theorem val_eqS {x : Operand} (hx : x ∈ ops.toList[i].op.operands) : val (stS (ops.toList.zip es) S 0 s0) x = val (sAt ops es s0 i) x :=
  val_slot fun t ht => slot_eq' hT hes he hA hs hS hi hSi hready (by
    subst ht
    exact List.mem_append_left _ (List.mem_filterMap.2 ⟨.tmp t, by simpa using hx, rfl⟩))

theorem wanted_eqS : wantedA ops (stS (ops.toList.zip es) S 0 s0) ops.toList[i] = wantedA ops (sAt ops es s0 i) ops.toList[i] := by
  have key : ∀ d, d ∈ ops.toList[i].looksAt ops → (stS (ops.toList.zip es) S 0 s0).get d = (sAt ops es s0 i).get d := fun d hd => by
    unfold St.get; rw [slot_eq' hT hes he hA hs hS hi hSi hready hd]
  unfold wantedA
  cases hg : ops.toList[i].guard with
  | none => rfl
  | some gw =>
    obtain ⟨j, want⟩ := gw
    simp only
    cases hp : ops[j]? with
    | none => rfl
    | some p =>
      simp only
      cases hd : p.dst with
      | none => rfl
      | some d =>
        simp only
        rw [key d (by
          unfold Oper.looksAt
          rw [hg]
          refine List.mem_append_right _ ?_
          simp [hp, hd])]

/-- One more is done. -/
theorem put_alike (hi' : i < es.length) : Alike (es[i].put ops.toList[i] (stS (ops.toList.zip es) S 0 s0)) (stS (ops.toList.zip es) (addS S i) 0 s0) := by
  have hsz : ops.toList.length = ops.size := by simp
  have hfits := hT.fits (N := s0.mem.roots.length) rfl
  have hz : ops.toList.zip es = (ops.toList.take i).zip (es.take i) ++ (ops.toList[i], es[i]) :: (ops.toList.drop (i + 1)).zip (es.drop (i + 1)) := by
    have h1 : ops.toList = ops.toList.take i ++ ops.toList[i] :: ops.toList.drop (i + 1) := by
      rw [List.getElem_cons_drop, List.take_append_drop]
    have h2 : es = es.take i ++ es[i] :: es.drop (i + 1) := by
      rw [List.getElem_cons_drop, List.take_append_drop]
    conv => lhs; rw [h1, h2]
    rw [List.zip_append (by rw [List.length_take, List.length_take]; omega), List.zip_cons_cons]
  generalize hL1 : (ops.toList.take i).zip (es.take i) = L1 at hz
  generalize hL2 : (ops.toList.drop (i + 1)).zip (es.drop (i + 1)) = L2 at hz
  have hl1 : L1.length = i := by rw [← hL1, List.length_zip, List.length_take, List.length_take]; omega
  let X : St := stS L1 S 0 s0
  have hLS : stS (ops.toList.zip es) S 0 s0 = stS L2 S (i + 1) X := by
    rw [hz, stS_append]
    simp only [stS, Nat.zero_add, hl1, hSi]
    rfl
  have hLS' : stS (ops.toList.zip es) (addS S i) 0 s0 = stS L2 S (i + 1) (es[i].put ops.toList[i] X) := by
    rw [hz, stS_append]
    have hb : addS S i i = true := by simp [addS]
    simp only [stS, Nat.zero_add, hl1, hb]
    rw [stS_congr L1 (addS S i) S 0 s0 (fun k hk => by
      rw [Nat.zero_add]; unfold addS
      have : (k == i) = false := by simp; omega
      rw [this, Bool.or_false])]
    exact stS_congr L2 (addS S i) S (i + 1) _ (fun k hk => by
      unfold addS
      have : (i + 1 + k == i) = false := by simp; omega
      rw [this, Bool.or_false])
  have hfL2 : ∀ p ∈ L2, p.2.fits s0.mem.roots.length := fun p hp => hfits p (by rw [hz]; simp [hp])
  have hfe : es[i].fits s0.mem.roots.length := hfits (ops.toList[i], es[i]) (by rw [hz]; simp)
  have hXl : X.mem.roots.length = s0.mem.roots.length := stS_len (fun p hp => hfits p (by rw [hz]; simp [hp])) rfl
  have hap : ∀ k (hk : k < L2.length), S (i + 1 + k) = true → Apart ops ops.toList[i] L2[k].1 es[i] L2[k].2 := by
    intro k hk hSk
    have hk' : i + 1 + k < ops.toList.length := by rw [← hL2, List.length_zip, List.length_drop] at hk; omega
    have h2 : L2[k] = (ops.toList[i + 1 + k], es[i + 1 + k]) := by
      have h3 : L2[k]? = some (ops.toList[i + 1 + k], es[i + 1 + k]) := by
        rw [← hL2, List.getElem?_zip_eq_some]
        simp only [List.getElem?_drop]
        exact ⟨List.getElem?_eq_getElem hk', List.getElem?_eq_getElem (by omega)⟩
      rw [List.getElem?_eq_getElem hk] at h3
      exact Option.some.inj h3
    rw [h2]
    exact apart_of hT hes he hA hs hS hi hk' hSi hready (by omega) (by rw [hSk]; simp; omega)
  have htl : ∀ {Y Y' : St}, Y.tmps.length = Y'.tmps.length → (stS L2 S (i + 1) Y).tmps.length = Y'.tmps.length := by
    intro Y Y' h
    have h1 := stS_tlen (L := L2) (S := S) (S' := fun _ => false) (i := i + 1) (s := Y)
    rw [h1, stS_false L2 (fun _ => false) (i + 1) _ (fun _ _ => rfl)]
    exact h
  have hpl : (es[i].put ops.toList[i] X).tmps.length = X.tmps.length := by rw [Ent.put_tmps]; cases ops.toList[i].dst <;> simp
  rw [hLS, hLS']
  constructor
  · apply List.ext_getElem?
    intro d
    by_cases hd : ops.toList[i].dst = some d
    · have h1 := (stS_slot d L2 S (fun _ => false) (i + 1) (es[i].put ops.toList[i] X) (es[i].put ops.toList[i] X) rfl rfl fun k hk hkd => by
        cases hSk : S (i + 1 + k) with
        | false => rfl
        | true => exact absurd hd ((hap k hk hSk).slot d hkd).2).1
      rw [h1, stS_false L2 (fun _ => false) (i + 1) _ (fun _ _ => rfl)]
      simp only [Ent.put_tmps, hd]
      have hl := htl (Y := X) (Y' := X) rfl
      by_cases hlt : d < X.tmps.length
      · rw [List.getElem?_set_self (by omega), List.getElem?_set_self hlt]
      · rw [List.getElem?_eq_none (by rw [List.length_set]; omega), List.getElem?_eq_none (by rw [List.length_set]; omega)]
    · have hput : ∀ Y : St, (es[i].put ops.toList[i] Y).tmps[d]? = Y.tmps[d]? := fun Y => by
        rw [Ent.put_tmps]
        cases ho : ops.toList[i].dst with
        | none => rfl
        | some d' =>
          have hne : d' ≠ d := by rintro rfl; exact hd ho
          simp only
          rw [List.getElem?_set_ne hne]
      rw [hput]
      exact (stS_slot d L2 S S (i + 1) X (es[i].put ops.toList[i] X) (hput X).symm hpl.symm fun _ _ _ => rfl).1
  · apply List.ext_getElem?
    intro r
    have hX2 : (stS L2 S (i + 1) X).mem.roots.length = s0.mem.roots.length := stS_len hfL2 hXl
    obtain ⟨hp1, hp2⟩ := Ent.put_roots hfe ops.toList[i] hXl
    by_cases hr : es[i].wr.has r
    · rw [((Ent.put_roots hfe ops.toList[i] hX2).2 r).1 hr]
      have h1 := (stS_root r L2 S (fun _ => false) (i + 1) (es[i].put ops.toList[i] X) (es[i].put ops.toList[i] X) hfL2 rfl hp1 hp1 fun k hk hkd => by
        cases hSk : S (i + 1 + k) with
        | false => rfl
        | true => exact absurd hr ((hap k hk hSk).root r hkd).2).1
      rw [h1, stS_false L2 (fun _ => false) (i + 1) _ (fun _ _ => rfl), (hp2 r).1 hr]
    · rw [((Ent.put_roots hfe ops.toList[i] hX2).2 r).2 hr]
      exact (stS_root r L2 S S (i + 1) X (es[i].put ops.toList[i] X) hfL2 ((hp2 r).2 hr).symm hXl hp1 fun _ _ _ => rfl).1
end
end Go.Mach

/-
  Mach: a region that draws its order (5): the whole.
-/
namespace Go.Mach

section
variable {B : Base} {E : Env} {ops : Array Oper} {A : List Nat} {s0 : St} {c0 : Nat} {es : List Ent}

/-- What holds when these have been done. -/
def InvD (B : Base) (E : Env) (ops : Array Oper) (s0 : St) (c0 : Nat) (es : List Ent) (Z0 : Nat → Prop) (μ0 : Locs) (S : Nat → Bool) (a : Act) (w : World) : Prop :=
  ∃ Z μ, Rel B (stS (ops.toList.zip es) S 0 s0) a w Z μ ∧ (∀ b, Z0 b → Z b) ∧ ExtL μ0 μ ∧ (∀ r, (r < c0 ∨ c0 + newsAll E ops.toList ≤ r) → μ0 r = none → μ r = none) ∧
    ∀ i, i < ops.toList.length → S i = false → ∀ r, cAt E ops c0 i ≤ r → r < cAt E ops c0 (i + 1) → μ r = none

variable {Z0 : Nat → Prop} {μ0 : Locs}

theorem InvD.step {Q : Exit → Act → World → Prop} (hE : ∀ sp ∈ E.specs, Contract E.P sp) (hN : c0 + newsAll E ops.toList ≤ s0.mem.roots.length) (hT : TrOk E ops A s0 c0 es) (hes : es.length = ops.toList.length) (he : edgesOk ops = true) (hA : ancOk ops A = true) (hs : slotsAll ops A = true)
    {S : Nat → Bool} (hS : Closed ops S) {i : Nat} (hi : i < ops.toList.length) (hSi : S i = false) (hready : ∀ e ∈ ops.toList[i].after.toList, Region.binds .any e = true → S e.on = true) {a : Act} {w : World} (h : InvD B E ops s0 c0 es Z0 μ0 S a w)
    {K : Act → World → Prop} (hK : ∀ a w, InvD B E ops s0 c0 es Z0 μ0 (addS S i) a w → K a w) : wpOp E.P ops Q i K a w := by
  obtain ⟨Z, μ, hR, hz, hm, hfar, hfree⟩ := h
  have hi' : i < es.length := by omega
  have hsz : ops.toList.length = ops.size := by simp
  have ho : ops[i]? = some ops.toList[i] := by
    have : ops.toList[i]? = some ops.toList[i] := List.getElem?_eq_getElem hi
    simpa using this
  have hcs := cAt_succ (E := E) (c0 := c0) (List.getElem?_eq_getElem hi : ops.toList[i]? = some ops.toList[i])
  have hcall : cAt E ops c0 (i + 1) ≤ c0 + newsAll E ops.toList := by
    have := cAt_le (E := E) (ops := ops) (c0 := c0) (i := i + 1) (j := ops.toList.length) (by omega)
    unfold cAt at this ⊢
    rw [List.take_length] at this
    exact this
  have hc0 : c0 ≤ cAt E ops c0 i := Nat.le_add_right _ _
  have hlen : (stS (ops.toList.zip es) S 0 s0).mem.roots.length = s0.mem.roots.length := stS_len (hT.fits rfl) rfl
  have hlen' : (sAt ops es s0 i).mem.roots.length = s0.mem.roots.length := stS_len (hT.fits rfl) rfl
  have hal := put_alike hT hes he hA hs hS hi hSi hready hi'
  have hat := hT.at_ i hi' hi
  have hweq := wanted_eqS hT hes he hA hs hS hi hSi hready
  have hrest : ∀ (μ' : Locs), (∀ r, (r < cAt E ops c0 i ∨ cAt E ops c0 (i + 1) ≤ r) → μ r = none → μ' r = none) →
      (∀ r, (r < c0 ∨ c0 + newsAll E ops.toList ≤ r) → μ0 r = none → μ' r = none) ∧ ∀ j, j < ops.toList.length → addS S i j = false → ∀ r, cAt E ops c0 j ≤ r → r < cAt E ops c0 (j + 1) → μ' r = none := by
    intro μ' hout
    refine ⟨fun r hr h0 => hout r (by omega) (hfar r hr h0), fun j hj hSj r h1 h2 => ?_⟩
    simp only [addS, Bool.or_eq_false_iff, beq_eq_false_iff_ne] at hSj
    refine hout r ?_ (hfree j hj hSj.1 r h1 h2)
    rcases Nat.lt_or_gt_of_ne hSj.2 with hlt | hlt
    · have := cAt_le (E := E) (ops := ops) (c0 := c0) (i := j + 1) (j := i) (by omega)
      omega
    · have := cAt_le (E := E) (ops := ops) (c0 := c0) (i := i + 1) (j := j) (by omega)
      omega
  unfold wpOp
  rw [ho]
  simp only
  generalize hent : es[i] = e at hat hal
  cases e with
  | none =>
    have hat : wantedA ops (sAt ops es s0 i) ops.toList[i] = some false := hat
    rw [wanted_rel hR (hweq.trans hat)]
    simp only [Bool.false_eq_true, if_false]
    have hR' : Rel B ((stS (ops.toList.zip es) S 0 s0).put ops.toList[i].dst (.tup [])) (a.put ops.toList[i].dst Go.undef) w Z μ := hR.put0 ops.toList[i].dst ⟨[], rfl, rfl, fun k h => by simp at h⟩
    obtain ⟨h1, h2⟩ := hrest μ (fun _ _ h => h)
    exact hK _ _ ⟨Z, μ, hR'.alike hal, hz, hm, h1, h2⟩
  | some e =>
    obtain ⟨v, R, W, m1⟩ := e
    obtain ⟨hw, hsv, hok, hl1, _⟩ := hat
    rw [wanted_rel hR (hweq.trans hw)]
    simp only [if_true]
    left
    have hview : (stS (ops.toList.zip es) S 0 s0).mem.view (cAt E ops c0 i) R = (sAt ops es s0 i).mem.view (cAt E ops c0 i) R :=
      view_eq (hlen.trans hlen'.symm) _ R fun r hr => root_eq hT hes he hA hs hS hi hSi hready hi' (by rw [hent]; exact hr)
    have hsv' : stepV E (val (stS (ops.toList.zip es) S 0 s0)) ((stS (ops.toList.zip es) S 0 s0).mem.view (cAt E ops c0 i) R) ops.toList[i] endV = .ok (v, m1) := by
      rw [hview, stepV_congr (fun x hx => val_eqS hT hes he hA hs hS hi hSi hready hx)]
      exact hsv
    have hop := (op_sound (E := E) (o := ops.toList[i]) (c := cAt E ops c0 i) (R := R) (W := W) hR hE (fun k hk => hfree i hi hSi _ (by omega) (by omega)) (by omega)).2 v m1 hsv' (by rw [hlen, ← hlen']; exact hok)
    refine Oper.wp_any (Oper.wp_mono ?_ hop.2)
    rintro a' w' ⟨Z', μ', hR', hzz, hext, hout⟩
    obtain ⟨h1, h2⟩ := hrest μ' (fun r hr h0 => hout r (by omega) h0)
    exact hK _ _ ⟨Z', μ', Rel.alike hR' hal, fun b hb => hzz b (hz b hb), hm.trans hext, h1, h2⟩

theorem countP_lt {p p' : Nat → Bool} (hpp : ∀ j, p' j = true → p j = true) {i : Nat} (h1 : p i = true) (h2 : p' i = false) : ∀ (l : List Nat), i ∈ l → l.countP p' < l.countP p
  | [], h => by cases h
  | x :: l, h => by
    rw [List.countP_cons, List.countP_cons]
    have hle : l.countP p' ≤ l.countP p := List.countP_mono_left fun x _ hx => hpp x hx
    by_cases hx : x = i
    · subst hx
      rw [h1, h2]
      simp only [if_true, Bool.false_eq_true, if_false]
      omega
    · have hm : i ∈ l := by simpa [Ne.symm hx] using h
      have := countP_lt hpp h1 h2 l hm
      cases hp' : p' x with
      | false => simp only [Bool.false_eq_true, if_false]; omega
      | true => rw [hpp x hp']; simp only [if_true]; omega

/-- If none is ready, all are listed. -/
theorem ready_nil (he : edgesOk ops = true) {listed : Array Bool} (hsz : listed.size = ops.size) (h : Region.ready .any ops listed = []) : ∀ j, j < ops.size → listed.getD j false = true := by
  intro j
  induction j using Nat.strongRecOn with
  | _ j ih =>
    intro hj
    have hoj : ops[j]? = some ops[j] := Array.getElem?_eq_getElem hj
    have hnr : j ∉ Region.ready .any ops listed := by rw [h]; simp
    rw [mem_ready] at hnr
    cases hl : listed.getD j true with
    | true => simpa [Array.getD, hsz, hj] using hl
    | false =>
      exfalso
      refine hnr ⟨hl, ops[j], hoj, fun e he' hb => ?_⟩
      have hm : (ops[j], j) ∈ ops.toList.zipIdx := by rw [List.mem_zipIdx_iff_getElem?]; simpa using hoj
      have h1 := List.all_eq_true.1 (List.all_eq_true.1 he _ hm) e (by simpa using he')
      simp only [hb, Bool.not_true, Bool.false_or, decide_eq_true_eq] at h1
      exact ih e.on h1 (by omega)

theorem InvD.any {Q : Exit → Act → World → Prop} (hE : ∀ sp ∈ E.specs, Contract E.P sp) (hN : c0 + newsAll E ops.toList ≤ s0.mem.roots.length) (hT : TrOk E ops A s0 c0 es) (hes : es.length = ops.toList.length) (he : edgesOk ops = true) (hA : ancOk ops A = true) (hs : slotsAll ops A = true)
    (hQ : ∀ S a w, (∀ j, j < ops.size → S j = true) → InvD B E ops s0 c0 es Z0 μ0 S a w → Q .normal a w) : ∀ (fuel : Nat) (listed : Array Bool) (a : Act) (w : World), listed.size = ops.size → Closed ops (fun j => listed.getD j false) →
      (List.range ops.size).countP (fun j => !listed.getD j true) ≤ fuel → InvD B E ops s0 c0 es Z0 μ0 (fun j => listed.getD j false) a w → wpAny E.P .any ops Q fuel listed a w
  | 0, listed, a, w, hsz, hC, hc, h => by
    have hn : Region.ready .any ops listed = [] := by
      cases hr : Region.ready .any ops listed with
      | nil => rfl
      | cons j l =>
        have hj : j ∈ Region.ready .any ops listed := by rw [hr]; simp
        obtain ⟨h1, o, h2, _⟩ := mem_ready.1 hj
        have hlt : j < ops.size := (Array.getElem?_eq_some_iff.1 h2).1
        have : 0 < (List.range ops.size).countP (fun j => !listed.getD j true) := List.countP_pos_iff.2 ⟨j, by simpa using hlt, by rw [h1]; rfl⟩
        omega
    exact ⟨hn, hQ _ a w (ready_nil he hsz hn) h⟩
  | fuel + 1, listed, a, w, hsz, hC, hc, h => by
    refine ⟨fun hn => hQ _ a w (ready_nil he hsz hn) h, fun i hi => ?_⟩
    obtain ⟨h1, o, h2, h3⟩ := mem_ready.1 hi
    have hlt : i < ops.size := (Array.getElem?_eq_some_iff.1 h2).1
    have hlt' : i < ops.toList.length := by simpa using hlt
    have hoi : ops.toList[i] = o := by
      have := (Array.getElem?_eq_some_iff.1 h2).2
      simpa using this
    have hun : listed.getD i false = false := by
      have hl : i < listed.size := by omega
      simpa [Array.getD, hl] using h1
    have hadd : ∀ j, (listed.setIfInBounds i true).getD j false = addS (fun j => listed.getD j false) i j := by
      intro j
      unfold addS
      by_cases hji : i = j
      · subst hji
        have hl : i < listed.size := by omega
        simp [hl]
      · have : (j == i) = false := by simp; omega
        rw [getD_set_ne false hji, this, Bool.or_false]
    have hadd' : (fun j => (listed.setIfInBounds i true).getD j false) = addS (fun j => listed.getD j false) i := funext hadd
    refine InvD.step hE hN hT hes he hA hs hC hlt' hun (fun e he' hb => h3 e (by rw [hoi] at he'; simpa using he') hb) h fun a' w' h' => ?_
    refine InvD.any hE hN hT hes he hA hs hQ fuel _ a' w' (by simp [hsz]) ?_ ?_ (by rw [hadd']; exact h')
    · rw [hadd']
      intro j oj hj hSj e he' hb
      simp only [addS, Bool.or_eq_true, beq_iff_eq] at hSj ⊢
      rcases hSj with hSj | rfl
      · exact .inl (hC j oj hj hSj e he' hb)
      · have : oj = o := by
          have h4 : ops.toList[j]? = some ops.toList[j] := List.getElem?_eq_getElem hlt'
          rw [hj] at h4
          exact (Option.some.inj h4).trans hoi
        subst this
        exact .inl (h3 e (by simpa using he') hb)
    · have hlt2 := countP_lt (p := fun j => !listed.getD j true) (p' := fun j => !(listed.setIfInBounds i true).getD j true) (fun j hj => by
          by_cases hji : i = j
          · subst hji
            have hl : i < listed.size := by omega
            simp [hl] at hj
          · rw [getD_set_ne true hji] at hj; exact hj) (i := i) (by simp only [h1]; rfl) (by
            have hl : i < listed.size := by omega
            simp [hl]) (List.range ops.size) (by simpa using hlt)
      omega

variable {β : Type} {Ψ : β → Prop} {K : St → Res β}

/-- A region that draws its order. -/
theorem draw_sound {Q : Exit → Act → World → Prop} {id : Nat} (hm : E.P.follows .mixedOrders = true) (hdr : E.dr = true) (hE : ∀ sp ∈ E.specs, Contract E.P sp) (he : edgesOk ops = true) (hA : ancOk ops A = true) (hs : slotsAll ops A = true)
    (hN : c0 + newsAll E ops.toList ≤ s0.mem.roots.length) {a : Act} {w : World} {Z : Nat → Prop} {μ : Locs} (hR : Rel B s0 a w Z μ) (hfree : ∀ r, c0 ≤ r → r < c0 + newsAll E ops.toList → μ r = none)
    (h : (execOps E ops A ops.toList 0 c0 [] s0 K).sat Ψ)
    (hQ : ∀ es, TrOk E ops A s0 c0 es → es.length = ops.toList.length → (K ⟨(sAt ops es s0 es.length).tmps, (sAt ops es s0 es.length).mem.at (cAt E ops c0 es.length), (sAt ops es s0 es.length).dT⟩).sat Ψ →
      ∀ a' w' Z' μ', Rel B (sAt ops es s0 es.length) a' w' Z' μ' → (∀ b, Z b → Z' b) → ExtL μ μ' → (∀ r, (r < c0 ∨ c0 + newsAll E ops.toList ≤ r) → μ r = none → μ' r = none) → Q .normal a' w') :
    (Code.region id ops true).wp E.P Q a w := by
  have hc00 : cAt E ops c0 0 = c0 := by simp [cAt, newsAll]
  have hT0 : TrOk E ops A s0 c0 [] := ⟨by simp, fun i hi => by simp at hi, fun j i hj => by simp at hj⟩
  have hs00 : sAt ops [] s0 0 = s0 := by simp [sAt, stS]
  obtain ⟨es, hT, hes, hKs⟩ := execOps_trace hdr hE hN ops.toList [] [] (a := a) (w := w) (Z := Z) (μ := μ) (B := B) (by simp) hT0 (by simpa [hs00] using hR) (fun r h1 h2 => hfree r (by simpa [hc00] using h1) h2) (fun j hj => by simp at hj) (by simpa [hs00, hc00] using h)
  have hrep : (fun j => (Array.replicate ops.size false).getD j false) = fun _ => false := by
    funext j
    simp only [Array.getD]
    split <;> simp
  refine wp_region_any hm ?_
  refine InvD.any (B := B) (Z0 := Z) (μ0 := μ) hE hN hT hes he hA hs (fun S a' w' hall hI => ?_) ops.size _ a _ (by simp) (by rw [hrep]; intro j o hj hSj; cases hSj) ?_ ?_
  · obtain ⟨Z', μ', hR', h1, h2, h3, _⟩ := hI
    refine hQ es hT hes hKs a' w' Z' μ' (hR'.alike ?_) h1 h2 h3
    have : stS (ops.toList.zip es) S 0 s0 = sAt ops es s0 es.length := by
      unfold sAt
      refine stS_congr _ _ _ _ _ fun k hk => ?_
      have hsz : ops.toList.length = ops.size := by simp
      rw [List.length_zip] at hk
      rw [Nat.zero_add, hall k (by omega)]
      simp; omega
    rw [this]
    exact ⟨rfl, rfl⟩
  · refine Nat.le_trans List.countP_le_length ?_
    simp
  · refine ⟨Z, μ, ?_, fun _ h => h, ExtL.refl μ, fun _ _ h => h, fun i hi _ r h1 h2 => hfree r ?_ ?_⟩
    · rw [hrep, stS_false _ _ _ _ (fun _ _ => rfl)]
      exact hR.drew
    · exact Nat.le_trans (Nat.le_add_right _ _) h1
    · have := cAt_le (E := E) (ops := ops) (c0 := c0) (i := i + 1) (j := ops.toList.length) (by omega)
      unfold cAt at this h2
      rw [List.take_length] at this
      omega
end
end Go.Mach

/-
  Mach: where ways meet (1): what is kept reads the same when the inner places are forgotten.
-/
namespace Go.Mach

section
variable {w0 w : World} {Z0 Z : Nat → Prop} {μ0 μ μr : Locs} (hr : ∀ r, μ0 r ≠ none → μr r = μ r)
include hr

theorem PtrR.restrict {r off : Nat} {v0 v : Value} (h0 : PtrR μ0 r off v0) (h : PtrR μ r off v) : PtrR μr r off v := by
  obtain ⟨ℓ0, _, h1, _⟩ := h0
  obtain ⟨ℓ, b, h2, h3⟩ := h
  exact ⟨ℓ, b, by rw [hr r (by rw [h1]; simp)]; exact h2, h3⟩

theorem CR.restrict {c : C} {v0 v : Value} (h0 : CR w0 Z0 μ0 c v0) (h : CR w Z μ c v) : CR w Z μr c v := by
  cases c with
  | ref r wd =>
    obtain ⟨ℓ0, h1, _⟩ := h0
    obtain ⟨ℓ, h2, h3⟩ := h
    exact ⟨ℓ, by rw [hr r (by rw [h1]; simp)]; exact h2, h3⟩
  | ptr r off => exact PtrR.restrict hr h0 h
  | eptr r i off =>
    obtain ⟨ℓ0, _, h1, _⟩ := h0
    obtain ⟨ℓ, b, h2, h3⟩ := h
    exact ⟨ℓ, b, by rw [hr r (by rw [h1]; simp)]; exact h2, h3⟩
  | fn f caps =>
    obtain ⟨vs0, _, g2, g3⟩ := h0
    obtain ⟨vs, h1, h2, h3⟩ := h
    refine ⟨vs, h1, h2, fun k hk hk' => ?_⟩
    have a := g3 k hk (by omega)
    have b := h3 k hk hk'
    cases hc : caps[k] with
    | root r => rw [hc] at a b; exact PtrR.restrict hr a b
    | frz e x => rw [hc] at b; exact b
  | _ => exact h

theorem CRs.restrict {cs : List C} {vs0 vs : List Value} (h0 : CRs w0 Z0 μ0 cs vs0) (h : CRs w Z μ cs vs) : CRs w Z μr cs vs :=
  ⟨h.1, fun k hk hk' => CR.restrict hr (h0.2 k hk (by have := h0.1; omega)) (h.2 k hk hk')⟩

theorem AR.restrict {x : AV} {v0 v : Value} (h0 : AR w0 Z0 μ0 x v0) (h : AR w Z μ x v) : AR w Z μr x v := by
  cases x with
  | c x => exact CR.restrict hr h0 h
  | agg cs =>
    obtain ⟨_, _, h1⟩ := h0
    obtain ⟨vs, h2, h3⟩ := h
    exact ⟨vs, h2, h1.restrict hr h3⟩
  | tup l =>
    obtain ⟨vs0, _, g2, g3⟩ := h0
    obtain ⟨vs, h1, h2, h3⟩ := h
    refine ⟨vs, h1, h2, fun k hk hk' => ?_⟩
    have a := g3 k hk (by omega)
    have b := h3 k hk hk'
    rcases hl : l[k] with ⟨ag, cs⟩
    rw [hl] at a b
    cases ag with
    | true =>
      obtain ⟨_, _, a⟩ := a
      obtain ⟨us, b1, b2⟩ := b
      exact ⟨us, b1, a.restrict hr b2⟩
    | false =>
      match cs, a, b with
      | c :: _, a, b => exact CR.restrict hr a b
      | [], _, _ => trivial

theorem RootOk.restrict {Y0 Y : Nat → Prop} {ℓ0 ℓ : Loc} {x : Root} (h0 : RootOk w0 Z0 Y0 μ0 ℓ0 x) (h : RootOk w Z Y μ ℓ x) : RootOk w Z Y μr ℓ x := by
  cases x with
  | dead => trivial
  | frz e xs => exact h
  | bor s xs => exact h
  | bbox cs =>
    obtain ⟨_, _, _, us0, _, g⟩ := h0
    obtain ⟨b, h1, h2, us, h3, h4⟩ := h
    exact ⟨b, h1, h2, us, h3, g.restrict hr h4⟩
  | box cs =>
    obtain ⟨_, _, _, _, us0, _, g⟩ := h0
    obtain ⟨b, h1, h2, h3, us, h4, h5⟩ := h
    exact ⟨b, h1, h2, h3, us, h4, g.restrict hr h5⟩
  | arr s xs foc =>
    refine ⟨h.1, h.2.mono (SameOn.refl _ _) fun i us x S _ _ hR => ?_⟩
    cases foc with
    | none => exact hR
    | some f =>
      simp only [ElR] at hR ⊢
      by_cases hi : f.i = i
      · rw [if_pos hi] at hR ⊢
        have hlt := h0.1 f rfl
        obtain ⟨_, _, _, _, _, g⟩ := h0.2
        cases hb : ℓ0.blk with
        | none =>
          rw [hb] at g
          obtain ⟨g, _⟩ := g
          rw [g] at hlt
          simp at hlt
        | some b =>
          rw [hb] at g
          obtain ⟨_, _, N, _, _, g⟩ := g
          obtain ⟨us0, _, _, g⟩ := g f.i hlt
          simp only [ElR, if_true] at g
          exact g.restrict hr hR
      · rw [if_neg hi] at hR ⊢; exact hR
end

section
variable {B : Base} {w : World} {Z : Nat → Prop} {μ μr : Locs}

/-- Some roots are given up, and the places of those that are not there. -/
theorem MemOk.restrict {m m0 : Mem} (h : MemOk B m w Z μ) (hm : ∀ r x, m0.roots[r]? = some x → x ≠ .dead → m.roots[r]? = some x ∧ μr r = μ r ∧ ∀ ℓ, RootOk w Z B.Y μ ℓ x → RootOk w Z B.Y μr ℓ x)
    (hfar : ∀ r, m0.roots.length ≤ r → μr r = none) : MemOk B m0 w Z μr := by
  have hd : ∀ {x : Root}, x.owns = true → x ≠ .dead := by rintro _ h rfl; simp [Root.owns] at h
  refine ⟨fun r x hx hx' => ?_, fun r s x y ℓ ℓ' hrs hx hy hox hoy hl hl' => ?_, fun r x ℓ b hx ho hl => ?_, h.frz, h.frz0, h.size, h.keep, hfar, h.lent, h.io⟩
  · obtain ⟨h1, h2, h3⟩ := hm r x hx hx'
    obtain ⟨ℓ, h4, h5⟩ := h.rt r x h1 hx'
    exact ⟨ℓ, by rw [h2]; exact h4, h3 ℓ h5⟩
  · obtain ⟨h1, h2, _⟩ := hm r x hx (hd hox)
    obtain ⟨h3, h4, _⟩ := hm s y hy (hd hoy)
    exact h.dj r s x y ℓ ℓ' hrs h1 h3 hox hoy (h2 ▸ hl) (h4 ▸ hl')
  · obtain ⟨h1, h2, _⟩ := hm r x hx (hd ho)
    exact h.own r x ℓ b h1 ho (h2 ▸ hl)

theorem Loose.restrict {m m0 : Mem} {F : Nat → Prop} (hF : Loose B m w Z μ F) (hm : ∀ r x, m0.roots[r]? = some x → x ≠ .dead → m.roots[r]? = some x ∧ μr r = μ r) : Loose B m0 w Z μr F := by
  refine ⟨hF.ok, fun b r hb => ?_⟩
  rintro ⟨x, ℓ, h1, h2, h3, h4⟩
  obtain ⟨g1, g2⟩ := hm r x h1 (by rintro rfl; simp [Root.owns] at h2)
  exact hF.off b r hb ⟨x, ℓ, g1, h2, g2 ▸ h3, h4⟩
end

theorem killAll_length : ∀ (l : List Nat) (xs : List Root), (killAll xs l).length = xs.length
  | [], _ => rfl
  | r :: l, xs => by rw [killAll, killAll_length l, List.length_set]
theorem killAll_get : ∀ (l : List Nat) (xs : List Root) (k : Nat), (k ∉ l → (killAll xs l)[k]? = xs[k]?) ∧ (k ∈ l → (killAll xs l)[k]? = (xs[k]?).map fun _ => .dead)
  | [], xs, k => ⟨fun _ => rfl, fun h => by cases h⟩
  | r :: l, xs, k => by
    obtain ⟨h1, h2⟩ := killAll_get l (xs.set r .dead) k
    rw [killAll]
    refine ⟨fun h => ?_, fun h => ?_⟩
    · rw [h1 (fun hk => h (List.mem_cons_of_mem _ hk)), List.getElem?_set_ne (by rintro rfl; exact h List.mem_cons_self)]
    · by_cases hl : k ∈ l
      · rw [h2 hl]
        by_cases hkr : r = k
        · subst hkr
          rw [List.getElem?_set_self']
          cases xs[r]? <;> rfl
        · rw [List.getElem?_set_ne hkr]
      · have hkr : k = r := by simpa [hl] using h
        subst hkr
        rw [h1 hl, List.getElem?_set_self']
        cases xs[k]? <;> rfl

theorem setAll_length : ∀ (l : List (Nat × AV)) (ts : List AV), (setAll ts l).length = ts.length
  | [], _ => rfl
  | (i, v) :: l, ts => by rw [setAll, setAll_length l, List.length_set]
/-- A slot behind the settings: the last setting, or as it was. -/
theorem setAll_get : ∀ (l : List (Nat × AV)) (ts : List AV) (k : Nat) (x : AV), (setAll ts l)[k]? = some x → (k, x) ∈ l ∨ (ts[k]? = some x ∧ ∀ v, (k, v) ∉ l)
  | [], ts, k, x, h => .inr ⟨h, fun _ h => by cases h⟩
  | (i, v) :: l, ts, k, x, h => by
    rw [setAll] at h
    rcases setAll_get l _ k x h with h1 | ⟨h1, h2⟩
    · exact .inl (List.mem_cons_of_mem _ h1)
    · by_cases hik : i = k
      · subst hik
        rw [List.getElem?_set_self'] at h1
        left
        cases ht : ts[i]? with
        | none => rw [ht] at h1; cases h1
        | some y => rw [ht] at h1; simp at h1; subst h1; exact List.mem_cons_self
      · rw [List.getElem?_set_ne hik] at h1
        refine .inr ⟨h1, fun v' hm => ?_⟩
        rcases List.mem_cons.1 hm with hm | hm
        · cases hm; exact hik rfl
        · exact h2 v' hm
end Go.Mach

/-
  Mach: where ways meet (2): contents go back to their roots.
-/
namespace Go.Mach

section
variable {B : Base} {w : World} {Z : Nat → Prop}

/-- The value that leads to a root. -/
def LeadR (μ : Locs) (r : Nat) : Sh → Value → Prop
  | .own s, u => ∃ ℓ, μ r = some ℓ ∧ ℓ.sz = s.cells ∧ ℓ.odd = none ∧ u = .slice (ℓ.addr 0) ℓ.len ℓ.cap
  | .box _, u => ∃ ℓ b, μ r = some ℓ ∧ ℓ.blk = some b ∧ u = .pointer (some ⟨b, ℓ.base + 0, none⟩)
  | _, _ => False
theorem LeadR.ext {μ μ' : Locs} (he : ExtL μ μ') {r : Nat} {s : Sh} {u : Value} (h : LeadR μ r s u) : LeadR μ' r s u := by
  cases s with
  | own s =>
    obtain ⟨ℓ, h1, h2, h3, h4⟩ := h
    obtain ⟨S', h5⟩ := he r ℓ h1
    exact ⟨_, h5, h2, h3, h4⟩
  | box s =>
    obtain ⟨ℓ, b, h1, h2, h3⟩ := h
    obtain ⟨S', h5⟩ := he r ℓ h1
    exact ⟨_, b, h5, h2, h3⟩
  | _ => exact h

/-- What has been made can go back to root r. -/
def BackAt (B : Base) (w : World) (Z : Nat → Prop) (m : Mem) (μ : Locs) (lo hi : Nat) (o : Option Nat) (v : AV) : Prop :=
  ∀ r, o = some r → ∀ c q, v = .c c → c.root? = some q → lo ≤ q ∧ q < hi ∧ ∃ x ℓq ℓp, m.roots[q]? = some x ∧ x.owns = true ∧ μ q = some ℓq ∧ μ r = some ℓp ∧ RootOk w Z B.Y μ { ℓp with S := ℓq.S } x

def BacksOk (B : Base) (w : World) (Z : Nat → Prop) (m : Mem) (μ : Locs) : Nat → List (Option Nat) → List AV → Prop
  | lo, o :: os, v :: vs => ∃ hi, lo ≤ hi ∧ BackAt B w Z m μ lo hi o v ∧ BacksOk B w Z m μ hi os vs
  | _, _, _ => True

def LeadsR (μ : Locs) : List (Option Nat) → List VSh → List Value → Prop
  | o :: os, a :: l, u :: us => (∀ r, o = some r → a.1 = false ∧ LeadR μ r a.2 u) ∧ LeadsR μ os l us
  | _, _, _ => True
theorem LeadsR.ext {μ μ' : Locs} (he : ExtL μ μ') : ∀ {os : List (Option Nat)} {l : List VSh} {us : List Value}, LeadsR μ os l us → LeadsR μ' os l us
  | [], _, _, _ => trivial
  | _ :: _, [], _, _ => trivial
  | _ :: _, _ :: _, [], _ => trivial
  | _ :: _, _ :: _, _ :: _, h => ⟨fun r hr => ⟨(h.1 r hr).1, (h.1 r hr).2.ext he⟩, h.2.ext he⟩

theorem mk_back {s : Sh} {u : Value} {x : s.den} {m : Mem} {F S : Nat → Prop} {μ : Locs} {o : Option Nat} (hM : MemOk B m w Z μ) (hF : Loose B m w Z μ F) (hf : Free m μ s.news) (hx : SR w Z B.Y s [u] x S) (hS : ∀ b, S b → F b)
    (hl : ∀ r, o = some r → LeadR μ r s u) :
    ∃ μ', MemOk B (s.mk x m).2 w Z μ' ∧ Loose B (s.mk x m).2 w Z μ' (fun b => F b ∧ ¬ S b) ∧ CRs w Z μ' (s.mk x m).1 [u] ∧ Grow m (s.mk x m).2 μ μ' s.news ∧ BackAt B w Z (s.mk x m).2 μ' m.cur (m.cur + s.news) o (avOf false (s.mk x m).1) := by
  obtain ⟨⟨μ1, e1, e2, e3, e4⟩, _⟩ := mk_sound s hM hF hf hx hS
  refine ⟨μ1, e1, e2, e3, e4, ?_⟩
  intro r ho c q hv hq
  have hld := (hl r ho).ext e4.ext
  cases s with
  | own s =>
    simp only [Sh.mk, avOf] at hv e1 e2 e3 e4 ⊢
    cases hv
    simp only [C.root?, Option.some.injEq] at hq
    subst hq
    have hcc : CR w Z μ1 (.ref m.cur .full) u := by
      obtain ⟨v', hv', g⟩ := e3.one
      cases hv'; exact g
    obtain ⟨ℓq, μq, sq⟩ := hcc
    have hcq : m.cur < m.roots.length := (List.getElem?_eq_some_iff.1 (hf 0 (by simp [Sh.news])).2).1
    have hroot : (m.push (.arr s x none)).roots[m.cur]? = some (.arr s x none) := by simp [Mem.push, hcq]
    obtain ⟨ℓ', k1, k2, k3⟩ := e1.rt _ _ hroot (by simp)
    rw [μq] at k1; cases k1
    obtain ⟨ℓp, p1, p2, p3, p4⟩ := hld
    have he : Value.slice (ℓq.addr 0) ℓq.len ℓq.cap = .slice (ℓp.addr 0) ℓp.len ℓp.cap := by
      rw [← (show u = _ from sq), ← p4]
    refine ⟨Nat.le_refl _, by simp [Sh.news], _, ℓq, ℓp, hroot, rfl, μq, p1, ⟨(fun f hf => by cases hf), (k3.place p2 p3 he).mono (SameOn.refl _ _) fun i us x S _ _ hR => hR⟩⟩
  | box s =>
    simp only [Sh.mk, avOf] at hv e1 e2 e3 e4 ⊢
    cases hv
    simp only [C.root?, Option.some.injEq] at hq
    subst hq
    have hcc : CR w Z μ1 (.ptr (s.mk x m).2.cur 0) u := by
      obtain ⟨v', hv', g⟩ := e3.one
      cases hv'; exact g
    obtain ⟨ℓq, bq, μq, hbq, huq⟩ := hcc
    have h2 := e4.cur
    simp only [Mem.push, Sh.news] at h2
    have hcq : (s.mk x m).2.cur < (s.mk x m).2.roots.length := by
      have h1 := e4.len
      simp only [Mem.push, List.length_set, Sh.news] at h1
      have h3 := (hf s.news (by simp [Sh.news])).2
      have h4 := (List.getElem?_eq_some_iff.1 h3).1
      omega
    have hroot : ((s.mk x m).2.push (.box (s.mk x m).1)).roots[(s.mk x m).2.cur]? = some (.box (s.mk x m).1) := by simp [Mem.push, hcq]
    obtain ⟨ℓ', k1, b', k2, k3, k4, us, k5, k6⟩ := e1.rt _ _ hroot (by simp)
    rw [μq] at k1; cases k1
    rw [hbq] at k2; cases k2
    obtain ⟨ℓp, bp, p1, p2, p3⟩ := hld
    rw [huq] at p3
    simp only [Value.pointer.injEq, Option.some.injEq, Addr.mk.injEq, Nat.add_zero, and_true] at p3
    obtain ⟨rfl, hbase⟩ := p3
    exact ⟨by omega, by simp only [Sh.news]; omega, _, ℓq, ℓp, hroot, rfl, μq, p1, ⟨bq, p2, k3, by rw [← hbase]; exact k4, us, by rw [← hbase]; exact k5, k6⟩⟩
  | _ => exact hld.elim

/-- What comes later leaves it. -/
theorem BackAt.grow {m m' : Mem} {μ μ' : Locs} {n lo hi : Nat} {o : Option Nat} {v : AV} (h : BackAt B w Z m μ lo hi o v) (hg : Grow m m' μ μ' n) (hhi : hi ≤ m.cur) : BackAt B w Z m' μ' lo hi o v := by
  intro r ho c q hv hq
  obtain ⟨h1, h2, x, ℓq, ℓp, h3, h4, h5, h6, h7⟩ := h r ho c q hv hq
  obtain ⟨S', h8⟩ := hg.ext r ℓp h6
  obtain ⟨g1, g2⟩ := hg.old q (.inl (by omega))
  exact ⟨h1, h2, x, ℓq, _, by rw [g2]; exact h3, h4, by rw [g1]; exact h5, h8, h7.mono (SameOn.refl _ _) (fun _ h => h) (fun _ h => h) hg.ext⟩

theorem mks_back : ∀ {l : List VSh} {os : List (Option Nat)} {vs : List Value} {x : dens l} {m : Mem} {F S : Nat → Prop} {μ : Locs}, MemOk B m w Z μ → Loose B m w Z μ F → Free m μ (newsL l) → ValsR w Z B.Y l vs x S → (∀ b, S b → F b) → LeadsR μ os l vs →
    ∃ μ', MemOk B (mks l x m).2 w Z μ' ∧ Loose B (mks l x m).2 w Z μ' (fun b => F b ∧ ¬ S b) ∧ ARs w Z μ' (mks l x m).1 vs ∧ Grow m (mks l x m).2 μ μ' (newsL l) ∧ BacksOk B w Z (mks l x m).2 μ' m.cur os (mks l x m).1
  | [], os, vs, x, m, F, S, μ, hM, hF, hf, h, hS, _ => ⟨μ, hM, hF.grow fun b hb => hb.1, h, Grow.refl m μ, by cases os <;> trivial⟩
  | [a], os, vs, x, m, F, S, μ, hM, hF, hf, h, hS, hl => by
    obtain ⟨v, rfl, us, h1, h2, h3⟩ := h
    match os, hl with
    | [], _ =>
      obtain ⟨⟨μ', e1, e2, e3, e4⟩, _⟩ := mk_sound a.2 hM hF hf h3 hS
      exact ⟨μ', e1, e2, ⟨v, [], rfl, h1.ar e3, rfl⟩, e4, trivial⟩
    | none :: os, _ =>
      obtain ⟨⟨μ', e1, e2, e3, e4⟩, _⟩ := mk_sound a.2 hM hF hf h3 hS
      exact ⟨μ', e1, e2, ⟨v, [], rfl, h1.ar e3, rfl⟩, e4, m.cur, Nat.le_refl _, (fun r hr => by cases hr), by cases os <;> trivial⟩
    | some r :: os, hl =>
      obtain ⟨g, s⟩ := a
      obtain ⟨hg, hlr⟩ := hl.1 r rfl
      simp only at hg
      subst hg
      have h1' : us = [v] := h1
      subst h1'
      obtain ⟨μ', e1, e2, e3, e4, e5⟩ := mk_back (o := some r) hM hF hf h3 hS (fun r' hr => by cases hr; exact hlr)
      exact ⟨μ', e1, e2, ⟨v, [], rfl, h1.ar e3, rfl⟩, e4, _, Nat.le_add_right _ _, e5, by cases os <;> trivial⟩
  | a :: b :: l, os, vs, x, m, F, S, μ, hM, hF, hf, h, hS, hl => by
    obtain ⟨v, vs', S1, S2, rfl, h2, h3, h4, ⟨us, h5, h6, h7⟩, h8⟩ := h
    have key : ∃ μ1, MemOk B (a.2.mk x.1 m).2 w Z μ1 ∧ Loose B (a.2.mk x.1 m).2 w Z μ1 (fun b => F b ∧ ¬ S1 b) ∧ CRs w Z μ1 (a.2.mk x.1 m).1 us ∧ Grow m (a.2.mk x.1 m).2 μ μ1 a.2.news ∧
        ∀ o os', os = o :: os' → BackAt B w Z (a.2.mk x.1 m).2 μ1 m.cur (m.cur + a.2.news) o (avOf a.1 (a.2.mk x.1 m).1) := by
      match os, hl with
      | some r :: os, hl =>
        obtain ⟨g, s⟩ := a
        obtain ⟨hg, hlr⟩ := hl.1 r rfl
        simp only at hg
        subst hg
        have h5' : us = [v] := h5
        subst h5'
        obtain ⟨μ', e1, e2, e3, e4, e5⟩ := mk_back (o := some r) hM hF hf.left h7 (fun d hd => hS d (h2 d hd)) (fun r' hr => by cases hr; exact hlr)
        exact ⟨μ', e1, e2, e3, e4, fun o os' he => by cases he; exact e5⟩
      | none :: os, _ =>
        obtain ⟨⟨μ1, e1, e2, e3, e4⟩, _⟩ := mk_sound a.2 hM hF hf.left h7 (fun d hd => hS d (h2 d hd))
        exact ⟨μ1, e1, e2, e3, e4, fun o os' he => by cases he; intro r hr; cases hr⟩
      | [], _ =>
        obtain ⟨⟨μ1, e1, e2, e3, e4⟩, _⟩ := mk_sound a.2 hM hF hf.left h7 (fun d hd => hS d (h2 d hd))
        exact ⟨μ1, e1, e2, e3, e4, fun o os' he => by cases he⟩
    obtain ⟨μ1, e1, e2, e3, e4, e5⟩ := key
    have hl' : LeadsR μ1 os.tail (b :: l) vs' := by
      match os, hl with
      | [], _ => trivial
      | _ :: os, hl => exact hl.2.ext e4.ext
    obtain ⟨μ2, g1, g2, g3, g4, g5⟩ := mks_back (l := b :: l) (os := os.tail) e1 e2 (hf.right e4) h8 (fun d hd => ⟨hS d (h3 d hd), fun h => h4 d h hd⟩) hl'
    refine ⟨μ2, g1, g2.grow fun d hd => ⟨⟨hd.1, fun h => hd.2 (h2 d h)⟩, fun h => hd.2 (h3 d h)⟩, ⟨v, vs', rfl, (h5.ar e3).mono (SameOn.refl _ _) (fun _ h => h) g4.ext, g3⟩, e4.trans g4, ?_⟩
    match os with
    | [] => trivial
    | o :: os =>
      refine ⟨m.cur + a.2.news, Nat.le_add_right _ _, (e5 o os rfl).grow g4 (by rw [e4.cur]; exact Nat.le_refl _), ?_⟩
      rw [e4.cur] at g5
      exact g5

theorem BackAt.move {m : Mem} {μ : Locs} {lo hi q0 r0 : Nat} {ℓ : Loc} {o : Option Nat} {v : AV} (h : BackAt B w Z m μ lo hi o v) (hq : q0 < lo) (hr : r0 < lo) (hne : o ≠ some r0) (he : ExtL μ (μ.set r0 ℓ)) : BackAt B w Z (m.move q0 r0) (μ.set r0 ℓ) lo hi o v := by
  intro r ho c q hv hq'
  obtain ⟨h1, h2, x, ℓq, ℓp, h3, h4, h5, h6, h7⟩ := h r ho c q hv hq'
  have hrr : r ≠ r0 := by rintro rfl; exact hne ho
  refine ⟨h1, h2, x, ℓq, ℓp, ?_, h4, by rw [Locs.set_ne _ _ (by omega)]; exact h5, by rw [Locs.set_ne _ _ hrr]; exact h6, h7.mono (SameOn.refl _ _) (fun _ h => h) (fun _ h => h) he⟩
  simp only [Mem.move]
  rw [List.getElem?_set_ne (by omega), List.getElem?_set_ne (by omega)]; exact h3

theorem BacksOk.move {m : Mem} {μ : Locs} {q0 r0 : Nat} {ℓ : Loc} (he : ExtL μ (μ.set r0 ℓ)) : ∀ {os : List (Option Nat)} {vs : List AV} {lo : Nat}, BacksOk B w Z m μ lo os vs → q0 < lo → r0 < lo → (∀ o ∈ os, o ≠ some r0) → BacksOk B w Z (m.move q0 r0) (μ.set r0 ℓ) lo os vs
  | [], _, _, _, _, _, _ => trivial
  | _ :: _, [], _, _, _, _, _ => trivial
  | o :: os, v :: vs, lo, h, hq, hr, hne => by
    obtain ⟨hi, h1, h2, h3⟩ := h
    exact ⟨hi, h1, h2.move hq hr (hne o List.mem_cons_self) he, h3.move he (by omega) (by omega) fun o ho => hne o (List.mem_cons_of_mem _ ho)⟩

theorem BacksOk.up {m : Mem} {μ : Locs} : ∀ {os : List (Option Nat)} {vs : List AV} {lo k : Nat}, BacksOk B w Z m μ lo os vs → k ≤ os.length → k ≤ vs.length → ∃ lo', lo ≤ lo' ∧ BacksOk B w Z m μ lo' (os.drop k) (vs.drop k)
  | os, vs, lo, 0, h, _, _ => ⟨lo, Nat.le_refl _, h⟩
  | [], _, _, _ + 1, _, h, _ => by simp at h
  | _ :: _, [], _, _ + 1, _, _, h => by simp at h
  | o :: os, v :: vs, lo, k + 1, h, hk, hk' => by
    obtain ⟨hi, h1, _, h3⟩ := h
    obtain ⟨lo', h4, h5⟩ := h3.up (k := k) (by simpa using hk) (by simpa using hk')
    exact ⟨lo', by omega, h5⟩

/-- The contents go back. -/
theorem rootsBack_sound : ∀ {rs : List Nat} {vs : List AV} {m : Mem} {F : Nat → Prop} {μ : Locs} {lo : Nat}, MemOk B m w Z μ → Loose B m w Z μ F → nodupN rs = true → (∀ r ∈ rs, r < lo ∧ m.roots[r]? = some .dead) → BacksOk B w Z m μ lo (rs.map some) vs →
    ∃ μ', MemOk B (rootsBack m rs vs) w Z μ' ∧ ExtL μ μ' ∧ (∀ r, μ r = none → μ' r = none) ∧ (rootsBack m rs vs).roots.length = m.roots.length
  | [], vs, m, F, μ, lo, hM, hF, _, _, _ => by
    simp only [rootsBack]
    exact ⟨μ, hM, ExtL.refl μ, fun _ h => h, trivial⟩
  | r :: rs, [], m, F, μ, lo, hM, hF, _, _, _ => by
    simp only [rootsBack]
    exact ⟨μ, hM, ExtL.refl μ, fun _ h => h, trivial⟩
  | r :: rs, v :: vs, m, F, μ, lo, hM, hF, hn, hd, hb => by
    obtain ⟨hi, h1, h2, h3⟩ := hb
    simp only [nodupN, Bool.and_eq_true, Bool.not_eq_true', List.contains_eq_mem, decide_eq_false_iff_not] at hn
    have hd' : ∀ r' ∈ rs, r' < hi ∧ m.roots[r']? = some .dead := fun r' hr' => by
      obtain ⟨a, b⟩ := hd r' (List.mem_cons_of_mem _ hr')
      exact ⟨by omega, b⟩
    have skip : ∃ μ', MemOk B (rootsBack m rs vs) w Z μ' ∧ ExtL μ μ' ∧ (∀ r, μ r = none → μ' r = none) ∧ (rootsBack m rs vs).roots.length = m.roots.length := rootsBack_sound hM hF hn.2 hd' h3
    cases v with
    | c x =>
      simp only [rootsBack]
      cases hx : x.root? with
      | none => exact skip
      | some q =>
        simp only
        obtain ⟨a1, a2, y, ℓq, ℓp, a3, a4, a5, a6, a7⟩ := h2 r rfl x q rfl hx
        obtain ⟨b1, b2⟩ := hd r List.mem_cons_self
        have he : ExtL μ (μ.set r { ℓp with S := ℓq.S }) := ExtL.setS a6
        obtain ⟨k1, k2⟩ := move_sound hM hF a3 a4 a5 b2 a6 (a7.mono (SameOn.refl _ _) (fun _ h => h) (fun _ h => h) he)
        obtain ⟨μ', g1, g2, g3, g4⟩ := rootsBack_sound (rs := rs) (vs := vs) (lo := hi) k1 k2 hn.2 (fun r' hr' => by
            obtain ⟨c1, c2⟩ := hd r' (List.mem_cons_of_mem _ hr')
            refine ⟨by omega, ?_⟩
            have hne : r ≠ r' := by rintro rfl; exact hn.1 hr'
            simp only [Mem.move]
            rw [List.getElem?_set_ne hne, List.getElem?_set_ne (by omega)]; exact c2) (h3.move he (by omega) (by omega) (fun o ho => by
            obtain ⟨r', hr', rfl⟩ := List.mem_map.1 ho
            rintro he; cases he; exact hn.1 hr'))
        refine ⟨μ', g1, he.trans g2, fun s hs => g3 s ?_, by rw [g4]; simp [Mem.move]⟩
        have hne : s ≠ r := by rintro rfl; rw [hs] at a6; cases a6
        rw [Locs.set_ne _ _ hne]; exact hs
    | agg cs => simp only [rootsBack]; exact skip
    | tup l => simp only [rootsBack]; exact skip
end
end Go.Mach

/-
  Mach: where ways meet (3): a cut is sound.
-/
namespace Go.Mach

/-- From b to s: what is not marked is as it was. -/
structure Ev (b s : St) : Prop where
  tl : s.tmps.length = b.tmps.length
  rl : b.mem.roots.length ≤ s.mem.roots.length
  tm : ∀ i, i ∉ s.dT → s.tmps[i]? = b.tmps[i]?
  rt : ∀ r, r < b.mem.roots.length → s.mem.dR.testBit r = false → s.mem.roots[r]? = b.mem.roots[r]?

theorem Ev.congr {b b' s : St} (h : Ev b s) (hb : Alike b b') : Ev b' s := ⟨by rw [← hb.1]; exact h.tl, by rw [← hb.2]; exact h.rl, fun i hi => by rw [← hb.1]; exact h.tm i hi, fun r hr hd => by rw [← hb.2] at hr ⊢; exact h.rt r hr hd⟩
theorem Ev.refl (b : St) : Ev b b := ⟨rfl, Nat.le_refl _, fun _ _ => rfl, fun _ _ _ => rfl⟩

/-- The value that leads to a root. -/
def rootVal (m : Mem) (μ : Locs) (r : Nat) : Value :=
  match m.roots[r]?, μ r with
  | some (.arr _ _ _), some ℓ => .slice (ℓ.addr 0) ℓ.len ℓ.cap
  | some (.box _), some ℓ => .pointer (ℓ.blk.map fun b => ⟨b, ℓ.base + 0, none⟩)
  | _, _ => undef

section
variable {B : Base} {w : World} {Z : Nat → Prop} {μ : Locs}

theorem rootCell_ok {m : Mem} (hM : MemOk B m w Z μ) (r : Nat) : AR w Z μ (.c (rootCell m r)) (rootVal m μ r) := by
  unfold rootCell rootVal
  cases hx : m.roots[r]? with
  | none => trivial
  | some x =>
    cases x with
    | box cs =>
      obtain ⟨ℓ, h1, b, h2, _⟩ := hM.rt r _ hx (by simp)
      rw [h1]
      exact ⟨ℓ, b, h1, h2, by simp [h2]⟩
    | arr s xs foc =>
      obtain ⟨ℓ, h1, _⟩ := hM.rt r _ hx (by simp)
      rw [h1]
      exact ⟨ℓ, h1, rfl⟩
    | _ => trivial

/-- What a root's content is taken for tells how it lies. -/
theorem getV_lead {s : Sh} {m0 m m' : Mem} {r : Nat} {y : s.den} (hM : MemOk B m w Z μ) (hs : s.objOk = true) (h : getV (false, s) (.c (rootCell m0 r)) m = some (y, m')) : LeadR μ r s (rootVal m0 μ r) := by
  unfold getV at h
  split at h
  case h_2 => cases h
  rename_i x' m1' _ hg
  simp only [AV.cells] at hg
  unfold rootCell at hg
  unfold rootVal
  cases hx : m0.roots[r]? with
  | none => rw [hx] at hg; cases s <;> simp [Sh.objOk] at hs <;> simp [Sh.get] at hg
  | some x =>
    rw [hx] at hg
    cases x with
    | box cs =>
      cases s with
      | own s => simp [Sh.get] at hg
      | box s =>
        simp only [Sh.get] at hg
        split at hg
        case h_2 => cases hg
        rename_i bs hb
        obtain ⟨ℓ, h1, b, h2, _⟩ := hM.rt r _ hb (by simp)
        rw [h1]
        exact ⟨ℓ, b, h1, h2, by simp [h2]⟩
      | _ => simp [Sh.objOk] at hs
    | arr s' xs foc =>
      cases s with
      | own s =>
        simp only [Sh.get] at hg
        split at hg
        case h_2 => cases hg
        rename_i s2 xs2 foc2 hb
        split at hg
        case h_2 => cases hg
        rename_i _ he _ _
        subst he
        obtain ⟨ℓ, h1, h2, h3⟩ := hM.rt r _ hb (by simp)
        rw [h1]
        exact ⟨ℓ, h1, h3.1, h3.2.2.2.2.1, rfl⟩
      | box s => simp [Sh.get] at hg
      | _ => simp [Sh.objOk] at hs
    | dead => cases s <;> simp [Sh.objOk] at hs <;> simp [Sh.get] at hg
    | frz e xs => cases s <;> simp [Sh.objOk] at hs <;> simp [Sh.get] at hg
    | bbox cs => cases s <;> simp [Sh.objOk] at hs <;> simp [Sh.get] at hg
    | bor s' xs => cases s <;> simp [Sh.objOk] at hs <;> simp [Sh.get] at hg

/-- The roots' part of what is kept. -/
def RootsAt (m0 : Mem) (μ : Locs) : List (Option Nat) → List VSh → List AV → List Value → Prop
  | o :: os, a :: l, x :: xs, u :: us => (∀ r, o = some r → a.1 = false ∧ a.2.objOk = true ∧ x = .c (rootCell m0 r) ∧ u = rootVal m0 μ r) ∧ RootsAt m0 μ os l xs us
  | _, _, _, _ => True

theorem gets_lead {m0 : Mem} : ∀ {l : List VSh} {os : List (Option Nat)} {xs : List AV} {vs : List Value} {m m' : Mem} {Z F : Nat → Prop} {y : dens l}, MemOk B m w Z μ → Loose B m w Z μ F → ARs w Z μ xs vs → gets l xs m = some (y, m') → RootsAt m0 μ os l xs vs → LeadsR μ os l vs
  | [], os, xs, vs, m, m', Z, F, y, hM, hF, hx, h, hr => by cases os <;> trivial
  | [a], os, xs, vs, m, m', Z, F, y, hM, hF, hx, h, hr => by
    match xs, h with
    | [x], h =>
      obtain ⟨v, vs', rfl, h1, h2⟩ := hx
      have h2 : vs' = [] := h2
      subst h2
      match os, hr with
      | [], _ => trivial
      | o :: os, hr =>
        refine ⟨fun r ho => ?_, by cases os <;> trivial⟩
        obtain ⟨k1, k2, k3, k4⟩ := hr.1 r ho
        obtain ⟨g, s⟩ := a
        simp only at k1 k2
        subst k1
        subst k3
        subst k4
        exact ⟨rfl, getV_lead hM k2 h⟩
  | a :: b :: l, os, xs, vs, m, m', Z, F, y, hM, hF, hx, h, hr => by
    match xs, h with
    | x :: xs, h =>
      obtain ⟨v, vs', rfl, h1, h2⟩ := hx
      simp only [gets] at h
      split at h
      case h_2 => cases h
      rename_i y1 m1 hg
      split at h
      case h_2 => cases h
      rename_i y2 m2 hgs
      obtain ⟨Z1, F1, S1, e1, e2, e3, _⟩ := getV_sound hM hF h1 hg
      match os, hr with
      | [], _ => trivial
      | o :: os, hr =>
        refine ⟨fun r ho => ?_, gets_lead (l := b :: l) e1 e2 (h2.mono (SameOn.refl _ _) e3 (ExtL.refl μ)) hgs hr.2⟩
        obtain ⟨k1, k2, k3, k4⟩ := hr.1 r ho
        obtain ⟨g, s⟩ := a
        simp only at k1 k2
        subst k1
        subst k3
        subst k4
        exact ⟨rfl, getV_lead hM k2 hg⟩

theorem LeadsR.restrict {μr : Locs} : ∀ {os : List (Option Nat)} {l : List VSh} {us : List Value}, (∀ r, some r ∈ os → μr r = μ r) → LeadsR μ os l us → LeadsR μr os l us
  | [], _, _, _, _ => trivial
  | _ :: _, [], _, _, _ => trivial
  | _ :: _, _ :: _, [], _, _ => trivial
  | o :: os, a :: l, u :: us, h, hl => by
    refine ⟨fun r ho => ?_, hl.2.restrict fun r hr => h r (List.mem_cons_of_mem _ hr)⟩
    obtain ⟨h1, h2⟩ := hl.1 r ho
    refine ⟨h1, ?_⟩
    have he := h r (by rw [ho]; exact List.mem_cons_self)
    cases hs : a.2 with
    | own s => rw [hs] at h2; obtain ⟨ℓ, k1, k2⟩ := h2; exact ⟨ℓ, by rw [he]; exact k1, k2⟩
    | box s => rw [hs] at h2; obtain ⟨ℓ, b, k1, k2⟩ := h2; exact ⟨ℓ, b, by rw [he]; exact k1, k2⟩
    | _ => rw [hs] at h2; exact h2.elim

theorem RootsAt.cut {m0 : Mem} : ∀ {sl : List (Nat × VSh)} {rt : List (Nat × Sh)} {s : St} {a : Act}, (∀ p ∈ rt, p.2.objOk = true) →
    RootsAt m0 μ (sl.map (fun _ => none) ++ rt.map fun p => some p.1) (sl.map (·.2) ++ rt.map fun p => (false, p.2)) (sl.map (fun p => s.get p.1) ++ rt.map fun p => .c (rootCell m0 p.1)) (sl.map (fun p => a.tmps.getD p.1 undef) ++ rt.map fun p => rootVal m0 μ p.1)
  | _ :: sl, rt, s, a, h => ⟨(fun r hr => by cases hr), RootsAt.cut (sl := sl) h⟩
  | [], p :: rt, s, a, h => ⟨(fun r hr => by cases hr; exact ⟨rfl, h p List.mem_cons_self, rfl, rfl⟩), RootsAt.cut (sl := []) (a := a) (s := s) fun q hq => h q (List.mem_cons_of_mem _ hq)⟩
  | [], [], _, _, _ => trivial

theorem ARs.cutL {s : St} {a : Act} (hR : Rel B s a w Z μ) : ∀ (sl : List (Nat × VSh)), ARs w Z μ (sl.map fun p => s.get p.1) (sl.map fun p => a.tmps.getD p.1 undef)
  | [] => rfl
  | p :: sl => ⟨_, _, rfl, hR.get p.1, ARs.cutL hR sl⟩
theorem ARs.cutR {m : Mem} (hM : MemOk B m w Z μ) : ∀ (rt : List (Nat × Sh)), ARs w Z μ (rt.map fun p => .c (rootCell m p.1)) (rt.map fun p => rootVal m μ p.1)
  | [] => rfl
  | p :: rt => ⟨_, _, rfl, rootCell_ok hM p.1, ARs.cutR hM rt⟩

theorem ARs.at_ : ∀ {xs : List AV} {vs : List Value}, ARs w Z μ xs vs → ∀ (k : Nat) (x : AV), xs[k]? = some x → ∃ v, vs[k]? = some v ∧ AR w Z μ x v
  | [], _, _, k, x, h => by simp at h
  | y :: xs, vs, hx, 0, x, h => by
    obtain ⟨v, vs', rfl, h1, _⟩ := hx
    simp at h; subst h
    exact ⟨v, rfl, h1⟩
  | y :: xs, vs, hx, k + 1, x, h => by
    obtain ⟨v, vs', rfl, _, h2⟩ := hx
    simpa using ARs.at_ h2 k x (by simpa using h)
end

theorem subset_spec {a b : List Nat} (h : subset a b = true) {x : Nat} (hx : x ∈ a) : x ∈ b := by
  have := List.all_eq_true.1 h x hx
  simpa using this

section
variable {B : Base} {w0 w : World} {Z0 Z : Nat → Prop} {μ0 μ : Locs}

/-- What is kept of one state, laid over another that it comes from. -/
theorem cut_sound {c : Cut} {b s : St} {y : c.den} {a0 a : Act} (hb : Rel B b a0 w0 Z0 μ0) (hs : Rel B s a w Z μ) (hev : Ev b s) (hext : ExtL μ0 μ) (h : c.get b.mem.roots.length s = some y) :
    ∃ Z' μ', Rel B (c.put b y) a w Z' μ' ∧ (∀ d, Z d → Z' d) ∧ ExtL μ0 μ' := by
  unfold Cut.get at h
  split at h
  case h_2 => cases h
  rename_i x m hg
  split at h
  case h_2 => cases h
  rename_i hsub1 hsub2
  cases h
  simp only [Bool.and_eq_true, List.all_eq_true, decide_eq_true_eq] at hsub1
  obtain ⟨hdT, hnr, hns, hobj⟩ := hsub1
  have hxs := (ARs.cutL hs c.sl).append (ARs.cutR hs.mem c.rt)
  have hL0 : Loose B s.mem w Z μ (fun _ => False) := Loose.none B s.mem w Z μ
  have hlead := gets_lead hs.mem hL0 hxs hg (RootsAt.cut (m0 := s.mem) (s := s) (a := a) fun p hp => (hobj p hp).1)
  obtain ⟨Z', F', S, hM, hF, hZ, _, hS, _, hV⟩ := gets_sound hs.mem hL0 hxs hg
  have hgt := gets_touch hg
  -- the places
  let n0 := b.mem.roots.length
  let μr : Locs := fun r => if r < n0 then μ r else none
  have hμr : ∀ r, r < n0 → μr r = μ r := fun r hr => if_pos hr
  have hμr' : ∀ r, n0 ≤ r → μr r = none := fun r hr => if_neg (by omega)
  have hμ0 : ∀ r, μ0 r ≠ none → r < n0 := fun r hr => by
    rcases Nat.lt_or_ge r n0 with h1 | h1
    · exact h1
    · exact absurd (hb.mem.far r h1) hr
  have hrr : ∀ r, μ0 r ≠ none → μr r = μ r := fun r hr => hμr r (hμ0 r hr)
  have hx0 : ExtL μ0 μr := fun r ℓ hr => by rw [hrr r (by rw [hr]; simp)]; exact hext r ℓ hr
  let m0 : Mem := ⟨killAll b.mem.roots (c.kr ++ c.rt.map (·.1)) ++ List.replicate (newsL c.shs) .dead, (c.kr ++ c.rt.map (·.1)).foldl (fun d r => d ||| 2 ^ r) b.mem.dR, b.mem.roots.length⟩
  have hkl : (killAll b.mem.roots (c.kr ++ c.rt.map (·.1))).length = n0 := killAll_length _ _
  have hm0 : ∀ r x, m0.roots[r]? = some x → x ≠ .dead → r < n0 ∧ b.mem.roots[r]? = some x ∧ m.roots[r]? = some x := by
    intro r x hx hd
    rcases Nat.lt_or_ge r n0 with h1 | h1
    · have h2 : (killAll b.mem.roots (c.kr ++ c.rt.map (·.1)))[r]? = some x := by
        have : m0.roots[r]? = _ := List.getElem?_append_left (by rw [hkl]; exact h1)
        rw [this] at hx; exact hx
      obtain ⟨k1, k2⟩ := killAll_get (c.kr ++ c.rt.map (·.1)) b.mem.roots r
      by_cases hmem : r ∈ c.kr ++ c.rt.map (·.1)
      · rw [k2 hmem] at h2
        cases hbr : b.mem.roots[r]? with
        | none => rw [hbr] at h2; cases h2
        | some z => rw [hbr] at h2; cases h2; exact absurd rfl hd
      · rw [k1 hmem] at h2
        refine ⟨h1, h2, ?_⟩
        have hbit : m.dR.testBit r = false := by
          cases hbb : m.dR.testBit r with
          | false => rfl
          | true =>
            have := subset_spec hsub2 (x := r) (by simp only [List.mem_filter, List.mem_range]; exact ⟨h1, hbb⟩)
            simp only [List.mem_append] at this hmem
            exact absurd this.symm hmem
        have hbit' : s.mem.dR.testBit r = false := by
          cases hbb : s.mem.dR.testBit r with
          | false => rfl
          | true => rw [hgt.dR r hbb] at hbit; cases hbit
        rw [hgt.same r (by omega) hbit, hev.rt r h1 hbit']
        exact h2
    · have : m0.roots[r]? = _ := List.getElem?_append_right (by rw [hkl]; exact h1)
      rw [this, List.getElem?_replicate] at hx
      split at hx
      · cases hx; exact absurd rfl hd
      · cases hx
  have hml : m0.roots.length = n0 + newsL c.shs := by
    have hroots : m0.roots = killAll b.mem.roots (c.kr ++ c.rt.map (·.1)) ++ List.replicate (newsL c.shs) Root.dead := rfl
    rw [hroots, List.length_append, hkl, List.length_replicate]
  have hM0 : MemOk B m0 w Z' μr := hM.restrict (fun r x hx hd => by
      obtain ⟨k1, k2, k3⟩ := hm0 r x hx hd
      refine ⟨k3, hμr r k1, fun ℓ hℓ => ?_⟩
      obtain ⟨ℓ0, _, g⟩ := hb.mem.rt r x k2 hd
      exact RootOk.restrict hrr g hℓ) (fun r hr => hμr' r (by omega))
  have hF0 : Loose B m0 w Z' μr F' := hF.restrict fun r x hx hd => by
    obtain ⟨k1, k2, k3⟩ := hm0 r x hx hd
    exact ⟨k3, hμr r k1⟩
  have hfree : Free m0 μr (newsL c.shs) := fun k hk => by
    refine ⟨hμr' _ (by show n0 ≤ n0 + k; omega), ?_⟩
    have : m0.roots[m0.cur + k]? = _ := List.getElem?_append_right (by rw [hkl]; show n0 ≤ n0 + k; omega)
    rw [this, List.getElem?_replicate, if_pos (by rw [hkl]; show n0 + k - n0 < _; omega)]
  obtain ⟨μ2, e1, e2, e3, e4, e5⟩ := mks_back hM0 hF0 hfree hV (fun d hd => (hS d hd).1) (hlead.restrict (μr := μr) fun r hr => by
    simp only [List.mem_append, List.mem_map, reduceCtorEq, and_false, exists_false, Option.some.injEq, false_or] at hr
    obtain ⟨p, hp, rfl⟩ := hr
    exact hμr _ (hobj p hp).2)
  have hput : c.put b y = ⟨setAll b.tmps ((c.sl.map (·.1)).zip (mks c.shs y m0).1 ++ c.kill.map fun k => (k, .c .undef)), rootsBack (mks c.shs y m0).2 (c.rt.map (·.1)) ((mks c.shs y m0).1.drop c.sl.length), c.sl.map (·.1) ++ (c.kill ++ b.dT)⟩ := rfl
  rw [hput]
  obtain ⟨hfl, _⟩ := mks_form (l := c.shs) (x := y) (m := m0)
  generalize hmk : mks c.shs y m0 = k at e1 e2 e3 e4 e5 hfl
  obtain ⟨vs', m2⟩ := k
  simp only at e1 e2 e3 e4 e5 hfl ⊢
  have hfl' : vs'.length = c.sl.length + c.rt.length := by rw [hfl]; simp [Cut.shs]
  obtain ⟨lo', hlo, hbk⟩ := e5.up (k := c.sl.length) (by simp) (by omega)
  have hbk' : BacksOk B w Z' m2 μ2 lo' ((c.rt.map (·.1)).map some) (vs'.drop c.sl.length) := by
    have : (c.sl.map (fun _ => (none : Option Nat)) ++ c.rt.map fun p => some p.1).drop c.sl.length = (c.rt.map (·.1)).map some := by
      rw [List.drop_append_of_le_length (by simp), List.drop_of_length_le (by simp)]
      simp
    rw [← this]; exact hbk
  obtain ⟨μ3, g1, g2, _, _⟩ := rootsBack_sound e1 e2 hnr (fun r hr => by
    obtain ⟨p, hp, rfl⟩ := List.mem_map.1 hr
    have hlt : p.1 < n0 := (hobj p hp).2
    have hcur : m0.cur = n0 := rfl
    refine ⟨by omega, ?_⟩
    rw [(e4.old p.1 (.inl hlt)).2]
    have h1 : m0.roots[p.1]? = _ := List.getElem?_append_left (by rw [hkl]; exact hlt)
    rw [h1, (killAll_get _ _ _).2 (List.mem_append_right _ hr), List.getElem?_eq_getElem hlt]
    rfl) hbk'
  refine ⟨Z', μ3, ⟨g1, fun i z hz => ?_, ?_, hs.df⟩, hZ, hx0.trans (e4.ext.trans g2)⟩
  · rcases setAll_get _ _ i z hz with h1 | ⟨h1, h2⟩
    · rcases List.mem_append.1 h1 with h1 | h1
      · obtain ⟨k, hk⟩ := List.getElem?_of_mem h1
        rw [List.getElem?_zip_eq_some] at hk
        obtain ⟨hk1, hk2⟩ := hk
        obtain ⟨v, hv, har⟩ := ARs.at_ e3 k z hk2
        have hkl2 : k < c.sl.length := by
          have := (List.getElem?_eq_some_iff.1 hk1).1
          simpa using this
        rw [List.getElem?_append_left (by simpa using hkl2), List.getElem?_map] at hv
        rw [List.getElem?_map] at hk1
        rw [List.getElem?_eq_getElem hkl2] at hv hk1
        simp only [Option.map_some, Option.some.injEq] at hv hk1
        rw [← hk1, hv]
        exact har.mono (SameOn.refl _ _) (fun _ h => h) g2
      · obtain ⟨k, _, hk⟩ := List.mem_map.1 h1
        cases hk
        exact AR.undef _
    · have hnot : i ∉ s.dT := fun hi => by
        have := subset_spec hdT hi
        rcases List.mem_append.1 this with h3 | h3
        · obtain ⟨k, hk⟩ := List.getElem?_of_mem h3
          have hkl2 : k < c.sl.length := by
            have := (List.getElem?_eq_some_iff.1 hk).1
            simpa using this
          refine h2 vs'[k] (List.mem_append_left _ (List.mem_of_getElem? (i := k) ?_))
          rw [List.getElem?_zip_eq_some]
          exact ⟨hk, List.getElem?_eq_getElem (by omega)⟩
        · exact h2 (.c .undef) (List.mem_append_right _ (List.mem_map.2 ⟨i, h3, rfl⟩))
      have h4 := hs.tm i z ((hev.tm i hnot).trans h1)
      have h5 := hb.tm i z h1
      exact (AR.restrict hrr h5 h4).mono (SameOn.refl _ _) hZ (e4.ext.trans g2)
  · show (setAll b.tmps _).length = _
    rw [setAll_length, ← hev.tl]
    exact hs.len
end
end Go.Mach

/-
  Mach: what changes is marked.
-/
namespace Go.Mach

theorem fold_bits : ∀ (l : List Nat) (d r : Nat), (l.foldl (fun d r => d ||| 2 ^ r) d).testBit r = (d.testBit r || l.contains r)
  | [], d, r => by simp
  | x :: l, d, r => by
    rw [List.foldl_cons, fold_bits l, Nat.testBit_or, Nat.testBit_two_pow, List.contains_cons]
    have hx : decide (x = r) = (r == x) := by
      rw [Bool.eq_iff_iff]; simp only [decide_eq_true_eq, beq_iff_eq]; exact eq_comm
    rw [hx, Bool.or_assoc]

theorem rootsBack_touch : ∀ (rs : List Nat) (vs : List AV) (m : Mem), Touch m (rootsBack m rs vs) 0
  | [], _, m => by simp only [rootsBack]; exact Touch.refl m
  | _ :: _, [], m => by simp only [rootsBack]; exact Touch.refl m
  | r :: rs, v :: vs, m => by
    cases v with
    | c x =>
      simp only [rootsBack]
      cases x.root? with
      | none => exact rootsBack_touch rs vs m
      | some q => exact (Touch.move m q r).trans0 (rootsBack_touch rs vs _)
    | agg cs => simp only [rootsBack]; exact rootsBack_touch rs vs m
    | tup l => simp only [rootsBack]; exact rootsBack_touch rs vs m

theorem setAll_ne : ∀ (l : List (Nat × AV)) (ts : List AV) (k : Nat), (∀ v, (k, v) ∉ l) → (setAll ts l)[k]? = ts[k]?
  | [], _, _, _ => rfl
  | (i, v) :: l, ts, k, h => by
    rw [setAll, setAll_ne l _ k fun v' hm => h v' (List.mem_cons_of_mem _ hm)]
    rw [List.getElem?_set_ne (by rintro rfl; exact h v List.mem_cons_self)]

theorem put_ev {b0 b : St} {c : Cut} {y : c.den} (h : Ev b0 b) : Ev b0 (c.put b y) := by
  let m0 : Mem := ⟨killAll b.mem.roots (c.kr ++ c.rt.map (·.1)) ++ List.replicate (newsL c.shs) .dead, (c.kr ++ c.rt.map (·.1)).foldl (fun d r => d ||| 2 ^ r) b.mem.dR, b.mem.roots.length⟩
  have hput : c.put b y = ⟨setAll b.tmps ((c.sl.map (·.1)).zip (mks c.shs y m0).1 ++ c.kill.map fun k => (k, .c .undef)), rootsBack (mks c.shs y m0).2 (c.rt.map (·.1)) ((mks c.shs y m0).1.drop c.sl.length), c.sl.map (·.1) ++ (c.kill ++ b.dT)⟩ := rfl
  rw [hput]
  have ht : Touch m0 (rootsBack (mks c.shs y m0).2 (c.rt.map (·.1)) ((mks c.shs y m0).1.drop c.sl.length)) (newsL c.shs) := (mks_touch c.shs y m0).trans1 (rootsBack_touch _ _ _)
  have hkl : (killAll b.mem.roots (c.kr ++ c.rt.map (·.1))).length = b.mem.roots.length := killAll_length _ _
  refine ⟨(setAll_length _ _).trans h.tl, ?_, fun i hi => ?_, fun r hr hd => ?_⟩
  · show b0.mem.roots.length ≤ (rootsBack _ _ _).roots.length
    rw [ht.len]
    have hroots : m0.roots = killAll b.mem.roots (c.kr ++ c.rt.map (·.1)) ++ List.replicate (newsL c.shs) Root.dead := rfl
    rw [hroots, List.length_append, hkl]
    have := h.rl
    omega
  · simp only [List.mem_append, not_or] at hi
    obtain ⟨h1, h2, h3⟩ := hi
    refine (setAll_ne _ _ i fun v hm => ?_).trans (h.tm i h3)
    rcases List.mem_append.1 hm with hm | hm
    · exact h1 (List.of_mem_zip hm).1
    · obtain ⟨k, hk, he⟩ := List.mem_map.1 hm
      cases he
      exact h2 hk
  · have hrl := h.rl
    have hd0 : m0.dR.testBit r = false := by
      cases hb : m0.dR.testBit r with
      | false => rfl
      | true =>
        have := ht.dR r hb
        have hd : (rootsBack (mks c.shs y m0).2 (c.rt.map (·.1)) ((mks c.shs y m0).1.drop c.sl.length)).dR.testBit r = false := hd
        rw [this] at hd; cases hd
    have hd1 : ((c.kr ++ c.rt.map (·.1)).foldl (fun d r => d ||| 2 ^ r) b.mem.dR).testBit r = false := hd0
    rw [fold_bits] at hd1
    simp only [Bool.or_eq_false_iff, List.contains_eq_mem, decide_eq_false_iff_not] at hd1
    have h1 := ht.same r (.inl (show r < b.mem.roots.length by omega)) hd
    refine h1.trans (.trans ?_ (h.rt r hr hd1.1))
    have h2 : m0.roots[r]? = _ := List.getElem?_append_left (by rw [hkl]; omega)
    rw [h2]
    exact (killAll_get _ _ r).1 hd1.2

theorem EKey.same_eq {a b : EKey} (h : a.same b = true) : a = b := by
  cases a <;> cases b <;> simp [EKey.same] at h <;> first | rfl | (subst h; rfl)

/-- What a piece hands on is taken up. -/
theorem inj_spec {n0 : Nat} {k : EKey} {s : St} : ∀ (ex : Exits) {Φ : ex.den → Prop}, (ex.inj n0 k s).sat Φ → ∃ z, Φ z ∧ ∃ (c : Cut) (y : c.den), c.get n0 s = some y ∧ ∀ {β : Type} (K : Kont β) (st : St), ex.go st K z = K.at k (c.put st y)
  | [], Φ, h => h.elim
  | [a], Φ, h => by
    simp only [Exits.inj] at h
    split at h
    case h_2 => exact h.elim
    rename_i hk
    split at h
    case h_2 => exact h.elim
    rename_i x hx
    refine ⟨x, h, a.2, x, hx, fun K st => ?_⟩
    simp only [Exits.go]
    rw [EKey.same_eq hk]
  | a :: b :: r, Φ, h => by
    simp only [Exits.inj] at h
    split at h
    · rename_i hk
      split at h
      case h_2 => exact h.elim
      rename_i x hx
      refine ⟨.inl x, h, a.2, x, hx, fun K st => ?_⟩
      simp only [Exits.go, Res.sum]
      rw [EKey.same_eq hk]
    · have h' : (Exits.inj n0 k s (b :: r)).sat fun y => Φ (.inr y) := by
        generalize hi : Exits.inj n0 k s (b :: r) = q at h
        cases q with
        | ok y => exact h
        | stuck => exact h
        | void => trivial
      obtain ⟨z, h1, c, y, h2, h3⟩ := inj_spec (b :: r) h'
      exact ⟨.inr z, h1, c, y, h2, fun K st => by simp only [Exits.go, Res.sum]; exact h3 K st⟩

theorem Ent.put_ev {b s : St} {e : Ent} {o : Oper} (hd : ∀ d, o.dst = some d → d ∈ s.dT) (hf : e.fits s.mem.roots.length) (h : Ev b s) : Ev b (e.put o s) := by
  have hl := (Ent.put_roots hf o rfl).1
  refine ⟨?_, by rw [hl]; exact h.rl, fun i hi => ?_, fun r hr hb => ?_⟩
  · rw [Ent.put_tmps, ← h.tl]; cases o.dst <;> simp
  · rw [Ent.put_dT] at hi
    rw [Ent.put_tmps, ← h.tm i hi]
    cases hdst : o.dst with
    | none => rfl
    | some d =>
      simp only
      rw [List.getElem?_set_ne (by rintro rfl; exact hi (hd d hdst))]
  · have hlt : r < s.mem.roots.length := Nat.lt_of_lt_of_le hr h.rl
    cases e with
    | none =>
      have hm : (Ent.put none o s).mem = s.mem := by cases h : o.dst <;> simp [Ent.put, St.put, h]
      rw [hm] at hb ⊢
      exact h.rt r hr hb
    | some e =>
      obtain ⟨v, R, W, m1⟩ := e
      have hm : (Ent.put (some (v, R, W, m1)) o s).mem = s.mem.over m1 W := by cases h : o.dst <;> simp [Ent.put, St.with, St.put, h]
      rw [hm] at hb ⊢
      have hW : ¬ W.has r ∧ s.mem.dR.testBit r = false := by
        cases W with
        | none =>
          simp only [Mem.over, Nat.testBit_or, Nat.testBit_two_pow_sub_one, Bool.or_eq_false_iff, decide_eq_false_iff_not] at hb
          exact absurd hlt hb.2
        | some l =>
          cases l with
          | nil => exact ⟨by simp [Foot.has], hb⟩
          | cons x l =>
            have hb' : ((x :: l).foldl (fun d r => d ||| 2 ^ r) s.mem.dR).testBit r = false := hb
            rw [fold_bits] at hb'
            simp only [Bool.or_eq_false_iff] at hb'
            exact ⟨(fun hh => by rw [show (x :: l).contains r = true from hh] at hb'; cases hb'.2), hb'.1⟩
      rw [(over_get (by rw [hf v R W m1 rfl]) W r).2 hW.1]
      exact h.rt r hr hW.2

theorem stS_ev {b : St} {N : Nat} : ∀ (L : List (Oper × Ent)) (S : Nat → Bool) (i : Nat) (s : St), (∀ p ∈ L, ∀ d, p.1.dst = some d → d ∈ s.dT) → (∀ p ∈ L, p.2.fits N) → s.mem.roots.length = N → Ev b s → Ev b (stS L S i s) ∧ (stS L S i s).dT = s.dT
  | [], _, _, _, _, _, _, h => ⟨h, rfl⟩
  | (o, e) :: L, S, i, s, hd, hf, hN, h => by
    simp only [stS]
    have hfe := hf (o, e) List.mem_cons_self
    cases S i with
    | false => exact stS_ev L S (i + 1) s (fun p hp => hd p (List.mem_cons_of_mem _ hp)) (fun p hp => hf p (List.mem_cons_of_mem _ hp)) hN h
    | true =>
      have h1 := stS_ev (b := b) L S (i + 1) (e.put o s) (fun p hp d hdd => by rw [Ent.put_dT]; exact hd p (List.mem_cons_of_mem _ hp) d hdd) (fun p hp => hf p (List.mem_cons_of_mem _ hp)) (Ent.put_roots hfe o hN).1 (Ent.put_ev (fun d hdd => hd (o, e) List.mem_cons_self d hdd) (by rw [hN]; exact hfe) h)
      exact ⟨h1.1, h1.2.trans (Ent.put_dT e o s)⟩
end Go.Mach

/-
  Mach: a region in the text's order.
-/
namespace Go.Mach

section
variable {B : Base} {E : Env} {ops : Array Oper} {A : List Nat} {c0 : Nat} {β : Type} {Ψ : β → Prop} {K : St → Res β}

theorem plain_sound {Q : Exit → Act → World → Prop} {b : St} {μ0 : Locs} (hdr : E.dr = false) (hE : ∀ sp ∈ E.specs, Contract E.P sp) (hbl : b.mem.roots.length ≤ c0)
    (hQ : ∀ s a w Z μ, (K s).sat Ψ → Rel B s a w Z μ → Ev b s → ExtL μ0 μ → Q .normal a w) : ∀ (rest : List Oper) (i c : Nat) (l : Log) (st : St) {a : Act} {w : World} {Z : Nat → Prop} {μ : Locs},
    rest = ops.toList.drop i → c = cAt E ops c0 i → c0 + newsAll E ops.toList ≤ st.mem.roots.length → (∀ o ∈ ops.toList, ∀ d, o.dst = some d → d ∈ st.dT) → Rel B st a w Z μ → Ev b st → ExtL μ0 μ →
    (∀ r, c ≤ r → r < c0 + newsAll E ops.toList → μ r = none) → (execOps E ops A rest i c l st K).sat Ψ → wpOps E.P ops Q (List.range' i rest.length) a w
  | [], i, c, l, st, a, w, Z, μ, hrest, hc, hN, hd, hR, hev, hext, hfree, h => by
    simp only [List.length_nil, List.range'_zero, wpOps]
    refine hQ _ a w Z μ h ⟨hR.mem.congr rfl, hR.tm, hR.len, hR.df⟩ ⟨hev.tl, hev.rl, hev.tm, hev.rt⟩ hext
  | o :: rest, i, c, l, st, a, w, Z, μ, hrest, hc, hN, hd, hR, hev, hext, hfree, h => by
    have ho : ops.toList[i]? = some o := by
      have h1 := congrArg (fun l : List Oper => l[0]?) hrest
      simpa using h1.symm
    have ho' : ops[i]? = some o := by simpa using ho
    have hmem : o ∈ ops.toList := List.mem_of_getElem? ho
    have hrest' : rest = ops.toList.drop (i + 1) := by
      have h1 := congrArg List.tail hrest
      simpa using h1
    have hlt := (List.getElem?_eq_some_iff.1 ho).1
    have hc1 := cAt_succ (E := E) (c0 := c0) ho
    have hcall : cAt E ops c0 (i + 1) ≤ c0 + newsAll E ops.toList := by
      have := cAt_le (E := E) (ops := ops) (c0 := c0) (i := i + 1) (j := ops.toList.length) (by omega)
      unfold cAt at this ⊢
      rw [List.take_length] at this
      exact this
    have hc0 : c0 ≤ c := by rw [hc]; exact Nat.le_add_right _ _
    simp only [List.length_cons, List.range'_succ, wpOps, ho']
    simp only [execOps] at h
    split at h
    · rename_i hw
      rw [hdr] at h
      simp only at h
      rw [wanted_rel hR hw]
      simp only [if_true]
      left
      let st' : St := ⟨st.tmps, st.mem.at c, st.dT⟩
      have hR' : Rel B st' a w Z μ := ⟨hR.mem.congr rfl, hR.tm, hR.len, hR.df⟩
      have hF : Fresh st' (newsOf E o) μ := fun k hk => by
        have h1 : μ (c + k) = none := hfree _ (by omega) (by omega)
        refine ⟨h1, ?_⟩
        show st.mem.roots[c + k]? = _
        cases hx : st.mem.roots[c + k]? with
        | none => rw [List.getElem?_eq_none_iff] at hx; omega
        | some x =>
          by_cases hdd : x = .dead
          · rw [hdd]
          · obtain ⟨ℓ, h2, _⟩ := hR.mem.rt _ x hx hdd
            rw [h1] at h2; cases h2
      rw [stepV_cps] at h
      have h1 : (step E st' o Res.ok).sat fun s' => ∃ v m, s' = st.with o.dst v m ∧ TouchLe (st.mem.at c) m (newsOf E o) ∧ (guardK ops o.dst (st.with o.dst v m) fun st' => execOps E ops A rest (i + 1) (c + newsOf E o) l st' K).sat Ψ := by
        have h2 := sat_bind h
        have hends := stepV_ends E (val st) (fun g => rfl) (st.mem.at c) o
        unfold step
        rw [show val st' = val st from val_eq st _ _, stepV_cps E (val st) st'.mem o]
        show ((stepV E (val st) (st.mem.at c) o endV).bind _).sat _
        generalize stepV E (val st) (st.mem.at c) o endV = r at h2 hends
        cases r with
        | stuck => exact h2.elim
        | void => trivial
        | ok p => exact ⟨p.1, p.2, rfl, hends p.1 p.2 rfl, h2⟩
      refine Oper.wp_any (Oper.wp_mono ?_ (step_sound hR' hE (Nat.le_refl _) hF h1))
      rintro a' w' ⟨s', Z', μ', hR2, ⟨v, m, rfl, ⟨k, hk, ht⟩, hg⟩, hlen, hdT, hout, hzz, hext'⟩
      have hg := (guard_sat hg).1
      have hmem' : (st.with o.dst v m).mem = m := by cases hx : o.dst <;> simp [St.with, St.put, hx]
      have hdT' : (st.with o.dst v m).dT = st.dT := by cases hx : o.dst <;> simp [St.with, St.put, hx]
      have htm : (st.with o.dst v m).tmps = (match o.dst with | some d => st.tmps.set d v | none => st.tmps) := by cases hx : o.dst <;> simp [St.with, St.put, hx]
      have hml : m.roots.length = st.mem.roots.length := ht.len
      rw [hmem'] at hlen
      refine plain_sound hdr hE hbl hQ rest (i + 1) (c + newsOf E o) l _ hrest' (by rw [hc1, hc]) (by rw [hmem', hml]; exact hN) (by rw [hdT']; exact hd) hR2 ⟨?_, by rw [hmem', hml]; exact hev.rl, fun j hj => ?_, fun r hr hb => ?_⟩ (hext.trans hext') (fun r h1 h2 => hout r (.inr (show c + newsOf E o ≤ r from h1)) (hfree r (by omega) h2)) hg
      · rw [htm, ← hev.tl]; cases o.dst <;> simp
      · rw [hdT'] at hj
        rw [htm, ← hev.tm j hj]
        cases hdst : o.dst with
        | none => rfl
        | some d =>
          simp only
          rw [List.getElem?_set_ne (by rintro rfl; exact hj (hd o hmem d hdst))]
      · rw [hmem'] at hb ⊢
        have hb0 : st.mem.dR.testBit r = false := by
          cases hbb : st.mem.dR.testBit r with
          | false => rfl
          | true => rw [ht.dR r hbb] at hb; cases hb
        rw [ht.same r (.inl (show r < c by omega)) hb]
        exact hev.rt r hr hb0
    · rename_i hw
      rw [wanted_rel hR hw]
      simp only [Bool.false_eq_true, if_false]
      have hR' : Rel B (st.put o.dst (.tup [])) (a.put o.dst Go.undef) w Z μ := hR.put0 o.dst ⟨[], rfl, rfl, fun k h => by simp at h⟩
      have hmem' : (st.put o.dst (.tup [])).mem = st.mem := by cases hx : o.dst <;> simp [St.put, hx]
      have hdT' : (st.put o.dst (.tup [])).dT = st.dT := by cases hx : o.dst <;> simp [St.put, hx]
      have htm : (st.put o.dst (.tup [])).tmps = (match o.dst with | some d => st.tmps.set d (.tup []) | none => st.tmps) := by cases hx : o.dst <;> simp [St.put, hx]
      refine plain_sound hdr hE hbl hQ rest (i + 1) (c + newsOf E o) l _ hrest' (by rw [hc1, hc]) (by rw [hmem']; exact hN) (by rw [hdT']; exact hd) hR' ⟨?_, by rw [hmem']; exact hev.rl, fun j hj => ?_, fun r hr hb => ?_⟩ hext (fun r h1 h2 => hfree r (by omega) h2) h
      · rw [htm, ← hev.tl]; cases o.dst <;> simp
      · rw [hdT'] at hj
        rw [htm, ← hev.tm j hj]
        cases hdst : o.dst with
        | none => rfl
        | some d =>
          simp only
          rw [List.getElem?_set_ne (by rintro rfl; exact hj (hd o hmem d hdst))]
      · rw [hmem'] at hb ⊢
        exact hev.rt r hr hb
    · exact h.elim
end
end Go.Mach

/-
  Mach: the interpreter is sound.
-/
namespace Go.Mach

def EKey.exit : EKey → Exit
  | .nrm => .normal
  | .ret => .ret
  | .ext n => .exit n

section
variable {B : Base}

/-- More roots, all dead. -/
theorem Rel.more {st : St} {a : Act} {w : World} {Z : Nat → Prop} {μ : Locs} (h : Rel B st a w Z μ) (n c : Nat) (l : List Nat) : Rel B ⟨st.tmps, ⟨st.mem.roots ++ List.replicate n .dead, st.mem.dR, c⟩, l⟩ a w Z μ := by
  refine ⟨h.mem.restrict (fun r x hx hd => ?_) (fun r hr => h.mem.far r ?_), h.tm, h.len, h.df⟩
  · have hx : (st.mem.roots ++ List.replicate n .dead)[r]? = some x := hx
    rcases Nat.lt_or_ge r st.mem.roots.length with h1 | h1
    · rw [List.getElem?_append_left h1] at hx
      exact ⟨hx, rfl, fun _ h => h⟩
    · rw [List.getElem?_append_right h1, List.getElem?_replicate] at hx
      split at hx
      · cases hx; exact absurd rfl hd
      · cases hx
  · have hr : (st.mem.roots ++ List.replicate n Root.dead).length ≤ r := hr
    rw [List.length_append] at hr
    omega

theorem Ev.more {b st : St} (h : Ev b st) (n c : Nat) (l : List Nat) : Ev b ⟨st.tmps, ⟨st.mem.roots ++ List.replicate n .dead, st.mem.dR, c⟩, l ++ st.dT⟩ := by
  refine ⟨h.tl, ?_, fun i hi => h.tm i fun hm => hi (List.mem_append_right _ hm), fun r hr hb => ?_⟩
  · show b.mem.roots.length ≤ (st.mem.roots ++ List.replicate n Root.dead).length
    rw [List.length_append]
    have := h.rl
    omega
  · show (st.mem.roots ++ List.replicate n Root.dead)[r]? = _
    rw [List.getElem?_append_left (Nat.lt_of_lt_of_le hr h.rl)]
    exact h.rt r hr hb

variable {E : Env}

/-- What it is that a piece of code is sound. -/
def Sound (B : Base) (E : Env) (c : Code) {β : Type} (r : Res β) (st : St) (K : Kont β) : Prop :=
  ∀ (Ψ : β → Prop) (Q : Exit → Act → World → Prop) (b : St) (a0 a : Act) (w0 w : World) (Z0 Z : Nat → Prop) (μ0 μ : Locs), r.sat Ψ → Rel B b a0 w0 Z0 μ0 → Rel B st a w Z μ → Ev b st → ExtL μ0 μ →
    (∀ (e : EKey) (s : St) (a' : Act) (w' : World) (Z' : Nat → Prop) (μ' : Locs), (K.at e s).sat Ψ → Rel B s a' w' Z' μ' → Ev b s → ExtL μ0 μ' → Q e.exit a' w') → c.wp E.P Q a w

theorem cutAt_sound {c : Code} {β : Type} {ann : Ann} {st : St} {K : Kont β} {run : (γ : Type) → Ann → St → Kont γ → Res γ} (hrun : ∀ (γ : Type) (ann : Ann) (st : St) (K : Kont γ), Sound B E c (run γ ann st K) st K) :
    Sound B E c (cutAt ann st K run) st K := by
  intro Ψ Q b a0 a w0 w Z0 Z μ0 μ h hb hR hev hext hK
  unfold cutAt at h
  split at h
  · rename_i ex hex
    have hal : Alike st (fresh st) := ⟨rfl, rfl⟩
    refine hrun ex.den ann.inner (fresh st) (kex st.mem.roots.length ex) _ Q (fresh st) a a w w Z Z μ μ (sat_bind h) (hR.alike hal) (hR.alike hal) (Ev.refl _) (ExtL.refl μ) ?_
    intro e s a' w' Z' μ' hs hR' hev' hext'
    have hs' : (ex.inj st.mem.roots.length e s).sat fun x => (ex.go st K x).sat Ψ := by
      cases e <;> exact hs
    obtain ⟨z, hz, c', y, hget, hgo⟩ := inj_spec ex hs'
    rw [hgo K st] at hz
    obtain ⟨Z2, μ2, g1, g2, g3⟩ := cut_sound (b := st) hR hR' (hev'.congr ⟨rfl, rfl⟩) hext' hget
    exact hK e _ a' w' Z2 μ2 hz g1 (put_ev hev) (hext.trans g3)
  · exact hrun β ann st K Ψ Q b a0 a w0 w Z0 Z μ0 μ h hb hR hev hext hK

theorem region_sound (hm : E.P.follows .mixedOrders = true) (hE : ∀ sp ∈ E.specs, Contract E.P sp) {id : Nat} {ops : Array Oper} {draw : Bool} {β : Type} (st : St) (K : Kont β) :
    Sound B E (.region id ops draw) (match (match draw with | true => ancs ops.toList [] | false => []) with
    | A => match !draw || (edgesOk ops && (ancOk ops A && (slotsAll ops A && Region.noSelect ops))) with
      | true => execOps { E with dr := draw } ops A ops.toList 0 st.mem.roots.length []
          ⟨st.tmps, ⟨st.mem.roots ++ List.replicate (newsAll E ops.toList) .dead, st.mem.dR, st.mem.roots.length⟩, dsts ops ++ st.dT⟩ K.nrm
      | false => .stuck) st K := by
  intro Ψ Q b a0 a w0 w Z0 Z μ0 μ h hb hR hev hext hK
  generalize (match draw with | true => ancs ops.toList [] | false => []) = A at h
  simp only at h
  split at h
  case h_2 => exact h.elim
  rename_i hg
  have hR1 := hR.more (newsAll E ops.toList) st.mem.roots.length (dsts ops ++ st.dT)
  have hev1 := hev.more (newsAll E ops.toList) st.mem.roots.length (dsts ops)
  have hnews : newsAll { E with dr := draw } ops.toList = newsAll E ops.toList := rfl
  have hdst : ∀ o ∈ ops.toList, ∀ d, o.dst = some d → d ∈ dsts ops ++ st.dT := fun o ho d hd => List.mem_append_left _ (List.mem_filterMap.2 ⟨o, ho, hd⟩)
  have hN : st.mem.roots.length + newsAll { E with dr := draw } ops.toList ≤ (st.mem.roots ++ List.replicate (newsAll E ops.toList) Root.dead).length := by
    rw [List.length_append, List.length_replicate, hnews]; exact Nat.le_refl _
  cases draw with
  | false =>
    have h1 := plain_sound (B := B) (E := { E with dr := false }) (ops := ops) (A := A) (c0 := st.mem.roots.length) (Ψ := Ψ) (K := K.nrm) (Q := Q) (b := b) (μ0 := μ0) rfl hE hev.rl
      (fun s a' w' Z' μ' hs hR' hev' hext' => hK .nrm s a' w' Z' μ' hs hR' hev' hext') ops.toList 0 st.mem.roots.length [] _ (by simp) (by simp [cAt, newsAll]) hN hdst hR1 hev1 hext (fun r h1 _ => hR.mem.far r h1) h
    refine wp_region ?_
    have : List.range ops.size = List.range' 0 ops.toList.length := by rw [List.range_eq_range']; simp
    rw [this]
    exact h1
  | true =>
    simp only [Bool.not_true, Bool.false_or, Bool.and_eq_true] at hg
    obtain ⟨he, hA, hs, _⟩ := hg
    refine draw_sound (E := { E with dr := true }) (B := B) hm rfl hE he hA hs hN hR1 (fun r h1 _ => hR.mem.far r h1) h ?_
    intro es hT hes hKs a' w' Z' μ' hR' _ hext' _
    have hst := stS_ev (b := b) (ops.toList.zip es) (fun j => decide (j < es.length)) 0 ⟨st.tmps, ⟨st.mem.roots ++ List.replicate (newsAll E ops.toList) .dead, st.mem.dR, st.mem.roots.length⟩, dsts ops ++ st.dT⟩
      (fun p hp d hd => hdst p.1 (List.of_mem_zip hp).1 d hd) (hT.fits rfl) rfl hev1
    exact hK .nrm _ a' w' Z' μ' hKs ⟨hR'.mem.congr rfl, hR'.tm, hR'.len, hR'.df⟩ ⟨hst.1.tl, hst.1.rl, hst.1.tm, hst.1.rt⟩ (hext.trans hext')

theorem loop_sound {c : Code} {β : Type} {head : Cut} {ex : Exits} {a' : Ann} {st : St} {K : Kont β} (hc : ∀ (γ : Type) (ann : Ann) (st : St) (K : Kont γ), Sound B E c (exec E c γ ann st K) st K)
    {Ψ : β → Prop} {Q : Exit → Act → World → Prop} {b : St} {a1 : Act} {w1 : World} {Z1 : Nat → Prop} {μ0 μ : Locs} (hR : Rel B st a1 w1 Z1 μ) (hev : Ev b st) (hext : ExtL μ0 μ)
    (hK : ∀ (e : EKey) (s : St) (a' : Act) (w' : World) (Z' : Nat → Prop) (μ' : Locs), (K.at e s).sat Ψ → Rel B s a' w' Z' μ' → Ev b s → ExtL μ0 μ' → Q e.exit a' w') :
    ∀ (n : Nat) (x : head.den) (a : Act) (w : World) (Z : Nat → Prop) (μ' : Locs), (Res.loop (fun x => exec E c (Res.Step head.den ex.den) a' (head.put (fresh st) x) (kloop st.mem.roots.length head ex)) n x).sat (fun y => (ex.go st K y).sat Ψ) →
      Rel B (head.put (fresh st) x) a w Z μ' → ExtL μ μ' → Code.rounds E.P c Q n a w
  | 0, x, a, w, Z, μ', h, _, _ => h.elim
  | n + 1, x, a, w, Z, μ', h, hRx, hxx => by
    have hal : Alike st (fresh st) := ⟨rfl, rfl⟩
    rw [rounds_succ]
    refine hc _ a' (head.put (fresh st) x) (kloop st.mem.roots.length head ex) _ (Exit.then (Code.rounds E.P c Q n) Q) (fresh st) a1 a w1 w Z1 Z μ μ' (sat_bind h) (hR.alike hal) hRx (put_ev (Ev.refl _)) hxx ?_
    intro e s a2 w2 Z2 μ2 hs hR' hev' hext'
    have out : ∀ (Φ : Res.Step head.den ex.den → Prop), (∀ y, Φ (.done y) → (ex.go st K y).sat Ψ) → ((ex.inj st.mem.roots.length e s).bind fun y => (.ok (.done y) : Res (Res.Step head.den ex.den))).sat Φ → Q e.exit a2 w2 := fun Φ hΦ hs => by
      have hs' : (ex.inj st.mem.roots.length e s).sat fun x => (ex.go st K x).sat Ψ := by
        have h1 := sat_bind hs
        generalize ex.inj st.mem.roots.length e s = r at h1
        cases r with
        | ok y => exact hΦ y h1
        | stuck => exact h1
        | void => trivial
      obtain ⟨z, hz, c', y, hget, hgo⟩ := inj_spec ex hs'
      rw [hgo K st] at hz
      obtain ⟨Z3, μ3, g1, g2, g3⟩ := cut_sound (b := st) hR hR' (hev'.congr ⟨rfl, rfl⟩) hext' hget
      exact hK e _ a2 w2 Z3 μ3 hz g1 (put_ev hev) (hext.trans g3)
    cases e with
    | nrm =>
      simp only [Kont.at, kloop] at hs
      split at hs
      case h_2 => exact hs.elim
      rename_i y hy
      have hs : (Res.loop _ n y).sat _ := hs
      obtain ⟨Z3, μ3, g1, g2, g3⟩ := cut_sound (b := fresh st) (hR.alike hal) hR' hev' hext' hy
      exact loop_sound hc hR hev hext hK n y a2 w2 Z3 μ3 hs g1 g3
    | ret => exact out _ (fun y hy => hy) hs
    | ext k => exact out _ (fun y hy => hy) hs

theorem exec_sound (hm : E.P.follows .mixedOrders = true) (hE : ∀ sp ∈ E.specs, Contract E.P sp) : ∀ (c : Code) (β : Type) (ann : Ann) (st : St) (K : Kont β), Sound B E c (exec E c β ann st K) st K
  | .skip, β, ann, st, K => by
    intro Ψ Q b a0 a w0 w Z0 Z μ0 μ h hb hR hev hext hK
    exact wp_skip (hK .nrm st a w Z μ h hR hev hext)
  | .region id ops draw, β, ann, st, K => by
    unfold exec
    exact cutAt_sound fun γ ann st K => region_sound hm hE st K
  | .seq x y, β, ann, st, K => by
    unfold exec
    refine cutAt_sound fun γ ann st K => ?_
    intro Ψ Q b a0 a w0 w Z0 Z μ0 μ h hb hR hev hext hK
    refine wp_seq (exec_sound hm hE x γ ann.left st _ Ψ _ b a0 a w0 w Z0 Z μ0 μ h hb hR hev hext ?_)
    intro e s a' w' Z' μ' hs hR' hev' hext'
    cases e with
    | nrm => exact exec_sound hm hE y γ ann.right s K Ψ Q b a0 a' w0 w' Z0 Z' μ0 μ' hs hb hR' hev' hext' hK
    | ret => exact hK .ret s a' w' Z' μ' hs hR' hev' hext'
    | ext n => exact hK (.ext n) s a' w' Z' μ' hs hR' hev' hext'
  | .cond c x y, β, ann, st, K => by
    unfold exec
    refine cutAt_sound fun γ ann st K => ?_
    intro Ψ Q b a0 a w0 w Z0 Z μ0 μ h hb hR hev hext hK
    split at h
    case h_2 => exact h.elim
    rename_i t ht
    have hv := hR.val c
    rw [ht] at hv
    have hv : a.eval c = .bool t := hv
    rcases sat_br h with ⟨rfl, h⟩ | ⟨rfl, h⟩
    · exact wp_cond_true hv (exec_sound hm hE x γ ann.left st K Ψ Q b a0 a w0 w Z0 Z μ0 μ h hb hR hev hext hK)
    · exact wp_cond_false hv (exec_sound hm hE y γ ann.right st K Ψ Q b a0 a w0 w Z0 Z μ0 μ h hb hR hev hext hK)
  | .block id x, β, ann, st, K => by
    unfold exec
    refine cutAt_sound fun γ ann st K => ?_
    intro Ψ Q b a0 a w0 w Z0 Z μ0 μ h hb hR hev hext hK
    refine wp_block (exec_sound hm hE x γ ann.left st _ Ψ _ b a0 a w0 w Z0 Z μ0 μ h hb hR hev hext ?_)
    intro e s a' w' Z' μ' hs hR' hev' hext'
    cases e with
    | nrm => exact hK .nrm s a' w' Z' μ' hs hR' hev' hext'
    | ret => exact hK .ret s a' w' Z' μ' hs hR' hev' hext'
    | ext n =>
      simp only [EKey.exit, Exit.inBlock]
      simp only [Kont.at] at hs
      split at hs
      · rename_i hn
        rw [if_pos (by simpa using hn)]
        exact hK .nrm s a' w' Z' μ' hs hR' hev' hext'
      · rename_i hn
        rw [if_neg (by simpa using hn)]
        exact hK (.ext n) s a' w' Z' μ' hs hR' hev' hext'
  | .loop x, β, ann, st, K => by
    intro Ψ Q b a0 a w0 w Z0 Z μ0 μ h hb hR hev hext hK
    unfold exec at h
    split at h
    case h_2 => exact h.elim
    rename_i head ex a'
    split at h
    case h_2 => exact h.elim
    rename_i x0 hx0
    have hal : Alike st (fresh st) := ⟨rfl, rfl⟩
    obtain ⟨Z1, μ1, g1, g2, g3⟩ := cut_sound (b := fresh st) (hR.alike hal) (hR.alike hal) (Ev.refl _) (ExtL.refl μ) hx0
    exact wp_loop_rounds fuel (loop_sound (fun γ ann st K => exec_sound hm hE x γ ann st K) hR hev hext hK fuel x0 a w Z1 μ1 (sat_bind h) g1 g3)
  | .exit id, β, ann, st, K => by
    intro Ψ Q b a0 a w0 w Z0 Z μ0 μ h hb hR hev hext hK
    exact wp_exit (hK (.ext id) st a w Z μ h hR hev hext)
  | .ret, β, ann, st, K => by
    intro Ψ Q b a0 a w0 w Z0 Z μ0 μ h hb hR hev hext hK
    exact wp_ret (hK .ret st a w Z μ h hR hev hext)
  | .rangeFunc _ _ _ _, β, ann, st, K => by intro Ψ Q b a0 a w0 w Z0 Z μ0 μ h; unfold exec at h; exact h.elim
  | .scope _, β, ann, st, K => by intro Ψ Q b a0 a w0 w Z0 Z μ0 μ h; unfold exec at h; exact h.elim
  | .label _, β, ann, st, K => by intro Ψ Q b a0 a w0 w Z0 Z μ0 μ h; unfold exec at h; exact h.elim
  | .refuse _, β, ann, st, K => by intro Ψ Q b a0 a w0 w Z0 Z μ0 μ h; unfold exec at h; exact h.elim
  | .goto _, β, ann, st, K => by intro Ψ Q b a0 a w0 w Z0 Z μ0 μ h; unfold exec at h; exact h.elim
end
end Go.Mach

/-
  Mach: the contract of a function.
-/
namespace Go.Mach

section
variable {w : World} {Z : Nat → Prop}

/-- Nothing in it is lent. -/
theorem SR.noY {Y Y' : Nat → Prop} : ∀ {s : Sh} {us : List Value} {x : s.den} {S : Nat → Prop}, s.noBor = true → SR w Z Y s us x S → SR w Z Y' s us x S
  | .nil, _, _, _, _, hc => hc
  | .undef, _, _, _, _, hc => hc
  | .nilp, _, _, _, _, hc => hc
  | .frz _, _, _, _, _, hc => hc
  | .own s, us, xs, S, hn, hc => by
    simp only [SR] at hc ⊢
    obtain ⟨ℓ, h1, h2, h3⟩ := hc
    exact ⟨ℓ, h1, h2, h3.mono (SameOn.refl _ _) fun i us x T _ _ hR => SR.noY (s := s) hn hR⟩
  | .box s, us, x, S, hn, hc => by
    simp only [SR] at hc ⊢
    obtain ⟨b, o, us', T, h1, h2, h3, h4, h5, h6, h7⟩ := hc
    exact ⟨b, o, us', T, h1, h2, h3, h4, h5, h6, SR.noY (s := s) hn h7⟩
  | .clo f s, us, x, S, hn, hc => by
    simp only [SR] at hc ⊢
    obtain ⟨h0, vs, h1, h2⟩ := hc
    exact ⟨h0, vs, h1, SR.noY (s := s) hn h2⟩
  | .seq a b, us, x, S, hn, hc => by
    simp only [SR] at hc ⊢
    simp only [Sh.noBor, Bool.and_eq_true] at hn
    obtain ⟨u1, u2, S1, S2, h1, h2, h3, h4, h5, h6⟩ := hc
    exact ⟨u1, u2, S1, S2, h1, h2, h3, h4, SR.noY hn.1 h5, SR.noY hn.2 h6⟩
  | .bor _, _, _, _, hn, _ => by simp [Sh.noBor] at hn

theorem ValsR.noY {Y Y' : Nat → Prop} : ∀ {l : List VSh} {vs : List Value} {x : dens l} {S : Nat → Prop}, (l.all fun s => s.2.noBor) = true → ValsR w Z Y l vs x S → ValsR w Z Y' l vs x S
  | [], _, _, _, _, h => h
  | [a], _, _, _, hn, h => by
    obtain ⟨v, h0, us, h1, h2, h3⟩ := h
    exact ⟨v, h0, us, h1, h2, h3.noY (by simpa using hn)⟩
  | a :: b :: r, _, _, _, hn, h => by
    rw [List.all_cons, Bool.and_eq_true] at hn
    obtain ⟨v, vs', S1, S2, h0, h1, h2, h3, ⟨us, h4, h5, h6⟩, h7⟩ := h
    exact ⟨v, vs', S1, S2, h0, h1, h2, h3, ⟨us, h4, h5, h6.noY hn.1⟩, h7.noY hn.2⟩

theorem OutsR.noY {Y Y' : Nat → Prop} : ∀ {ps : List Par} {vs : List Value} {α : Type} {y : outs α (boxes ps)} {S : Nat → Prop}, ((boxes ps).all Sh.noBor) = true → OutsR w Z Y ps vs y S → OutsR w Z Y' ps vs y S
  | [], _, _, _, _, _, _ => trivial
  | .val _ _ :: r, _, _, _, _, hn, h => by
    obtain ⟨v, vs', h0, h⟩ := h
    exact ⟨v, vs', h0, OutsR.noY (ps := r) hn h⟩
  | .obj s :: r, _, _, _, _, hn, h => by
    simp only [boxes, List.all_cons, Bool.and_eq_true] at hn
    obtain ⟨v, vs', S1, S2, h0, h1, h2, h3, h4, h5⟩ := h
    exact ⟨v, vs', S1, S2, h0, h1, h2, h3, h4.noY hn.1, OutsR.noY (ps := r) hn.2 h5⟩

theorem OutsR.up {Z' Y : Nat → Prop} (hz : ∀ b, Z b → Z' b) : ∀ {ps : List Par} {vs : List Value} {α : Type} {y : outs α (boxes ps)} {S : Nat → Prop}, OutsR w Z Y ps vs y S → OutsR w Z' Y ps vs y S
  | [], _, _, _, _, _ => trivial
  | .val _ _ :: r, _, _, _, _, h => by
    obtain ⟨v, vs', h0, h⟩ := h
    exact ⟨v, vs', h0, OutsR.up hz (ps := r) h⟩
  | .obj s :: r, _, _, _, _, h => by
    obtain ⟨v, vs', S1, S2, h0, h1, h2, h3, h4, h5⟩ := h
    exact ⟨v, vs', S1, S2, h0, h1, h2, h3, h4.up hz, OutsR.up hz (ps := r) h5⟩
theorem ValsR.up {Z' Y : Nat → Prop} (hz : ∀ b, Z b → Z' b) : ∀ {l : List VSh} {vs : List Value} {x : dens l} {S : Nat → Prop}, ValsR w Z Y l vs x S → ValsR w Z' Y l vs x S
  | [], _, _, _, h => h
  | [a], _, _, _, h => by
    obtain ⟨v, h0, h1⟩ := h
    exact ⟨v, h0, h1.up hz⟩
  | a :: b :: r, _, _, _, h => by
    obtain ⟨v, vs', S1, S2, h0, h1, h2, h3, h6, h7⟩ := h
    exact ⟨v, vs', S1, S2, h0, h1, h2, h3, h6.up hz, h7.up hz⟩
theorem ValsR.len {Y : Nat → Prop} : ∀ {l : List VSh} {vs : List Value} {x : dens l} {S : Nat → Prop}, ValsR w Z Y l vs x S → vs.length = l.length
  | [], _, _, _, h => by rw [show _ = [] from h]; rfl
  | [a], _, _, _, h => by obtain ⟨v, rfl, _⟩ := h; rfl
  | a :: b :: r, _, _, _, h => by
    obtain ⟨v, vs', S1, S2, rfl, h1, h2, h3, h6, h7⟩ := h
    simp only [List.length_cons, ValsR.len h7]
end

section
variable {B : Base} {w : World} {Z : Nat → Prop} {μ : Locs}

theorem ARs.len : ∀ {xs : List AV} {vs : List Value}, ARs w Z μ xs vs → vs.length = xs.length
  | [], _, h => by rw [show _ = [] from h]; rfl
  | x :: xs, _, h => by
    obtain ⟨v, vs', rfl, _, h2⟩ := h
    simp only [List.length_cons, ARs.len h2]

/-- One result, as the kit computes it. -/
def resSem (tmps : Array Value) : ResultVar → Sem Value
  | .tmp t => pure (tmps.getD t undef)
  | .cell a t => do loadVar t (← asAddr (tmps.getD a undef))

theorem results_eq (fn : Func) (tmps : Array Value) : results fn tmps = (do
    let vs ← fn.results.mapM (resSem tmps)
    pure (if h : vs.size = 1 then vs[0] else .tuple vs)) := by
  unfold results
  rfl

def resOk (P : Program) : ResultVar → Bool
  | .tmp _ => true
  | .cell _ T => kindOk P T

theorem resAVs_sound {P : Program} {s : St} {a : Act} {β : Type} {Ψ : β → Prop} (hR : Rel B s a w Z μ) : ∀ (rs : List ResultVar) {K : List AV → Res β}, (rs.all (resOk P)) = true → (resAVs P s rs K).sat Ψ →
    ∃ xs vs, (rs.mapM (resSem a.tmps)).run P w = .ok vs w ∧ ARs w Z μ xs vs ∧ (K xs).sat Ψ
  | [], K, _, h => ⟨[], [], by simp [Sem.run_pure], rfl, h⟩
  | r :: rs, K, hk, h => by
    simp only [List.all_cons, Bool.and_eq_true] at hk
    simp only [resAVs] at h
    have key : ∃ x v, (resSem a.tmps r).run P w = .ok v w ∧ AR w Z μ x v ∧ (resAVs P s rs fun vs => K (x :: vs)).sat Ψ := by
      cases r with
      | tmp t => exact ⟨s.get t, a.tmps.getD t undef, by simp [resSem, Sem.run_pure], hR.get t, h⟩
      | cell p T =>
        have h : (loadK s.mem (P.cellsOf T) (s.get p) fun cs => resAVs P s rs fun vs => K (avOf (aggT P T) cs :: vs)).sat Ψ := h
        obtain ⟨b, o, cs, us, h1, h2, h3, h4, h5⟩ := load_spec hR.mem (hR.get p) h
        obtain ⟨v, h6, h7⟩ := run_loadVar (w := w) (show kindOk P T = true from hk.1) (by rw [← h4.1, h2]) h3
        refine ⟨_, v, ?_, avOf_ok h4 h7, h5⟩
        simp only [resSem, h1]
        simp [asAddr, Sem.run_bind, h6]
    obtain ⟨x, v, h1, h2, h3⟩ := key
    obtain ⟨xs, vs, g1, g2, g3⟩ := resAVs_sound hR rs hk.2 h3
    refine ⟨x :: xs, v :: vs, ?_, ⟨v, vs, rfl, h2, g2⟩, g3⟩
    rw [List.mapM_cons]
    simp only [Sem.run_bind, h1, Result.andThen_ok, g1, Sem.run_pure]

theorem results_ok {P : Program} {fn : Func} {tmps : Array Value} {rs : List VSh} {vs : List Value} (h : (fn.results.toList.mapM (resSem tmps)).run P w = .ok vs w) (hl : vs.length = rs.length) :
    ∃ v, (results fn tmps).run P w = .ok v w ∧ RetR rs v vs := by
  rw [results_eq, Array.mapM_eq_mapM_toList]
  simp only [Sem.run_bind, Sem.run_map, h, Result.andThen_ok, Sem.run_pure]
  refine ⟨_, rfl, ?_⟩
  unfold RetR
  split
  · match vs, hl with
    | [v], _ => simp
  · rename_i hne
    have h1 : ¬ vs.length = 1 := fun he => by
      match rs, hl with
      | [r], _ => exact hne r rfl
      | [], hl => rw [he] at hl; simp at hl
      | _ :: _ :: _, hl => rw [he] at hl; simp at hl
    simp [h1]

/-- The objects stand as single cells. -/
def ObjC : List Par → List AV → Prop
  | .obj _ :: r, v :: vs => (∃ c, v = .c c) ∧ ObjC r vs
  | .val _ _ :: r, _ :: vs => ObjC r vs
  | _, _ => True

theorem mks_objC : ∀ {ps : List Par} {x : dens (ps.map Par.v)} {m : Mem}, ObjC ps (mks (ps.map Par.v) x m).1
  | [], _, _ => trivial
  | [.val g s], x, m => trivial
  | [.obj s], x, m => by
    refine ⟨?_, trivial⟩
    simp only [List.map, mks, Par.v, avOf]
    cases (s.mk x m).1 <;> exact ⟨_, rfl⟩
  | .val g s :: q :: r, x, m => mks_objC (ps := q :: r) (x := x.2) (m := (s.mk x.1 m).2)
  | .obj s :: q :: r, x, m => by
    refine ⟨?_, mks_objC (ps := q :: r) (x := x.2) (m := (s.mk x.1 m).2)⟩
    simp only [Par.v, avOf]
    cases (s.mk x.1 m).1 <;> exact ⟨_, rfl⟩

theorem outsGet_sound : ∀ {ps : List Par} {xs : List AV} {us : List Value} {α : Type} {y : α} {z : outs α (boxes ps)} {m : Mem} {Z F : Nat → Prop}, MemOk B m w Z μ → Loose B m w Z μ F → ARs w Z μ xs us → ObjC ps xs → outsGet ps xs y m = some z →
    ∃ (m' : Mem) (Z' F' S : Nat → Prop), MemOk B m' w Z' μ ∧ Loose B m' w Z' μ F' ∧ (∀ b, Z b → Z' b) ∧ (∀ b, F b → F' b) ∧ (∀ b, S b → F' b ∧ ¬ F b) ∧ OutsR w Z' B.Y ps us z S ∧ outFst (boxes ps) z = y
  | [], xs, us, α, y, z, m, Z, F, hM, hF, hx, ho, h => by
    simp only [outsGet, Option.some.injEq] at h
    exact ⟨m, Z, F, fun _ => False, hM, hF, fun _ h => h, fun _ h => h, fun _ h => h.elim, trivial, h.symm⟩
  | .val g s :: r, xs, us, α, y, z, m, Z, F, hM, hF, hx, ho, h => by
    match xs, h with
    | x :: xs, h =>
      obtain ⟨v, vs', rfl, h1, h2⟩ := hx
      obtain ⟨m', Z', F', S, e1, e2, e3, e4, e5, e6, e7⟩ := outsGet_sound (ps := r) hM hF h2 ho h
      exact ⟨m', Z', F', S, e1, e2, e3, e4, e5, ⟨v, vs', rfl, e6⟩, e7⟩
  | .obj s :: r, xs, us, α, y, z, m, Z, F, hM, hF, hx, ho, h => by
    match xs, h with
    | x :: xs, h =>
      obtain ⟨v, vs', rfl, h1, h2⟩ := hx
      obtain ⟨⟨c, rfl⟩, ho⟩ := ho
      simp only [outsGet] at h
      split at h
      case h_2 => cases h
      rename_i x1 m1 hg
      split at h
      case h_2 => cases h
      rename_i z1 hz
      simp only [Option.some.injEq] at h
      subst h
      obtain ⟨⟨Z1, F1, S1, us1, us2, e1, e2, e3, e4, e5, e6, e7, e8, e9⟩, _⟩ := get_sound s hM hF (CRs.mk1 (show CR w Z μ c v from h1)) hg
      have := e9.nil_inv
      subst this
      rw [List.append_nil] at e1
      subst e1
      obtain ⟨m', Z', F', S2, g1, g2, g3, g4, g5, g6, g7⟩ := outsGet_sound (ps := r) e3 e4 (h2.mono (SameOn.refl _ _) e5 (ExtL.refl μ)) ho hz
      refine ⟨m', Z', F', fun d => S1 d ∨ S2 d, g1, g2, fun b hb => g3 b (e5 b hb), fun b hb => g4 b (e6 b hb), fun d hd => ?_, ⟨v, vs', S1, S2, rfl, fun _ h => .inl h, fun _ h => .inr h, fun d a b => (g5 d b).2 (e7 d a).1, ?_, g6⟩, rfl⟩
      · rcases hd with hd | hd
        · exact ⟨g4 d (e7 d hd).1, (e7 d hd).2⟩
        · exact ⟨(g5 d hd).1, fun hf => (g5 d hd).2 (e6 d hf)⟩
      · show SR w Z' B.Y s [v] (outFst (boxes r) z1) S1
        rw [g7]
        exact e8.up g3
end
end Go.Mach

/-
  Mach: the contract of a function (2).
-/
namespace Go.Mach

theorem contract_of {sp : Spec} {E : Env} {fn : Func} {ann : Ann} (hm : E.P.follows .mixedOrders = true) (hE : ∀ sp ∈ E.specs, Contract E.P sp) (hfn : E.P.funcs[sp.f]? = some fn) (hbody : fn.body.isSome = true) (hname : (fn.name == "runtime.NumGoroutine") = false)
    (hobj : (boxes sp.ps).all Sh.objOk = true) (hnb : (sp.rs.all fun s => s.2.noBor) = true) (hnb2 : (boxes sp.ps).all Sh.noBor = true) (hres : fn.results.toList.all (resOk E.P) = true)
    (heq : ∀ x, runBody E fn sp.ps sp.rs ann x = sp.run x) : Contract E.P sp := by
  refine ⟨⟨fn, hfn, hbody, hname⟩, hobj, fun w Z Y S args x Ψ hsat hZ hY hS hV => ?_⟩
  rw [← heq x] at hsat
  unfold runBody at hsat
  split at hsat
  case h_2 => exact hsat.elim
  rename_i code hcode
  let B : Base := ⟨w, S, Z, Y⟩
  let m0 : Mem := ⟨List.replicate (newsL (sp.ps.map Par.v)) Root.dead, 0, 0⟩
  have hdead : ∀ (r : Nat) (y : Root), m0.roots[r]? = some y → y = Root.dead := fun r y hy => by
    have hy : (List.replicate (newsL (sp.ps.map Par.v)) Root.dead)[r]? = some y := hy
    rw [List.getElem?_replicate] at hy
    split at hy
    · exact (Option.some.inj hy).symm
    · cases hy
  have hM0 : MemOk B m0 w Z (fun _ => none) := by
    refine ⟨(fun r y hy hd => absurd (hdead r y hy) hd), (fun r s y z ℓ ℓ' _ _ _ _ _ hl => by cases hl), (fun r y ℓ b _ _ hl => by cases hl), fun b hb => ⟨hZ b hb, .inl hb⟩, fun b hb => hb, Nat.le_refl _, fun b _ _ => rfl, fun _ _ => rfl, fun b hb => hY b hb, Io.refl _⟩
  have hL0 : Loose B m0 w Z (fun _ => none) S := by
    refine ⟨fun b hb => ⟨(hS b hb).2, (hS b hb).1, .inr hb⟩, fun b r hb => ?_⟩
    rintro ⟨y, ℓ, _, _, hl, _⟩
    cases hl
  have hF0 : Free m0 (fun _ => none) (newsL (sp.ps.map Par.v)) := fun k hk => ⟨rfl, by
    show (List.replicate (newsL (sp.ps.map Par.v)) Root.dead)[0 + k]? = _
    rw [Nat.zero_add, List.getElem?_replicate, if_pos hk]⟩
  obtain ⟨μ1, e1, e2, e3, e4⟩ := mks_sound hM0 hL0 hF0 hV (fun _ h => h)
  have hobjc := mks_objC (ps := sp.ps) (x := x) (m := m0)
  have hm0 : (⟨List.replicate (newsL (sp.ps.map Par.v)) Root.dead, 0, 0⟩ : Mem) = m0 := rfl
  rw [hm0] at hsat
  generalize mks (sp.ps.map Par.v) x m0 = k at hsat e1 e2 e3 e4 hobjc
  obtain ⟨vs, m⟩ := k
  simp only at hsat e1 e2 e3 e4 hobjc
  have hsat := sat_given hsat hV.ok
  refine calls_of_wp hfn hcode ?_
  let st : St := ⟨vs ++ List.replicate (fn.ntmps - vs.length) (.c .undef), m, []⟩
  have hlen := e3.len
  have hR : Rel B st { tmps := args.toArray ++ Array.replicate (fn.ntmps - args.toArray.size) undef, defers := [] } w Z μ1 := by
    refine ⟨e1, fun i z hz => ?_, ?_, rfl⟩
    · have hz : (vs ++ List.replicate (fn.ntmps - vs.length) (AV.c .undef))[i]? = some z := hz
      rcases Nat.lt_or_ge i vs.length with h1 | h1
      · rw [List.getElem?_append_left h1] at hz
        obtain ⟨v, hv, har⟩ := ARs.at_ e3 i z hz
        have : (args.toArray ++ Array.replicate (fn.ntmps - args.toArray.size) undef).getD i undef = v := by
          rw [Array.getD_eq_getD_getElem?, Array.getElem?_append_left (by simp; omega)]
          simp [hv]
        show AR w Z μ1 z ((args.toArray ++ Array.replicate (fn.ntmps - args.toArray.size) undef).getD i undef)
        rw [this]; exact har
      · rw [List.getElem?_append_right h1, List.getElem?_replicate] at hz
        split at hz
        · cases hz; exact AR.undef _
        · cases hz
    · show (vs ++ List.replicate (fn.ntmps - vs.length) (AV.c .undef)).length = (args.toArray ++ Array.replicate (fn.ntmps - args.toArray.size) undef).size
      simp [hlen]
  refine exec_sound hm hE code _ ann st _ Ψ _ st _ _ w w Z Z μ1 μ1 hsat hR hR (Ev.refl _) (ExtL.refl _) ?_
  intro e s a' w' Z' μ' hs hR' _ hext'
  have hfin : (fin E.P fn sp.ps sp.rs vs s).sat Ψ → a'.defers = [] ∧ ∃ v, (results fn a'.tmps).run E.P w' = .ok v w' ∧ (∃ y v' vals, ∃ Z' S1 S2 : Nat → Prop, Ending.returned v = .returned v' ∧ Ψ y ∧ RetR sp.rs v' vals ∧
      ValsR w' Z' (fun _ => False) sp.rs vals (outFst (boxes sp.ps) y) S1 ∧ OutsR w' Z' (fun _ => False) sp.ps args y S2 ∧ (∀ d, S1 d → S2 d → False) ∧
      (∀ b, S1 b ∨ S2 b → b < w'.heap.size ∧ ¬ Z' b ∧ (S b ∨ w.heap.size ≤ b)) ∧ (∀ b, Z b → Z' b) ∧ (∀ b, Z' b → b < w'.heap.size ∧ (Z b ∨ S b ∨ w.heap.size ≤ b)) ∧
      w.heap.size ≤ w'.heap.size ∧ (∀ b, b < w.heap.size → ¬ S b → w'.heap[b]? = w.heap[b]?) ∧ Io w w') := by
    intro hs
    unfold fin at hs
    obtain ⟨xs, vals, hrun, hxs, hs⟩ := resAVs_sound hR' fn.results.toList hres hs
    split at hs
    case h_2 => exact hs.elim
    rename_i y m1 hg
    split at hs
    case h_2 => exact hs.elim
    rename_i z ho
    obtain ⟨Z1, F1, S1, a1, a2, a3, a4, a5, a6, a7⟩ := gets_sound hR'.mem (Loose.none B s.mem w' Z' μ') hxs hg
    have hsame : SameOn Z w w' := fun b hb => a1.keep b (hZ b hb) fun hS' => (hS b hS').2 hb
    obtain ⟨m2, Z2, F2, S2, b1, b2, b3, b4, b5, b6, b7⟩ := outsGet_sound (ps := sp.ps) a1 a2 (e3.mono hsame a1.frz0 hext') hobjc ho
    obtain ⟨v, hv, hret⟩ := results_ok (rs := sp.rs) hrun a7.len
    refine ⟨hR'.df, v, hv, z, v, vals, Z2, S1, S2, rfl, hs, hret, ?_, b6.noY hnb2, fun d h1 h2 => (b5 d h2).2 (a5 d h1).1, fun b hb => ?_, b1.frz0, fun b hb => ?_, b1.size, b1.keep, b1.io⟩
    · rw [b7]
      exact (a7.up b3).noY hnb
    · have hF : F2 b := by
        rcases hb with hb | hb
        · exact b4 b (a5 b hb).1
        · exact (b5 b hb).1
      obtain ⟨c1, c2, c3⟩ := b2.ok b hF
      exact ⟨c2, c1, c3.symm⟩
    · obtain ⟨c1, c2⟩ := b1.frz b hb
      exact ⟨c1, c2.imp id Or.symm⟩
  cases e with
  | nrm => exact hfin hs
  | ret => exact hfin hs
  | ext n => exact hs.elim

/-- A recursive function: by its fuel. -/
theorem contract_rec {f : FuncId} {ps : List Par} {rs : List VSh} {run : Nat → dens (ps.map Par.v) → Res (outs (dens rs) (boxes ps))} {E : Nat → Env} {P : Program} {fn : Func} {ann : Ann} (hP : ∀ n, (E n).P = P) (hm : P.follows .mixedOrders = true)
    (hE : ∀ n, Contract P ⟨f, ps, rs, run n⟩ → ∀ sp ∈ (E n).specs, Contract P sp) (hfn : P.funcs[f]? = some fn) (hbody : fn.body.isSome = true) (hname : (fn.name == "runtime.NumGoroutine") = false)
    (hobj : (boxes ps).all Sh.objOk = true) (hnb : (rs.all fun s => s.2.noBor) = true) (hnb2 : (boxes ps).all Sh.noBor = true) (hres : fn.results.toList.all (resOk P) = true)
    (h0 : ∀ x, run 0 x = .stuck) (heq : ∀ n x, runBody (E n) fn ps rs ann x = run (n + 1) x) : ∀ n, Contract P ⟨f, ps, rs, run n⟩
  | 0 => ⟨⟨fn, hfn, hbody, hname⟩, hobj, fun w Z Y S args x Ψ hsat => by
      have hsat : (run 0 x).sat Ψ := hsat
      rw [h0] at hsat; exact hsat.elim⟩
  | n + 1 => by
    have ih := contract_rec hP hm hE hfn hbody hname hobj hnb hnb2 hres h0 heq n
    have hPn := hP n
    have hEn := hE n ih
    have heqn := heq n
    generalize E n = En at hPn hEn heqn
    subst hPn
    exact contract_of (sp := ⟨f, ps, rs, run (n + 1)⟩) (E := En) (ann := ann) hm hEn hfn hbody hname hobj hnb hnb2 hres heqn
end Go.Mach

namespace Go.Mach
def cloneHead (T : TypeId) : Code := .region 0 #[{ dst := some 2, op := .assign (.const (.slice none 0 0)), type := T, pos := "slices.go:355", after := #[], guard := none }] false
def cloneTest (T B : TypeId) : Code := .region 1 #[{ dst := some 3, op := .move (.tmp 0), type := T, pos := "slices.go:357", after := #[], guard := none },
  { dst := some 4, op := .binOp .eql T (.tmp 3) (.const (.slice none 0 0)) T, type := B, pos := "slices.go:357", after := #[{ on := 0, ground := .data }], guard := none }] false
def cloneNil (T : TypeId) : Code := (Code.region 2 #[{ dst := some 2, op := .assign (.const (.slice none 0 0)), type := T, pos := "slices.go:358", after := #[], guard := none }] false).seq .ret
def cloneCopy (T : TypeId) : Code := (Code.region 3 #[{ dst := some 5, op := .buildSlice T 0 #[], type := T, pos := "slices.go:362", after := #[], guard := none },
  { dst := some 6, op := .move (.tmp 0), type := T, pos := "slices.go:362", after := #[], guard := none },
  { dst := some 7, op := .call { callee := .builtin .append, args := #[.tmp 5, .tmp 6], argTypes := #[T, T] }, type := T, pos := "slices.go:362", after := #[{ on := 0, ground := .data }, { on := 1, ground := .data }], guard := none },
  { dst := some 2, op := .assign (.tmp 7), type := T, pos := "slices.go:362", after := #[{ on := 2, ground := .data }, { on := 2, ground := .chain }, { on := 0, ground := .phase }, { on := 1, ground := .phase }, { on := 2, ground := .phase }], guard := none }] false).seq .ret
def cloneBody (T B : TypeId) : Code := (cloneHead T).seq (((cloneTest T B).seq (.cond (.tmp 4) (cloneNil T) .skip)).seq (cloneCopy T))

theorem op_value {P : Program} {ops : Array Oper} {Q : Exit → Act → World → Prop} {i : Nat} {rest : List Nat} {o : Oper} {a : Act} {w : World} {v : Value} (ho : ops[i]? = some o) (hg : o.guard = none) (h : (execOp a.eval o).run P w = .ok (.value v) w)
    (hn : wpOps P ops Q rest (a.put o.dst v) w) : wpOps P ops Q (i :: rest) a w := by
  simp only [wpOps, ho]
  rw [show Region.wanted o (yielded ops a.tmps) = true from by unfold Region.wanted; rw [hg]]
  simp only [if_true]
  exact .inl (wp_of_value h hn)

theorem clone_walk {P : Program} {T B : TypeId} {w : World} {v0 : Value} {b : Bool} {Q : Exit → Act → World → Prop} {a : Act} (h0 : a.eval (.tmp 0) = v0) (hsz : a.tmps.size = 8)
    (hb : (binOp .eql T v0 (.slice none 0 0)).run P w = .ok (.bool b) w) (hgd : (eqGuard .eql T (.tmp 3) (.const (.slice none 0 0)) v0 (.slice none 0 0)).run P w = .ok () w)
    (ht : b = true → Q .ret ((((a.put (some 2) (.slice none 0 0)).put (some 3) v0).put (some 4) (.bool b)).put (some 2) (.slice none 0 0)) w)
    (hf : b = false → (cloneCopy T).wp P Q (((a.put (some 2) (.slice none 0 0)).put (some 3) v0).put (some 4) (.bool b)) w) : (cloneBody T B).wp P Q a w := by
  have e2 : ∀ (a : Act) (d : Nat) (v : Value) (t : Nat), t < a.tmps.size → (a.put (some d) v).eval (.tmp t) = if d = t then v else a.eval (.tmp t) := by
    intro a d v t ht
    simp only [Act.eval, Act.put]
    by_cases hd : d = t
    · subst hd; simp [ht]
    · simp [hd, Array.getElem?_setIfInBounds_ne hd]
  have s2 : ∀ (a : Act) (d : Nat) (v : Value), (a.put (some d) v).tmps.size = a.tmps.size := by intro a d v; simp [Act.put]
  refine wp_seq (wp_region (op_value (o := _) (v := .slice none 0 0) rfl rfl (by rfl) ?_))
  show Exit.then _ Q .normal _ w
  refine wp_seq (wp_seq (wp_region (op_value (o := _) (v := v0) rfl rfl ?_ ?_)))
  · have hv0 : (a.put (some 2) (.slice none 0 0)).eval (.tmp 0) = v0 := by rw [e2 _ _ _ _ (by omega)]; simpa using h0
    exact congrArg (fun v => Result.ok (Next.value v) w) hv0
  have hv3 : ((a.put (some 2) (.slice none 0 0)).put (some 3) v0).eval (.tmp 3) = v0 := by rw [e2 _ _ _ _ (by rw [s2]; omega)]; simp
  have hrun := run_binOp (E := ⟨P, [], fun _ => none, false⟩) (w := w) (a := (a.put (some 2) (.slice none 0 0)).put (some 3) v0) (o := { dst := some 4, op := .binOp .eql T (.tmp 3) (.const (.slice none 0 0)) T, type := B, pos := "slices.go:357", after := #[{ on := 0, ground := .data }], guard := none }) (v := .bool b) rfl (by rw [hv3]; exact hgd) (by rw [hv3]; exact hb)
  refine op_value (o := _) (v := .bool b) rfl rfl hrun ?_
  show Exit.then _ _ .normal _ w
  have h4 : (((a.put (some 2) (.slice none 0 0)).put (some 3) v0).put (some 4) (.bool b)).eval (.tmp 4) = .bool b := by
    rw [e2 _ _ _ _ (by rw [s2, s2]; omega)]; simp
  cases b with
  | true => exact wp_cond_true h4 (wp_seq (wp_region (op_value (o := _) (v := .slice none 0 0) rfl rfl (by rfl) (wp_ret (ht rfl)))))
  | false => exact wp_cond_false h4 (wp_skip (hf rfl))
end Go.Mach

/-
  Mach: slices.Clone (2): its contract.
-/
namespace Go.Mach

/-- Behind a body: what is handed back. -/
theorem fin_sound {P : Program} {sp : Spec} {fn : Func} {w w' : World} {Z Z' Y S : Nat → Prop} {args : List Value} {vs : List AV} {s : St} {a' : Act} {μ1 μ' : Locs} {Ψ : outs (dens sp.rs) (boxes sp.ps) → Prop}
    (hnb : (sp.rs.all fun s => s.2.noBor) = true) (hnb2 : (boxes sp.ps).all Sh.noBor = true) (hres : fn.results.toList.all (resOk P) = true)
    (hZ : ∀ b, Z b → b < w.heap.size) (hS : ∀ b, S b → b < w.heap.size ∧ ¬ Z b) (e3 : ARs w Z μ1 vs args) (hobjc : ObjC sp.ps vs) (hext' : ExtL μ1 μ') (hR' : Rel ⟨w, S, Z, Y⟩ s a' w' Z' μ') (hs : (fin P fn sp.ps sp.rs vs s).sat Ψ) :
    a'.defers = [] ∧ ∃ v, (results fn a'.tmps).run P w' = .ok v w' ∧ (∃ y v' vals, ∃ Z' S1 S2 : Nat → Prop, Ending.returned v = .returned v' ∧ Ψ y ∧ RetR sp.rs v' vals ∧
      ValsR w' Z' (fun _ => False) sp.rs vals (outFst (boxes sp.ps) y) S1 ∧ OutsR w' Z' (fun _ => False) sp.ps args y S2 ∧ (∀ d, S1 d → S2 d → False) ∧
      (∀ b, S1 b ∨ S2 b → b < w'.heap.size ∧ ¬ Z' b ∧ (S b ∨ w.heap.size ≤ b)) ∧ (∀ b, Z b → Z' b) ∧ (∀ b, Z' b → b < w'.heap.size ∧ (Z b ∨ S b ∨ w.heap.size ≤ b)) ∧
      w.heap.size ≤ w'.heap.size ∧ (∀ b, b < w.heap.size → ¬ S b → w'.heap[b]? = w.heap[b]?) ∧ Io w w') := by
  unfold fin at hs
  obtain ⟨xs, vals, hrun, hxs, hs⟩ := resAVs_sound hR' fn.results.toList hres hs
  split at hs
  case h_2 => exact hs.elim
  rename_i y m1 hg
  split at hs
  case h_2 => exact hs.elim
  rename_i z ho
  obtain ⟨Z1, F1, S1, a1, a2, a3, a4, a5, a6, a7⟩ := gets_sound hR'.mem (Loose.none ⟨w, S, Z, Y⟩ s.mem w' Z' μ') hxs hg
  have hsame : SameOn Z w w' := fun b hb => a1.keep b (hZ b hb) fun hS' => (hS b hS').2 hb
  obtain ⟨m2, Z2, F2, S2, b1, b2, b3, b4, b5, b6, b7⟩ := outsGet_sound (ps := sp.ps) a1 a2 (e3.mono hsame a1.frz0 hext') hobjc ho
  obtain ⟨v, hv, hret⟩ := results_ok (rs := sp.rs) hrun a7.len
  refine ⟨hR'.df, v, hv, z, v, vals, Z2, S1, S2, rfl, hs, hret, ?_, b6.noY hnb2, fun d h1 h2 => (b5 d h2).2 (a5 d h1).1, fun b hb => ?_, b1.frz0, fun b hb => ?_, b1.size, b1.keep, b1.io⟩
  · rw [b7]
    exact (a7.up b3).noY hnb
  · have hF : F2 b := by
      rcases hb with hb | hb
      · exact b4 b (a5 b hb).1
      · exact (b5 b hb).1
    obtain ⟨c1, c2, c3⟩ := b2.ok b hF
    exact ⟨c2, c1, c3.symm⟩
  · obtain ⟨c1, c2⟩ := b1.frz b hb
    exact ⟨c1, c2.imp id Or.symm⟩

@[reducible] def cloneP (e : Ty) : List Par := [.val false (.bor (.own (.frz e)))]
@[reducible] def cloneR (e : Ty) : List VSh := [(false, .own (.frz e))]
def cloneSp (f : FuncId) (e : Ty) (g : List e.den → Bool) : Spec := ⟨f, cloneP e, cloneR e, fun x => Res.need (g x) (Res.ok x)⟩
def undefs (n : Nat) : List AV := List.replicate n (.c .undef)

theorem clone_contract {P : Program} {f : FuncId} {fn : Func} {e : Ty} {T B el : TypeId} {g : List e.den → Bool} {ety : TypeId → Option Sh} (hm : P.follows .mixedOrders = true) (hfn : P.funcs[f]? = some fn) (hcode : fn.body = some (cloneBody T B))
    (hname : (fn.name == "runtime.NumGoroutine") = false) (hresE : fn.results = #[.tmp 2]) (hnt : fn.ntmps = 8) (hT : P.underlying T = some (.slice el))
    (hcopy : ∀ xs : List e.den, exec ⟨P, [], ety, false⟩ (cloneCopy T) (List e.den) .none ⟨.c (.ref 0 .full) :: undefs 7, ⟨[.bor (.frz e) xs], 0, 1⟩, []⟩ { nrm := fin P fn (cloneP e) (cloneR e) [.c (.ref 0 .full)], ext := fun _ _ => .stuck, ret := fin P fn (cloneP e) (cloneR e) [.c (.ref 0 .full)] } = Res.need (g xs) (.ok xs)) :
    Contract P (cloneSp f e g) := by
  refine ⟨⟨fn, hfn, by rw [hcode]; rfl, hname⟩, rfl, fun w Z Y S args x Ψ hsat hZ hY hS hV => ?_⟩
  have hres : fn.results.toList.all (resOk P) = true := by rw [hresE]; rfl
  have hV' := hV
  obtain ⟨v0, rfl, us, hus, hlen1, hbr⟩ := hV
  have hus : us = [v0] := hus
  subst hus
  have hbr : BR w Z (fun b => Y b ∨ Z b) (.own (.frz e)) [v0] x := hbr
  simp only [BR] at hbr
  obtain ⟨ad, cap, h1, h2, h3, h4⟩ := hbr
  simp only [List.cons.injEq, and_true] at h1
  let Bs : Base := ⟨w, S, Z, Y⟩
  have hE : ∀ sp ∈ (⟨P, [], ety, false⟩ : Env).specs, Contract (⟨P, [], ety, false⟩ : Env).P sp := fun sp h => by cases h
  let m0 : Mem := ⟨[Root.dead], 0, 0⟩
  have hdead : ∀ (r : Nat) (y : Root), m0.roots[r]? = some y → y = Root.dead := fun r y hy => by
    have hy : [Root.dead][r]? = some y := hy
    cases r with
    | zero => simpa using hy.symm
    | succ r => simp at hy
  have hM0 : MemOk Bs m0 w Z (fun _ => none) :=
    ⟨(fun r y hy hd => absurd (hdead r y hy) hd), (fun r s y z ℓ ℓ' _ hy _ _ _ hl => by cases hl), (fun r y ℓ b _ _ hl => by cases hl), fun b hb => ⟨hZ b hb, .inl hb⟩, fun b hb => hb, Nat.le_refl _, fun b _ _ => rfl, fun _ _ => rfl, fun b hb => hY b hb, Io.refl _⟩
  have hL0 : Loose Bs m0 w Z (fun _ => none) S := by
    refine ⟨fun b hb => ⟨(hS b hb).2, (hS b hb).1, .inr hb⟩, fun b r hb => ?_⟩
    rintro ⟨y, ℓ, _, _, hl, _⟩
    cases hl
  have hF0 : Free m0 (fun _ => none) (newsL ((cloneP e).map Par.v)) := fun k hk => ⟨rfl, by
    have hk : k < 1 := hk
    have : k = 0 := by omega
    subst this; rfl⟩
  obtain ⟨μ1, e1, _, e3, _⟩ := mks_sound hM0 hL0 hF0 hV' (fun _ h => h)
  have e1 : MemOk Bs ⟨[.bor (.frz e) x], 0, 1⟩ w Z μ1 := e1
  have e3 : ARs w Z μ1 [.c (.ref 0 .full)] [v0] := e3
  let st : St := ⟨.c (.ref 0 .full) :: undefs 7, ⟨[.bor (.frz e) x], 0, 1⟩, []⟩
  have hsz : ([v0].toArray ++ Array.replicate (fn.ntmps - [v0].toArray.size) undef).size = 8 := by rw [hnt]; rfl
  have hev0 : (Act.eval { tmps := [v0].toArray ++ Array.replicate (fn.ntmps - [v0].toArray.size) undef, defers := [] } (.tmp 0)) = v0 := by rw [hnt]; rfl
  have hR : Rel Bs st { tmps := [v0].toArray ++ Array.replicate (fn.ntmps - [v0].toArray.size) undef, defers := [] } w Z μ1 := by
    refine ⟨e1, fun i z hz => ?_, ?_, rfl⟩
    · have hz : (AV.c (.ref 0 .full) :: undefs 7)[i]? = some z := hz
      cases i with
      | zero =>
        simp only [List.getElem?_cons_zero, Option.some.injEq] at hz
        subst hz
        obtain ⟨v', hv', har⟩ := ARs.at_ e3 0 _ rfl
        have : v' = v0 := by simpa using hv'.symm
        subst this
        rw [hnt]; exact har
      | succ i =>
        simp only [List.getElem?_cons_succ, undefs, List.getElem?_replicate] at hz
        split at hz
        · cases hz; exact AR.undef _
        · cases hz
    · rw [hsz]; rfl
  have hob : ObjC (cloneP e) [.c (.ref 0 .full)] := trivial
  refine calls_of_wp hfn hcode ?_
  have hb : (binOp .eql T v0 (.slice none 0 0)).run P w = .ok (.bool ad.isNone) w := by
    rw [h1]
    cases ad with
    | none => exact (eq_run (w := w) (P := P) (t := T) (v := .slice none _ cap) (u := .slice none 0 0) (b := true) (by rintro op (rfl | rfl) <;> rfl) ((fun d => by simp [Op.equalIn, run_underlying hT] : ∀ d, (Op.equalIn (d + 1) T _ _).run P w = .ok _ w) 9999)).1
    | some p => exact (eq_run (w := w) (P := P) (t := T) (v := .slice (some p) _ cap) (u := .slice none 0 0) (b := false) (by rintro op (rfl | rfl) <;> rfl) ((fun d => by simp [Op.equalIn, run_underlying hT] : ∀ d, (Op.equalIn (d + 1) T _ _).run P w = .ok _ w) 9999)).1
  refine clone_walk (b := ad.isNone) hev0 hsz hb (by rw [h1]; rfl) (fun hn => ?_) (fun hn => ?_)
  · have hx : x = [] := by
      rcases h4 with h4 | ⟨b, o, h4, _⟩
      · exact h4
      · rw [h4] at hn; cases hn
    subst hx
    have hΨ : Ψ ([] : List e.den) := by
      have : (Res.need (g []) (Res.ok ([] : List e.den))).sat Ψ := hsat
      exact (sat_need this).2
    have hR4 := (((hR.put0 (some 2) (AR.undef (.slice none 0 0))).put0 (some 3) (AR.undef v0)).put0 (some 4) (AR.undef (.bool ad.isNone))).put0 (some 2) (x := .c .nils) (v := .slice none 0 0) rfl
    refine fin_sound (sp := cloneSp f e g) (Ψ := Ψ) (vs := [.c (.ref 0 .full)]) (args := [v0]) rfl rfl hres hZ hS e3 hob (ExtL.refl _) hR4 ?_
    unfold fin
    rw [hresE]
    exact hΨ
  · have hR3 := ((hR.put0 (some 2) (AR.undef (.slice none 0 0))).put0 (some 3) (AR.undef v0)).put0 (some 4) (AR.undef (.bool ad.isNone))
    have hR3 : Rel Bs st _ w Z μ1 := hR3
    let K : Kont (List e.den) := { nrm := fin P fn (cloneP e) (cloneR e) [.c (.ref 0 .full)], ext := fun _ _ => .stuck, ret := fin P fn (cloneP e) (cloneR e) [.c (.ref 0 .full)] }
    have hx0 : (exec ⟨P, [], ety, false⟩ (cloneCopy T) (List e.den) .none st K).sat (show List e.den → Prop from Ψ) := (congrArg (fun r : Res (List e.den) => r.sat (show List e.den → Prop from Ψ)) (hcopy x)).mpr hsat
    refine exec_sound (E := ⟨P, [], ety, false⟩) hm hE (cloneCopy T) (List e.den) .none st K Ψ _ st _ _ w w Z Z μ1 μ1 hx0 hR3 hR3 (Ev.refl _) (ExtL.refl _) ?_
    intro k s a' w' Z' μ' hs hR' _ hext'
    cases k with
    | nrm => exact fin_sound (sp := cloneSp f e g) (Ψ := Ψ) (vs := [.c (.ref 0 .full)]) (args := [v0]) rfl rfl hres hZ hS e3 hob hext' hR' hs
    | ret => exact fin_sound (sp := cloneSp f e g) (Ψ := Ψ) (vs := [.c (.ref 0 .full)]) (args := [v0]) rfl rfl hres hZ hS e3 hob hext' hR' hs
    | ext n => exact hs.elim
end Go.Mach

/-
  Mach: what the statement's reading of an argument gives: plain typed values.
-/
namespace Go.Mach

/-! ### Plain types over Go types -/

def chkParts (ck : TypeId → Ty → Bool) (cells : TypeId → Nat) : List (Nat × TypeId) → Nat → Ty → Bool
  | [], _, .unit => true
  | [p], o, τ => p.1 == o && (cells p.2 == τ.cells && ck p.2 τ)
  | p :: q :: r, o, .pair a b => p.1 == o && (cells p.2 == a.cells && (ck p.2 a && chkParts ck cells (q :: r) (o + a.cells) b))
  | _, _, _ => false

/-- τ is the plain type of the Go type t, laid without gaps. -/
def chkT (P : Program) : Nat → TypeId → Ty → Bool
  | 0, _, _ => false
  | n + 1, t, τ => match P.underlying t, τ with
    | some (.int k), .int j => match IntKind.same j k with
      | some _ => true
      | none => false
    | some .bool, .bool => true
    | some .string, .str => true
    | some (.slice e), .list τ => chkT P n e τ && (P.cellsOf e == τ.cells && (!(τ.cells == 0) && decide (τ.minB ≤ 2 ^ 20)))
    | some (.struct fs), τ => P.cellsOf t == τ.cells && chkParts (chkT P n) P.cellsOf (fs.toList.map fun f => (f.offset, f.type)) 0 τ
    | some (.array k e), τ => P.cellsOf t == τ.cells && chkParts (chkT P n) P.cellsOf ((List.range k).map fun i => (i * P.cellsOf e, e)) 0 τ
    | _, _ => false

/-- Nothing in it is longer than n. -/
def Ty.small (n : Nat) : (t : Ty) → t.den → Prop
  | .unit, _ | .int _, _ | .bool, _ => True
  | .str, s => s.length ≤ n
  | .list e, xs => xs.length ≤ n ∧ ∀ x ∈ xs, e.small n x
  | .pair a b, x => a.small n x.1 ∧ b.small n x.2
  | .rose _, _ => False

/-- What a reading's size tells of its parts. -/
structure Sm {H : Type} (n : Nat) (sm : DataW H → Prop) : Prop where
  str : ∀ b, sm (.lit (.string b)) → b.length ≤ n
  sl : ∀ es sp, sm (.slice es sp) → es.length ≤ n ∧ ∀ d ∈ es, sm d
  agg : ∀ l, sm (.agg l) → ∀ d ∈ l, sm d

theorem inRange_of_wf {k : IntKind} {n : Int} (h : (Lit.int k n).wf = true) : inRange k n = true := by
  unfold inRange
  have h : k.min ≤ n ∧ n ≤ k.max := by simpa [Lit.wf] using h
  cases k <;> simp [IntKind.wrap, IntKind.min, IntKind.max, IntKind.signed, IntKind.bits] at h ⊢ <;> omega

theorem mapM_all {α β : Type} {f : α → Option β} : ∀ {l : List α} {ys : List β}, l.mapM f = some ys → ys.length = l.length ∧ ∀ i (h : i < l.length) (h' : i < ys.length), f l[i] = some ys[i]
  | [], ys, h => by simp at h; subst h; exact ⟨rfl, fun i h => by simp at h⟩
  | a :: l, ys, h => by
    rw [List.mapM_cons] at h
    cases ha : f a with
    | none => rw [ha] at h; cases h
    | some y =>
      cases hl : l.mapM f with
      | none => rw [ha, hl] at h; cases h
      | some ys' =>
        rw [ha, hl] at h
        cases h
        obtain ⟨h1, h2⟩ := mapM_all hl
        refine ⟨by simp [h1], fun i hi hi' => ?_⟩
        cases i with
        | zero => simpa using ha
        | succ i => simpa using h2 i (by simpa using hi) (by simpa using hi')

theorem mapM_again {α β : Type} {f f' : α → Option β} : ∀ {l : List α} {ys : List β}, l.mapM f = some ys → (∀ a ∈ l, ∀ y ∈ ys, f a = some y → f' a = some y) → l.mapM f' = some ys
  | [], ys, h, _ => by simpa using h
  | a :: l, ys, h, hs => by
    rw [List.mapM_cons] at h ⊢
    cases ha : f a with
    | none => rw [ha] at h; cases h
    | some y =>
      cases hl : l.mapM f with
      | none => rw [ha, hl] at h; cases h
      | some ys' =>
        rw [ha, hl] at h
        cases h
        rw [hs a (List.mem_cons_self) y (List.mem_cons_self) ha, mapM_again hl fun b hb z hz => hs b (List.mem_cons_of_mem _ hb) z (List.mem_cons_of_mem _ hz)]
        rfl

theorem list_of {α : Type} (p : Nat → α → Prop) : ∀ (n : Nat), (∀ i, i < n → ∃ x, p i x) → ∃ xs : List α, xs.length = n ∧ ∀ i (h : i < xs.length), p i xs[i]
  | 0, _ => ⟨[], rfl, fun i h => by simp at h⟩
  | n + 1, h => by
    obtain ⟨xs, h1, h2⟩ := list_of p n fun i hi => h i (by omega)
    obtain ⟨x, hx⟩ := h n (by omega)
    refine ⟨xs ++ [x], by simp [h1], fun i hi => ?_⟩
    by_cases he : i < xs.length
    · rw [List.getElem_append_left he]; exact h2 i he
    · have : i = n := by simp at hi; omega
      subst this
      rw [List.getElem_append_right (by omega)]
      simpa using hx

section
variable {H : Type} {enc : TypeId × Value → H} {P : Program} {W : World} {N : Nat} {sm : DataW H → Prop}

abbrev Old (W : World) (b : Nat) : Prop := b < W.heap.size

theorem cell_old {a : Addr} {v : Value} (h : W.cell? a = some v) : a.block < W.heap.size ∧ a.spot = none := by
  unfold World.cell? at h
  split at h
  · rename_i c T fz hb
    split at h
    · cases h
    · rename_i hs
      refine ⟨(Array.getElem?_eq_some_iff.1 hb).1, ?_⟩
      cases hq : a.spot with
      | none => rfl
      | some _ => rw [hq] at hs; exact absurd rfl hs
  · cases h

theorem frz_parts {rec : TypeId → List Value → Option (DataW H × List MemPlace)} {ck : TypeId → Ty → Bool}
    (hrec : ∀ t τ cs y, rec t cs = some y → ck t τ = true → sm y.1 → ∃ x, Frz W (Old W) τ cs x ∧ τ.small N x) (cs : List Value) :
    ∀ (l : List (Nat × TypeId)) (o : Nat) (τ : Ty) (ys : List (DataW H × List MemPlace)), l.mapM (fun p => rec p.2 ((cs.drop p.1).take (P.cellsOf p.2))) = some ys → chkParts ck P.cellsOf l o τ = true →
      (∀ y ∈ ys, sm y.1) → cs.length = o + τ.cells → ∃ x, Frz W (Old W) τ (cs.drop o) x ∧ τ.small N x
  | [], o, τ, ys, h, hc, hs, hl => by
    cases τ <;> simp [chkParts] at hc
    refine ⟨(), ?_, trivial⟩
    simp only [Frz, List.drop_eq_nil_iff]
    simp [Ty.cells] at hl
    omega
  | [p], o, τ, ys, h, hc, hs, hl => by
    have hc : (p.1 == o && (P.cellsOf p.2 == τ.cells && ck p.2 τ)) = true := by
      cases τ <;> exact hc
    simp only [Bool.and_eq_true, beq_iff_eq] at hc
    obtain ⟨h1, h2, h3⟩ := hc
    obtain ⟨h4, h5⟩ := mapM_all h
    match ys, h4 with
    | [y], _ =>
      have h6 := h5 0 (by simp) (by simp)
      simp only [List.getElem_cons_zero] at h6
      obtain ⟨x, hx⟩ := hrec _ _ _ _ h6 h3 (hs y (by simp))
      refine ⟨x, ?_⟩
      rw [h1, h2, List.take_of_length_le (by simp; omega)] at hx
      exact hx
  | p :: q :: r, o, τ, ys, h, hc, hs, hl => by
    cases τ with
    | pair a b =>
      simp only [chkParts, Bool.and_eq_true, beq_iff_eq] at hc
      obtain ⟨h1, h2, h3, h4⟩ := hc
      rw [List.mapM_cons] at h
      cases hy : rec p.2 ((cs.drop p.1).take (P.cellsOf p.2)) with
      | none => rw [hy] at h; cases h
      | some y =>
        cases hl' : (q :: r).mapM (fun p => rec p.2 ((cs.drop p.1).take (P.cellsOf p.2))) with
        | none => rw [hy, hl'] at h; cases h
        | some ys' =>
          rw [hy, hl'] at h
          cases h
          obtain ⟨x, hx⟩ := hrec _ _ _ _ hy h3 (hs y (by simp))
          simp only [Ty.cells] at hl
          obtain ⟨z, hz⟩ := frz_parts hrec cs (q :: r) (o + a.cells) b ys' hl' h4 (fun z hz => hs z (List.mem_cons_of_mem _ hz)) (by omega)
          refine ⟨(x, z), ?_, hx.2, hz.2⟩
          simp only [Frz]
          refine ⟨_, _, ?_, hx.1, hz.1⟩
          rw [h1, h2, show cs.drop (o + a.cells) = (cs.drop o).drop a.cells by rw [List.drop_drop], List.take_append_drop]
    | _ => simp [chkParts] at hc

theorem frz_of_trod (S : Sm N sm) (hN : N ≤ 2 ^ 20) : ∀ (fuel : Nat) {n : Nat} {t : TypeId} {τ : Ty} {cs : List Value} {y : DataW H × List MemPlace}, DataW.trod enc P W 0 (fun _ => true) true fuel t cs = some y →
    chkT P n t τ = true → sm y.1 → ∃ x, Frz W (Old W) τ cs x ∧ τ.small N x
  | 0, _, _, _, _, _, h, _, _ => by simp [DataW.trod] at h
  | fuel + 1, 0, _, _, _, _, _, hc, _ => by simp [chkT] at hc
  | fuel + 1, n + 1, t, τ, cs, y, h, hc, hs => by
    simp only [chkT] at hc
    split at hc
    · rename_i k j hu
      split at hc
      case h_2 => cases hc
      rename_i hk _
      obtain ⟨hk⟩ := hk
      subst hk
      obtain ⟨m, rfl, rfl, hwf⟩ := DataW.trod_int hu h
      exact ⟨m, ⟨rfl, inRange_of_wf hwf⟩, trivial⟩
    · rename_i hu
      obtain ⟨b, rfl, rfl⟩ := DataW.trod_bool hu h
      exact ⟨b, rfl, trivial⟩
    · rename_i hu
      obtain ⟨s, rfl, rfl, _⟩ := DataW.trod_string hu h
      have h3 := S.str _ hs
      exact ⟨s.data.toList, ⟨rfl, by simp only [strOk, decide_eq_true_eq]; omega⟩, h3⟩
    · rename_i e τ hu
      simp only [Bool.and_eq_true, beq_iff_eq, Bool.not_eq_true', beq_eq_false_iff_ne, decide_eq_true_eq] at hc
      obtain ⟨h1, h2, h3, h4⟩ := hc
      rcases DataW.trod_slice hu h with ⟨rfl, rfl⟩ | ⟨a, len, cap, elems, rest, m, hm, rfl, rfl, _, hlen, _, hel, hall, _, _⟩
      · refine ⟨[], ?_, by simp [Ty.small]⟩
        simp only [Frz]
        exact ⟨none, 0, rfl, Nat.le_refl _, by simp [lenOk], .inl trivial⟩
      · obtain ⟨rfl⟩ : fuel = m := by omega
        obtain ⟨s1, s2⟩ := S.sl _ _ hs
        simp only [List.length_map] at s1
        have key : ∀ i, i < len → ∃ x, (∃ us, us.length = τ.cells ∧ (a.block < W.heap.size ∧ a.spot = none) ∧ CellsAt W a.block (a.off + i * τ.cells) us ∧ Frz W (Old W) τ us x) ∧ τ.small N x := by
          intro i hi
          have h5 := hall i hi
          rw [List.getElem?_eq_getElem (by omega)] at h5
          obtain ⟨us, h6, h7⟩ := Option.bind_eq_some_iff.1 h5
          obtain ⟨_, h8, h9⟩ := World.cells?_some h6
          obtain ⟨x, h10, h11⟩ := frz_of_trod S hN fuel h7 h1 (s2 _ (List.mem_map.2 ⟨elems[i], List.getElem_mem _, rfl⟩))
          have hsp : a.block < W.heap.size ∧ a.spot = none := by
            have h12 := hall 0 (by omega)
            rw [List.getElem?_eq_getElem (by omega)] at h12
            obtain ⟨us', h13, _⟩ := Option.bind_eq_some_iff.1 h12
            obtain ⟨_, h14, h15⟩ := World.cells?_some h13
            have h16 := h15 0 (by omega)
            rw [List.getElem?_eq_getElem (by omega)] at h16
            have h17 := cell_old h16
            simpa [Addr.add] using h17
          refine ⟨x, ⟨us, by omega, hsp, fun k hk => ?_, h10⟩, h11⟩
          have h18 := h9 k (by omega)
          rw [List.getElem?_eq_getElem hk, h2] at h18
          rw [← h18]
          congr 1
          obtain ⟨ab, ao, asp⟩ := a
          obtain ⟨_, rfl⟩ := hsp
          unfold Addr.add
          by_cases hz : i * τ.cells = 0 <;> by_cases hz' : k = 0 <;> simp [hz, hz']
        obtain ⟨xs, g1, g2⟩ := list_of _ len key
        refine ⟨xs, ?_, by omega, fun x hx => ?_⟩
        · simp only [Frz]
          refine ⟨some a, cap, by rw [g1], by omega, ?_, ?_⟩
          · have : xs.length * τ.minB ≤ 2 ^ 20 * 2 ^ 20 := Nat.mul_le_mul (by omega) h4
            simp only [lenOk, decide_eq_true_eq]
            omega
          · by_cases hx : xs = []
            · exact .inl hx
            · have h0 : 0 < xs.length := List.length_pos_iff.2 hx
              obtain ⟨⟨_, _, hsp, _⟩, _⟩ := g2 0 h0
              refine .inr ⟨a.block, a.off, ?_, hsp.1, fun i hi => ?_⟩
              · obtain ⟨ab, ao, asp⟩ := a
                obtain ⟨_, rfl⟩ := hsp
                rfl
              · obtain ⟨⟨us, q1, _, q3, q4⟩, _⟩ := g2 i hi
                exact ⟨us, q1, q3, q4⟩
        · obtain ⟨i, hi, rfl⟩ := List.getElem_of_mem hx
          exact (g2 i hi).2
    · rename_i _ _ fs hu
      simp only [Bool.and_eq_true, beq_iff_eq] at hc
      have h' : (if cs.length = P.cellsOf t then (fs.toList.mapM fun f => DataW.trod enc P W 0 (fun _ => true) true fuel f.type ((cs.drop f.offset).take (P.cellsOf f.type))).map fun xs => (DataW.agg (xs.map (·.1)), xs.flatMap (·.2)) else none) = some y := by
        unfold DataW.trod at h
        rw [hu] at h
        split at h <;> simp_all
      split at h'
      case isFalse => cases h'
      rename_i hlen
      obtain ⟨ys, q1, q2⟩ := Option.map_eq_some_iff.1 h'
      subst q2
      have q3 : (fs.toList.map fun f => (f.offset, f.type)).mapM (fun p => DataW.trod enc P W 0 (fun _ => true) true fuel p.2 ((cs.drop p.1).take (P.cellsOf p.2))) = some ys := by
        rw [List.mapM_map]; exact q1
      obtain ⟨x, hx⟩ := frz_parts (P := P) (ck := chkT P n) (fun t τ cs y a b c => frz_of_trod S hN fuel a b c) cs _ 0 _ ys q3 hc.2 (fun y hy => S.agg _ hs _ (List.mem_map.2 ⟨y, hy, rfl⟩)) (by rw [hlen, hc.1]; exact (Nat.zero_add _).symm)
      exact ⟨x, by simpa using hx⟩
    · rename_i _ _ k e hu
      simp only [Bool.and_eq_true, beq_iff_eq] at hc
      have h' : (if cs.length = P.cellsOf t then ((List.range k).mapM fun i => DataW.trod enc P W 0 (fun _ => true) true fuel e ((cs.drop (i * P.cellsOf e)).take (P.cellsOf e))).map fun xs => (DataW.agg (xs.map (·.1)), xs.flatMap (·.2)) else none) = some y := by
        unfold DataW.trod at h
        rw [hu] at h
        split at h <;> simp_all
      split at h'
      case isFalse => cases h'
      rename_i hlen
      obtain ⟨ys, q1, q2⟩ := Option.map_eq_some_iff.1 h'
      subst q2
      have q3 : ((List.range k).map fun i => (i * P.cellsOf e, e)).mapM (fun p => DataW.trod enc P W 0 (fun _ => true) true fuel p.2 ((cs.drop p.1).take (P.cellsOf p.2))) = some ys := by
        rw [List.mapM_map]; exact q1
      obtain ⟨x, hx⟩ := frz_parts (P := P) (ck := chkT P n) (fun t τ cs y a b c => frz_of_trod S hN fuel a b c) cs _ 0 _ ys q3 hc.2 (fun y hy => S.agg _ hs _ (List.mem_map.2 ⟨y, hy, rfl⟩)) (by rw [hlen, hc.1]; exact (Nat.zero_add _).symm)
      exact ⟨x, by simpa using hx⟩
    · cases hc

/-! ### The same reading behind the call -/

theorem row_block {a : Addr} {n : Nat} {p : MemPlace} (h : p ∈ MemPlace.row a n) : p.block = a.block := by
  simp only [MemPlace.row, List.mem_map] at h
  obtain ⟨i, _, rfl⟩ := h
  rfl

theorem cells_again {W' : World} (hw : ∀ b, b < W.heap.size → W'.heap[b]? = W.heap[b]?) {a : Addr} {n : Nat} {us : List Value} (h : W.cells? 0 a n = some us) : W'.cells? 0 a n = some us := by
  unfold World.cells? at h ⊢
  simp only [Nat.zero_le, if_true] at h ⊢
  refine mapM_again h fun i _ v _ hv => ?_
  have h1 := cell_old hv
  rw [← hv]
  simp only [World.cell?, hw _ h1.1]

theorem parts_again {rec rec' : TypeId → List Value → Option (DataW H × List MemPlace)} {ck : TypeId → Ty → Bool} {ok : DataW H × List MemPlace → Prop}
    (hrec : ∀ t τ cs y, rec t cs = some y → ck t τ = true → ok y → rec' t cs = some y) (cs : List Value) :
    ∀ (l : List (Nat × TypeId)) (o : Nat) (τ : Ty) (ys : List (DataW H × List MemPlace)), l.mapM (fun p => rec p.2 ((cs.drop p.1).take (P.cellsOf p.2))) = some ys → chkParts ck P.cellsOf l o τ = true →
      (∀ y ∈ ys, ok y) → l.mapM (fun p => rec' p.2 ((cs.drop p.1).take (P.cellsOf p.2))) = some ys
  | [], o, τ, ys, h, _, _ => by simpa using h
  | [p], o, τ, ys, h, hc, hs => by
    have hc : (p.1 == o && (P.cellsOf p.2 == τ.cells && ck p.2 τ)) = true := by
      cases τ <;> exact hc
    simp only [Bool.and_eq_true, beq_iff_eq] at hc
    refine mapM_again h fun q hq y hy hr => ?_
    obtain rfl := List.mem_singleton.1 hq
    exact hrec _ _ _ _ hr hc.2.2 (hs y hy)
  | p :: q :: r, o, τ, ys, h, hc, hs => by
    cases τ with
    | pair a b =>
      simp only [chkParts, Bool.and_eq_true, beq_iff_eq] at hc
      obtain ⟨h1, h2, h3, h4⟩ := hc
      rw [List.mapM_cons] at h ⊢
      cases hy : rec p.2 ((cs.drop p.1).take (P.cellsOf p.2)) with
      | none => rw [hy] at h; cases h
      | some y =>
        cases hl' : (q :: r).mapM (fun p => rec p.2 ((cs.drop p.1).take (P.cellsOf p.2))) with
        | none => rw [hy, hl'] at h; cases h
        | some ys' =>
          rw [hy, hl'] at h
          cases h
          rw [hrec _ _ _ _ hy h3 (hs y (by simp)), parts_again hrec cs (q :: r) _ b ys' hl' h4 fun z hz => hs z (List.mem_cons_of_mem _ hz)]
          rfl
    | _ => simp [chkParts] at hc

theorem trod_again {W' : World} {sp : Nat → Bool} (hw : ∀ b, b < W.heap.size → W'.heap[b]? = W.heap[b]?) : ∀ (fuel : Nat) {n : Nat} {t : TypeId} {τ : Ty} {cs : List Value} {y : DataW H × List MemPlace}, DataW.trod enc P W 0 (fun _ => true) true fuel t cs = some y →
    chkT P n t τ = true → (∀ p ∈ y.2, sp p.block = true) → DataW.trod enc P W' 0 sp true fuel t cs = some y
  | 0, _, _, _, _, _, h, _, _ => by simp [DataW.trod] at h
  | fuel + 1, 0, _, _, _, _, _, hc, _ => by simp [chkT] at hc
  | fuel + 1, n + 1, t, τ, cs, y, h, hc, hs => by
    simp only [chkT] at hc
    split at hc
    · rename_i k j hu
      obtain ⟨m, rfl, rfl, hwf⟩ := DataW.trod_int hu h
      unfold DataW.trod at h ⊢
      simpa [hu] using h
    · rename_i hu
      obtain ⟨b, rfl, rfl⟩ := DataW.trod_bool hu h
      unfold DataW.trod at h ⊢
      simpa [hu] using h
    · rename_i hu
      obtain ⟨s, rfl, rfl, _⟩ := DataW.trod_string hu h
      unfold DataW.trod at h ⊢
      simpa [hu] using h
    · rename_i e τ hu
      simp only [Bool.and_eq_true, beq_iff_eq, Bool.not_eq_true', beq_eq_false_iff_ne, decide_eq_true_eq] at hc
      obtain ⟨h1, h2, h3, h4⟩ := hc
      have h0 := h
      rcases DataW.trod_slice hu h with ⟨rfl, rfl⟩ | ⟨a, len, cap, elems0, rest0, m, hm, rfl, rfl, _, hlen, _, hel, hall, hsp, _⟩
      · unfold DataW.trod at h ⊢
        simpa [hu] using h
      · obtain ⟨rfl⟩ : fuel = m := by omega
        have hrl := (hsp rfl).1
        have hspa : elems0.length + rest0.length ≠ 0 → sp a.block = true := fun hne => by
          have hpos : 0 < (elems0.length + rest0.length) * P.cellsOf e := Nat.mul_pos (by omega) (by omega)
          refine hs (.cell a.block (a.off + 0)) (List.mem_append_left _ ?_)
          exact List.mem_map.2 ⟨0, List.mem_range.2 hpos, rfl⟩
        unfold DataW.trod at h ⊢
        simp only [hu, Nat.zero_le, true_and] at h ⊢
        split at h
        case isFalse => cases h
        rename_i hb
        rw [if_pos hb]
        simp only [Option.bind_eq_some_iff, Option.map_eq_some_iff] at h
        obtain ⟨elems, he, rest, hr, hy⟩ := h
        simp only [Prod.mk.injEq, DataW.slice.injEq] at hy
        have hel' : ∀ (l : List Nat) (ys : List (DataW H × List MemPlace)) (g : Nat → Nat), (∀ z ∈ ys, ∀ p ∈ z.2, sp p.block = true) → l.mapM (fun i => (W.cells? 0 (a.add (g i * P.cellsOf e)) (P.cellsOf e)).bind (DataW.trod enc P W 0 (fun _ => true) true fuel e)) = some ys →
            l.mapM (fun i => (W'.cells? 0 (a.add (g i * P.cellsOf e)) (P.cellsOf e)).bind (DataW.trod enc P W' 0 sp true fuel e)) = some ys := fun l ys g hz h => by
          refine mapM_again h fun i _ z hz' hi => ?_
          obtain ⟨us, q1, q2⟩ := Option.bind_eq_some_iff.1 hi
          rw [cells_again hw q1]
          exact trod_again hw fuel q2 h1 (hz z hz')
        have hplaces : ∀ z ∈ elems ++ rest, ∀ p ∈ z.2, sp p.block = true := fun z hz p hp => hs p (by
          rw [← hy.2]
          exact List.mem_append_right _ (List.mem_flatMap.2 ⟨z, hz, hp⟩))
        have hr' : (List.range (cap - len)).mapM (fun j => (W.cells? 0 (a.add ((len + j) * P.cellsOf e)) (P.cellsOf e)).bind (DataW.trod enc P W 0 (fun _ => true) true fuel e)) = some rest := by simpa using hr
        rw [hel' _ elems (fun i => i) (fun z hz => hplaces z (List.mem_append_left _ hz)) he]
        have hr2 := hel' _ rest (fun j => len + j) (fun z hz => hplaces z (List.mem_append_right _ hz)) hr'
        have hsel : (if sp a.block = true then (List.range (cap - len)).mapM (fun j => (W'.cells? 0 (a.add ((len + j) * P.cellsOf e)) (P.cellsOf e)).bind (DataW.trod enc P W' 0 sp true fuel e)) else some []) = some rest := by
          by_cases hq : sp a.block = true
          · rw [if_pos hq]; exact hr2
          · rw [if_neg hq]
            have : rest = [] := by
              by_cases hz : elems0.length + rest0.length = 0
              · have h5 : cap - len = 0 := by omega
                rw [h5] at hr'
                simpa using hr'.symm
              · exact absurd (hspa hz) hq
            rw [this]
        simp only [Option.bind_some, hsel, Option.map_some]
        rw [hy.1.1, hy.1.2, hy.2]
    · rename_i _ _ fs hu
      simp only [Bool.and_eq_true, beq_iff_eq] at hc
      have h' : (if cs.length = P.cellsOf t then (fs.toList.mapM fun f => DataW.trod enc P W 0 (fun _ => true) true fuel f.type ((cs.drop f.offset).take (P.cellsOf f.type))).map fun xs => (DataW.agg (xs.map (·.1)), xs.flatMap (·.2)) else none) = some y := by
        unfold DataW.trod at h
        rw [hu] at h
        split at h <;> simp_all
      split at h'
      case isFalse => cases h'
      rename_i hlen
      obtain ⟨ys, q1, q2⟩ := Option.map_eq_some_iff.1 h'
      have q3 : (fs.toList.map fun f => (f.offset, f.type)).mapM (fun p => DataW.trod enc P W 0 (fun _ => true) true fuel p.2 ((cs.drop p.1).take (P.cellsOf p.2))) = some ys := by
        rw [List.mapM_map]; exact q1
      have q4 := parts_again (P := P) (ck := chkT P n) (rec' := DataW.trod enc P W' 0 sp true fuel) (ok := fun y => ∀ p ∈ y.2, sp p.block = true) (fun t τ cs y a b c => trod_again hw fuel a b c) cs _ 0 _ ys q3 hc.2
        (fun y hy p hp => hs p (by rw [← q2]; exact List.mem_flatMap.2 ⟨y, hy, hp⟩))
      rw [List.mapM_map] at q4
      have q5 : (fs.toList.mapM fun f => DataW.trod enc P W' 0 sp true fuel f.type ((cs.drop f.offset).take (P.cellsOf f.type))) = some ys := q4
      unfold DataW.trod
      rw [hu]
      rw [← q2]
      split <;> simp_all
    · rename_i _ _ k e hu
      simp only [Bool.and_eq_true, beq_iff_eq] at hc
      have h' : (if cs.length = P.cellsOf t then ((List.range k).mapM fun i => DataW.trod enc P W 0 (fun _ => true) true fuel e ((cs.drop (i * P.cellsOf e)).take (P.cellsOf e))).map fun xs => (DataW.agg (xs.map (·.1)), xs.flatMap (·.2)) else none) = some y := by
        unfold DataW.trod at h
        rw [hu] at h
        split at h <;> simp_all
      split at h'
      case isFalse => cases h'
      rename_i hlen
      obtain ⟨ys, q1, q2⟩ := Option.map_eq_some_iff.1 h'
      have q3 : ((List.range k).map fun i => (i * P.cellsOf e, e)).mapM (fun p => DataW.trod enc P W 0 (fun _ => true) true fuel p.2 ((cs.drop p.1).take (P.cellsOf p.2))) = some ys := by
        rw [List.mapM_map]; exact q1
      have q4 := parts_again (P := P) (ck := chkT P n) (rec' := DataW.trod enc P W' 0 sp true fuel) (ok := fun y => ∀ p ∈ y.2, sp p.block = true) (fun t τ cs y a b c => trod_again hw fuel a b c) cs _ 0 _ ys q3 hc.2
        (fun y hy p hp => hs p (by rw [← q2]; exact List.mem_flatMap.2 ⟨y, hy, hp⟩))
      rw [List.mapM_map] at q4
      have q5 : ((List.range k).mapM fun i => DataW.trod enc P W' 0 sp true fuel e ((cs.drop (i * P.cellsOf e)).take (P.cellsOf e))) = some ys := q4
      unfold DataW.trod
      rw [hu]
      rw [← q2]
      split <;> simp_all
    · cases hc
end
end Go.Mach

/-
  Mach: from a contract to a row's statement.
-/
namespace Go.Mach
open Go.ChangeShapes Go.RowKit

/-- A shape that a plain value can be handed over as: frozen or lent. -/
def Sh.lend : Sh → Bool
  | .frz _ => true
  | .own s => s.lend
  | .seq a b => a.lend && b.lend
  | _ => false

/-- A parameter that fits its Go type. -/
def chkPar (P : Program) (t : TypeId) : Par → Bool
  | .val g (.frz τ) => (g == aggT P t) && chkT P 20 t τ
  | .val g (.bor s) => (g == aggT P t) && (s.lend && chkT P 20 t s.ty)
  | _ => false
def chkPars (P : Program) : List TypeId → List Par → Bool
  | [], [] => true
  | t :: ts, p :: ps => chkPar P t p && chkPars P ts ps
  | _, _ => false

/-- All arguments are small. -/
def smalls (n : Nat) : (ps : List VSh) → dens ps → Prop
  | [], _ => True
  | [a], x => a.2.ty.small n x
  | a :: b :: r, x => a.2.ty.small n x.1 ∧ smalls n (b :: r) x.2

section
variable {W : World} {Z V : Nat → Prop}

theorem lend_cells : ∀ {s : Sh}, s.lend = true → s.cells = s.ty.cells
  | .frz _, _ => rfl
  | .own _, _ => rfl
  | .seq a b, h => by
    simp only [Sh.lend, Bool.and_eq_true] at h
    simp only [Sh.cells, Sh.ty, Ty.cells, lend_cells h.1, lend_cells h.2]
theorem lend_minB : ∀ {s : Sh}, s.lend = true → s.minB = s.ty.minB
  | .frz _, _ => rfl
  | .own _, _ => rfl
  | .seq a b, h => by
    simp only [Sh.lend, Bool.and_eq_true] at h
    simp only [Sh.minB, Sh.ty, Ty.minB, lend_minB h.1, lend_minB h.2]

/-- What is frozen may be lent. -/
theorem lend_of_frz (hz : ∀ b, Z b → V b) : ∀ {s : Sh} {us : List Value} {x : s.den}, s.lend = true → Frz W Z s.ty us x → BR W Z V s us x
  | .frz _, _, _, _, h => h
  | .own s, us, xs, hl, h => by
    simp only [Sh.ty, Frz] at h
    simp only [BR]
    obtain ⟨a, cap, h1, h2, h3, h4⟩ := h
    refine ⟨a, cap, h1, h2, ?_, h4.imp id ?_⟩
    · simpa [lenOkS, lenOk, lend_minB (s := s) hl] using h3
    · rintro ⟨b, o, h5, h6, h7⟩
      refine ⟨b, o, h5, hz b h6, fun i hi => ?_⟩
      obtain ⟨us, h8, h9, h10⟩ := h7 i hi
      rw [lend_cells (s := s) hl]
      exact ⟨us, h8, h9, lend_of_frz hz (s := s) hl h10⟩
  | .seq a b, us, x, hl, h => by
    simp only [Sh.lend, Bool.and_eq_true] at hl
    simp only [Sh.ty, Frz] at h
    simp only [BR]
    obtain ⟨u1, u2, h1, h2, h3⟩ := h
    exact ⟨u1, u2, h1, lend_of_frz hz hl.1 h2, lend_of_frz hz hl.2 h3⟩
end

section
variable {H : Type} {enc : TypeId × Value → H} {P : Program} {W : World} {N : Nat} {sm : DataW H → Prop}

/-- An argument's value has the form of its type. -/
theorem form_of_ok {r : Reach} {b0 : Nat} {t : TypeId} {τ : Ty} {v : Value} (hc : chkT P 20 t τ = true) (h : Value.okWide P W r b0 t v) : FormR (aggT P t) v.cells.toList v := by
  unfold aggT
  unfold Value.okWide at h
  have hc : chkT P (19 + 1) t τ = true := hc
  unfold chkT at hc
  cases hu : P.underlying t with
  | none => simp [hu] at hc
  | some D =>
    rw [hu] at hc h
    have one : ∀ {w : Value}, Cell.okWide P W r b0 t w → (∀ cs, w ≠ .agg cs) → FormR false w.cells.toList w := fun {w} _ hw => by
      cases w <;> simp [FormR, Value.cells] at hw ⊢
    have noagg : ∀ {cs : Array Value}, (D = .bool ∨ D = .string ∨ (∃ k, D = .int k) ∨ ∃ e, D = .slice e) → ¬ Cell.okWide P W r b0 t (.agg cs) := fun {cs} hd h => by
      unfold Cell.okWide Cell.ok at h
      rw [hu] at h
      rcases hd with rfl | rfl | ⟨k, rfl⟩ | ⟨e, rfl⟩ <;> simp at h
    cases D with
    | bool => exact one h fun cs he => noagg (.inl rfl) (he ▸ h)
    | string => exact one h fun cs he => noagg (.inr (.inl rfl)) (he ▸ h)
    | int k => exact one h fun cs he => noagg (.inr (.inr (.inl ⟨k, rfl⟩))) (he ▸ h)
    | slice e => exact one h fun cs he => noagg (.inr (.inr (.inr ⟨e, rfl⟩))) (he ▸ h)
    | struct fs => obtain ⟨cs, rfl, _⟩ := h; simp [FormR, Value.cells]
    | array n e => obtain ⟨cs, rfl, _⟩ := h; simp [FormR, Value.cells]
    | _ => cases τ <;> cases hc

theorem val_of_trod (S : Sm N sm) (hN : N ≤ 2 ^ 20) {r : Reach} {b0 : Nat} {t : TypeId} {v : Value} {d : DataW H} {ps : List MemPlace} {p : Par} (h : DataW.Trod enc P W 0 (fun _ => true) true t v d ps) (hv : Value.okWide P W r b0 t v)
    (hc : chkPar P t p = true) (hs : sm d) (T : Nat → Prop) : ∃ x : p.v.2.den, ValR W (Old W) (fun _ => False) p.v v x T ∧ p.v.2.ty.small N x := by
  obtain ⟨fuel, h⟩ := h
  match p with
  | .obj _ => simp [chkPar] at hc
  | .val g s =>
    cases s with
    | frz τ =>
      simp only [chkPar, Bool.and_eq_true, beq_iff_eq] at hc
      obtain ⟨rfl, hc⟩ := hc
      obtain ⟨x, h1, h2⟩ := frz_of_trod S hN fuel h hc hs
      exact ⟨x, ⟨_, form_of_ok hc hv, h1.length, h1⟩, h2⟩
    | bor s =>
      simp only [chkPar, Bool.and_eq_true, beq_iff_eq] at hc
      obtain ⟨rfl, hl, hc⟩ := hc
      obtain ⟨x, h1, h2⟩ := frz_of_trod S hN fuel h hc hs
      refine ⟨x, ⟨_, form_of_ok hc hv, ?_, ?_⟩, h2⟩
      · exact h1.length.trans (lend_cells hl).symm
      · exact lend_of_frz (fun b hb => .inr hb) hl h1
    | _ => simp [chkPar] at hc

theorem vals_of_trod (S : Sm N sm) (hN : N ≤ 2 ^ 20) {r : Reach} {b0 : Nat} : ∀ {ts : List TypeId} {vs : List Value} {ds : List (DataW H)} {q : List MemPlace} {ps : List Par}, DataW.TrodAll enc P W 0 (fun _ => true) true ts vs ds q →
    (∀ (j : Nat) t v, ts[j]? = some t → vs[j]? = some v → Value.okWide P W r b0 t v) → chkPars P ts ps = true → (∀ d ∈ ds, sm d) →
    ∃ x : dens (ps.map Par.v), ValsR W (Old W) (fun _ => False) (ps.map Par.v) vs x (fun _ => False) ∧ smalls N (ps.map Par.v) x
  | [], vs, ds, q, ps, h, hv, hc, hs => by
    obtain ⟨rfl, rfl, rfl⟩ := trodAll_nil h
    match ps, hc with
    | [], _ => exact ⟨(), rfl, trivial⟩
  | t :: ts, vs, ds, q, ps, h, hv, hc, hs => by
    obtain ⟨v, vs', d, ds', p1, p2, rfl, rfl, rfl, h1, h2⟩ := trodAll_cons h
    match ps, hc with
    | p :: ps, hc =>
      simp only [chkPars, Bool.and_eq_true] at hc
      obtain ⟨x, g1, g2⟩ := val_of_trod S hN h1 (hv 0 t v rfl rfl) hc.1 (hs d (by simp)) (fun _ => False)
      obtain ⟨y, g3, g4⟩ := vals_of_trod S hN h2 (fun j t v ht hv' => hv (j + 1) t v (by simpa using ht) (by simpa using hv')) hc.2 (fun d hd => hs d (List.mem_cons_of_mem _ hd))
      match ps, y, g3, g4 with
      | [], y, g3, g4 =>
        obtain rfl : vs' = [] := g3
        exact ⟨x, ⟨v, rfl, g1⟩, g2⟩
      | p' :: r, y, g3, g4 => exact ⟨(x, y), ⟨v, vs', fun _ => False, fun _ => False, rfl, fun _ h => h, fun _ h => h, fun _ h _ => h, g1, g3⟩, g2, g4⟩

theorem trodAll_again {W' : World} {sp : Nat → Bool} (hw : ∀ b, b < W.heap.size → W'.heap[b]? = W.heap[b]?) : ∀ {ts : List TypeId} {vs : List Value} {ds : List (DataW H)} {q : List MemPlace} {ps : List Par}, DataW.TrodAll enc P W 0 (fun _ => true) true ts vs ds q →
    chkPars P ts ps = true → (∀ p ∈ q, sp p.block = true) → DataW.TrodAll enc P W' 0 sp true ts vs ds q
  | [], vs, ds, q, ps, h, hc, hs => by
    obtain ⟨rfl, rfl, rfl⟩ := trodAll_nil h
    exact trodAll_mk0
  | t :: ts, vs, ds, q, ps, h, hc, hs => by
    obtain ⟨v, vs', d, ds', p1, p2, rfl, rfl, rfl, ⟨fuel, h1⟩, h2⟩ := trodAll_cons h
    match ps, hc with
    | p :: ps, hc =>
      simp only [chkPars, Bool.and_eq_true] at hc
      have hck : ∃ τ, chkT P 20 t τ = true := by
        match p, hc.1 with
        | .val g (.frz τ), hc => simp only [chkPar, Bool.and_eq_true] at hc; exact ⟨_, hc.2⟩
        | .val g (.bor s), hc => simp only [chkPar, Bool.and_eq_true] at hc; exact ⟨_, hc.2.2⟩
      obtain ⟨τ, hck⟩ := hck
      exact ⟨p1, p2, ⟨fuel, trod_again hw fuel h1 hck fun p hp => hs p (List.mem_append_left _ hp)⟩, trodAll_again hw h2 hc.2 fun p hp => hs p (List.mem_append_right _ hp), rfl⟩

theorem chkPars_boxes : ∀ {ts : List TypeId} {ps : List Par}, chkPars P ts ps = true → boxes ps = []
  | [], [], _ => rfl
  | t :: ts, p :: ps, h => by
    simp only [chkPars, Bool.and_eq_true] at h
    match p, h.1 with
    | .val g s, _ => exact chkPars_boxes (ps := ps) h.2

/-- 'post_of_same', where new blocks may be marked. -/
theorem post_of_same_old {f : Func} {s : ChangeSpec} {apart fresh handsOn again : Bool} {W W' : World} {args : Array Value} {v : Value} {ds gs : List (DataW H)} {before pa pv : List MemPlace}
    (hW : DataW.Whole enc P f.params.toList s.vars apart W args.toList ds gs before)
    (hres : ∀ (b : Nat) (sp : Nat → Bool) (hd : Bool), DataW.TrodAll enc P W' b sp hd f.resultTypes.toList (v.resultList f.resultTypes.size) (s.fn H (ds ++ gs)).results [])
    (hargs : ∀ sp : Nat → Bool, (∀ p ∈ before, sp p.block = true) → DataW.TrodAll enc P W' 0 sp true f.params.toList args.toList (s.fn H (ds ++ gs)).args pa)
    (hvars : ∀ sp : Nat → Bool, (∀ p ∈ before, sp p.block = true) → DataW.TrodVars enc P W' sp s.vars (s.fn H (ds ++ gs)).vars pv)
    (hps : before = pa ++ pv) (hk : W.keptBut W' (· ∈ before)) (hfz : ∀ a, a.block < W.heap.size → W'.frozen? a = W.frozen? a)
    (hok : ∀ (j : Nat) (t : TypeId) (r : Value), f.resultTypes[j]? = some t → (v.resultList f.resultTypes.size)[j]? = some r → Value.okWide P W' .any 0 t r) :
    s.post enc P f apart fresh handsOn again W args v W' := by
  have hold : ∀ p ∈ before, (fun b => decide (b < W.heap.size)) p.block = true := fun p hp => by simpa using hW.lt p hp
  have hlt := hW.lt
  refine ⟨ds, gs, before, [], pa, pv, hW, hres _ _ _, hargs _ hold, hvars _ hold, World.keptBut_mono (fun p hp => ⟨hp, ?_⟩) hk, fun _ => ?_⟩
  · rw [hps, List.mem_append] at hp
    exact Or.inr hp
  · obtain ⟨_, _, _, _, _, hz, hn⟩ := hW
    refine ⟨hok, _, _, ([] ++ pa) ++ pv, ⟨[] ++ pa, pv, trodAll_append (hargs _ (fun _ _ => rfl)) (hres _ _ _), hvars _ (fun _ _ => rfl), rfl, ?_, ?_⟩, ?_⟩
    · intro b off hp
      have hp' : MemPlace.cell b off ∈ before := by rw [hps]; simpa using hp
      rw [hfz _ (hlt _ hp')]
      exact hz b off hp'
    · intro ha
      have := hn ha
      rw [hps] at this
      simpa using this
    · intro p hp _
      rw [hps]
      simpa using hp

theorem frozen_same {W' : World} {a : Addr} (hw : W'.heap[a.block]? = W.heap[a.block]?) : W'.frozen? a = W.frozen? a := by
  simp only [World.frozen?, hw]

/-- A law's function, its contract, its plain law: what the row asks of a call. -/
theorem law_post {f : FuncId} {fn : Func} {ps : List Par} {run : dens (ps.map Par.v) → Res (outs Bool (boxes ps))} {s : ChangeSpec} {apart fresh handsOn again : Bool} {tb : TypeId}
    (hct : Contract P ⟨f, ps, [(false, .frz .bool)], run⟩) (hck : chkPars P fn.params.toList ps = true) (hN : N ≤ 2 ^ 20) (hvars : s.vars = []) (hrt : fn.resultTypes = #[tb]) (htb : P.underlying tb = some .bool)
    (hspec : ∀ ds : List (DataW H), ds.length = fn.params.toList.length → s.fn H ds = { results := [.lit (.bool true)], args := ds })
    (hlaw : ∀ x, smalls N (ps.map Par.v) x → (run x).sat fun y => outFst (boxes ps) y = true)
    (S : Sm N sm) {base : Nat} {args : Array Value} {ds gs : List (DataW H)} {before : List MemPlace}
    (hval : ∀ (j : Nat) t v, fn.params[j]? = some t → args[j]? = some v → Value.okWide P W .any base t v)
    (hW : DataW.Whole enc P fn.params.toList s.vars apart W args.toList ds gs before) (hsm : ∀ d ∈ ds, sm d) :
    Calls P f args W fun e W' => ∃ v, e = .returned v ∧ s.post enc P fn apart fresh handsOn again W args v W' := by
  have hW' := hW
  obtain ⟨p, q, hA, hV, hpq, _, _⟩ := hW
  rw [hvars] at hV
  obtain ⟨hgs, hq⟩ := trodVars_none hV
  obtain ⟨x, hx, hxs⟩ := vals_of_trod S hN hA (fun j t v ht hv => hval j t v (by simpa using ht) (by simpa using hv)) hck hsm
  have hlen : ds.length = fn.params.toList.length := by
    have : ∀ {ts : List TypeId} {vs : List Value} {ds : List (DataW H)} {ps : List MemPlace}, DataW.TrodAll enc P W 0 (fun _ => true) true ts vs ds ps → ds.length = ts.length := by
      intro ts
      induction ts with
      | nil => intro vs ds ps h; obtain ⟨_, rfl, _⟩ := trodAll_nil h; rfl
      | cons t ts ih => intro vs ds ps h; obtain ⟨_, _, _, _, _, _, _, rfl, _, _, h2⟩ := trodAll_cons h; simp [ih h2]
    exact this hA
  have hsp := hspec ds hlen
  have hcall := hct.run W (Old W) (fun _ => False) (fun _ => False) args.toList x _ (hlaw x hxs) (fun _ h => h) (fun _ h => h.elim) (fun _ h => h.elim) hx
  have harr : args.toList.toArray = args := by simp
  rw [harr] at hcall
  refine hcall.mono ?_
  rintro e W' ⟨y, v, vals, Z', S1, S2, rfl, hy, hret, hv1, _, _, _, _, _, hsz, hkeep, hio⟩
  have hkeep' : ∀ b, b < W.heap.size → W'.heap[b]? = W.heap[b]? := fun b hb => hkeep b hb fun h => h
  have hvb : v = .bool true := by
    obtain ⟨v', rfl, us, hf, _, hsr⟩ := hv1
    have hret : [v'] = [v] := hret
    cases hret
    have hf : us = [v] := hf
    have hsr : us = [.bool (outFst (boxes ps) y)] := hsr
    rw [hf, hy] at hsr
    simpa using hsr
  subst hvb
  refine ⟨_, rfl, post_of_same_old (pa := p) (pv := q) hW' ?_ ?_ ?_ hpq ⟨hio.1, hio.2, fun i hi => ?_⟩ (fun a ha => frozen_same (hkeep' _ ha)) (ok_one hrt rfl (okWide_bool_mk htb _))⟩
  · intro b sp hd
    rw [hgs, List.append_nil, hsp, hrt]
    exact trodAll_mk1 (shut_bool htb _)
  · intro sp hsp'
    rw [hgs, List.append_nil, hsp]
    exact trodAll_again hkeep' hA hck fun p hp => hsp' p (by rw [hpq]; exact List.mem_append_left _ hp)
  · intro sp _
    rw [hgs, List.append_nil, hsp, hvars, hq]
    rfl
  · rw [hkeep' i hi]
    split <;> simp_all
end
end Go.Mach

/-
  Mach: reasoning about results.
-/
namespace Go.Mach
namespace Res
variable {α β γ : Type} {Q : β → Prop}

theorem law_ok {Q : α → Prop} {a : α} (h : Q a) : (Res.ok a).sat Q := h
theorem law_mono {Q Q' : α → Prop} {m : Res α} (h : m.sat Q) (hq : ∀ a, Q a → Q' a) : m.sat Q' := by
  cases m <;> simp_all [sat]
theorem law_bind {m : Res α} {k : α → Res β} (h : m.sat fun a => (k a).sat Q) : (m.bind k).sat Q := by
  cases m <;> simp_all [sat, bind]
theorem law_bind' {m : Res α} {k : α → Res β} {R : α → Prop} (h : m.sat R) (hk : ∀ a, R a → (k a).sat Q) : (m.bind k).sat Q := law_bind (law_mono h hk)
theorem law_bind_eq {m : Res α} {k : α → Res β} {a : α} (h : m.sat (· = a)) (hk : (k a).sat Q) : (m.bind k).sat Q := law_bind' h fun _ e => e ▸ hk
theorem law_given {b : Bool} {k : Res β} (h : b = true → k.sat Q) : (given b k).sat Q := by
  cases b <;> simp_all [sat, given]
theorem law_need {b : Bool} {k : Res β} (hb : b = true) (h : k.sat Q) : (need b k).sat Q := by
  subst hb; exact h
theorem law_br {b : Bool} {x y : Res β} (h1 : b = true → x.sat Q) (h2 : b = false → y.sat Q) : (br b x y).sat Q := by
  cases b <;> simp_all [br]
theorem law_idx {t : Ty} {xs : List t.den} {i : Int} {k : t.den → Res β} (h0 : 0 ≤ i) (h1 : i.toNat < xs.length) (h : ∀ x, xs[i.toNat]? = some x → t.ok x = true → (k x).sat Q) : (idx t xs i k).sat Q := by
  unfold idx
  rw [decide_eq_true h0, List.getElem?_eq_getElem h1]
  exact law_given fun hk => h _ (List.getElem?_eq_getElem h1) hk
theorem law_idxS {s : Sh} {xs : List s.den} {i : Int} {k : s.den → Res β} (h0 : 0 ≤ i) (h1 : i.toNat < xs.length) (h : ∀ x, xs[i.toNat]? = some x → s.ok x = true → (k x).sat Q) : (idxS s xs i k).sat Q := by
  unfold idxS
  rw [decide_eq_true h0, List.getElem?_eq_getElem h1]
  exact law_given fun hk => h _ (List.getElem?_eq_getElem h1) hk

/-- A loop: I: what holds at its head, with a number that falls. -/
theorem law_loop {f : α → Res (Step α β)} (I : Nat → α → Prop) (h : ∀ k a, I k a → (f a).sat fun
      | .next a' => ∃ k', k' < k ∧ I k' a'
      | .done b => Q b) : ∀ (n k : Nat) (a : α), k < n → I k a → (loop f n a).sat Q
  | 0, _, _, hk, _ => by omega
  | n + 1, k, a, hk, hI => by
    unfold loop
    refine law_bind' (h k a hI) fun s hs => ?_
    cases s with
    | next a' =>
      obtain ⟨k', h1, h2⟩ := hs
      exact law_loop I h n k' a' (by omega) h2
    | done b => exact hs

/-- A loop over i up to n: I at i. -/
theorem law_for {f : α → Res (Step α β)} (ix : α → Int) (n : Nat) (hn : n < 2 ^ 69) (I : α → Prop) {a : α} (ha : I a) (hix : ∀ a, I a → 0 ≤ ix a ∧ ix a ≤ n)
    (h : ∀ a, I a → (f a).sat fun
      | .next a' => ix a' = ix a + 1 ∧ I a'
      | .done b => Q b) : (loop f fuel a).sat Q := by
  refine law_loop (fun k a => I a ∧ k = n - (ix a).toNat) (fun k a ⟨hI, hk⟩ => ?_) _ (n - (ix a).toNat) a (Nat.lt_of_le_of_lt (Nat.sub_le _ _) (Nat.lt_trans hn (by decide))) ⟨ha, rfl⟩
  refine law_mono (h a hI) fun s hs => ?_
  cases s with
  | next a' =>
    obtain ⟨h1, h2⟩ := hs
    have h3 := hix a hI
    have h4 := hix a' h2
    exact ⟨_, by omega, h2, rfl⟩
  | done b => exact hs
end Res

theorem wrap64 {n : Int} (h : -9223372036854775808 ≤ n ∧ n < 9223372036854775808) : IntKind.wrap .i64 n = n := by
  simp [IntKind.wrap, IntKind.signed, IntKind.bits]
  omega
theorem ilt_true {a b : Int} : (ilt a b = true) = (a < b) := by simp [ilt]
theorem ile_true {a b : Int} : (ile a b = true) = (a ≤ b) := by simp [ile]
theorem ilt_false {a b : Int} : (ilt a b = false) = (b ≤ a) := by simp [ilt]
theorem ile_false {a b : Int} : (ile a b = false) = (b < a) := by simp [ile]
theorem minI_eq (x y : Int) : minI x y = min x y := by unfold minI; split <;> omega
theorem maxI_eq (x y : Int) : maxI x y = max x y := by unfold maxI; split <;> omega
theorem idx0 (i : Int) : ((0 : Int) + (i.toNat : Int)).toNat = i.toNat := by omega
theorem range64 {n : Int} : (inRange .i64 n = true) = (-9223372036854775808 ≤ n ∧ n < 9223372036854775808) := by
  simp [inRange, IntKind.wrap, IntKind.signed, IntKind.bits]
  omega
theorem set_self {α : Type} {xs : List α} {i : Nat} {x : α} (h : xs[i]? = some x) : xs.set i x = xs := by
  apply List.ext_getElem?
  intro j
  rw [List.getElem?_set]
  split
  · subst_vars; split
    · exact h.symm
    · rename_i hl; rw [List.getElem?_eq_none (by omega)]
  · rfl
end Go.Mach
namespace Go.Mach
namespace Res
variable {α β : Type} {Q : β → Prop}
theorem law_bind_iff {m : Res α} {k : α → Res β} : (m.bind k).sat Q = m.sat fun a => (k a).sat Q := by cases m <;> rfl
theorem law_given_iff {b : Bool} {k : Res β} : (given b k).sat Q = (b = true → k.sat Q) := by cases b <;> simp [given, sat]
theorem law_need_iff {b : Bool} {k : Res β} : (need b k).sat Q = (b = true ∧ k.sat Q) := by cases b <;> simp [need, sat]
theorem law_br_iff {b : Bool} {x y : Res β} : (br b x y).sat Q = ((b = true → x.sat Q) ∧ (b = false → y.sat Q)) := by cases b <;> simp [br]
theorem law_ok_iff {Q : α → Prop} {a : α} : (Res.ok a).sat Q = Q a := rfl
theorem law_idx_iff {t : Ty} {xs : List t.den} {i : Int} {k : t.den → Res β} : (idx t xs i k).sat Q = (0 ≤ i ∧ ∃ x, xs[i.toNat]? = some x ∧ (t.ok x = true → (k x).sat Q)) := by
  unfold idx
  by_cases h : 0 ≤ i
  · rw [decide_eq_true h]
    cases hx : xs[i.toNat]? with
    | none => simp [sat]
    | some x => simp only [law_given_iff]; simp [h]
  · rw [decide_eq_false h]
    simp [h, sat]
theorem law_idxS_iff {s : Sh} {xs : List s.den} {i : Int} {k : s.den → Res β} : (idxS s xs i k).sat Q = (0 ≤ i ∧ ∃ x, xs[i.toNat]? = some x ∧ (s.ok x = true → (k x).sat Q)) := by
  unfold idxS
  by_cases h : 0 ≤ i
  · rw [decide_eq_true h]
    cases hx : xs[i.toNat]? with
    | none => simp [sat]
    | some x => simp only [law_given_iff]; simp [h]
  · rw [decide_eq_false h]
    simp [h, sat]
theorem law_sum_iff {γ δ : Type} {x : γ ⊕ δ} {f : γ → Res β} {g : δ → Res β} : (sum x f g).sat Q = match x with | .inl a => (f a).sat Q | .inr c => (g c).sat Q := by cases x <;> rfl
theorem law_t {b : Bool} {x y : Res β} (h : b = true) (hx : x.sat Q) : (br b x y).sat Q := by subst h; exact hx
theorem law_f {b : Bool} {x y : Res β} (h : b = false) (hx : y.sat Q) : (br b x y).sat Q := by subst h; exact hx
theorem law_bind_ok {m : Res α} {k : α → Res β} {a : α} (h : m = .ok a) (hk : (k a).sat Q) : (m.bind k).sat Q := by subst h; exact hk
theorem law_inl {γ δ : Type} {a : γ} {f : γ → Res β} {g : δ → Res β} (h : (f a).sat Q) : (sum (.inl a) f g).sat Q := h
theorem law_inr {γ δ : Type} {a : δ} {f : γ → Res β} {g : δ → Res β} (h : (g a).sat Q) : (sum (.inr a) f g).sat Q := h
theorem law_call {Q : α → Prop} {m : Res α} {a : α} (h : m.sat (· = a)) (hq : Q a) : m.sat Q := law_mono h fun _ e => e ▸ hq
end Res
end Go.Mach
