import PyProof.Rows.All
import HandS.ForMost
import HandS.Evl
import HandS.Walk
import HandS.Zip
import HandS.Style
import HandS.Star
import HandS.TupAny
import HandS.Conv
import HandS.IsInst
import HandS.Codes
import HandS.Defaults
import HandS.Deep
import HandS.SetFor
import HandS.TupSets
import KE.SortData
import KE.DataMinMax
import KE.DatumOrd
import KE.GoesNew
import PyProof.P3In
import PyProof.ReprRoads
import PyProof.Transfer
import Wide.All
import OpenK.AllK
import Wide.FinOn
import KE.KStateDown
import Lean
import HandS.Head0
import HandS.Head1
import HandS.Head2
import HandS.HeadEnd
import HandS.HeadHook1
import HandS.HeadHook2
import HandS.HeadHook3
import HandS.HeadHook4
import PySem.Challenge.RW_givesifgets_k32_whole_one_pair_one_perso
import PyProof.Rows.RegFStrParts
/-! ### K1 -/
set_option Elab.async false
set_option linter.all false
/-! Plans of pairs, the greedy lot, exchange: plain lists, no program. -/
namespace KM
abbrev Pr := Nat × Nat
def verts (p : List Pr) : List Nat := p.flatMap fun e => [e.1, e.2]
theorem verts_nil : verts [] = [] := rfl
theorem verts_cons (e : Pr) (p : List Pr) : verts (e :: p) = e.1 :: e.2 :: verts p := rfl
theorem verts_app (p q : List Pr) : verts (p ++ q) = verts p ++ verts q := by simp [verts]
theorem mem_verts {v : Nat} {p : List Pr} : v ∈ verts p ↔ ∃ e ∈ p, v = e.1 ∨ v = e.2 := by
  simp [verts]
def IsPlan (ps p : List Pr) : Prop := (∀ e ∈ p, e ∈ ps) ∧ (verts p).Nodup
def Servable (ps : List Pr) (S : List Nat) : Prop := ∃ p, IsPlan ps p ∧ ∀ v ∈ S, v ∈ verts p
theorem isPlan_nil (ps : List Pr) : IsPlan ps [] := ⟨fun _ h => by simp at h, by simp [verts]⟩
theorem Servable.sub {ps : List Pr} {S T : List Nat} (h : Servable ps S) (hs : ∀ v ∈ T, v ∈ S) : Servable ps T := by
  obtain ⟨p, hp, hq⟩ := h
  exact ⟨p, hp, fun v hv => hq v (hs v hv)⟩
theorem Servable.mono {ps qs : List Pr} {S : List Nat} (h : Servable ps S) (hs : ∀ e ∈ ps, e ∈ qs) : Servable qs S := by
  obtain ⟨p, hp, hq⟩ := h
  exact ⟨p, ⟨fun e he => hs e (hp.1 e he), hp.2⟩, hq⟩
theorem verts_perm {p q : List Pr} (h : p.Perm q) : (verts p).Perm (verts q) := by
  unfold verts
  exact List.Perm.flatMap_right _ h
theorem IsPlan.perm {ps p q : List Pr} (h : IsPlan ps p) (e : p.Perm q) : IsPlan ps q :=
  ⟨fun x hx => h.1 x (e.mem_iff.mpr hx), (verts_perm e).nodup_iff.mp h.2⟩

open Classical in
noncomputable def kstep (ps : List Pr) (k : List Nat) (x : Nat) : List Nat := if Servable ps (k ++ [x]) then k ++ [x] else k
noncomputable def keptBy (ps : List Pr) (ord : List Nat) : List Nat := ord.foldl (kstep ps) []
theorem keptBy_snoc (ps : List Pr) (ord : List Nat) (x : Nat) : keptBy ps (ord ++ [x]) = kstep ps (keptBy ps ord) x := by
  simp [keptBy, List.foldl_append]
theorem keptBy_nil (ps : List Pr) : keptBy ps [] = [] := rfl
theorem kstep_yes {ps : List Pr} {k : List Nat} {x : Nat} (h : Servable ps (k ++ [x])) : kstep ps k x = k ++ [x] := if_pos h
theorem kstep_no {ps : List Pr} {k : List Nat} {x : Nat} (h : ¬ Servable ps (k ++ [x])) : kstep ps k x = k := if_neg h
theorem snoc_ind {P : List Nat → Prop} (h0 : P []) (h1 : ∀ l x, P l → P (l ++ [x])) (l : List Nat) : P l := by
  have : ∀ r : List Nat, P r.reverse := by
    intro r
    induction r with
    | nil => simpa using h0
    | cons a r ih => simpa using h1 _ a ih
  simpa using this l.reverse
theorem kept_servable (ps : List Pr) (ord : List Nat) : Servable ps (keptBy ps ord) := by
  induction ord using snoc_ind with
  | h0 => exact ⟨[], isPlan_nil ps, fun v hv => by simp [keptBy] at hv⟩
  | h1 l x ih =>
    rw [keptBy_snoc]
    by_cases h : Servable ps (keptBy ps l ++ [x])
    · rw [kstep_yes h]; exact h
    · rw [kstep_no h]; exact ih
theorem kept_sublist (ps : List Pr) (ord : List Nat) : (keptBy ps ord).Sublist ord := by
  induction ord using snoc_ind with
  | h0 => exact List.Sublist.refl _
  | h1 l x ih =>
    rw [keptBy_snoc]
    by_cases h : Servable ps (keptBy ps l ++ [x])
    · rw [kstep_yes h]; exact ih.append (List.Sublist.refl _)
    · rw [kstep_no h]; exact ih.trans (List.sublist_append_left _ _)
theorem kept_mem_ord {ps : List Pr} {ord : List Nat} {v : Nat} (h : v ∈ keptBy ps ord) : v ∈ ord := (kept_sublist ps ord).subset h
theorem kept_nodup {ps : List Pr} {ord : List Nat} (h : ord.Nodup) : (keptBy ps ord).Nodup := (kept_sublist ps ord).nodup h
theorem kept_prefix (ps : List Pr) (pre post : List Nat) : ∀ v ∈ keptBy ps pre, v ∈ keptBy ps (pre ++ post) := by
  induction post using snoc_ind with
  | h0 => simp
  | h1 l x ih =>
    intro v hv
    rw [← List.append_assoc, keptBy_snoc]
    by_cases h : Servable ps (keptBy ps (pre ++ l) ++ [x])
    · rw [kstep_yes h]; exact List.mem_append_left _ (ih v hv)
    · rw [kstep_no h]; exact ih v hv
/-- whoever is left out can't be added to those kept ahead of him -/
theorem kept_left {ps : List Pr} {pre post : List Nat} {f : Nat} (hf : f ∉ keptBy ps (pre ++ f :: post)) : ¬ Servable ps (keptBy ps pre ++ [f]) := by
  intro h
  apply hf
  have : pre ++ f :: post = (pre ++ [f]) ++ post := by simp
  rw [this]
  apply kept_prefix
  rw [keptBy_snoc, kstep_yes h]
  simp
/-- F2: the first one whom just one of a plan and the kept lot has is kept -/
theorem kept_first {ps p : List Pr} {pre post : List Nat} {f : Nat} (hp : IsPlan ps p)
    (hag : ∀ y ∈ pre, y ∈ keptBy ps (pre ++ f :: post) → y ∈ verts p) (hf : f ∈ verts p) : f ∈ keptBy ps (pre ++ f :: post) := by
  apply Classical.byContradiction
  intro hn
  apply kept_left hn
  refine ⟨p, hp, fun v hv => ?_⟩
  rcases List.mem_append.mp hv with hv | hv
  · exact hag v (kept_mem_ord hv) (kept_prefix _ _ _ v hv)
  · rw [List.mem_singleton.mp hv]; exact hf
theorem split_first {l : List Nat} {Q : Nat → Prop} (h : ∃ x ∈ l, Q x) : ∃ pre f post, l = pre ++ f :: post ∧ Q f ∧ ∀ y ∈ pre, ¬ Q y := by
  induction l with
  | nil => obtain ⟨x, hx, _⟩ := h; simp at hx
  | cons a l ih =>
    by_cases ha : Q a
    · exact ⟨[], a, l, rfl, ha, by simp⟩
    · have : ∃ x ∈ l, Q x := by
        obtain ⟨x, hx, hq⟩ := h
        rcases List.mem_cons.mp hx with e | hx
        · rw [e] at hq; exact absurd hq ha
        · exact ⟨x, hx, hq⟩
      obtain ⟨pre, f, post, e, hf, hy⟩ := ih this
      refine ⟨a :: pre, f, post, by rw [e]; rfl, hf, fun y hy' => ?_⟩
      rcases List.mem_cons.mp hy' with e' | h'
      · rw [e']; exact ha
      · exact hy y h'
/-- F1: a plan that serves all kept ones serves of the order just these -/
theorem kept_exact {ps p : List Pr} {ord : List Nat} (hp : IsPlan ps p) (h : ∀ v ∈ keptBy ps ord, v ∈ verts p) {v : Nat} (hv : v ∈ ord) (hw : v ∈ verts p) : v ∈ keptBy ps ord := by
  apply Classical.byContradiction
  intro hn
  obtain ⟨pre, post, e⟩ := List.append_of_mem hv
  rw [e] at hn h
  exact hn (kept_first hp (fun y _ hy => h y hy) hw)
/-! ### exchange -/
/-- a set of people that is closed under the pairs of a plan -/
def Closed (p : List Pr) (P : Nat → Bool) : Prop := ∀ e ∈ p, P e.1 = P e.2
def swapIn (P : Nat → Bool) (p q : List Pr) : List Pr := q.filter (fun e => P e.1) ++ p.filter (fun e => !P e.1)
theorem mem_swap {P : Nat → Bool} {p q : List Pr} (hp : Closed p P) (hq : Closed q P) (v : Nat) : v ∈ verts (swapIn P p q) ↔ if P v then v ∈ verts q else v ∈ verts p := by
  unfold swapIn
  rw [verts_app, List.mem_append]
  simp only [mem_verts, List.mem_filter]
  constructor
  · rintro (⟨e, ⟨he, h1⟩, h2⟩ | ⟨e, ⟨he, h1⟩, h2⟩)
    · have : P v = true := by
        rcases h2 with rfl | rfl
        · exact h1
        · rw [← hq e he]; exact h1
      rw [if_pos this]; exact ⟨e, he, h2⟩
    · have : P v = false := by
        rcases h2 with rfl | rfl
        · simpa using h1
        · rw [← hp e he]; simpa using h1
      rw [if_neg (by simp [this])]; exact ⟨e, he, h2⟩
  · intro h
    by_cases hv : P v = true
    · rw [if_pos hv] at h
      obtain ⟨e, he, h2⟩ := h
      refine Or.inl ⟨e, ⟨he, ?_⟩, h2⟩
      rcases h2 with rfl | rfl
      · exact hv
      · rw [hq e he]; exact hv
    · rw [if_neg hv] at h
      obtain ⟨e, he, h2⟩ := h
      refine Or.inr ⟨e, ⟨he, ?_⟩, h2⟩
      rcases h2 with rfl | rfl
      · simpa using hv
      · rw [hp e he]; simpa using hv
theorem verts_filter_sub {p : List Pr} (f : Pr → Bool) : (verts (p.filter f)).Sublist (verts p) := by
  induction p with
  | nil => simp [verts]
  | cons e p ih =>
    rw [List.filter_cons]
    split
    · rw [verts_cons, verts_cons]; exact (ih.cons_cons _).cons_cons _
    · rw [verts_cons]; exact (ih.cons _).cons _
theorem swap_nodup {P : Nat → Bool} {p q : List Pr} (hp : Closed p P) (hq : Closed q P) (np : (verts p).Nodup) (nq : (verts q).Nodup) : (verts (swapIn P p q)).Nodup := by
  unfold swapIn
  rw [verts_app, List.nodup_append]
  refine ⟨(verts_filter_sub _).nodup nq, (verts_filter_sub _).nodup np, ?_⟩
  rintro a ha b hb rfl
  obtain ⟨e, he, h1⟩ := mem_verts.mp ha
  obtain ⟨d, hd, h2⟩ := mem_verts.mp hb
  rw [List.mem_filter] at he hd
  have : P a = true := by
    rcases h1 with rfl | rfl
    · exact he.2
    · rw [← hq e he.1]; exact he.2
  have : P a = false := by
    rcases h2 with rfl | rfl
    · simpa using hd.2
    · rw [← hp d hd.1]; simpa using hd.2
  simp_all
theorem swap_plan {ps qs : List Pr} {P : Nat → Bool} {p q : List Pr} (hp : Closed p P) (hq : Closed q P) (ip : IsPlan ps p) (iq : IsPlan qs q)
    (hin : ∀ e ∈ q, P e.1 = true → P e.2 = true → e ∈ qs → e ∈ ps) : IsPlan ps (swapIn P p q) := by
  refine ⟨fun e he => ?_, swap_nodup hp hq ip.2 iq.2⟩
  unfold swapIn at he
  rcases List.mem_append.mp he with he | he
  · rw [List.mem_filter] at he
    exact hin e he.1 he.2 (by rw [← hq e he.1]; exact he.2) (iq.1 e he.1)
  · rw [List.mem_filter] at he
    exact ip.1 e he.1
/-- one pair at the front -/
theorem front {p : List Pr} {e : Pr} (he : e ∈ p) : ∃ r, p.Perm (e :: r) := ⟨p.erase e, List.perm_cons_erase he⟩
theorem Closed.perm {p q : List Pr} {P : Nat → Bool} (h : p.Perm q) (c : Closed q P) : Closed p P := fun e he => c e (h.mem_iff.mp he)
theorem exch (k : Nat) : ∀ (p q : List Pr) (x : Nat), q.length ≤ k → (verts p).Nodup → (verts q).Nodup → x ∈ verts q → x ∉ verts p →
    ∃ (y : Nat) (P : Nat → Bool), P x = true ∧ P y = true ∧ x ≠ y ∧ Closed p P ∧ Closed q P ∧ ¬ (y ∈ verts p ↔ y ∈ verts q) ∧ ∀ v, P v = true → v ≠ x → v ≠ y → v ∈ verts p ∧ v ∈ verts q := by
  induction k with
  | zero =>
    intro p q x hk _ _ hx _
    have : q = [] := List.length_eq_zero_iff.mp (Nat.le_zero.mp hk)
    rw [this] at hx; simp [verts] at hx
  | succ k ih =>
    intro p q x hk np nq hx hxp
    obtain ⟨e, he, hxe⟩ := mem_verts.mp hx
    obtain ⟨r, hr⟩ := front he
    obtain ⟨x1, hx1, hcl⟩ : ∃ x1, (verts q).Perm (x :: x1 :: verts r) ∧ ∀ P : Nat → Bool, P x = P x1 → P e.1 = P e.2 := by
      rcases hxe with h | h
      · exact ⟨e.2, by rw [h]; exact verts_perm hr, fun P h' => by rw [← h]; exact h'⟩
      · exact ⟨e.1, by rw [h]; exact (verts_perm hr).trans (List.Perm.swap _ _ _), fun P h' => by rw [← h]; exact h'.symm⟩
    have nq1 := hx1.nodup_iff.mp nq
    have mq : ∀ v, v ∈ verts q ↔ v = x ∨ v = x1 ∨ v ∈ verts r := fun v => by rw [hx1.mem_iff]; simp
    have hne : x ≠ x1 := by intro h; rw [h] at nq1; simp at nq1
    have hxr : x ∉ verts r := by intro h; simp [h] at nq1
    have hx1r : x1 ∉ verts r := by intro h; simp [h] at nq1
    have nr : (verts r).Nodup := by simp at nq1; exact nq1.2.2
    have rlen : r.length ≤ k := by have := hr.length_eq; simp at this; omega
    have edge : ∀ (l : List Pr) (d : Pr), d ∈ l → d.1 ∈ verts l ∧ d.2 ∈ verts l := fun l d hd => ⟨mem_verts.mpr ⟨d, hd, .inl rfl⟩, mem_verts.mpr ⟨d, hd, .inr rfl⟩⟩
    by_cases h1 : x1 ∈ verts p
    · obtain ⟨e2, he2, hxe2⟩ := mem_verts.mp h1
      obtain ⟨t, ht⟩ := front he2
      obtain ⟨x2, hx2, hcl2⟩ : ∃ x2, (verts p).Perm (x1 :: x2 :: verts t) ∧ ∀ P : Nat → Bool, P x1 = P x2 → P e2.1 = P e2.2 := by
        rcases hxe2 with h | h
        · exact ⟨e2.2, by rw [h]; exact verts_perm ht, fun P h' => by rw [← h]; exact h'⟩
        · exact ⟨e2.1, by rw [h]; exact (verts_perm ht).trans (List.Perm.swap _ _ _), fun P h' => by rw [← h]; exact h'.symm⟩
      have np1 := hx2.nodup_iff.mp np
      have mp : ∀ v, v ∈ verts p ↔ v = x1 ∨ v = x2 ∨ v ∈ verts t := fun v => by rw [hx2.mem_iff]; simp
      have hne2 : x1 ≠ x2 := by intro h; rw [h] at np1; simp at np1
      have hx1t : x1 ∉ verts t := by intro h; simp [h] at np1
      have hx2t : x2 ∉ verts t := by intro h; simp [h] at np1
      have nt : (verts t).Nodup := by simp at np1; exact np1.2.2
      have hxx2 : x ≠ x2 := by intro h; exact hxp ((mp x).mpr (.inr (.inl h)))
      have hxt : x ∉ verts t := by intro h; exact hxp ((mp x).mpr (.inr (.inr h)))
      by_cases h2 : x2 ∈ verts r
      · obtain ⟨y, P, hPx, hPy, hxy, cp, cq, hy, hall⟩ := ih t r x2 rlen nt nr h2 hx2t
        have hnx : P x = false := by
          cases hP : P x with
          | false => rfl
          | true =>
            by_cases hxy' : x = y
            · rw [← hxy'] at hy; exact absurd (iff_of_false hxt hxr) hy
            · exact absurd (hall x hP hxx2 hxy').1 hxt
        have hnx1 : P x1 = false := by
          cases hP : P x1 with
          | false => rfl
          | true =>
            by_cases hxy' : x1 = y
            · rw [← hxy'] at hy; exact absurd (iff_of_false hx1t hx1r) hy
            · exact absurd (hall x1 hP hne2 hxy').1 hx1t
        have hyx : y ≠ x := by intro h; rw [h, hnx] at hPy; exact absurd hPy (by simp)
        have hyx1 : y ≠ x1 := by intro h; rw [h, hnx1] at hPy; exact absurd hPy (by simp)
        refine ⟨y, fun v => P v || decide (v = x) || decide (v = x1), by simp, by simp [hPy], hyx.symm, ?_, ?_, ?_, ?_⟩
        · refine Closed.perm ht (fun d hd => ?_)
          rcases List.mem_cons.mp hd with rfl | hd
          · exact hcl2 (fun v => P v || decide (v = x) || decide (v = x1)) (by simp [hPx])
          · have h3 := edge t d hd
            have a1 : d.1 ≠ x := fun h => hxt (h ▸ h3.1)
            have a2 : d.1 ≠ x1 := fun h => hx1t (h ▸ h3.1)
            have a3 : d.2 ≠ x := fun h => hxt (h ▸ h3.2)
            have a4 : d.2 ≠ x1 := fun h => hx1t (h ▸ h3.2)
            simp only [a1, a2, a3, a4, cp d hd, decide_false, Bool.or_false]
        · refine Closed.perm hr (fun d hd => ?_)
          rcases List.mem_cons.mp hd with rfl | hd
          · exact hcl (fun v => P v || decide (v = x) || decide (v = x1)) (by simp)
          · have h3 := edge r d hd
            have a1 : d.1 ≠ x := fun h => hxr (h ▸ h3.1)
            have a2 : d.1 ≠ x1 := fun h => hx1r (h ▸ h3.1)
            have a3 : d.2 ≠ x := fun h => hxr (h ▸ h3.2)
            have a4 : d.2 ≠ x1 := fun h => hx1r (h ▸ h3.2)
            simp only [a1, a2, a3, a4, cq d hd, decide_false, Bool.or_false]
        · intro h
          apply hy
          have b1 : y ∈ verts p ↔ y ∈ verts t := by rw [mp]; simp [hyx1, hxy.symm]
          have b2 : y ∈ verts q ↔ y ∈ verts r := by rw [mq]; simp [hyx1, hyx]
          rw [← b1, ← b2]; exact h
        · intro v hv hvx hvy
          by_cases e1 : v = x1
          · rw [e1]; exact ⟨h1, (mq x1).mpr (.inr (.inl rfl))⟩
          · by_cases e2 : v = x2
            · rw [e2]; exact ⟨(mp x2).mpr (.inr (.inl rfl)), (mq x2).mpr (.inr (.inr h2))⟩
            · have hv' : P v = true := by simpa [hvx, e1] using hv
              have := hall v hv' e2 hvy
              exact ⟨(mp v).mpr (.inr (.inr this.1)), (mq v).mpr (.inr (.inr this.2))⟩
      · have h2q : x2 ∉ verts q := by rw [mq]; simp [hxx2.symm, hne2.symm, h2]
        refine ⟨x2, fun v => decide (v = x) || decide (v = x1) || decide (v = x2), by simp, by simp, hxx2, ?_, ?_, ?_, ?_⟩
        · refine Closed.perm ht (fun d hd => ?_)
          rcases List.mem_cons.mp hd with rfl | hd
          · exact hcl2 (fun v => decide (v = x) || decide (v = x1) || decide (v = x2)) (by simp)
          · have h3 := edge t d hd
            have a1 : d.1 ≠ x := fun h => hxt (h ▸ h3.1)
            have a2 : d.1 ≠ x1 := fun h => hx1t (h ▸ h3.1)
            have a3 : d.2 ≠ x := fun h => hxt (h ▸ h3.2)
            have a4 : d.2 ≠ x1 := fun h => hx1t (h ▸ h3.2)
            have a5 : d.1 ≠ x2 := fun h => hx2t (h ▸ h3.1)
            have a6 : d.2 ≠ x2 := fun h => hx2t (h ▸ h3.2)
            simp only [a1, a2, a3, a4, a5, a6, decide_false, Bool.or_false]
        · refine Closed.perm hr (fun d hd => ?_)
          rcases List.mem_cons.mp hd with rfl | hd
          · exact hcl (fun v => decide (v = x) || decide (v = x1) || decide (v = x2)) (by simp)
          · have h3 := edge r d hd
            have a1 : d.1 ≠ x := fun h => hxr (h ▸ h3.1)
            have a2 : d.1 ≠ x1 := fun h => hx1r (h ▸ h3.1)
            have a3 : d.2 ≠ x := fun h => hxr (h ▸ h3.2)
            have a4 : d.2 ≠ x1 := fun h => hx1r (h ▸ h3.2)
            have a5 : d.1 ≠ x2 := fun h => h2 (h ▸ h3.1)
            have a6 : d.2 ≠ x2 := fun h => h2 (h ▸ h3.2)
            simp only [a1, a2, a3, a4, a5, a6, decide_false, Bool.or_false]
        · intro h; exact h2q (h.mp ((mp x2).mpr (.inr (.inl rfl))))
        · intro v hv hvx hvy
          have : v = x1 := by simpa [hvx, hvy] using hv
          rw [this]; exact ⟨h1, (mq x1).mpr (.inr (.inl rfl))⟩
    · refine ⟨x1, fun v => decide (v = x) || decide (v = x1), by simp, by simp, hne, ?_, ?_, ?_, ?_⟩
      · intro d hd
        have h3 := edge p d hd
        have a1 : d.1 ≠ x := fun h => hxp (h ▸ h3.1)
        have a2 : d.1 ≠ x1 := fun h => h1 (h ▸ h3.1)
        have a3 : d.2 ≠ x := fun h => hxp (h ▸ h3.2)
        have a4 : d.2 ≠ x1 := fun h => h1 (h ▸ h3.2)
        simp only [a1, a2, a3, a4, decide_false, Bool.or_false]
      · refine Closed.perm hr (fun d hd => ?_)
        rcases List.mem_cons.mp hd with rfl | hd
        · exact hcl (fun v => decide (v = x) || decide (v = x1)) (by simp)
        · have h3 := edge r d hd
          have a1 : d.1 ≠ x := fun h => hxr (h ▸ h3.1)
          have a2 : d.1 ≠ x1 := fun h => hx1r (h ▸ h3.1)
          have a3 : d.2 ≠ x := fun h => hxr (h ▸ h3.2)
          have a4 : d.2 ≠ x1 := fun h => hx1r (h ▸ h3.2)
          simp only [a1, a2, a3, a4, decide_false, Bool.or_false]
      · intro h; exact h1 (h.mpr ((mq x1).mpr (.inr (.inl rfl))))
      · intro v hv hvx hvy
        simp [hvx, hvy] at hv
end KM
/-! ### K2 -/
set_option Elab.async false
set_option linter.all false
/-! What the kept lot does when pairs change. -/
namespace KM
theorem Closed.not {p : List Pr} {P : Nat → Bool} (c : Closed p P) : Closed p (fun v => !P v) := fun e he => by simp [c e he]
theorem Closed.and {p : List Pr} {P R : Nat → Bool} (c : Closed p P) (d : Closed p R) : Closed p (fun v => P v && R v) := fun e he => by simp [c e he, d e he]

/-- two webs over one order, a plan of each for its kept lot -/
structure Two (ps qs : List Pr) (ord : List Nat) (p q : List Pr) : Prop where
  nd : ord.Nodup
  ip : IsPlan ps p
  iq : IsPlan qs q
  hp : ∀ v, v ∈ verts p ↔ v ∈ keptBy ps ord
  hq : ∀ v, v ∈ verts q ↔ v ∈ keptBy qs ord
theorem Two.symm {ps qs : List Pr} {ord : List Nat} {p q : List Pr} (T : Two ps qs ord p q) : Two qs ps ord q p := ⟨T.nd, T.iq, T.ip, T.hq, T.hp⟩
theorem kept_plan {ps : List Pr} {ord : List Nat} (hin : ∀ e ∈ ps, e.1 ∈ ord ∧ e.2 ∈ ord) : ∃ p, IsPlan ps p ∧ ∀ v, v ∈ verts p ↔ v ∈ keptBy ps ord := by
  obtain ⟨p, hp, hs⟩ := kept_servable ps ord
  refine ⟨p, hp, fun v => ⟨fun hv => ?_, hs v⟩⟩
  refine kept_exact hp hs ?_ hv
  obtain ⟨e, he, h⟩ := mem_verts.mp hv
  have := hin e (hp.1 e he)
  rcases h with rfl | rfl
  · exact this.1
  · exact this.2
theorem two_of {ps qs : List Pr} {ord : List Nat} (nd : ord.Nodup) (h1 : ∀ e ∈ ps, e.1 ∈ ord ∧ e.2 ∈ ord) (h2 : ∀ e ∈ qs, e.1 ∈ ord ∧ e.2 ∈ ord) : ∃ p q, Two ps qs ord p q := by
  obtain ⟨p, a, b⟩ := kept_plan h1
  obtain ⟨q, c, d⟩ := kept_plan h2
  exact ⟨p, q, nd, a, c, b, d⟩
/-- one half: swapped at a closed set the first one who differs there is kept by the first web -/
theorem half {ps qs : List Pr} {ord : List Nat} {p q : List Pr} (T : Two ps qs ord p q) {P : Nat → Bool} (cp : Closed p P) (cq : Closed q P)
    (hin : ∀ e ∈ q, P e.1 = true → P e.2 = true → e ∈ qs → e ∈ ps) {pre post : List Nat} {f : Nat} (e : ord = pre ++ f :: post)
    (hP : P f = true) (hd : ¬ (f ∈ keptBy ps ord ↔ f ∈ keptBy qs ord)) (hag : ∀ y ∈ pre, P y = true → (y ∈ keptBy ps ord ↔ y ∈ keptBy qs ord)) : f ∈ keptBy ps ord := by
  apply Classical.byContradiction
  intro hn
  have hf : f ∈ keptBy qs ord := Classical.byContradiction fun h => hd (iff_of_false hn h)
  have ipl := swap_plan cp cq T.ip T.iq hin
  rw [e] at hn
  apply hn
  refine kept_first ipl (fun y hy hk => ?_) ?_
  · rw [mem_swap cp cq, T.hp, T.hq]
    rw [← e] at hk
    split
    · rename_i h; exact (hag y hy h).mp hk
    · exact hk
  · rw [mem_swap cp cq, if_pos hP, T.hq]; exact hf
/-- a set that is closed under both plans and whose pairs are pairs of both webs sees no change -/
theorem no_change {ps qs : List Pr} {ord : List Nat} {p q : List Pr} (T : Two ps qs ord p q) {P : Nat → Bool} (cp : Closed p P) (cq : Closed q P)
    (h1 : ∀ e ∈ q, P e.1 = true → P e.2 = true → e ∈ qs → e ∈ ps) (h2 : ∀ e ∈ p, P e.1 = true → P e.2 = true → e ∈ ps → e ∈ qs) {v : Nat} (hv : P v = true) : v ∈ keptBy ps ord ↔ v ∈ keptBy qs ord := by
  apply Classical.byContradiction
  intro hn
  have hvo : v ∈ ord := by
    by_cases h : v ∈ keptBy ps ord
    · exact kept_mem_ord h
    · exact kept_mem_ord (Classical.byContradiction fun h' => hn (iff_of_false h h'))
  obtain ⟨pre, f, post, e, ⟨hP, hd⟩, hag⟩ := split_first (l := ord) (Q := fun x => P x = true ∧ ¬ (x ∈ keptBy ps ord ↔ x ∈ keptBy qs ord)) ⟨v, hvo, hv, hn⟩
  have hag' : ∀ y ∈ pre, P y = true → (y ∈ keptBy ps ord ↔ y ∈ keptBy qs ord) := fun y hy h => Classical.byContradiction fun h' => hag y hy ⟨h, h'⟩
  have a := half T cp cq h1 e hP hd hag'
  have b := half T.symm cq cp h2 e hP (fun h => hd h.symm) (fun y hy h => (hag' y hy h).symm)
  exact hd (iff_of_true a b)
/-- the two webs have the same pairs but for those at z -/
def AwayFrom (z : Nat) (ps qs : List Pr) : Prop := ∀ e : Pr, e.1 ≠ z → e.2 ≠ z → (e ∈ ps ↔ e ∈ qs)
theorem AwayFrom.symm {z : Nat} {ps qs : List Pr} (h : AwayFrom z ps qs) : AwayFrom z qs ps := fun e a b => (h e a b).symm
theorem no_change_off {ps qs : List Pr} {ord : List Nat} {p q : List Pr} (T : Two ps qs ord p q) {z : Nat} (hz : AwayFrom z ps qs) {P : Nat → Bool} (cp : Closed p P) (cq : Closed q P)
    (hPz : P z = false) {v : Nat} (hv : P v = true) : v ∈ keptBy ps ord ↔ v ∈ keptBy qs ord := by
  have ne : ∀ x, P x = true → x ≠ z := fun x h e => by rw [e, hPz] at h; exact absurd h (by simp)
  exact no_change T cp cq (fun e _ a b h => (hz e (ne _ a) (ne _ b)).mpr h) (fun e _ a b h => (hz e (ne _ a) (ne _ b)).mp h) hv
/-- if anybody comes or goes by the pairs of one person, then just two do -/
theorem just_two {ps qs : List Pr} {ord : List Nat} {p q : List Pr} (T : Two ps qs ord p q) {z : Nat} (hz : AwayFrom z ps qs) {x : Nat} (hx : ¬ (x ∈ keptBy ps ord ↔ x ∈ keptBy qs ord)) :
    ∃ y, x ≠ y ∧ ¬ (y ∈ keptBy ps ord ↔ y ∈ keptBy qs ord) ∧ (∀ v, ¬ (v ∈ keptBy ps ord ↔ v ∈ keptBy qs ord) → v = x ∨ v = y) ∧ (z ∈ keptBy ps ord ∨ z ∈ keptBy qs ord) := by
  have main : ∀ {ps qs : List Pr} {p q : List Pr}, Two ps qs ord p q → AwayFrom z ps qs → x ∈ keptBy qs ord → x ∉ keptBy ps ord →
      ∃ y, x ≠ y ∧ ¬ (y ∈ keptBy ps ord ↔ y ∈ keptBy qs ord) ∧ (∀ v, ¬ (v ∈ keptBy ps ord ↔ v ∈ keptBy qs ord) → v = x ∨ v = y) ∧ (z ∈ keptBy ps ord ∨ z ∈ keptBy qs ord) := by
    intro ps qs p q T hz h1 h2
    obtain ⟨y, P, hPx, hPy, hxy, cp, cq, hy, hall⟩ := exch q.length p q x (Nat.le_refl _) T.ip.2 T.iq.2 ((T.hq x).mpr h1) (fun h => h2 ((T.hp x).mp h))
    have hdx : ¬ (x ∈ keptBy ps ord ↔ x ∈ keptBy qs ord) := fun h => h2 (h.mpr h1)
    have hPz : P z = true := by
      cases h : P z with
      | true => rfl
      | false => exact absurd (no_change_off T hz cp cq h hPx) hdx
    refine ⟨y, hxy, fun h => hy (by rw [T.hp, T.hq]; exact h), fun v hv => ?_, ?_⟩
    · cases h : P v with
      | true =>
        by_cases e1 : v = x
        · exact .inl e1
        · by_cases e2 : v = y
          · exact .inr e2
          · have := hall v h e1 e2
            exact absurd (iff_of_true ((T.hp v).mp this.1) ((T.hq v).mp this.2)) hv
      | false => exact absurd (no_change_off T hz cp.not cq.not (v := v) (by simp [hPz]) (by simp [h])) hv
    · by_cases e1 : z = x
      · rw [e1]; exact .inr h1
      · by_cases e2 : z = y
        · rw [e2]
          rw [T.hp, T.hq] at hy
          by_cases h : y ∈ keptBy ps ord
          · exact .inl h
          · exact .inr (Classical.byContradiction fun h' => hy (iff_of_false h h'))
        · exact .inl ((T.hp z).mp (hall z hPz e1 e2).1)
  by_cases h : x ∈ keptBy ps ord
  · obtain ⟨y, a, b, c, d⟩ := main T.symm hz.symm h (fun h' => hx (iff_of_true h h'))
    exact ⟨y, a, fun h => b h.symm, fun v hv => c v (fun h => hv h.symm), d.symm⟩
  · exact main T hz (Classical.byContradiction fun h' => hx (iff_of_false h h')) h
/-- all that is kept by the first web is servable in the other one: nobody goes but for somebody who comes -/
theorem kept_grow {ps qs : List Pr} {ord : List Nat} (hs : ∀ e ∈ ps, e ∈ qs) (hsub : ∀ v ∈ keptBy qs ord, v ∈ keptBy ps ord) : ∀ v ∈ keptBy ps ord, v ∈ keptBy qs ord := by
  intro v hv
  obtain ⟨p, hp, h⟩ := kept_servable ps ord
  have ip : IsPlan qs p := ⟨fun e he => hs e (hp.1 e he), hp.2⟩
  exact kept_exact ip (fun v hv => h v (hsub v hv)) (kept_mem_ord hv) (h v hv)
/-- a pair that changes anything: both its people are kept by the web that has it -/
theorem pair_both {ps qs : List Pr} {ord : List Nat} {p q : List Pr} (T : Two ps qs ord p q) {d : Pr} (hd : ∀ e : Pr, e ≠ d → (e ∈ ps ↔ e ∈ qs)) (hps : d ∉ ps)
    {x : Nat} (hx : ¬ (x ∈ keptBy ps ord ↔ x ∈ keptBy qs ord)) : d.1 ∈ keptBy qs ord ∧ d.2 ∈ keptBy qs ord := by
  have hdq : d ∈ q := by
    apply Classical.byContradiction
    intro hn
    apply hx
    refine no_change T (P := fun _ => true) (fun _ _ => rfl) (fun _ _ => rfl) (fun e he _ _ h => ?_) (fun e he _ _ h => ?_) rfl
    · exact (hd e (fun h' => hn (h' ▸ he))).mpr h
    · exact (hd e (fun h' => hps (h' ▸ h))).mp h
  exact ⟨(T.hq _).mp (mem_verts.mpr ⟨d, hdq, .inl rfl⟩), (T.hq _).mp (mem_verts.mpr ⟨d, hdq, .inr rfl⟩)⟩
/-! ### a person leaves -/
/-- qs has no pair of z, else those of ps -/
def Gone (z : Nat) (ps qs : List Pr) : Prop := ∀ e : Pr, e ∈ qs ↔ e ∈ ps ∧ e.1 ≠ z ∧ e.2 ≠ z
theorem Gone.away {z : Nat} {ps qs : List Pr} (h : Gone z ps qs) : AwayFrom z ps qs := fun e a b => by rw [h]; simp [a, b]
theorem gone_out {z : Nat} {ps qs : List Pr} {ord : List Nat} (h : Gone z ps qs) : z ∉ keptBy qs ord := by
  intro hz
  obtain ⟨p, hp, hs⟩ := kept_servable qs ord
  obtain ⟨e, he, h2⟩ := mem_verts.mp (hs z hz)
  have := (h e).mp (hp.1 e he)
  rcases h2 with h2 | h2
  · exact this.2.1 h2.symm
  · exact this.2.2 h2.symm
theorem gone_same {z : Nat} {ps qs : List Pr} {ord : List Nat} {p q : List Pr} (T : Two ps qs ord p q) (h : Gone z ps qs) (hz : z ∉ keptBy ps ord) (v : Nat) : v ∈ keptBy ps ord ↔ v ∈ keptBy qs ord := by
  apply Classical.byContradiction
  intro hn
  obtain ⟨_, _, _, _, h'⟩ := just_two T h.away hn
  rcases h' with h' | h'
  · exact hz h'
  · exact gone_out h h'
/-- he is kept: another one comes, or goes along -/
theorem gone_two {z : Nat} {ps qs : List Pr} {ord : List Nat} {p q : List Pr} (T : Two ps qs ord p q) (h : Gone z ps qs) (hz : z ∈ keptBy ps ord) :
    ∃ y, z ≠ y ∧ y ∈ ord ∧ ((y ∉ keptBy ps ord ∧ ∀ v, v ∈ keptBy qs ord ↔ v = y ∨ v ∈ keptBy ps ord ∧ v ≠ z) ∨ (y ∈ keptBy ps ord ∧ ∀ v, v ∈ keptBy qs ord ↔ v ∈ keptBy ps ord ∧ v ≠ z ∧ v ≠ y)) := by
  have hzq := gone_out (ord := ord) h
  have hn : ¬ (z ∈ keptBy ps ord ↔ z ∈ keptBy qs ord) := fun h' => hzq (h'.mp hz)
  obtain ⟨y, a, b, c, _⟩ := just_two T h.away hn
  have c' : ∀ v, v ≠ z → v ≠ y → (v ∈ keptBy ps ord ↔ v ∈ keptBy qs ord) := fun v h1 h2 => Classical.byContradiction fun h' => by
    rcases c v h' with e | e
    · exact h1 e
    · exact h2 e
  by_cases hy : y ∈ keptBy ps ord
  · have hyq : y ∉ keptBy qs ord := fun h' => b (iff_of_true hy h')
    refine ⟨y, a, kept_mem_ord hy, .inr ⟨hy, fun v => ?_⟩⟩
    by_cases e1 : v = z
    · rw [e1]; simp [hzq]
    · by_cases e2 : v = y
      · rw [e2]; simp [hyq]
      · rw [← c' v e1 e2]; simp [e1, e2]
  · have hyq : y ∈ keptBy qs ord := Classical.byContradiction fun h' => b (iff_of_false hy h')
    refine ⟨y, a, kept_mem_ord hyq, .inl ⟨hy, fun v => ?_⟩⟩
    by_cases e1 : v = z
    · rw [e1]; simp [hzq, a]
    · by_cases e2 : v = y
      · rw [e2]; simp [hyq]
      · rw [← c' v e1 e2]; simp [e1, e2]
/-- in place: no candidate stands ahead of him who comes -/
theorem come_first {qs : List Pr} {ord : List Nat} (nd : ord.Nodup) {y c : Nat} {R : Nat → Prop} (hk : ∀ v, v ∈ keptBy qs ord ↔ v = y ∨ R v) {S : List Nat} (hS : ∀ v, R v → v ∈ S) (hc : c ∈ S) (hcn : c ∉ keptBy qs ord) (hs : Servable qs S)
    {pre post : List Nat} (e : ord = pre ++ c :: post) : y ∈ pre := by
  apply Classical.byContradiction
  intro hy
  obtain ⟨p, hp, h⟩ := hs
  apply hcn
  rw [e]
  refine kept_first hp (fun v hv hk' => ?_) (h c hc)
  rw [← e, hk] at hk'
  rcases hk' with rfl | hk'
  · exact absurd hv hy
  · exact h v (hS v hk')
/-- he who goes along is the last: no other one who could stands behind -/
theorem go_last {qs : List Pr} {ord : List Nat} (nd : ord.Nodup) {y c : Nat} {R : Nat → Prop} (hk : ∀ v, v ∈ keptBy qs ord ↔ R v ∧ v ≠ y) (hy : R y) (hyc : y ≠ c) {S : List Nat} (hS : ∀ v, R v → v ≠ c → v ∈ S) (hs : Servable qs S)
    {pre post : List Nat} (e : ord = pre ++ y :: post) : c ∈ pre := by
  apply Classical.byContradiction
  intro hcp
  obtain ⟨p, hp, h⟩ := hs
  have hyn : y ∉ keptBy qs ord := fun h' => ((hk y).mp h').2 rfl
  apply hyn
  rw [e]
  refine kept_first hp (fun v hv hk' => ?_) (h y (hS y hy hyc))
  rw [← e, hk] at hk'
  exact h v (hS v hk'.1 (fun h' => hcp (h' ▸ hv)))
end KM
/-! ### K3 -/
set_option Elab.async false
set_option linter.all false
/-! The search for even ways: what stands between its steps. -/
namespace KM
structure Env where
  G : Nat → Nat → Prop
  gs : ∀ {u v}, G u v → G v u
  gi : ∀ u, ¬ G u u
  m : Nat → Option Nat
  ms : ∀ {u v}, m u = some v → m v = some u
  r : Nat
  mr : m r = none
  mi : ∀ u, m u ≠ some u
structure SS where
  bk : Nat → Option Nat
  bs : Nat → Nat
  ev : Nat → Bool
inductive Ch (E : Env) (s : SS) : Nat → List Nat → Prop
  | root : Ch E s E.r [E.r]
  | step {v o w : Nat} {L : List Nat} : s.ev v = true → E.m v = some o → s.bk o = some w → Ch E s w L → Ch E s v (v :: L)
inductive BC (E : Env) (s : SS) : Nat → List Nat → Prop
  | root : BC E s E.r [E.r]
  | step {b o w : Nat} {L : List Nat} : s.ev b = true → s.bs b = b → E.m b = some o → s.bk o = some w → BC E s (s.bs w) L → BC E s b (b :: L)
def Good (E : Env) (L : List Nat) : Prop := ∀ x ∈ L, ∀ o, E.m x = some o → o ∉ L
structure Inv (E : Env) (s : SS) : Prop where
  er : s.ev E.r = true
  br : s.bs E.r = E.r
  B : ∀ {v}, s.ev v = true → v ≠ E.r → ∃ o w, E.m v = some o ∧ s.bk o = some w ∧ s.ev w = true ∧ E.G w o ∧ w ≠ v
  C1 : ∀ {v}, s.ev v = true → s.ev (s.bs v) = true
  C2 : ∀ v, s.bs (s.bs v) = s.bs v
  C3 : ∀ {v}, s.ev v = false → s.bs v = v
  D : ∀ {v o}, s.ev v = true → s.bs v ≠ v → E.m v = some o → s.ev o = true ∧ s.bs o = s.bs v ∧ ∀ w, s.bk o = some w → s.bs w = s.bs v
  E0 : ∀ {b o}, s.ev b = true → s.bs b = b → E.m b = some o → s.ev o = false
  F : ∀ {o w}, s.bk o = some w → s.ev o = false → ∃ v, E.m o = some v ∧ s.ev v = true
  ch : ∀ {v}, s.ev v = true → ∃ L, Ch E s v L ∧ Good E L
section
variable {E : Env} {s : SS}
theorem Ch.det {v : Nat} {L L' : List Nat} (h : Ch E s v L) (h' : Ch E s v L') : L = L' := by
  induction h generalizing L' with
  | root =>
    cases h' with
    | root => rfl
    | step _ hm _ _ => rw [E.mr] at hm; cases hm
  | step he hm hb hc ih =>
    cases h' with
    | root => rw [E.mr] at hm; cases hm
    | step he' hm' hb' hc' =>
      rw [hm] at hm'; cases hm'
      rw [hb] at hb'; cases hb'
      rw [ih hc']
theorem Ch.head {v : Nat} {L : List Nat} (h : Ch E s v L) : ∃ L', L = v :: L' := by
  cases h with
  | root => exact ⟨[], rfl⟩
  | step => exact ⟨_, rfl⟩
theorem Ch.suffix {v : Nat} {L : List Nat} (h : Ch E s v L) {x : Nat} (hx : x ∈ L) : ∃ L1 L2, L = L1 ++ L2 ∧ Ch E s x L2 := by
  induction h with
  | root =>
    have : x = E.r := by simpa using hx
    exact ⟨[], [E.r], rfl, by rw [this]; exact .root⟩
  | step he hm hb hc ih =>
    rcases List.mem_cons.mp hx with e | hx
    · rw [e]; exact ⟨[], _, rfl, .step he hm hb hc⟩
    · obtain ⟨L1, L2, e, h'⟩ := ih hx
      exact ⟨_ :: L1, L2, by rw [e]; rfl, h'⟩
theorem Ch.tail_len {v : Nat} {L : List Nat} (h : Ch E s v (v :: L)) : v ∉ L := by
  intro hv
  have key : ∀ {x L0}, Ch E s x L0 → ∀ L', L0 = x :: L' → ∀ y ∈ L', ∃ L2, Ch E s y L2 ∧ L2.length < L0.length := by
    intro x L0 h0 L' e y hy
    cases h0 with
    | root => cases e; simp at hy
    | step he hm hb hc =>
      cases e
      obtain ⟨L1, L2, e2, h2⟩ := hc.suffix hy
      refine ⟨L2, h2, ?_⟩
      rw [e2]; simp; omega
  obtain ⟨L2, h2, hl⟩ := key h L rfl v hv
  rw [h2.det h] at hl
  exact Nat.lt_irrefl _ hl
theorem Ch.nodup {v : Nat} {L : List Nat} (h : Ch E s v L) : L.Nodup := by
  induction h with
  | root => simp
  | step he hm hb hc ih => exact List.nodup_cons.mpr ⟨Ch.tail_len (.step he hm hb hc), ih⟩
theorem Ch.ev {v : Nat} {L : List Nat} (I : Inv E s) (h : Ch E s v L) : ∀ x ∈ L, s.ev x = true := by
  induction h with
  | root => intro x hx; rw [List.mem_singleton.mp hx]; exact I.er
  | step he hm hb hc ih =>
    intro x hx
    rcases List.mem_cons.mp hx with e | hx
    · rw [e]; exact he
    · exact ih x hx
theorem Ch.last {v : Nat} {L : List Nat} (h : Ch E s v L) : E.r ∈ L := by
  induction h with
  | root => simp
  | step he hm hb hc ih => exact List.mem_cons_of_mem _ ih
theorem BC.det {v : Nat} {L L' : List Nat} (h : BC E s v L) (h' : BC E s v L') : L = L' := by
  induction h generalizing L' with
  | root =>
    cases h' with
    | root => rfl
    | step _ _ hm _ _ => rw [E.mr] at hm; cases hm
  | step he hbb hm hb hc ih =>
    cases h' with
    | root => rw [E.mr] at hm; cases hm
    | step he' hbb' hm' hb' hc' =>
      rw [hm] at hm'; cases hm'
      rw [hb] at hb'; cases hb'
      rw [ih hc']
theorem BC.head {v : Nat} {L : List Nat} (h : BC E s v L) : ∃ L', L = v :: L' := by
  cases h with
  | root => exact ⟨[], rfl⟩
  | step => exact ⟨_, rfl⟩
theorem BC.suffix {v : Nat} {L : List Nat} (h : BC E s v L) : ∀ {L1 L2 : List Nat} {x : Nat}, L = L1 ++ x :: L2 → BC E s x (x :: L2) := by
  induction h with
  | root =>
    intro L1 L2 x e
    cases L1 with
    | nil => cases e; exact .root
    | cons a L1 => simp at e
  | step he hbb hm hb hc ih =>
    intro L1 L2 x e
    cases L1 with
    | nil => cases e; exact .step he hbb hm hb hc
    | cons a L1 => cases e; exact ih rfl
theorem BC.nodup {v : Nat} {L : List Nat} (h : BC E s v L) : L.Nodup := by
  induction h with
  | root => simp
  | @step b o w L he hbb hm hb hc ih =>
    refine List.nodup_cons.mpr ⟨fun hx => ?_, ih⟩
    obtain ⟨L1, L2, e⟩ := List.append_of_mem hx
    have h2 := hc.suffix e
    have := h2.det (.step he hbb hm hb hc)
    have hl := congrArg List.length this
    rw [e] at hl; simp at hl; omega
theorem BC.ev {v : Nat} {L : List Nat} (I : Inv E s) (h : BC E s v L) : ∀ x ∈ L, s.ev x = true ∧ s.bs x = x := by
  induction h with
  | root => intro x hx; rw [List.mem_singleton.mp hx]; exact ⟨I.er, I.br⟩
  | step he hbb hm hb hc ih =>
    intro x hx
    rcases List.mem_cons.mp hx with e | hx
    · rw [e]; exact ⟨he, hbb⟩
    · exact ih x hx
theorem Ch.bc {v : Nat} {L : List Nat} (I : Inv E s) (h : Ch E s v L) : ∃ BL, BC E s (s.bs v) BL ∧ ∀ x ∈ L, s.bs x ∈ BL := by
  induction h with
  | root => exact ⟨[E.r], by rw [I.br]; exact .root, fun x hx => by rw [List.mem_singleton.mp hx, I.br]; simp⟩
  | @step v o w L he hm hb hc ih =>
    obtain ⟨BL, h1, h2⟩ := ih
    by_cases hv : s.bs v = v
    · refine ⟨v :: BL, by rw [hv]; exact .step he hv hm hb h1, fun x hx => ?_⟩
      rcases List.mem_cons.mp hx with e | hx
      · rw [e, hv]; simp
      · exact List.mem_cons_of_mem _ (h2 x hx)
    · have hw := (I.D he hv hm).2.2 w hb
      rw [hw] at h1
      refine ⟨BL, h1, fun x hx => ?_⟩
      rcases List.mem_cons.mp hx with e | hx
      · obtain ⟨L', e'⟩ := h1.head
        rw [e, e']; simp
      · exact h2 x hx
theorem Ch.blocks {v : Nat} {L BL : List Nat} (I : Inv E s) (h : Ch E s v L) (hb : BC E s (s.bs v) BL) : ∀ x ∈ L, s.bs x ∈ BL := by
  obtain ⟨BL', h1, h2⟩ := h.bc I
  rw [hb.det h1]; exact h2
/-- a way cut where it comes into a block -/
theorem Ch.cut {v : Nat} {L : List Nat} (I : Inv E s) (h : Ch E s v L) : ∀ {A C : List Nat} {t : Nat}, BC E s (s.bs v) (A ++ t :: C) →
    ∃ P t0 T, L = P ++ t0 :: T ∧ (∀ p ∈ P, s.bs p ∈ A) ∧ (∀ a ∈ A, a ∈ P) ∧ s.bs t0 = t ∧ ∀ x ∈ t0 :: T, s.bs x ∈ t :: C := by
  induction h with
  | root =>
    intro A C t hb
    rw [I.br] at hb
    have e := hb.det .root
    cases A with
    | nil =>
      simp at e
      exact ⟨[], E.r, [], rfl, by simp, by simp, by rw [I.br, e.1], by simp [I.br, e.1]⟩
    | cons a A => simp at e
  | @step v o w L he hm hb hc ih =>
    intro A C t hB
    by_cases hv : s.bs v = v
    · rw [hv] at hB
      generalize hX : A ++ t :: C = X at hB
      cases hB with
      | root => rw [E.mr] at hm; cases hm
      | step _ _ hm' hb' hBc =>
        rw [hm] at hm'; cases hm'
        rw [hb] at hb'; cases hb'
        cases A with
        | nil =>
          cases hX
          refine ⟨[], v, L, rfl, by simp, by simp, hv, fun x hx => ?_⟩
          rcases List.mem_cons.mp hx with e | hx
          · rw [e, hv]; simp
          · exact List.mem_cons_of_mem _ (hc.blocks I hBc x hx)
        | cons a A =>
          cases hX
          obtain ⟨P, t0, T, e, h1, h2, h3, h4⟩ := ih hBc
          refine ⟨v :: P, t0, T, by rw [e]; rfl, fun p hp => ?_, fun a ha => ?_, h3, h4⟩
          · rcases List.mem_cons.mp hp with e | hp
            · rw [e, hv]; simp
            · exact List.mem_cons_of_mem _ (h1 p hp)
          · rcases List.mem_cons.mp ha with e | ha
            · rw [e]; simp
            · exact List.mem_cons_of_mem _ (h2 a ha)
    · have hw := (I.D he hv hm).2.2 w hb
      have hB' := hB
      rw [← hw] at hB'
      obtain ⟨P, t0, T, e, h1, h2, h3, h4⟩ := ih hB'
      obtain ⟨L', e'⟩ := hB.head
      cases A with
      | nil =>
        have : P = [] := by
          cases P with
          | nil => rfl
          | cons p P => exact absurd (h1 p (by simp)) (by simp)
        subst this
        have ht : t = s.bs v := by simpa using (List.cons.inj e').1
        refine ⟨[], v, L, rfl, by simp, by simp, ht.symm, fun x hx => ?_⟩
        rcases List.mem_cons.mp hx with e2 | hx
        · rw [e2, ht]; simp
        · rw [e] at hx; exact h4 x hx
      | cons a A =>
        have ha : a = s.bs v := (List.cons.inj e').1
        refine ⟨v :: P, t0, T, by rw [e]; rfl, fun p hp => ?_, fun b hb => ?_, h3, h4⟩
        · rcases List.mem_cons.mp hp with e | hp
          · rw [e, ha]; simp
          · exact h1 p hp
        · exact List.mem_cons_of_mem _ (h2 b hb)
theorem Ch.has_mate {v : Nat} {L : List Nat} (h : Ch E s v L) : ∀ {P T : List Nat} {t : Nat}, L = P ++ t :: T → ∀ p ∈ P, ∃ o, E.m p = some o := by
  induction h with
  | root =>
    intro P T t e p hp
    cases P with
    | nil => simp at hp
    | cons a P => simp at e
  | step he hm hb hc ih =>
    intro P T t e p hp
    cases P with
    | nil => simp at hp
    | cons a P =>
      cases e
      rcases List.mem_cons.mp hp with e | hp
      · rw [e]; exact ⟨_, hm⟩
      · exact ih rfl p hp
/-- two even mates are of one block -/
theorem Inv.mates (I : Inv E s) {x y : Nat} (hx : s.ev x = true) (hy : s.ev y = true) (h : E.m x = some y) : s.bs y = s.bs x ∧ s.bs x ≠ x := by
  have hn : s.bs x ≠ x := fun e => by rw [I.E0 hx e h] at hy; cases hy
  exact ⟨(I.D hx hn h).2.1, hn⟩
end
/-! ### new links along a way -/
def fup {α : Type} (f : Nat → α) (i : Nat) (a : α) : Nat → α := fun x => if x = i then a else f x
theorem fup_same {α : Type} {f : Nat → α} {i : Nat} {a : α} : fup f i a i = a := by simp [fup]
theorem fup_ne {α : Type} {f : Nat → α} {i x : Nat} {a : α} (h : x ≠ i) : fup f i a x = f x := by simp [fup, h]
def relink (m : Nat → Option Nat) (bk : Nat → Option Nat) : List Nat → Nat → (Nat → Option Nat)
  | [], _ => bk
  | p :: P, beh => relink m (fup bk p (some beh)) P ((m p).getD 0)
def Linked (m : Nat → Option Nat) (bk : Nat → Option Nat) : Nat → List Nat → Prop
  | _, [] => True
  | beh, p :: P => bk p = some beh ∧ ∃ o, m p = some o ∧ Linked m bk o P
theorem Linked.congr {m bk bk' : Nat → Option Nat} : ∀ {P : List Nat} {beh : Nat}, (∀ p ∈ P, bk' p = bk p) → Linked m bk beh P → Linked m bk' beh P
  | [], _, _, _ => trivial
  | p :: P, beh, h, ⟨h1, o, h2, h3⟩ => ⟨by rw [h p (by simp)]; exact h1, o, h2, Linked.congr (fun q hq => h q (by simp [hq])) h3⟩
theorem relink_off {m : Nat → Option Nat} : ∀ {P : List Nat} {bk : Nat → Option Nat} {beh x : Nat}, x ∉ P → relink m bk P beh x = bk x
  | [], _, _, _, _ => rfl
  | p :: P, bk, beh, x, h => by
    rw [relink, relink_off (fun hx => h (by simp [hx])), fup_ne (fun e => h (by simp [e]))]
theorem relink_on {m : Nat → Option Nat} : ∀ {P : List Nat} {bk : Nat → Option Nat} {beh : Nat}, P.Nodup → (∀ p ∈ P, ∃ o, m p = some o) → Linked m (relink m bk P beh) beh P
  | [], _, _, _, _ => trivial
  | p :: P, bk, beh, nd, hm => by
    obtain ⟨o, ho⟩ := hm p (by simp)
    have nd' := List.nodup_cons.mp nd
    refine ⟨?_, o, ho, ?_⟩
    · rw [relink, relink_off nd'.1, fup_same]
    · rw [relink, ho]; exact relink_on nd'.2 (fun q hq => hm q (by simp [hq]))
theorem link_info {E : Env} {s : SS} {bk' : Nat → Option Nat} : ∀ {P T : List Nat} {v t beh : Nat}, Ch E s v (P ++ t :: T) → Linked E.m bk' beh P →
    ∀ p ∈ P, ∃ w, bk' p = some w ∧ ((w = beh ∧ p = v) ∨ ∃ p' ∈ P, E.m p' = some w ∧ s.bk w = some p)
  | [], _, _, _, _, _, _, p, hp => by simp at hp
  | a :: P, T, v, t, beh, hc, ⟨h1, o, h2, h3⟩, p, hp => by
    have hc' : Ch E s v (a :: (P ++ t :: T)) := hc
    generalize hX : (P ++ t :: T) = X at hc'
    cases hc' with
    | root => simp at hX
    | step he hm hb hc2 =>
      rw [h2] at hm; cases hm
      rcases List.mem_cons.mp hp with e | hp
      · rw [e]; exact ⟨beh, h1, .inl ⟨rfl, rfl⟩⟩
      · subst hX
        obtain ⟨w, hw, h⟩ := link_info hc2 h3 p hp
        refine ⟨w, hw, .inr ?_⟩
        rcases h with ⟨e1, e2⟩ | ⟨p', hp', h4, h5⟩
        · exact ⟨a, by simp, by rw [e1]; exact h2, by rw [e1, e2]; exact hb⟩
        · exact ⟨p', by simp [hp'], h4, h5⟩
theorem link_ch {E : Env} {s' : SS} : ∀ {P : List Nat} {beh : Nat} {Lb : List Nat}, Linked E.m s'.bk beh P → (∀ p ∈ P, ∀ o, E.m p = some o → s'.ev o = true) → Ch E s' beh Lb →
    ∀ p ∈ P, ∀ o, E.m p = some o → ∃ Z, (∀ z ∈ Z, ∃ p' ∈ P, E.m p' = some z) ∧ Ch E s' o (o :: (Z ++ Lb))
  | [], _, _, _, _, _, p, hp => by simp at hp
  | a :: P, beh, Lb, ⟨h1, o1, h2, h3⟩, he, hc, p, hp => by
    intro o ho
    have hc1 : Ch E s' o1 (o1 :: Lb) := .step (he a (by simp) o1 h2) (E.ms h2) h1 hc
    rcases List.mem_cons.mp hp with e | hp
    · rw [e, h2] at ho; cases ho
      exact ⟨[], by simp, hc1⟩
    · obtain ⟨Z, hz, hcz⟩ := link_ch h3 (fun q hq => he q (by simp [hq])) hc1 p hp o ho
      refine ⟨Z ++ [o1], fun z hz' => ?_, by simpa using hcz⟩
      rcases List.mem_append.mp hz' with h | h
      · obtain ⟨p', hp', h'⟩ := hz z h
        exact ⟨p', by simp [hp'], h'⟩
      · rw [List.mem_singleton.mp h]; exact ⟨a, by simp, h2⟩
/-- a way that meets none of the new links stays -/
theorem Ch.stay {E : Env} {s s' : SS} {v : Nat} {L : List Nat} (h : Ch E s v L) (he : ∀ x, s.ev x = true → s'.ev x = true) (hb : ∀ x ∈ L, ∀ o, E.m x = some o → s'.bk o = s.bk o) : Ch E s' v L := by
  induction h with
  | root => exact .root
  | step hev hm hbk hc ih =>
    refine .step (he _ hev) hm ?_ (ih fun x hx => hb x (by simp [hx]))
    rw [hb _ (by simp) _ hm]; exact hbk
end KM
/-! ### K4 -/
set_option Elab.async false
set_option linter.all false
/-! An odd ring is put together: what stood still stands. -/
namespace KM
/-- two ways meet in a block -/
structure Meet (E : Env) (s : SS) (x y : Nat) (P Q T1 T2 : List Nat) (t1 t2 top : Nat) (A B C : List Nat) : Prop where
  I : Inv E s
  cx : Ch E s x (P ++ t1 :: T1)
  cy : Ch E s y (Q ++ t2 :: T2)
  gx : Good E (P ++ t1 :: T1)
  gy : Good E (Q ++ t2 :: T2)
  b1 : BC E s (s.bs x) (A ++ top :: C)
  b2 : BC E s (s.bs y) (B ++ top :: C)
  ab : ∀ a ∈ A, a ∉ B
  pA : ∀ p ∈ P, s.bs p ∈ A
  qB : ∀ q ∈ Q, s.bs q ∈ B
  aP : ∀ a ∈ A, a ∈ P
  bQ : ∀ b ∈ B, b ∈ Q
  e1 : s.bs t1 = top
  e2 : s.bs t2 = top
  tC1 : ∀ z ∈ t1 :: T1, s.bs z ∈ top :: C
  tC2 : ∀ z ∈ t2 :: T2, s.bs z ∈ top :: C
theorem Meet.symm {E : Env} {s : SS} {x y : Nat} {P Q T1 T2 : List Nat} {t1 t2 top : Nat} {A B C : List Nat} (M : Meet E s x y P Q T1 T2 t1 t2 top A B C) : Meet E s y x Q P T2 T1 t2 t1 top B A C :=
  ⟨M.I, M.cy, M.cx, M.gy, M.gx, M.b2, M.b1, fun b hb ha => M.ab b ha hb, M.qB, M.pA, M.bQ, M.aP, M.e2, M.e1, M.tC2, M.tC1⟩
theorem meet_of {E : Env} {s : SS} (I : Inv E s) {x y : Nat} (hx : s.ev x = true) (hy : s.ev y = true) {BL1 B C' : List Nat} {top : Nat}
    (h1 : BC E s (s.bs x) BL1) (h2 : BC E s (s.bs y) (B ++ top :: C')) (hB : ∀ b ∈ B, b ∉ BL1) (ht : top ∈ BL1) :
    ∃ P Q T1 T2 t1 t2 A C, Meet E s x y P Q T1 T2 t1 t2 top A B C := by
  obtain ⟨A, C, e⟩ := List.append_of_mem ht
  have s1 := h1.suffix e
  have s2 := h2.suffix rfl
  have eC : C = C' := by have := s1.det s2; simpa using this
  subst eC
  obtain ⟨L1, c1, g1⟩ := I.ch hx
  obtain ⟨L2, c2, g2⟩ := I.ch hy
  rw [e] at h1
  obtain ⟨P, t1, T1, e1, a1, a2, a3, a4⟩ := c1.cut I h1
  obtain ⟨Q, t2, T2, e2, d1, d2, d3, d4⟩ := c2.cut I h2
  rw [e1] at c1 g1
  rw [e2] at c2 g2
  refine ⟨P, Q, T1, T2, t1, t2, A, C, I, c1, c2, g1, g2, h1, h2, fun a ha hb => hB a hb ?_, a1, d1, a2, d2, a3, d3, a4, d4⟩
  rw [e]; simp [ha]
section
variable {E : Env} {s : SS} {x y : Nat} {P Q T1 T2 : List Nat} {t1 t2 top : Nat} {A B C : List Nat}
namespace Meet
variable (M : Meet E s x y P Q T1 T2 t1 t2 top A B C)
include M
theorem nA : ∀ a ∈ A, a ∉ top :: C := by
  have := M.b1.nodup
  rw [List.nodup_append] at this
  exact fun a ha hc => this.2.2 a ha a hc rfl
theorem evP : ∀ p ∈ P, s.ev p = true := fun p hp => M.cx.ev M.I p (by simp [hp])
theorem evQ : ∀ p ∈ Q, s.ev p = true := M.symm.evP
theorem ev1 : ∀ z ∈ P ++ t1 :: T1, s.ev z = true := M.cx.ev M.I
theorem ev2 : ∀ z ∈ Q ++ t2 :: T2, s.ev z = true := M.cy.ev M.I
theorem mateP : ∀ p ∈ P, ∃ o, E.m p = some o := fun p hp => M.cx.has_mate rfl p hp
theorem mateQ : ∀ p ∈ Q, ∃ o, E.m p = some o := M.symm.mateP
theorem blk2 : ∀ z ∈ Q ++ t2 :: T2, s.bs z ∈ B ++ top :: C := fun z hz => by
  rcases List.mem_append.mp hz with h | h
  · exact List.mem_append_left _ (M.qB z h)
  · exact List.mem_append_right _ (M.tC2 z h)
theorem X1 : ∀ p ∈ P, ∀ z ∈ Q ++ t2 :: T2, s.bs p ≠ s.bs z := fun p hp z hz h => by
  have a := M.pA p hp
  have b := M.blk2 z hz
  rw [← h] at b
  rcases List.mem_append.mp b with b | b
  · exact M.ab _ a b
  · exact M.nA _ a b
theorem X2 : ∀ q ∈ Q, ∀ z ∈ P ++ t1 :: T1, s.bs q ≠ s.bs z := M.symm.X1
theorem rP : E.r ∉ P := fun h => by
  obtain ⟨o, ho⟩ := M.mateP _ h
  rw [E.mr] at ho; cases ho
theorem ndP : P.Nodup := by
  have := M.cx.nodup
  rw [List.nodup_append] at this
  exact this.1
/-- the mate of one of P is in neither way -/
theorem mP_P {p o : Nat} (hp : p ∈ P) (ho : E.m p = some o) : o ∉ P ++ t1 :: T1 := M.gx p (by simp [hp]) o ho
theorem mP_Q {p o : Nat} (hp : p ∈ P) (ho : E.m p = some o) : o ∉ Q ++ t2 :: T2 := fun h => by
  have := M.I.mates (M.evP p hp) (M.ev2 o h) ho
  exact M.X1 p hp o h this.1.symm
theorem P_Q {p : Nat} (hp : p ∈ P) : p ∉ Q ++ t2 :: T2 := fun h => M.X1 p hp p h rfl
end Meet
/-- the lot of blocks that become one -/
def InW (E : Env) (s : SS) (P Q : List Nat) (b : Nat) : Prop := ∃ p, (p ∈ P ∨ p ∈ Q) ∧ (b = s.bs p ∨ ∃ o, E.m p = some o ∧ b = s.bs o)
theorem InW.symm {E : Env} {s : SS} {P Q : List Nat} {b : Nat} (h : InW E s P Q b) : InW E s Q P b := by
  obtain ⟨p, hp, h⟩ := h
  exact ⟨p, hp.symm, h⟩
namespace Meet
variable (M : Meet E s x y P Q T1 T2 t1 t2 top A B C)
include M
theorem w_even {v : Nat} (hv : s.ev v = true) : InW E s P Q (s.bs v) ↔ s.bs v ∈ A ∨ s.bs v ∈ B := by
  constructor
  · rintro ⟨p, hp, h⟩
    have main : s.bs v = s.bs p := by
      rcases h with h | ⟨o, ho, h⟩
      · exact h
      · have hev : s.ev p = true := hp.elim (M.evP p) (M.evQ p)
        cases q : s.ev o with
        | true => rw [h]; exact (M.I.mates hev q ho).1
        | false =>
          have := M.I.C1 hv
          rw [h, M.I.C3 q, q] at this; cases this
    rw [main]
    exact hp.imp (M.pA p) (M.qB p)
  · rintro (h | h)
    · exact ⟨_, .inl (M.aP _ h), .inl (M.I.C2 v).symm⟩
    · exact ⟨_, .inr (M.bQ _ h), .inl (M.I.C2 v).symm⟩
theorem w_odd {v : Nat} (hv : s.ev v = false) (h : InW E s P Q (s.bs v)) : ∃ p, (p ∈ P ∨ p ∈ Q) ∧ E.m p = some v ∧ s.bs p = p := by
  rw [M.I.C3 hv] at h
  obtain ⟨p, hp, h⟩ := h
  have hev : s.ev p = true := hp.elim (M.evP p) (M.evQ p)
  rcases h with h | ⟨o, ho, h⟩
  · have := M.I.C1 hev
    rw [← h, hv] at this; cases this
  · cases q : s.ev o with
    | true =>
      have := M.I.C1 q
      rw [← h, hv] at this; cases this
    | false =>
      rw [M.I.C3 q] at h
      refine ⟨p, hp, by rw [h]; exact ho, Classical.byContradiction fun hn => ?_⟩
      have := (M.I.D hev hn ho).1
      rw [q] at this; cases this
theorem top_w : ¬ InW E s P Q top := by
  have ht : s.ev t1 = true := M.ev1 t1 (by simp)
  rw [← M.e1, M.w_even ht, M.e1]
  rintro (h | h)
  · exact M.nA _ h (by simp)
  · exact M.symm.nA _ h (by simp)
theorem top_ev : s.ev top = true ∧ s.bs top = top := M.b1.ev M.I top (by simp)
theorem mate_w {p o : Nat} (hp : p ∈ P ∨ p ∈ Q) (ho : E.m p = some o) : InW E s P Q (s.bs o) := ⟨p, hp, .inr ⟨o, ho, rfl⟩⟩
theorem self_w {p : Nat} (hp : p ∈ P ∨ p ∈ Q) : InW E s P Q (s.bs p) := ⟨p, hp, .inl rfl⟩
end Meet
/-- what the ring's putting together leaves -/
structure Shrunk (E : Env) (s s' : SS) (x y : Nat) (P Q : List Nat) (top : Nat) : Prop where
  bsIn : ∀ v, InW E s P Q (s.bs v) → s'.bs v = top
  bsOut : ∀ v, ¬ InW E s P Q (s.bs v) → s'.bs v = s.bs v
  evIff : ∀ v, s'.ev v = true ↔ s.ev v = true ∨ InW E s P Q (s.bs v)
  lP : Linked E.m s'.bk y P
  lQ : Linked E.m s'.bk x Q
  off : ∀ v, v ∉ P → v ∉ Q → s'.bk v = s.bk v
theorem Shrunk.symm {s' : SS} (h : Shrunk E s s' x y P Q top) : Shrunk E s s' y x Q P top :=
  ⟨fun v hv => h.bsIn v hv.symm, fun v hv => h.bsOut v (fun z => hv z.symm), fun v => by rw [h.evIff]; exact or_congr_right ⟨InW.symm, InW.symm⟩, h.lQ, h.lP, fun v a b => h.off v b a⟩
section
variable {s' : SS} (M : Meet E s x y P Q T1 T2 t1 t2 top A B C) (S : Shrunk E s s' x y P Q top)
include M S
theorem sh_ev {v : Nat} (h : s.ev v = true) : s'.ev v = true := (S.evIff v).mpr (.inl h)
theorem sh_m_ev {p o : Nat} (hp : p ∈ P ∨ p ∈ Q) (ho : E.m p = some o) : s'.ev o = true := (S.evIff o).mpr (.inr (M.mate_w hp ho))
theorem sh_stay2 : Ch E s' y (Q ++ t2 :: T2) := by
  refine M.cy.stay (fun v => sh_ev M S) fun z hz o ho => S.off o (fun h => ?_) (fun h => ?_)
  · exact M.mP_Q h (E.ms ho) hz
  · exact M.gy z hz o ho (by simp [h])
theorem sh_newch {p o : Nat} (hp : p ∈ P) (ho : E.m p = some o) : ∃ Z, (∀ z ∈ Z, ∃ p' ∈ P, E.m p' = some z) ∧ Ch E s' o (o :: (Z ++ (Q ++ t2 :: T2))) :=
  link_ch S.lP (fun q hq o ho => sh_m_ev M S (.inl hq) ho) (sh_stay2 M S) p hp o ho
/-- the new way's pairs are unlike -/
theorem sh_good {p o : Nat} (hp : p ∈ P) (ho : E.m p = some o) {Z : List Nat} (hZ : ∀ z ∈ Z, ∃ p' ∈ P, E.m p' = some z) {pre : List Nat}
    (gpre : Good E pre) (npre : ∀ a ∈ pre, ∀ q ∈ Q, E.m q ≠ some a) (hpre : ∀ a ∈ pre, ∃ L, Ch E s a L ∧ o ∈ L) : Good E (pre ++ o :: (Z ++ (Q ++ t2 :: T2))) := by
  have hZ' : ∀ z ∈ o :: Z, ∃ p' ∈ P, E.m p' = some z := fun z hz => by
    rcases List.mem_cons.mp hz with e | hz
    · rw [e]; exact ⟨p, hp, ho⟩
    · exact hZ z hz
  -- nobody ahead has his mate behind
  have key : ∀ a ∈ pre, ∀ b, E.m a = some b → b ∉ (o :: Z) ++ (Q ++ t2 :: T2) := by
    intro a ha b hb hmem
    obtain ⟨L, hL, hoL⟩ := hpre a ha
    have haev : s.ev a = true := hL.ev M.I a (by obtain ⟨_, e⟩ := hL.head; rw [e]; simp)
    have hoev : s.ev o = true := hL.ev M.I o hoL
    rcases List.mem_append.mp hmem with h | h
    · obtain ⟨p', hp', h'⟩ := hZ' b h
      have : a = p' := by have := E.ms hb; have := E.ms h'; simp_all
      subst this
      obtain ⟨L1, L2, e, hs⟩ := M.cx.suffix (x := a) (by simp [hp'])
      rw [hL.det hs] at hoL
      exact M.mP_P hp ho (by rw [e]; exact List.mem_append_right _ hoL)
    · have hbev := M.ev2 b h
      have h1 := M.I.mates haev hbev hb
      rcases List.mem_append.mp h with hq | hq
      · exact npre a ha b hq (E.ms hb)
      · have hin := M.tC2 b hq
        rw [h1.1] at hin
        obtain ⟨C1, C2, e⟩ := List.append_of_mem hin
        have hbc : BC E s (s.bs a) (s.bs a :: C2) := by
          refine M.b1.suffix (L1 := A ++ C1) (L2 := C2) ?_
          rw [e]; simp
        have h2 := hL.blocks M.I hbc o hoL
        have h3 := (M.I.mates hoev (M.evP p hp) (E.ms ho)).1
        rw [← h3] at h2
        refine M.nA _ (M.pA p hp) ?_
        rw [e]; exact List.mem_append_right _ h2
  have behind : ∀ a ∈ (o :: Z) ++ (Q ++ t2 :: T2), ∀ b, E.m a = some b → b ∉ (o :: Z) ++ (Q ++ t2 :: T2) := by
    intro a ha b hb hmem
    rcases List.mem_append.mp ha with h | h
    · obtain ⟨p', hp', h'⟩ := hZ' a h
      have eb : b = p' := by have := E.ms h'; simp_all
      subst eb
      rcases List.mem_append.mp hmem with g | g
      · obtain ⟨p2, hp2, h2⟩ := hZ' b g
        exact M.mP_P hp2 h2 (by simp [hp'])
      · exact M.P_Q hp' g
    · rcases List.mem_append.mp hmem with g | g
      · obtain ⟨p2, hp2, h2⟩ := hZ' b g
        have : a = p2 := by have := E.ms hb; have := E.ms h2; simp_all
        subst this
        exact M.P_Q hp2 h
      · exact M.gy a h b hb g
  have e : pre ++ o :: (Z ++ (Q ++ t2 :: T2)) = pre ++ ((o :: Z) ++ (Q ++ t2 :: T2)) := rfl
  rw [e]
  intro a ha b hb hmem
  rcases List.mem_append.mp ha with h | h
  · rcases List.mem_append.mp hmem with g | g
    · exact gpre a h b hb g
    · exact key a h b hb g
  · rcases List.mem_append.mp hmem with g | g
    · exact key b g a (E.ms hb) h
    · exact behind a h b hb g
/-- a way of before: it stays, or turns at the first mate of the ring -/
theorem sh_ways {v : Nat} {L : List Nat} (h : Ch E s v L) :
    Ch E s' v L ∨ (∃ pre o suf p Z, L = pre ++ o :: suf ∧ p ∈ P ∧ E.m p = some o ∧ (∀ z ∈ Z, ∃ p' ∈ P, E.m p' = some z) ∧ (∀ a ∈ pre, ∀ q ∈ Q, E.m q ≠ some a) ∧ Ch E s' v (pre ++ o :: (Z ++ (Q ++ t2 :: T2)))) ∨
    (∃ pre o suf q Z, L = pre ++ o :: suf ∧ q ∈ Q ∧ E.m q = some o ∧ (∀ z ∈ Z, ∃ q' ∈ Q, E.m q' = some z) ∧ (∀ a ∈ pre, ∀ p ∈ P, E.m p ≠ some a) ∧ Ch E s' v (pre ++ o :: (Z ++ (P ++ t1 :: T1)))) := by
  induction h with
  | root => exact .inl .root
  | @step v o w L hev hm hb hc ih =>
    by_cases h1 : o ∈ P
    · obtain ⟨Z, hZ, hch⟩ := sh_newch M S h1 (E.ms hm)
      exact .inr (.inl ⟨[], v, L, o, Z, rfl, h1, E.ms hm, hZ, by simp, hch⟩)
    · by_cases h2 : o ∈ Q
      · obtain ⟨Z, hZ, hch⟩ := sh_newch M.symm S.symm h2 (E.ms hm)
        exact .inr (.inr ⟨[], v, L, o, Z, rfl, h2, E.ms hm, hZ, by simp, hch⟩)
      · have hb' : s'.bk o = some w := by rw [S.off o h1 h2]; exact hb
        have hev' := sh_ev M S hev
        have nv : ∀ q, (q ∈ P ∨ q ∈ Q) → E.m q ≠ some v := fun q hq e => by
          have := E.ms e
          rw [hm] at this; cases this
          rcases hq with h | h
          · exact h1 h
          · exact h2 h
        rcases ih with h | ⟨pre, o', suf, p, Z, e, hp, ho, hZ, hn, hch⟩ | ⟨pre, o', suf, p, Z, e, hp, ho, hZ, hn, hch⟩
        · exact .inl (.step hev' hm hb' h)
        · refine .inr (.inl ⟨v :: pre, o', suf, p, Z, by rw [e]; rfl, hp, ho, hZ, fun a ha q hq => ?_, .step hev' hm hb' hch⟩)
          rcases List.mem_cons.mp ha with e | ha
          · rw [e]; exact nv q (.inr hq)
          · exact hn a ha q hq
        · refine .inr (.inr ⟨v :: pre, o', suf, p, Z, by rw [e]; rfl, hp, ho, hZ, fun a ha q hq => ?_, .step hev' hm hb' hch⟩)
          rcases List.mem_cons.mp ha with e | ha
          · rw [e]; exact nv q (.inl hq)
          · exact hn a ha q hq
end
theorem suffix_all {E : Env} {s : SS} {v : Nat} : ∀ {pre : List Nat} {L : List Nat} {o : Nat} {suf : List Nat}, Ch E s v L → L = pre ++ o :: suf → ∀ a ∈ pre, ∃ L', Ch E s a L' ∧ o ∈ L' := by
  intro pre L o suf h e a ha
  obtain ⟨p1, p2, e1⟩ := List.append_of_mem ha
  have : ∀ {v L}, Ch E s v L → ∀ p1 r, L = p1 ++ a :: r → Ch E s a (a :: r) := by
    intro v L h
    induction h with
    | root =>
      intro p1 r e
      cases p1 with
      | nil => cases e; exact .root
      | cons b p1 => simp at e
    | step he hm hb hc ih =>
      intro p1 r e
      cases p1 with
      | nil => cases e; exact .step he hm hb hc
      | cons b p1 => cases e; exact ih p1 r rfl
  refine ⟨a :: (p2 ++ o :: suf), this h p1 _ (by rw [e, e1]; simp), by simp⟩
theorem shrink_inv {s' : SS} (M : Meet E s x y P Q T1 T2 t1 t2 top A B C) (S : Shrunk E s s' x y P Q top) (hg : E.G x y) (hm : E.m x ≠ some y) : Inv E s' := by
  have I := M.I
  have I' := M.top_w
  have evx : s.ev x = true := M.ev1 x (by obtain ⟨_, e⟩ := M.cx.head; rw [e]; simp)
  have evy : s.ev y = true := M.ev2 y (by obtain ⟨_, e⟩ := M.cy.head; rw [e]; simp)
  -- the links of one side
  have newB : ∀ {x y : Nat} {P Q T1 T2 : List Nat} {t1 t2 : Nat} {A B C : List Nat}, Meet E s x y P Q T1 T2 t1 t2 top A B C → Shrunk E s s' x y P Q top → E.G x y → E.m x ≠ some y → s.ev y = true →
      ∀ p ∈ P, ∀ o, E.m p = some o → ∃ w, s'.bk p = some w ∧ s'.ev w = true ∧ E.G w p ∧ w ≠ o ∧ s'.bs w = top := by
    intro x y P Q T1 T2 t1 t2 A B C M S hg hm evy p hp o ho
    obtain ⟨w, hw, h⟩ := link_info M.cx S.lP p hp
    refine ⟨w, hw, ?_⟩
    rcases h with ⟨rfl, rfl⟩ | ⟨p', hp', h1, h2⟩
    · refine ⟨sh_ev M S evy, E.gs hg, fun e => hm (by rw [ho, e]), ?_⟩
      by_cases hq : InW E s P Q (s.bs w)
      · exact S.bsIn w hq
      · rw [S.bsOut w hq]
        obtain ⟨L', eh⟩ := M.cy.head
        cases Q with
        | nil =>
          have e0 : t2 = w := by simpa using (List.cons.inj eh).1
          rw [← e0]; exact M.e2
        | cons q Q =>
          have e0 : q = w := by simpa using (List.cons.inj eh).1
          exact absurd (M.self_w (.inr (by simp [e0]))) hq
    · have hne : p' ≠ E.r := fun e => by rw [e, E.mr] at h1; cases h1
      obtain ⟨o2, w2, a1, a2, a3, a4, a5⟩ := I.B (M.evP p' hp') hne
      rw [h1] at a1; cases a1
      rw [h2] at a2; cases a2
      refine ⟨sh_m_ev M S (.inl hp') h1, E.gs a4, fun e => ?_, S.bsIn _ (M.mate_w (.inl hp') h1)⟩
      rw [← e] at ho
      have b1 := E.ms ho
      have b2 := E.ms h1
      rw [b2] at b1; cases b1
      exact a5 rfl
  have newP := newB M S hg hm evy
  have newQ := newB M.symm S.symm (E.gs hg) (fun e => hm (E.ms e)) evx
  have odd_new : ∀ {v}, s.ev v = false → s'.ev v = true → ∃ p, (p ∈ P ∨ p ∈ Q) ∧ E.m p = some v ∧ s.bs p = p := fun hv h => by
    rcases (S.evIff _).mp h with h | h
    · rw [hv] at h; cases h
    · exact M.w_odd hv h
  have pq_ev : ∀ {p}, (p ∈ P ∨ p ∈ Q) → s.ev p = true := fun hp => hp.elim (M.evP _) (M.evQ _)
  have new : ∀ {p o}, (p ∈ P ∨ p ∈ Q) → E.m p = some o → ∃ w, s'.bk p = some w ∧ s'.ev w = true ∧ E.G w p ∧ w ≠ o ∧ s'.bs w = top := fun hp ho =>
    hp.elim (fun h => newP _ h _ ho) (fun h => newQ _ h _ ho)
  -- of a way's people the next one, too, is in the block that is made
  have next_in : ∀ {x y : Nat} {P Q T1 T2 : List Nat} {t1 t2 : Nat} {A B C : List Nat}, Meet E s x y P Q T1 T2 t1 t2 top A B C → Shrunk E s s' x y P Q top →
      ∀ p ∈ P, ∀ o w, E.m p = some o → s.bk o = some w → s'.bs w = top := by
    intro x y P Q T1 T2 t1 t2 A B C M S p hp o w ho hw
    obtain ⟨p1, p2, ep⟩ := List.append_of_mem hp
    have : ∀ {v L}, Ch E s v L → ∀ p1 r, L = p1 ++ p :: r → Ch E s p (p :: r) := by
      intro v L h
      induction h with
      | root =>
        intro p1 r e
        cases p1 with
        | nil => cases e; exact .root
        | cons b p1 => simp at e
      | step he hm hb hc ih =>
        intro p1 r e
        cases p1 with
        | nil => cases e; exact .step he hm hb hc
        | cons b p1 => cases e; exact ih p1 r rfl
    have hc := this M.cx p1 (p2 ++ t1 :: T1) (by rw [ep]; simp)
    generalize hX : (p2 ++ t1 :: T1) = X at hc
    cases hc with
    | root => rw [E.mr] at ho; cases ho
    | step he hm hb hc =>
      rw [ho] at hm; cases hm
      rw [hw] at hb; cases hb
      obtain ⟨L', eh⟩ := hc.head
      rw [eh] at hX
      cases p2 with
      | nil =>
        have e0 : t1 = w := by simpa using (List.cons.inj hX).1
        rw [S.bsOut w (by rw [← e0, M.e1]; exact M.top_w), ← e0]; exact M.e1
      | cons q p2 =>
        have e0 : q = w := by simpa using (List.cons.inj hX).1
        exact S.bsIn w (M.self_w (.inl (by rw [ep]; simp [e0])))
  have nextPQ : ∀ {p o w}, (p ∈ P ∨ p ∈ Q) → E.m p = some o → s.bk o = some w → s'.bs w = top := fun hp ho hw =>
    hp.elim (fun h => next_in M S _ h _ _ ho hw) (fun h => next_in M.symm S.symm _ h _ _ ho hw)
  have top' : s'.bs top = top := by rw [S.bsOut top (by rw [M.top_ev.2]; exact I')]; exact M.top_ev.2
  refine ⟨sh_ev M S I.er, ?_, ?_, ?_, ?_, ?_, ?_, ?_, ?_, ?_⟩
  · -- br
    rw [S.bsOut, I.br]
    rw [M.w_even I.er, I.br]
    have hr1 : E.r ∈ t1 :: T1 := by
      have := M.cx.last
      rcases List.mem_append.mp this with h | h
      · exact absurd h M.rP
      · exact h
    have hr2 : E.r ∈ t2 :: T2 := by
      have := M.cy.last
      rcases List.mem_append.mp this with h | h
      · exact absurd h M.symm.rP
      · exact h
    have c1 := M.tC1 _ hr1
    rw [I.br] at c1
    rintro (h | h)
    · exact M.nA _ h c1
    · exact M.symm.nA _ h c1
  · -- B
    intro v hv hne
    cases q : s.ev v with
    | false =>
      obtain ⟨p, hp, ho, _⟩ := odd_new q hv
      obtain ⟨w, a1, a2, a3, a4, _⟩ := new hp ho
      exact ⟨p, w, E.ms ho, a1, a2, a3, a4⟩
    | true =>
      obtain ⟨o, w, b1, b2, b3, b4, b5⟩ := I.B q hne
      by_cases hp : o ∈ P ∨ o ∈ Q
      · obtain ⟨w', a1, a2, a3, a4, _⟩ := new hp (E.ms b1)
        exact ⟨o, w', b1, a1, a2, a3, a4⟩
      · exact ⟨o, w, b1, by rw [S.off o (fun h => hp (.inl h)) (fun h => hp (.inr h))]; exact b2, sh_ev M S b3, b4, b5⟩
  · -- C1
    intro v hv
    by_cases hw : InW E s P Q (s.bs v)
    · rw [S.bsIn v hw]; exact sh_ev M S M.top_ev.1
    · rw [S.bsOut v hw]
      rcases (S.evIff v).mp hv with h | h
      · exact sh_ev M S (I.C1 h)
      · exact absurd h hw
  · -- C2
    intro v
    by_cases hw : InW E s P Q (s.bs v)
    · rw [S.bsIn v hw]; exact top'
    · rw [S.bsOut v hw, S.bsOut _ (by rw [I.C2]; exact hw), I.C2]
  · -- C3
    intro v hv
    have h0 : s.ev v = false := by
      cases q : s.ev v with
      | false => rfl
      | true => rw [sh_ev M S q] at hv; cases hv
    have hw : ¬ InW E s P Q (s.bs v) := fun h => by rw [(S.evIff v).mpr (.inr h)] at hv; cases hv
    rw [S.bsOut v hw, I.C3 h0]
  · -- D
    intro v o hv hn ho
    by_cases hw : InW E s P Q (s.bs v)
    · rw [S.bsIn v hw] at hn ⊢
      have fin : (s'.ev o = true ∧ s'.bs o = top) → (∀ w, s'.bk o = some w → s'.bs w = top) → (s'.ev o = true ∧ s'.bs o = top ∧ ∀ w, s'.bk o = some w → s'.bs w = top) := fun a b => ⟨a.1, a.2, b⟩
      by_cases hpq : o ∈ P ∨ o ∈ Q
      · refine fin ⟨sh_ev M S (pq_ev hpq), S.bsIn o (M.self_w hpq)⟩ fun w hbw => ?_
        obtain ⟨w', a1, _, _, _, a5⟩ := new hpq (E.ms ho)
        rw [hbw] at a1; cases a1
        exact a5
      · have hbk : s'.bk o = s.bk o := S.off o (fun h => hpq (.inl h)) (fun h => hpq (.inr h))
        cases q : s.ev v with
        | false =>
          obtain ⟨p, hp, hpm, _⟩ := odd_new q hv
          have := E.ms hpm
          rw [ho] at this; cases this
          exact absurd hp hpq
        | true =>
          by_cases hb : s.bs v = v
          · have hAB := (M.w_even q).mp hw
            rw [hb] at hAB
            have hvPQ : v ∈ P ∨ v ∈ Q := hAB.imp (M.aP v) (M.bQ v)
            refine fin ⟨sh_m_ev M S hvPQ ho, S.bsIn o (M.mate_w hvPQ ho)⟩ fun w hbw => ?_
            rw [hbk] at hbw
            exact nextPQ hvPQ ho hbw
          · obtain ⟨d1, d2, d3⟩ := I.D q hb ho
            refine fin ⟨sh_ev M S d1, S.bsIn o (by rw [d2]; exact hw)⟩ fun w hbw => ?_
            rw [hbk] at hbw
            exact S.bsIn w (by rw [d3 w hbw]; exact hw)
    · rw [S.bsOut v hw] at hn ⊢
      have q : s.ev v = true := by
        rcases (S.evIff v).mp hv with h | h
        · exact h
        · exact absurd h hw
      obtain ⟨d1, d2, d3⟩ := I.D q hn ho
      have hwo : ¬ InW E s P Q (s.bs o) := by rw [d2]; exact hw
      refine ⟨sh_ev M S d1, by rw [S.bsOut o hwo, d2], fun w hbw => ?_⟩
      rw [S.off o (fun h => hwo (M.self_w (.inl h))) (fun h => hwo (M.self_w (.inr h)))] at hbw
      rw [S.bsOut w (by rw [d3 w hbw]; exact hw), d3 w hbw]
  · -- E0
    intro b o hb hbb ho
    have hw : ¬ InW E s P Q (s.bs b) := fun h => by
      rw [S.bsIn b h] at hbb
      rw [← hbb, M.top_ev.2] at h
      exact I' h
    rw [S.bsOut b hw] at hbb
    have q : s.ev b = true := by
      rcases (S.evIff b).mp hb with h | h
      · exact h
      · exact absurd h hw
    have ho0 := I.E0 q hbb ho
    cases z : s'.ev o with
    | false => rfl
    | true =>
      obtain ⟨p, hp, hpm, hpb⟩ := odd_new ho0 z
      have := E.ms ho
      have h2 := E.ms hpm
      rw [h2] at this; cases this
      exact absurd (M.self_w hp) hw
  · -- F
    intro o w hbo hev
    have ho0 : s.ev o = false := by
      cases q : s.ev o with
      | false => rfl
      | true => rw [sh_ev M S q] at hev; cases hev
    have hno : ¬ (o ∈ P ∨ o ∈ Q) := fun h => by rw [pq_ev h] at ho0; cases ho0
    rw [S.off o (fun h => hno (.inl h)) (fun h => hno (.inr h))] at hbo
    obtain ⟨v, h1, h2⟩ := I.F hbo ho0
    exact ⟨v, h1, sh_ev M S h2⟩
  · -- ch
    intro v hv
    have goodNew : ∀ {p o}, p ∈ P → E.m p = some o → ∃ L, Ch E s' o L ∧ Good E L := fun {p o} hp ho => by
      obtain ⟨Z, hZ, hch⟩ := sh_newch M S hp ho
      exact ⟨_, hch, by simpa using sh_good M S hp ho hZ (pre := []) (fun _ h => by simp at h) (by simp) (by simp)⟩
    have goodNew' : ∀ {p o}, p ∈ Q → E.m p = some o → ∃ L, Ch E s' o L ∧ Good E L := fun {p o} hp ho => by
      obtain ⟨Z, hZ, hch⟩ := sh_newch M.symm S.symm hp ho
      exact ⟨_, hch, by simpa using sh_good M.symm S.symm hp ho hZ (pre := []) (fun _ h => by simp at h) (by simp) (by simp)⟩
    cases q : s.ev v with
    | false =>
      obtain ⟨p, hp, ho, _⟩ := odd_new q hv
      exact hp.elim (fun h => goodNew h ho) (fun h => goodNew' h ho)
    | true =>
      obtain ⟨L, hL, gL⟩ := I.ch q
      rcases sh_ways M S hL with h | ⟨pre, o, suf, p, Z, e, hp, ho, hZ, hn, hch⟩ | ⟨pre, o, suf, p, Z, e, hp, ho, hZ, hn, hch⟩
      · exact ⟨L, h, gL⟩
      · refine ⟨_, hch, sh_good M S hp ho hZ (fun a ha b hb hmem => gL a (by rw [e]; simp [ha]) b hb (by rw [e]; simp [hmem])) hn (suffix_all hL e)⟩
      · refine ⟨_, hch, sh_good M.symm S.symm hp ho hZ (fun a ha b hb hmem => gL a (by rw [e]; simp [ha]) b hb (by rw [e]; simp [hmem])) hn (suffix_all hL e)⟩
end
end KM
/-! ### K5 -/
set_option Elab.async false
set_option linter.all false
/-! The search: its beginning, a step, its end. -/
namespace KM
def s0 (r : Nat) : SS := ⟨fun _ => none, fun v => v, fun v => decide (v = r)⟩
theorem inv0 (E : Env) : Inv E (s0 E.r) := by
  refine ⟨by simp [s0], rfl, fun {v} h hn => ?_, fun {v} h => h, fun v => rfl, fun {v} h => rfl, fun {v o} h hn => absurd rfl hn, fun {b o} h _ ho => ?_, fun {o w} h => by simp [s0] at h, fun {v} h => ?_⟩
  · have : v = E.r := by simpa [s0] using h
    exact absurd this hn
  · have e : b = E.r := by simpa [s0] using h
    rw [e, E.mr] at ho; cases ho
  · have e : v = E.r := by simpa [s0] using h
    refine ⟨[E.r], by rw [e]; exact .root, fun x hx o ho => ?_⟩
    rw [List.mem_singleton.mp hx, E.mr] at ho; cases ho
/-- what every step leaves -/
structure Mono (s s' : SS) : Prop where
  ev : ∀ {v}, s.ev v = true → s'.ev v = true
  bk : ∀ {v}, s.bk v ≠ none → s'.bk v ≠ none
  bs : ∀ {v w}, s.bs v = s.bs w → s'.bs v = s'.bs w
theorem Mono.refl (s : SS) : Mono s s := ⟨id, id, id⟩
theorem Mono.trans {s s' s'' : SS} (a : Mono s s') (b : Mono s' s'') : Mono s s'' := ⟨fun h => b.ev (a.ev h), fun h => b.bk (a.bk h), fun h => b.bs (a.bs h)⟩
/-! ### a step outwards -/
def grow (s : SS) (one other x : Nat) : SS := ⟨fup s.bk other (some one), s.bs, fup s.ev x true⟩
theorem grow_mono (s : SS) (one other x : Nat) : Mono s (grow s one other x) := by
  refine ⟨fun {v} h => ?_, fun {v} h => ?_, fun h => h⟩
  · by_cases e : v = x
    · simp [grow, fup, e]
    · simp [grow, fup, e, h]
  · by_cases e : v = other
    · simp [grow, fup, e]
    · simp [grow, fup, e, h]
section
variable {E : Env} {s : SS}
theorem grow_new (I : Inv E s) {other x : Nat} (ho : s.ev other = false) (hb : s.bk other = none) (hx : E.m other = some x) : s.ev x = false := by
  cases q : s.ev x with
  | false => rfl
  | true =>
    have hne : x ≠ E.r := fun e => by have := E.ms hx; rw [e, E.mr] at this; cases this
    obtain ⟨o, w, h1, h2, _⟩ := I.B q hne
    have := E.ms hx
    rw [h1] at this; cases this
    rw [hb] at h2; cases h2
theorem grow_inv (I : Inv E s) {one other x : Nat} (h1 : s.ev one = true) (hg : E.G one other) (hm : E.m one ≠ some other) (ho : s.ev other = false) (hb : s.bk other = none) (hx : E.m other = some x) : Inv E (grow s one other x) := by
  have hxe := grow_new I ho hb hx
  have hxo := E.ms hx
  have ne : other ≠ x := fun e => E.mi x (by rw [e] at hx; exact hx)
  have evg : ∀ v, (grow s one other x).ev v = true ↔ s.ev v = true ∨ v = x := fun v => by
    by_cases e : v = x <;> simp [grow, fup, e]
  have mono := grow_mono s one other x
  have bkn : ∀ o, o ≠ other → (grow s one other x).bk o = s.bk o := fun o h => fup_ne h
  have stay : ∀ {v L}, Ch E s v L → Ch E (grow s one other x) v L := fun {v L} h => by
    refine h.stay (fun v hv => mono.ev hv) fun z hz o hzo => bkn o fun e => ?_
    rw [e] at hzo
    have := E.ms hzo
    rw [hx] at this; cases this
    rw [h.ev I _ hz] at hxe; cases hxe
  refine ⟨mono.ev I.er, I.br, ?_, ?_, I.C2, ?_, ?_, ?_, ?_, ?_⟩
  · intro v hv hne
    by_cases e : v = x
    · subst e
      exact ⟨other, one, hxo, fup_same, mono.ev h1, hg, fun e => hm (by rw [e]; exact hxo)⟩
    · rcases (evg v).mp hv with h | h
      · obtain ⟨o, w, b1, b2, b3, b4, b5⟩ := I.B h hne
        refine ⟨o, w, b1, ?_, mono.ev b3, b4, b5⟩
        rw [bkn]
        · exact b2
        · intro eo; rw [eo] at b1; have := E.ms b1; rw [hx] at this; cases this; exact e rfl
      · exact absurd h e
  · intro v hv
    rcases (evg v).mp hv with h | h
    · exact mono.ev (I.C1 h)
    · rw [h]
      show (grow s one other x).ev (s.bs x) = true
      rw [I.C3 hxe]; exact (evg x).mpr (.inr rfl)
  · intro v hv
    have : s.ev v = false := by
      cases q : s.ev v with
      | false => rfl
      | true => rw [mono.ev q] at hv; cases hv
    exact I.C3 this
  · intro v o hv hn hvo
    rcases (evg v).mp hv with h | h
    · obtain ⟨d1, d2, d3⟩ := I.D h hn hvo
      refine ⟨mono.ev d1, d2, fun w hw => d3 w ?_⟩
      rw [bkn] at hw
      · exact hw
      · intro e; rw [e, ho] at d1; cases d1
    · exact absurd (by rw [h]; exact I.C3 hxe) hn
  · intro b o hev hbb hbo
    have main : s.ev o = false ∧ o ≠ x := by
      rcases (evg b).mp hev with h | h
      · refine ⟨I.E0 h hbb hbo, fun e => ?_⟩
        rw [e] at hbo
        have := E.ms hbo
        rw [hxo] at this; cases this
        rw [ho] at h; cases h
      · rw [h, hxo] at hbo; cases hbo
        exact ⟨ho, ne⟩
    cases q : (grow s one other x).ev o with
    | false => rfl
    | true =>
      rcases (evg o).mp q with h | h
      · rw [main.1] at h; cases h
      · exact absurd h main.2
  · intro o w hw hev
    by_cases e : o = other
    · rw [e]; exact ⟨x, hx, (evg x).mpr (.inr rfl)⟩
    · rw [bkn o e] at hw
      have : s.ev o = false := by
        cases q : s.ev o with
        | false => rfl
        | true => rw [mono.ev q] at hev; cases hev
      obtain ⟨v, a, b⟩ := I.F hw this
      exact ⟨v, a, mono.ev b⟩
  · intro v hv
    rcases (evg v).mp hv with h | h
    · obtain ⟨L, hL, gL⟩ := I.ch h
      exact ⟨L, stay hL, gL⟩
    · obtain ⟨L, hL, gL⟩ := I.ch h1
      rw [h]
      refine ⟨x :: L, .step ((evg x).mpr (.inr rfl)) hxo fup_same (stay hL), fun z hz o hzo hmem => ?_⟩
      have nL : ∀ y, s.ev y = false → y ∉ L := fun y hy hmem => by rw [hL.ev I y hmem] at hy; cases hy
      rcases List.mem_cons.mp hz with e | hz
      · rw [e, hxo] at hzo; cases hzo
        rcases List.mem_cons.mp hmem with e | hmem
        · exact ne e
        · exact nL _ ho hmem
      · rcases List.mem_cons.mp hmem with e | hmem
        · rw [e] at hzo
          have := E.ms hzo
          rw [hxo] at this; cases this
          exact nL _ ho hz
        · exact gL z hz o hzo hmem
end
theorem shrunk_mono {E : Env} {s s' : SS} {x y : Nat} {P Q T1 T2 : List Nat} {t1 t2 top : Nat} {A B C : List Nat} (M : Meet E s x y P Q T1 T2 t1 t2 top A B C) (S : Shrunk E s s' x y P Q top) : Mono s s' := by
  refine ⟨sh_ev M S, fun {v} h => ?_, fun {v w} h => ?_⟩
  · by_cases hp : v ∈ P
    · obtain ⟨w, hw, _⟩ := link_info M.cx S.lP v hp
      rw [hw]; simp
    · by_cases hq : v ∈ Q
      · obtain ⟨w, hw, _⟩ := link_info M.cy S.lQ v hq
        rw [hw]; simp
      · rw [S.off v hp hq]; exact h
  · by_cases hv : InW E s P Q (s.bs v)
    · rw [S.bsIn v hv, S.bsIn w (by rw [← h]; exact hv)]
    · rw [S.bsOut v hv, S.bsOut w (by rw [← h]; exact hv), h]
/-! ### counting -/
theorem nodup_len {l l' : List Nat} (nd : l.Nodup) (h : ∀ x ∈ l, x ∈ l') : l.length ≤ l'.length := by
  induction l generalizing l' with
  | nil => simp
  | cons a l ih =>
    have nd' := List.nodup_cons.mp nd
    have ha : a ∈ l' := h a (by simp)
    have := ih (l' := l'.erase a) nd'.2 fun x hx => (List.mem_erase_of_ne (fun e => nd'.1 (by rw [← e]; exact hx))).mpr (h x (by simp [hx]))
    have hl := List.length_erase_of_mem ha
    have hp : 0 < l'.length := List.length_pos_of_mem ha
    simp only [List.length_cons]
    omega
theorem even_len (k : Nat) : ∀ (l : List Nat) (f : Nat → Nat), l.length ≤ k → l.Nodup → (∀ x ∈ l, f x ∈ l ∧ f (f x) = x ∧ f x ≠ x) → l.length % 2 = 0 := by
  induction k with
  | zero => intro l f hk _ _; have : l.length = 0 := by omega
            omega
  | succ k ih =>
    intro l f hk nd h
    cases l with
    | nil => rfl
    | cons a t =>
      have nd' := List.nodup_cons.mp nd
      have ha := h a (by simp)
      have hft : f a ∈ t := by
        rcases List.mem_cons.mp ha.1 with e | e
        · exact absurd e ha.2.2
        · exact e
      have hl := List.length_erase_of_mem hft
      have hp : 0 < t.length := List.length_pos_of_mem hft
      have := ih (t.erase (f a)) f (by simp at hk; omega) (nd'.2.erase _) fun x hx => by
        have hx' := (nd'.2.mem_erase_iff).mp hx
        have hxa : x ≠ a := fun e => nd'.1 (by rw [← e]; exact hx'.2)
        have := h x (by simp [hx'.2])
        refine ⟨(nd'.2.mem_erase_iff).mpr ⟨fun e => hxa ?_, ?_⟩, this.2⟩
        · rw [← this.2.1, e, ha.2.1]
        · rcases List.mem_cons.mp this.1 with e | e
          · exact absurd (by rw [← this.2.1, e]) hx'.1
          · exact e
      simp only [List.length_cons]
      omega
theorem nodup_map {l : List Nat} {f : Nat → Nat} (nd : l.Nodup) (h : ∀ x ∈ l, ∀ y ∈ l, f x = f y → x = y) : (l.map f).Nodup := by
  induction l with
  | nil => simp
  | cons a l ih =>
    have nd' := List.nodup_cons.mp nd
    rw [List.map_cons, List.nodup_cons]
    refine ⟨fun hm => ?_, ih nd'.2 fun x hx y hy => h x (by simp [hx]) y (by simp [hy])⟩
    obtain ⟨y, hy, e⟩ := List.mem_map.mp hm
    exact nd'.1 (by rw [← h y (by simp [hy]) a (by simp) e]; exact hy)
/-- the search is over: nobody reached evenly has a pair but within his block, or with one who is reached -/
theorem search_end {E : Env} {s : SS} (I : Inv E s) {n : Nat} (hn : ∀ v, s.ev v = true → v < n)
    (h1 : ∀ v w, s.ev v = true → E.G v w → s.ev w = false → s.bk w ≠ none) (h2 : ∀ v w, s.ev v = true → s.ev w = true → E.G v w → s.bs v = s.bs w ∨ E.m v = some w)
    (f : Nat → Nat) (hf : ∀ v, s.ev v = true → E.G v (f v) ∧ f (f v) = v) : False := by
  have gi : ∀ v, s.ev v = true → f v ≠ v := fun v hv e => by
    have := (hf v hv).1
    rw [e] at this
    exact E.gi v this
  have step1 : ∀ b, s.ev b = true → s.bs b = b → ∃ u, s.ev u = true ∧ s.bs u = b ∧ s.ev (f u) = false := by
    intro b hb hbb
    apply Classical.byContradiction
    intro hno
    have hall : ∀ u, s.ev u = true → s.bs u = b → s.ev (f u) = true := fun u h h' => by
      cases q : s.ev (f u) with
      | true => rfl
      | false => exact absurd ⟨u, h, h', q⟩ hno
    have ndB : ((List.range n).filter fun u => s.ev u && s.bs u == b).Nodup := List.nodup_range.filter _
    have mB : ∀ u, u ∈ (List.range n).filter (fun u => s.ev u && s.bs u == b) ↔ s.ev u = true ∧ s.bs u = b := fun u => by
      rw [List.mem_filter, List.mem_range]
      constructor
      · intro h; simpa using h.2
      · intro h; exact ⟨hn u h.1, by simpa using h⟩
    generalize (List.range n).filter (fun u => s.ev u && s.bs u == b) = Bk at ndB mB
    have hbB : b ∈ Bk := (mB b).mpr ⟨hb, hbb⟩
    have p1 := even_len Bk.length Bk f (Nat.le_refl _) ndB fun x hx => by
      have hx' := (mB x).mp hx
      have hw := hall x hx'.1 hx'.2
      have hg := hf x hx'.1
      refine ⟨(mB _).mpr ⟨hw, ?_⟩, hg.2, gi x hx'.1⟩
      rcases h2 x (f x) hx'.1 hw hg.1 with e | e
      · rw [← e]; exact hx'.2
      · rw [(I.mates hx'.1 hw e).1]; exact hx'.2
    have p2 := even_len (Bk.erase b).length (Bk.erase b) (fun u => (E.m u).getD u) (Nat.le_refl _) (ndB.erase _) fun x hx => by
      have hx1 := (ndB.mem_erase_iff).mp hx
      have hx' := (mB x).mp hx1.2
      have hnb : s.bs x ≠ x := fun e => hx1.1 (by rw [← e]; exact hx'.2)
      have hxr : x ≠ E.r := fun e => hnb (by rw [e]; exact I.br)
      obtain ⟨o, w, ho, _⟩ := I.B hx'.1 hxr
      have hd := I.D hx'.1 hnb ho
      have ho' := E.ms ho
      refine ⟨?_, ?_, ?_⟩
      · rw [ho]
        refine (ndB.mem_erase_iff).mpr ⟨fun e => ?_, (mB _).mpr ⟨hd.1, by rw [← hx'.2]; exact hd.2.1⟩⟩
        have e' : o = b := e
        rw [e'] at ho'
        have := I.E0 hb hbb ho'
        rw [hx'.1] at this; cases this
      · simp only [ho, ho', Option.getD_some]
      · simp only [ho, Option.getD_some]
        intro e
        rw [e] at ho
        exact E.mi x ho
    have hl := List.length_erase_of_mem hbB
    have hp : 0 < Bk.length := List.length_pos_of_mem hbB
    omega
  have step2 : ∀ b, s.ev b = true ∧ s.bs b = b → ∃ v, (s.ev v = true ∧ s.bs v = v ∧ v ≠ E.r) ∧ ∃ u, s.ev u = true ∧ s.bs u = b ∧ E.m v = some (f u) := by
    intro b hb
    obtain ⟨u, hu, hub, hfu⟩ := step1 b hb.1 hb.2
    have hbk := h1 u (f u) hu (hf u hu).1 hfu
    cases q : s.bk (f u) with
    | none => exact absurd q hbk
    | some w =>
      obtain ⟨v, hv, hve⟩ := I.F q hfu
      have hv' := E.ms hv
      refine ⟨v, ⟨hve, Classical.byContradiction fun hn => ?_, fun e => ?_⟩, u, hu, hub, hv'⟩
      · have := (I.D hve hn hv').1
        rw [hfu] at this; cases this
      · rw [e, E.mr] at hv'; cases hv'
  have ndB : ((List.range n).filter fun u => s.ev u && s.bs u == u).Nodup := List.nodup_range.filter _
  have mB : ∀ u, u ∈ (List.range n).filter (fun u => s.ev u && s.bs u == u) ↔ s.ev u = true ∧ s.bs u = u := fun u => by
    rw [List.mem_filter, List.mem_range]
    constructor
    · intro h; simpa using h.2
    · intro h; exact ⟨hn u h.1, by simpa using h⟩
  generalize (List.range n).filter (fun u => s.ev u && s.bs u == u) = Bs at ndB mB
  have hr : E.r ∈ Bs := (mB _).mpr ⟨I.er, I.br⟩
  have hch : ∃ g : Nat → Nat, ∀ b, s.ev b = true ∧ s.bs b = b → (s.ev (g b) = true ∧ s.bs (g b) = g b ∧ g b ≠ E.r) ∧ ∃ u, s.ev u = true ∧ s.bs u = b ∧ E.m (g b) = some (f u) := by
    refine ⟨fun b => if h : s.ev b = true ∧ s.bs b = b then Classical.choose (step2 b h) else 0, fun b h => ?_⟩
    have e : (if h : s.ev b = true ∧ s.bs b = b then Classical.choose (step2 b h) else 0) = Classical.choose (step2 b h) := dif_pos h
    show (s.ev (if h : s.ev b = true ∧ s.bs b = b then Classical.choose (step2 b h) else 0) = true ∧ _ ∧ _) ∧ _
    simp only [e]
    exact Classical.choose_spec (step2 b h)
  obtain ⟨g, hg⟩ := hch
  have nd := nodup_map (l := Bs) (f := g) ndB fun x hx y hy e => by
    obtain ⟨_, u, hu, hub, hm⟩ := hg x ((mB x).mp hx)
    obtain ⟨_, u', hu', hub', hm'⟩ := hg y ((mB y).mp hy)
    rw [e, hm'] at hm
    have e1 : f u' = f u := Option.some.inj hm
    rw [← hub, ← hub', ← (hf u hu).2, ← (hf u' hu').2, e1]
  have := nodup_len nd (l' := Bs.erase E.r) fun z hz => by
    obtain ⟨x, hx, e⟩ := List.mem_map.mp hz
    obtain ⟨h, _⟩ := hg x ((mB x).mp hx)
    rw [← e]
    exact (ndB.mem_erase_iff).mpr ⟨h.2.2, (mB _).mpr ⟨h.1, h.2.1⟩⟩
  have hl := List.length_erase_of_mem hr
  have hp : 0 < Bs.length := List.length_pos_of_mem hr
  rw [List.length_map] at this
  omega
end KM
/-! ### K6 -/
set_option Elab.async false
set_option linter.all false
/-! Ways as turns of a plan. -/
namespace KM
def norm (a b : Nat) : Pr := (min a b, max a b)
theorem norm_comm (a b : Nat) : norm a b = norm b a := by simp [norm, Nat.min_comm, Nat.max_comm]
theorem norm_of {e : Pr} (h : e.1 < e.2) : norm e.1 e.2 = e := by
  obtain ⟨a, b⟩ := e
  have h' : a < b := h
  simp only [norm, Prod.mk.injEq]; omega
theorem norm_ends (a b : Nat) : (norm a b = (a, b) ∧ a ≤ b) ∨ (norm a b = (b, a) ∧ b ≤ a) := by
  by_cases h : a ≤ b
  · left; refine ⟨?_, h⟩; simp only [norm, Prod.mk.injEq]; omega
  · right; refine ⟨?_, by omega⟩; simp only [norm, Prod.mk.injEq]; omega
theorem verts_norm (a b : Nat) (l : List Pr) : (verts (norm a b :: l)).Perm (a :: b :: verts l) := by
  rcases norm_ends a b with ⟨h, _⟩ | ⟨h, _⟩
  · rw [h]; exact List.Perm.refl _
  · rw [h]; exact List.Perm.swap _ _ _
/-- the web's pairs: each with its lesser person first, all below n -/
def IsWeb (n : Nat) (ps : List Pr) : Prop := ∀ e ∈ ps, e.1 < e.2 ∧ e.2 < n
/-! ### mates -/
def mfun (p : List Pr) : Nat → Option Nat := p.foldl (fun f e => fup (fup f e.1 (some e.2)) e.2 (some e.1)) (fun _ => none)
theorem mfun_snoc (p : List Pr) (e : Pr) : mfun (p ++ [e]) = fup (fup (mfun p) e.1 (some e.2)) e.2 (some e.1) := by simp [mfun, List.foldl_append]
theorem mfun_iff {p : List Pr} (nd : (verts p).Nodup) (u v : Nat) : mfun p u = some v ↔ (u, v) ∈ p ∨ (v, u) ∈ p := by
  have key : ∀ r : List Pr, (verts r.reverse).Nodup → (mfun r.reverse u = some v ↔ (u, v) ∈ r.reverse ∨ (v, u) ∈ r.reverse) := by
    intro r
    induction r with
    | nil => intro _; simp [mfun]
    | cons e r ih =>
      intro nd
      rw [List.reverse_cons] at nd ⊢
      rw [verts_app, List.nodup_append] at nd
      obtain ⟨n1, n2, n3⟩ := nd
      have hv : verts [e] = [e.1, e.2] := rfl
      rw [hv] at n2 n3
      have ne : e.1 ≠ e.2 := by simpa using n2
      have o1 : ∀ d ∈ r.reverse, d.1 ≠ e.1 ∧ d.1 ≠ e.2 ∧ d.2 ≠ e.1 ∧ d.2 ≠ e.2 := fun d hd => by
        have a := mem_verts.mpr ⟨d, hd, .inl rfl⟩
        have b := mem_verts.mpr ⟨d, hd, .inr rfl⟩
        exact ⟨n3 _ a _ (by simp), n3 _ a _ (by simp), n3 _ b _ (by simp), n3 _ b _ (by simp)⟩
      have ih' := ih n1
      rw [mfun_snoc]
      obtain ⟨e1, e2⟩ := e
      simp only at ne o1 ⊢
      simp only [List.mem_append, List.mem_singleton, Prod.mk.injEq]
      by_cases h2 : u = e2
      · subst h2
        rw [fup_same]
        constructor
        · intro h; have : e1 = v := Option.some.inj h
          right; right; exact ⟨this.symm, rfl⟩
        · rintro ((h | h) | (h | h))
          · exact absurd rfl (o1 _ h).2.1
          · exact absurd h.1.symm ne
          · exact absurd rfl (o1 _ h).2.2.2
          · rw [h.1]
      · rw [fup_ne h2]
        by_cases h1 : u = e1
        · subst h1
          rw [fup_same]
          constructor
          · intro h; have : e2 = v := Option.some.inj h
            left; right; exact ⟨rfl, this.symm⟩
          · rintro ((h | h) | (h | h))
            · exact absurd rfl (o1 _ h).1
            · rw [h.2]
            · exact absurd rfl (o1 _ h).2.2.1
            · exact absurd h.2 h2
        · rw [fup_ne h1, ih']
          constructor
          · rintro (h | h)
            · exact .inl (.inl h)
            · exact .inr (.inl h)
          · rintro ((h | h) | (h | h))
            · exact .inl h
            · exact absurd h.1 h1
            · exact .inr h
            · exact absurd h.2 h2
  have := key p.reverse (by simpa using nd)
  simpa using this
theorem mfun_norm {ps p : List Pr} {n : Nat} (hw : IsWeb n ps) (hp : IsPlan ps p) {u v : Nat} : mfun p u = some v ↔ norm u v ∈ p := by
  rw [mfun_iff hp.2]
  have lt : ∀ e ∈ p, e.1 < e.2 := fun e he => (hw e (hp.1 e he)).1
  constructor
  · rintro (h | h)
    · have := lt _ h
      rw [show norm u v = (u, v) from norm_of this]; exact h
    · have := lt _ h
      rw [norm_comm, show norm v u = (v, u) from norm_of this]; exact h
  · intro h
    rcases norm_ends u v with ⟨e, _⟩ | ⟨e, _⟩
    · rw [e] at h; exact .inl h
    · rw [e] at h; exact .inr h
theorem mfun_none {ps p : List Pr} (hp : IsPlan ps p) {u : Nat} : mfun p u = none ↔ u ∉ verts p := by
  constructor
  · intro h hv
    obtain ⟨e, he, h2⟩ := mem_verts.mp hv
    rcases h2 with rfl | rfl
    · rw [(mfun_iff hp.2 e.1 e.2).mpr (.inl he)] at h; cases h
    · rw [(mfun_iff hp.2 e.2 e.1).mpr (.inr he)] at h; cases h
  · intro h
    cases q : mfun p u with
    | none => rfl
    | some v =>
      rcases (mfun_iff hp.2 u v).mp q with h' | h'
      · exact absurd (mem_verts.mpr ⟨_, h', .inl rfl⟩) h
      · exact absurd (mem_verts.mpr ⟨_, h', .inr rfl⟩) h
/-- the search's surroundings: a web, a plan of it, somebody not served -/
def envOf {n : Nat} {ps p : List Pr} (hw : IsWeb n ps) (hp : IsPlan ps p) {x : Nat} (hx : x ∉ verts p) : Env where
  G := fun u v => norm u v ∈ ps
  gs := fun {u v} h => by rw [norm_comm]; exact h
  gi := fun u h => by
    have := (hw _ h).1
    simp [norm] at this
  m := mfun p
  ms := fun {u v} h => by rw [mfun_norm hw hp] at h ⊢; rw [norm_comm]; exact h
  r := x
  mr := (mfun_none hp).mpr hx
  mi := fun u h => by
    rw [mfun_norm hw hp] at h
    have := (hw _ (hp.1 _ h)).1
    simp [norm] at this
/-! ### ways -/
def steps : List Nat → List Pr
  | a :: b :: l => norm a b :: steps (b :: l)
  | _ => []
theorem steps_snoc : ∀ (l : List Nat) (a b : Nat), steps (l ++ [a, b]) = steps (l ++ [a]) ++ [norm a b]
  | [], a, b => rfl
  | [c], a, b => rfl
  | c :: d :: l, a, b => by
    have := steps_snoc (d :: l) a b
    simp only [List.cons_append] at this ⊢
    rw [steps, steps, this, List.cons_append]
def altn (k : Nat) : List Bool := (List.range k).map fun i => i % 2 == 1
theorem altn_succ (k : Nat) : altn (k + 1) = altn k ++ [k % 2 == 1] := by simp [altn, List.range_succ]
/-- the way as it is told: from the root -/
def pathR (m : Nat → Option Nat) : List Nat → List Nat
  | [] => []
  | [r] => [r]
  | v :: w :: L => pathR m (w :: L) ++ [(m v).getD 0, v]
/-- the way as it is found: from its end, each one and his mate -/
def wl (m : Nat → Option Nat) : List Nat → List Nat
  | [] => []
  | [r] => [r]
  | v :: w :: L => v :: (m v).getD 0 :: wl m (w :: L)
theorem wl_rev (m : Nat → Option Nat) : ∀ L, (wl m L).reverse = pathR m L
  | [] => rfl
  | [r] => rfl
  | v :: w :: L => by
    rw [wl, pathR, List.reverse_cons, List.reverse_cons, wl_rev m (w :: L)]
    simp
def adds (m : Nat → Option Nat) : List Nat → List Pr
  | v :: w :: L => norm w ((m v).getD 0) :: adds m (w :: L)
  | _ => []
def rems (m : Nat → Option Nat) : List Nat → List Pr
  | v :: w :: L => norm ((m v).getD 0) v :: rems m (w :: L)
  | _ => []
section
variable {n : Nat} {ps p : List Pr} {x : Nat} (hw : IsWeb n ps) (hp : IsPlan ps p) (hx : x ∉ verts p) {s : SS}
theorem path_last (m : Nat → Option Nat) : ∀ (L : List Nat) (v : Nat), ∃ q, pathR m (v :: L) = q ++ [v]
  | [], v => ⟨[], rfl⟩
  | w :: L, v => ⟨pathR m (w :: L) ++ [(m v).getD 0], by rw [pathR]; simp⟩
theorem path_first (m : Nat → Option Nat) : ∀ (L : List Nat) (r : Nat), ∃ q, pathR m (L ++ [r]) = r :: q
  | [], r => ⟨[], rfl⟩
  | [v], r => ⟨[(m v).getD 0, v], rfl⟩
  | v :: w :: L, r => by
    obtain ⟨q, hq⟩ := path_first m (w :: L) r
    refine ⟨q ++ [(m v).getD 0, v], ?_⟩
    show pathR m (w :: (L ++ [r])) ++ _ = _
    have : w :: (L ++ [r]) = (w :: L) ++ [r] := rfl
    rw [this, hq]; rfl
theorem path_mem (m : Nat → Option Nat) : ∀ (L : List Nat) (y : Nat), y ∈ pathR m L → y ∈ L ∨ ∃ z ∈ L, y = (m z).getD 0
  | [], y, h => by simp [pathR] at h
  | [r], y, h => .inl h
  | v :: w :: L, y, h => by
    rw [pathR, List.mem_append] at h
    rcases h with h | h
    · rcases path_mem m (w :: L) y h with h | ⟨z, hz, h⟩
      · exact .inl (by simp [h])
      · exact .inr ⟨z, by simp [hz], h⟩
    · simp at h
      rcases h with h | h
      · exact .inr ⟨v, by simp, h⟩
      · exact .inl (by simp [h])
theorem path_len (m : Nat → Option Nat) : ∀ (L : List Nat) (v : Nat), (pathR m (v :: L)).length = 2 * L.length + 1
  | [], v => rfl
  | w :: L, v => by
    rw [pathR, List.length_append, path_len m L w]; simp; omega
theorem steps_len : ∀ (l : List Nat), (steps l).length = l.length - 1
  | [] => rfl
  | [a] => rfl
  | a :: b :: l => by rw [steps, List.length_cons, steps_len (b :: l)]; simp
theorem path_steps (m : Nat → Option Nat) (v w : Nat) (L : List Nat) : steps (pathR m (v :: w :: L)) = steps (pathR m (w :: L)) ++ [norm w ((m v).getD 0), norm ((m v).getD 0) v] := by
  obtain ⟨q, hq⟩ := path_last m L w
  rw [pathR, hq]
  have e1 : q ++ [w] ++ [(m v).getD 0, v] = (q ++ [w]) ++ [(m v).getD 0, v] := rfl
  rw [e1, steps_snoc]
  have e2 : q ++ [w] ++ [(m v).getD 0] = q ++ [w, (m v).getD 0] := by simp
  rw [e2, steps_snoc]
  simp
include hw hp
/-- each step's kind -/
theorem path_told {v : Nat} {L : List Nat} (I : Inv (envOf hw hp hx) s) (h : Ch (envOf hw hp hx) s v L) :
    (∀ e ∈ steps (pathR (mfun p) L), e ∈ ps) ∧ (steps (pathR (mfun p) L)).map (fun e => decide (e ∈ p)) = altn (2 * (L.length - 1)) ∧ (∀ e ∈ adds (mfun p) L, e ∈ ps ∧ e ∉ p) ∧ (∀ e ∈ rems (mfun p) L, e ∈ p) ∧
    (∀ e, e ∈ steps (pathR (mfun p) L) ↔ e ∈ adds (mfun p) L ∨ e ∈ rems (mfun p) L) ∧ ((steps (pathR (mfun p) L)).filter (fun e => !decide (e ∈ p))).Perm (adds (mfun p) L) := by
  induction h with
  | root => exact ⟨by simp [pathR, steps], rfl, by simp [adds], by simp [rems], by simp [pathR, steps, adds, rems], by simp [pathR, steps, adds]⟩
  | @step v o w L hev hm hb hc ih =>
    obtain ⟨i1, i2, i3, i4, i5, i6⟩ := ih
    obtain ⟨L', e⟩ := hc.head
    subst e
    have hne : v ≠ x := fun e => by
      have := (envOf hw hp hx).mr
      rw [show (envOf hw hp hx).r = v from e.symm, hm] at this; cases this
    have hmo : mfun p v = some o := hm
    have hB := I.B hev hne
    obtain ⟨o', w', a1, a2, a3, a4, a5⟩ := hB
    rw [hm] at a1; cases a1
    rw [hb] at a2; cases a2
    have g : norm w o ∈ ps := a4
    have hin : norm o v ∈ p := by rw [norm_comm]; exact (mfun_norm hw hp).mp hmo
    have hout : norm w o ∉ p := fun h => by
      rw [norm_comm] at h
      have h1 := (mfun_norm hw hp).mpr h
      have h2 := (mfun_norm hw hp).mpr hin
      rw [h1] at h2; cases h2
      exact a5 rfl
    rw [path_steps, hmo]
    simp only [Option.getD_some, adds, rems, hmo]
    refine ⟨fun e he => ?_, ?_, fun e he => ?_, fun e he => ?_, fun e => ?_, ?_⟩
    · rcases List.mem_append.mp he with h | h
      · exact i1 e h
      · simp at h
        rcases h with h | h
        · rw [h]; exact g
        · rw [h]; exact hp.1 _ hin
    · rw [List.map_append, i2]
      have : 2 * ((v :: w :: L').length - 1) = 2 * ((w :: L').length - 1) + 1 + 1 := by simp; omega
      rw [this, altn_succ, altn_succ]
      simp [hin, hout]
    · rcases List.mem_cons.mp he with h | h
      · rw [h]; exact ⟨g, hout⟩
      · exact i3 e h
    · rcases List.mem_cons.mp he with h | h
      · rw [h]; exact hin
      · exact i4 e h
    · rw [List.mem_append, i5 e]
      simp only [List.mem_cons, List.not_mem_nil, or_false]
      constructor
      · rintro ((h | h) | (h | h))
        · exact .inl (.inr h)
        · exact .inr (.inr h)
        · exact .inl (.inl h)
        · exact .inr (.inl h)
      · rintro ((h | h) | (h | h))
        · exact .inr (.inl h)
        · exact .inl (.inl h)
        · exact .inr (.inr h)
        · exact .inl (.inr h)
    · rw [List.filter_append]
      have : ([norm w o, norm o v].filter fun e => !decide (e ∈ p)) = [norm w o] := by simp [hin, hout]
      rw [this]
      exact (List.perm_append_comm).trans (i6.cons _)
omit hw hp in
theorem path_verts (m : Nat → Option Nat) : ∀ (L : List Nat) (v : Nat), (v :: verts (adds m (v :: L))).Perm (pathR m (v :: L))
  | [], v => List.Perm.refl _
  | w :: L, v => by
    have ih := path_verts m L w
    rw [pathR, adds]
    refine ((verts_norm _ _ _).cons v).trans ?_
    have h1 : (v :: w :: (m v).getD 0 :: verts (adds m (w :: L))).Perm ((w :: verts (adds m (w :: L))) ++ [(m v).getD 0, v]) := by
      refine List.Perm.trans ?_ (List.perm_append_comm)
      exact (List.Perm.cons v (List.Perm.swap _ _ _)).trans (List.Perm.swap _ _ _)
    exact h1.trans (ih.append_right _)
omit hw hp in
theorem path_verts2 (m : Nat → Option Nat) : ∀ (L : List Nat) (r : Nat), (r :: verts (rems m (L ++ [r]))).Perm (pathR m (L ++ [r]))
  | [], r => List.Perm.refl _
  | [v], r => by
    show (r :: verts [norm ((m v).getD 0) v]).Perm [r, (m v).getD 0, v]
    exact (verts_norm _ _ _).cons r
  | v :: w :: L, r => by
    have ih := path_verts2 m (w :: L) r
    show (r :: verts (norm ((m v).getD 0) v :: rems m ((w :: L) ++ [r]))).Perm (pathR m ((w :: L) ++ [r]) ++ [(m v).getD 0, v])
    refine ((verts_norm _ _ _).cons r).trans ?_
    have h1 : (r :: (m v).getD 0 :: v :: verts (rems m ((w :: L) ++ [r]))).Perm ((r :: verts (rems m ((w :: L) ++ [r]))) ++ [(m v).getD 0, v]) := by
      refine List.Perm.trans ?_ (List.perm_append_comm)
      exact (List.Perm.swap _ _ _).trans (List.Perm.cons _ (List.Perm.swap _ _ _))
    exact h1.trans (ih.append_right _)
theorem path_nodup {v : Nat} {L : List Nat} (I : Inv (envOf hw hp hx) s) (h : Ch (envOf hw hp hx) s v L) (g : Good (envOf hw hp hx) L) : (pathR (mfun p) L).Nodup := by
  induction h with
  | root => simp [pathR]
  | @step v o w L hev hm hb hc ih =>
    obtain ⟨L', e⟩ := hc.head
    subst e
    have hmo : mfun p v = some o := hm
    have ih' := ih fun y hy o ho hmem => g y (by simp [hy]) o ho (by simp [hmem])
    have nd := Ch.nodup (Ch.step hev hm hb hc)
    have ndv := (List.nodup_cons.mp nd).1
    have hov : o ≠ v := fun e => (envOf hw hp hx).mi v (by rw [e] at hm; exact hm)
    rw [pathR, hmo, List.nodup_append]
    refine ⟨ih', by simp [hov], fun a ha b hb e => ?_⟩
    subst e
    have hb' : a = o ∨ a = v := by simpa using hb
    have tot : ∀ z ∈ w :: L', z ≠ x → ∃ o', mfun p z = some o' := fun z hz hne => by
      obtain ⟨o', w', q, _⟩ := I.B (hc.ev I z hz) hne
      exact ⟨o', q⟩
    have hmem : a ∈ w :: L' ∨ ∃ z ∈ w :: L', mfun p z = some a := by
      have hpth : ∀ (L : List Nat) (v : Nat), Ch (envOf hw hp hx) s v L → ∀ y ∈ pathR (mfun p) L, y ∈ L ∨ ∃ z ∈ L, mfun p z = some y := by
        intro L v h
        induction h with
        | root => intro y hy; exact .inl hy
        | @step v o w L hev hm hb hc ih =>
          obtain ⟨L', e⟩ := hc.head
          subst e
          intro y hy
          rw [pathR, List.mem_append] at hy
          rcases hy with hy | hy
          · rcases ih y hy with h | ⟨z, hz, h⟩
            · exact .inl (by simp [h])
            · exact .inr ⟨z, by simp [hz], h⟩
          · have hmo : mfun p v = some o := hm
            rw [hmo] at hy
            simp at hy
            rcases hy with hy | hy
            · exact .inr ⟨v, by simp, by rw [hy]; exact hmo⟩
            · exact .inl (by simp [hy])
      exact hpth _ _ hc a ha
    rcases hb' with e | e
    · subst e
      rcases hmem with h | ⟨z, hz, h⟩
      · exact g v (by simp) _ hm (by simp [h])
      · have h1 := (envOf hw hp hx).ms (show (envOf hw hp hx).m z = some a from h)
        have h2 := (envOf hw hp hx).ms hm
        rw [h1] at h2; cases h2
        exact ndv hz
    · subst e
      rcases hmem with h | ⟨z, hz, h⟩
      · exact ndv h
      · exact g z (by simp [hz]) a h (by simp)
theorem path_lt {v : Nat} {L : List Nat} (I : Inv (envOf hw hp hx) s) (hn : ∀ v, s.ev v = true → v < n) (h : Ch (envOf hw hp hx) s v L) : ∀ y ∈ pathR (mfun p) L, y < n := by
  induction h with
  | root => intro y hy; rw [List.mem_singleton.mp hy]; exact hn _ I.er
  | @step v o w L hev hm hb hc ih =>
    obtain ⟨L', e⟩ := hc.head
    subst e
    have hmo : mfun p v = some o := hm
    intro y hy
    rw [pathR, hmo, List.mem_append] at hy
    rcases hy with hy | hy
    · exact ih y hy
    · simp at hy
      rcases hy with rfl | rfl
      · have hh := (mfun_norm hw hp).mp hmo
        have hlt := hw _ (hp.1 _ hh)
        rcases norm_ends v y with ⟨e, hle⟩ | ⟨e, hle⟩
        · rw [e] at hlt; exact hlt.2
        · rw [e] at hlt; exact Nat.lt_trans hlt.1 hlt.2
      · exact hn _ hev
/-- the plan turned by an even way -/
def newPlan (p : List Pr) (st : List Pr) : List Pr := p.filter (fun e => !decide (e ∈ st)) ++ st.filter (fun e => !decide (e ∈ p))
omit hw in
theorem verts_nodup_pairs {q : List Pr} (h : (verts q).Nodup) : q.Nodup := by
  induction q with
  | nil => simp
  | cons e q ih =>
    rw [verts_cons] at h
    have h' := List.nodup_cons.mp h
    have h2 := List.nodup_cons.mp h'.2
    refine List.nodup_cons.mpr ⟨fun he => h'.1 ?_, ih h2.2⟩
    exact List.mem_cons_of_mem _ (mem_verts.mpr ⟨e, he, .inl rfl⟩)
theorem turn_even {v : Nat} {L : List Nat} (I : Inv (envOf hw hp hx) s) (h : Ch (envOf hw hp hx) s v L) (g : Good (envOf hw hp hx) L) :
    (∀ e ∈ newPlan p (steps (pathR (mfun p) L)), e ∈ ps) ∧ (x :: verts p).Perm (v :: verts (newPlan p (steps (pathR (mfun p) L)))) := by
  obtain ⟨i1, i2, i3, i4, i5, i6⟩ := path_told hw hp hx I h
  have nd := path_nodup hw hp hx I h g
  obtain ⟨L', eL⟩ : ∃ L', L = L' ++ [x] := by
    clear i1 i2 i3 i4 i5 i6 nd g
    induction h with
    | root => exact ⟨[], rfl⟩
    | step _ _ _ _ ih => obtain ⟨L', e⟩ := ih; exact ⟨_ :: L', by rw [e]; rfl⟩
  obtain ⟨L2, eL2⟩ := h.head
  refine ⟨fun e he => ?_, ?_⟩
  · rcases List.mem_append.mp he with he | he
    · exact hp.1 e (List.mem_filter.mp he).1
    · exact i1 e (List.mem_filter.mp he).1
  · have v1 := path_verts (mfun p) L2 v
    have v2 := path_verts2 (mfun p) L' x
    rw [← eL2] at v1
    rw [← eL] at v2
    have ndr : (rems (mfun p) L).Nodup := verts_nodup_pairs hp (by
      have := v2.nodup_iff.mpr nd
      exact (List.nodup_cons.mp this).2)
    have ndp : p.Nodup := verts_nodup_pairs hp hp.2
    have e1 : (p.filter fun e => decide (e ∈ steps (pathR (mfun p) L))).Perm (rems (mfun p) L) := by
      rw [List.perm_ext_iff_of_nodup (ndp.filter _) ndr]
      intro e
      rw [List.mem_filter]
      constructor
      · rintro ⟨h1, h2⟩
        rcases (i5 e).mp (by simpa using h2) with h3 | h3
        · exact absurd h1 (i3 e h3).2
        · exact h3
      · intro h3; exact ⟨i4 e h3, by simpa using (i5 e).mpr (.inr h3)⟩
    have e2 := List.filter_append_perm (fun e => decide (e ∈ steps (pathR (mfun p) L))) p
    have e3 : (verts p).Perm (verts (rems (mfun p) L) ++ verts (p.filter fun e => !decide (e ∈ steps (pathR (mfun p) L)))) := by
      rw [← verts_app]
      exact verts_perm (e2.symm.trans (e1.append_right _))
    have e4 : (verts (newPlan p (steps (pathR (mfun p) L)))).Perm (verts (p.filter fun e => !decide (e ∈ steps (pathR (mfun p) L))) ++ verts (adds (mfun p) L)) := by
      rw [newPlan, verts_app]
      exact (verts_perm i6).append_left _
    refine (e3.cons x).trans ?_
    refine List.Perm.trans ?_ (e4.cons v).symm
    have e5 : (x :: (verts (rems (mfun p) L) ++ verts (p.filter fun e => !decide (e ∈ steps (pathR (mfun p) L))))).Perm (pathR (mfun p) L ++ verts (p.filter fun e => !decide (e ∈ steps (pathR (mfun p) L)))) := v2.append_right _
    refine e5.trans (List.perm_append_comm.trans ?_)
    exact (v1.symm.append_left _).trans List.perm_middle
/-- somebody not served at the end: a growing way -/
theorem turn_grow {v l : Nat} {L : List Nat} (I : Inv (envOf hw hp hx) s) (h : Ch (envOf hw hp hx) s v L) (g : Good (envOf hw hp hx) L) (hl : l ∉ verts p) (hg : norm v l ∈ ps) :
    steps (pathR (mfun p) L ++ [l]) = steps (pathR (mfun p) L) ++ [norm v l] ∧
    (∀ e ∈ newPlan p (steps (pathR (mfun p) L ++ [l])), e ∈ ps) ∧ (x :: l :: verts p).Perm (verts (newPlan p (steps (pathR (mfun p) L ++ [l])))) := by
  obtain ⟨L2, eL2⟩ := h.head
  obtain ⟨q, hq⟩ := path_last (mfun p) L2 v
  have hst : steps (pathR (mfun p) L ++ [l]) = steps (pathR (mfun p) L) ++ [norm v l] := by
    rw [eL2, hq]
    have : q ++ [v] ++ [l] = q ++ [v, l] := by simp
    rw [this, steps_snoc]
  have hnp : norm v l ∉ p := fun h' => by
    apply hl
    rcases norm_ends v l with ⟨e, _⟩ | ⟨e, _⟩
    · rw [e] at h'; exact mem_verts.mpr ⟨_, h', .inr rfl⟩
    · rw [e] at h'; exact mem_verts.mpr ⟨_, h', .inl rfl⟩
  obtain ⟨j1, j2⟩ := turn_even hw hp hx I h g
  have f1 : (p.filter fun e => !decide (e ∈ steps (pathR (mfun p) L) ++ [norm v l])) = p.filter fun e => !decide (e ∈ steps (pathR (mfun p) L)) := by
    apply List.filter_congr
    intro e he
    have : e ≠ norm v l := fun h => hnp (h ▸ he)
    simp [this]
  have f2 : newPlan p (steps (pathR (mfun p) L) ++ [norm v l]) = newPlan p (steps (pathR (mfun p) L)) ++ [norm v l] := by
    rw [newPlan, newPlan, f1, List.filter_append]
    have : ([norm v l].filter fun e => !decide (e ∈ p)) = [norm v l] := by simp [hnp]
    rw [this, List.append_assoc]
  refine ⟨hst, ?_, ?_⟩
  · rw [hst, f2]
    intro e he
    rcases List.mem_append.mp he with h | h
    · exact j1 e h
    · rw [List.mem_singleton.mp h]; exact hg
  · rw [hst, f2, verts_app]
    have k1 : (verts [norm v l]).Perm [v, l] := verts_norm v l []
    refine List.Perm.trans ?_ (k1.append_left _).symm
    have k2 : (x :: l :: verts p).Perm (l :: (v :: verts (newPlan p (steps (pathR (mfun p) L))))) := (List.Perm.swap _ _ _).trans (j2.cons l)
    refine k2.trans ?_
    have k3 : (l :: v :: verts (newPlan p (steps (pathR (mfun p) L)))).Perm ([v, l] ++ verts (newPlan p (steps (pathR (mfun p) L)))) := List.Perm.swap _ _ _
    exact k3.trans List.perm_append_comm
end
end KM
/-! ### DX -/
set_option Elab.async false
set_option linter.all false
set_option maxRecDepth 100000
set_option maxHeartbeats 4000000
/-! Rules that the layer lacks: data within tuples, sorted of any data, least and greatest of data, len(set(tuple)), calls by keywords alone, repr. -/
namespace DX
open PySem PySem.Spec PyProof.Rows L2
section
variable {X : Cx}
/-! ### in, not in over a tuple of data -/
def rInT (K : PySem.W.Frag) (neg : Bool) : R2 := fun x y H Q => ∃ d ds, Dp K H x d ∧ Dp K H y (.tuple ds) ∧ SeqAt.shaped d = true ∧ SeqAt.shaped (.tuple ds) = true ∧
  Q (.bl (if neg then !(ds.any fun z => PyData.eqv z d) else ds.any fun z => PyData.eqv z d)) H
theorem op_inT (hu : X.A.units + 65 < cLine) : OpR X (compareOp .In) (rInT X.K false) := by
  intro pins s σ H x y v u Q I rx ry ⟨d, ds, hd, he, sd, se, q⟩
  obtain ⟨as, r1⟩ := Dp.reads I d x v hd rx
  obtain ⟨bs, r2⟩ := Dp.reads I _ y u he ry
  refine SeqAt.in_tuple_reads r2 r1 (SeqAt.canLay_of_shaped se) (SeqAt.canLay_of_shaped sd) ?_ ⟨.bl _, H, I, rfl, q⟩
  exact room_in_shaped sd hu
theorem op_notInT (hu : X.A.units + 65 < cLine) : OpR X (compareOp .NotIn) (rInT X.K true) := by
  intro pins s σ H x y v u Q I rx ry ⟨d, ds, hd, he, sd, se, q⟩
  obtain ⟨as, r1⟩ := Dp.reads I d x v hd rx
  obtain ⟨bs, r2⟩ := Dp.reads I _ y u he ry
  refine SeqAt.notIn_tuple_reads r2 r1 (SeqAt.canLay_of_shaped se) (SeqAt.canLay_of_shaped sd) ?_ ⟨.bl _, H, I, rfl, q⟩
  exact room_in_shaped sd hu
end
end DX
/-! ### DX2 -/
set_option Elab.async false
set_option linter.all false
set_option maxRecDepth 100000
set_option maxHeartbeats 4000000
namespace DX
open PySem PySem.Spec PySem.W PyProof.Rows L2
section
variable {prog : Program} {w : World} {A : Around} {E : Value → Shared → Prop} {s : Shared}
/-- the items of a list or tuple, and that the heap only grows -/
theorem gather {it : Addr} {T : String} {o : Obj} {items : Array Value} {n : Nat} {Q : List Value → Shared → Prop} (hT : T = "list" ∨ T = "tuple") (ho : s.heap.get? it = some o) (hc : o.cls = .type T) (hd : o.data = .seq items n)
    (hsz : items.size ≤ sizeLine) (hQ : ∀ h', s.heap.objs.size ≤ h'.objs.size → (∀ b u, s.heap.get? b = some u → h'.get? b = some u) → Q items.toList { s with heap := h' }) :
    wpAny (model prog w) A (collect (.ref it)) Q E s := by
  unfold collect
  refine wpAny_bind (wpAny_runValue (codeAny_builtin F.entry_proto_collect ?_))
  rw [Around.under_plainId F.plain_proto_collect _]
  show wpAny _ A.in1 (newList [] >>= fun z => again (.builtin "list.__iadd__" ⟨[z, .ref it], []⟩)) _ _ s
  refine wpAny_bind (wpAny_newObj_type (wpAny_pure ⟨plainId_quiet F.plain_list_iadd _, codeAny_builtin F.entry_list_iadd ?_⟩))
  rw [Around.under_plainId F.plain_list_iadd _]
  let g0 : Heap := s.heap.push { cls := .type "list", data := .seq ([] : List Value).toArray }
  let g1 : Heap := g0.update s.heap.objs.size (Obj.mapSeq (· ++ items))
  have at0 : g0.get? s.heap.objs.size = some { cls := .type "list", data := .seq #[] 0 } := Heap.get?_push_size _ rfl
  have at1 := Heap.get?_update_self (Obj.mapSeq (· ++ items)) at0 rfl
  have old : ∀ b u, s.heap.get? b = some u → g1.get? b = some u := fun b u hb =>
    (Heap.get?_update_other _ _ (Nat.ne_of_gt (Heap.lt_size hb))).trans (Heap.get?_push_of_some _ hb)
  have sz : s.heap.objs.size ≤ g1.objs.size := by
    show s.heap.objs.size ≤ (g0.update _ _).objs.size
    rw [Heap.size_update]
    show s.heap.objs.size ≤ (s.heap.push _).objs.size
    rw [Heap.size_push]; exact Nat.le_succ _
  have last : wpAny (model prog w) A (match Value.ref s.heap.objs.size with
      | Value.ref z => do
        match (← load z).data with
          | Data.seq xs _ => pure xs.toList
          | _ => unsupported "internal:collect"
      | _ => unsupported "internal:collect") Q E { s with heap := g1 } := by
    show wpAny (model prog w) A (load s.heap.objs.size >>= _) _ _ _
    refine wpAny_bind (wpAny_load at1 (wpAny_pure ?_))
    have e2 : ((#[] : Array Value) ++ items).toList = items.toList := by simp
    show Q ((#[] : Array Value) ++ items).toList _
    rw [e2]; exact hQ g1 sz old
  refine wpAny_mono (wpAny_extend_seq (hsz := hsz) (A := A) (R := fun r t => r = .ok (.ret (.ref s.heap.objs.size)) ∧ t = { s with heap := g1 })
    (s := { s with heap := g0 }) _ it _ 0 hT at0 (Heap.get?_push_of_some _ ho) hc hd ⟨rfl, rfl⟩) (fun r t z => ?_) fun e t z => absurd z.1 (by simp)
  cases r with
  | done f =>
    obtain ⟨z1, z2⟩ := z
    cases z1
    subst z2
    exact last
  | again c' => exact ⟨z.1, codeAny_mono z.2 fun r t' hr => by
      obtain ⟨z1, z2⟩ := hr
      subst z1 z2
      exact last⟩
variable {β : Type} {R : Value → β → Prop} {enc : β → PyData} {bs : List β}
theorem sorted_any {it : Addr} {T : String} {o : Obj} {items : Array Value} {n : Nat} {Q : Value → Shared → Prop} (hT : T = "list" ∨ T = "tuple") (ho : s.heap.get? it = some o) (hc : o.cls = .type T) (hd : o.data = .seq items n)
    (e : EachIs R items.toList bs) (er : EachIs (fun v b => ∃ as, Reads s.heap v (enc b) as) items.toList bs) (hal : AllAlike (bs.map enc)) (hk : Sortable (bs.map enc)) (hL : bs.length ≤ sizeLine)
    (hu : ∀ b, b ∈ bs → A.units + 2 + (enc b).depth < cLine)
    (h : ∀ (out : List Value) (h' : Heap) (p : Addr) (c : Nat), (∀ b o, s.heap.get? b = some o → h'.get? b = some o) → s.heap.objs.size ≤ p → h'.get? p = some (seqObj "list" out.toArray c) →
      EachIs R out (bs.mergeSort (dataLe false enc)) → Q (.ref p) { s with heap := h' }) :
    wpAny (model prog w) A (call (.builtin "sorted") [.ref it]) Q E s := by
  have hsz : items.size ≤ sizeLine := by have := e.length; rw [Array.length_toList] at this; omega
  refine Calls.call_function_entry kind_sorted plain_sorted entry_sorted (args_sorted1 _) ?_
  unfold Builtin.«sorted»
  refine wpAny_bind (m := checkCount "sorted" 1 1 _) (wpAny_pure ?_)
  refine wpAny_bind (gather (A := A.in1) hT ho hc hd hsz fun h1 z1 k1 => ?_)
  refine wpAny_bind (wpAny_newList ?_ (by rw [Array.length_toList]; exact hsz))
  have k2 : ∀ b u, s.heap.get? b = some u → (h1.push { cls := .type "list", data := .seq items.toList.toArray }).get? b = some u := fun b u hb => Heap.get?_push_of_some _ (k1 b u hb)
  have hnew : (h1.push { cls := .type "list", data := .seq items.toList.toArray }).get? h1.objs.size = some (seqObj "list" items.toList.toArray 0) := Heap.get?_push_size _ rfl
  have er2 : EachIs (fun v b => ∃ as, Reads (h1.push { cls := .type "list", data := .seq items.toList.toArray }) v (enc b) as ∧ h1.objs.size ∉ as) items.toList bs := er.mono fun v b ⟨as, r⟩ => by
    refine ⟨as, PyProof.Rows.Reads.keeps k2 r, fun hm => ?_⟩
    obtain ⟨u, hu'⟩ := PyProof.On.reads_mem_get r _ hm
    exact absurd (Heap.lt_size (k1 _ u hu')) (Nat.lt_irrefl _)
  refine wpAny_bind (wpAny_holding (list_sort_data (s := { s with heap := h1.push { cls := .type "list", data := .seq items.toList.toArray } }) hnew e er2 hal hk hL (fun b hb => by have := hu b hb; show A.units + 1 + 1 + _ < _; omega) fun out ho2 hs => ?_))
  obtain ⟨c, hc2⟩ := sortedHeap_at (out := out.toArray) hnew
  refine wpAny_pure ⟨_, rfl, h out _ h1.objs.size c (fun b u hb => ?_) z1 hc2 hs⟩
  have hlt : b < h1.objs.size := Heap.lt_size (k1 b u hb)
  rw [sortedHeap_old (Nat.ne_of_lt hlt) (by rw [Heap.size_push]; exact Nat.lt_succ_of_lt hlt)]
  exact k2 b u hb
end
section
variable {X : Cx}
theorem each_dp {K : PySem.W.Frag} {H : Hp} : ∀ {ys : List V} {us : List Value} {ds : List PyData}, Vals ys us → DpAll K H ys ds → EachIs (fun v d => ∃ x, RelV x v ∧ Dp K H x d) us ds
  | _, _, _, .nil, .nil => .nil
  | _, _, _, .cons r1 r2, .cons h1 h2 => .cons ⟨_, r1, h1⟩ (each_dp r2 h2)
theorem dp_each {K : PySem.W.Frag} {H : Hp} : ∀ {us : List Value} {ds : List PyData}, EachIs (fun v d => ∃ x, RelV x v ∧ Dp K H x d) us ds → ∃ ys, Vals ys us ∧ DpAll K H ys ds
  | _, _, .nil => ⟨[], .nil, .nil⟩
  | _, _, .cons ⟨x, r, h⟩ t => by
    obtain ⟨ys, a, b⟩ := dp_each t
    exact ⟨x :: ys, .cons r a, .cons h b⟩
theorem dpAll_length {K : PySem.W.Frag} {H : Hp} : ∀ {ys : List V} {ds : List PyData}, DpAll K H ys ds → ys.length = ds.length
  | _, _, .nil => rfl
  | _, _, .cons _ h => by rw [List.length_cons, List.length_cons, dpAll_length h]
/-- sorted(xs), xs a list or a tuple of alike data: THE sorted list -/
def rSortG (K : PySem.W.Frag) : List V → Hp → VK → Prop := fun xs H Q => ∃ (a : Addr) (ys : List V) (ds : List PyData), xs = [.ref a] ∧ (SqL K H a ys ∨ SqT K H a ys) ∧ DpAll K H ys ds ∧
  AllAlike ds ∧ Sortable ds ∧ (∀ d ∈ ds, d.depth ≤ 20) ∧ ∀ zs p, DpAll K H zs (ds.mergeSort (dataLe false id)) → H p = none → Q (.ref p) (upd H p (.lst zs))
theorem cr_sortG (hu : X.A.units + 64 < cLine) : CallR X (.builtin "sorted") (rSortG X.K) := by
  intro pins s σ H xs us Q I r ⟨a, ys, ds, e1, hs, hd, hal, hk, hdep, q⟩
  subst e1
  rw [Vals.ref1 r]
  obtain ⟨T, o, its, n, hT, ho, hc, hdt, rv, hz⟩ : ∃ (T : String) (o : Obj) (its : Array Value) (n : Nat), (T = "list" ∨ T = "tuple") ∧ s.heap.get? a = some o ∧ o.cls = .type T ∧ o.data = .seq its n ∧ Vals ys its.toList ∧ ys.length ≤ sizeLine := by
    rcases hs with h | h
    · obtain ⟨its, rv, ⟨o, n, ho, hc, _, hdt⟩, hz⟩ := I.list h
      exact ⟨_, o, its.toArray, n, .inl rfl, ho, hc, hdt, by simpa using rv, hz⟩
    · obtain ⟨its, rv, ⟨o, ho, hc, n, hdt⟩, hz⟩ := I.tuple h
      exact ⟨_, o, its.toArray, n, .inr rfl, ho, hc, hdt, by simpa using rv, hz⟩
  have hlen := dpAll_length hd
  have ee := each_dp rv hd
  have em : ds.map id = ds := List.map_id ds
  refine sorted_any (enc := id) (bs := ds) hT ho hc hdt ee (ee.mono fun v d ⟨x, rx, hx⟩ => Dp.reads I d x v hx rx) (by rw [em]; exact hal) (by rw [em]; exact hk) (by rw [← hlen]; exact hz)
    (fun b hb => by have h1 := hdep b hb; show _ + 2 + PyData.depth b < _; omega) fun out h' p c k hp hg hout => ?_
  obtain ⟨zs, rz, hzs⟩ := dp_each hout
  have hn : H p = none := I.hok.fresh hp
  have hzl : zs.length ≤ sizeLine := by rw [dpAll_length hzs, List.length_mergeSort, ← hlen]; exact hz
  exact ⟨.ref p, upd H p (.lst zs), I.laid (t' := s.toks) k hp ⟨hzl, out, c, rz, hg⟩, rfl, q zs p hzs hn⟩
/-! ### the greatest, the least -/
def rBest (K : PySem.W.Frag) (f : PyData → List PyData → PyData) : List V → Hp → VK → Prop := fun xs H Q => ∃ (a : Addr) (ys : List V) (d : PyData) (ds : List PyData), xs = [.ref a] ∧ (SqL K H a ys ∨ SqT K H a ys) ∧ DpAll K H ys (d :: ds) ∧
  AlikeAll (d :: ds) ∧ PyData.depthAll (d :: ds) ≤ 40 ∧ ∀ x, Dp K H x (f d ds) → Q x H
theorem dpAll_get {K : PySem.W.Frag} {H : Hp} : ∀ {ys : List V} {ds : List PyData} {i : Nat} {x : V}, DpAll K H ys ds → ys[i]? = some x → ∃ d, ds[i]? = some d ∧ Dp K H x d
  | _, _, _, _, .nil, h => by simp at h
  | _, _, 0, _, .cons h1 _, h => by simp at h; subst h; exact ⟨_, rfl, h1⟩
  | _, _, i + 1, x, .cons _ h2, h => by
    obtain ⟨d, e, hd⟩ := dpAll_get (i := i) (x := x) h2 (by simpa using h)
    exact ⟨d, by simpa using e, hd⟩
theorem vals_back : ∀ {ys : List V} {us : List Value} {i : Nat} {u : Value}, Vals ys us → us[i]? = some u → ∃ x, ys[i]? = some x ∧ RelV x u
  | _, _, _, _, .nil, h => by simp at h
  | _, _, 0, _, .cons r _, h => by simp at h; subst h; exact ⟨_, rfl, r⟩
  | _, _, i + 1, u, .cons _ t, h => by
    obtain ⟨x, e, r⟩ := vals_back (i := i) (u := u) t (by simpa using h)
    exact ⟨x, by simpa using e, r⟩
theorem fold_mem (lt : PyData → PyData → Bool) : ∀ (ds : List PyData) (d : PyData), ds.foldl (fun a y => if lt a y then y else a) d ∈ d :: ds
  | [], d => by simp
  | e :: ds, d => by
    rw [List.foldl_cons]
    have := fold_mem lt ds (if lt d e then e else d)
    rcases List.mem_cons.mp this with h | h
    · rw [h]; split <;> simp
    · exact List.mem_cons_of_mem _ (List.mem_cons_of_mem _ h)
/-- which item it is -/
theorem best_is {pins : List (Addr × Obj)} {σ : L2.St} {H : Hp} {s : Shared} {ys : List V} {ds : List PyData} {its : List Value} {z : PyData} {i : Nat} {v : Value} {h' : Heap} {bs : List Addr} (I : Inv X pins σ H s) (rv : Vals ys its) (hd : DpAll X.K H ys ds)
    (hal : AlikeAll ds) (hz : z ∈ ds) (hv : its[i]? = some v) (r : Reads h' v z bs) (k : ∀ b o, s.heap.get? b = some o → h'.get? b = some o) : ∃ x, RelV x v ∧ Dp X.K H x z := by
  obtain ⟨x, hx, rx⟩ := vals_back rv hv
  obtain ⟨d, hdi, hxd⟩ := dpAll_get hd hx
  obtain ⟨as, rd⟩ := Dp.reads I d x v hxd rx
  have hm : d ∈ ds := List.mem_of_getElem? hdi
  have e := alike_unique d z v _ _ (hal.1 d hm z hz) (PyProof.Rows.Reads.keeps k rd) r
  exact ⟨x, rx, by rw [← e]; exact hxd⟩
theorem cr_maxG (hc : X.calm = true) (hu : X.A.units + 64 < cLine) : CallR X (.builtin "max") (rBest X.K maxD) := by
  intro pins s σ H xs us Q I r ⟨a, ys, d, ds, e1, hs, hd, hal, hdep, q⟩
  subst e1
  rw [Vals.ref1 r]
  have hm : maxD d ds ∈ d :: ds := fold_mem dataLt ds d
  rcases hs with h | h
  · obtain ⟨its, rv, pl, hz⟩ := I.list h
    obtain ⟨as, ra⟩ := Dp.readsAll I _ _ its hd rv
    refine max_list_data (I.ok.hd hc) pl.isList (by simpa using ra) hal (by omega) fun i v h' tk bs hv rr k => ?_
    obtain ⟨x, rx, hx⟩ := best_is I rv hd hal hm (i := i) (by simpa using hv) rr k
    exact ⟨x, H, I.kept (t' := tk) k, rx, q x hx⟩
  · obtain ⟨its, rv, pl, hz⟩ := I.tuple h
    obtain ⟨as, ra⟩ := Dp.readsAll I _ _ its hd rv
    refine max_tuple_data (I.ok.hd hc) (show s.heap.IsTuple a its.toArray from pl) (by simpa using ra) hal (by omega) fun i v h' tk bs hv rr k => ?_
    obtain ⟨x, rx, hx⟩ := best_is I rv hd hal hm (i := i) (by simpa using hv) rr k
    exact ⟨x, H, I.kept (t' := tk) k, rx, q x hx⟩
theorem cr_minG (hc : X.calm = true) (hu : X.A.units + 64 < cLine) : CallR X (.builtin "min") (rBest X.K minD) := by
  intro pins s σ H xs us Q I r ⟨a, ys, d, ds, e1, hs, hd, hal, hdep, q⟩
  subst e1
  rw [Vals.ref1 r]
  have hm : minD d ds ∈ d :: ds := fold_mem (fun a y => dataLt y a) ds d
  rcases hs with h | h
  · obtain ⟨its, rv, pl, hz⟩ := I.list h
    obtain ⟨as, ra⟩ := Dp.readsAll I _ _ its hd rv
    refine min_list_data (I.ok.hd hc) pl.isList (by simpa using ra) hal (by omega) fun i v h' tk bs hv rr k => ?_
    obtain ⟨x, rx, hx⟩ := best_is I rv hd hal hm (i := i) (by simpa using hv) rr k
    exact ⟨x, H, I.kept (t' := tk) k, rx, q x hx⟩
  · obtain ⟨its, rv, pl, hz⟩ := I.tuple h
    obtain ⟨as, ra⟩ := Dp.readsAll I _ _ its hd rv
    refine min_tuple_data (I.ok.hd hc) (show s.heap.IsTuple a its.toArray from pl) (by simpa using ra) hal (by omega) fun i v h' tk bs hv rr k => ?_
    obtain ⟨x, rx, hx⟩ := best_is I rv hd hal hm (i := i) (by simpa using hv) rr k
    exact ⟨x, H, I.kept (t' := tk) k, rx, q x hx⟩
/-! ### repr -/
def rReprG (K : PySem.W.Frag) : List V → Hp → VK → Prop := fun xs H Q => ∃ (a : Addr) (d : PyData), xs = [.ref a] ∧ Dp K H (.ref a) d ∧ d.showable = true ∧ d.hasDict = false ∧ d.depth ≤ 20 ∧ d.shown.length ≤ sizeLine ∧ Q (.str d.shown) H
theorem cr_reprG (hu : X.A.units + 64 < cLine) (hg : X.A.guards = some []) : CallR X (.builtin "repr") (rReprG X.K) := by
  intro pins s σ H xs us Q I r ⟨a, d, e1, hd, hsh, hno, hdep, hz, q⟩
  subst e1
  rw [Vals.ref1 r]
  obtain ⟨as, rd⟩ := Dp.reads I d _ _ hd rfl
  exact repr_of_reads' rd hsh (PyData.noDict_hsm hno) hg (by omega) (fun _ _ e => e) (fun h' u tk k => ⟨.str d.shown, H, I.kept (t' := tk) k, ⟨u, rfl⟩, q⟩) hz
/-! ### f(k = v, ..), nothing by position -/
theorem pe_callK0 {CX : CXT} {k : Nat} {f : Addr} {fd : FuncData} {ps ks : List Str} {sp : Sp} {E : XK} {x : Str} {p pos : Pos} {kws : List Keyword} {tk : TA} {g : List Value → List Value → List Value} {gV : List V → List V → List V}
    (F : FnOk X.prog X.w X.K X.mg X.base CX k f fd ps sp) (hr : Room k X.A) (hg : Gl X x) (hm : X.mg x = some (.ref f)) (hk : PySem.W.keepIn X.K (.ref f) = true) (hb : KBinds X.K fd ps ks g gV) (hx : Passes CX X E)
    (hkw : PK X kws tk) (hall : (backToKw pos (keywordEach kws X.env)).all (·.1.isSome) = true := by rfl) (hks : (backToKw pos (keywordEach kws X.env)).filterMap (·.1) = ks := by rfl) (hdb : (x == ("__debug__" : Str)) = false := by decide)
    (hpl : ((backTo pos (starEach [] X.env)).any (·.1) || (backToKw pos (keywordEach kws X.env)).any (·.1.isNone)) = false := by rfl) :
    PE X (.Call (.Name x p) [] kws pos) (tCallK sp gV E tNil tk) := by
  refine ⟨fun pins s σ H Q I h => wpAny_Call_Name_kw (ld_glob I hg hm ?_ hdb)⟩
  refine PySem.W.callWith_KW0 (h₀ := X.base) I.ok.mod.kin hk hall (thn (hkw.run pos pins s σ H _ I h) fun ws s2 ⟨zs, H2, I2, rz, q2⟩ => ⟨I2.kIn, ?_⟩) hpl
  rw [hks]
  exact run_fnk (us := []) (vs := []) F hr hb hx I2 .nil rz q2
/-! ### len(set(t)), t a tuple of unlike ints -/
def tLenSetT (K : PySem.W.Frag) (ta : TE) : TE := fun σ H Q => ta σ H fun x H1 => ∃ (l : Addr) (ns : List Int), x = V.ref l ∧ SqT K H1 l (ns.map V.int) ∧ ns.length < 64 ∧ ns.Nodup ∧ Q (.int ns.length) H1
theorem pe_lenSetT {a : Expr} {ta : TE} {p p2 q pos : Pos} (hc : X.calm = true) (hg : Gl X "len") (hm : X.mg "len" = none) (hg2 : Gl X "set") (hm2 : X.mg "set" = none) (ha : PE X a ta)
    (na : starEach [a] X.env = (false, eval a X.env) :: starEach [] X.env := by rfl) : PE X (.Call (.Name "len" p) [.Call (.Name "set" p2) [a] [] q] [] pos) (tLenSetT X.K ta) := by
  refine ⟨fun pins s σ H Q I h => Call_ (ld_blt I hg hm PySem.boot_len ?_)⟩
  refine PyProof.Rows.callWith_builtin1 (PyProof.Rows.args_cons (Call_ (ld_blt I hg2 hm2 PyProof.Rows.boot_set ?_)) rfl) rfl rfl
  refine PyProof.Rows.callWith_type1 (PyProof.Rows.args_cons (thn (ha.run pins s σ H _ I h) fun v s1 ⟨x, H1, I1, r1, l, ns, ex, hq, hlt, hnd, q1⟩ => PyProof.Rows.args_nil ?_) na) na rfl
  subst ex
  cases r1
  obtain ⟨its, r, pt, hz⟩ := I1.tuple hq
  refine call_set_tupI ns (I1.ok.hd hc) (show s1.heap.IsTuple l its.toArray from pt) (by simpa using r.ints) (by unfold scanBound; omega) fun h' tk c ⟨o, es, ep, t, ho, hex, hd, _, nd, hmem, hb, hf, hn, _, _⟩ hcn k => ?_
  have hlen : (es.toList.map keyOf).length = ns.length := by
    refine List.Perm.length_eq ((List.perm_ext_iff_of_nodup nd hnd).mpr fun z => ?_)
    rw [← hmem z]; simp
  rw [List.length_map, Array.length_toList] at hlen
  refine PyProof.Rows.args_nil ?_
  have I2 : Inv X pins σ H1 { s1 with heap := h', toks := tk } := I1.kept k
  exact call_len_set ho hex hd hf (by omega) ⟨.int ns.length, H1, I2.tok _, ⟨_, by rw [hlen]⟩, q1⟩
end
end DX
/-! ### DX3 -/
set_option Elab.async false
set_option linter.all false
set_option maxRecDepth 100000
set_option maxHeartbeats 4000000
/-! zip of a tuple and a list. -/
namespace DX
open PySem PySem.Spec PyProof.Rows L2
/-- the tuple at a and the list at b, item by item in new pairs -/
def ItzM (K : PySem.W.Frag) (a b : Addr) : It where
  go := fun i H => ∃ (xs ys : List V) (x y : V), SqT K H a xs ∧ SqL K H b ys ∧ xs[i]? = some x ∧ ys[i]? = some y
  yld := fun i H v H' => ∃ T x y, v = .ref T ∧ H T = none ∧ H' = upd H T (.tup [x, y]) ∧ (∀ xs, SqT K H a xs → xs[i]? = some x) ∧ ∀ ys, SqL K H b ys → ys[i]? = some y
  stop := fun i H => ∃ xs ys : List V, SqT K H a xs ∧ SqL K H b ys ∧ xs.length = i ∧ ys.length = i
/-- how the iterator stands at turn i -/
def ZmSt (z TI TO i1 i2 a b : Addr) (i : Nat) (h : Heap) : Prop :=
  IsZip h z TI TO .none ∧ IsTupOf2 h TI (.ref i1) (.ref i2) ∧ (∃ x y, IsTupOf2 h TO x y) ∧ h.IsTupleIter i1 a i ∧ h.IsListIter i2 b i
theorem turn_zipM {P : Program} {w : World} {K : PySem.W.Frag} {elts : List Expr} {kk : Nat} {tpos : Pos} {a b z TI TO i1 i2 : Addr} (S : ZipSep2 z TI TO i1 i2 [i1, a] [i2, b]) (na : a ≠ i1) (nb : b ≠ i2) :
    Turn P w K (.Tuple elts kk tpos) (ItzM K a b) [z, TI, TO, i1, i2] z (ZmSt z TI TO i1 i2 a b) where
  mem := by simp
  obj := fun i h ⟨hz, hTI, ⟨x, y, hTO⟩, ⟨o1, e1, _, d1⟩, ⟨o2, e2, _, d2⟩⟩ c hc => by
    simp only [List.mem_cons, List.not_mem_nil, or_false] at hc
    rcases hc with q | q | q | q | q <;> subst q
    · exact ⟨_, hz, fun v q => nomatch q⟩
    · exact ⟨_, hTI, fun v q => nomatch q⟩
    · exact ⟨_, hTO, fun v q => nomatch q⟩
    · exact ⟨o1, e1, fun v q => by rw [d1] at q; cases q⟩
    · exact ⟨o2, e2, fun v q => by rw [d2] at q; cases q⟩
  keep := fun i h h' ⟨hz, hTI, ⟨x, y, hTO⟩, h1, h2⟩ k =>
    ⟨k z (by simp) _ hz, k TI (by simp) _ hTI, ⟨x, y, k TO (by simp) _ hTO⟩, h1.at fun o q => k i1 (by simp) o q, h2.at fun o q => k i2 (by simp) o q⟩
  item := by
    intro X hP hw hK hc i pins s σ H E I hf ⟨hz, hTI, hTO, h1, h2⟩ ⟨xs, ys, x, y, hqx, hqy, hx, hy⟩
    subst hP hw hK
    obtain ⟨its, rv, p, _⟩ := I.tuple hqx
    obtain ⟨its2, rv2, p2, _⟩ := I.list hqy
    obtain ⟨u, hu, ru⟩ := rv.get hx
    obtain ⟨u2, hu2, ru2⟩ := rv2.get hy
    have l1 : i < its.toArray.size := by simpa using (List.getElem?_eq_some_iff.mp hu).1
    have l2 : i < its2.toArray.size := by simpa using (List.getElem?_eq_some_iff.mp hu2).1
    have W := GoesN.zip2 (prog := X.prog) (w := X.w) (A := X.A) (elts := elts) (x1 := kk) (pos := tpos) S (Draws.tuple (A := X.A.in1) (show X.A.in1.handled = none from I.ok.hd hc) i1 a na its.toArray) (Draws.list (A := X.A.in1) (show X.A.in1.handled = none from I.ok.hd hc) i2 b nb its2.toArray)
    refine W.goes i s _ E (by omega) ⟨hz, hTI, hTO, ⟨h1, p⟩, h2, p2.isList⟩ fun v h' tk ⟨T, v1, v2, ev, hT, e1, e2, hTv⟩ ⟨z1, z2, z3, ⟨z4, _⟩, z5, _⟩ k _ => ?_
    subst ev
    have q1 : v1 = u := by
      have e1' : its[i]? = some v1 := by simpa using e1
      rw [hu] at e1'; exact (Option.some.inj e1').symm
    have q2 : v2 = u2 := by
      have e2' : its2[i]? = some v2 := by simpa using e2
      rw [hu2] at e2'; exact (Option.some.inj e2').symm
    subst q1 q2
    have hn : H T = none := I.hok.fresh hT
    have new : ObjOk X.prog X.w (upd H T (.tup [x, y])) h' T (.tup [x, y]) := ⟨(by decide : 2 ≤ sizeLine), [v1, v2], .cons ru (.cons ru2 .nil), hTv⟩
    refine ⟨.ref T, upd H T (.tup [x, y]), I.turnedNew (t' := tk) (ch := [z, TI, TO, i1, i2]) (fun c o hb q => k c o (fun m => hb ?_) q) hf hT new, rfl, ⟨T, x, y, rfl, hn, rfl, fun l hl => by rw [I.tuple_inj hl hqx]; exact hx, fun l hl => by rw [I.list_inj hl hqy]; exact hy⟩, ⟨z1, z2, z3, z4, z5⟩, fun c hcm => ?_⟩
    · simp only [List.mem_cons, List.not_mem_nil, or_false] at m ⊢
      rcases m with m | m | m | m
      · exact .inl m
      · exact .inr (.inr (.inl m))
      · exact .inr (.inr (.inr (.inl m)))
      · exact .inr (.inr (.inr (.inr m)))
    · have hh := (hf c hcm).1
      obtain ⟨oc, hoc⟩ : ∃ oc, s.heap.get? c = some oc := by
        simp only [List.mem_cons, List.not_mem_nil, or_false] at hcm
        obtain ⟨xx, yy, hTO'⟩ := hTO
        obtain ⟨o1, e1, _⟩ := h1
        obtain ⟨o2, e2, _⟩ := h2
        rcases hcm with q | q | q | q | q <;> subst q
        · exact ⟨_, hz⟩
        · exact ⟨_, hTI⟩
        · exact ⟨_, hTO'⟩
        · exact ⟨_, e1⟩
        · exact ⟨_, e2⟩
      rw [upd_ne (Nat.ne_of_lt (Nat.lt_of_lt_of_le (Heap.lt_size hoc) hT))]
      exact hh
  done := by
    intro X hP hw hK hc i pins s σ H E I hf ⟨hz, hTI, hTO, h1, h2⟩ ⟨xs, ys, hqx, hqy, hx, hy⟩
    subst hP hw hK
    obtain ⟨its, rv, p, _⟩ := I.tuple hqx
    obtain ⟨its2, rv2, p2, _⟩ := I.list hqy
    have l1 : its.toArray.size = i := by have := rv.length; simp; omega
    have l2 : its2.toArray.size = i := by have := rv2.length; simp; omega
    have W := GoesN.zip2 (prog := X.prog) (w := X.w) (A := X.A) (elts := elts) (x1 := kk) (pos := tpos) S (Draws.tuple (A := X.A.in1) (show X.A.in1.handled = none from I.ok.hd hc) i1 a na its.toArray) (Draws.list (A := X.A.in1) (show X.A.in1.handled = none from I.ok.hd hc) i2 b nb its2.toArray)
    have em : min its.toArray.size its2.toArray.size = i := by omega
    rw [em] at W
    refine W.stops s _ E ⟨hz, hTI, hTO, ⟨h1, p⟩, h2, p2.isList⟩ fun h' tk k _ => ?_
    exact I.turnedL (t' := tk) (ch := [z, TI, TO, i1, i2]) (fun c o hb q => k c o (fun m => hb (by
      simp only [List.mem_cons, List.not_mem_nil, or_false] at m ⊢
      rcases m with m | m | m | m
      · exact .inl m
      · exact .inr (.inr (.inl m))
      · exact .inr (.inr (.inr (.inl m)))
      · exact .inr (.inr (.inr (.inr m))))) q) hf
  self := fun A i s Q E st h => wpAny_pyIter_zip st.1 h
def iZipM (K : PySem.W.Frag) (ta : TA) : TI := fun σ H R => ta σ H fun vs H1 => ∃ a b xs ys, vs = [.ref a, .ref b] ∧ SqT K H1 a xs ∧ SqL K H1 b ys ∧ R (ItzM K a b) H1
theorem pi_zipM {X : Cx} {e e2 : Expr} {ta : TA} {p pos tpos : Pos} {elts : List Expr} {kk : Nat} (hg : Gl X "zip") (hm : X.mg "zip" = none) (ha : PA X [e, e2] ta)
    (hs : starEach [e, e2] X.env = (false, eval e X.env) :: starEach [e2] X.env := by rfl) (hpl : (backTo pos (starEach [e2] X.env)).any (·.1) = false := by rfl) :
    PI X (.Tuple elts kk tpos) (.Call (.Name "zip" p) [e, e2] [] pos) (iZipM X.K ta) := by
  refine ⟨fun pins s σ H R I h => Call_ (ld_blt I hg hm PyProof.Rows.boot_zip (PyProof.Rows.callWith_type1 (thn (ha.run pos pins s σ H _ I h) fun us s1 ⟨vs, H1, I1, r1, a, b, xs, ys, ex, hqx, hqy, q⟩ => ?_) hs hpl))⟩
  subst ex
  obtain ⟨u1, u2, eu, r2, r3⟩ : ∃ u1 u2, us = [u1, u2] ∧ RelV (.ref a) u1 ∧ RelV (.ref b) u2 := by
    cases r1 with
    | cons r rr =>
      cases rr with
      | cons r' rr => cases rr; exact ⟨_, _, rfl, r, r'⟩
  subst eu
  cases r2
  cases r3
  obtain ⟨its, rv, p1, _⟩ := I1.tuple hqx
  obtain ⟨its2, rv2, p2, _⟩ := I1.list hqy
  have la : a < s1.heap.objs.size := p1.lt
  have lb : b < s1.heap.objs.size := p2.lt
  refine zip_begins2 (begins_tuple a its.toArray) (begins_list b its2.toArray) p1 p2.isList fun h' hz hTI hTO g1 g2 hsz hk => wpAny_pyIter_zip hz ?_
  refine ⟨s1.heap.objs.size + 4, [s1.heap.objs.size + 4, s1.heap.objs.size + 2, s1.heap.objs.size + 3, s1.heap.objs.size, s1.heap.objs.size + 1], ZmSt _ _ _ _ _ a b, ItzM X.K a b, H1, rfl, I1.kept (t' := s1.toks) hk,
    turn_zipM (zip_sep2 (fun b hb => by rw [List.mem_singleton.mp hb]; exact la) (fun b hb => by rw [List.mem_singleton.mp hb]; exact lb)) (Nat.ne_of_lt la) (Nat.ne_of_lt (Nat.lt_succ_of_lt lb)), ⟨hz, hTI, ⟨_, _, hTO⟩, ⟨_, g1, rfl, rfl⟩, ⟨_, g2, rfl, rfl⟩⟩, fun c hcm => ?_, q⟩
  have hle : s1.heap.objs.size ≤ c := by
    simp only [List.mem_cons, List.not_mem_nil, or_false] at hcm
    rcases hcm with q | q | q | q | q <;> subst q
    all_goals first | exact Nat.le_add_right _ _ | exact Nat.le_refl _
  exact I1.fpOk hle (I1.hok.fresh hle)
theorem walk_zipM {K : PySem.W.Frag} {a b : Addr} {xs ys : List V} (hl : xs.length = ys.length) : Walk (ItzM K a b) xs.length (fun H => SqT K H a xs ∧ SqL K H b ys) (YPair (fun i => xs[i]?) (fun i => ys[i]?)) :=
  ⟨fun i _ hi q => ⟨xs, ys, xs[i], ys[i], q.1, q.2, by simp [hi], by simp [show i < ys.length by omega]⟩, fun _ q => ⟨xs, ys, q.1, q.2, rfl, hl.symm⟩, fun i H v H' _ q ⟨T, x, z, h1, h2, h3, h4, h5⟩ => ⟨T, x, z, h1, h2, h3, h4 xs q.1, h5 ys q.2⟩⟩
end DX
/-! ### DX4 -/
set_option Elab.async false
set_option linter.all false
set_option maxRecDepth 100000
set_option maxHeartbeats 4000000
/-! zip to a target that is one name: the pair given out stays held, so the next pair may be new or not; both ways give a new tuple. -/
namespace DX
open PySem PySem.Spec PyProof.Rows L2
def ZS (h : Heap) (z TI TO : Addr) (f0 : Value) (b : Bool) : Prop := h.get? z = some { cls := .type "zip", dict := none, data := .fields #[f0, .bool b, .bool false, .ref TI, .ref TO], slots := #[] }
def Fr0 (f : Value) : Prop := f = .none ∨ ∃ n t, f = .int n t
section
variable {prog : Program} {w : World} {A : Around} {E : Value → Shared → Prop} {s : Shared} {z TI TO i1 i2 : Addr} {fa fb : List Addr} {n1 n2 i : Nat} {Pa Pb : Nat → Value → Prop} {Sa Sb : Nat → Heap → Prop} {c1 c2 f0 : Value} {b : Bool}
theorem any_alive {M : Model} {a : Addr} {Q : Option Obj → Shared → Prop} (h : Q (s.heap.get? a) s) : wpAny M A (loadIfAlive a) Q E s := fun _ _ _ => h
/-- is the pair that was given out free: whichever, the flag may be set -/
theorem zn_free {Q : Bool → Shared → Prop} (hz : ZS s.heap z TI TO f0 b) (hf : Fr0 f0) (h1 : Q true s) (h2 : ∀ h', ZS h' z TI TO f0 true → Heap.SameBut z s.heap h' → Q false { s with heap := h' }) (h3 : b = true → Q false s) :
    wpAny (model prog w) A (Builtin.SmallTypes.ownedTupleIsFree (.ref z)) Q E s := by
  unfold Builtin.SmallTypes.ownedTupleIsFree
  refine wpAny_bind (wpAny_field (x := f0) hz rfl rfl ?_)
  rcases hf with rfl | ⟨n, t, rfl⟩
  · exact wpAny_pure h1
  · refine wpAny_bind (any_alive ?_)
    cases hg : s.heap.get? n.toNat with
    | none => exact wpAny_pure h1
    | some o =>
      simp only [Option.isNone_some, Bool.false_eq_true, if_false]
      refine wpAny_bind (wpAny_field (x := .bool b) hz rfl rfl ?_)
      cases b with
      | true => exact wpAny_pure (h3 rfl)
      | false => exact wpAny_bind (wpAny_setField_rec hz (by simp) fun h' hz' hs' => wpAny_pure (h2 h' hz' hs'))
/-- a pair is there -/
theorem zn_item {Q : Value → Shared → Prop} (S : ZipSep2 z TI TO i1 i2 fa fb) (Da : Draws prog w A i1 fa n1 Pa Sa) (Db : Draws prog w A i2 fb n2 Pb Sb)
    (hz : ZS s.heap z TI TO f0 b) (hf : Fr0 f0) (hI : IsTupOf2 s.heap TI (.ref i1) (.ref i2)) (hO : IsTupOf2 s.heap TO c1 c2) (sa : Sa i s.heap) (sb : Sb i s.heap) (la : i < n1) (lb : i < n2)
    (hQ : ∀ x1 x2 h' tk, Pa i x1 → Pb i x2 → (∃ f b, Fr0 f ∧ ZS h' z TI TO f b) → (∃ d1 d2, IsTupOf2 h' TO d1 d2) → Sa (i + 1) h' → Sb (i + 1) h' → IsTupOf2 h' s.heap.objs.size x1 x2 →
      (∀ c o, c ≠ z → c ≠ TO → c ≠ i1 → c ≠ i2 → s.heap.get? c = some o → h'.get? c = some o) → Q (.ref s.heap.objs.size) { s with heap := h', toks := tk }) :
    wpAny (model prog w) A (Builtin.«zip.__next__» ⟨[.ref z], []⟩) (fun fin s' => ∃ v, fin = .done (.ret v) ∧ Q v s') E s := by
  obtain ⟨hp, gg, dd, t0, oo⟩ := s
  show wpAny _ A (field (.ref z) 2 >>= _) _ E _
  refine wpAny_bind (wpAny_field (x := .bool false) hz rfl rfl ?_)
  show wpAny _ A (field (.ref z) 3 >>= _) _ E _
  refine wpAny_bind (wpAny_field (x := .ref TI) hz rfl rfl (wpAny_bind (wpAny_seqItems hI rfl ?_)))
  show wpAny _ A (Builtin.SmallTypes.ownedTupleIsFree (.ref z) >>= _) _ E _
  refine wpAny_bind (zn_free hz hf ?reuse (fun h0 hz0 hs0 => ?new1) fun eb => ?new2)
  case new1 =>
    simp only [Bool.false_eq_true, if_false, ← Array.forIn_toList, List.forIn_cons, List.forIn_nil]
    refine wpAny_bind (wpAny_bind (wpAny_bind (wpAny_holding ?_)))
    show wpAny _ A (Builtin.SmallTypes.nextOf (.ref i1) >>= _) _ E _
    refine wpAny_bind (Da.item i _ _ _ la (Da.over sa hs0 S.zf1) fun x1 p1 tk1 hx1 sn1 hp1 => wpAny_pure (wpAny_pure ?_))
    refine wpAny_bind (wpAny_bind (wpAny_holding ?_))
    show wpAny _ A (Builtin.SmallTypes.nextOf (.ref i2) >>= _) _ E _
    replace hp1 : Heap.SameBut i1 h0 p1 := hp1
    refine wpAny_bind (Db.item i _ _ _ lb (Db.over (Db.over sb hs0 S.zf2) hp1 S.sep1_2) fun x2 p2 tk2 hx2 sn2 hp2 => wpAny_pure (wpAny_pure (wpAny_pure ?_)))
    replace hp2 : Heap.SameBut i2 p1 p2 := hp2
    refine wpAny_bind (wpAny_newTuple (wpAny_pure ⟨_, rfl, ?_⟩) (by show 2 ≤ sizeLine; decide))
    have e2 : p2.objs.size = hp.objs.size := by rw [hp2.1, hp1.1, hs0.1]
    have up : ∀ c o, p2.get? c = some o → (p2.push { cls := .type "tuple", data := .seq #[x1, x2] }).get? c = some o := fun c o q => Heap.get?_push_of_some _ q
    have old : ∀ c o, c ≠ z → c ≠ i1 → c ≠ i2 → hp.get? c = some o → p2.get? c = some o := fun c o q0 q1 q2 q => hp2.extBut _ _ q2 (hp1.extBut _ _ q1 (hs0.extBut _ _ q0 q))
    have r := hQ x1 x2 (p2.push { cls := .type "tuple", data := .seq #[x1, x2] }) tk2 hx1 hx2 ⟨f0, _, hf, up _ _ (hp2.extBut _ _ S.zi2 (hp1.extBut _ _ S.zi1 hz0))⟩
      ⟨c1, c2, up _ _ (old _ _ S.TOz S.Ti1 S.Ti2 hO)⟩ (Da.frame _ _ _ (Da.over sn1 hp2 S.sep2_1) fun b _ o q => up b o q) (Db.frame _ _ _ sn2 fun b _ o q => up b o q)
      (by show Heap.get? _ hp.objs.size = _; rw [← e2]; exact Heap.get?_push_size _ rfl) (fun c o q0 _ q1 q2 q => up _ _ (old c o q0 q1 q2 q))
    rw [← e2] at r
    exact r
  case new2 =>
    have hs0 : Heap.SameBut z hp hp := Heap.SameBut.refl z hp
    have hz0 := hz
    simp only [Bool.false_eq_true, if_false, ← Array.forIn_toList, List.forIn_cons, List.forIn_nil]
    refine wpAny_bind (wpAny_bind (wpAny_bind (wpAny_holding ?_)))
    show wpAny _ A (Builtin.SmallTypes.nextOf (.ref i1) >>= _) _ E _
    refine wpAny_bind (Da.item i _ _ _ la (Da.over sa hs0 S.zf1) fun x1 p1 tk1 hx1 sn1 hp1 => wpAny_pure (wpAny_pure ?_))
    refine wpAny_bind (wpAny_bind (wpAny_holding ?_))
    show wpAny _ A (Builtin.SmallTypes.nextOf (.ref i2) >>= _) _ E _
    replace hp1 : Heap.SameBut i1 hp p1 := hp1
    refine wpAny_bind (Db.item i _ _ _ lb (Db.over (Db.over sb hs0 S.zf2) hp1 S.sep1_2) fun x2 p2 tk2 hx2 sn2 hp2 => wpAny_pure (wpAny_pure (wpAny_pure ?_)))
    replace hp2 : Heap.SameBut i2 p1 p2 := hp2
    refine wpAny_bind (wpAny_newTuple (wpAny_pure ⟨_, rfl, ?_⟩) (by show 2 ≤ sizeLine; decide))
    have e2 : p2.objs.size = hp.objs.size := by rw [hp2.1, hp1.1, hs0.1]
    have up : ∀ c o, p2.get? c = some o → (p2.push { cls := .type "tuple", data := .seq #[x1, x2] }).get? c = some o := fun c o q => Heap.get?_push_of_some _ q
    have old : ∀ c o, c ≠ z → c ≠ i1 → c ≠ i2 → hp.get? c = some o → p2.get? c = some o := fun c o q0 q1 q2 q => hp2.extBut _ _ q2 (hp1.extBut _ _ q1 (hs0.extBut _ _ q0 q))
    have r := hQ x1 x2 (p2.push { cls := .type "tuple", data := .seq #[x1, x2] }) tk2 hx1 hx2 ⟨f0, _, hf, up _ _ (hp2.extBut _ _ S.zi2 (hp1.extBut _ _ S.zi1 hz0))⟩
      ⟨c1, c2, up _ _ (old _ _ S.TOz S.Ti1 S.Ti2 hO)⟩ (Da.frame _ _ _ (Da.over sn1 hp2 S.sep2_1) fun b _ o q => up b o q) (Db.frame _ _ _ sn2 fun b _ o q => up b o q)
      (by show Heap.get? _ hp.objs.size = _; rw [← e2]; exact Heap.get?_push_size _ rfl) (fun c o q0 _ q1 q2 q => up _ _ (old c o q0 q1 q2 q))
    rw [← e2] at r
    exact r
  case reuse =>
    simp only [if_true]
    refine wpAny_bind (wpAny_rule (wpAny_bind (wpAny_field (x := .ref TO) hz rfl rfl (wpAny_bind (wpAny_setField_rec hz (by simp) fun g0 hz0 hs0 => ?_)))))
    replace hz0 : ZS g0 z TI TO .ellipsis b := hz0
    replace hs0 : Heap.SameBut z hp g0 := hs0
    refine wpAny_bind ?_
    simp only [List.zipIdx_cons, List.zipIdx_nil, List.forIn_cons, List.forIn_nil]
    refine wpAny_bind (wpAny_bind (wpAny_onRaise ?_))
    show wpAny _ A (Builtin.SmallTypes.nextOf (.ref i1) >>= _) _ _ ⟨g0, gg, dd, t0, oo⟩
    refine wpAny_bind (Da.item i _ _ _ la (Da.over sa hs0 S.zf1) fun x1 p1 tk1 hx1 sn1 hp1 => wpAny_pure ?_)
    replace hp1 : Heap.SameBut i1 g0 p1 := hp1
    have hO1 : IsTupOf2 p1 TO c1 c2 := hp1.extBut _ _ S.Ti1 (hs0.extBut _ _ S.TOz hO)
    refine wpAny_bind (wpAny_seqItems hO1 rfl (wpAny_bind (updateSeq_IsTupOf2 hO1 fun g1 hT1 hs1 => wpAny_bind (wpAny_letGo (wpAny_pure ?_)))))
    replace hT1 : IsTupOf2 g1 TO x1 c2 := hT1
    replace hs1 : Heap.SameBut TO p1 g1 := hs1
    refine wpAny_bind (wpAny_bind (wpAny_onRaise ?_))
    show wpAny _ A (Builtin.SmallTypes.nextOf (.ref i2) >>= _) _ _ _
    refine wpAny_bind (Db.item i _ _ _ lb (Db.over (Db.over (Db.over sb hs0 S.zf2) hp1 S.sep1_2) hs1 S.Tf2) fun x2 p2 tk2 hx2 sn2 hp2 => wpAny_pure ?_)
    replace hp2 : Heap.SameBut i2 g1 p2 := hp2
    have hO2 : IsTupOf2 p2 TO x1 c2 := hp2.extBut _ _ S.Ti2 hT1
    refine wpAny_bind (wpAny_seqItems hO2 rfl (wpAny_bind (updateSeq_IsTupOf2 hO2 fun g2 hT2 hs2 => wpAny_bind (wpAny_letGo (wpAny_pure (wpAny_pure ?_))))))
    replace hT2 : IsTupOf2 g2 TO x1 x2 := hT2
    replace hs2 : Heap.SameBut TO p2 g2 := hs2
    refine wpAny_bind (wpAny_seqItems hT2 rfl (wpAny_bind (wpAny_newTuple ?_)))
    have e2 : g2.objs.size = hp.objs.size := by rw [hs2.1, hp2.1, hs1.1, hp1.1, hs0.1]
    have zz : ZS g2 z TI TO .ellipsis b := hs2.extBut _ _ S.TOz.symm (hp2.extBut _ _ S.zi2 (hs1.extBut _ _ S.TOz.symm (hp1.extBut _ _ S.zi1 hz0)))
    have old : ∀ c o, c ≠ z → c ≠ TO → c ≠ i1 → c ≠ i2 → hp.get? c = some o → g2.get? c = some o := fun c o q0 q3 q1 q2 q =>
      hs2.extBut _ _ q3 (hp2.extBut _ _ q2 (hs1.extBut _ _ q3 (hp1.extBut _ _ q1 (hs0.extBut _ _ q0 q))))
    have ja : Sa (i + 1) g2 := Da.over (Da.over (Da.over sn1 hs1 S.Tf1) hp2 S.sep2_1) hs2 S.Tf1
    have jb : Sb (i + 1) g2 := Db.over sn2 hs2 S.Tf2
    have zlt : z < g2.objs.size := Heap.lt_size zz
    show wpAny _ A (Builtin.SmallTypes.ownedTupleHandOut (.ref z) (.ref g2.objs.size) >>= _) _ _ ⟨g2.push { cls := .type "tuple", data := .seq #[x1, x2] }, gg, dd, tk2, oo⟩
    refine wpAny_bind ?_
    unfold Builtin.SmallTypes.ownedTupleHandOut
    have z6 : ZS (g2.push { cls := .type "tuple", data := .seq #[x1, x2] }) z TI TO .ellipsis b := Heap.get?_push_of_some _ zz
    refine wpAny_bind (wpAny_setField_rec z6 (by simp) fun h7 hz7 hs7 => ?_)
    replace hz7 : ZS h7 z TI TO (rawInt g2.objs.size) b := hz7
    replace hs7 : Heap.SameBut z (g2.push { cls := .type "tuple", data := .seq #[x1, x2] }) h7 := hs7
    refine wpAny_setField_rec hz7 (by simp) fun h8 hz8 hs8 => ?_
    replace hz8 : ZS h8 z TI TO (rawInt g2.objs.size) false := hz8
    replace hs8 : Heap.SameBut z h7 h8 := hs8
    have up : ∀ c o, c ≠ z → g2.get? c = some o → h8.get? c = some o := fun c o q0 q => hs8.extBut _ _ q0 (hs7.extBut _ _ q0 (Heap.get?_push_of_some _ q))
    refine wpAny_pure ⟨_, rfl, ?_⟩
    have r := hQ x1 x2 h8 tk2 hx1 hx2 ⟨_, _, .inr ⟨_, _, rfl⟩, hz8⟩ ⟨x1, x2, up _ _ S.TOz hT2⟩ (Da.frame _ _ _ ja fun b hb o q => up b o (fun e => S.zf1 (e ▸ hb)) q) (Db.frame _ _ _ jb fun b hb o q => up b o (fun e => S.zf2 (e ▸ hb)) q)
      (by show Heap.get? _ hp.objs.size = _; rw [← e2]; exact hs8.extBut _ _ (Nat.ne_of_gt zlt) (hs7.extBut _ _ (Nat.ne_of_gt zlt) (Heap.get?_push_size _ rfl))) (fun c o q0 q3 q1 q2 q => up c o q0 (old c o q0 q3 q1 q2 q))
    rw [← e2] at r
    exact r
/-- one of them ends -/
theorem zn_end {Q : Fin → Shared → Prop} (S : ZipSep2 z TI TO i1 i2 fa fb) (Da : Draws prog w A i1 fa n1 Pa Sa) (Db : Draws prog w A i2 fb n2 Pb Sb)
    (hz : ZS s.heap z TI TO f0 b) (hf : Fr0 f0) (hI : IsTupOf2 s.heap TI (.ref i1) (.ref i2)) (hO : IsTupOf2 s.heap TO c1 c2) (sa : Sa i s.heap) (sb : Sb i s.heap) (la1 : i ≤ n1) (lb1 : i ≤ n2) (hend : i = n1 ∨ i = n2)
    (hE : ∀ h' tk e, (∀ c o, c ≠ z → c ≠ TO → c ≠ i1 → c ≠ i2 → s.heap.get? c = some o → h'.get? c = some o) → (∃ o, h'.get? e = some o ∧ o.cls = .type "StopIteration") → E (.ref e) { s with heap := h', toks := tk }) :
    wpAny (model prog w) A (Builtin.«zip.__next__» ⟨[.ref z], []⟩) Q E s := by
  obtain ⟨hp, gg, dd, t0, oo⟩ := s
  show wpAny _ A (field (.ref z) 2 >>= _) _ E _
  refine wpAny_bind (wpAny_field (x := .bool false) hz rfl rfl ?_)
  show wpAny _ A (field (.ref z) 3 >>= _) _ E _
  refine wpAny_bind (wpAny_field (x := .ref TI) hz rfl rfl (wpAny_bind (wpAny_seqItems hI rfl ?_)))
  show wpAny _ A (Builtin.SmallTypes.ownedTupleIsFree (.ref z) >>= _) _ E _
  refine wpAny_bind (zn_free hz hf ?reuse (fun h0 hz0 hs0 => ?new1) fun eb => ?new2)
  case new1 =>
    simp only [Bool.false_eq_true, if_false, ← Array.forIn_toList, List.forIn_cons, List.forIn_nil]
    refine wpAny_bind (wpAny_bind (wpAny_bind (wpAny_holding ?_)))
    show wpAny _ A (Builtin.SmallTypes.nextOf (.ref i1) >>= _) _ E _
    by_cases la : i < n1
    · refine wpAny_bind (Da.item i _ _ _ la (Da.over sa hs0 S.zf1) fun x1 p1 tk1 hx1 sn1 hp1 => wpAny_pure (wpAny_pure ?_))
      refine wpAny_bind (wpAny_bind (wpAny_holding ?_))
      show wpAny _ A (Builtin.SmallTypes.nextOf (.ref i2) >>= _) _ E _
      replace hp1 : Heap.SameBut i1 h0 p1 := hp1
      have eb2 : i = n2 := by omega
      subst eb2
      refine wpAny_bind (Db.done _ _ _ (Db.over (Db.over sb hs0 S.zf2) hp1 S.sep1_2) fun q e hq he => ?_)
      exact hE q tk1 e (fun c o q0 _ q1 q2 x => hq _ _ q2 (hp1.extBut _ _ q1 (hs0.extBut _ _ q0 x))) he
    · have ea : i = n1 := by omega
      subst ea
      refine wpAny_bind (Da.done _ _ _ (Da.over sa hs0 S.zf1) fun q e hq he => ?_)
      exact hE q t0 e (fun c o q0 _ q1 _ x => hq _ _ q1 (hs0.extBut _ _ q0 x)) he
  case new2 =>
    have hs0 : Heap.SameBut z hp hp := Heap.SameBut.refl z hp
    have hz0 := hz
    simp only [Bool.false_eq_true, if_false, ← Array.forIn_toList, List.forIn_cons, List.forIn_nil]
    refine wpAny_bind (wpAny_bind (wpAny_bind (wpAny_holding ?_)))
    show wpAny _ A (Builtin.SmallTypes.nextOf (.ref i1) >>= _) _ E _
    by_cases la : i < n1
    · refine wpAny_bind (Da.item i _ _ _ la (Da.over sa hs0 S.zf1) fun x1 p1 tk1 hx1 sn1 hp1 => wpAny_pure (wpAny_pure ?_))
      refine wpAny_bind (wpAny_bind (wpAny_holding ?_))
      show wpAny _ A (Builtin.SmallTypes.nextOf (.ref i2) >>= _) _ E _
      replace hp1 : Heap.SameBut i1 hp p1 := hp1
      have eb2 : i = n2 := by omega
      subst eb2
      refine wpAny_bind (Db.done _ _ _ (Db.over (Db.over sb hs0 S.zf2) hp1 S.sep1_2) fun q e hq he => ?_)
      exact hE q tk1 e (fun c o q0 _ q1 q2 x => hq _ _ q2 (hp1.extBut _ _ q1 (hs0.extBut _ _ q0 x))) he
    · have ea : i = n1 := by omega
      subst ea
      refine wpAny_bind (Da.done _ _ _ (Da.over sa hs0 S.zf1) fun q e hq he => ?_)
      exact hE q t0 e (fun c o q0 _ q1 _ x => hq _ _ q1 (hs0.extBut _ _ q0 x)) he
  case reuse =>
    simp only [if_true]
    refine wpAny_bind (wpAny_rule (wpAny_bind (wpAny_field (x := .ref TO) hz rfl rfl (wpAny_bind (wpAny_setField_rec hz (by simp) fun g0 hz0 hs0 => ?_)))))
    replace hz0 : ZS g0 z TI TO .ellipsis b := hz0
    replace hs0 : Heap.SameBut z hp g0 := hs0
    refine wpAny_bind ?_
    simp only [List.zipIdx_cons, List.zipIdx_nil, List.forIn_cons, List.forIn_nil]
    refine wpAny_bind (wpAny_bind (wpAny_onRaise ?_))
    show wpAny _ A (Builtin.SmallTypes.nextOf (.ref i1) >>= _) _ _ ⟨g0, gg, dd, t0, oo⟩
    by_cases la : i < n1
    · refine wpAny_bind (Da.item i _ _ _ la (Da.over sa hs0 S.zf1) fun x1 p1 tk1 hx1 sn1 hp1 => wpAny_pure ?_)
      replace hp1 : Heap.SameBut i1 g0 p1 := hp1
      have hO1 : IsTupOf2 p1 TO c1 c2 := hp1.extBut _ _ S.Ti1 (hs0.extBut _ _ S.TOz hO)
      refine wpAny_bind (wpAny_seqItems hO1 rfl (wpAny_bind (updateSeq_IsTupOf2 hO1 fun g1 hT1 hs1 => wpAny_bind (wpAny_letGo (wpAny_pure ?_)))))
      replace hs1 : Heap.SameBut TO p1 g1 := hs1
      refine wpAny_bind (wpAny_bind (wpAny_onRaise ?_))
      show wpAny _ A (Builtin.SmallTypes.nextOf (.ref i2) >>= _) _ _ _
      have eb2 : i = n2 := by omega
      subst eb2
      refine wpAny_bind (Db.done _ _ _ (Db.over (Db.over (Db.over sb hs0 S.zf2) hp1 S.sep1_2) hs1 S.Tf2) fun q e hq he => ?_)
      replace hq : Heap.ExtBut i2 g1 q := hq
      obtain ⟨oe, ho, hc⟩ := he
      replace ho : q.get? e = some oe := ho
      have zq : ZS q z TI TO .ellipsis b := hq _ _ S.zi2 (hs1.extBut _ _ S.TOz.symm (hp1.extBut _ _ S.zi1 hz0))
      have ne : e ≠ z := fun x => by
        subst x
        rw [zq] at ho
        cases ho
        simp at hc
      refine wpAny_setField_rec (s := ⟨q, gg, dd, tk1, oo⟩) zq (by simp) fun q2 _ hq2 => ?_
      replace hq2 : Heap.SameBut z q q2 := hq2
      exact hE q2 tk1 e (fun c o q0 q3 q1 q2 x => hq2.extBut _ _ q0 (hq _ _ q2 (hs1.extBut _ _ q3 (hp1.extBut _ _ q1 (hs0.extBut _ _ q0 x))))) ⟨oe, hq2.extBut _ _ ne ho, hc⟩
    · have ea : i = n1 := by omega
      subst ea
      refine wpAny_bind (Da.done _ _ _ (Da.over sa hs0 S.zf1) fun q e hq he => ?_)
      replace hq : Heap.ExtBut i1 g0 q := hq
      obtain ⟨oe, ho, hc⟩ := he
      replace ho : q.get? e = some oe := ho
      have zq : ZS q z TI TO .ellipsis b := hq _ _ S.zi1 hz0
      have ne : e ≠ z := fun x => by
        subst x
        rw [zq] at ho
        cases ho
        simp at hc
      refine wpAny_setField_rec (s := ⟨q, gg, dd, t0, oo⟩) zq (by simp) fun q2 _ hq2 => ?_
      replace hq2 : Heap.SameBut z q q2 := hq2
      exact hE q2 t0 e (fun c o q0 q3 q1 _ x => hq2.extBut _ _ q0 (hq _ _ q1 (hs0.extBut _ _ q0 x))) ⟨oe, hq2.extBut _ _ ne ho, hc⟩
end
end DX
/-! ### DX5 -/
set_option Elab.async false
set_option linter.all false
set_option maxRecDepth 100000
set_option maxHeartbeats 4000000
/-! for x in zip(tuple, tuple): one name -/
namespace DX
open PySem PySem.Spec PyProof.Rows L2
def ItzN (K : PySem.W.Frag) (a b : Addr) : It where
  go := fun i H => ∃ (xs ys : List V) (x y : V), SqT K H a xs ∧ SqT K H b ys ∧ xs[i]? = some x ∧ ys[i]? = some y
  yld := fun i H v H' => ∃ T x y, v = .ref T ∧ H T = none ∧ H' = upd H T (.tup [x, y]) ∧ (∀ xs, SqT K H a xs → xs[i]? = some x) ∧ ∀ ys, SqT K H b ys → ys[i]? = some y
  stop := fun i H => ∃ xs ys : List V, SqT K H a xs ∧ SqT K H b ys ∧ i ≤ xs.length ∧ i ≤ ys.length ∧ (i = xs.length ∨ i = ys.length)
def ZnSt (z TI TO i1 i2 a b : Addr) (i : Nat) (h : Heap) : Prop :=
  (∃ f k, Fr0 f ∧ ZS h z TI TO f k) ∧ IsTupOf2 h TI (.ref i1) (.ref i2) ∧ (∃ x y, IsTupOf2 h TO x y) ∧ h.IsTupleIter i1 a i ∧ h.IsTupleIter i2 b i
theorem five {z TI TO i1 i2 c : Addr} (h : c ∈ [z, TI, TO, i1, i2]) : c = z ∨ c = TI ∨ c = TO ∨ c = i1 ∨ c = i2 := by simpa using h
theorem turn_zipN {P : Program} {w : World} {K : PySem.W.Frag} {x0 : Str} {p0 : Pos} {a b z TI TO i1 i2 : Addr} (S : ZipSep2 z TI TO i1 i2 [i1, a] [i2, b]) (na : a ≠ i1) (nb : b ≠ i2) :
    Turn P w K (.Name x0 p0) (ItzN K a b) [z, TI, TO, i1, i2] z (ZnSt z TI TO i1 i2 a b) where
  mem := by simp
  obj := fun i h ⟨⟨f, k, _, hz⟩, hTI, ⟨x, y, hTO⟩, ⟨o1, e1, _, d1⟩, ⟨o2, e2, _, d2⟩⟩ c hc => by
    rcases five hc with q | q | q | q | q <;> subst q
    · exact ⟨_, hz, fun v q => nomatch q⟩
    · exact ⟨_, hTI, fun v q => nomatch q⟩
    · exact ⟨_, hTO, fun v q => nomatch q⟩
    · exact ⟨o1, e1, fun v q => by rw [d1] at q; cases q⟩
    · exact ⟨o2, e2, fun v q => by rw [d2] at q; cases q⟩
  keep := fun i h h' ⟨⟨f, k, hf, hz⟩, hTI, ⟨x, y, hTO⟩, h1, h2⟩ kp =>
    ⟨⟨f, k, hf, kp z (by simp) _ hz⟩, kp TI (by simp) _ hTI, ⟨x, y, kp TO (by simp) _ hTO⟩, h1.at fun o q => kp i1 (by simp) o q, h2.at fun o q => kp i2 (by simp) o q⟩
  item := by
    intro X hP hw hK hc i pins s σ H E I hf ⟨⟨f, k, hf0, hz⟩, hTI, ⟨d1, d2, hTO⟩, h1, h2⟩ ⟨xs, ys, x, y, hqx, hqy, hx, hy⟩
    subst hP hw hK
    obtain ⟨its, rv, p, _⟩ := I.tuple hqx
    obtain ⟨its2, rv2, p2, _⟩ := I.tuple hqy
    obtain ⟨u, hu, ru⟩ := rv.get hx
    obtain ⟨u2, hu2, ru2⟩ := rv2.get hy
    have l1 : i < its.toArray.size := by simpa using (List.getElem?_eq_some_iff.mp hu).1
    have l2 : i < its2.toArray.size := by simpa using (List.getElem?_eq_some_iff.mp hu2).1
    have hh : X.A.in1.handled = none := I.ok.hd hc
    have hT : s.TypeIs (.ref z) "zip" := ⟨_, hz, rfl⟩
    unfold pyNext
    refine wpAny_bind (wpAny_attempt (wpAny_callSpecial?_slot (name := Str.ofString "__next__") hT F.slot_zip_next (wpAny_call_entry F.slot_zip_next hT F.entry_zip_next
      (zn_item S (Draws.tuple hh i1 a na its.toArray) (Draws.tuple hh i2 b nb its2.toArray) hz hf0 hTI hTO ⟨h1, p⟩ ⟨h2, p2⟩ l1 l2 fun v1 v2 h' tk e1 e2 hz' hTO' ⟨s1, _⟩ ⟨s2, _⟩ hT' kp => wpAny_pure ?_) (F.args_zip_next_1 _))))
    refine ⟨_, rfl, wpAny_pure ?_⟩
    have q1 : v1 = u := by
      have e1' : its[i]? = some v1 := by simpa using e1
      rw [hu] at e1'; exact (Option.some.inj e1').symm
    have q2 : v2 = u2 := by
      have e2' : its2[i]? = some v2 := by simpa using e2
      rw [hu2] at e2'; exact (Option.some.inj e2').symm
    subst q1 q2
    have new : ObjOk X.prog X.w (upd H s.heap.objs.size (.tup [x, y])) h' s.heap.objs.size (.tup [x, y]) := ⟨by show 2 ≤ sizeLine; decide, [v1, v2], .cons ru (.cons ru2 .nil), ⟨_, hT', rfl, _, rfl⟩⟩
    refine ⟨.ref s.heap.objs.size, upd H s.heap.objs.size (.tup [x, y]), I.turnedNew (t' := tk) (ch := [z, TI, TO, i1, i2]) (fun c o hb q => kp c o (fun m => hb (by simp [m])) (fun m => hb (by simp [m])) (fun m => hb (by simp [m])) (fun m => hb (by simp [m])) q) hf (Nat.le_refl _) new, rfl,
      ⟨_, x, y, rfl, I.hok.fresh (Nat.le_refl _), rfl, fun l hl => by rw [I.tuple_inj hl hqx]; exact hx, fun l hl => by rw [I.tuple_inj hl hqy]; exact hy⟩, ⟨hz', kp TI _ S.TIz S.TITO S.TIi1 S.TIi2 hTI, hTO', s1, s2⟩, fun c hcm => ?_⟩
    obtain ⟨oc, hoc⟩ : ∃ oc, s.heap.get? c = some oc := by
      obtain ⟨o1, e1, _⟩ := h1
      obtain ⟨o2, e2, _⟩ := h2
      rcases five hcm with q | q | q | q | q <;> subst q
      · exact ⟨_, hz⟩
      · exact ⟨_, hTI⟩
      · exact ⟨_, hTO⟩
      · exact ⟨_, e1⟩
      · exact ⟨_, e2⟩
    rw [upd_ne (Nat.ne_of_lt (Heap.lt_size hoc))]
    exact (hf c hcm).1
  done := by
    intro X hP hw hK hc i pins s σ H E I hf ⟨⟨f, k, hf0, hz⟩, hTI, ⟨d1, d2, hTO⟩, h1, h2⟩ ⟨xs, ys, hqx, hqy, b1, b2, hend⟩
    subst hP hw hK
    obtain ⟨its, rv, p, _⟩ := I.tuple hqx
    obtain ⟨its2, rv2, p2, _⟩ := I.tuple hqy
    have l1 : its.toArray.size = xs.length := by have := rv.length; simp; omega
    have l2 : its2.toArray.size = ys.length := by have := rv2.length; simp; omega
    have hh : X.A.in1.handled = none := I.ok.hd hc
    have hT : s.TypeIs (.ref z) "zip" := ⟨_, hz, rfl⟩
    unfold pyNext
    refine wpAny_bind (wpAny_attempt (wpAny_callSpecial?_slot (name := Str.ofString "__next__") hT F.slot_zip_next (wpAny_call_entry F.slot_zip_next hT F.entry_zip_next
      (zn_end S (Draws.tuple hh i1 a na its.toArray) (Draws.tuple hh i2 b nb its2.toArray) hz hf0 hTI hTO ⟨h1, p⟩ ⟨h2, p2⟩ (by omega) (by omega) (by omega) fun h' tk e kp he => ?_) (F.args_zip_next_1 _))))
    obtain ⟨oe, ho, hce⟩ := he
    refine wpAny_bind (wpAny_isInstance (T := "StopIteration") (b := true) ⟨oe, ho, hce⟩ isSubtype_stop (wpAny_pure ⟨rfl, ?_⟩))
    exact I.turnedL (t' := tk) (ch := [z, TI, TO, i1, i2]) (fun c o hb q => kp c o (fun m => hb (by simp [m])) (fun m => hb (by simp [m])) (fun m => hb (by simp [m])) (fun m => hb (by simp [m])) q) hf
  self := fun A i s Q E st h => by
    obtain ⟨⟨f, k, _, hz⟩, _⟩ := st
    have hT : s.TypeIs (.ref z) "zip" := ⟨_, hz, rfl⟩
    refine wpAny_pyIter_slot hT F.slot_zip_iter (wpAny_call_entry F.slot_zip_iter hT F.entry_zip_iter (wpAny_pure ⟨_, rfl, "zip", _, hT, F.slot_zip_next.lookup, h⟩) (F.args_zip_iter_1 _))
def iZipN (K : PySem.W.Frag) (ta : TA) : TI := fun σ H R => ta σ H fun vs H1 => ∃ a b xs ys, vs = [.ref a, .ref b] ∧ SqT K H1 a xs ∧ SqT K H1 b ys ∧ R (ItzN K a b) H1
theorem pi_zipN {X : Cx} {e e2 : Expr} {ta : TA} {p pos p0 : Pos} {x0 : Str} (hg : Gl X "zip") (hm : X.mg "zip" = none) (ha : PA X [e, e2] ta)
    (hs : starEach [e, e2] X.env = (false, eval e X.env) :: starEach [e2] X.env := by rfl) (hpl : (backTo pos (starEach [e2] X.env)).any (·.1) = false := by rfl) :
    PI X (.Name x0 p0) (.Call (.Name "zip" p) [e, e2] [] pos) (iZipN X.K ta) := by
  refine ⟨fun pins s σ H R I h => Call_ (ld_blt I hg hm PyProof.Rows.boot_zip (PyProof.Rows.callWith_type1 (thn (ha.run pos pins s σ H _ I h) fun us s1 ⟨vs, H1, I1, r1, a, b, xs, ys, ex, hqx, hqy, q⟩ => ?_) hs hpl))⟩
  subst ex
  obtain ⟨u1, u2, eu, r2, r3⟩ : ∃ u1 u2, us = [u1, u2] ∧ RelV (.ref a) u1 ∧ RelV (.ref b) u2 := by
    cases r1 with
    | cons r rr =>
      cases rr with
      | cons r' rr => cases rr; exact ⟨_, _, rfl, r, r'⟩
  subst eu
  cases r2
  cases r3
  obtain ⟨its, rv, p1, _⟩ := I1.tuple hqx
  obtain ⟨its2, rv2, p2, _⟩ := I1.tuple hqy
  have la : a < s1.heap.objs.size := p1.lt
  have lb : b < s1.heap.objs.size := p2.lt
  refine zip_begins2 (begins_tuple a its.toArray) (begins_tuple b its2.toArray) p1 p2 fun h' hz hTI hTO g1 g2 hsz hk => wpAny_pyIter_zip hz ?_
  refine ⟨s1.heap.objs.size + 4, [s1.heap.objs.size + 4, s1.heap.objs.size + 2, s1.heap.objs.size + 3, s1.heap.objs.size, s1.heap.objs.size + 1], ZnSt _ _ _ _ _ a b, ItzN X.K a b, H1, rfl, I1.kept (t' := s1.toks) hk,
    turn_zipN (zip_sep2 (fun b hb => by rw [List.mem_singleton.mp hb]; exact la) (fun b hb => by rw [List.mem_singleton.mp hb]; exact lb)) (Nat.ne_of_lt la) (Nat.ne_of_lt (Nat.lt_succ_of_lt lb)), ⟨⟨_, _, .inl rfl, hz⟩, hTI, ⟨_, _, hTO⟩, ⟨_, g1, rfl, rfl⟩, ⟨_, g2, rfl, rfl⟩⟩, fun c hcm => ?_, q⟩
  have hle : s1.heap.objs.size ≤ c := by
    rcases five hcm with q | q | q | q | q <;> subst q
    all_goals first | exact Nat.le_add_right _ _ | exact Nat.le_refl _
  exact I1.fpOk hle (I1.hok.fresh hle)
theorem walk_zipN {K : PySem.W.Frag} {a b : Addr} {xs ys : List V} {n : Nat} (hn : n = min xs.length ys.length) : Walk (ItzN K a b) n (fun H => SqT K H a xs ∧ SqT K H b ys) (YPair (fun i => xs[i]?) (fun i => ys[i]?)) where
  goes := fun i H hi q => by
    have u1 : i < xs.length := by omega
    have u2 : i < ys.length := by omega
    exact ⟨xs, ys, xs[i], ys[i], q.1, q.2, List.getElem?_eq_getElem u1, List.getElem?_eq_getElem u2⟩
  stops := fun H q => ⟨xs, ys, q.1, q.2, by omega, by omega, by omega⟩
  yields := fun i H v H' _ q y => by
    obtain ⟨T, x, z, e1, e2, e3, k1, k2⟩ := y
    exact ⟨T, x, z, e1, e2, e3, k1 _ q.1, k2 _ q.2⟩
end DX
/-! ### DL -/
set_option Elab.async false
set_option linter.all false
set_option maxRecDepth 100000
set_option maxHeartbeats 4000000
/-! Data in the heap, and what an expression's reading evaluates to, as data. -/
namespace DL
open PySem PySem.Spec L2 Evl DX KM
abbrev dN (n : Nat) : PyData := .int (n : Int)
abbrev dP (e : Pr) : PyData := .tuple [dN e.1, dN e.2]
abbrev dNs (l : List Nat) : PyData := .tuple (l.map dN)
abbrev dPs (l : List Pr) : PyData := .tuple (l.map dP)
abbrev dW (n : Nat) (ps : List Pr) : PyData := .tuple [dN n, dPs ps]
/-! ### data as such -/
theorem eqv_N (a b : Nat) : PyData.eqv (dN a) (dN b) = decide (a = b) := by
  show ((a : Int) == (b : Int)) = _
  by_cases h : a = b
  · subst h; simp
  · have : ¬ ((a : Int) = (b : Int)) := by omega
    simp [h, this]
theorem eqv_P (a b : Pr) : PyData.eqv (dP a) (dP b) = decide (a = b) := by
  show (PyData.eqv (dN a.1) (dN b.1) && (PyData.eqv (dN a.2) (dN b.2) && true)) = _
  rw [eqv_N, eqv_N, Bool.and_true]
  obtain ⟨a1, a2⟩ := a
  obtain ⟨b1, b2⟩ := b
  simp [Prod.mk.injEq]
theorem eqvAll_map {α : Type} [DecidableEq α] {f : α → PyData} (hf : ∀ a b, PyData.eqv (f a) (f b) = decide (a = b)) : ∀ xs ys : List α, PyData.eqvAll (xs.map f) (ys.map f) = decide (xs = ys)
  | [], [] => by simp [PyData.eqvAll]
  | [], y :: ys => by simp [PyData.eqvAll]
  | x :: xs, [] => by simp [PyData.eqvAll]
  | x :: xs, y :: ys => by
    simp only [List.map_cons, PyData.eqvAll, hf, eqvAll_map hf xs ys, List.cons.injEq, Bool.decide_and]
theorem eqv_Ns (a b : List Nat) : PyData.eqv (dNs a) (dNs b) = decide (a = b) := by
  show PyData.eqvAll _ _ = _
  exact eqvAll_map eqv_N a b
theorem eqv_Ps (a b : List Pr) : PyData.eqv (dPs a) (dPs b) = decide (a = b) := by
  show PyData.eqvAll _ _ = _
  exact eqvAll_map eqv_P a b
theorem canLay_all {α : Type} {f : α → PyData} (h : ∀ a, (f a).canLay0 = true) : ∀ xs : List α, PyData.canLayAll0 (xs.map f) = true
  | [] => by simp [PyData.canLayAll0]
  | x :: xs => by simp [PyData.canLayAll0, h, canLay_all h xs]
theorem depth_all {α : Type} {f : α → PyData} {k : Nat} (h : ∀ a, (f a).depth ≤ k) : ∀ xs : List α, PyData.depthAll (xs.map f) ≤ k
  | [] => by simp [PyData.depthAll]
  | x :: xs => by
    rw [List.map_cons, PyData.depthAll]
    exact Nat.max_le.mpr ⟨h x, depth_all h xs⟩
theorem canLay_N (n : Nat) : (dN n).canLay0 = true := by simp [PyData.canLay0]
theorem canLay_P (e : Pr) : (dP e).canLay0 = true := by simp [PyData.canLay0, PyData.canLayAll0]
theorem depth_N (n : Nat) : (dN n).depth ≤ 0 := by simp [PyData.depth]
theorem depth_P (e : Pr) : (dP e).depth ≤ 1 := by simp [PyData.depth, PyData.depthAll]
theorem shaped_P (e : Pr) : SeqAt.shaped (dP e) = true := by
  unfold SeqAt.shaped
  rw [canLay_P, Bool.true_and, decide_eq_true_eq]
  exact Nat.le_trans (depth_P e) (by decide)
theorem shaped_N (e : Nat) : SeqAt.shaped (dN e) = true := by
  unfold SeqAt.shaped
  rw [canLay_N, Bool.true_and, decide_eq_true_eq]
  exact Nat.le_trans (depth_N e) (by decide)
theorem shaped_tup {α : Type} {f : α → PyData} {k : Nat} (hk : k ≤ 60) (h1 : ∀ a, (f a).canLay0 = true) (h2 : ∀ a, (f a).depth ≤ k) (xs : List α) : SeqAt.shaped (.tuple (xs.map f)) = true := by
  unfold SeqAt.shaped
  have a : (PyData.tuple (xs.map f)).canLay0 = true := by simpa [PyData.canLay0] using canLay_all h1 xs
  rw [a, Bool.true_and, decide_eq_true_eq]
  have := depth_all h2 xs
  simp only [PyData.depth]; omega
theorem shaped_lst {α : Type} {f : α → PyData} {k : Nat} (hk : k ≤ 60) (h1 : ∀ a, (f a).canLay0 = true) (h2 : ∀ a, (f a).depth ≤ k) (xs : List α) : SeqAt.shaped (.list (xs.map f)) = true := by
  unfold SeqAt.shaped
  have a : (PyData.list (xs.map f)).canLay0 = true := by simpa [PyData.canLay0] using canLay_all h1 xs
  rw [a, Bool.true_and, decide_eq_true_eq]
  have := depth_all h2 xs
  simp only [PyData.depth]; omega
theorem shaped_Ns (l : List Nat) : SeqAt.shaped (dNs l) = true := shaped_tup (by decide) canLay_N depth_N l
theorem shaped_Ps (l : List Pr) : SeqAt.shaped (dPs l) = true := shaped_tup (by decide) canLay_P depth_P l
theorem any_N (l : List Nat) (n : Nat) : ((l.map dN).any fun z => PyData.eqv z (dN n)) = decide (n ∈ l) := by
  rw [List.any_map, Bool.eq_iff_iff]
  simp only [List.any_eq_true, Function.comp, eqv_N, decide_eq_true_eq]
  constructor
  · rintro ⟨x, hx, e⟩; rw [← e]; exact hx
  · intro h; exact ⟨n, h, rfl⟩
theorem any_P (l : List Pr) (n : Pr) : ((l.map dP).any fun z => PyData.eqv z (dP n)) = decide (n ∈ l) := by
  rw [List.any_map, Bool.eq_iff_iff]
  simp only [List.any_eq_true, Function.comp, eqv_P, decide_eq_true_eq]
  constructor
  · rintro ⟨x, hx, e⟩; rw [← e]; exact hx
  · intro h; exact ⟨n, h, rfl⟩
/-! ### data that stands stays -/
section
variable {K : PySem.W.Frag} {H H' : Hp}
mutual
theorem dp_mono (e : Ex H H') : ∀ {d : PyData} {v : V}, Dp K H v d → Dp K H' v d
  | _, _, .non => .non
  | _, _, .bl b => .bl b
  | _, _, .int i => .int i
  | _, _, .str x => .str x
  | _, _, .lst h1 h2 => .lst (ex_l e h1) (dpa_mono e h2)
  | _, _, .tup h1 h2 => .tup (ex_t e h1) (dpa_mono e h2)
theorem dpa_mono (e : Ex H H') : ∀ {ds : List PyData} {vs : List V}, DpAll K H vs ds → DpAll K H' vs ds
  | _, _, .nil => .nil
  | _, _, .cons h1 h2 => .cons (dp_mono e h1) (dpa_mono e h2)
end
theorem dp_int {v : V} {i : Int} (h : Dp K H v (.int i)) : v = .int i := by cases h; rfl
theorem dp_bl {v : V} {b : Bool} (h : Dp K H v (.bool b)) : v = .bl b := by cases h; rfl
theorem dp_str {v : V} {b : Str} (h : Dp K H v (.str b)) : v = .str b := by cases h; rfl
theorem dp_non {v : V} (h : Dp K H v .none) : v = .non := by cases h; rfl
theorem dp_tup {v : V} {ds : List PyData} (h : Dp K H v (.tuple ds)) : ∃ a xs, v = .ref a ∧ SqT K H a xs ∧ DpAll K H xs ds := by
  cases h with
  | tup h1 h2 => exact ⟨_, _, rfl, h1, h2⟩
theorem dp_lst {v : V} {ds : List PyData} (h : Dp K H v (.list ds)) : ∃ a xs, v = .ref a ∧ SqL K H a xs ∧ DpAll K H xs ds := by
  cases h with
  | lst h1 h2 => exact ⟨_, _, rfl, h1, h2⟩
theorem dpa_nil {vs : List V} (h : DpAll K H vs []) : vs = [] := by cases h; rfl
theorem dpa_cons {vs : List V} {d : PyData} {ds : List PyData} (h : DpAll K H vs (d :: ds)) : ∃ v r, vs = v :: r ∧ Dp K H v d ∧ DpAll K H r ds := by
  cases h with
  | cons h1 h2 => exact ⟨_, _, rfl, h1, h2⟩
theorem dpa_app {vs ws : List V} {ds es : List PyData} (h : DpAll K H vs ds) (g : DpAll K H ws es) : DpAll K H (vs ++ ws) (ds ++ es) := by
  induction vs generalizing ds with
  | nil => cases h; exact g
  | cons v vs ih =>
    cases h with
    | cons h1 h2 => exact .cons h1 (ih h2)
theorem dpa_at {vs : List V} {ds : List PyData} {i : Nat} {d : PyData} (h : DpAll K H vs ds) (hi : ds[i]? = some d) : ∃ v, vs[i]? = some v ∧ Dp K H v d := by
  induction ds generalizing vs i with
  | nil => simp at hi
  | cons e ds ih =>
    obtain ⟨v, r, rfl, h1, h2⟩ := dpa_cons h
    cases i with
    | zero => simp at hi; subst hi; exact ⟨v, rfl, h1⟩
    | succ i => simpa using ih h2 (by simpa using hi)
/-- flat things: the values are the data's -/
theorem dpa_val {α : Type} {f : α → PyData} {g : α → V} (hf : ∀ a v, Dp K H v (f a) → v = g a) : ∀ {l : List α} {vs : List V}, DpAll K H vs (l.map f) → vs = l.map g
  | [], _, h => by rw [dpa_nil h]; rfl
  | a :: l, _, h => by
    obtain ⟨v, r, rfl, h1, h2⟩ := dpa_cons h
    rw [hf a v h1, dpa_val hf h2]; rfl
theorem val_dpa {α : Type} {f : α → PyData} {g : α → V} (hf : ∀ a, Dp K H (g a) (f a)) : ∀ (l : List α), DpAll K H (l.map g) (l.map f)
  | [] => .nil
  | a :: l => .cons (hf a) (val_dpa hf l)
abbrev vN (n : Nat) : V := .int (n : Int)
theorem dpa_N {l : List Nat} {vs : List V} (h : DpAll K H vs (l.map dN)) : vs = l.map vN := dpa_val (fun _ _ h => dp_int h) h
theorem N_dpa (l : List Nat) : DpAll K H (l.map vN) (l.map dN) := val_dpa (fun a => .int _) l
theorem dp_Ns {v : V} {l : List Nat} (h : Dp K H v (dNs l)) : ∃ a, v = .ref a ∧ SqT K H a (l.map vN) := by
  obtain ⟨a, xs, e, h1, h2⟩ := dp_tup h
  rw [dpa_N h2] at h1
  exact ⟨a, e, h1⟩
theorem Ns_dp {a : Addr} {l : List Nat} (h : SqT K H a (l.map vN)) : Dp K H (.ref a) (dNs l) := .tup h (N_dpa l)
theorem dp_P {v : V} {e : Pr} (h : Dp K H v (dP e)) : ∃ a, v = .ref a ∧ SqT K H a [vN e.1, vN e.2] := by
  obtain ⟨a, xs, ev, h1, h2⟩ := dp_tup h
  obtain ⟨v1, r, rfl, h3, h4⟩ := dpa_cons h2
  obtain ⟨v2, r, rfl, h5, h6⟩ := dpa_cons h4
  rw [dpa_nil h6, dp_int h3, dp_int h5] at h1
  exact ⟨a, ev, h1⟩
theorem P_dp {a : Addr} {e : Pr} (h : SqT K H a [vN e.1, vN e.2]) : Dp K H (.ref a) (dP e) := .tup h (.cons (.int _) (.cons (.int _) .nil))
theorem dp_Ps {v : V} {l : List Pr} (h : Dp K H v (dPs l)) : ∃ a xs, v = .ref a ∧ SqT K H a xs ∧ DpAll K H xs (l.map dP) := dp_tup h
theorem dp_W {v : V} {n : Nat} {ps : List Pr} (h : Dp K H v (dW n ps)) : ∃ a u, v = .ref a ∧ SqT K H a [vN n, u] ∧ Dp K H u (dPs ps) := by
  obtain ⟨a, xs, ev, h1, h2⟩ := dp_tup h
  obtain ⟨v1, r, rfl, h3, h4⟩ := dpa_cons h2
  obtain ⟨v2, r, rfl, h5, h6⟩ := dpa_cons h4
  rw [dpa_nil h6, dp_int h3] at h1
  exact ⟨a, v2, ev, h1, h5⟩
end
end DL
/-! ### DL2 -/
set_option Elab.async false
set_option linter.all false
set_option maxRecDepth 100000
set_option maxHeartbeats 4000000
/-! What readings evaluate to: data, new lists. -/
namespace DL
open PySem PySem.Spec L2 Evl DX KM
/-! ### rules with named readings -/
section
variable {X : Cx}
def rTupOf (K : PySem.W.Frag) : List V → Hp → VK → Prop := fun xs H Q => ∃ p ys, xs = [.ref p] ∧ ((SqL K H p ys ∧ ∀ l, H l = none → Q (.ref l) (upd H l (.tup ys))) ∨ (SqT K H p ys ∧ Q (.ref p) H))
theorem cr_tupOf : CallR X (.type "tuple") (rTupOf X.K) := call_tuple_of
theorem cr_lenS : CallR X (.builtin "len") (rLenS X.K) := call_len_seq
theorem cr_lstOf : CallR X (.type "list") (rListS X.K) := call_list_of
def rAbs : List V → Hp → VK → Prop := fun xs H Q => ∃ i, xs = [.int i] ∧ Q (.int (if i < 0 then -i else i)) H
theorem cr_abs : CallR X (.builtin "abs") rAbs := call_abs
def rInt1 : List V → Hp → VK → Prop := fun xs H Q => (∃ i, xs = [.int i] ∧ Q (.int i) H) ∨ ∃ k, xs = [.bl k] ∧ Q (.int (if k then 1 else 0)) H
theorem cr_int1 : CallR X (.type "int") rInt1 := call_int1
def rIsN' : R2 := fun x y H Q => y = .non ∧ Q (.bl (decide (x = .non))) H
def rNotN' : R2 := fun x y H Q => y = .non ∧ Q (.bl (!decide (x = .non))) H
theorem op_isN' : OpR X (compareOp .Is) rIsN' := op_isN
theorem op_notN' : OpR X (compareOp .IsNot) rNotN' := op_notN
end
def EvP (te : TE) (σ : L2.St) (H : Hp) (P : V → Hp → Prop) : Prop := ∀ H1, Ex H H1 → ∀ Q : VK, (∀ v H2, Ex H1 H2 → P v H2 → Q v H2) → te σ H1 Q
abbrev EvD (K : PySem.W.Frag) (te : TE) (σ : L2.St) (H : Hp) (d : PyData) : Prop := EvP te σ H fun v H2 => Dp K H2 v d
/-- a new list -/
def EvN (te : TE) (σ : L2.St) (H : Hp) (P : List V → Hp → Prop) : Prop := ∀ H1, Ex H H1 → ∀ Q : VK, (∀ p ys H2, H1 p = none → Ex H1 H2 → H2 p = some (.lst ys) → P ys H2 → Q (.ref p) H2) → te σ H1 Q
abbrev EvNl (K : PySem.W.Frag) (te : TE) (σ : L2.St) (H : Hp) (ds : List PyData) : Prop := EvN te σ H fun ys H2 => DpAll K H2 ys ds
def EvAP (ta : TA) (σ : L2.St) (H : Hp) (P : List V → Hp → Prop) : Prop := ∀ H1, Ex H H1 → ∀ Q : List V → Hp → Prop, (∀ vs H2, Ex H1 H2 → P vs H2 → Q vs H2) → ta σ H1 Q
abbrev EvDA (K : PySem.W.Frag) (ta : TA) (σ : L2.St) (H : Hp) (ds : List PyData) : Prop := EvAP ta σ H fun vs H2 => DpAll K H2 vs ds
section
variable {K : PySem.W.Frag} {σ : L2.St} {H H' : Hp} {ta tb te tx : TE} {t u : TT} {d e : PyData} {ds es : List PyData} {v : V} {P : V → Hp → Prop}
theorem EvP.mono (x : Ex H H') (h : EvP te σ H P) : EvP te σ H' P := fun H1 a Q q => h H1 (x.trans a) Q q
theorem EvN.mono {P : List V → Hp → Prop} (x : Ex H H') (h : EvN te σ H P) : EvN te σ H' P := fun H1 a Q q => h H1 (x.trans a) Q q
theorem ev_of (h : EvP te σ H P) (f : ∀ w H1, Ex H H1 → P w H1 → w = v) : Ev te σ H v := fun H1 x Q q => h H1 x Q fun w H2 x2 hp => by
  rw [f w H2 (x.trans x2) hp]; exact q H2 x2
theorem evp_of (h : Ev te σ H v) (f : ∀ H1, Ex H H1 → P v H1) : EvP te σ H P := fun H1 x Q q => h H1 x Q fun H2 x2 => q v H2 x2 (f H2 (x.trans x2))
theorem evd_of (h : Ev te σ H v) (f : ∀ H1, Ex H H1 → Dp K H1 v d) : EvD K te σ H d := evp_of h f
theorem evd_int {i : Int} (h : Ev te σ H (.int i)) : EvD K te σ H (.int i) := evd_of h fun _ _ => .int i
theorem evd_bl {i : Bool} (h : Ev te σ H (.bl i)) : EvD K te σ H (.bool i) := evd_of h fun _ _ => .bl i
theorem evd_str {i : Str} (h : Ev te σ H (.str i)) : EvD K te σ H (.str i) := evd_of h fun _ _ => .str i
theorem evd_non (h : Ev te σ H .non) : EvD K te σ H .none := evd_of h fun _ _ => .non
theorem ev_int {i : Int} (h : EvD K te σ H (.int i)) : Ev te σ H (.int i) := ev_of h fun _ _ _ h => dp_int h
theorem ev_bl {i : Bool} (h : EvD K te σ H (.bool i)) : Ev te σ H (.bl i) := ev_of h fun _ _ _ h => dp_bl h
theorem ev_str {i : Str} (h : EvD K te σ H (.str i)) : Ev te σ H (.str i) := ev_of h fun _ _ _ h => dp_str h
theorem evd_var {i : Nat} (h : σ[i]? = some (some v)) (hd : Dp K H v d) : EvD K (tVar i) σ H d := evd_of (ev_var h) fun _ x => dp_mono x hd
theorem evd_is (h : EvD K te σ H d) (x : d = e) : EvD K te σ H e := by rw [← x]; exact h
theorem evn_p {P : List V → Hp → Prop} (h : EvN te σ H P) : EvP te σ H fun v H2 => ∃ p ys, v = .ref p ∧ H2 p = some (.lst ys) ∧ P ys H2 := fun H1 x Q q => h H1 x Q fun p ys H2 hp x2 h2 hP => q _ H2 x2 ⟨p, ys, rfl, h2, hP⟩
theorem evn_d (h : EvNl K te σ H ds) : EvD K te σ H (.list ds) := fun H1 x Q q => h H1 x Q fun p ys H2 _ x2 h2 hd => q _ H2 x2 (.lst (sq_of h2) hd)
/-! ### operations -/
theorem evp_op {r : R2} (ha : EvD K ta σ H d) (hb : EvD K tb σ H e) (hr : ∀ x y H1, Ex H H1 → Dp K H1 x d → Dp K H1 y e → ∀ Q : VK, (∀ v H2, Ex H1 H2 → P v H2 → Q v H2) → r x y H1 Q) : EvP (tOp r ta tb) σ H P := fun H1 x Q q =>
  ha H1 x _ fun v H2 x2 h2 => hb H2 (x.trans x2) _ fun w H3 x3 h3 => hr v w H3 ((x.trans x2).trans x3) (dp_mono x3 h2) h3 Q fun z H4 x4 h4 => q z H4 ((x2.trans x3).trans x4) h4
theorem ev_opD {r : R2} (ha : EvD K ta σ H d) (hb : EvD K tb σ H e) (hr : ∀ x y H1, Ex H H1 → Dp K H1 x d → Dp K H1 y e → ∀ Q : VK, Q v H1 → r x y H1 Q) : Ev (tOp r ta tb) σ H v :=
  ev_of (P := fun w _ => w = v) (evp_op ha hb fun x y H1 hx h1 h2 Q q => hr x y H1 hx h1 h2 Q (q v H1 (Ex.refl H1) rfl)) fun _ _ _ h => h
theorem ev_eqD (ha : EvD K ta σ H d) (hb : EvD K tb σ H e) (sd : SeqAt.shaped d = true) (se : SeqAt.shaped e = true) : Ev (tOp (rEqD K) ta tb) σ H (.bl (PyData.eqv d e)) :=
  ev_opD ha hb fun x y H1 _ h1 h2 Q q => ⟨d, e, h1, h2, sd, se, q⟩
theorem ev_neD (ha : EvD K ta σ H d) (hb : EvD K tb σ H e) (sd : SeqAt.shaped d = true) (se : SeqAt.shaped e = true) : Ev (tOp (rNeD K) ta tb) σ H (.bl (!PyData.eqv d e)) :=
  ev_opD ha hb fun x y H1 _ h1 h2 Q q => ⟨d, e, h1, h2, sd, se, q⟩
theorem ev_inT {neg : Bool} (ha : EvD K ta σ H d) (hb : EvD K tb σ H (.tuple es)) (sd : SeqAt.shaped d = true) (se : SeqAt.shaped (.tuple es) = true) : Ev (tOp (rInT K neg) ta tb) σ H (.bl (if neg then !(es.any fun z => PyData.eqv z d) else es.any fun z => PyData.eqv z d)) :=
  ev_opD ha hb fun x y H1 _ h1 h2 Q q => ⟨d, es, h1, h2, sd, se, q⟩
theorem ev_inL (ha : EvD K ta σ H d) (hb : EvD K tb σ H (.list es)) (sd : SeqAt.shaped d = true) (se : SeqAt.shaped (.list es) = true) : Ev (tOp (rInD K) ta tb) σ H (.bl (es.any fun z => PyData.eqv z d)) :=
  ev_opD ha hb fun x y H1 _ h1 h2 Q q => ⟨d, es, h1, h2, sd, se, q⟩
theorem ev_notInL (ha : EvD K ta σ H d) (hb : EvD K tb σ H (.list es)) (sd : SeqAt.shaped d = true) (se : SeqAt.shaped (.list es) = true) : Ev (tOp (rNotInD K) ta tb) σ H (.bl (!es.any fun z => PyData.eqv z d)) :=
  ev_opD ha hb fun x y H1 _ h1 h2 Q q => ⟨d, es, h1, h2, sd, se, q⟩
theorem inV_N (n : Nat) (l : List Nat) : inV (vN n) (l.map vN) = decide (n ∈ l) := by
  unfold inV
  rw [List.any_map, Bool.eq_iff_iff]
  simp only [List.any_eq_true, Function.comp, decide_eq_true_eq]
  constructor
  · rintro ⟨x, hx, e⟩
    have e' : ((x : Int) == (n : Int)) = true := e
    have : (x : Int) = (n : Int) := by simpa using e'
    have : x = n := by omega
    rw [← this]; exact hx
  · intro h
    refine ⟨n, h, ?_⟩
    show ((n : Int) == (n : Int)) = true
    simp
theorem flat_N (l : List Nat) : (l.map vN).all flatV = true := by
  rw [List.all_map]; simp [Function.comp, flatV]
/-- a number in a tuple, a list of numbers -/
theorem ev_inN {neg : Bool} {n : Nat} {l : List Nat} (ha : EvD K ta σ H (dN n)) (hb : EvD K tb σ H (dNs l)) : Ev (tOp (rIn K neg) ta tb) σ H (.bl (if neg then !decide (n ∈ l) else decide (n ∈ l))) :=
  ev_opD ha hb fun x y H1 _ h1 h2 Q q => by
    obtain ⟨a, ey, hs⟩ := dp_Ns h2
    rw [dp_int h1, ey]
    refine ⟨a, l.map vN, rfl, .inr hs, rfl, flat_N l, ?_⟩
    rw [show inV (V.int (n : Int)) (l.map vN) = decide (n ∈ l) from inV_N n l]; exact q
theorem ev_inNl {neg : Bool} {n : Nat} {l : List Nat} (ha : EvD K ta σ H (dN n)) (hb : EvD K tb σ H (.list (l.map dN))) : Ev (tOp (rIn K neg) ta tb) σ H (.bl (if neg then !decide (n ∈ l) else decide (n ∈ l))) :=
  ev_opD ha hb fun x y H1 _ h1 h2 Q q => by
    obtain ⟨a, xs, ey, hs, hd⟩ := dp_lst h2
    rw [dpa_N hd] at hs
    rw [dp_int h1, ey]
    refine ⟨a, l.map vN, rfl, .inl hs, rfl, flat_N l, ?_⟩
    rw [show inV (V.int (n : Int)) (l.map vN) = decide (n ∈ l) from inV_N n l]; exact q
theorem atI_nn {α : Type} {xs : List α} {i : Nat} {x : α} (h : xs[i]? = some x) : atI xs (i : Int) = some x := by
  have hl : i < xs.length := (List.getElem?_eq_some_iff.mp h).1
  unfold atI
  rw [ixN_nat hl]; exact h
theorem evd_ixT {i : Nat} (ha : EvD K ta σ H (.tuple ds)) (hb : Ev tb σ H (.int (i : Int))) (hi : ds[i]? = some d) : EvD K (tOp (rIxT K) ta tb) σ H d :=
  evp_op ha (evd_int (K := K) hb) fun x y H1 _ h1 h2 Q q => by
    obtain ⟨a, xs, ex, hs, hd⟩ := dp_tup h1
    obtain ⟨v, hv, hdv⟩ := dpa_at hd hi
    exact ⟨a, xs, (i : Int), v, ex, dp_int h2, hs, atI_nn hv, q v H1 (Ex.refl H1) hdv⟩
theorem evd_ixL {i : Nat} (ha : EvD K ta σ H (.list ds)) (hb : Ev tb σ H (.int (i : Int))) (hi : ds[i]? = some d) : EvD K (tOp (rIxL K) ta tb) σ H d :=
  evp_op ha (evd_int (K := K) hb) fun x y H1 _ h1 h2 Q q => by
    obtain ⟨a, xs, ex, hs, hd⟩ := dp_lst h1
    obtain ⟨v, hv, hdv⟩ := dpa_at hd hi
    exact ⟨a, xs, (i : Int), v, ex, dp_int h2, hs, atI_nn hv, q v H1 (Ex.refl H1) hdv⟩
theorem atI_last1 {α : Type} {xs : List α} {x : α} (h : xs[xs.length - 1]? = some x) : atI xs (-1) = some x := by
  have hl : xs.length - 1 < xs.length := (List.getElem?_eq_some_iff.mp h).1
  have e : ixN xs.length (-1) = some (xs.length - 1) := by
    unfold ixN
    rw [if_neg (by omega), if_pos (by omega)]
    congr 1; omega
  unfold atI
  rw [e]; exact h
theorem evd_lastT (ha : EvD K ta σ H (.tuple ds)) (hb : Ev tb σ H (.int (-1))) (hi : ds[ds.length - 1]? = some d) : EvD K (tOp (rIxT K) ta tb) σ H d :=
  evp_op ha (evd_int (K := K) hb) fun x y H1 _ h1 h2 Q q => by
    obtain ⟨a, xs, ex, hs, hd⟩ := dp_tup h1
    obtain ⟨v, hv, hdv⟩ := dpa_at hd hi
    exact ⟨a, xs, -1, v, ex, dp_int h2, hs, atI_last1 (by rw [dpAll_length hd]; exact hv), q v H1 (Ex.refl H1) hdv⟩
theorem evd_lastL (ha : EvD K ta σ H (.list ds)) (hb : Ev tb σ H (.int (-1))) (hi : ds[ds.length - 1]? = some d) : EvD K (tOp (rIxL K) ta tb) σ H d :=
  evp_op ha (evd_int (K := K) hb) fun x y H1 _ h1 h2 Q q => by
    obtain ⟨a, xs, ex, hs, hd⟩ := dp_lst h1
    obtain ⟨v, hv, hdv⟩ := dpa_at hd hi
    exact ⟨a, xs, -1, v, ex, dp_int h2, hs, atI_last1 (by rw [dpAll_length hd]; exact hv), q v H1 (Ex.refl H1) hdv⟩
/-! ### arguments, displays -/
theorem eda_nil : EvDA K tNil σ H [] := fun H1 _ Q q => q [] H1 (Ex.refl H1) .nil
theorem eda_cons {tr : TA} (h : EvD K te σ H d) (hr : EvDA K tr σ H ds) : EvDA K (tCons te tr) σ H (d :: ds) := fun H1 x Q q =>
  h H1 x _ fun v H2 x2 h2 => hr H2 (x.trans x2) _ fun vs H3 x3 h3 => q _ H3 (x2.trans x3) (.cons (dp_mono x3 h2) h3)
theorem eda_star {tr : TA} (h : EvD K te σ H (.tuple ds)) (hr : EvDA K tr σ H es) : EvDA K (StX.tStar K te tr) σ H (ds ++ es) := fun H1 x Q q =>
  h H1 x _ fun v H2 x2 h2 => by
    obtain ⟨a, xs, ev, hs, hd⟩ := dp_tup h2
    exact ⟨a, xs, ev, .inl hs, hr H2 (x.trans x2) _ fun vs H3 x3 h3 => q _ H3 (x2.trans x3) (dpa_app (dpa_mono x3 hd) h3)⟩
theorem evd_tup {ta : TA} (h : EvDA K ta σ H ds) (hl : ds.length ≤ 100000) : EvD K (tTup ta) σ H (.tuple ds) := fun H1 x Q q =>
  h H1 x _ fun vs H2 x2 h2 => ⟨sz_of (by rw [dpAll_length h2]; exact hl), fun p hp => q _ _ (x2.trans (Ex.new hp)) (.tup (st_of upd_same) (dpa_mono (Ex.new hp) h2))⟩
theorem evn_lst {ta : TA} (h : EvDA K ta σ H ds) (hl : ds.length ≤ 100000) : EvNl K (tLst ta) σ H ds := fun H1 x Q q =>
  h H1 x _ fun vs H2 x2 h2 => ⟨sz_of (by rw [dpAll_length h2]; exact hl), fun p hp => q p vs _ (fresh_back x2 hp) (x2.trans (Ex.new hp)) upd_same (dpa_mono (Ex.new hp) h2)⟩
/-! ### built-in functions -/
theorem evd_tupOf (h : EvD K te σ H (.list ds)) : EvD K (tCB (rTupOf K) (tCons te tNil)) σ H (.tuple ds) := fun H1 x Q q =>
  h H1 x _ fun v H2 x2 h2 => by
    obtain ⟨a, xs, ev, hs, hd⟩ := dp_lst h2
    exact ⟨a, xs, by rw [ev], .inl ⟨hs, fun l hl => q _ _ (x2.trans (Ex.new hl)) (.tup (st_of upd_same) (dpa_mono (Ex.new hl) hd))⟩⟩
theorem evd_tupOfT (h : EvD K te σ H (.tuple ds)) : EvD K (tCB (rTupOf K) (tCons te tNil)) σ H (.tuple ds) := fun H1 x Q q =>
  h H1 x _ fun v H2 x2 h2 => by
    obtain ⟨a, xs, ev, hs, hd⟩ := dp_tup h2
    exact ⟨a, xs, by rw [ev], .inr ⟨hs, q _ H2 x2 (.tup hs hd)⟩⟩
theorem evn_lstOf (h : EvD K te σ H (.tuple ds)) : EvNl K (tCB (rListS K) (tCons te tNil)) σ H ds := fun H1 x Q q =>
  h H1 x _ fun v H2 x2 h2 => by
    obtain ⟨a, xs, ev, hs, hd⟩ := dp_tup h2
    exact ⟨a, xs, by rw [ev], .inr hs, fun l hl => q l xs _ (fresh_back x2 hl) (x2.trans (Ex.new hl)) upd_same (dpa_mono (Ex.new hl) hd)⟩
theorem evn_lstOfL (h : EvD K te σ H (.list ds)) : EvNl K (tCB (rListS K) (tCons te tNil)) σ H ds := fun H1 x Q q =>
  h H1 x _ fun v H2 x2 h2 => by
    obtain ⟨a, xs, ev, hs, hd⟩ := dp_lst h2
    exact ⟨a, xs, by rw [ev], .inl hs, fun l hl => q l xs _ (fresh_back x2 hl) (x2.trans (Ex.new hl)) upd_same (dpa_mono (Ex.new hl) hd)⟩
theorem ev_lenT (h : EvD K te σ H (.tuple ds)) : Ev (tCB (rLenS K) (tCons te tNil)) σ H (.int (ds.length : Int)) := fun H1 x Q q =>
  h H1 x _ fun v H2 x2 h2 => by
    obtain ⟨a, xs, ev, hs, hd⟩ := dp_tup h2
    exact ⟨a, xs, by rw [ev], .inr hs, by rw [dpAll_length hd]; exact q H2 x2⟩
theorem ev_lenL (h : EvD K te σ H (.list ds)) : Ev (tCB (rLenS K) (tCons te tNil)) σ H (.int (ds.length : Int)) := fun H1 x Q q =>
  h H1 x _ fun v H2 x2 h2 => by
    obtain ⟨a, xs, ev, hs, hd⟩ := dp_lst h2
    exact ⟨a, xs, by rw [ev], .inl hs, by rw [dpAll_length hd]; exact q H2 x2⟩
theorem evn_sort (h : EvD K te σ H (.list ds) ∨ EvD K te σ H (.tuple ds)) (h1 : PySem.W.AllAlike ds) (h2 : PySem.W.Sortable ds) (h3 : ∀ d ∈ ds, d.depth ≤ 20) : EvNl K (tCB (rSortG K) (tCons te tNil)) σ H (ds.mergeSort (PySem.W.dataLe false id)) := by
  intro H1 x Q q
  have main : ∀ (v : V) (H2 : Hp), Ex H1 H2 → (Dp K H2 v (.list ds) ∨ Dp K H2 v (.tuple ds)) → rSortG K [v] H2 Q := fun v H2 x2 hv => by
    have : ∃ a xs, v = .ref a ∧ (SqL K H2 a xs ∨ SqT K H2 a xs) ∧ DpAll K H2 xs ds := by
      rcases hv with hv | hv
      · obtain ⟨a, xs, e1, hs, hd⟩ := dp_lst hv
        exact ⟨a, xs, e1, .inl hs, hd⟩
      · obtain ⟨a, xs, e1, hs, hd⟩ := dp_tup hv
        exact ⟨a, xs, e1, .inr hs, hd⟩
    obtain ⟨a, xs, e1, hs, hd⟩ := this
    exact ⟨a, xs, ds, by rw [e1], hs, hd, h1, h2, h3, fun zs p hz hp => q p zs _ (fresh_back x2 hp) (x2.trans (Ex.new hp)) upd_same (dpa_mono (Ex.new hp) hz)⟩
  rcases h with h | h
  · exact h H1 x _ fun v H2 x2 hv => main v H2 x2 (.inl hv)
  · exact h H1 x _ fun v H2 x2 hv => main v H2 x2 (.inr hv)
theorem evd_best {f : PyData → List PyData → PyData} (h : EvD K te σ H (.list (d :: ds)) ∨ EvD K te σ H (.tuple (d :: ds))) (h1 : PySem.W.AlikeAll (d :: ds)) (h2 : PyData.depthAll (d :: ds) ≤ 40) : EvD K (tCB (rBest K f) (tCons te tNil)) σ H (f d ds) := by
  intro H1 x Q q
  have main : ∀ (v : V) (H2 : Hp), Ex H1 H2 → (Dp K H2 v (.list (d :: ds)) ∨ Dp K H2 v (.tuple (d :: ds))) → rBest K f [v] H2 Q := fun v H2 x2 hv => by
    rcases hv with hv | hv
    · obtain ⟨a, xs, e1, hs, hd⟩ := dp_lst hv
      exact ⟨a, xs, d, ds, by rw [e1], .inl hs, hd, h1, h2, fun z hz => q z H2 x2 hz⟩
    · obtain ⟨a, xs, e1, hs, hd⟩ := dp_tup hv
      exact ⟨a, xs, d, ds, by rw [e1], .inr hs, hd, h1, h2, fun z hz => q z H2 x2 hz⟩
  rcases h with h | h
  · exact h H1 x _ fun v H2 x2 hv => main v H2 x2 (.inl hv)
  · exact h H1 x _ fun v H2 x2 hv => main v H2 x2 (.inr hv)
theorem ev_allB {l : List Bool} (h : EvD K te σ H (.list (l.map PyData.bool))) : Ev (tCB (rAll K) (tCons te tNil)) σ H (.bl (l.all id)) := fun H1 x Q q =>
  h H1 x _ fun v H2 x2 h2 => by
    obtain ⟨a, xs, ev, hs, hd⟩ := dp_lst h2
    rw [dpa_val (g := V.bl) (fun b v h => dp_bl h) hd] at hs
    exact ⟨a, l, by rw [ev], hs, q H2 x2⟩
theorem ev_anyB {l : List Bool} (h : EvD K te σ H (.list (l.map PyData.bool))) : Ev (tCB (rAny K) (tCons te tNil)) σ H (.bl (l.any id)) := fun H1 x Q q =>
  h H1 x _ fun v H2 x2 h2 => by
    obtain ⟨a, xs, ev, hs, hd⟩ := dp_lst h2
    rw [dpa_val (g := V.bl) (fun b v h => dp_bl h) hd] at hs
    exact ⟨a, l, by rw [ev], hs, q H2 x2⟩
/-! ### concatenation, slices -/
theorem evd_catA (ha : EvD K ta σ H (.tuple ds)) (hb : EvD K tb σ H (.tuple es)) (hl : ds.length + es.length ≤ 100000) : EvD K (tOp (rCatA K) ta tb) σ H (.tuple (ds ++ es)) :=
  evp_op ha hb fun x y H1 _ h1 h2 Q q => by
    obtain ⟨a, xs, e1, s1, d1⟩ := dp_tup h1
    obtain ⟨b, ys, e2, s2, d2⟩ := dp_tup h2
    have n1 := dpAll_length d1
    have n2 := dpAll_length d2
    refine ⟨a, b, xs, ys, e1, e2, s1, s2, sz_of (by omega), fun z => ?_, fun z1 z2 => ?_, fun _ _ p hp => q _ _ (Ex.new hp) (.tup (st_of upd_same) (dpa_mono (Ex.new hp) (dpa_app d1 d2)))⟩
    · refine q _ H1 (Ex.refl H1) (.tup s2 ?_)
      have : ds = [] := List.length_eq_zero_iff.mp (by rw [← n1, z]; rfl)
      rw [this]; exact d2
    · refine q _ H1 (Ex.refl H1) (.tup s1 ?_)
      have : es = [] := List.length_eq_zero_iff.mp (by rw [← n2, z2]; rfl)
      rw [this, List.append_nil]; exact d1
/-- two new lists -/
theorem evn_cat (ha : EvNl K ta σ H ds) (hb : EvNl K tb σ H es) (hl : ds.length + es.length ≤ sizeLine) : EvNl K (tOp rCat ta tb) σ H (ds ++ es) := fun H1 x Q q =>
  ha H1 x _ fun p xs H2 _ x2 hp d1 => hb H2 (x.trans x2) _ fun r ys H3 _ x3 hr d2 => by
    have n1 := dpAll_length d1
    have n2 := dpAll_length d2
    exact ⟨p, r, xs, ys, rfl, rfl, x3 p _ hp, hr, by omega, fun z hz => q z _ _ (fresh_back (x2.trans x3) hz) ((x2.trans x3).trans (Ex.new hz)) upd_same (dpa_mono (Ex.new hz) (dpa_app (dpa_mono x3 d1) d2))⟩
def cutD (ds : List PyData) (lo hi : Option Int) : List PyData := (ds.drop (HT.sIx ds.length 0 lo)).take (HT.sIx ds.length ds.length hi - HT.sIx ds.length 0 lo)
theorem dpa_drop : ∀ {vs : List V} {ds : List PyData} (n : Nat), DpAll K H vs ds → DpAll K H (vs.drop n) (ds.drop n)
  | _, _, 0, h => by simpa using h
  | _, _, n + 1, .nil => by simp; exact .nil
  | _, _, n + 1, .cons _ h => by simpa using dpa_drop n h
theorem dpa_take : ∀ {vs : List V} {ds : List PyData} (n : Nat), DpAll K H vs ds → DpAll K H (vs.take n) (ds.take n)
  | _, _, 0, _ => by simp; exact .nil
  | _, _, n + 1, .nil => by simp; exact .nil
  | _, _, n + 1, .cons h1 h => by simpa using .cons h1 (dpa_take n h)
theorem dpa_cut {vs : List V} {lo hi : Option Int} (h : DpAll K H vs ds) : DpAll K H (cutV vs lo hi) (cutD ds lo hi) := by
  unfold cutV cutD
  rw [dpAll_length h]
  exact dpa_take _ (dpa_drop _ h)
theorem evd_slA {tl th : TO} {lo hi : Option Int} (h : EvD K te σ H (.tuple ds)) (h1 : EvO tl σ H lo) (h2 : EvO th σ H hi) : EvD K (tSl (rSlA K) te tl th) σ H (.tuple (cutD ds lo hi)) := fun H1 x Q q =>
  h H1 x _ fun v H2 x2 hd => h1 H2 (x.trans x2) _ fun H3 x3 => h2 H3 ((x.trans x2).trans x3) _ fun H4 x4 => by
    obtain ⟨a, xs, e1, s1, d1⟩ := dp_tup (dp_mono (x3.trans x4) hd)
    have xx := (x2.trans x3).trans x4
    refine ⟨a, xs, e1, s1, fun ⟨z1, z2⟩ => q _ H4 xx (.tup s1 ?_), fun _ p hp => q _ _ (xx.trans (Ex.new hp)) (.tup (st_of upd_same) (dpa_mono (Ex.new hp) (dpa_cut d1)))⟩
    have n1 := dpAll_length d1
    have : cutD ds lo hi = ds := by
      unfold cutD
      rw [← n1, z1, z2, List.drop_zero, Nat.sub_zero, n1, List.take_length]
    rw [this]; exact d1
theorem evn_slL {tl th : TO} {lo hi : Option Int} (h : EvD K te σ H (.list ds)) (h1 : EvO tl σ H lo) (h2 : EvO th σ H hi) : EvNl K (tSl (rSlL K) te tl th) σ H (cutD ds lo hi) := fun H1 x Q q =>
  h H1 x _ fun v H2 x2 hd => h1 H2 (x.trans x2) _ fun H3 x3 => h2 H3 ((x.trans x2).trans x3) _ fun H4 x4 => by
    obtain ⟨a, xs, e1, s1, d1⟩ := dp_lst (dp_mono (x3.trans x4) hd)
    have xx := (x2.trans x3).trans x4
    exact ⟨a, xs, e1, s1, fun p hp => q p _ _ (fresh_back xx hp) (xx.trans (Ex.new hp)) upd_same (dpa_mono (Ex.new hp) (dpa_cut d1))⟩
/-! ### ways -/
theorem evp_if {b : Bool} (h : EvT t σ H b) (h1 : b = true → EvP ta σ H P) (h2 : b = false → EvP tb σ H P) : EvP (tIf t ta tb) σ H P := fun H1 x Q q => h H1 x _ fun H2 x2 => by
  cases b with
  | true =>
    show ta σ H2 Q
    exact h1 rfl H2 (x.trans x2) Q fun v H3 x3 => q v H3 (x2.trans x3)
  | false =>
    show tb σ H2 Q
    exact h2 rfl H2 (x.trans x2) Q fun v H3 x3 => q v H3 (x2.trans x3)
theorem evn_if {b : Bool} {P : List V → Hp → Prop} (h : EvT t σ H b) (h1 : b = true → EvN ta σ H P) (h2 : b = false → EvN tb σ H P) : EvN (tIf t ta tb) σ H P := fun H1 x Q q => h H1 x _ fun H2 x2 => by
  cases b with
  | true =>
    show ta σ H2 Q
    exact h1 rfl H2 (x.trans x2) Q fun p ys H3 hp x3 => q p ys H3 (fresh_back x2 hp) (x2.trans x3)
  | false =>
    show tb σ H2 Q
    exact h2 rfl H2 (x.trans x2) Q fun p ys H3 hp x3 => q p ys H3 (fresh_back x2 hp) (x2.trans x3)
theorem evp_call {sp : Sp} {dvs : List V} {E : XK} {ta : TA} {A : List V → Hp → Prop} (h : EvAP ta σ H A) (hs : ∀ vs H1, Ex H H1 → A vs H1 → ∀ Q : VK, (∀ v H2, Ex H1 H2 → P v H2 → Q v H2) → sp (vs ++ dvs) H1 Q E) : EvP (tCall sp dvs E ta) σ H P := fun H1 x Q q =>
  h H1 x _ fun vs H2 x2 hv => hs vs H2 (x.trans x2) hv Q fun v H3 x3 => q v H3 (x2.trans x3)
/-- a function's answer, as data -/
def RetD (K : PySem.W.Frag) (d : PyData) (H : Hp) (Q : VK) : Prop := ∀ v H2, Ex H H2 → Dp K H2 v d → Q v H2
/-! statements -/
variable {D : Ends} {tz tu tw : TS}
theorem s_asgP {i : Nat} (h : EvP te σ H P) (k : ∀ v H1, Ex H H1 → P v H1 → D.nx (σ.set i (some v)) H1) : tAsg te (gName i) D σ H := h H (Ex.refl H) _ k
theorem q_asgP {i : Nat} (h : EvP te σ H P) (k : ∀ v H1, Ex H H1 → P v H1 → tz D (σ.set i (some v)) H1) : tSeq (tAsg te (gName i)) tz D σ H := s_asgP (D := { D with nx := tz D }) h k
theorem q_asgN {i : Nat} {P : List V → Hp → Prop} (h : EvN te σ H P) (k : ∀ p ys H1, H p = none → Ex H H1 → H1 p = some (.lst ys) → P ys H1 → tz D (σ.set i (some (.ref p))) H1) : tSeq (tAsg te (gName i)) tz D σ H := h H (Ex.refl H) _ k
theorem s_retP (h : EvP te σ H P) (k : ∀ v H1, Ex H H1 → P v H1 → D.rt v H1) : tRet te D σ H := h H (Ex.refl H) _ k
theorem s_retD (h : EvD K te σ H d) (k : RetD K d H D.rt) : tRet te D σ H := h H (Ex.refl H) _ k
end
end DL
/-! ### HDd -/
set_option Elab.async false
set_option linter.all false
set_option maxRecDepth 100000
set_option maxHeartbeats 0
namespace HD
open PySem PySem.Spec PyProof.Rows L2
def top (i : Nat) : Stmt := PySem.Challenge.pw_givesifgets_k32_whole_one_pair_one_perso.main.body.getD i (.Pass ⟨0, 0, 0, 0⟩)
abbrev s_is_integer : Stmt := top 5
abbrev s_is_number : Stmt := top 6
abbrev s_is_index : Stmt := top 7
abbrev s_is_row_of : Stmt := top 8
abbrev s_is_word_of : Stmt := top 9
abbrev s_served : Stmt := top 11
abbrev s_partner : Stmt := top 12
abbrev s_steps_of : Stmt := top 15
abbrev s_are_people : Stmt := top 16
abbrev s_is_turn : Stmt := top 17
abbrev s_turned : Stmt := top 18
abbrev s_neighbours : Stmt := top 20
abbrev s_near_of : Stmt := top 22
abbrev s_S_init : Stmt := inClass (top 23) 0
abbrev s_S_run : Stmt := inClass (top 23) 1
abbrev s_S_meeting : Stmt := inClass (top 23) 2
abbrev s_S_shrink : Stmt := inClass (top 23) 3
abbrev s_S_way : Stmt := inClass (top 23) 4
abbrev s_S_reached : Stmt := inClass (top 23) 5
abbrev s_told_search : Stmt := top 25
abbrev s_served_more : Stmt := top 26
abbrev s_kept_of : Stmt := top 27
abbrev s_kept_lot : Stmt := top 29
abbrev s_pairs_at : Stmt := top 31
abbrev s_less : Stmt := top 32
abbrev s_come_and_gone : Stmt := top 34
abbrev s_pair_turned : Stmt := top 36
abbrev s_pair_news : Stmt := top 37
abbrev s_person_gone : Stmt := top 38
abbrev s_law_draw : Stmt := top 40
abbrev s_law_any : Stmt := top 41
abbrev s_law_of : Stmt := top 42
abbrev s_law_mixed : Stmt := top 43
abbrev s_law_pairs : Stmt := top 44
abbrev s_law_at : Stmt := top 46
abbrev s_law_plans : Stmt := top 47
abbrev s_law_lot_of : Stmt := top 48
abbrev s_law_marked : Stmt := top 49
abbrev s_law_first : Stmt := top 50
abbrev s_law_kept : Stmt := top 51
abbrev s_law_news : Stmt := top 52
abbrev s_law_can : Stmt := top 53
abbrev s_law_gone : Stmt := top 54
abbrev s_law : Stmt := top 55
def d_is_integer : He.DefD := ⟨("is_integer", none), "is_integer", "is_integer", defArgs s_is_integer, defBody s_is_integer, defScope s_is_integer, [], []⟩
def d_is_number : He.DefD := ⟨("is_number", none), "is_number", "is_number", defArgs s_is_number, defBody s_is_number, defScope s_is_number, [], []⟩
def d_is_index : He.DefD := ⟨("is_index", none), "is_index", "is_index", defArgs s_is_index, defBody s_is_index, defScope s_is_index, [], []⟩
def d_is_row_of : He.DefD := ⟨("is_row_of", none), "is_row_of", "is_row_of", defArgs s_is_row_of, defBody s_is_row_of, defScope s_is_row_of, [], []⟩
def d_is_word_of : He.DefD := ⟨("is_word_of", none), "is_word_of", "is_word_of", defArgs s_is_word_of, defBody s_is_word_of, defScope s_is_word_of, [], []⟩
def d_served : He.DefD := ⟨("served", none), "served", "served", defArgs s_served, defBody s_served, defScope s_served, [], []⟩
def d_partner : He.DefD := ⟨("partner", none), "partner", "partner", defArgs s_partner, defBody s_partner, defScope s_partner, [], []⟩
def d_steps_of : He.DefD := ⟨("steps_of", none), "steps_of", "steps_of", defArgs s_steps_of, defBody s_steps_of, defScope s_steps_of, [], []⟩
def d_are_people : He.DefD := ⟨("are_people", none), "are_people", "are_people", defArgs s_are_people, defBody s_are_people, defScope s_are_people, [], []⟩
def d_is_turn : He.DefD := ⟨("is_turn", none), "is_turn", "is_turn", defArgs s_is_turn, defBody s_is_turn, defScope s_is_turn, [], []⟩
def d_turned : He.DefD := ⟨("turned", none), "turned", "turned", defArgs s_turned, defBody s_turned, defScope s_turned, [], []⟩
def d_neighbours : He.DefD := ⟨("neighbours", none), "neighbours", "neighbours", defArgs s_neighbours, defBody s_neighbours, defScope s_neighbours, [], []⟩
def d_near_of : He.DefD := ⟨("near_of", none), "near_of", "near_of", defArgs s_near_of, defBody s_near_of, defScope s_near_of, [], []⟩
def d_S_init : He.DefD := ⟨("Search", some "__init__"), "__init__", "Search.__init__", defArgs s_S_init, defBody s_S_init, defScope s_S_init, [], []⟩
def d_S_run : He.DefD := ⟨("Search", some "run"), "run", "Search.run", defArgs s_S_run, defBody s_S_run, defScope s_S_run, [], []⟩
def d_S_meeting : He.DefD := ⟨("Search", some "meeting"), "meeting", "Search.meeting", defArgs s_S_meeting, defBody s_S_meeting, defScope s_S_meeting, [], []⟩
def d_S_shrink : He.DefD := ⟨("Search", some "shrink"), "shrink", "Search.shrink", defArgs s_S_shrink, defBody s_S_shrink, defScope s_S_shrink, [], []⟩
def d_S_way : He.DefD := ⟨("Search", some "way"), "way", "Search.way", defArgs s_S_way, defBody s_S_way, defScope s_S_way, [], []⟩
def d_S_reached : He.DefD := ⟨("Search", some "reached"), "reached", "Search.reached", defArgs s_S_reached, defBody s_S_reached, defScope s_S_reached, [], []⟩
def d_told_search : He.DefD := ⟨("told_search", none), "told_search", "told_search", defArgs s_told_search, defBody s_told_search, defScope s_told_search, [], []⟩
def d_served_more : He.DefD := ⟨("served_more", none), "served_more", "served_more", defArgs s_served_more, defBody s_served_more, defScope s_served_more, [], []⟩
def d_kept_of : He.DefD := ⟨("kept_of", none), "kept_of", "kept_of", defArgs s_kept_of, defBody s_kept_of, defScope s_kept_of, [], []⟩
def d_kept_lot : He.DefD := ⟨("kept_lot", none), "kept_lot", "kept_lot", defArgs s_kept_lot, defBody s_kept_lot, defScope s_kept_lot, [], []⟩
def d_pairs_at : He.DefD := ⟨("pairs_at", none), "pairs_at", "pairs_at", defArgs s_pairs_at, defBody s_pairs_at, defScope s_pairs_at, [], []⟩
def d_less : He.DefD := ⟨("less", none), "less", "less", defArgs s_less, defBody s_less, defScope s_less, [], []⟩
def d_come_and_gone : He.DefD := ⟨("come_and_gone", none), "come_and_gone", "come_and_gone", defArgs s_come_and_gone, defBody s_come_and_gone, defScope s_come_and_gone, [], []⟩
def d_pair_turned : He.DefD := ⟨("pair_turned", none), "pair_turned", "pair_turned", defArgs s_pair_turned, defBody s_pair_turned, defScope s_pair_turned, [], []⟩
def d_pair_news : He.DefD := ⟨("pair_news", none), "pair_news", "pair_news", defArgs s_pair_news, defBody s_pair_news, defScope s_pair_news, [], []⟩
def d_person_gone : He.DefD := ⟨("person_gone", none), "person_gone", "person_gone", defArgs s_person_gone, defBody s_person_gone, defScope s_person_gone, [], []⟩
def d_law_draw : He.DefD := ⟨("_law_draw", none), "_law_draw", "_law_draw", defArgs s_law_draw, defBody s_law_draw, defScope s_law_draw, [], []⟩
def d_law_any : He.DefD := ⟨("_law_any", none), "_law_any", "_law_any", defArgs s_law_any, defBody s_law_any, defScope s_law_any, [], []⟩
def d_law_of : He.DefD := ⟨("_law_of", none), "_law_of", "_law_of", defArgs s_law_of, defBody s_law_of, defScope s_law_of, [], []⟩
def d_law_mixed : He.DefD := ⟨("_law_mixed", none), "_law_mixed", "_law_mixed", defArgs s_law_mixed, defBody s_law_mixed, defScope s_law_mixed, [], []⟩
def d_law_pairs : He.DefD := ⟨("_law_pairs", none), "_law_pairs", "_law_pairs", defArgs s_law_pairs, defBody s_law_pairs, defScope s_law_pairs, [], []⟩
def d_law_at : He.DefD := ⟨("_law_at", none), "_law_at", "_law_at", defArgs s_law_at, defBody s_law_at, defScope s_law_at, [], []⟩
def d_law_plans : He.DefD := ⟨("_law_plans", none), "_law_plans", "_law_plans", defArgs s_law_plans, defBody s_law_plans, defScope s_law_plans, [], []⟩
def d_law_lot_of : He.DefD := ⟨("_law_lot_of", none), "_law_lot_of", "_law_lot_of", defArgs s_law_lot_of, defBody s_law_lot_of, defScope s_law_lot_of, [], []⟩
def d_law_marked : He.DefD := ⟨("_law_marked", none), "_law_marked", "_law_marked", defArgs s_law_marked, defBody s_law_marked, defScope s_law_marked, [], []⟩
def d_law_first : He.DefD := ⟨("_law_first", none), "_law_first", "_law_first", defArgs s_law_first, defBody s_law_first, defScope s_law_first, [], []⟩
def d_law_kept : He.DefD := ⟨("_law_kept", none), "_law_kept", "_law_kept", defArgs s_law_kept, defBody s_law_kept, defScope s_law_kept, [], []⟩
def d_law_news : He.DefD := ⟨("_law_news", none), "_law_news", "_law_news", defArgs s_law_news, defBody s_law_news, defScope s_law_news, [], []⟩
def d_law_can : He.DefD := ⟨("_law_can", none), "_law_can", "_law_can", defArgs s_law_can, defBody s_law_can, defScope s_law_can, [], []⟩
def d_law_gone : He.DefD := ⟨("_law_gone", none), "_law_gone", "_law_gone", defArgs s_law_gone, defBody s_law_gone, defScope s_law_gone, [], []⟩
def d_law : He.DefD := ⟨("law", none), "law", "law", defArgs s_law, defBody s_law, defScope s_law, [], []⟩
def fn : List He.DefD := [d_is_integer, d_is_number, d_is_index, d_is_row_of, d_is_word_of, d_served, d_partner, d_steps_of, d_are_people, d_is_turn, d_turned, d_neighbours, d_near_of, d_S_init, d_S_run, d_S_meeting, d_S_shrink, d_S_way, d_S_reached, d_told_search, d_served_more, d_kept_of, d_kept_lot, d_pairs_at, d_less, d_come_and_gone, d_pair_turned, d_pair_news, d_person_gone, d_law_draw, d_law_any, d_law_of, d_law_mixed, d_law_pairs, d_law_at, d_law_plans, d_law_lot_of, d_law_marked, d_law_first, d_law_kept, d_law_news, d_law_can, d_law_gone, d_law]
def fa : List He.Fa := [.glo "is_integer", .glo "is_number", .glo "is_index", .glo "is_row_of", .glo "is_word_of", .glo "served", .glo "partner", .glo "steps_of", .glo "are_people", .glo "is_turn", .glo "turned", .glo "neighbours", .glo "near_of", .glo "told_search", .glo "served_more", .glo "kept_of", .glo "kept_lot", .glo "pairs_at", .glo "less", .glo "come_and_gone", .glo "pair_turned", .glo "pair_news", .glo "person_gone", .glo "_law_draw", .glo "_law_any", .glo "_law_of", .glo "_law_mixed", .glo "_law_pairs", .glo "_law_at", .glo "_law_plans", .glo "_law_lot_of", .glo "_law_marked", .glo "_law_first", .glo "_law_kept", .glo "_law_news", .glo "_law_can", .glo "_law_gone", .glo "law", .glo "Search", .cls "Search", .mkr "Search", .glo "KINDS", .keep "Search", .noat "Search" "near", .noat "Search" "root", .noat "Search" "mates", .noat "Search" "back", .noat "Search" "base", .noat "Search" "even", .noat "Search" "left", .meth "Search" "__init__", .meth "Search" "run", .meth "Search" "meeting", .meth "Search" "shrink", .meth "Search" "way", .meth "Search" "reached", .free "isinstance", .free "int", .free "bool", .free "tuple", .free "str", .free "len", .free "all", .free "any", .free "set", .free "sorted", .free "min", .free "max", .free "zip", .free "range", .free "enumerate", .free "list", .free "abs", .free "repr"]
def ex (K : PySem.W.Frag) : Bool := He.tupB K "KINDS" [.str "way", .str "ring"]
def names1 : List PySem.Str := ["_wall", "__name__", "GiveError", "InvalidQuestion", "is_integer", "is_number", "is_index", "is_row_of", "is_word_of", "served", "partner", "KINDS", "steps_of", "are_people", "is_turn", "turned", "neighbours", "near_of", "Search", "told_search", "served_more", "kept_of", "kept_lot", "pairs_at", "less", "come_and_gone", "pair_turned", "pair_news", "person_gone", "_law_draw"]
def names2 : List PySem.Str := ["_law_any", "_law_of", "_law_mixed", "_law_pairs", "_law_part", "_law_at", "_law_plans", "_law_lot_of", "_law_marked", "_law_first", "_law_kept", "_law_news", "_law_can", "_law_gone"]
def names : List PySem.Str := names1 ++ names2
abbrev R : PySem.W.OpenRow := PySem.W.OpenLaw.row PySem.Challenge.rw_givesifgets_k32_whole_one_pair_one_perso
abbrev hk : PySem.W.Hook := He.hookX 5 fa fn [] [] ex
def ob (s : PySem.W.SharedT) : He.AlX := He.obsX 5 fa fn [] [] ex (HandSHeadRun.getT s)
theorem ob_eq (s : PySem.W.SharedT) : ob s = hk.obs s.abs := He.obsX_eq (HandSHeadRun.getT_eq s)
end HD
/-! ### HDr -/
set_option Elab.async false
set_option linter.all false
set_option maxRecDepth 100000
set_option maxHeartbeats 0
namespace HD
open PySem PySem.Spec PyProof.Rows L2
theorem run (w : World) : HandSHeadRun.RunEq R (PySem.W.view R.prog [55]) hk ob 4000 names w := by
  intro os
  kernel_rfl
end HD
/-! ### WB -/
set_option Elab.async false
set_option linter.all false
set_option maxRecDepth 100000
set_option maxHeartbeats 4000000
/-! The ground of the walks: promises over data, comprehensions and loops over data. -/
namespace WK
open PySem PySem.Spec PyProof.Rows L2 Evl DX DL
abbrev FnP (K : PySem.W.Frag) (x qual : Str) (st : Stmt) (f : Addr) (fd : FuncData) : Prop := FunD K x qual (defArgs st) (defBody st) (defScope st) [] [] f fd
/-- the built-in names are not hidden -/
structure BI (mg : Str → Option Value) : Prop where
  isinstance : mg "isinstance" = none
  len : mg "len" = none
  all : mg "all" = none
  any : mg "any" = none
  set : mg "set" = none
  sorted : mg "sorted" = none
  max : mg "max" = none
  min : mg "min" = none
  zip : mg "zip" = none
  range : mg "range" = none
  enumerate : mg "enumerate" = none
  list : mg "list" = none
  abs : mg "abs" = none
  repr : mg "repr" = none
  int : mg "int" = none
  bool : mg "bool" = none
  tuple : mg "tuple" = none
  str : mg "str" = none
theorem h65 {k : Nat} {A : Around} (hr : Room k A) : A.units + 65 < cLine := by have := hr.un; omega
theorem h64 {k : Nat} {A : Around} (hr : Room k A) : A.units + 64 < cLine := by have := hr.un; omega
section
variable {P : Program} {w : World} {K : PySem.W.Frag} {mg : Str → Option Value} {base : Heap} {x : Str} {st : Stmt} {f : Addr} {fd : FuncData} {N ps : List Str} {k : Nat} {sp : Sp}
theorem calD (F : FnP K x x st f fd) (hm : mg x = some (.ref f)) (S : FnScope N ps (defScope st)) (b : Binds K fd ps []) (len : ∀ vs H Q E, sp vs H Q E → vs.length = ps.length)
    (hbody : ∀ (cdv : Value) (A : Around) (outer : List Env) (s : Shared) (H : Hp) (vs : List V) (Q : VK) (E : XK), Room k (A.deeper (envOfC x (defScope st) s.heap.objs.size f cdv)) → sp vs H Q E →
      ∃ t, PSs (cxOf CX0 P w K mg base N x (defScope st) f cdv A outer s H E) (defBody st) t ∧ t { nx := fun _ H' => Q .non H', rt := Q } (start N vs) H) : C8.Cal P w K mg base (k + 1) x sp [] :=
  ⟨f, fd, ps, [], F.ok S len hbody, hm, F.kp, b, .nil⟩
/-- what a function of data gives: R of the arguments and the answer -/
def spR (K : PySem.W.Frag) (n : Nat) (R : List PyData → PyData → Prop) : Sp := fun vs H Q _ => vs.length = n ∧ ∃ ds d, DpAll K H vs ds ∧ R ds d ∧ RetD K d H Q
theorem calR {n : Nat} {R : List PyData → PyData → Prop} (F : FnP K x x st f fd) (hm : mg x = some (.ref f)) (S : FnScope N ps (defScope st)) (b : Binds K fd ps []) (hn : ps.length = n)
    (hbody : ∀ (cdv : Value) (A : Around) (outer : List Env) (s : Shared) (H : Hp) (vs : List V) (Q : VK) (E : XK) (ds : List PyData) (d : PyData), Room k (A.deeper (envOfC x (defScope st) s.heap.objs.size f cdv)) → DpAll K H vs ds → R ds d → RetD K d H Q →
      ∃ t, PSs (cxOf CX0 P w K mg base N x (defScope st) f cdv A outer s H E) (defBody st) t ∧ t { nx := fun _ H' => Q .non H', rt := Q } (start N vs) H) : C8.Cal P w K mg base (k + 1) x (spR K n R) [] :=
  calD F hm S b (fun _ _ _ _ h => by rw [h.1, hn]) fun cdv A outer s H vs Q E hr ⟨_, ds, d, h1, h2, h3⟩ => hbody cdv A outer s H vs Q E ds d hr h1 h2 h3
end
/-! ### data without lists: a change of lists does not matter -/
mutual
def tupD : PyData → Bool
  | .none => true
  | .bool _ => true
  | .int _ => true
  | .str _ => true
  | .tuple ds => tupDs ds
  | _ => false
def tupDs : List PyData → Bool
  | [] => true
  | d :: ds => tupD d && tupDs ds
end
theorem tupDs_map {α : Type} {f : α → PyData} (h : ∀ a, tupD (f a) = true) : ∀ l : List α, tupDs (l.map f) = true
  | [] => by simp [tupDs]
  | a :: l => by simp [tupDs, h, tupDs_map h l]
theorem tupD_N (n : Nat) : tupD (dN n) = true := by simp [tupD]
theorem tupD_P (n : KM.Pr) : tupD (dP n) = true := by simp [tupD, tupDs]
theorem tupD_Ns (l : List Nat) : tupD (dNs l) = true := by simpa [tupD] using tupDs_map tupD_N l
theorem tupD_Ps (l : List KM.Pr) : tupD (dPs l) = true := by simpa [tupD] using tupDs_map tupD_P l
theorem tupD_W (n : Nat) (l : List KM.Pr) : tupD (dW n l) = true := by
  have := tupDs_map tupD_P l
  simp only [dW, dPs, tupD, tupDs, this, Bool.and_true]
def ExT (H H' : Hp) : Prop := ∀ a o, (∀ ys, o ≠ .lst ys) → H a = some o → H' a = some o
theorem Ex.toT {H H' : Hp} (e : Ex H H') : ExT H H' := fun a o _ h => e a o h
theorem ExT.refl (H : Hp) : ExT H H := fun _ _ _ h => h
theorem ExT.trans {H H1 H2 : Hp} (a : ExT H H1) (b : ExT H1 H2) : ExT H H2 := fun x o n h => b x o n (a x o n h)
theorem ExT.put {H : Hp} {p : Addr} {xs : List V} {o : HO} (h : H p = some (.lst xs)) : ExT H (upd H p o) := fun a u n e => by
  by_cases ha : a = p
  · subst ha
    rw [h] at e
    cases e
    exact absurd rfl (n xs)
  · rw [upd_ne ha]; exact e
theorem ExT.new {H : Hp} {p : Addr} {o : HO} (h : H p = none) : ExT H (upd H p o) := Ex.toT (Ex.new h)
section
variable {K : PySem.W.Frag} {H H' : Hp}
theorem sqt_monoT (e : ExT H H') {a : Addr} {xs : List V} (h : SqT K H a xs) : SqT K H' a xs := by
  rcases h with h | h
  · refine .inl ?_
    rcases h with h | ⟨o, h⟩
    · exact .inl (e a _ (by intro ys z; cases z) h)
    · exact .inr ⟨o, e a _ (by intro ys z; cases z) h⟩
  · exact .inr h
mutual
theorem dp_monoT (e : ExT H H') : ∀ {d : PyData} {v : V}, tupD d = true → Dp K H v d → Dp K H' v d
  | _, _, _, .non => .non
  | _, _, _, .bl b => .bl b
  | _, _, _, .int i => .int i
  | _, _, _, .str x => .str x
  | .list _, _, t, .lst h1 h2 => by simp [tupD] at t
  | .tuple _, _, t, .tup h1 h2 => .tup (sqt_monoT e h1) (dpa_monoT e (by simpa [tupD] using t) h2)
theorem dpa_monoT (e : ExT H H') : ∀ {ds : List PyData} {vs : List V}, tupDs ds = true → DpAll K H vs ds → DpAll K H' vs ds
  | _, _, _, .nil => .nil
  | _ :: _, _, t, .cons h1 h2 => .cons (dp_monoT e (by simp only [tupDs, Bool.and_eq_true] at t; exact t.1) h1) (dpa_monoT e (by simp only [tupDs, Bool.and_eq_true] at t; exact t.2) h2)
end
end
/-! ### what a for walks, as a list of things -/
def IvE {α : Type} (wi : TI) (σ : L2.St) (H : Hp) (l : List α) (R : α → V → Hp → Prop) : Prop :=
  ∀ H1, Ex H H1 → ∀ Rr : It → Hp → Prop, (∀ J H2, Ex H1 H2 → Walk J l.length (fun H3 => Ex H2 H3) (fun i H3 x H4 => Ex H3 H4 ∧ ∃ a, l[i]? = some a ∧ R a x H4) → Rr J H2) → wi σ H1 Rr
section
variable {K : PySem.W.Frag} {σ : L2.St} {H : Hp} {te : TE} {α : Type} {l : List α} {R : α → V → Hp → Prop} {wi : TI}
theorem IvE.mono {H' : Hp} (x : Ex H H') (h : IvE wi σ H l R) : IvE wi σ H' l R := fun H1 a => h H1 (x.trans a)
theorem IvE.of_map {β : Type} {f : β → α} {l : List β} (h : IvE wi σ H (l.map f) R) : IvE wi σ H l (fun b => R (f b)) := fun H1 e Rr k =>
  h H1 e Rr fun J H2 e2 w => k J H2 e2 ⟨fun i H3 hi g => w.goes i H3 (by rw [List.length_map]; exact hi) g, fun H3 g => by have := w.stops H3 g; rwa [List.length_map] at this,
    fun i H3 x H4 hi g y => by
      obtain ⟨e4, a, ha, hR⟩ := w.yields i H3 x H4 (by rw [List.length_map]; exact hi) g y
      rw [List.getElem?_map] at ha
      cases hb : l[i]? with
      | none => rw [hb] at ha; cases ha
      | some b => rw [hb] at ha; cases ha; exact ⟨e4, b, rfl, hR⟩⟩
theorem IvE.weaken {R' : α → V → Hp → Prop} (h : IvE wi σ H l R) (hR : ∀ a x H1, Ex H H1 → R a x H1 → R' a x H1) : IvE wi σ H l R' := fun H1 e Rr k =>
  h H1 e Rr fun J H2 e2 w => k J H2 e2 ⟨w.goes, w.stops, fun i H3 x H4 hi g y => by
    obtain ⟨e4, a, ha, hr⟩ := w.yields i H3 x H4 hi g y
    exact ⟨e4, a, ha, hR a x H4 (((e.trans e2).trans g).trans e4) hr⟩⟩
theorem iv_tup {ds : List PyData} (h : EvD K te σ H (.tuple ds)) : IvE (iTup K te) σ H ds fun d v H => Dp K H v d := fun H1 e Rr k =>
  h H1 e _ fun v H2 e2 hv => by
    obtain ⟨a, xs, rfl, hs, hd⟩ := dp_tup hv
    refine ⟨a, rfl, ⟨xs, hs⟩, k _ H2 e2 ?_⟩
    have n1 := dpAll_length hd
    rw [← n1]
    refine walk_tup.mono (fun H3 g => ex_t g hs) fun i H3 x H4 hi g y => ?_
    obtain ⟨rfl, hx⟩ := y
    obtain ⟨d, h1, h2⟩ := dpAll_get (dpa_mono g hd) hx
    exact ⟨Ex.refl _, d, h1, h2⟩
theorem iv_lst {ds : List PyData} (h : EvD K te σ H (.list ds)) : IvE (iList K te) σ H ds fun d v H => Dp K H v d := fun H1 e Rr k =>
  h H1 e _ fun v H2 e2 hv => by
    obtain ⟨a, xs, rfl, hs, hd⟩ := dp_lst hv
    refine ⟨a, rfl, ⟨xs, hs⟩, k _ H2 e2 ?_⟩
    have n1 := dpAll_length hd
    rw [← n1]
    refine walk_list.mono (fun H3 g => ex_l g hs) fun i H3 x H4 hi g y => ?_
    obtain ⟨rfl, hx⟩ := y
    obtain ⟨d, h1, h2⟩ := dpAll_get (dpa_mono g hd) hx
    exact ⟨Ex.refl _, d, h1, h2⟩
theorem iv_rng {n : Nat} (h : Ev te σ H (.int (n : Int))) (hn : n ≤ 100000) : IvE (iRng1 (tCons te tNil)) σ H (List.range n) fun i v _ => v = vN i := fun H1 e Rr k =>
  h H1 e _ fun H2 e2 => by
    refine ⟨(n : Int), rfl, by omega, by omega, k _ H2 e2 ?_⟩
    rw [List.length_range]
    refine Walk.mono walk_range (fun H3 g => True.intro) fun i H3 x H4 hi g y => ?_
    obtain ⟨rfl, hx⟩ := y
    refine ⟨Ex.refl _, i, List.getElem?_range hi, ?_⟩
    rw [hx]; simp
theorem pair_dp {H3 H4 : Hp} {T : Addr} {x y : V} {d e : PyData} (hx : Dp K H3 x d) (hy : Dp K H3 y e) (hT : H3 T = none) (h4 : H4 = upd H3 T (.tup [x, y])) : Ex H3 H4 ∧ Dp K H4 (.ref T) (.tuple [d, e]) := by
  subst h4
  have z : Ex H3 (upd H3 T (.tup [x, y])) := Ex.new hT
  exact ⟨z, .tup (st_of upd_same) (.cons (dp_mono z hx) (.cons (dp_mono z hy) .nil))⟩
theorem iv_enum {ds : List PyData} (h : EvD K te σ H (.list ds)) : IvE (iEnum K (tCons te tNil)) σ H ((List.range ds.length).zip ds) fun d v H => Dp K H v (.tuple [dN d.1, d.2]) := fun H1 e Rr k =>
  h H1 e _ fun v H2 e2 hv => by
    obtain ⟨a, xs, rfl, hs, hd⟩ := dp_lst hv
    refine ⟨a, xs, rfl, hs, k _ H2 e2 ?_⟩
    have n1 := dpAll_length hd
    have n2 : ((List.range ds.length).zip ds).length = xs.length := by simp [n1]
    rw [n2]
    refine walk_enum.mono (fun H3 g => ex_l g hs) fun i H3 x H4 hi g y => ?_
    obtain ⟨T, a1, b1, rfl, hT, h4, ha, hb⟩ := y
    obtain ⟨d, h1, h2⟩ := dpAll_get (dpa_mono g hd) hb
    cases ha
    obtain ⟨z1, z2⟩ := pair_dp (.int (i : Int)) h2 hT h4
    exact ⟨z1, (i, d), by
      have hi2 : i < ds.length := by omega
      simp only [List.zip, List.getElem?_zipWith, List.getElem?_range hi2, h1], z2⟩
theorem zip_at {α β : Type} {xs : List α} {ys : List β} {i : Nat} {x : α} {y : β} (hx : xs[i]? = some x) (hy : ys[i]? = some y) : (xs.zip ys)[i]? = some (x, y) := by
  simp only [List.zip, List.getElem?_zipWith, hx, hy]
theorem walk_zipT {a b : Addr} {xs ys : List V} {n : Nat} (hn : n = min xs.length ys.length) : Walk (RZ.ItzT K a b) n (fun H => SqT K H a xs ∧ SqT K H b ys) (YPair (fun i => xs[i]?) (fun i => ys[i]?)) where
  goes := fun i H hi q => by
    have u1 : i < xs.length := by omega
    have u2 : i < ys.length := by omega
    exact ⟨xs, ys, xs[i], ys[i], q.1, q.2, List.getElem?_eq_getElem u1, List.getElem?_eq_getElem u2⟩
  stops := fun H q => ⟨xs, ys, q.1, q.2, by omega⟩
  yields := fun i H v H' _ q y => by
    obtain ⟨T, x, z, e1, e2, e3, k1, k2⟩ := y
    exact ⟨T, x, z, e1, e2, e3, k1 _ q.1, k2 _ q.2⟩
theorem iv_zipT {tf : TE} {ds es : List PyData} (h : EvD K te σ H (.tuple ds)) (h2 : EvD K tf σ H (.tuple es)) : IvE (RZ.iZipA K (tCons te (tCons tf tNil))) σ H (ds.zip es) fun d v H => Dp K H v (.tuple [d.1, d.2]) := fun H1 e Rr k =>
  h H1 e _ fun v H2 e2 hv => h2 H2 (e.trans e2) _ fun w H3 e3 hw => by
    obtain ⟨a, xs, rfl, hs, hd⟩ := dp_tup (dp_mono e3 hv)
    obtain ⟨b, ys, rfl, hs2, hd2⟩ := dp_tup hw
    have n1 := dpAll_length hd
    have n2 := dpAll_length hd2
    refine ⟨a, b, xs, ys, rfl, .inr ⟨hs, hs2, k _ H3 (e2.trans e3) ?_⟩⟩
    have n3 : (ds.zip es).length = min xs.length ys.length := by simp [n1, n2]
    rw [n3]
    refine (walk_zipT rfl).mono (fun H4 g => ⟨ex_t g hs, ex_t g hs2⟩) fun i H4 x H5 hi g y => ?_
    obtain ⟨T, a1, b1, rfl, hT, h4, ha, hb⟩ := y
    obtain ⟨d, q1, q2⟩ := dpAll_get (dpa_mono g hd) ha
    obtain ⟨d2, q3, q4⟩ := dpAll_get (dpa_mono g hd2) hb
    obtain ⟨z1, z2⟩ := pair_dp q2 q4 hT h4
    exact ⟨z1, (d, d2), zip_at q1 q3, z2⟩
theorem iv_zipM {tf : TE} {ds es : List PyData} (h : EvD K te σ H (.tuple ds)) (h2 : EvD K tf σ H (.list es)) (hl : ds.length = es.length) : IvE (iZipM K (tCons te (tCons tf tNil))) σ H (ds.zip es) fun d v H => Dp K H v (.tuple [d.1, d.2]) := fun H1 e Rr k =>
  h H1 e _ fun v H2 e2 hv => h2 H2 (e.trans e2) _ fun w H3 e3 hw => by
    obtain ⟨a, xs, rfl, hs, hd⟩ := dp_tup (dp_mono e3 hv)
    obtain ⟨b, ys, rfl, hs2, hd2⟩ := dp_lst hw
    have n1 := dpAll_length hd
    have n2 := dpAll_length hd2
    refine ⟨a, b, xs, ys, rfl, hs, hs2, k _ H3 (e2.trans e3) ?_⟩
    have n3 : (ds.zip es).length = xs.length := by simp [n1, n2, hl]
    rw [n3]
    refine (walk_zipM (by omega)).mono (fun H4 g => ⟨ex_t g hs, ex_l g hs2⟩) fun i H4 x H5 hi g y => ?_
    obtain ⟨T, a1, b1, rfl, hT, h4, ha, hb⟩ := y
    obtain ⟨d, q1, q2⟩ := dpAll_get (dpa_mono g hd) ha
    obtain ⟨d2, q3, q4⟩ := dpAll_get (dpa_mono g hd2) hb
    obtain ⟨z1, z2⟩ := pair_dp q2 q4 hT h4
    exact ⟨z1, (d, d2), zip_at q1 q3, z2⟩
/-! ### comprehensions -/
/-- each of them, at its place -/
inductive Each (P : α → V → Hp → Prop) (H : Hp) : List α → List V → Prop
  | nil : Each P H [] []
  | cons {a : α} {v : V} {l : List α} {vs : List V} : P a v H → Each P H l vs → Each P H (a :: l) (v :: vs)
variable {P : α → V → Hp → Prop}
theorem Each.snoc {l : List α} {vs : List V} (h : Each P H l vs) {a : α} {v : V} (p : P a v H) : Each P H (l ++ [a]) (vs ++ [v]) := by
  induction h with
  | nil => exact .cons p .nil
  | cons q _ ih => exact .cons q ih
theorem Each.len {l : List α} {vs : List V} (h : Each P H l vs) : vs.length = l.length := by
  induction h with
  | nil => rfl
  | cons q _ ih => simp [ih]
theorem Each.mono {P' : α → V → Hp → Prop} {H' : Hp} {l : List α} {vs : List V} (h : Each P H l vs) (hp : ∀ a v, a ∈ l → P a v H → P' a v H') : Each P' H' l vs := by
  induction h with
  | nil => exact .nil
  | cons q _ ih => exact .cons (hp _ _ (List.mem_cons_self ..) q) (ih fun a v ha => hp a v (List.mem_cons_of_mem _ ha))
theorem each_dpa {d : α → PyData} {H2 : Hp} {l : List α} {vs : List V} (h : Each (fun a v H => Dp K H v (d a)) H2 l vs) : DpAll K H2 vs (l.map d) := by
  induction h with
  | nil => exact .nil
  | cons q _ ih => exact .cons q ih
theorem filter_take_yes {p : α → Bool} {l : List α} {i : Nat} {a : α} (h : l[i]? = some a) (hp : p a = true) : (l.take (i + 1)).filter p = (l.take i).filter p ++ [a] := by
  rw [List.take_succ, h]; simp [hp]
theorem filter_take_no {p : α → Bool} {l : List α} {i : Nat} {a : α} (h : l[i]? = some a) (hp : p a = false) : (l.take (i + 1)).filter p = (l.take i).filter p := by
  rw [List.take_succ, h]; simp [hp]
/-- [e for x in l if p]: what each gives stays, whatever list changes -/
theorem evn_lc {g : TG} {tt : TT} {vs : List Nat} {p : α → Bool} (hi : IvE wi σ H l R) (hl : l.length ≤ sizeLine) (hP : ∀ a v H1 H2, ExT H1 H2 → P a v H1 → P a v H2)
    (hg : ∀ a x H1, a ∈ l → Ex H H1 → R a x H1 → ∃ σ2, (∀ Q : L2.St → Hp → Prop, Q σ2 H1 → g x (wipe σ vs) H1 Q) ∧ wipe σ2 vs = wipe σ vs ∧ EvT tt σ2 H1 (p a) ∧ (p a = true → EvP te σ2 H1 (P a))) :
    EvN (tLc wi g tt te vs) σ H fun ys H2 => Each P H2 (l.filter p) ys := fun H1 e Q q =>
  hi H1 e _ fun J H2 e2 w => fun D hD => by
    refine lc_it w (fun i H' => Ex H2 H' ∧ ∃ acc, H' D = some (.lst acc) ∧ Each P H' ((l.take i).filter p) acc) ?_ (fun i H' _ h => h.1) ?_ ?_
    · exact ⟨Ex.new hD, [], upd_same, by simpa using Each.nil⟩
    · rintro i x H3 H4 hi3 ⟨e3, acc, hacc, hE⟩ ⟨e4, a, ha, hR⟩
      have e04 : Ex H H4 := ((e.trans e2).trans e3).trans e4
      obtain ⟨σ2, k1, k2, k3, k4⟩ := hg a x H4 (List.mem_of_getElem? ha) e04 hR
      refine k1 _ ⟨k2, k3 H4 (Ex.refl _) _ fun H5 e5 => ?_⟩
      cases hp : p a with
      | true =>
        show te σ2 H5 _
        refine k4 hp H5 e5 _ fun v H6 e6 hv => ⟨acc, e6 D _ (e5 D _ (e4 D _ hacc)), ?_, ?_, ?_⟩
        · have h1 := hE.len
          have h2 := List.length_filter_le p (l.take i)
          have h3 : (l.take i).length = i := by rw [List.length_take]; omega
          omega
        · exact Ex.mut (((e3.trans e4).trans e5).trans e6) hD
        · have h6 : H6 D = some (.lst acc) := e6 D _ (e5 D _ (e4 D _ hacc))
          refine ⟨acc ++ [v], upd_same, ?_⟩
          rw [filter_take_yes ha hp]
          have z : ExT H6 (upd H6 D (.lst (acc ++ [v]))) := ExT.put h6
          exact (hE.mono fun b u _ hb => hP b u _ _ ((Ex.toT ((e4.trans e5).trans e6)).trans z) hb).snoc (hP a v _ _ z hv)
      | false =>
        show Ex H2 H5 ∧ _
        refine ⟨(e3.trans e4).trans e5, acc, e5 D _ (e4 D _ hacc), ?_⟩
        rw [filter_take_no ha hp]
        exact hE.mono fun b u _ hb => hP b u _ _ (Ex.toT (e4.trans e5)) hb
    · rintro H3 ⟨e3, acc, hacc, hE⟩
      rw [List.take_length] at hE
      exact q D acc H3 (fresh_back e2 hD) (e2.trans e3) hacc hE
/-- .. as data without lists -/
theorem evnl_lc {g : TG} {tt : TT} {vs : List Nat} {p : α → Bool} {d : α → PyData} (hi : IvE wi σ H l R) (hl : l.length ≤ sizeLine) (hd : ∀ a, tupD (d a) = true)
    (hg : ∀ a x H1, a ∈ l → Ex H H1 → R a x H1 → ∃ σ2, (∀ Q : L2.St → Hp → Prop, Q σ2 H1 → g x (wipe σ vs) H1 Q) ∧ wipe σ2 vs = wipe σ vs ∧ EvT tt σ2 H1 (p a) ∧ (p a = true → EvD K te σ2 H1 (d a))) :
    EvNl K (tLc wi g tt te vs) σ H ((l.filter p).map d) := fun H1 e Q q =>
  evn_lc (P := fun a v H => Dp K H v (d a)) hi hl (fun a v H1 H2 z h => dp_monoT z (hd a) h) hg H1 e Q fun r ys H2 hp e2 h2 hE => q r ys H2 hp e2 h2 (each_dpa hE)
theorem et_yes : EvT tYes σ H true := fun H1 _ Q q => q H1 (Ex.refl H1)
/-- without a test -/
theorem evnl_lc0 {g : TG} {vs : List Nat} {d : α → PyData} (hi : IvE wi σ H l R) (hl : l.length ≤ sizeLine) (hd : ∀ a, tupD (d a) = true)
    (hg : ∀ a x H1, a ∈ l → Ex H H1 → R a x H1 → ∃ σ2, (∀ Q : L2.St → Hp → Prop, Q σ2 H1 → g x (wipe σ vs) H1 Q) ∧ wipe σ2 vs = wipe σ vs ∧ EvD K te σ2 H1 (d a)) :
    EvNl K (tLc wi g tYes te vs) σ H (l.map d) := by
  have := evnl_lc (p := fun _ => true) (tt := tYes) hi hl hd (fun a x H1 ha e hR => by
    obtain ⟨σ2, k1, k2, k3⟩ := hg a x H1 ha e hR
    exact ⟨σ2, k1, k2, et_yes, fun _ => k3⟩)
  rwa [List.filter_eq_self.mpr (by simp)] at this
theorem EvN.data {ds es : List PyData} (h : EvNl K te σ H ds) (x : ds = es) : EvNl K te σ H es := by rw [← x]; exact h
/-- the target is a pair -/
theorem g_two {t : TGs} {x : V} {σ1 : L2.St} {H1 : Hp} {d e : PyData} (h : Dp K H1 x (.tuple [d, e])) : ∃ v w, Dp K H1 v d ∧ Dp K H1 w e ∧ ∀ Q : L2.St → Hp → Prop, t [v, w] σ1 H1 Q → gTup K 2 t x σ1 H1 Q := by
  obtain ⟨a, xs, rfl, hs, hd⟩ := dp_tup h
  obtain ⟨v, r, rfl, h1, h2⟩ := dpa_cons hd
  obtain ⟨w, r, rfl, h3, h4⟩ := dpa_cons h2
  rw [dpa_nil h4] at hs
  exact ⟨v, w, h1, h3, fun Q q => ⟨a, [v, w], rfl, hs, rfl, q⟩⟩
/-! ### for -/
theorem s_forI {g : TG} {tb : TS} {D : Ends} (hi : IvE wi σ H l R) (Pv : Nat → L2.St → Hp → Prop) (h0 : ∀ H1, Ex H H1 → Pv 0 σ H1) (hE : ∀ i σ1 H1 H2, Ex H1 H2 → Pv i σ1 H1 → Pv i σ1 H2)
    (hs : ∀ i a x σ1 H1 Hb, l[i]? = some a → Ex H H1 → Ex Hb H1 → Pv i σ1 H1 → R a x H1 → g x σ1 H1 fun σ2 H2 => tb { D with nx := fun σ3 H3 => Ex Hb H3 ∧ Pv (i + 1) σ3 H3, ct := fun σ3 H3 => Ex Hb H3 ∧ Pv (i + 1) σ3 H3, bk := D.nx } σ2 H2)
    (hd : ∀ σ1 H1, Ex H H1 → Pv l.length σ1 H1 → D.nx σ1 H1) : tFor wi g tb D σ H :=
  hi H (Ex.refl H) _ fun J H2 e2 w => for_it w (fun i σ1 H1 => Ex H2 H1 ∧ Pv i σ1 H1) ⟨Ex.refl _, h0 H2 e2⟩ (fun i σ1 H1 _ h => h.1)
    (fun i x σ1 H3 H4 hi3 ⟨e3, p⟩ ⟨e4, a, ha, hR⟩ => hs i a x σ1 H4 H2 ha ((e2.trans e3).trans e4) (e3.trans e4) (hE i σ1 _ _ e4 p) hR) fun σ1 H1 ⟨e1, p⟩ => hd σ1 H1 (e2.trans e1) p
/-! ### calls -/
theorem evd_callR {n : Nat} {Rr : List PyData → PyData → Prop} {E : XK} {ta : TA} {ds : List PyData} {d : PyData} (h : EvDA K ta σ H ds) (hn : ds.length = n) (hR : Rr ds d) : EvD K (tCall (spR K n Rr) [] E ta) σ H d :=
  evp_call h fun vs H1 _ hv Q q => by
    rw [List.append_nil]
    exact ⟨by rw [dpAll_length hv, hn], ds, d, hv, hR, q⟩
end
end WK
/-! ### WS -/
set_option Elab.async false
set_option linter.all false
set_option maxRecDepth 100000
set_option maxHeartbeats 4000000
/-! Sorting numbers and pairs, as data; two-clause comprehensions. -/
namespace WK
open PySem PySem.Spec PyProof.Rows L2 Evl DX DL KM
def leP (a b : Pr) : Bool := decide (a.1 < b.1 ∨ a.1 = b.1 ∧ a.2 ≤ b.2)
def srtN (l : List Nat) : List Nat := l.mergeSort fun a b => decide (a ≤ b)
def srtP (l : List Pr) : List Pr := l.mergeSort leP
theorem dle_N (a b : Nat) : PySem.W.dataLe false id (dN a) (dN b) = decide (a ≤ b) := by
  show (!PySem.W.dataLt (.int (b : Int)) (.int (a : Int))) = _
  rw [PySem.W.dataLt_int, Bool.eq_iff_iff]
  simp
theorem dlt_P (a b : Pr) : PySem.W.dataLt (dP a) (dP b) = decide (a.1 < b.1 ∨ a.1 = b.1 ∧ a.2 < b.2) := by
  have h := PySem.W.DatumOrd.lt_eq (α := Int × Int) ((a.1 : Int), (a.2 : Int)) ((b.1 : Int), (b.2 : Int))
  refine Eq.trans (show PySem.W.dataLt (dP a) (dP b) = _ from h) ?_
  show (if ((a.1 : Int)) = (b.1 : Int) then decide ((a.2 : Int) < (b.2 : Int)) else decide ((a.1 : Int) < (b.1 : Int))) = _
  by_cases h1 : (a.1 : Int) = (b.1 : Int)
  · rw [if_pos h1, Bool.eq_iff_iff]
    simp only [decide_eq_true_eq]
    omega
  · rw [if_neg h1, Bool.eq_iff_iff]
    simp only [decide_eq_true_eq]
    omega
theorem dle_P (a b : Pr) : PySem.W.dataLe false id (dP a) (dP b) = leP a b := by
  show (!PySem.W.dataLt (dP b) (dP a)) = _
  rw [dlt_P, leP, Bool.eq_iff_iff]
  simp
  omega
theorem sort_N (l : List Nat) : (l.map dN).mergeSort (PySem.W.dataLe false id) = (srtN l).map dN := by
  unfold srtN
  exact (List.map_mergeSort fun a _ b _ => (dle_N a b).symm).symm
theorem sort_P (l : List Pr) : (l.map dP).mergeSort (PySem.W.dataLe false id) = (srtP l).map dP := by
  unfold srtP
  exact (List.map_mergeSort fun a _ b _ => (dle_P a b).symm).symm
theorem leP_trans (a b c : Pr) (h1 : leP a b = true) (h2 : leP b c = true) : leP a c = true := by
  simp only [leP, decide_eq_true_eq] at *; omega
theorem leP_total (a b : Pr) : (leP a b || leP b a) = true := by
  simp only [leP, Bool.or_eq_true, decide_eq_true_eq]; omega
theorem leP_anti {a b : Pr} (h1 : leP a b = true) (h2 : leP b a = true) : a = b := by
  simp only [leP, decide_eq_true_eq] at *
  obtain ⟨a1, a2⟩ := a
  obtain ⟨b1, b2⟩ := b
  simp only [Prod.mk.injEq]
  simp only at h1 h2
  omega
theorem srtN_perm (l : List Nat) : (srtN l).Perm l := List.mergeSort_perm _ _
theorem srtP_perm (l : List Pr) : (srtP l).Perm l := List.mergeSort_perm _ _
theorem srtN_pw (l : List Nat) : (srtN l).Pairwise (fun a b => a ≤ b) := by
  have := List.pairwise_mergeSort (le := fun a b : Nat => decide (a ≤ b)) (by intro a b c; simp; omega) (by intro a b; simp; omega) l
  exact this.imp (by intro a b h; simpa using h)
theorem srtP_pw (l : List Pr) : (srtP l).Pairwise (fun a b => leP a b = true) := List.pairwise_mergeSort leP_trans leP_total l
theorem srtN_eq {l l' : List Nat} (h : l.Perm l') : srtN l = srtN l' :=
  List.Perm.eq_of_pairwise (le := fun a b => a ≤ b) (fun a b _ _ h1 h2 => by omega) (srtN_pw l) (srtN_pw l') (((srtN_perm l).trans h).trans (srtN_perm l').symm)
theorem srtP_eq {l l' : List Pr} (h : l.Perm l') : srtP l = srtP l' :=
  List.Perm.eq_of_pairwise (le := fun a b => leP a b = true) (fun a b _ _ h1 h2 => leP_anti h1 h2) (srtP_pw l) (srtP_pw l') (((srtP_perm l).trans h).trans (srtP_perm l').symm)
theorem srtP_self {l : List Pr} (h : l.Pairwise (fun a b => leP a b = true)) : srtP l = l :=
  List.Perm.eq_of_pairwise (le := fun a b => leP a b = true) (fun a b _ _ h1 h2 => leP_anti h1 h2) (srtP_pw l) h (srtP_perm l)
theorem srtN_self {l : List Nat} (h : l.Pairwise (fun a b => a ≤ b)) : srtN l = l :=
  List.Perm.eq_of_pairwise (le := fun a b => a ≤ b) (fun a b _ _ h1 h2 => by omega) (srtN_pw l) h (srtN_perm l)
theorem mem_srtN {l : List Nat} {v : Nat} : v ∈ srtN l ↔ v ∈ l := (srtN_perm l).mem_iff
theorem mem_srtP {l : List Pr} {v : Pr} : v ∈ srtP l ↔ v ∈ l := (srtP_perm l).mem_iff
theorem len_srtN (l : List Nat) : (srtN l).length = l.length := (srtN_perm l).length_eq
theorem len_srtP (l : List Pr) : (srtP l).length = l.length := (srtP_perm l).length_eq
theorem alike_N (a b : Nat) : PySem.W.alike (dN a) (dN b) = true := PySem.W.DatumOrd.alike (α := Int) a b
theorem alike_P (a b : Pr) : PySem.W.alike (dP a) (dP b) = true := PySem.W.DatumOrd.alike (α := Int × Int) ((a.1 : Int), (a.2 : Int)) ((b.1 : Int), (b.2 : Int))
section
variable {K : PySem.W.Frag} {σ : L2.St} {H : Hp} {te : TE} {α : Type}
theorem evn_sortN {l : List Nat} (h : EvD K te σ H (.list (l.map dN)) ∨ EvD K te σ H (.tuple (l.map dN))) : EvNl K (tCB (rSortG K) (tCons te tNil)) σ H ((srtN l).map dN) := by
  rw [← sort_N]
  exact evn_sort h (.of alike_N) (.others fun b => ⟨fun z => (by cases z), fun xs z => (by cases z)⟩) fun d hd => by
    obtain ⟨a, _, rfl⟩ := List.mem_map.mp hd
    exact Nat.le_trans (depth_N a) (by decide)
theorem evn_sortP {l : List Pr} (h : EvD K te σ H (.list (l.map dP)) ∨ EvD K te σ H (.tuple (l.map dP))) : EvNl K (tCB (rSortG K) (tCons te tNil)) σ H ((srtP l).map dP) := by
  rw [← sort_P]
  exact evn_sort h (.of alike_P) (.tuples fun b => ⟨_, _, rfl⟩) fun d hd => by
    obtain ⟨a, _, rfl⟩ := List.mem_map.mp hd
    exact Nat.le_trans (depth_P a) (by decide)
theorem min_two (a b : Nat) : PySem.W.minD (dN a) [dN b] = dN (min a b) := by
  have := PySem.W.minD_ints (a : Int) [(b : Int)]
  refine Eq.trans (show PySem.W.minD (dN a) [dN b] = _ from this) ?_
  show PyData.int (min (a : Int) (b : Int)) = .int ((min a b : Nat) : Int)
  congr 1; omega
theorem max_two (a b : Nat) : PySem.W.maxD (dN a) [dN b] = dN (max a b) := by
  have := PySem.W.maxD_ints (a : Int) [(b : Int)]
  refine Eq.trans (show PySem.W.maxD (dN a) [dN b] = _ from this) ?_
  show PyData.int (max (a : Int) (b : Int)) = .int ((max a b : Nat) : Int)
  congr 1; omega
theorem alikeAll_N (l : List Nat) : PySem.W.AlikeAll (l.map dN) := by
  refine ⟨fun x hx y hy => ?_, fun x hx => ?_⟩
  · obtain ⟨a, _, rfl⟩ := List.mem_map.mp hx
    obtain ⟨b, _, rfl⟩ := List.mem_map.mp hy
    exact alike_N a b
  · obtain ⟨a, _, rfl⟩ := List.mem_map.mp hx
    intro z; cases z
/-- min, max of a pair -/
theorem evd_min2 {a b : Nat} (h : EvD K te σ H (.tuple [dN a, dN b]) ∨ EvD K te σ H (.list [dN a, dN b])) : EvD K (tCB (rBest K PySem.W.minD) (tCons te tNil)) σ H (dN (min a b)) := by
  rw [← min_two]
  exact evd_best h.symm (alikeAll_N [a, b]) (by simp [PyData.depthAll, PyData.depth])
theorem evd_max2 {a b : Nat} (h : EvD K te σ H (.tuple [dN a, dN b]) ∨ EvD K te σ H (.list [dN a, dN b])) : EvD K (tCB (rBest K PySem.W.maxD) (tCons te tNil)) σ H (dN (max a b)) := by
  rw [← max_two]
  exact evd_best h.symm (alikeAll_N [a, b]) (by simp [PyData.depthAll, PyData.depth])
theorem ev_eqN {tb : TE} {n m : Nat} (ha : Ev te σ H (.int (n : Int))) (hb : Ev tb σ H (.int (m : Int))) : Ev (tOp rEq te tb) σ H (.bl (decide (n = m))) := ev_is (ev_op ha hb (rv_eq rfl)) (by
  congr 1; rw [Bool.eq_iff_iff]; simp only [decide_eq_true_eq, V.int.injEq]; omega)
theorem ev_neN {tb : TE} {n m : Nat} (ha : Ev te σ H (.int (n : Int))) (hb : Ev tb σ H (.int (m : Int))) : Ev (tOp rNe te tb) σ H (.bl (!decide (n = m))) := ev_is (ev_op ha hb (rv_ne rfl)) (by
  congr 2; rw [Bool.eq_iff_iff]; simp only [decide_eq_true_eq, V.int.injEq]; omega)
/-! ### two clauses, no tests -/
theorem flat_take {β : Type} {l : List α} {f : α → List β} {i : Nat} {a : α} (h : l[i]? = some a) : (l.take (i + 1)).flatMap f = (l.take i).flatMap f ++ f a := by
  rw [List.take_succ, h]; simp
theorem evnl_lc2 {β : Type} {wi : TI} {te1 : TE} {g g1 : TG} {vs vs1 : List Nat} {l : List α} {l1 : α → List β} {R : α → V → Hp → Prop} {d : β → PyData}
    (hi : IvE wi σ H l R) (hl : (l.flatMap l1).length < sizeLine) (hd : ∀ a, tupD (d a) = true)
    (hg : ∀ a x H1, a ∈ l → Ex H H1 → R a x H1 → ∃ σ2, (∀ Q : L2.St → Hp → Prop, Q σ2 H1 → g x (wipe σ vs) H1 Q) ∧ wipe σ2 vs = wipe σ vs ∧ EvD K te1 σ2 H1 (.tuple ((l1 a).map d)) ∧
      ∀ b y H3, b ∈ l1 a → Dp K H3 y (d b) → ∃ σ3, (∀ Q : L2.St → Hp → Prop, Q σ3 H3 → g1 y (wipe σ2 vs1) H3 Q) ∧ wipe σ3 vs1 = wipe σ2 vs1 ∧ EvD K te σ3 H3 (d b)) :
    EvNl K (tLc2 wi g tYes (iTup K te1) g1 tYes te vs vs1) σ H ((l.flatMap l1).map d) := fun H1 e Q q =>
  hi H1 e _ fun J H2 e2 w => fun D hD => by
    refine ⟨fun i m H' => m = l.length - i ∧ i ≤ l.length ∧ Ex H2 H' ∧ ∃ acc, H' D = some (.lst acc) ∧ DpAll K H' acc (((l.take i).flatMap l1).map d), ⟨l.length, by simp, Nat.zero_le _, Ex.new hD, [], upd_same, by simpa using DpAll.nil⟩, ?_⟩
    rintro i m H3 ⟨rfl, hi3, e3, acc, hacc, hE⟩
    by_cases hlt : i < l.length
    · refine .inr ⟨w.goes i H3 hlt e3, fun H' => Ex H2 H' ∧ ∃ acc, H' D = some (.lst acc) ∧ DpAll K H' acc (((l.take (i + 1)).flatMap l1).map d), ?_, ?_⟩
      · rintro H' ⟨h1, h2⟩
        exact ⟨l.length - (i + 1), by omega, rfl, hlt, h1, h2⟩
      · intro x H4 hy
        obtain ⟨e4, a, ha, hR⟩ := w.yields i H3 x H4 hlt e3 hy
        have e24 : Ex H2 H4 := e3.trans e4
        have e04 : Ex H H4 := (e.trans e2).trans e24
        obtain ⟨σ2, k1, k2, k3, k4⟩ := hg a x H4 (List.mem_of_getElem? ha) e04 hR
        have hlen : (l.take (i + 1)).flatMap l1 = (l.take i).flatMap l1 ++ l1 a := flat_take ha
        have hle : ((l.take (i + 1)).flatMap l1).length ≤ (l.flatMap l1).length := by
          have e0 : l.flatMap l1 = (l.take (i + 1)).flatMap l1 ++ (l.drop (i + 1)).flatMap l1 := by rw [← List.flatMap_append, List.take_append_drop]
          rw [e0, List.length_append]; omega
        refine k1 _ ⟨k2, et_yes (σ := σ2) H4 (Ex.refl _) _ fun H40 e40 => ?_⟩
        refine (if_pos (c := true = true) rfl).mpr ?_
        refine k3 H40 e40 _ fun u H5 e5' hu => ?_
        have e5 : Ex H4 H5 := e40.trans e5'
        obtain ⟨b0, xs, rfl, hs, hxs⟩ := dp_tup hu
        have n1 : xs.length = (l1 a).length := by rw [dpAll_length hxs, List.length_map]
        refine ⟨b0, rfl, ⟨xs, hs⟩, ?_⟩
        have w1 : Walk (Itt K b0) xs.length (fun H => SqT K H b0 xs) (YAt xs) := walk_tup
        refine ⟨fun j k H' => k = (l1 a).length - j ∧ j ≤ (l1 a).length ∧ Ex H2 H' ∧ ExT H5 H' ∧ ∃ acc, H' D = some (.lst acc) ∧ DpAll K H' acc (((l.take i).flatMap l1 ++ (l1 a).take j).map d),
          ⟨(l1 a).length, by simp, Nat.zero_le _, e24.trans e5, ExT.refl _, acc, e5 D _ (e4 D _ hacc), by simpa using dpa_mono (e4.trans e5) hE⟩, ?_⟩
        rintro j k H6 ⟨rfl, hj, e6, e56, acc6, hacc6, hE6⟩
        have hs6 : SqT K H6 b0 xs := sqt_monoT e56 hs
        by_cases hjl : j < (l1 a).length
        · refine .inr ⟨w1.goes j H6 (by omega) hs6, fun H' => Ex H2 H' ∧ ExT H5 H' ∧ ∃ acc, H' D = some (.lst acc) ∧ DpAll K H' acc (((l.take i).flatMap l1 ++ (l1 a).take (j + 1)).map d), ?_, ?_⟩
          · rintro H' ⟨h1, h2, h3⟩
            exact ⟨(l1 a).length - (j + 1), by omega, rfl, hjl, h1, h2, h3⟩
          · intro y H7 hy7
            obtain ⟨rfl, hy8⟩ := w1.yields j H6 y H7 (by omega) hs6 hy7
            obtain ⟨db, hb1, hb2⟩ := dpAll_get (dpa_monoT e56 (tupDs_map hd _) hxs) hy8
            rw [List.getElem?_map] at hb1
            cases hb : (l1 a)[j]? with
            | none => rw [hb] at hb1; cases hb1
            | some b =>
              rw [hb] at hb1; cases hb1
              obtain ⟨σ3, m1, m2, m3⟩ := k4 b y H7 (List.mem_of_getElem? hb) hb2
              refine m1 _ ⟨m2, et_yes (σ := σ3) H7 (Ex.refl _) _ fun H70 e70 => ?_⟩
              refine (if_pos (c := true = true) rfl).mpr ?_
              refine m3 H70 e70 _ fun z H8 e8' hz => ?_
              have e8 : Ex H7 H8 := e70.trans e8'
              have h8 : H8 D = some (.lst acc6) := e8 D _ hacc6
              have z8 : ExT H8 (upd H8 D (.lst (acc6 ++ [z]))) := ExT.put h8
              refine ⟨acc6, h8, ?_, Ex.mut (e6.trans e8) hD, (e56.trans (Ex.toT e8)).trans z8, acc6 ++ [z], upd_same, ?_⟩
              · have := dpAll_length hE6
                rw [List.length_map, List.length_append, List.length_take] at this
                rw [hlen, List.length_append] at hle
                omega
              · rw [List.take_succ, hb]
                show DpAll K _ _ (((l.take i).flatMap l1 ++ ((l1 a).take j ++ [b])).map d)
                rw [← List.append_assoc, List.map_append]
                exact dpa_app (dpa_monoT z8 (tupDs_map hd _) (dpa_mono e8 hE6)) (.cons (dp_monoT z8 (hd b) hz) .nil)
        · have hj2 : j = (l1 a).length := by omega
          subst hj2
          refine .inl ⟨by have := w1.stops H6 hs6; rwa [n1] at this, e6, acc6, hacc6, ?_⟩
          rw [List.take_length] at hE6
          rw [hlen]; exact hE6
    · have he : i = l.length := by omega
      subst he
      rw [List.take_length] at hE
      exact .inl ⟨w.stops H3 e3, q D acc H3 (fresh_back e2 hD) (e2.trans e3) hacc hE⟩
end
end WK
/-! ### WR -/
set_option Elab.async false
set_option linter.all false
set_option maxRecDepth 100000
set_option maxHeartbeats 4000000
/-! The rules with the written part K by name (within a comprehension the place differs, K does not). -/
namespace WK
open PySem PySem.Spec PyProof.Rows L2 Evl DX DL
section
variable {X : Cx} (K : PySem.W.Frag)
theorem ix_tupK (hK : X.K = K := by rfl) : IxR X (rIxT K) := hK ▸ ix_tup
theorem ix_lstK (hK : X.K = K := by rfl) : IxR X (rIxL K) := hK ▸ ix_list
theorem sl_tupK (hK : X.K = K := by rfl) : SlR X (rSlA K) := hK ▸ sl_tupA
theorem sl_lstK (hK : X.K = K := by rfl) : SlR X (rSlL K) := hK ▸ sl_list
theorem op_inK (hK : X.K = K := by rfl) : OpR X (compareOp .In) (rIn K false) := hK ▸ op_in_seq
theorem op_ninK (hK : X.K = K := by rfl) : OpR X (compareOp .NotIn) (rIn K true) := hK ▸ op_notIn_seq
theorem op_inTK {k : Nat} (hr : Room k X.A) (hK : X.K = K := by rfl) : OpR X (compareOp .In) (rInT K false) := hK ▸ op_inT (h65 hr)
theorem op_ninTK {k : Nat} (hr : Room k X.A) (hK : X.K = K := by rfl) : OpR X (compareOp .NotIn) (rInT K true) := hK ▸ op_notInT (h65 hr)
theorem op_inDK {k : Nat} (hr : Room k X.A) (hK : X.K = K := by rfl) : OpR X (compareOp .In) (rInD K) := hK ▸ op_inD (h65 hr)
theorem op_ninDK {k : Nat} (hr : Room k X.A) (hK : X.K = K := by rfl) : OpR X (compareOp .NotIn) (rNotInD K) := hK ▸ op_notInD (h65 hr)
theorem op_eqDK {k : Nat} (hr : Room k X.A) (hK : X.K = K := by rfl) : OpR X (compareOp .Eq) (rEqD K) := hK ▸ op_eqD (h64 hr)
theorem op_neDK {k : Nat} (hr : Room k X.A) (hK : X.K = K := by rfl) : OpR X (compareOp .NotEq) (rNeD K) := hK ▸ op_neD (h64 hr)
theorem op_catK (hK : X.K = K := by rfl) : OpR X (binaryOp .Add) (rCatA K) := hK ▸ op_catA
theorem cr_lenK (hK : X.K = K := by rfl) : CallR X (.builtin "len") (rLenS K) := hK ▸ cr_lenS
theorem cr_tupK (hK : X.K = K := by rfl) : CallR X (.type "tuple") (rTupOf K) := hK ▸ cr_tupOf
theorem cr_lstK (hK : X.K = K := by rfl) : CallR X (.type "list") (rListS K) := hK ▸ cr_lstOf
theorem cr_allK (hc : X.calm = true) (hK : X.K = K := by rfl) : CallR X (.builtin "all") (rAll K) := hK ▸ cr_all hc
theorem cr_anyK (hc : X.calm = true) (hK : X.K = K := by rfl) : CallR X (.builtin "any") (rAny K) := hK ▸ cr_any hc
theorem cr_sortK {k : Nat} (hr : Room k X.A) (hK : X.K = K := by rfl) : CallR X (.builtin "sorted") (rSortG K) := hK ▸ cr_sortG (h64 hr)
theorem cr_maxK {k : Nat} (hc : X.calm = true) (hr : Room k X.A) (hK : X.K = K := by rfl) : CallR X (.builtin "max") (rBest K PySem.W.maxD) := hK ▸ cr_maxG hc (h64 hr)
theorem cr_minK' {k : Nat} (hc : X.calm = true) (hr : Room k X.A) (hK : X.K = K := by rfl) : CallR X (.builtin "min") (rBest K PySem.W.minD) := hK ▸ cr_minG hc (h64 hr)
theorem cr_isiK (hK : X.K = K := by rfl) : CallR X (.builtin "isinstance") (rIsi K) := hK ▸ call_isi
theorem k_list {tg e : Expr} {t : TE} (h : PI X tg e (iList X.K t)) (hK : X.K = K := by rfl) : PI X tg e (iList K t) := hK ▸ h
theorem k_tup {tg e : Expr} {t : TE} (h : PI X tg e (iTup X.K t)) (hK : X.K = K := by rfl) : PI X tg e (iTup K t) := hK ▸ h
theorem k_enum {tg e : Expr} {t : TA} (h : PI X tg e (iEnum X.K t)) (hK : X.K = K := by rfl) : PI X tg e (iEnum K t) := hK ▸ h
theorem k_zipA {tg e : Expr} {t : TA} (h : PI X tg e (RZ.iZipA X.K t)) (hK : X.K = K := by rfl) : PI X tg e (RZ.iZipA K t) := hK ▸ h
theorem k_zipM {tg e : Expr} {t : TA} (h : PI X tg e (iZipM X.K t)) (hK : X.K = K := by rfl) : PI X tg e (iZipM K t) := hK ▸ h
theorem k_zipN {tg e : Expr} {t : TA} (h : PI X tg e (iZipN X.K t)) (hK : X.K = K := by rfl) : PI X tg e (iZipN K t) := hK ▸ h
theorem k_gtup {e : Expr} {n : Nat} {t : TGs} (h : PG X e (gTup X.K n t)) (hK : X.K = K := by rfl) : PG X e (gTup K n t) := hK ▸ h
theorem k_fld {e : Expr} {t : TE} {f : Str} (h : PE X e (tFld X.K t f)) (hK : X.K = K := by rfl) : PE X e (tFld K t f) := hK ▸ h
theorem k_rev {e : Expr} {t : TE} (h : PE X e (tRevL X.K t)) (hK : X.K = K := by rfl) : PE X e (tRevL K t) := hK ▸ h
theorem k_bm {e : Expr} {T : String} {r : V → List V → Hp → VK → Prop} {t : TE} {u : TA} (h : PE X e (tBM X.K T r t u)) (hK : X.K = K := by rfl) : PE X e (tBM K T r t u) := hK ▸ h
theorem k_bm0 {e : Expr} {T : String} {r : V → List V → Hp → VK → Prop} {t : TE} (h : PE X e (tBM0 X.K T r t)) (hK : X.K = K := by rfl) : PE X e (tBM0 K T r t) := hK ▸ h
theorem k_lens {e : Expr} {t : TE} (h : PE X e (tLenSetT X.K t)) (hK : X.K = K := by rfl) : PE X e (tLenSetT K t) := hK ▸ h
theorem k_star {es : List Expr} {t : TE} {u : TA} (h : PA X es (StX.tStar X.K t u)) (hK : X.K = K := by rfl) : PA X es (StX.tStar K t u) := hK ▸ h
theorem k_sfld {st : Stmt} {t u : TE} {f : Str} (h : PS X st (sFld X.K t u f)) (hK : X.K = K := by rfl) : PS X st (sFld K t u f) := hK ▸ h
theorem blkIn {N : List Str} {sc scope : Scope} {own : List (Str × Nat)} (h : blkC N sc scope own = true) : BlkOk N sc scope own := blkOk_by h
end
section
variable {K : PySem.W.Frag} {σ : L2.St} {H : Hp} {te : TE}
theorem iv_zipN {tf : TE} {ds es : List PyData} (h : EvD K te σ H (.tuple ds)) (h2 : EvD K tf σ H (.tuple es)) : IvE (iZipN K (tCons te (tCons tf tNil))) σ H (ds.zip es) fun d v H => Dp K H v (.tuple [d.1, d.2]) := fun H1 e Rr k =>
  h H1 e _ fun v H2 e2 hv => h2 H2 (e.trans e2) _ fun w H3 e3 hw => by
    obtain ⟨a, xs, rfl, hs, hd⟩ := dp_tup (dp_mono e3 hv)
    obtain ⟨b, ys, rfl, hs2, hd2⟩ := dp_tup hw
    have n1 := dpAll_length hd
    have n2 := dpAll_length hd2
    refine ⟨a, b, xs, ys, rfl, hs, hs2, k _ H3 (e2.trans e3) ?_⟩
    have n3 : (ds.zip es).length = min xs.length ys.length := by simp [n1, n2]
    rw [n3]
    refine (walk_zipN rfl).mono (fun H4 g => ⟨ex_t g hs, ex_t g hs2⟩) fun i H4 x H5 hi g y => ?_
    obtain ⟨T, a1, b1, rfl, hT, h4, ha, hb⟩ := y
    obtain ⟨d, q1, q2⟩ := dpAll_get (dpa_mono g hd) ha
    obtain ⟨d2, q3, q4⟩ := dpAll_get (dpa_mono g hd2) hb
    obtain ⟨z1, z2⟩ := pair_dp q2 q4 hT h4
    exact ⟨z1, (d, d2), zip_at q1 q3, z2⟩
variable {D : Ends} {tu tw tz : TS} {t : TT}
theorem q_ifN (h : EvT t σ H false) (k : ∀ H1, Ex H H1 → tz D σ H1) : tSeq (tIfS t tu tNext) tz D σ H := h H (Ex.refl H) _ fun H1 e => k H1 e
theorem q_ifB {b : Bool} (h : EvT t σ H b) (h1 : b = true → ∀ H1, Ex H H1 → tu { D with nx := tz D } σ H1) (h2 : b = false → ∀ H1, Ex H H1 → tw { D with nx := tz D } σ H1) : tSeq (tIfS t tu tw) tz D σ H := h H (Ex.refl H) _ fun H1 e => by
  cases b with
  | true => exact h1 rfl H1 e
  | false => exact h2 rfl H1 e
theorem q_ifE {b : Bool} (h : EvT t σ H b) (h1 : b = true → ∀ H1, Ex H H1 → tu { D with nx := tz D } σ H1) (h2 : b = false → ∀ H1, Ex H H1 → tz D σ H1) : tSeq (tIfS t tu tNext) tz D σ H := h H (Ex.refl H) _ fun H1 e => by
  cases b with
  | true => exact h1 rfl H1 e
  | false => exact h2 rfl H1 e
theorem s_retQ {d : PyData} {Q0 : VK} {H0 : Hp} (h : EvD K te σ H d) (hq : RetD K d H0 Q0) (x : Ex H0 H) (hD : D.rt = Q0 := by rfl) : tRet te D σ H := h H (Ex.refl H) _ fun v H2 e hv => by
  rw [hD]; exact hq v H2 (x.trans e) hv
theorem ev_neg1 : Ev (tUn (rU fun i => .int (-i)) (tC (.int 1))) σ H (.int (-1)) := ev_un ev_c ru_neg
theorem evp_any {P : V → Hp → Prop} {P2 : V → Hp → Prop} (h : EvP te σ H P) (i : ∀ v H1, Ex H H1 → P v H1 → P2 v H1) : EvP te σ H P2 := fun H1 e Q q => h H1 e Q fun v H2 e2 p => q v H2 e2 (i v H2 (e.trans e2) p)
theorem s_parN {i j : Nat} {ta : TA} {d1 d2 : PyData} (h : EvDA K ta σ H [d1, d2]) (k : ∀ v w H1, Ex H H1 → Dp K H1 v d1 → Dp K H1 w d2 → tz D ((σ.set i (some v)).set j (some w)) H1) : tSeq (tPar i j ta) tz D σ H := h H (Ex.refl H) _ fun vs H1 e hd => by
  obtain ⟨v, r, rfl, h1, h2⟩ := dpa_cons hd
  obtain ⟨w, r, rfl, h3, h4⟩ := dpa_cons h2
  cases dpa_nil h4
  exact ⟨v, w, rfl, k v w H1 e h1 h3⟩
end
end WK
/-! ### W1 -/
set_option Elab.async false
set_option linter.all false
set_option maxRecDepth 100000
set_option maxHeartbeats 4000000
/-! plain tests, plans, turns -/
namespace WK
open PySem PySem.Spec PyProof.Rows L2 Evl DX DL KM C8


abbrev N_is_integer : List Str := ["value"]
theorem sc_is_integer : FnScope N_is_integer ["value"] (defScope HD.s_is_integer) := ⟨rfl, rfl, rfl, by decide +kernel, rfl, by decide +kernel, by decide +kernel⟩
abbrev N_is_number : List Str := ["value"]
theorem sc_is_number : FnScope N_is_number ["value"] (defScope HD.s_is_number) := ⟨rfl, rfl, rfl, by decide +kernel, rfl, by decide +kernel, by decide +kernel⟩
abbrev N_is_index : List Str := ["value", "many"]
theorem sc_is_index : FnScope N_is_index ["value", "many"] (defScope HD.s_is_index) := ⟨rfl, rfl, rfl, by decide +kernel, rfl, by decide +kernel, by decide +kernel⟩
abbrev N_is_row_of : List Str := ["value", "sizes"]
theorem sc_is_row_of : FnScope N_is_row_of ["value", "sizes"] (defScope HD.s_is_row_of) := ⟨rfl, rfl, rfl, by decide +kernel, rfl, by decide +kernel, by decide +kernel⟩
abbrev N_is_word_of : List Str := ["value", "words"]
theorem sc_is_word_of : FnScope N_is_word_of ["value", "words"] (defScope HD.s_is_word_of) := ⟨rfl, rfl, rfl, by decide +kernel, rfl, by decide +kernel, by decide +kernel⟩
abbrev N_served : List Str := ["plan", "pair", "person"]
theorem sc_served : FnScope N_served ["plan"] (defScope HD.s_served) := ⟨rfl, rfl, rfl, by decide +kernel, rfl, by decide +kernel, by decide +kernel⟩
abbrev N_partner : List Str := ["plan", "person", "one", "other"]
theorem sc_partner : FnScope N_partner ["plan", "person"] (defScope HD.s_partner) := ⟨rfl, rfl, rfl, by decide +kernel, rfl, by decide +kernel, by decide +kernel⟩
theorem ty_int {K : PySem.W.Frag} {H : Hp} (i : Int) (c : String) {b : Bool} (h : PySem.W.kitOne K (.type "int") (.type c) = some b) {te : TE} {σ : L2.St} (hv : Ev te σ H (.int i)) : Ev (tCB (rIsi K) (tCons te (tCons (tC (.ty c)) tNil))) σ H (.bl b) := fun H1 e Q q =>
  hv H1 e _ fun H2 e2 => ⟨.int i, .ty c, .type "int", .type c, b, rfl, .ty c, .base (.int i), h, q H2 e2⟩
theorem ty_str {K : PySem.W.Frag} {H : Hp} (i : Str) (c : String) {b : Bool} (h : PySem.W.kitOne K (.type "str") (.type c) = some b) {te : TE} {σ : L2.St} (hv : Ev te σ H (.str i)) : Ev (tCB (rIsi K) (tCons te (tCons (tC (.ty c)) tNil))) σ H (.bl b) := fun H1 e Q q =>
  hv H1 e _ fun H2 e2 => ⟨.str i, .ty c, .type "str", .type c, b, rfl, .ty c, .base (.str i), h, q H2 e2⟩
theorem tyX_tup {K : PySem.W.Frag} {H : Hp} {a : Addr} {xs : List V} (h : SqT K H a xs) : TyX K H (.ref a) (.type "tuple") := by
  rcases h with (h | ⟨o, h⟩) | ⟨o, its, n, h, c, _⟩
  · exact .base (.tup h)
  · exact .fTuple h
  · exact .kTuple h c
theorem ty_tup {K : PySem.W.Frag} {H : Hp} {ds : List PyData} (c : String) {b : Bool} (h : PySem.W.kitOne K (.type "tuple") (.type c) = some b) {te : TE} {σ : L2.St} (hv : EvD K te σ H (.tuple ds)) : Ev (tCB (rIsi K) (tCons te (tCons (tC (.ty c)) tNil))) σ H (.bl b) := fun H1 e Q q =>
  hv H1 e _ fun v H2 e2 hd => by
    obtain ⟨a, xs, rfl, hs, _⟩ := dp_tup hd
    exact ⟨.ref a, .ty c, .type "tuple", .type c, b, rfl, .ty c, tyX_tup hs, h, q H2 e2⟩
theorem verts_len (p : List Pr) : (verts p).length = 2 * p.length := by
  induction p with
  | nil => rfl
  | cons e p ih => rw [verts_cons]; simp [ih]; omega
def partF (p : List Pr) (v : Nat) : Option Nat := (p.find? fun e => decide (v = e.1 ∨ v = e.2)).map fun e => if v = e.1 then e.2 else e.1
theorem partF_none {p : List Pr} {v : Nat} : partF p v = none ↔ v ∉ verts p := by
  unfold partF
  rw [Option.map_eq_none_iff, List.find?_eq_none, mem_verts]
  simp
section
variable {P : Program} {w : World} {K : PySem.W.Frag} {mg : Str → Option Value} {base : Heap} {f : Addr} {fd : FuncData} (B : BI mg)
include B
def R_is_integer : List PyData → PyData → Prop := fun ds d => ∃ n : Nat, ds = [dN n] ∧ d = .bool true
theorem ok_is_integer (F : FnP K "is_integer" "is_integer" HD.s_is_integer f fd) (hm : mg "is_integer" = some (.ref f)) : C8.Cal P w K mg base 1 "is_integer" (spR K 1 R_is_integer) [] := by
  refine calR F hm sc_is_integer (F.bindsN fun _ _ _ _ _ _ us hl => match us, hl with | [_], _ => rfl) rfl fun cdv A outer s H vs Q E ds d hr hd hR hq => ?_
  obtain ⟨n, rfl, rfl⟩ := hR
  obtain ⟨v, r, rfl, h1, h2⟩ := dpa_cons hd
  cases dpa_nil h2
  refine ⟨_, PSs.nox (pss_one (ps_ret (pe_and (pe_callB (cr_isiK K) rfl B.isinstance (by decide +kernel) (pa_cons (pv 0) (pa_cons (pe_bltn (v := .ty "int") (u := .type "int") rfl B.int (by decide +kernel) rfl) pa_nil))) (pe_one (pe_not (pe_callB (cr_isiK K) rfl B.isinstance (by decide +kernel) (pa_cons (pv 0) (pa_cons (pe_bltn (v := .ty "bool") (u := .type "bool") rfl B.bool (by decide +kernel) rfl) pa_nil)))))))), ?_⟩
  have hv : Ev (tVar 0) (start N_is_integer [v]) H (.int (n : Int)) := by
    rw [← dp_int h1]; exact ev_var rfl
  exact s_retD (evd_bl (ev_is (ev_andV (ty_int n "int" (b := true) rfl hv) fun _ => ev_notV (ty_int n "bool" (b := false) rfl hv)) rfl)) hq

def R_is_number : List PyData → PyData → Prop := R_is_integer
theorem ok_is_number (F : FnP K "is_number" "is_number" HD.s_is_number f fd) (hm : mg "is_number" = some (.ref f)) (c_is_integer : C8.Cal P w K mg base 1 "is_integer" (spR K 1 R_is_integer) []) : C8.Cal P w K mg base 2 "is_number" (spR K 1 R_is_number) [] := by
  refine calR F hm sc_is_number (F.bindsN fun _ _ _ _ _ _ us hl => match us, hl with | [_], _ => rfl) rfl fun cdv A outer s H vs Q E ds d hr hd hR hq => ?_
  obtain ⟨n, rfl, rfl⟩ := hR
  obtain ⟨v, r, rfl, h1, h2⟩ := dpa_cons hd
  cases dpa_nil h2
  refine ⟨_, PSs.nox (pss_one (ps_ret (pe_and (pe_c c_is_integer hr (by decide) rfl (pa_cons (pv 0) pa_nil)) (pe_one (pe_cmpR op_ge (pv 0) pe_int (nomark _)))))), ?_⟩
  refine s_retD (evd_bl (ev_is (ev_andV (a := true) (ev_bl (evd_callR (eda_cons (evd_var rfl h1) eda_nil) rfl ⟨n, rfl, rfl⟩)) fun _ => ev_op (ev_int (evd_var rfl h1)) ev_c rv_I0) ?_)) hq
  simp
def R_is_index : List PyData → PyData → Prop := fun ds d => ∃ n m : Nat, ds = [dN n, dN m] ∧ d = .bool (decide (n < m))
theorem ok_is_index (F : FnP K "is_index" "is_index" HD.s_is_index f fd) (hm : mg "is_index" = some (.ref f)) (c_is_number : C8.Cal P w K mg base 2 "is_number" (spR K 1 R_is_number) []) : C8.Cal P w K mg base 3 "is_index" (spR K 2 R_is_index) [] := by
  refine calR F hm sc_is_index (F.bindsN fun _ _ _ _ _ _ us hl => match us, hl with | [_, _], _ => rfl) rfl fun cdv A outer s H vs Q E ds d hr hd hR hq => ?_
  obtain ⟨n, m, rfl, rfl⟩ := hR
  obtain ⟨v, r, rfl, h1, hd2⟩ := dpa_cons hd
  obtain ⟨u, r, rfl, h2, h3⟩ := dpa_cons hd2
  cases dpa_nil h3
  refine ⟨_, PSs.nox (pss_one (ps_ret (pe_and (pe_c c_is_number hr (by decide) rfl (pa_cons (pv 0) pa_nil)) (pe_one (pe_cmpR op_lt (pv 0) (pv 1) (nomark _)))))), ?_⟩
  refine s_retD (evd_bl (ev_is (ev_andV (a := true) (ev_bl (evd_callR (eda_cons (evd_var rfl h1) eda_nil) rfl ⟨n, rfl, rfl⟩)) fun _ => ev_op (ev_int (evd_var rfl h1)) (ev_int (evd_var rfl h2)) rv_I0) ?_)) hq
  simp
def R_is_row_of : List PyData → PyData → Prop := fun ds d => ∃ xs : List PyData, xs.length = 2 ∧ ds = [.tuple xs, .tuple [dN 2]] ∧ d = .bool true
theorem ok_is_row_of (F : FnP K "is_row_of" "is_row_of" HD.s_is_row_of f fd) (hm : mg "is_row_of" = some (.ref f)) : C8.Cal P w K mg base 1 "is_row_of" (spR K 2 R_is_row_of) [] := by
  refine calR F hm sc_is_row_of (F.bindsN fun _ _ _ _ _ _ us hl => match us, hl with | [_, _], _ => rfl) rfl fun cdv A outer s H vs Q E ds d hr hd hR hq => ?_
  obtain ⟨xs, hx, rfl, rfl⟩ := hR
  obtain ⟨v, r, rfl, h1, hd2⟩ := dpa_cons hd
  obtain ⟨u, r, rfl, h2, h3⟩ := dpa_cons hd2
  cases dpa_nil h3
  refine ⟨_, PSs.nox (pss_one (ps_ret (pe_and (pe_callB (cr_isiK K) rfl B.isinstance (by decide +kernel) (pa_cons (pv 0) (pa_cons (pe_bltn (v := .ty "tuple") (u := .type "tuple") rfl B.tuple (by decide +kernel) rfl) pa_nil))) (pe_one (pe_cmpR (op_inK K) (pe_callB (cr_lenK K) rfl B.len (by decide +kernel) (pa_cons (pv 0) pa_nil)) (pv 1) (by with_unfolding_all rfl)))))), ?_⟩
  refine s_retD (evd_bl (ev_is (ev_andV (a := true) (ty_tup "tuple" rfl (evd_var rfl h1)) fun _ => ev_inN (n := 2) (l := [2]) (evd_int (ev_is (ev_lenT (evd_var rfl h1)) (by rw [hx]))) (evd_var rfl h2)) ?_)) hq
  simp
def R_is_word_of : List PyData → PyData → Prop := fun ds d => ds = [.str "way", .tuple [.str "way", .str "ring"]] ∧ d = .bool true
theorem ok_is_word_of (F : FnP K "is_word_of" "is_word_of" HD.s_is_word_of f fd) (hm : mg "is_word_of" = some (.ref f)) : C8.Cal P w K mg base 1 "is_word_of" (spR K 2 R_is_word_of) [] := by
  refine calR F hm sc_is_word_of (F.bindsN fun _ _ _ _ _ _ us hl => match us, hl with | [_, _], _ => rfl) rfl fun cdv A outer s H vs Q E ds d hr hd hR hq => ?_
  obtain ⟨rfl, rfl⟩ := hR
  obtain ⟨v, r, rfl, h1, hd2⟩ := dpa_cons hd
  obtain ⟨u, r, rfl, h2, h3⟩ := dpa_cons hd2
  cases dpa_nil h3
  cases dp_str h1
  obtain ⟨a, xs, rfl, hs, hx⟩ := dp_tup h2
  obtain ⟨x1, r, rfl, k1, k2⟩ := dpa_cons hx
  obtain ⟨x2, r, rfl, k3, k4⟩ := dpa_cons k2
  cases dpa_nil k4
  cases dp_str k1
  cases dp_str k3
  refine ⟨_, PSs.nox (pss_one (ps_ret (pe_and (pe_callB (cr_isiK K) rfl B.isinstance (by decide +kernel) (pa_cons (pv 0) (pa_cons (pe_bltn (v := .ty "str") (u := .type "str") rfl B.str (by decide +kernel) rfl) pa_nil))) (pe_one (pe_cmpR (op_inK K) (pv 0) (pv 1) (by with_unfolding_all rfl)))))), ?_⟩
  refine s_retD (evd_bl (ev_is (ev_andV (a := true) (ty_str "way" "str" rfl (ev_var rfl)) fun _ => ev_op (ev_var rfl) (ev_var rfl) (rv_isT hs rfl rfl)) ?_)) hq
  decide
def R_served : List PyData → PyData → Prop := fun ds d => ∃ p : List Pr, p.length ≤ 1000 ∧ ds = [dPs p] ∧ d = dNs (srtN (verts p))
theorem ok_served (F : FnP K "served" "served" HD.s_served f fd) (hm : mg "served" = some (.ref f)) : C8.Cal P w K mg base 1 "served" (spR K 1 R_served) [] := by
  refine calR F hm sc_served (F.bindsN fun _ _ _ _ _ _ us hl => match us, hl with | [_], _ => rfl) rfl fun cdv A outer s H vs Q E ds d hr hd hR hq => ?_
  obtain ⟨p, hp, rfl, rfl⟩ := hR
  obtain ⟨v, r, rfl, h1, h2⟩ := dpa_cons hd
  cases dpa_nil h2
  refine ⟨_, PSs.nox (pss_one (ps_ret (pe_callTy (cr_tupK K) rfl B.tuple (by decide +kernel) (pa_cons (pe_callB (cr_sortK K hr) rfl B.sorted (by decide +kernel) (pa_cons (pe_lc2 (own := [("pair", 1), ("person", 2)]) (vs1 := [2]) rfl sc_served.nd  (k_tup K (pi_tup (pv 0))) (blkOk_by (N := N_served) (sc := defScope HD.s_served) (by decide +kernel)) (by decide) (fun _ _ _ _ _ => (pg_name (i := 1) sc_served.nd rfl (.inl rfl))) (fun _ _ _ _ _ => pts_nil) (fun _ _ _ _ _ => (k_tup K (pi_tup (pv 1)))) (fun _ _ _ _ _ => (pg_name (i := 2) sc_served.nd rfl (.inl rfl))) (fun _ _ _ _ _ => pts_nil) (fun _ _ _ _ _ => (pv 2))) pa_nil)) pa_nil)))), ?_⟩
  refine s_retD (evd_tupOf (evn_d (evn_sortN (.inl (evn_d (EvN.data (evnl_lc2 (l1 := fun e : Pr => [e.1, e.2]) (d := dN) (IvE.of_map (iv_tup (evd_var rfl h1))) ?_ tupD_N ?_) rfl)))))) hq
  · have := verts_len p
    exact sz_lt (by show (verts p).length < _; omega)
  · intro e x H1 he ex hx
    exact ⟨_, fun Q q => q, rfl, evd_var rfl hx, fun b y H3 hb hy => ⟨_, fun Q q => q, rfl, evd_var rfl hy⟩⟩
abbrev dO : Option Nat → PyData
  | some v => dN v
  | none => .none
def R_partner : List PyData → PyData → Prop := fun ds d => ∃ (p : List Pr) (v : Nat), p.length ≤ 1000 ∧ ds = [dPs p, dN v] ∧ d = dO (partF p v)
theorem ok_partner (F : FnP K "partner" "partner" HD.s_partner f fd) (hm : mg "partner" = some (.ref f)) : C8.Cal P w K mg base 1 "partner" (spR K 2 R_partner) [] := by
  refine calR F hm sc_partner (F.bindsN fun _ _ _ _ _ _ us hl => match us, hl with | [_, _], _ => rfl) rfl fun cdv A outer s H vs Q E ds d hr hd hR hq => ?_
  obtain ⟨p, n, hp, rfl, rfl⟩ := hR
  obtain ⟨v, r, rfl, h1, hd2⟩ := dpa_cons hd
  obtain ⟨u, r, rfl, h2, h3⟩ := dpa_cons hd2
  cases dpa_nil h3
  refine ⟨_, PSs.nox (pss_cons (ps_for PassesOwn.never rfl (k_tup K (pi_tup (pv 0))) (k_gtup K (pg_tup rfl (pgs_cons (pg_name (i := 2) sc_partner.nd rfl (.inl rfl)) (pgs_cons (pg_name (i := 3) sc_partner.nd rfl (.inl rfl)) pgs_nil)))) (pss_one (ps_if (pt_cmpR (op_inK K) (pv 1) (pe_tup (pa_cons (pv 2) (pa_cons (pv 3) pa_nil))) (by with_unfolding_all rfl)) (pss_one (ps_ret (pe_ifExp (pt_cmpR op_eq (pv 1) (pv 2) (nomark _)) (pv 3) (pv 2)))) pss_nil)))
    (pss_one (ps_ret pe_non))), ?_⟩
  refine s_forI (IvE.of_map (iv_tup (evd_var rfl h1))) (fun i σ1 H1 => (∃ a b, σ1 = [some v, some u, a, b]) ∧ ∀ e ∈ p.take i, ¬ (n = e.1 ∨ n = e.2)) ?_ ?_ ?_ ?_
  · intro H1 _
    exact ⟨⟨none, none, rfl⟩, by simp⟩
  · intro i σ1 H1 H2 _ h
    exact h
  · rintro i e x σ1 H1 Hb hi ex eb ⟨⟨a, b, rfl⟩, hno⟩ hx
    obtain ⟨y, z, hy, hz, k⟩ := g_two hx
    refine k _ ⟨y, [z], rfl, z, [], rfl, rfl, ?_⟩
    have hv := dp_mono ex h2
    cases dp_int hv
    cases dp_int hy
    cases dp_int hz
    refine s_if (b := decide (n = e.1 ∨ n = e.2)) (et_is (et_test (ev_inN (neg := false) (n := n) (l := [e.1, e.2]) (evd_int (ev_var rfl)) (evd_tup (eda_cons (evd_int (ev_var rfl)) (eda_cons (evd_int (ev_var rfl)) eda_nil)) (by show 2 ≤ 100000; decide)))) (by simp)) (fun ht H2 e2 => ?_) fun hf H2 e2 => ?_
    · have ht' : n = e.1 ∨ n = e.2 := by simpa using ht
      have hp' : partF p n = some (if n = e.1 then e.2 else e.1) := by
        unfold partF
        have : p.find? (fun e => decide (n = e.1 ∨ n = e.2)) = some e := by
          rw [List.find?_eq_some_iff_append]
          have hi' := List.getElem?_eq_some_iff.mp hi
          refine ⟨by simpa using ht, p.take i, p.drop (i + 1), ?_, fun a ha => by simpa using hno a ha⟩
          rw [← hi'.2, ← List.drop_eq_getElem_cons hi'.1, List.take_append_drop]
        rw [this]; rfl
      refine s_retD (d := dO (partF p n)) (evp_if (b := decide (n = e.1)) (et_is (et_test (ev_eqN (n := n) (m := e.1) (ev_var rfl) (ev_var rfl))) rfl) (fun hb => ?_) fun hb => ?_) fun w H3 e3 hw => hq w H3 ((ex.trans e2).trans e3) hw
      · rw [hp', if_pos (by simpa using hb)]
        exact evd_int (ev_var rfl)
      · rw [hp', if_neg (by simpa using hb)]
        exact evd_int (ev_var rfl)
    · refine ⟨eb.trans e2, ⟨_, _, rfl⟩, fun e' he' => ?_⟩
      rw [List.take_succ, hi] at he'
      rcases List.mem_append.mp he' with h | h
      · exact hno e' h
      · have : e' = e := by simpa using h
        rw [this]; simpa using hf
  · rintro σ1 H1 e1 ⟨⟨a, b, rfl⟩, hno⟩
    rw [List.take_length] at hno
    dsimp only
    refine s_retD (d := dO (partF p n)) ?_ (show RetD K _ H1 Q from fun w H3 e3 hw => hq w H3 (e1.trans e3) hw)
    have : partF p n = none := by
      rw [partF_none, mem_verts]
      rintro ⟨e, he, h⟩
      exact hno e he h
    rw [this]
    exact evd_non ev_c
end
end WK
/-! ### W2 -/
set_option Elab.async false
set_option linter.all false
set_option maxRecDepth 100000
set_option maxHeartbeats 4000000
/-! turns, neighbours, lesser webs -/
namespace WK
open PySem PySem.Spec PyProof.Rows L2 Evl DX DL KM C8
abbrev N_steps_of : List Str := ["turn", "people", "later", "pair"]
theorem sc_steps_of : FnScope N_steps_of ["turn"] (defScope HD.s_steps_of) := ⟨rfl, rfl, rfl, by decide +kernel, rfl, by decide +kernel, by decide +kernel⟩
abbrev N_neighbours : List Str := ["web", "person", "one", "other"]
theorem sc_neighbours : FnScope N_neighbours ["web", "person"] (defScope HD.s_neighbours) := ⟨rfl, rfl, rfl, by decide +kernel, rfl, by decide +kernel, by decide +kernel⟩
abbrev N_near_of : List Str := ["web", "person"]
theorem sc_near_of : FnScope N_near_of ["web"] (defScope HD.s_near_of) := ⟨rfl, rfl, rfl, by decide +kernel, rfl, by decide +kernel, by decide +kernel⟩
abbrev N_pairs_at : List Str := ["web", "lot", "pair"]
theorem sc_pairs_at : FnScope N_pairs_at ["web", "lot"] (defScope HD.s_pairs_at) := ⟨rfl, rfl, rfl, by decide +kernel, rfl, by decide +kernel, by decide +kernel⟩
abbrev N_less : List Str := ["web", "pairs", "pair"]
theorem sc_less : FnScope N_less ["web", "pairs"] (defScope HD.s_less) := ⟨rfl, rfl, rfl, by decide +kernel, rfl, by decide +kernel, by decide +kernel⟩
theorem zip_steps : ∀ l : List Nat, (l.zip l.tail).map (fun e => norm e.1 e.2) = steps l
  | [] => rfl
  | [a] => rfl
  | a :: b :: l => by
    have := zip_steps (b :: l)
    simp only [List.tail_cons] at this
    simp only [List.tail_cons, List.zip_cons_cons, List.map_cons, this, steps]
theorem cut_from (ds : List PyData) : DL.cutD ds (some 1) none = ds.tail := by
  unfold DL.cutD
  rw [show (some (1 : Int)) = some ((1 : Nat) : Int) from rfl, HT.sIx_nat, HT.sIx_none]
  cases ds with
  | nil => rfl
  | cons a l =>
    have e : min 1 (a :: l).length = 1 := by simp
    rw [e]
    simp
theorem cut_to (ds : List PyData) (k : Nat) : DL.cutD ds none (some (k : Int)) = ds.take k := by
  unfold DL.cutD
  rw [HT.sIx_nat, HT.sIx_none, Nat.sub_zero, List.drop_zero]
  by_cases h : k ≤ ds.length
  · rw [Nat.min_eq_left h]
  · rw [Nat.min_eq_right (by omega), List.take_length, List.take_of_length_le (by omega)]
theorem tail_dN (l : List Nat) : (l.map dN).tail = l.tail.map dN := by cases l <;> rfl
section
variable {P : Program} {w : World} {K : PySem.W.Frag} {mg : Str → Option Value} {base : Heap} {f : Addr} {fd : FuncData} (B : BI mg)
include B
def R_steps_of : List PyData → PyData → Prop := fun ds d => ∃ l : List Nat, l.length ≤ 1000 ∧ ds = [.tuple [.str "way", dNs l]] ∧ d = .list ((steps l).map dP)
theorem ok_steps_of (F : FnP K "steps_of" "steps_of" HD.s_steps_of f fd) (hm : mg "steps_of" = some (.ref f)) : C8.Cal P w K mg base 1 "steps_of" (spR K 1 R_steps_of) [] := by
  refine calR F hm sc_steps_of (F.bindsN fun _ _ _ _ _ _ us hl => match us, hl with | [_], _ => rfl) rfl fun cdv A outer s H vs Q E ds d hr hd hR hq => ?_
  obtain ⟨l, hl, rfl, rfl⟩ := hR
  obtain ⟨v, r, rfl, h1, h2⟩ := dpa_cons hd
  cases dpa_nil h2
  refine ⟨_, PSs.nox (pss_cons (ps_set (i := 1) sc_steps_of.nd rfl (.inl rfl) (pe_ix (ix_tupK K) (pv 0) pe_int (fun _ _ => rfl)))
    (pss_cons (ps_set (i := 2) sc_steps_of.nd rfl (.inl rfl) (pe_op (op_catK K) (pe_slice (sl_tupK K) (pv 1) (po_some pe_int) po_none) (pe_ifExp (pt_cmpR op_eq (pe_ix (ix_tupK K) (pv 0) pe_int (fun _ _ => rfl)) pe_str (nomark _)) (pe_slice (sl_tupK K) (pv 1) po_none (po_some pe_int)) (pe_tup pa_nil))))
    (pss_one (ps_ret (pe_lc (own := [("pair", 3)]) rfl sc_steps_of.nd  (k_zipN K (pi_zipN rfl B.zip (pa_cons (pv 1) (pa_cons (pv 2) pa_nil)))) (blkOk_by (N := N_steps_of) (sc := defScope HD.s_steps_of) (by decide +kernel)) (fun _ _ _ _ _ => (pg_name (i := 3) sc_steps_of.nd rfl (.inl rfl))) (fun _ _ _ _ _ => pts_nil) (fun _ _ _ _ _ => (pe_tup (pa_cons (pe_callB (cr_minK' K rfl hr) rfl B.min (by decide +kernel) (pa_cons (pv 3) pa_nil)) (pa_cons (pe_callB (cr_maxK K rfl hr) rfl B.max (by decide +kernel) (pa_cons (pv 3) pa_nil)) pa_nil))))))))), ?_⟩
  refine q_asgP (evd_ixT (i := 1) (evd_var rfl h1) ev_c rfl) fun a H1 e1 ha => ?_
  have h1' := dp_mono e1 h1
  refine q_asgP (P := fun v H => Dp K H v (dNs l.tail)) (evd_is (evd_catA (ds := l.tail.map dN) (es := []) ?_ (evp_if (b := false) ?_ (fun h => (by cases h)) fun _ => evd_tup eda_nil (by decide)) ?_) (by simp)) fun b H2 e2 hb => ?_
  · refine evd_is (evd_slA (lo := some 1) (hi := none) (evd_var rfl ha) (eo_some ev_c) eo_none) ?_
    rw [cut_from, tail_dN]
  · exact et_test (ev_is (ev_op (ev_str (K := K) (evd_ixT (i := 0) (evd_var rfl h1') ev_c rfl)) ev_c (rv_eq rfl)) (by decide))
  · simp; omega
  · refine s_retD (evn_d (EvN.data (evnl_lc0 (d := fun e : Nat × Nat => dP (norm e.1 e.2)) (l := l.zip l.tail) (R := fun e v H => Dp K H v (.tuple [dN e.1, dN e.2])) ?_ ?_ ?_ ?_) ?_)) fun v3 H3 e3 h3 => hq v3 H3 ((e1.trans e2).trans e3) h3
    · have := iv_zipN (K := K) (σ := [some v, some a, some b, none]) (H := H2) (evd_var (i := 1) rfl (dp_mono e2 ha)) (evd_var (i := 2) rfl hb)
      rw [List.zip_map] at this
      exact this.of_map
    · refine sz_of ?_
      simp; omega
    · intro e
      exact tupD_P _
    · intro e x H3 _ e3 hx
      exact ⟨_, fun Q q => q, rfl, evd_tup (eda_cons (evd_min2 (.inl (evd_var rfl hx))) (eda_cons (evd_max2 (.inl (evd_var rfl hx))) eda_nil)) (by show 2 ≤ 100000; decide)⟩
    · rw [← zip_steps, List.map_map]; rfl

def nbrs (ps : List Pr) (v : Nat) : List Nat := (ps.filter fun e => decide (v = e.1 ∨ v = e.2)).map fun e => if e.2 = v then e.1 else e.2
omit B in
theorem et_inL {te : TE} {σ : L2.St} {H : Hp} {n : Nat} {l : List Nat} (ha : Ev te σ H (.int (n : Int))) {tb : TE} (hb : EvD K tb σ H (dNs l)) : EvT (tTest (tOp (rIn K false) te tb)) σ H (decide (n ∈ l)) := et_test (ev_inN (neg := false) (evd_int ha) hb)
def R_neighbours : List PyData → PyData → Prop := fun ds d => ∃ n ps v, ps.length ≤ 1000 ∧ ds = [dW n ps, dN v] ∧ d = dNs (nbrs ps v)
theorem ok_neighbours (F : FnP K "neighbours" "neighbours" HD.s_neighbours f fd) (hm : mg "neighbours" = some (.ref f)) : C8.Cal P w K mg base 1 "neighbours" (spR K 2 R_neighbours) [] := by
  refine calR F hm sc_neighbours (F.bindsN fun _ _ _ _ _ _ us hl => match us, hl with | [_, _], _ => rfl) rfl fun cdv A outer s H vs Q E ds d hr hd hR hq => ?_
  obtain ⟨n, ps, p, hl, rfl, rfl⟩ := hR
  obtain ⟨v, r, rfl, h1, hd2⟩ := dpa_cons hd
  obtain ⟨u, r, rfl, h2, h3⟩ := dpa_cons hd2
  cases dpa_nil h3
  cases dp_int h2
  refine ⟨_, PSs.nox (pss_one (ps_ret (pe_callTy (cr_tupK K) rfl B.tuple (by decide +kernel) (pa_cons (pe_lc (own := [("one", 2), ("other", 3)]) rfl sc_neighbours.nd  (k_tup K (pi_tup (pe_ix (ix_tupK K) (pv 0) pe_int (fun _ _ => rfl)))) (blkOk_by (N := N_neighbours) (sc := defScope HD.s_neighbours) (by decide +kernel)) (fun _ _ _ _ _ => (k_gtup K (pg_tup (n := 2) rfl (pgs_cons (pg_name (i := 2) sc_neighbours.nd rfl (.inl rfl)) (pgs_cons (pg_name (i := 3) sc_neighbours.nd rfl (.inl rfl)) pgs_nil))))) (fun _ _ _ _ _ => (pts_one (pt_cmpR (op_inK K) (pv 1) (pe_tup (pa_cons (pv 2) (pa_cons (pv 3) pa_nil))) (by with_unfolding_all rfl)))) (fun _ _ _ _ _ => (pe_ifExp (pt_cmpR op_eq (pv 3) (pv 1) (nomark _)) (pv 2) (pv 3)))) pa_nil)))), ?_⟩
  refine s_retD (evd_tupOf (evn_d (EvN.data (evnl_lc (p := fun e : Pr => decide (p = e.1 ∨ p = e.2)) (d := fun e : Pr => dN (if e.2 = p then e.1 else e.2)) (IvE.of_map (iv_tup (evd_ixT (i := 1) (evd_var rfl h1) ev_c rfl))) (sz_of (by omega)) (fun _ => tupD_N _) fun e x H1 he ex hx => ?_) (by rw [nbrs, List.map_map]; rfl)))) hq
  obtain ⟨y, z, hy, hz, k⟩ := g_two hx
  cases dp_int hy
  cases dp_int hz
  refine ⟨_, fun Q q => k Q ⟨_, [_], rfl, _, [], rfl, rfl, q⟩, rfl, et_is (et_inL (n := p) (l := [e.1, e.2]) (ev_var rfl) (evd_tup (eda_cons (evd_int (ev_var rfl)) (eda_cons (evd_int (ev_var rfl)) eda_nil)) (by show 2 ≤ 100000; decide))) (by simp), fun _ => ?_⟩
  refine evp_if (b := decide (e.2 = p)) (et_test (ev_eqN (ev_var rfl) (ev_var rfl))) (fun hb => ?_) fun hb => ?_
  · rw [if_pos (by simpa using hb)]; exact evd_int (ev_var rfl)
  · rw [if_neg (by simpa using hb)]; exact evd_int (ev_var rfl)
def R_near_of : List PyData → PyData → Prop := fun ds d => ∃ n ps, n ≤ 1000 ∧ ps.length ≤ 1000 ∧ ds = [dW n ps] ∧ d = .list ((List.range n).map fun v => dNs (nbrs ps v))
theorem ok_near_of (F : FnP K "near_of" "near_of" HD.s_near_of f fd) (hm : mg "near_of" = some (.ref f)) (c_neighbours : C8.Cal P w K mg base 1 "neighbours" (spR K 2 R_neighbours) []) : C8.Cal P w K mg base 2 "near_of" (spR K 1 R_near_of) [] := by
  refine calR F hm sc_near_of (F.bindsN fun _ _ _ _ _ _ us hl => match us, hl with | [_], _ => rfl) rfl fun cdv A outer s H vs Q E ds d hr hd hR hq => ?_
  obtain ⟨n, ps, hn, hl, rfl, rfl⟩ := hR
  obtain ⟨v, r, rfl, h1, h2⟩ := dpa_cons hd
  cases dpa_nil h2
  refine ⟨_, PSs.nox (pss_one (ps_ret (pe_lc (own := [("person", 1)]) rfl sc_near_of.nd  (pi_range1 rfl B.range (pa_cons (pe_ix (ix_tupK K) (pv 0) pe_int (fun _ _ => rfl)) pa_nil)) (blkOk_by (N := N_near_of) (sc := defScope HD.s_near_of) (by decide +kernel)) (fun _ _ _ _ _ => (pg_name (i := 1) sc_near_of.nd rfl (.inl rfl))) (fun _ _ _ _ _ => pts_nil) (fun _ _ _ _ _ => (pe_c c_neighbours hr (by decide) rfl (pa_cons (pv 0) (pa_cons (pv 1) pa_nil))))))), ?_⟩
  refine s_retD (evn_d (evnl_lc0 (iv_rng (n := n) (ev_int (evd_ixT (i := 0) (evd_var rfl h1) ev_c rfl)) (by omega)) (sz_of (by simp; omega)) (fun _ => tupD_Ns _) fun e x H1 he ex hx => ?_)) hq
  subst hx
  exact ⟨_, fun Q q => q, rfl, evd_callR (ds := [dW n ps, dN e]) (eda_cons (evd_var rfl (dp_mono ex h1)) (eda_cons (evd_int (ev_var rfl)) eda_nil)) rfl ⟨n, ps, e, hl, rfl, rfl⟩⟩
def R_pairs_at : List PyData → PyData → Prop := fun ds d => ∃ n ps l, ps.length ≤ 1000 ∧ ds = [dW n ps, dNs l] ∧ d = dPs (ps.filter fun e => decide (e.1 ∈ l) || decide (e.2 ∈ l))
theorem ok_pairs_at (F : FnP K "pairs_at" "pairs_at" HD.s_pairs_at f fd) (hm : mg "pairs_at" = some (.ref f)) : C8.Cal P w K mg base 1 "pairs_at" (spR K 2 R_pairs_at) [] := by
  refine calR F hm sc_pairs_at (F.bindsN fun _ _ _ _ _ _ us hl => match us, hl with | [_, _], _ => rfl) rfl fun cdv A outer s H vs Q E ds d hr hd hR hq => ?_
  obtain ⟨n, ps, l, hl, rfl, rfl⟩ := hR
  obtain ⟨v, r, rfl, h1, hd2⟩ := dpa_cons hd
  obtain ⟨u, r, rfl, h2, h3⟩ := dpa_cons hd2
  cases dpa_nil h3
  refine ⟨_, PSs.nox (pss_one (ps_ret (pe_callTy (cr_tupK K) rfl B.tuple (by decide +kernel) (pa_cons (pe_lc (own := [("pair", 2)]) rfl sc_pairs_at.nd  (k_tup K (pi_tup (pe_ix (ix_tupK K) (pv 0) pe_int (fun _ _ => rfl)))) (blkOk_by (N := N_pairs_at) (sc := defScope HD.s_pairs_at) (by decide +kernel)) (fun _ _ _ _ _ => (pg_name (i := 2) sc_pairs_at.nd rfl (.inl rfl))) (fun _ _ _ _ _ => (pts_one (PW.pt (pw_or (pt_cmpR (op_inK K) (pe_ix (ix_tupK K) (pv 2) pe_int (fun _ _ => rfl)) (pv 1) (by with_unfolding_all rfl)) (pw_or1 (pt_cmpR (op_inK K) (pe_ix (ix_tupK K) (pv 2) pe_int (fun _ _ => rfl)) (pv 1) (by with_unfolding_all rfl))))))) (fun _ _ _ _ _ => (pv 2))) pa_nil)))), ?_⟩
  refine s_retD (evd_tupOf (evn_d (evnl_lc (p := fun e : Pr => decide (e.1 ∈ l) || decide (e.2 ∈ l)) (d := dP) (IvE.of_map (iv_tup (evd_ixT (i := 1) (evd_var rfl h1) ev_c rfl))) (sz_of (by omega)) (fun _ => tupD_P _) fun e x H1 he ex hx => ?_))) hq
  exact ⟨_, fun Q q => q, rfl, et_or (et_inL (ev_int (evd_ixT (K := K) (ds := [dN e.1, dN e.2]) (i := 0) (evd_var rfl hx) ev_c rfl)) (evd_var rfl (dp_mono ex h2))) fun _ => et_inL (ev_int (evd_ixT (K := K) (ds := [dN e.1, dN e.2]) (i := 1) (evd_var rfl hx) ev_c rfl)) (evd_var rfl (dp_mono ex h2)), fun _ => evd_var rfl hx⟩
omit B in
theorem et_ninP {te : TE} {σ : L2.St} {H : Hp} {n : Pr} {l : List Pr} (ha : EvD K te σ H (dP n)) {tb : TE} (hb : EvD K tb σ H (dPs l)) : EvT (tTest (tOp (rInT K true) te tb)) σ H (!decide (n ∈ l)) := et_test (ev_is (ev_inT (neg := true) ha hb (shaped_P _) (shaped_Ps _)) (by
  rw [any_P]; rfl))
omit B in
theorem et_inP {te : TE} {σ : L2.St} {H : Hp} {n : Pr} {l : List Pr} (ha : EvD K te σ H (dP n)) {tb : TE} (hb : EvD K tb σ H (dPs l)) : Ev (tOp (rInT K false) te tb) σ H (.bl (decide (n ∈ l))) := (ev_is (ev_inT (neg := false) ha hb (shaped_P _) (shaped_Ps _)) (by
  rw [any_P]; rfl))
def R_less : List PyData → PyData → Prop := fun ds d => ∃ n ps qs, ps.length ≤ 1000 ∧ ds = [dW n ps, dPs qs] ∧ d = dW n (ps.filter fun e => !decide (e ∈ qs))
theorem ok_less (F : FnP K "less" "less" HD.s_less f fd) (hm : mg "less" = some (.ref f)) : C8.Cal P w K mg base 1 "less" (spR K 2 R_less) [] := by
  refine calR F hm sc_less (F.bindsN fun _ _ _ _ _ _ us hl => match us, hl with | [_, _], _ => rfl) rfl fun cdv A outer s H vs Q E ds d hr hd hR hq => ?_
  obtain ⟨n, ps, qs, hl, rfl, rfl⟩ := hR
  obtain ⟨v, r, rfl, h1, hd2⟩ := dpa_cons hd
  obtain ⟨u, r, rfl, h2, h3⟩ := dpa_cons hd2
  cases dpa_nil h3
  refine ⟨_, PSs.nox (pss_one (ps_ret (pe_tup (pa_cons (pe_ix (ix_tupK K) (pv 0) pe_int (fun _ _ => rfl)) (pa_cons (pe_callTy (cr_tupK K) rfl B.tuple (by decide +kernel) (pa_cons (pe_lc (own := [("pair", 2)]) rfl sc_less.nd  (k_tup K (pi_tup (pe_ix (ix_tupK K) (pv 0) pe_int (fun _ _ => rfl)))) (blkOk_by (N := N_less) (sc := defScope HD.s_less) (by decide +kernel)) (fun _ _ _ _ _ => (pg_name (i := 2) sc_less.nd rfl (.inl rfl))) (fun _ _ _ _ _ => (pts_one (pt_cmpR (op_ninTK K hr) (pv 2) (pv 1) (by with_unfolding_all rfl)))) (fun _ _ _ _ _ => (pv 2))) pa_nil)) pa_nil))))), ?_⟩
  refine s_retD (evd_tup (eda_cons (evd_ixT (i := 0) (evd_var rfl h1) ev_c rfl) (eda_cons (evd_tupOf (evn_d (evnl_lc (p := fun e : Pr => !decide (e ∈ qs)) (d := dP) (IvE.of_map (iv_tup (evd_ixT (i := 1) (evd_var rfl h1) ev_c rfl))) (sz_of (by omega)) (fun _ => tupD_P _) fun e x H1 he ex hx => ?_))) eda_nil)) (by show 2 ≤ 100000; decide)) hq
  exact ⟨_, fun Q q => q, rfl, et_ninP (evd_var rfl hx) (evd_var rfl (dp_mono ex h2)), fun _ => evd_var rfl hx⟩
end
end WK
/-! ### W3 -/
set_option Elab.async false
set_option linter.all false
set_option maxRecDepth 100000
set_option maxHeartbeats 4000000
/-! a way told as a turn, and the plan it turns into -/
namespace WK
open PySem PySem.Spec PyProof.Rows L2 Evl DX DL KM C8
abbrev N_are_people : List Str := ["web", "value", "least", "one"]
theorem sc_are_people : FnScope N_are_people ["web", "value", "least"] (defScope HD.s_are_people) := ⟨rfl, rfl, rfl, by decide +kernel, rfl, by decide +kernel, by decide +kernel⟩
abbrev N_is_turn : List Str := ["web", "plan", "value", "steps", "told", "known", "step", "at"]
theorem sc_is_turn : FnScope N_is_turn ["web", "plan", "value"] (defScope HD.s_is_turn) := ⟨rfl, rfl, rfl, by decide +kernel, rfl, by decide +kernel, by decide +kernel⟩
abbrev N_turned : List Str := ["web", "plan", "turn", "steps", "pair", "step"]
theorem sc_turned : FnScope N_turned ["web", "plan", "turn"] (defScope HD.s_turned) := ⟨rfl, rfl, rfl, by decide +kernel, rfl, by decide +kernel, by decide +kernel⟩
structure TurnOk (n : Nat) (ps p : List Pr) (l : List Nat) : Prop where
  n1 : n ≤ 1000
  n2 : ps.length ≤ 1000
  n3 : p.length ≤ 1000
  l2 : 2 ≤ l.length
  l64 : l.length < 64
  nd : l.Nodup
  lt : ∀ v ∈ l, v < n
  sub : ∀ e ∈ steps l, e ∈ ps
  alt : (steps l).map (fun e => decide (e ∈ p)) = altn (l.length - 1)
  first : ∀ v, l[0]? = some v → v ∉ verts p
  last : (l.length - 1) % 2 = 1 → ∀ v, l[l.length - 1]? = some v → v ∉ verts p
/-- the words of a turn -/
structure Kinds (K : PySem.W.Frag) (mg : Str → Option Value) (a : Addr) : Prop where
  g : ∃ u, mg "KINDS" = some u ∧ RelV (.ref a) u
  d : ∀ H, Dp K H (.ref a) (.tuple [.str "way", .str "ring"])
theorem len_map_dN (l : List Nat) : (l.map dN).length = l.length := List.length_map ..
theorem altn_at {k i : Nat} (h : i < k) : (altn k)[i]? = some (i % 2 == 1) := by
  unfold altn
  rw [List.getElem?_map, List.getElem?_range h]; rfl
section
variable {P : Program} {w : World} {K : PySem.W.Frag} {mg : Str → Option Value} {base : Heap} {f : Addr} {fd : FuncData} (B : BI mg)
include B
def R_are_people : List PyData → PyData → Prop := fun ds d => ∃ n ps l, 2 ≤ l.length ∧ l.length < 64 ∧ l.Nodup ∧ (∀ v ∈ l, v < n) ∧ ds = [dW n ps, dNs l, dN 2] ∧ d = .bool true
theorem ok_are_people (F : FnP K "are_people" "are_people" HD.s_are_people f fd) (hm : mg "are_people" = some (.ref f)) (c_is_index : C8.Cal P w K mg base 3 "is_index" (spR K 2 R_is_index) []) : C8.Cal P w K mg base 4 "are_people" (spR K 3 R_are_people) [] := by
  refine calR F hm sc_are_people (F.bindsN fun _ _ _ _ _ _ us hl => match us, hl with | [_, _, _], _ => rfl) rfl fun cdv A outer s H vs Q E ds d hr hd hR hq => ?_
  obtain ⟨n, ps, l, l2, l64, nd, lt, rfl, rfl⟩ := hR
  obtain ⟨v, r, rfl, h1, hd2⟩ := dpa_cons hd
  obtain ⟨u, r, rfl, h2, hd3⟩ := dpa_cons hd2
  obtain ⟨x, r, rfl, h3, h4⟩ := dpa_cons hd3
  cases dpa_nil h4
  cases dp_int h3
  refine ⟨_, PSs.nox (pss_cons (ps_if (PW.pt (pw_or (pt_not (pt_val (pe_callB (cr_isiK K) rfl B.isinstance (by decide +kernel) (pa_cons (pv 1) (pa_cons (pe_bltn (v := .ty "tuple") (u := .type "tuple") rfl B.tuple (by decide +kernel) rfl) pa_nil))))) (pw_or (pt_cmpR op_lt (pe_callB (cr_lenK K) rfl B.len (by decide +kernel) (pa_cons (pv 1) pa_nil)) (pv 2) (nomark _)) (pw_or1 (pt_not (pt_val (pe_callB (cr_allK K rfl) rfl B.all (by decide +kernel) (pa_cons (pe_lc (own := [("one", 3)]) rfl sc_are_people.nd  (k_tup K (pi_tup (pv 1))) (blkOk_by (N := N_are_people) (sc := defScope HD.s_are_people) (by decide +kernel)) (fun _ _ _ _ _ => (pg_name (i := 3) sc_are_people.nd rfl (.inl rfl))) (fun _ _ _ _ _ => pts_nil) (fun _ _ _ _ _ => (pe_c c_is_index hr (by decide) rfl (pa_cons (pv 3) (pa_cons (pe_ix (ix_tupK K) (pv 0) pe_int (fun _ _ => rfl)) pa_nil))))) pa_nil)))))))) (pss_one (ps_ret pe_bl)) pss_nil)
    (pss_one (ps_ret (pe_cmpR op_eq (k_lens K (pe_lenSetT rfl rfl B.len rfl B.set (pv 1))) (pe_callB (cr_lenK K) rfl B.len (by decide +kernel) (pa_cons (pv 1) pa_nil)) (nomark _))))), ?_⟩
  refine q_ifN (et_is (et_or (a := false) (et_not (a := true) ?_) fun _ => et_or (a := false) (b := false) ?_ fun _ => ?_) rfl) fun H1 e1 => ?_
  · exact et_B (ty_tup "tuple" rfl (evd_var rfl h2))
  · refine et_is (et_test (ev_op (ev_is (ev_lenT (evd_var rfl h2)) (by rw [len_map_dN])) (ev_var rfl) rv_I0)) ?_
    simp; omega
  · refine et_not (a := true) (et_B (ev_is (ev_allB (l := l.map fun v => decide (v < n)) (evn_d (EvN.data (evnl_lc0 (d := fun v : Nat => PyData.bool (decide (v < n))) (IvE.of_map (iv_tup (evd_var rfl h2))) (sz_of (by omega)) (fun _ => rfl) fun e y H1 he ex hx => ?_) (by rw [List.map_map]; rfl)))) ?_))
    · exact ⟨_, fun Q q => q, rfl, evd_callR (ds := [dN e, dN n]) (eda_cons (evd_var rfl hx) (eda_cons (evd_ixT (i := 0) (evd_var rfl (dp_mono ex h1)) ev_c rfl) eda_nil)) rfl ⟨e, n, rfl, rfl⟩⟩
    · congr 1
      simpa using lt
  · refine s_retQ ?_ hq e1
    refine evd_bl (ev_is (ev_eqN (n := l.length) (m := l.length) ?_ ?_) (by simp))
    · intro H2 e2 Q q
      refine ⟨u, rfl, ?_⟩
      obtain ⟨a, ev, hs⟩ := dp_Ns (dp_mono (e1.trans e2) h2)
      refine ⟨a, l.map (fun v : Nat => (v : Int)), ev, by rw [List.map_map]; exact hs, by simpa using l64, ?_, ?_⟩
      · unfold List.Nodup
        rw [List.pairwise_map]
        exact nd.imp fun h => by omega
      · rw [List.length_map]; exact q H2 (Ex.refl _)
    · exact ev_is (ev_lenT (evd_var rfl (dp_mono e1 h2))) (by rw [len_map_dN])

def R_is_turn : List PyData → PyData → Prop := fun ds d => ∃ n ps p l, TurnOk n ps p l ∧ ds = [dW n ps, dPs p, .tuple [.str "way", dNs l]] ∧ d = .bool true
theorem ok_is_turn {aK : Addr} (kd : Kinds K mg aK) (F : FnP K "is_turn" "is_turn" HD.s_is_turn f fd) (hm : mg "is_turn" = some (.ref f)) (c_is_row_of : C8.Cal P w K mg base 1 "is_row_of" (spR K 2 R_is_row_of) [])
    (c_is_word_of : C8.Cal P w K mg base 1 "is_word_of" (spR K 2 R_is_word_of) []) (c_are_people : C8.Cal P w K mg base 4 "are_people" (spR K 3 R_are_people) [])
    (c_steps_of : C8.Cal P w K mg base 1 "steps_of" (spR K 1 R_steps_of) []) (c_served : C8.Cal P w K mg base 1 "served" (spR K 1 R_served) []) : C8.Cal P w K mg base 5 "is_turn" (spR K 3 R_is_turn) [] := by
  refine calR F hm sc_is_turn (F.bindsN fun _ _ _ _ _ _ us hl => match us, hl with | [_, _, _], _ => rfl) rfl fun cdv A outer s H vs Q E ds d hr hd hR hq => ?_
  obtain ⟨n, ps, p, l, T, rfl, rfl⟩ := hR
  obtain ⟨v, r, rfl, h1, hd2⟩ := dpa_cons hd
  obtain ⟨u, r, rfl, h2, hd3⟩ := dpa_cons hd2
  obtain ⟨x, r, rfl, h3, h4⟩ := dpa_cons hd3
  cases dpa_nil h4
  have g_KINDS := kd.g
  refine ⟨_, PSs.nox (pss_cons (ps_if (PW.pt (pw_or (pt_not (pt_val (pe_c c_is_row_of hr (by decide) rfl (pa_cons (pv 2) (pa_cons (pe_tup (pa_cons pe_int pa_nil)) pa_nil))))) (pw_or1 (pt_not (pt_val (pe_c c_is_word_of hr (by decide) rfl (pa_cons (pe_ix (ix_tupK K) (pv 2) pe_int (fun _ _ => rfl)) (pa_cons (pe_gc rfl g_KINDS) pa_nil)))))))) (pss_one (ps_ret pe_bl)) pss_nil)
    (pss_cons (ps_if (pt_not (pt_val (pe_c c_are_people hr (by decide) rfl (pa_cons (pv 0) (pa_cons (pe_ix (ix_tupK K) (pv 2) pe_int (fun _ _ => rfl)) (pa_cons (pe_ifExp (pt_cmpR op_eq (pe_ix (ix_tupK K) (pv 2) pe_int (fun _ _ => rfl)) pe_str (nomark _)) pe_int pe_int) pa_nil)))))) (pss_one (ps_ret pe_bl)) pss_nil)
    (pss_cons (ps_set (i := 3) sc_is_turn.nd rfl (.inl rfl) (pe_c c_steps_of hr (by decide) rfl (pa_cons (pv 2) pa_nil)))
    (pss_cons (ps_set (i := 4) sc_is_turn.nd rfl (.inr rfl) (pe_lc (own := [("step", 6)]) rfl sc_is_turn.nd  (k_list K (pi_list (pv 3))) (blkOk_by (N := N_is_turn) (sc := defScope HD.s_is_turn) (by decide +kernel)) (fun _ _ _ _ _ => (pg_name (i := 6) sc_is_turn.nd rfl (.inl rfl))) (fun _ _ _ _ _ => pts_nil) (fun _ _ _ _ _ => (pe_cmpR (op_inTK K hr) (pv 6) (pv 1) (by with_unfolding_all rfl)))))
    (pss_cons (ps_if (PW.pt (pw_or (pt_not (pt_val (pe_callB (cr_allK K rfl) rfl B.all (by decide +kernel) (pa_cons (pe_lc (own := [("step", 6)]) rfl sc_is_turn.nd  (k_list K (pi_list (pv 3))) (blkOk_by (N := N_is_turn) (sc := defScope HD.s_is_turn) (by decide +kernel)) (fun _ _ _ _ _ => (pg_name (i := 6) sc_is_turn.nd rfl (.inl rfl))) (fun _ _ _ _ _ => pts_nil) (fun _ _ _ _ _ => (pe_cmpR (op_inTK K hr) (pv 6) (pe_ix (ix_tupK K) (pv 0) pe_int (fun _ _ => rfl)) (by with_unfolding_all rfl)))) pa_nil)))) (pw_or1 (pt_val (pe_callB (cr_anyK K rfl) rfl B.any (by decide +kernel) (pa_cons (pe_lc (own := [("at", 7)]) rfl sc_is_turn.nd  (pi_range1 rfl B.range (pa_cons (pe_op op_sub (pe_callB (cr_lenK K) rfl B.len (by decide +kernel) (pa_cons (pv 4) pa_nil)) pe_int) pa_nil)) (blkOk_by (N := N_is_turn) (sc := defScope HD.s_is_turn) (by decide +kernel)) (fun _ _ _ _ _ => (pg_name (i := 7) sc_is_turn.nd rfl (.inl rfl))) (fun _ _ _ _ _ => pts_nil) (fun _ _ _ _ _ => (pe_cmpR op_eq (pe_ix (ix_lstK K) (pv 4) (pv 7) (fun _ _ => rfl)) (pe_ix (ix_lstK K) (pv 4) (pe_op op_add (pv 7) pe_int) (fun _ _ => rfl)) (nomark _)))) pa_nil)))))) (pss_one (ps_ret pe_bl)) pss_nil)
    (pss_cons (ps_if (pt_cmpR op_eq (pe_ix (ix_tupK K) (pv 2) pe_int (fun _ _ => rfl)) pe_str (nomark _)) (pss_one (ps_ret (pe_cmpR op_ne (pe_ix (ix_lstK K) (pv 4) pe_int (fun _ _ => rfl)) (pe_ix (ix_lstK K) (pv 4) (pe_un un_neg pe_int) (fun _ _ => rfl)) (nomark _)))) pss_nil)
    (pss_cons (ps_set (i := 5) sc_is_turn.nd rfl (.inl rfl) (pe_c c_served hr (by decide) rfl (pa_cons (pv 1) pa_nil)))
    (pss_one (ps_ret (pe_and (pe_or (pe_ix (ix_lstK K) (pv 4) pe_int (fun _ _ => rfl)) (pe_one (pe_cmpR (op_ninK K) (pe_ix (ix_tupK K) (pe_ix (ix_tupK K) (pv 2) pe_int (fun _ _ => rfl)) pe_int (fun _ _ => rfl)) (pv 5) (by with_unfolding_all rfl)))) (pe_one (pe_or (pe_ix (ix_lstK K) (pv 4) (pe_un un_neg pe_int) (fun _ _ => rfl)) (pe_one (pe_cmpR (op_ninK K) (pe_ix (ix_tupK K) (pe_ix (ix_tupK K) (pv 2) pe_int (fun _ _ => rfl)) (pe_un un_neg pe_int) (fun _ _ => rfl)) (pv 5) (by with_unfolding_all rfl))))))))))))))), ?_⟩
  have hsl : (steps l).length = l.length - 1 := steps_len l
  refine q_ifN (et_is (et_or (a := false) (b := false) (et_not (a := true) ?_) fun _ => et_not (a := true) ?_) rfl) fun H1 e1 => ?_
  · exact et_B (ev_bl (evd_callR (ds := [.tuple [.str "way", dNs l], .tuple [dN 2]]) (eda_cons (evd_var rfl h3) (eda_cons (evd_tup (eda_cons (evd_int ev_c) eda_nil) (by show 1 ≤ 100000; decide)) eda_nil)) rfl ⟨_, rfl, rfl, rfl⟩))
  · exact et_B (ev_bl (evd_callR (ds := [.str "way", .tuple [.str "way", .str "ring"]]) (eda_cons (evd_ixT (i := 0) (evd_var rfl h3) ev_c rfl) (eda_cons (evd_of ev_c fun H2 _ => kd.d H2) eda_nil)) rfl ⟨rfl, rfl⟩))
  have k1 := dp_mono e1 h1
  have k2 := dp_mono e1 h2
  have k3 := dp_mono e1 h3
  refine q_ifN (et_is (et_not (a := true) ?_) rfl) fun H2 e2 => ?_
  · refine et_B (ev_bl (evd_callR (ds := [dW n ps, dNs l, dN 2]) (eda_cons (evd_var rfl k1) (eda_cons (evd_ixT (i := 1) (evd_var rfl k3) ev_c rfl) (eda_cons (evp_if (b := true) ?_ (fun _ => evd_int ev_c) fun h => (by cases h)) eda_nil))) rfl ⟨n, ps, l, T.l2, T.l64, T.nd, T.lt, rfl, rfl⟩))
    exact et_test (ev_is (ev_op (ev_str (K := K) (evd_ixT (i := 0) (evd_var rfl k3) ev_c rfl)) ev_c (rv_eq rfl)) (by decide))
  have m1 := dp_mono e2 k1
  have m2 := dp_mono e2 k2
  have m3 := dp_mono e2 k3
  refine q_asgP (evd_callR (ds := [.tuple [.str "way", dNs l]]) (eda_cons (evd_var rfl m3) eda_nil) rfl ⟨l, by have := T.l64; omega, rfl, rfl⟩) fun a H3 e3 ha => ?_
  have m2' := dp_mono e3 m2
  refine q_asgP (P := fun v H => Dp K H v (.list ((altn (l.length - 1)).map PyData.bool))) (evn_d (EvN.data (evnl_lc0 (d := fun e : Pr => PyData.bool (decide (e ∈ p))) (IvE.of_map (iv_lst (evd_var rfl ha))) (sz_of (by have := T.l64; omega)) (fun _ => rfl) fun e y H4 he ex hx => ?_) (by rw [← T.alt, List.map_map]; rfl))) fun b H4 e4 hb => ?_
  · exact ⟨_, fun Q q => q, rfl, evd_bl (et_inP (evd_var rfl hx) (evd_var rfl (dp_mono ex m2')))⟩
  have u1 := dp_mono (e3.trans e4) m1
  have u2 := dp_mono (e3.trans e4) m2
  have u3 := dp_mono (e3.trans e4) m3
  have ua := dp_mono e4 ha
  have k64 := T.l64
  have k2' := T.l2
  have lal : ((altn (l.length - 1)).map PyData.bool).length = l.length - 1 := by simp [altn]
  have gal : ∀ i, i < l.length - 1 → ((altn (l.length - 1)).map PyData.bool)[i]? = some (.bool (i % 2 == 1)) := fun i hi => by rw [List.getElem?_map, altn_at hi]; rfl
  refine q_ifN (et_is (et_or (a := false) (b := false) (et_not (a := true) ?_) fun _ => ?_) rfl) fun H5 e5 => ?_
  · refine et_B (ev_is (ev_allB (l := (steps l).map fun e => decide (e ∈ ps)) (evn_d (EvN.data (evnl_lc0 (d := fun e : Pr => PyData.bool (decide (e ∈ ps))) (IvE.of_map (iv_lst (evd_var rfl ua))) (sz_of (by omega)) (fun _ => rfl) fun e y H5 he ex hx => ?_) (by rw [List.map_map]; rfl)))) ?_)
    · exact ⟨_, fun Q q => q, rfl, evd_bl (et_inP (evd_var rfl hx) (evd_ixT (i := 1) (evd_var rfl (dp_mono ex u1)) ev_c rfl))⟩
    · congr 1
      simpa using fun a b hab => T.sub (a, b) hab
  · refine et_B (ev_is (ev_anyB (l := (List.range (l.length - 2)).map fun _ => false) (evn_d (EvN.data (evnl_lc0 (d := fun _ : Nat => PyData.bool false) (iv_rng (n := l.length - 2) ?_ (by omega)) (sz_of (by simp; omega)) (fun _ => rfl) fun e y H5 he ex hx => ?_) (by rw [List.map_map]; rfl)))) ?_)
    · refine ev_is (ev_op (ev_is (ev_lenL (evd_var rfl hb)) (by rw [lal])) ev_c rv_I0) ?_
      congr 1; omega
    · subst hx
      have he' : e < l.length - 2 := by simpa using he
      refine ⟨_, fun Q q => q, rfl, evd_bl (ev_is (ev_op (ev_bl (evd_ixL (i := e) (evd_var rfl (dp_mono ex hb)) (ev_var rfl) (gal e (by omega)))) (ev_bl (evd_ixL (i := e + 1) (evd_var rfl (dp_mono ex hb)) (ev_is (ev_op (ev_var rfl) ev_c rv_I0) (by congr 1)) (gal (e + 1) (by omega)))) (rv_eq rfl)) ?_)⟩
      congr 1
      rw [decide_eq_false_iff_not]
      intro z
      simp only [V.bl.injEq] at z
      have h1 : (e % 2 == 1) = true ↔ ((e + 1) % 2 == 1) = true := by rw [z]
      simp only [beq_iff_eq] at h1
      omega
    · congr 1; simp
  have w2 := dp_mono e5 u2
  have w3 := dp_mono e5 u3
  have wb := dp_mono e5 hb
  refine q_ifN (et_test (ev_is (ev_op (ev_str (K := K) (evd_ixT (i := 0) (evd_var rfl w3) ev_c rfl)) ev_c (rv_eq rfl)) (by decide))) fun H6 e6 => ?_
  refine q_asgP (evd_callR (ds := [dPs p]) (eda_cons (evd_var rfl (dp_mono e6 w2)) eda_nil) rfl ⟨p, T.n3, rfl, rfl⟩) fun c H7 e7 hc => ?_
  have x3 := dp_mono (e6.trans e7) w3
  have xb := dp_mono (e6.trans e7) wb
  have fin2 : Ev (tOrV (tOp (rIxL K) (tVar 4) (tUn (rU fun i => .int (-i)) (tC (.int 1)))) (tOp (rIn K true) (tOp (rIxT K) (tOp (rIxT K) (tVar 2) (tC (.int 1))) (tUn (rU fun i => .int (-i)) (tC (.int 1)))) (tVar 5))) [some v, some u, some x, some a, some b, some c, none, none] H7 (.bl true) := by
    have g0 : Ev (tOp (rIxL K) (tVar 4) (tUn (rU fun i => .int (-i)) (tC (.int 1)))) [some v, some u, some x, some a, some b, some c, none, none] H7 (.bl ((l.length - 2) % 2 == 1)) := by
      refine ev_bl (evd_lastL (evd_var rfl xb) ev_neg1 ?_)
      rw [lal]
      exact gal (l.length - 1 - 1) (by omega)
    refine ev_is (ev_orV (b := true) g0 fun hf => ?_) (by simp)
    have hf' : (l.length - 2) % 2 ≠ 1 := by simpa using hf
    have hl : l[l.length - 1]? = some (l[l.length - 1]'(by omega)) := List.getElem?_eq_getElem _
    refine ev_is (ev_inN (neg := true) (n := l[l.length - 1]'(by omega)) (l := srtN (verts p)) (evd_lastT (evd_ixT (i := 1) (evd_var rfl x3) ev_c rfl) ev_neg1 ?_) (evd_var rfl hc)) ?_
    · rw [len_map_dN, List.getElem?_map, hl]; rfl
    · have := T.last (by omega) _ hl
      simp [mem_srtN, this]
  have fin1 : Ev (tOrV (tOp (rIxL K) (tVar 4) (tC (.int 0))) (tOp (rIn K true) (tOp (rIxT K) (tOp (rIxT K) (tVar 2) (tC (.int 1))) (tC (.int 0))) (tVar 5))) [some v, some u, some x, some a, some b, some c, none, none] H7 (.bl true) := by
    refine ev_is (ev_orV (a := false) (b := true) (ev_bl (evd_ixL (i := 0) (evd_var rfl xb) ev_c (gal 0 (by omega)))) fun hf => ?_) (by simp)
    have hl : l[0]? = some (l[0]'(by omega)) := List.getElem?_eq_getElem _
    refine ev_is (ev_inN (neg := true) (n := l[0]'(by omega)) (l := srtN (verts p)) (evd_ixT (i := 0) (evd_ixT (i := 1) (evd_var rfl x3) ev_c rfl) ev_c ?_) (evd_var rfl hc)) ?_
    · rw [List.getElem?_map, hl]; rfl
    · have := T.first _ hl
      simp [mem_srtN, this]
  exact s_retQ (evd_bl (ev_is (ev_andV fin1 fun _ => fin2) rfl)) hq ((((((e1.trans e2).trans e3).trans e4).trans e5).trans e6).trans e7)

def R_turned : List PyData → PyData → Prop := fun ds d => ∃ n ps p l, TurnOk n ps p l ∧ ds = [dW n ps, dPs p, .tuple [.str "way", dNs l]] ∧ d = dPs (srtP (newPlan p (steps l)))
theorem ok_turned (F : FnP K "turned" "turned" HD.s_turned f fd) (hm : mg "turned" = some (.ref f)) (c_is_turn : C8.Cal P w K mg base 5 "is_turn" (spR K 3 R_is_turn) [])
    (c_steps_of : C8.Cal P w K mg base 1 "steps_of" (spR K 1 R_steps_of) []) : C8.Cal P w K mg base 6 "turned" (spR K 3 R_turned) [] := by
  refine calR F hm sc_turned (F.bindsN fun _ _ _ _ _ _ us hl => match us, hl with | [_, _, _], _ => rfl) rfl fun cdv A outer s H vs Q E ds d hr hd hR hq => ?_
  obtain ⟨n, ps, p, l, T, rfl, rfl⟩ := hR
  obtain ⟨v, r, rfl, h1, hd2⟩ := dpa_cons hd
  obtain ⟨u, r, rfl, h2, hd3⟩ := dpa_cons hd2
  obtain ⟨x, r, rfl, h3, h4⟩ := dpa_cons hd3
  cases dpa_nil h4
  refine ⟨_, PSs.nox (pss_cons (ps_if (pt_not (pt_val (pe_c c_is_turn hr (by decide) rfl (pa_cons (pv 0) (pa_cons (pv 1) (pa_cons (pv 2) pa_nil)))))) (pss_one (ps_never)) pss_nil)
    (pss_cons (ps_set (i := 3) sc_turned.nd rfl (.inr rfl) (pe_c c_steps_of hr (by decide) rfl (pa_cons (pv 2) pa_nil)))
    (pss_one (ps_ret (pe_callTy (cr_tupK K) rfl B.tuple (by decide +kernel) (pa_cons (pe_callB (cr_sortK K hr) rfl B.sorted (by decide +kernel) (pa_cons (pe_op op_cat (pe_lc (own := [("pair", 4)]) rfl sc_turned.nd  (k_tup K (pi_tup (pv 1))) (blkOk_by (N := N_turned) (sc := defScope HD.s_turned) (by decide +kernel)) (fun _ _ _ _ _ => (pg_name (i := 4) sc_turned.nd rfl (.inl rfl))) (fun _ _ _ _ _ => (pts_one (pt_cmpR (op_ninDK K hr) (pv 4) (pv 3) (by with_unfolding_all rfl)))) (fun _ _ _ _ _ => (pv 4))) (pe_lc (own := [("step", 5)]) rfl sc_turned.nd  (k_list K (pi_list (pv 3))) (blkOk_by (N := N_turned) (sc := defScope HD.s_turned) (by decide +kernel)) (fun _ _ _ _ _ => (pg_name (i := 5) sc_turned.nd rfl (.inl rfl))) (fun _ _ _ _ _ => (pts_one (pt_cmpR (op_ninTK K hr) (pv 5) (pv 1) (by with_unfolding_all rfl)))) (fun _ _ _ _ _ => (pv 5)))) pa_nil)) pa_nil)))))), ?_⟩
  have hsl : (steps l).length = l.length - 1 := steps_len l
  have k64 := T.l64
  have kn3 := T.n3
  refine q_ifN (et_is (et_not (a := true) (et_B (ev_bl (evd_callR (ds := [dW n ps, dPs p, .tuple [.str "way", dNs l]]) (eda_cons (evd_var rfl h1) (eda_cons (evd_var rfl h2) (eda_cons (evd_var rfl h3) eda_nil))) rfl ⟨n, ps, p, l, T, rfl, rfl⟩)))) rfl) fun H1 e1 => ?_
  have k2 := dp_mono e1 h2
  have k3 := dp_mono e1 h3
  refine q_asgP (evd_callR (ds := [.tuple [.str "way", dNs l]]) (eda_cons (evd_var rfl k3) eda_nil) rfl ⟨l, by omega, rfl, rfl⟩) fun a H2 e2 ha => ?_
  have m2 := dp_mono e2 k2
  refine s_retQ (evd_tupOf (evn_d (evn_sortP (l := newPlan p (steps l)) (.inl (evn_d (EvN.data (evn_cat (evnl_lc (p := fun e : Pr => !decide (e ∈ steps l)) (d := dP) (IvE.of_map (iv_tup (evd_var rfl m2))) (sz_of (by omega)) (fun _ => tupD_P _) fun e y H3 he ex hx => ?_)
    (evnl_lc (p := fun e : Pr => !decide (e ∈ p)) (d := dP) (IvE.of_map (iv_lst (evd_var rfl ha))) (sz_of (by omega)) (fun _ => tupD_P _) fun e y H3 he ex hx => ?_) ?_) ?_)))))) hq (e1.trans e2)
  · exact ⟨_, fun Q q => q, rfl, et_test (ev_is (ev_notInL (evd_var rfl hx) (evd_var rfl (dp_mono ex ha)) (shaped_P _) (shaped_lst (by decide) canLay_P depth_P _)) (by rw [any_P])), fun _ => evd_var rfl hx⟩
  · exact ⟨_, fun Q q => q, rfl, et_ninP (evd_var rfl hx) (evd_var rfl (dp_mono ex m2)), fun _ => evd_var rfl hx⟩
  · have z1 := List.length_filter_le (fun e : Pr => !decide (e ∈ steps l)) p
    have z2 := List.length_filter_le (fun e : Pr => !decide (e ∈ p)) (steps l)
    refine Nat.le_trans ?_ (show 100000 ≤ sizeLine by decide)
    simp only [List.length_map]
    omega
  · rw [newPlan, List.map_append]
end
end WK
/-! ### W4 -/
set_option Elab.async false
set_option linter.all false
set_option maxRecDepth 100000
set_option maxHeartbeats 4000000
/-! the search object in the heap; meeting, way, reached -/
namespace WK
open PySem PySem.Spec PyProof.Rows L2 Evl DX DL KM C8
abbrev N_S_meeting : List Str := ["self", "one", "other", "met", "found"]
theorem sc_S_meeting : FnScope N_S_meeting ["self", "one", "other"] (defScope HD.s_S_meeting) := ⟨rfl, rfl, rfl, by decide +kernel, rfl, by decide +kernel, by decide +kernel⟩
abbrev N_S_way : List Str := ["self", "person", "found", "mate"]
theorem sc_S_way : FnScope N_S_way ["self", "person"] (defScope HD.s_S_way) := ⟨rfl, rfl, rfl, by decide +kernel, rfl, by decide +kernel, by decide +kernel⟩
abbrev N_S_reached : List Str := ["self", "person", "told"]
theorem sc_S_reached : FnScope N_S_reached ["self"] (defScope HD.s_S_reached) := ⟨rfl, rfl, rfl, by decide +kernel, rfl, by decide +kernel, by decide +kernel⟩
structure Ad where
  a : Addr
  dx : Addr
  pm : Addr
  pb : Addr
  ps : Addr
  pe : Addr
  pl : Addr
def vO : Option Nat → V
  | some v => vN v
  | none => .non
abbrev flds (A : Ad) (near : V) (r : Nat) : List (Str × V) := [("near", near), ("root", vN r), ("mates", .ref A.pm), ("back", .ref A.pb), ("base", .ref A.ps), ("even", .ref A.pe), ("left", .ref A.pl)]
abbrev fl {α : Type} (n : Nat) (f : Nat → α) (g : α → V) : HO := .lst ((List.range n).map fun v => g (f v))
structure SH (C : Addr) (H0 : Hp) (A : Ad) (near : V) (n r : Nat) (m : Nat → Option Nat) (st : SS) (L : List Nat) (H : Hp) : Prop where
  ex : Ex H0 H
  n0 : ∀ p ∈ [A.a, A.pm, A.pb, A.ps, A.pe, A.pl], H0 p = none
  nd : [A.pm, A.pb, A.ps, A.pe, A.pl].Nodup
  ho : H A.a = some (.ins C A.dx (flds A near r))
  hm : H A.pm = some (fl n m vO)
  hb : H A.pb = some (fl n st.bk vO)
  hs : H A.ps = some (fl n st.bs vN)
  he : H A.pe = some (fl n st.ev V.bl)
  hl : H A.pl = some (.lst (L.map vN))
/-- the class's facts -/
structure CF (K : PySem.W.Frag) (C : Addr) : Prop where
  cl : Cls K C
  near : NoAttr K C "near"
  root : NoAttr K C "root"
  mates : NoAttr K C "mates"
  back : NoAttr K C "back"
  base : NoAttr K C "base"
  even : NoAttr K C "even"
  left : NoAttr K C "left"
structure Bd (n : Nat) (E : KM.Env) (st : SS) : Prop where
  n1 : n ≤ 1000
  ev : ∀ {v}, st.ev v = true → v < n
  mt : ∀ {u v}, E.m u = some v → v < n
  bk : ∀ {u v}, st.bk u = some v → v < n
  rt : E.r < n
theorem Bd.bs {n : Nat} {E : KM.Env} {st : SS} (b : Bd n E st) (I : KM.Inv E st) {v : Nat} (hv : v < n) : st.bs v < n := by
  cases h : st.ev v with
  | true => exact b.ev (I.C1 h)
  | false => rw [I.C3 h]; exact hv
section
variable {C : Addr} {H0 H H' : Hp} {A : Ad} {near : V} {n r : Nat} {m : Nat → Option Nat} {st : SS} {L : List Nat}
theorem SH.mono (S : SH C H0 A near n r m st L H) (e : Ex H H') : SH C H0 A near n r m st L H' :=
  ⟨S.ex.trans e, S.n0, S.nd, e _ _ S.ho, e _ _ S.hm, e _ _ S.hb, e _ _ S.hs, e _ _ S.he, e _ _ S.hl⟩
theorem range_put {α : Type} (f : Nat → α) (g : α → V) (n i : Nat) (x : α) : ((List.range n).map fun v => g (f v)).set i (g x) = (List.range n).map fun v => g (fup f i x v) := by
  apply List.ext_getElem?
  intro j
  rw [List.getElem?_set]
  by_cases hj : j < n
  · simp only [List.getElem?_map, List.getElem?_range hj, List.length_map, List.length_range, Option.map_some]
    by_cases e : i = j
    · subst e; rw [if_pos rfl, if_pos hj, fup_same]
    · rw [if_neg e, fup_ne (Ne.symm e)]
  · have h1 : ∀ (h : Nat → V), ((List.range n).map h)[j]? = none := fun h => List.getElem?_eq_none (by simp; omega)
    rw [h1, h1]
    split
    · simp only [List.length_map, List.length_range]
      rw [if_neg (by omega)]
    · rfl
theorem SH.exput (S : SH C H0 A near n r m st L H) {p : Addr} (hp : p ∈ [A.a, A.pm, A.pb, A.ps, A.pe, A.pl]) (o : HO) : Ex H0 (upd H p o) := Ex.mut S.ex (S.n0 p hp)
theorem SH.na (S : SH C H0 A near n r m st L H) {p : Addr} {xs : List V} (h : H p = some (.lst xs)) : A.a ≠ p := fun e => by
  have := S.ho
  rw [e, h] at this
  cases this
theorem SH.nds (S : SH C H0 A near n r m st L H) : A.pm ≠ A.pb ∧ A.pm ≠ A.ps ∧ A.pm ≠ A.pe ∧ A.pm ≠ A.pl ∧ A.pb ≠ A.ps ∧ A.pb ≠ A.pe ∧ A.pb ≠ A.pl ∧ A.ps ≠ A.pe ∧ A.ps ≠ A.pl ∧ A.pe ≠ A.pl := by
  have := S.nd
  simp only [List.nodup_cons, List.mem_cons, List.not_mem_nil, or_false, not_or, List.nodup_nil, and_true, not_false_eq_true] at this
  obtain ⟨⟨a1, a2, a3, a4⟩, ⟨b1, b2, b3⟩, ⟨c1, c2⟩, d1⟩ := this
  exact ⟨a1, a2, a3, a4, b1, b2, b3, c1, c2, d1⟩
theorem SH.setBack (S : SH C H0 A near n r m st L H) (i : Nat) (x : Option Nat) : SH C H0 A near n r m ⟨fup st.bk i x, st.bs, st.ev⟩ L (upd H A.pb (.lst (((List.range n).map fun v => vO (st.bk v)).set i (vO x)))) := by
  obtain ⟨a1, a2, a3, a4, b1, b2, b3, c1, c2, d1⟩ := S.nds
  refine ⟨S.exput (by simp) _, S.n0, S.nd, ?_, ?_, ?_, ?_, ?_, ?_⟩
  · rw [upd_ne (S.na S.hb)]; exact S.ho
  · rw [upd_ne a1]; exact S.hm
  · rw [upd_same, range_put]
  · rw [upd_ne (Ne.symm b1)]; exact S.hs
  · rw [upd_ne (Ne.symm b2)]; exact S.he
  · rw [upd_ne (Ne.symm b3)]; exact S.hl
theorem SH.setBase (S : SH C H0 A near n r m st L H) (i : Nat) (x : Nat) : SH C H0 A near n r m ⟨st.bk, fup st.bs i x, st.ev⟩ L (upd H A.ps (.lst (((List.range n).map fun v => vN (st.bs v)).set i (vN x)))) := by
  obtain ⟨a1, a2, a3, a4, b1, b2, b3, c1, c2, d1⟩ := S.nds
  refine ⟨S.exput (by simp) _, S.n0, S.nd, ?_, ?_, ?_, ?_, ?_, ?_⟩
  · rw [upd_ne (S.na S.hs)]; exact S.ho
  · rw [upd_ne a2]; exact S.hm
  · rw [upd_ne b1]; exact S.hb
  · rw [upd_same, range_put]
  · rw [upd_ne (Ne.symm c1)]; exact S.he
  · rw [upd_ne (Ne.symm c2)]; exact S.hl
theorem SH.setEven (S : SH C H0 A near n r m st L H) (i : Nat) (x : Bool) : SH C H0 A near n r m ⟨st.bk, st.bs, fup st.ev i x⟩ L (upd H A.pe (.lst (((List.range n).map fun v => V.bl (st.ev v)).set i (V.bl x)))) := by
  obtain ⟨a1, a2, a3, a4, b1, b2, b3, c1, c2, d1⟩ := S.nds
  refine ⟨S.exput (by simp) _, S.n0, S.nd, ?_, ?_, ?_, ?_, ?_, ?_⟩
  · rw [upd_ne (S.na S.he)]; exact S.ho
  · rw [upd_ne a3]; exact S.hm
  · rw [upd_ne b2]; exact S.hb
  · rw [upd_ne c1]; exact S.hs
  · rw [upd_same, range_put]
  · rw [upd_ne (Ne.symm d1)]; exact S.hl
theorem SH.addLeft (S : SH C H0 A near n r m st L H) (x : Nat) : SH C H0 A near n r m st (L ++ [x]) (upd H A.pl (.lst (L.map vN ++ [vN x]))) := by
  obtain ⟨a1, a2, a3, a4, b1, b2, b3, c1, c2, d1⟩ := S.nds
  refine ⟨S.exput (by simp) _, S.n0, S.nd, ?_, ?_, ?_, ?_, ?_, ?_⟩
  · rw [upd_ne (S.na S.hl)]; exact S.ho
  · rw [upd_ne a4]; exact S.hm
  · rw [upd_ne b3]; exact S.hb
  · rw [upd_ne c2]; exact S.hs
  · rw [upd_ne d1]; exact S.he
  · rw [upd_same, List.map_append]; rfl
variable {K : PySem.W.Frag} {σ : L2.St} {ta tb : TE}
theorem ev_fld {i : Nat} {f : Str} {v : V} (c : CF K C) (hσ : σ[i]? = some (some (.ref A.a))) (S : SH C H0 A near n r m st L H) (na : NoAttr K C f) (hv : (flds A near r).lookup f = some v) : Ev (tFld K (tVar i) f) σ H v := fun H1 e Q q =>
  ⟨_, hσ, A.a, C, A.dx, _, v, rfl, e _ _ S.ho, c.cl, na, hv, q H1 (Ex.refl _)⟩
theorem ev_at {g : Nat → V} {p : Addr} {v : Nat} (h : Ev ta σ H (.ref p)) (hp : H p = some (.lst ((List.range n).map g))) (hi : Ev tb σ H (.int (v : Int))) (hv : v < n) : Ev (tOp (rIxL K) ta tb) σ H (g v) :=
  ev_op h hi (rv_ixL (sq_of hp) (atI_nn (by rw [List.getElem?_map, List.getElem?_range hv]; rfl)))
theorem ev_lastV {xs : List V} {p : Addr} {v : V} (h : Ev ta σ H (.ref p)) (hp : H p = some (.lst (xs ++ [v]))) : Ev (tOp (rIxL K) ta (tUn (rU fun i => .int (-i)) (tC (.int 1)))) σ H v :=
  ev_op h ev_neg1 (rv_ixL (sq_of hp) (atI_last1 (by simp)))
theorem ev_mates {i v : Nat} (c : CF K C) (hσ : σ[i]? = some (some (.ref A.a))) (S : SH C H0 A near n r m st L H) (hi : Ev tb σ H (.int (v : Int))) (hv : v < n) : Ev (tOp (rIxL K) (tFld K (tVar i) "mates") tb) σ H (vO (m v)) := ev_at (g := fun v => vO (m v)) (ev_fld c hσ S c.mates rfl) S.hm hi hv
theorem ev_back {i v : Nat} (c : CF K C) (hσ : σ[i]? = some (some (.ref A.a))) (S : SH C H0 A near n r m st L H) (hi : Ev tb σ H (.int (v : Int))) (hv : v < n) : Ev (tOp (rIxL K) (tFld K (tVar i) "back") tb) σ H (vO (st.bk v)) := ev_at (g := fun v => vO (st.bk v)) (ev_fld c hσ S c.back rfl) S.hb hi hv
theorem ev_base {i v : Nat} (c : CF K C) (hσ : σ[i]? = some (some (.ref A.a))) (S : SH C H0 A near n r m st L H) (hi : Ev tb σ H (.int (v : Int))) (hv : v < n) : Ev (tOp (rIxL K) (tFld K (tVar i) "base") tb) σ H (.int (st.bs v : Int)) := ev_at (g := fun v => vN (st.bs v)) (ev_fld c hσ S c.base rfl) S.hs hi hv
theorem ev_even {i v : Nat} (c : CF K C) (hσ : σ[i]? = some (some (.ref A.a))) (S : SH C H0 A near n r m st L H) (hi : Ev tb σ H (.int (v : Int))) (hv : v < n) : Ev (tOp (rIxL K) (tFld K (tVar i) "even") tb) σ H (.bl (st.ev v)) := ev_at (g := fun v => V.bl (st.ev v)) (ev_fld c hσ S c.even rfl) S.he hi hv
theorem ev_some {v : Nat} {o : Option Nat} (h : Ev ta σ H (vO o)) (e : o = some v) : Ev ta σ H (.int (v : Int)) := by rw [e] at h; exact h
end
section
variable {K : PySem.W.Frag} {σ : L2.St} {H : Hp} {ta te : TE} {D : Ends} {tz : TS}
theorem s_ext {l : Addr} {xs ys : List V} (hl : H l = some (.lst xs)) (ha : Ev ta σ H (.ref l)) (h : EvL te σ H ys) (hz : xs.length + ys.length ≤ 100000) (k : ∀ H1, Ex H H1 → D.nx σ (upd H1 l (.lst (xs ++ ys)))) :
    tDrop (tBM K "list" rExtend ta (tCons te tNil)) D σ H := ha H (Ex.refl H) _ fun H1 e1 =>
  ⟨Or.inl ⟨rfl, xs, sq_of (e1 l _ hl)⟩, h H1 e1 _ fun p H2 hp e2 h2 => ⟨l, p, xs, ys, rfl, rfl, e2 l _ (e1 l _ hl), h2, sz_of hz, k H2 (e1.trans e2)⟩⟩
theorem q_ext {l : Addr} {xs ys : List V} (hl : H l = some (.lst xs)) (ha : Ev ta σ H (.ref l)) (h : EvL te σ H ys) (hz : xs.length + ys.length ≤ 100000) (k : ∀ H1, Ex H H1 → tz D σ (upd H1 l (.lst (xs ++ ys)))) :
    tSeq (tDrop (tBM K "list" rExtend ta (tCons te tNil))) tz D σ H := s_ext (D := { D with nx := tz D }) hl ha h hz k
theorem dpa_rev {H2 : Hp} : ∀ {vs : List V} {ds : List PyData}, DpAll K H2 vs ds → DpAll K H2 vs.reverse ds.reverse
  | _, _, .nil => .nil
  | _, _, .cons h1 h2 => by simpa using dpa_app (dpa_rev h2) (.cons h1 .nil)
theorem evn_rev {ds : List PyData} (h : EvD K te σ H (.list ds)) : EvNl K (tRevL K te) σ H ds.reverse := fun H1 x Q q =>
  h H1 x _ fun v H2 x2 h2 => by
    obtain ⟨a, xs, ev, hs, hd⟩ := dp_lst h2
    exact ⟨a, xs, ev, hs, fun l hl => q l _ _ (fresh_back x2 hl) (x2.trans (Ex.new hl)) upd_same (dpa_mono (Ex.new hl) (dpa_rev hd))⟩
end
section
variable {P : Program} {w : World} {K : PySem.W.Frag} {mg : Str → Option Value} {base : Heap} {f : Addr} {fd : FuncData} {C : Addr}
theorem metD {m qual : Str} {st : Stmt} {N ps : List Str} {k : Nat} {sp : Sp} (c : Cls K C) (me : Meth K C m f) (F : FnP K m qual st f fd) (S : FnScope N ps (defScope st)) (b : Binds K fd ps []) (len : ∀ vs H Q E, sp vs H Q E → vs.length = ps.length)
    (hbody : ∀ (cdv : Value) (A : Around) (outer : List PySem.Env) (s : Shared) (H : Hp) (vs : List V) (Q : VK) (E : XK), Room k (A.deeper (envOfC qual (defScope st) s.heap.objs.size f cdv)) → sp vs H Q E →
      ∃ t, PSs (cxOf L2.CX0 P w K mg base N qual (defScope st) f cdv A outer s H E) (defBody st) t ∧ t { nx := fun _ H' => Q .non H', rt := Q } (start N vs) H) : C8.Met P w K mg base (k + 1) C m sp [] :=
  ⟨f, fd, ps, [], c, me, F.ok S len hbody, b, .nil⟩
variable (B : BI mg) (c : CF K C)
include B c
def spMeet (C : Addr) : Sp := fun vs H Q _ => ∃ E H0 A near n st L one other, vs = [.ref A.a, vN one, vN other] ∧ SH C H0 A near n E.r E.m st L H ∧ KM.Inv E st ∧ Bd n E st ∧ st.ev one = true ∧ st.ev other = true ∧
  ∀ top H', Ex H H' → (∃ BL1 X Y, BC E st (st.bs one) BL1 ∧ BC E st (st.bs other) (X ++ top :: Y) ∧ (∀ b ∈ X, b ∉ BL1) ∧ top ∈ BL1) → Q (vN top) H'
theorem ok_meeting (F : FnP K "meeting" "Search.meeting" HD.s_S_meeting f fd) (me : Meth K C "meeting" f) : C8.Met P w K mg base 1 C "meeting" (spMeet C) [] := by
  refine metD c.cl me F sc_S_meeting (F.bindsN fun _ _ _ _ _ _ us hl => match us, hl with | [_, _, _], _ => rfl) (fun vs H Q E h => ?_) fun cdv Ar outer s H vs Q Ek hr h => ?_
  · obtain ⟨E, H0, A, near, n, st, L, one, other, rfl, _⟩ := h; rfl
  obtain ⟨E, H0, A, near, n, st, L, one, other, rfl, S, I, bd, he1, he2, hq⟩ := h
  refine ⟨_, PSs.nox (pss_cons (ps_set (i := 3) sc_S_meeting.nd rfl (.inl rfl) (pe_lst (pa_cons (pe_ix (ix_lstK K) (k_fld K (pe_fld (pv 0) rfl)) (pv 1) (fun _ _ => rfl)) pa_nil)))
    (pss_cons (ps_while PassesOwn.never (pt_cmpR op_ne (pe_ix (ix_lstK K) (pv 3) (pe_un un_neg pe_int) (fun _ _ => rfl)) (pe_ix (ix_lstK K) (k_fld K (pe_fld (pv 0) rfl)) (k_fld K (pe_fld (pv 0) rfl)) (fun _ _ => rfl)) (nomark _)) (pss_one (ps_expr (k_bm K (pe_bm PySem.F.plainAttrs_list PySem.F.slot_list_append PySem.F.type_list_append mt_append (pv 3) (pa_cons (pe_ix (ix_lstK K) (k_fld K (pe_fld (pv 0) rfl)) (pe_ix (ix_lstK K) (k_fld K (pe_fld (pv 0) rfl)) (pe_ix (ix_lstK K) (k_fld K (pe_fld (pv 0) rfl)) (pe_ix (ix_lstK K) (pv 3) (pe_un un_neg pe_int) (fun _ _ => rfl)) (fun _ _ => rfl)) (fun _ _ => rfl)) (fun _ _ => rfl)) pa_nil))))))
    (pss_cons (ps_set (i := 4) sc_S_meeting.nd rfl (.inl rfl) (pe_ix (ix_lstK K) (k_fld K (pe_fld (pv 0) rfl)) (pv 2) (fun _ _ => rfl)))
    (pss_cons (ps_while PassesOwn.never (pt_cmpR (op_ninK K) (pv 4) (pv 3) (by with_unfolding_all rfl)) (pss_one (ps_set (i := 4) sc_S_meeting.nd rfl (.inl rfl) (pe_ix (ix_lstK K) (k_fld K (pe_fld (pv 0) rfl)) (pe_ix (ix_lstK K) (k_fld K (pe_fld (pv 0) rfl)) (pe_ix (ix_lstK K) (k_fld K (pe_fld (pv 0) rfl)) (pv 4) (fun _ _ => rfl)) (fun _ _ => rfl)) (fun _ _ => rfl)))))
    (pss_one (ps_ret (pv 4))))))), ?_⟩
  have l1 := bd.ev he1
  have l2 := bd.ev he2
  obtain ⟨L1, c1, _⟩ := I.ch he1
  obtain ⟨BL1, b1, _⟩ := Ch.bc I c1
  obtain ⟨L2, c2, _⟩ := I.ch he2
  obtain ⟨BL2, b2, _⟩ := Ch.bc I c2
  refine q_asgN (P := fun ys _ => ys = [vN (st.bs one)]) ?_ fun p ys H1 hp e1 hH1 hys => ?_
  · intro H1 e Q q
    have := ev_base (i := 0) (v := one) (tb := tVar 1) (σ := [some (.ref A.a), some (vN one), some (vN other), none, none]) c rfl (S.mono e) (ev_var rfl) l1
    exact (el_lst (ea_cons this ea_nil) (by show 1 ≤ 100000; decide)) H1 (Ex.refl _) _ fun p H2 hp e2 h2 => q p _ H2 hp e2 h2 rfl
  subst hys
  have hr1 : st.bs E.r = E.r := I.br
  have S1 := S.mono e1
  obtain ⟨bl1, hbl1⟩ := b1.head
  refine q_while (fun m σ' H' => σ' = [some (.ref A.a), some (vN one), some (vN other), some (.ref p), none] ∧ ∃ X b Y, BL1 = X ++ b :: Y ∧ m = Y.length ∧ BC E st b (b :: Y) ∧ Ex H H' ∧ H' p = some (.lst ((X ++ [b]).map vN))) bl1.length ⟨rfl, [], st.bs one, bl1, hbl1, rfl, hbl1 ▸ b1, e1, hH1⟩ ?_
  rintro m σ' H' ⟨rfl, X, b, Y, hBL, rfl, hbc, hex, hpl⟩
  have S' := S.mono hex
  have hpl2 : H' p = some (.lst (X.map vN ++ [vN b])) := by rw [hpl, List.map_append]; rfl
  refine ⟨!decide (b = E.r), ?_, fun hb H2 e2 => ?_, fun hb H2 e2 => ?_⟩
  · refine et_test (ev_neN (n := b) (m := E.r) (ev_lastV (ev_var rfl) hpl2) ?_)
    have := ev_base (i := 0) (v := E.r) c (tb := tFld K (tVar 0) "root") (σ := [some (.ref A.a), some (vN one), some (vN other), some (.ref p), none]) rfl S' (ev_fld c rfl S' c.root rfl) bd.rt
    rw [hr1] at this
    exact this
  · have hne : b ≠ E.r := by simpa using hb
    have S2 := S'.mono e2
    have hp2 := e2 _ _ hpl2
    obtain ⟨o, w, L', hev, hbs, hm, hbk, hbc', hY⟩ : ∃ o w L', st.ev b = true ∧ st.bs b = b ∧ E.m b = some o ∧ st.bk o = some w ∧ BC E st (st.bs w) L' ∧ Y = L' := by
      cases hbc with
      | root => exact absurd rfl hne
      | step h1 h2 h3 h4 h5 => exact ⟨_, _, _, h1, h2, h3, h4, h5, rfl⟩
    subst hY
    obtain ⟨y', hy'⟩ := hbc'.head
    have q1 := ev_lastV (K := K) (σ := [some (.ref A.a), some (vN one), some (vN other), some (.ref p), none]) (ta := tVar 3) (ev_var rfl) hp2
    have q2 := ev_some (ev_mates (i := 0) (v := b) c rfl S2 q1 (bd.ev hev)) hm
    have q3 := ev_some (ev_back (i := 0) (v := o) c rfl S2 q2 (bd.mt hm)) hbk
    have q4 := ev_base (i := 0) (v := w) c rfl S2 q3 (bd.bk hbk)
    refine ⟨fun σ2 H3 => σ2 = [some (.ref A.a), some (vN one), some (vN other), some (.ref p), none] ∧ Ex H H3 ∧ H3 p = some (.lst ((X ++ [b] ++ [st.bs w]).map vN)), ?_, ?_⟩
    · rintro σ2 H3 ⟨rfl, h3, h4⟩
      exact ⟨y'.length, by rw [hy']; simp, rfl, X ++ [b], st.bs w, y', by rw [hBL, hy']; simp, rfl, hy' ▸ hbc', h3, h4⟩
    · refine s_app hp2 (ev_var rfl) q4 ?_ fun H3 e3 => ⟨rfl, ?_, ?_⟩
      · have h1 := nodup_len (l' := List.range n) b1.nodup (fun x hx => List.mem_range.mpr (bd.ev (b1.ev I x hx).1))
        have h2 := bd.n1
        rw [List.length_range, hBL, List.length_append, List.length_cons] at h1
        simp
        omega
      · exact Ex.mut ((hex.trans e2).trans e3) hp
      · rw [upd_same]; simp
  · have hbr : b = E.r := by simpa using hb
    subst hbr
    have hY : Y = [] := by
      cases hbc with
      | root => rfl
      | step h1 h2 h3 h4 h5 => rw [E.mr] at h3; cases h3
    subst hY
    have S2 := S'.mono e2
    have hp2 := e2 _ _ hpl
    rw [← hBL] at hp2
    have g0 := ev_base (i := 0) (v := other) (tb := tVar 2) (σ := [some (.ref A.a), some (vN one), some (vN other), some (.ref p), none]) c rfl S2 (ev_var rfl) l2
    refine q_asg g0 fun H3 e3 => ?_
    have S3 := S2.mono e3
    have hp3 := e3 _ _ hp2
    have e03 := (hex.trans e2).trans e3
    obtain ⟨bl2, hbl2⟩ := b2.head
    refine q_while (fun m σ' H' => ∃ X b Y, BL2 = X ++ b :: Y ∧ σ' = [some (.ref A.a), some (vN one), some (vN other), some (.ref p), some (vN b)] ∧ m = Y.length ∧ BC E st b (b :: Y) ∧ Ex H3 H' ∧ ∀ x ∈ X, x ∉ BL1) bl2.length ⟨[], st.bs other, bl2, hbl2, rfl, rfl, hbl2 ▸ b2, Ex.refl _, by simp⟩ ?_
    rintro m σ' H' ⟨X2, b', Y, hBL2, rfl, rfl, hbc', hex', hno⟩
    have S' := S3.mono hex'
    have hp' := hex' _ _ hp3
    refine ⟨!decide (b' ∈ BL1), ?_, fun hb H4 e4 => ?_, fun hb H4 e4 => ?_⟩
    · exact et_test (ev_inNl (neg := true) (n := b') (evd_int (ev_var rfl)) (evd_of (ev_var rfl) fun H5 e5 => .lst (sq_of (e5 _ _ hp')) (N_dpa _)))
    · have hni : b' ∉ BL1 := by simpa using hb
      have hne : b' ≠ E.r := fun e => hni (by rw [e, hBL]; simp)
      obtain ⟨o, w, L', hev, hbs, hm, hbk, hbc2, hY⟩ : ∃ o w L', st.ev b' = true ∧ st.bs b' = b' ∧ E.m b' = some o ∧ st.bk o = some w ∧ BC E st (st.bs w) L' ∧ Y = L' := by
        cases hbc' with
        | root => exact absurd rfl hne
        | step h1 h2 h3 h4 h5 => exact ⟨_, _, _, h1, h2, h3, h4, h5, rfl⟩
      subst hY
      obtain ⟨y', hy'⟩ := hbc2.head
      have S4 := S'.mono e4
      have q1 : Ev (tVar 4) [some (.ref A.a), some (vN one), some (vN other), some (.ref p), some (vN b')] H4 (.int (b' : Int)) := ev_var rfl
      have q2 := ev_some (ev_mates (i := 0) (v := b') c rfl S4 q1 (bd.ev hev)) hm
      have q3 := ev_some (ev_back (i := 0) (v := o) c rfl S4 q2 (bd.mt hm)) hbk
      have q4 := ev_base (i := 0) (v := w) c rfl S4 q3 (bd.bk hbk)
      refine ⟨fun σ2 H5 => σ2 = [some (.ref A.a), some (vN one), some (vN other), some (.ref p), some (vN (st.bs w))] ∧ Ex H3 H5, ?_, ?_⟩
      · rintro σ2 H5 ⟨rfl, h5⟩
        refine ⟨y'.length, by rw [hy']; simp, X2 ++ [b'], st.bs w, y', by rw [hBL2, hy']; simp, rfl, rfl, hy' ▸ hbc2, h5, fun x hx => ?_⟩
        rcases List.mem_append.mp hx with h | h
        · exact hno x h
        · have : x = b' := by simpa using h
          rw [this]; exact hni
      · exact s_asg q4 fun H5 e5 => ⟨rfl, (hex'.trans e4).trans e5⟩
    · have hin : b' ∈ BL1 := by simpa using hb
      refine s_ret (ev_var rfl) fun H5 e5 => hq b' H5 (((e03.trans hex').trans e4).trans e5) ⟨BL1, X2, Y, b1, hBL2 ▸ b2, hno, hin⟩
def spWay (K : PySem.W.Frag) (C : Addr) : Sp := fun vs H Q _ => ∃ E H0 A near n st L v Lc, vs = [.ref A.a, vN v] ∧ SH C H0 A near n E.r E.m st L H ∧ Bd n E st ∧ v < n ∧ Ch E st v Lc ∧ RetD K (dNs (pathR E.m Lc)) H Q
theorem ch_lt {E : KM.Env} {st : SS} {n : Nat} (bd : Bd n E st) {v : Nat} {Lc : List Nat} (h : Ch E st v Lc) : v < n → ∀ x ∈ Lc, x < n := by
  induction h with
  | root => intro hv x hx; simp at hx; rw [hx]; exact bd.rt
  | step h1 h2 h3 h4 ih =>
    intro hv x hx
    rcases List.mem_cons.mp hx with h | h
    · rw [h]; exact hv
    · exact ih (bd.bk h3) x h
theorem wl_len (m : Nat → Option Nat) : ∀ L : List Nat, (wl m L).length ≤ 2 * L.length
  | [] => by simp [wl]
  | [r] => by simp [wl]
  | v :: w :: L => by
    have := wl_len m (w :: L)
    simp only [wl, List.length_cons] at *
    omega
theorem ok_way (F : FnP K "way" "Search.way" HD.s_S_way f fd) (me : Meth K C "way" f) : C8.Met P w K mg base 1 C "way" (spWay K C) [] := by
  refine metD c.cl me F sc_S_way (F.bindsN fun _ _ _ _ _ _ us hl => match us, hl with | [_, _], _ => rfl) (fun vs H Q E h => ?_) fun cdv Ar outer s H vs Q Ek hr h => ?_
  · obtain ⟨E, H0, A, near, n, st, L, v, Lc, rfl, _⟩ := h; rfl
  obtain ⟨E, H0, A, near, n, st, L, v, Lc, rfl, S, bd, hv, hc, hq⟩ := h
  refine ⟨_, PSs.nox (pss_cons (ps_set (i := 2) sc_S_way.nd rfl (.inl rfl) (pe_lst (pa_cons (pv 1) pa_nil)))
    (pss_cons (ps_while PassesOwn.never (pt_cmpR op_ne (pe_ix (ix_lstK K) (pv 2) (pe_un un_neg pe_int) (fun _ _ => rfl)) (k_fld K (pe_fld (pv 0) rfl)) (nomark _)) (pss_cons (ps_set (i := 3) sc_S_way.nd rfl (.inl rfl) (pe_ix (ix_lstK K) (k_fld K (pe_fld (pv 0) rfl)) (pe_ix (ix_lstK K) (pv 2) (pe_un un_neg pe_int) (fun _ _ => rfl)) (fun _ _ => rfl)))
    (pss_one (ps_expr (k_bm K (pe_bm PySem.F.plainAttrs_list PySem.F.slot_list_extend PySem.F.type_list_extend mt_extend (pv 2) (pa_cons (pe_lst (pa_cons (pv 3) (pa_cons (pe_ix (ix_lstK K) (k_fld K (pe_fld (pv 0) rfl)) (pv 3) (fun _ _ => rfl)) pa_nil))) pa_nil)))))))
    (pss_one (ps_ret (pe_callTy (cr_tupK K) rfl B.tuple (by decide +kernel) (pa_cons (k_rev K (pe_revL (pv 2))) pa_nil)))))), ?_⟩
  have hlt := ch_lt B c bd hc hv
  have hlen : (wl E.m Lc).length ≤ 2000 := by
    have h1 := wl_len B c E.m Lc
    have h2 := nodup_len (l' := List.range n) hc.nodup (fun x hx => List.mem_range.mpr (hlt x hx))
    have := bd.n1
    rw [List.length_range] at h2
    omega
  obtain ⟨lc, hlc⟩ := hc.head
  refine q_asgL (el_lst (ea_cons (x := vN v) (ev_var rfl) ea_nil) (by show 1 ≤ 100000; decide)) fun p H1 hp e1 hH1 => ?_
  refine q_while (fun k σ' H' => ∃ pre y L2 mt, wl E.m Lc = pre ++ wl E.m (y :: L2) ∧ σ' = [some (.ref A.a), some (vN v), some (.ref p), mt] ∧ k = L2.length ∧ y < n ∧ Ch E st y (y :: L2) ∧ Ex H H' ∧ H' p = some (.lst ((pre ++ [y]).map vN))) lc.length
    ⟨[], v, lc, none, by rw [hlc]; rfl, rfl, rfl, hv, hlc ▸ hc, e1, hH1⟩ ?_
  rintro k σ' H' ⟨pre, y, L2, mt, hwl, rfl, rfl, hy, hch, hex, hpl⟩
  have S' := S.mono hex
  have hpl2 : H' p = some (.lst (pre.map vN ++ [vN y])) := by rw [hpl, List.map_append]; rfl
  refine ⟨!decide (y = E.r), et_test (ev_neN (n := y) (m := E.r) (ev_lastV (ev_var rfl) hpl2) (ev_fld c rfl S' c.root rfl)), fun hb H2 e2 => ?_, fun hb H2 e2 => ?_⟩
  · have hne : y ≠ E.r := by simpa using hb
    have S2 := S'.mono e2
    have hp2 := e2 _ _ hpl2
    obtain ⟨o, w, L', hm, hbk, hc', hY⟩ : ∃ o w L', E.m y = some o ∧ st.bk o = some w ∧ Ch E st w L' ∧ L2 = L' := by
      cases hch with
      | root => exact absurd rfl hne
      | step h1 h2 h3 h4 => exact ⟨_, _, _, h2, h3, h4, rfl⟩
    subst hY
    obtain ⟨l3, hl3⟩ := hc'.head
    subst hl3
    have hwl2 : wl E.m (y :: w :: l3) = y :: o :: wl E.m (w :: l3) := by rw [wl, hm]; rfl
    refine ⟨fun σ2 H3 => σ2 = [some (.ref A.a), some (vN v), some (.ref p), some (vN o)] ∧ Ex H H3 ∧ H3 p = some (.lst ((pre ++ [y, o] ++ [w]).map vN)), ?_, ?_⟩
    · rintro σ2 H3 ⟨rfl, h3, h4⟩
      exact ⟨l3.length, by simp, pre ++ [y, o], w, l3, _, by rw [hwl, hwl2]; simp, rfl, rfl, bd.bk hbk, hc', h3, h4⟩
    · refine q_asg (ev_some (ev_mates (i := 0) (v := y) c rfl S2 (ev_lastV (ev_var rfl) hp2) hy) hm) fun H3 e3 => ?_
      have S3 := S2.mono e3
      have hp3 := e3 _ _ hp2
      refine s_ext (ys := [vN o, vN w]) hp3 (ev_var rfl) (el_lst (ea_cons (ev_var rfl) (ea_cons (ev_some (ev_back (i := 0) (v := o) c rfl S3 (ev_var rfl) (bd.mt hm)) hbk) ea_nil)) (by show 2 ≤ 100000; decide)) ?_ fun H4 e4 => ⟨rfl, ?_, ?_⟩
      · have h1 : (wl E.m Lc).length = pre.length + (wl E.m (y :: w :: l3)).length := by rw [hwl, List.length_append]
        simp
        omega
      · exact Ex.mut (((hex.trans e2).trans e3).trans e4) hp
      · rw [upd_same]; simp
  · have hyr : y = E.r := by simpa using hb
    subst hyr
    have hY : L2 = [] := by
      cases hch with
      | root => rfl
      | step h1 h2 h3 h4 => rw [E.mr] at h2; cases h2
    subst hY
    have hp2 := e2 _ _ hpl
    have hwl3 : pre ++ [E.r] = wl E.m Lc := by rw [hwl]; rfl
    rw [hwl3] at hp2
    refine s_retQ (evd_tupOf (evn_d (EvN.data (evn_rev (ds := (wl E.m Lc).map dN) (evd_of (ev_var rfl) fun H5 e5 => .lst (sq_of (e5 _ _ hp2)) (N_dpa _))) ?_))) hq (hex.trans e2)
    rw [← List.map_reverse, wl_rev]
def spReached (K : PySem.W.Frag) (C : Addr) : Sp := fun vs H Q _ => ∃ H0 A near n r m st L, vs = [.ref A.a] ∧ n ≤ 1000 ∧ SH C H0 A near n r m st L H ∧ RetD K (dNs ((List.range n).filter st.ev)) H Q
theorem ok_reached (F : FnP K "reached" "Search.reached" HD.s_S_reached f fd) (me : Meth K C "reached" f) : C8.Met P w K mg base 1 C "reached" (spReached K C) [] := by
  refine metD c.cl me F sc_S_reached (F.bindsN fun _ _ _ _ _ _ us hl => match us, hl with | [_], _ => rfl) (fun vs H Q E h => ?_) fun cdv Ar outer s H vs Q Ek hr h => ?_
  · obtain ⟨H0, A, near, n, r, m, st, L, rfl, _⟩ := h; rfl
  obtain ⟨H0, A, near, n, r, m, st, L, rfl, hn, S, hq⟩ := h
  refine ⟨_, PSs.nox (pss_one (ps_ret (pe_callTy (cr_tupK K) rfl B.tuple (by decide +kernel) (pa_cons (pe_lc (own := [("person", 1), ("told", 2)]) rfl sc_S_reached.nd  (k_enum K (pi_enum rfl B.enumerate (pa_cons (k_fld K (pe_fld (pv 0) rfl)) pa_nil))) (blkOk_by (N := N_S_reached) (sc := defScope HD.s_S_reached) (by decide +kernel)) (fun _ _ _ _ _ => (k_gtup K (pg_tup (n := 2) rfl (pgs_cons (pg_name (i := 1) sc_S_reached.nd rfl (.inl rfl)) (pgs_cons (pg_name (i := 2) sc_S_reached.nd rfl (.inl rfl)) pgs_nil))))) (fun _ _ _ _ _ => (pts_one (pt_val (pv 2)))) (fun _ _ _ _ _ => (pv 1))) pa_nil)))), ?_⟩
  have hev : EvD K (tFld K (tVar 0) "even") (start N_S_reached [.ref A.a]) H (.list ((List.range n).map fun v => PyData.bool (st.ev v))) := evd_of (ev_fld c rfl S c.even rfl) fun H5 e5 => .lst (sq_of (e5 _ _ S.he)) (val_dpa (fun a => .bl _) _)
  have hz : (List.range ((List.range n).map fun v => PyData.bool (st.ev v)).length).zip ((List.range n).map fun v => PyData.bool (st.ev v)) = (List.range n).map fun v => (v, PyData.bool (st.ev v)) := by
    rw [List.length_map, List.length_range]
    apply List.ext_getElem?
    intro i
    by_cases hi : i < n
    · simp [List.zip, List.getElem?_range hi, hi]
    · rw [List.getElem?_eq_none (by simp; omega), List.getElem?_eq_none (by simp; omega)]
  have hiv := iv_enum hev
  rw [hz] at hiv
  refine s_retQ (evd_tupOf (evn_d (EvN.data (evnl_lc (p := st.ev) (d := dN) hiv.of_map (sz_of (by simp; omega)) tupD_N fun e x H1 he ex hx => ?_) rfl))) hq (Ex.refl _)
  obtain ⟨y, z, hy, hz, k⟩ := g_two hx
  cases dp_int hy
  cases dp_bl hz
  exact ⟨_, fun Q q => k Q ⟨_, [_], rfl, _, [], rfl, rfl, q⟩, rfl, et_B (ev_var rfl), fun _ => evd_int (ev_var rfl)⟩
end
end WK
/-! ### W5 -/
set_option Elab.async false
set_option linter.all false
set_option maxRecDepth 100000
set_option maxHeartbeats 4000000
/-! the search object is made -/
namespace WK
open PySem PySem.Spec PyProof.Rows L2 Evl DX DL KM C8
abbrev N_S_init : List Str := ["self", "near", "plan", "root", "one", "other", "person"]
theorem sc_S_init : FnScope N_S_init ["self", "near", "plan", "root"] (defScope HD.s_S_init) := ⟨rfl, rfl, rfl, by decide +kernel, rfl, by decide +kernel, by decide +kernel⟩
theorem lst_ne {a q C dx : Addr} {fs : List (Str × V)} {xs : List V} {Hq Hr : Hp} (h1 : Hq a = some (.ins C dx fs)) (e : Ex Hq Hr) (h2 : Hr q = some (.lst xs)) : q ≠ a := fun z => by
  have h3 := e _ _ h1
  rw [← z, h2] at h3
  cases h3
section
variable {K : PySem.W.Frag} {σ : L2.St} {H : Hp} {ta tb te : TE} {D : Ends} {tz : TS}
theorem q_fldset {i : Nat} {f : Str} {a C dx : Addr} {fs : List (Str × V)} {y : V} (c : Cls K C) (na : NoAttr K C f) (hσ : σ[i]? = some (some (.ref a))) (h : Ev te σ H y) (ha : H a = some (.ins C dx fs)) (hl : fs.length < 1000) (k : ∀ H1, Ex H H1 → tz D σ (upd H1 a (.ins C dx (putF f y fs)))) :
    tSeq (sFld K (tVar i) te f) tz D σ H := h H (Ex.refl H) _ fun H1 e1 => ⟨_, hσ, a, C, dx, fs, rfl, e1 _ _ ha, c, na, hl, k H1 e1⟩
theorem s_fldsetL {i : Nat} {f : Str} {a C dx : Addr} {fs : List (Str × V)} {xs : List V} (c : Cls K C) (na : NoAttr K C f) (hσ : σ[i]? = some (some (.ref a))) (h : EvL te σ H xs) (ha : H a = some (.ins C dx fs)) (hl : fs.length < 1000)
    (k : ∀ p H1, H p = none → Ex H H1 → H1 p = some (.lst xs) → D.nx σ (upd H1 a (.ins C dx (putF f (.ref p) fs)))) :
    sFld K (tVar i) te f D σ H := h H (Ex.refl H) _ fun p H1 hp e1 h1 => ⟨_, hσ, a, C, dx, fs, rfl, e1 _ _ ha, c, na, hl, k p H1 hp e1 h1⟩
theorem q_fldsetL {i : Nat} {f : Str} {a C dx : Addr} {fs : List (Str × V)} {xs : List V} (c : Cls K C) (na : NoAttr K C f) (hσ : σ[i]? = some (some (.ref a))) (h : EvL te σ H xs) (ha : H a = some (.ins C dx fs)) (hl : fs.length < 1000)
    (k : ∀ p H1, H p = none → Ex H H1 → H1 p = some (.lst xs) → tz D σ (upd H1 a (.ins C dx (putF f (.ref p) fs)))) :
    tSeq (sFld K (tVar i) te f) tz D σ H := s_fldsetL (D := { D with nx := tz D }) c na hσ h ha hl k
theorem el_rep {n : Nat} (hn : n ≤ 1000) (h : Ev tb σ H (.int (n : Int))) : EvL (tOp rRep (tLst (tCons (tC .non) tNil)) tb) σ H ((List.range n).map fun _ => V.non) := fun H1 e Q q =>
  el_lst (σ := σ) (H := H) (ea_cons ev_c ea_nil) (by show 1 ≤ 100000; decide) H1 e _ fun p H2 hp e2 h2 => h H2 (e.trans e2) _ fun H3 e3 => by
    refine ⟨p, (n : Int), [.non], rfl, rfl, e3 _ _ h2, by omega, by omega, ?_, fun q0 hq0 => ?_⟩
    · refine Nat.le_trans ?_ (show 100000 ≤ sizeLine by decide)
      simp; omega
    · have : (List.replicate (n : Int).toNat [V.non]).flatten = (List.range n).map fun _ => V.non := by
        rw [Int.toNat_natCast, List.flatten_replicate_singleton]
        symm
        rw [List.eq_replicate_iff]
        simp
      rw [this]
      exact q q0 _ (fresh_back (e2.trans e3) hq0) ((e2.trans e3).trans (Ex.new hq0)) upd_same
theorem el_lrg {n : Nat} (hn : n ≤ 1000) (h : Ev tb σ H (.int (n : Int))) : EvL (tLstRg (tRg1 tb)) σ H ((List.range n).map vN) := fun H1 e Q q =>
  h H1 e _ fun H2 e2 => ⟨(n : Int), rfl, RgOk.of_le (by omega) (by omega) (by omega) (by omega), fun q0 hq0 => by
    have : rgV 0 (n : Int) = (List.range n).map vN := by
      unfold rgV
      rw [show ((n : Int) - 0).toNat = n by omega]
      apply List.map_congr_left
      intro i _
      show V.int (0 + (i : Int)) = V.int (i : Int)
      congr 1; omega
    rw [this]
    exact q q0 _ (fresh_back e2 hq0) (e2.trans (Ex.new hq0)) upd_same⟩
theorem el_of {α : Type} {l : List α} {d : α → PyData} {g : α → V} (h : EvNl K te σ H (l.map d)) (hg : ∀ a v (H1 : Hp), Dp K H1 v (d a) → v = g a) : EvL te σ H (l.map g) := fun H1 e Q q =>
  h H1 e _ fun p ys H2 hp e2 h2 hd => by
    rw [dpa_val (fun a v h => hg a v H2 h) hd] at h2
    exact q p H2 hp e2 h2
/-- a for over a tuple that stood before -/
theorem s_for0 {g : TG} {tb : TS} {ds : List PyData} {H0 : Hp} {v : V} (h : Ev te σ H v) (hd : Dp K H0 v (.tuple ds)) (h0H : Ex H0 H) (Pv : Nat → L2.St → Hp → Prop) (hx : ∀ i σ1 H1, Pv i σ1 H1 → Ex H0 H1) (h0 : ∀ H1, Ex H H1 → Pv 0 σ H1)
    (hs : ∀ i d x σ1 H1, ds[i]? = some d → Pv i σ1 H1 → Dp K H0 x d → g x σ1 H1 fun σ2 H2 => tb { D with nx := Pv (i + 1), ct := Pv (i + 1), bk := D.nx } σ2 H2)
    (he : ∀ σ1 H1, Pv ds.length σ1 H1 → D.nx σ1 H1) : tFor (iTup K te) g tb D σ H :=
  h H (Ex.refl H) _ fun H2 e2 => by
    obtain ⟨a, xs, rfl, hsq, hxs⟩ := dp_tup hd
    have n1 := dpAll_length hxs
    refine ⟨a, rfl, ⟨xs, ex_t (h0H.trans e2) hsq⟩, for_it (walk_tup (xs := xs)) Pv (h0 H2 e2) (fun i σ1 H1 _ p => ex_t (hx i σ1 H1 p) hsq) (fun i x σ1 H3 H4 hi p y => ?_) fun σ1 H1 p => he σ1 H1 (by rw [← n1]; exact p)⟩
    obtain ⟨rfl, hy⟩ := y
    obtain ⟨d, h1, h2⟩ := dpAll_get hxs hy
    exact hs i d x σ1 H4 h1 p h2
theorem q_for0 {g : TG} {tb : TS} {ds : List PyData} {H0 : Hp} {v : V} (h : Ev te σ H v) (hd : Dp K H0 v (.tuple ds)) (h0H : Ex H0 H) (Pv : Nat → L2.St → Hp → Prop) (hx : ∀ i σ1 H1, Pv i σ1 H1 → Ex H0 H1) (h0 : ∀ H1, Ex H H1 → Pv 0 σ H1)
    (hs : ∀ i d x σ1 H1, ds[i]? = some d → Pv i σ1 H1 → Dp K H0 x d → g x σ1 H1 fun σ2 H2 => tb { D with nx := Pv (i + 1), ct := Pv (i + 1), bk := tz D } σ2 H2)
    (he : ∀ σ1 H1, Pv ds.length σ1 H1 → tz D σ1 H1) : tSeq (tFor (iTup K te) g tb) tz D σ H := s_for0 (D := { D with nx := tz D }) h hd h0H Pv hx h0 hs he
end
section
variable {P : Program} {w : World} {K : PySem.W.Frag} {mg : Str → Option Value} {base : Heap} {f : Addr} {fd : FuncData} {C : Addr}
theorem makD {x qual : Str} {st : Stmt} {N ps : List Str} {k : Nat} {sp : Sp} (M : Mk K C f) (hm : mg x = some (.ref C)) (F : FnP K "__init__" qual st f fd) (S : FnScope N ps (defScope st)) (b : Binds K fd ps []) (len : ∀ vs H Q E, sp vs H Q E → vs.length = ps.length)
    (hbody : ∀ (cdv : Value) (A : Around) (outer : List PySem.Env) (s : Shared) (H : Hp) (vs : List V) (Q : VK) (E : XK), Room k (A.deeper (envOfC qual (defScope st) s.heap.objs.size f cdv)) → sp vs H Q E →
      ∃ t, PSs (cxOf L2.CX0 P w K mg base N qual (defScope st) f cdv A outer s H E) (defBody st) t ∧ t { nx := fun _ H' => Q .non H', rt := Q } (start N vs) H) : C8.Mak P w K mg base (k + 1) x C sp [] :=
  ⟨f, fd, ps, [], M, F.ok S len hbody, hm, b, .nil⟩
variable (B : BI mg) (c : CF K C)
include B c
def spInit (K : PySem.W.Frag) (C : Addr) : Sp := fun vs H Q _ => ∃ (H0 : Hp) (a dx : Addr) (near plan : V) (l : List (List Nat)) (p : List Pr) (r : Nat), vs = [.ref a, near, plan, vN r] ∧ H0 a = none ∧ H0 dx = none ∧ dx ≠ a ∧ H = upd (upd H0 dx (.own a)) a (.ins C dx []) ∧
  Dp K H0 near (.list (l.map dNs)) ∧ l.length ≤ 1000 ∧ Dp K H0 plan (dPs p) ∧ (∀ e ∈ p, e.1 < l.length ∧ e.2 < l.length) ∧ r < l.length ∧
  ∀ A H', A.a = a → SH C H0 A near l.length r (mfun p) (s0 r) [r] H' → Q .non H'
theorem ok_init (F : FnP K "__init__" "Search.__init__" HD.s_S_init f fd) (M : Mk K C f) (hm : mg "Search" = some (.ref C)) : C8.Mak P w K mg base 1 "Search" C (spInit K C) [] := by
  refine makD M hm F sc_S_init (F.bindsN fun _ _ _ _ _ _ us hl => match us, hl with | [_, _, _, _], _ => rfl) (fun vs H Q E h => ?_) fun cdv Ar outer s H vs Q Ek hr h => ?_
  · obtain ⟨H0, a, dx, near, plan, l, p, r, rfl, _⟩ := h; rfl
  obtain ⟨H0, a, dx, near, plan, l, p, r, rfl, n1, n2, hda, hH, hnear, hl, hplan, hpl, hrl, hq⟩ := h
  refine ⟨_, PSs.nox (pss_cons (k_sfld K (ps_fld (pv 0) (pv 1) rfl))
    (pss_cons (k_sfld K (ps_fld (pv 0) (pv 3) rfl))
    (pss_cons (k_sfld K (ps_fld (pv 0) (pe_op op_rep (pe_lst (pa_cons pe_non pa_nil)) (pe_callB (cr_lenK K) rfl B.len (by decide +kernel) (pa_cons (pv 1) pa_nil))) rfl))
    (pss_cons (ps_for PassesOwn.never rfl (k_tup K (pi_tup (pv 2))) (k_gtup K (pg_tup (n := 2) rfl (pgs_cons (pg_name (i := 4) sc_S_init.nd rfl (.inl rfl)) (pgs_cons (pg_name (i := 5) sc_S_init.nd rfl (.inl rfl)) pgs_nil)))) (pss_one (ps_asg (pe_tup (pa_cons (pv 5) (pa_cons (pv 4) pa_nil))) (k_gtup K (pg_tup (n := 2) rfl (pgs_cons (pg_sub (k_fld K (pe_fld (pv 0) rfl)) (pv 4) set_list) (pgs_cons (pg_sub (k_fld K (pe_fld (pv 0) rfl)) (pv 5) set_list) pgs_nil)))))))
    (pss_cons (k_sfld K (ps_fld (pv 0) (pe_op op_rep (pe_lst (pa_cons pe_non pa_nil)) (pe_callB (cr_lenK K) rfl B.len (by decide +kernel) (pa_cons (pv 1) pa_nil))) rfl))
    (pss_cons (k_sfld K (ps_fld (pv 0) (pe_listRg rfl rfl B.list (prg_1 rfl B.range (pe_callB (cr_lenK K) rfl B.len (by decide +kernel) (pa_cons (pv 1) pa_nil)))) rfl))
    (pss_cons (k_sfld K (ps_fld (pv 0) (pe_lc (own := [("person", 6)]) rfl sc_S_init.nd  (pi_range1 rfl B.range (pa_cons (pe_callB (cr_lenK K) rfl B.len (by decide +kernel) (pa_cons (pv 1) pa_nil)) pa_nil)) (blkOk_by (N := N_S_init) (sc := defScope HD.s_S_init) (by decide +kernel)) (fun _ _ _ _ _ => (pg_name (i := 6) sc_S_init.nd rfl (.inl rfl))) (fun _ _ _ _ _ => pts_nil) (fun _ _ _ _ _ => (pe_cmpR op_eq (pv 6) (pv 3) (nomark _)))) rfl))
    (pss_one (k_sfld K (ps_fld (pv 0) (pe_lst (pa_cons (pv 3) pa_nil)) rfl)))))))))), ?_⟩
  have e0 : Ex H0 H := by rw [hH]; exact Ex.mut (Ex.new n2) n1
  have ha : H a = some (.ins C dx []) := by rw [hH]; exact upd_same
  have lenN : ∀ {σ : L2.St} {H1 : Hp}, Ex H0 H1 → σ[1]? = some (some near) → Ev (tCB (rLenS K) (tCons (tVar 1) tNil)) σ H1 (.int (l.length : Int)) := fun e hσ => ev_is (ev_lenL (evd_var hσ (dp_mono e hnear))) (by rw [List.length_map])
  refine q_fldset c.cl c.near rfl (ev_var rfl) ha (by decide) fun H1 e1 => ?_
  have x1 : Ex H0 (upd H1 a (.ins C dx [("near", near)])) := Ex.mut (e0.trans e1) n1
  refine q_fldset (fs := [("near", near)]) c.cl c.root rfl (ev_var rfl) upd_same (by show 1 < 1000; decide) fun H2 e2 => ?_
  have x2 : Ex H0 (upd H2 a (.ins C dx [("near", near), ("root", vN r)])) := Ex.mut (x1.trans e2) n1
  refine q_fldsetL (fs := [("near", near), ("root", vN r)]) c.cl c.mates rfl (el_rep hl (lenN x2 rfl)) upd_same (by show 2 < 1000; decide) fun pm H3 npm e3 hpm => ?_
  have hpa : pm ≠ a := fun e => by rw [e, upd_same] at npm; cases npm
  have x3 : Ex H0 (upd H3 a (.ins C dx [("near", near), ("root", vN r), ("mates", .ref pm)])) := Ex.mut (x2.trans e3) n1
  have npm0 : H0 pm = none := fresh_back x2 npm
  refine q_for0 (H0 := H0) (ds := p.map dP) (ev_var rfl) hplan x3 (fun i σ1 H1 => (∃ u v, σ1 = [some (.ref a), some near, some plan, some (vN r), u, v, none]) ∧ Ex H0 H1 ∧ H1 a = some (.ins C dx [("near", near), ("root", vN r), ("mates", .ref pm)]) ∧ H1 pm = some (fl l.length (mfun (p.take i)) vO)) (fun i σ1 H1 h => h.2.1) ?_ ?_ ?_
  · intro H4 e4
    exact ⟨⟨none, none, rfl⟩, x3.trans e4, e4 _ _ upd_same, e4 _ _ ((upd_ne hpa).trans hpm)⟩
  · rintro i d x σ1 H4 hi ⟨⟨u, v, rfl⟩, x4, ha4, hp4⟩ hx
    rw [List.getElem?_map] at hi
    cases he : p[i]? with
    | none => rw [he] at hi; cases hi
    | some e =>
      rw [he] at hi
      cases hi
      obtain ⟨b1, b2⟩ := hpl e (List.mem_of_getElem? he)
      obtain ⟨y, z, hy, hz, kk⟩ := g_two (dp_mono x4 hx)
      cases dp_int hy
      cases dp_int hz
      refine kk _ ⟨_, [_], rfl, _, [], rfl, rfl, ?_⟩
      refine ⟨_, rfl, _, rfl, by show 2 ≤ sizeLine; decide, fun T hT => ⟨T, [vN e.2, vN e.1], rfl, st_of upd_same, rfl, _, _, rfl, ?_⟩⟩
      have hTa : a ≠ T := ne_of_none ha4 hT
      have hTp : pm ≠ T := ne_of_none hp4 hT
      refine ⟨.ref a, rfl, a, C, dx, _, .ref pm, rfl, (upd_ne hTa).trans ha4, c.cl, c.mates, rfl, vN e.1, rfl, pm, _, (e.1 : Int), e.1, rfl, rfl, (upd_ne hTp).trans hp4, ixN_nat (by simpa using b1), _, _, rfl, ?_⟩
      refine ⟨.ref a, rfl, a, C, dx, _, .ref pm, rfl, (upd_ne hpa.symm).trans ((upd_ne hTa).trans ha4), c.cl, c.mates, rfl, vN e.2, rfl, pm, _, (e.2 : Int), e.2, rfl, rfl, upd_same, ixN_nat (by simpa using b2), rfl, ⟨_, _, rfl⟩, ?_, ?_, ?_⟩
      · exact Ex.mut (Ex.mut (x4.trans (Ex.new hT)) npm0) npm0
      · rw [upd_ne hpa.symm, upd_ne hpa.symm, upd_ne hTa]; exact ha4
      · rw [upd_same]
        have e1 := range_put (mfun (p.take i)) vO l.length e.1 (some e.2)
        have e2 := range_put (fup (mfun (p.take i)) e.1 (some e.2)) vO l.length e.2 (some e.1)
        have e3 : mfun (p.take (i + 1)) = fup (fup (mfun (p.take i)) e.1 (some e.2)) e.2 (some e.1) := by
          rw [List.take_succ, he]
          exact mfun_snoc _ _
        rw [e3]
        show some (HO.lst ((((List.range l.length).map fun v => vO (mfun (p.take i) v)).set e.1 (vO (some e.2))).set e.2 (vO (some e.1)))) = _
        rw [e1, e2]
  · rintro σ1 H4 ⟨⟨u, v, rfl⟩, x4, ha4, hp4⟩
    rw [List.length_map, List.take_length] at hp4
    refine q_fldsetL (fs := [("near", near), ("root", vN r), ("mates", .ref pm)]) c.cl c.back rfl (el_rep hl (lenN x4 rfl)) ha4 (by show 3 < 1000; decide) fun pb H5 npb e5 hpb => ?_
    have hba := lst_ne ha4 e5 hpb
    have x5 : Ex H0 (upd H5 a (.ins C dx [("near", near), ("root", vN r), ("mates", .ref pm), ("back", .ref pb)])) := Ex.mut (x4.trans e5) n1
    have npb0 : H0 pb = none := fresh_back x4 npb
    have hmb : pm ≠ pb := ne_of_none hp4 npb
    have hm5 : upd H5 a (.ins C dx [("near", near), ("root", vN r), ("mates", .ref pm), ("back", .ref pb)]) pm = some (fl l.length (mfun p) vO) := (upd_ne hpa).trans (e5 _ _ hp4)
    have hb5 : upd H5 a (.ins C dx [("near", near), ("root", vN r), ("mates", .ref pm), ("back", .ref pb)]) pb = some (fl l.length (s0 r).bk vO) := (upd_ne hba).trans hpb
    refine q_fldsetL (fs := [("near", near), ("root", vN r), ("mates", .ref pm), ("back", .ref pb)]) c.cl c.base rfl (el_lrg hl (lenN x5 rfl)) upd_same (by show 4 < 1000; decide) fun ps H6 nps e6 hps => ?_
    have hsa := lst_ne (Hq := upd H5 a _) upd_same e6 hps
    have x6 : Ex H0 (upd H6 a (.ins C dx [("near", near), ("root", vN r), ("mates", .ref pm), ("back", .ref pb), ("base", .ref ps)])) := Ex.mut (x5.trans e6) n1
    have nps0 : H0 ps = none := fresh_back x5 nps
    have hms : pm ≠ ps := ne_of_none hm5 nps
    have hbs : pb ≠ ps := ne_of_none hb5 nps
    have hm6 : upd H6 a (.ins C dx [("near", near), ("root", vN r), ("mates", .ref pm), ("back", .ref pb), ("base", .ref ps)]) pm = some (fl l.length (mfun p) vO) := (upd_ne hpa).trans (e6 _ _ hm5)
    have hb6 : upd H6 a (.ins C dx [("near", near), ("root", vN r), ("mates", .ref pm), ("back", .ref pb), ("base", .ref ps)]) pb = some (fl l.length (s0 r).bk vO) := (upd_ne hba).trans (e6 _ _ hb5)
    have hs6 : upd H6 a (.ins C dx [("near", near), ("root", vN r), ("mates", .ref pm), ("back", .ref pb), ("base", .ref ps)]) ps = some (fl l.length (s0 r).bs vN) := (upd_ne hsa).trans hps
    refine q_fldsetL (fs := [("near", near), ("root", vN r), ("mates", .ref pm), ("back", .ref pb), ("base", .ref ps)]) (xs := (List.range l.length).map fun v => V.bl (decide (v = r))) c.cl c.even rfl ?_ upd_same (by show 5 < 1000; decide) fun pe H7 npe e7 hpe => ?_
    · refine el_of (K := K) (d := fun v : Nat => PyData.bool (decide (v = r))) (evnl_lc0 (iv_rng (n := l.length) (lenN x6 rfl) (by omega)) (sz_of (by simp; omega)) (fun _ => rfl) fun e x H7 he ex hx => ?_) fun a v H1 h => dp_bl h
      subst hx
      exact ⟨_, fun Q q => q, rfl, evd_bl (ev_eqN (n := e) (m := r) (ev_var rfl) (ev_var rfl))⟩
    have hea := lst_ne (Hq := upd H6 a _) upd_same e7 hpe
    have x7 : Ex H0 (upd H7 a (.ins C dx [("near", near), ("root", vN r), ("mates", .ref pm), ("back", .ref pb), ("base", .ref ps), ("even", .ref pe)])) := Ex.mut (x6.trans e7) n1
    have npe0 : H0 pe = none := fresh_back x6 npe
    have hme : pm ≠ pe := ne_of_none hm6 npe
    have hbe : pb ≠ pe := ne_of_none hb6 npe
    have hse : ps ≠ pe := ne_of_none hs6 npe
    have hm7 : upd H7 a (.ins C dx [("near", near), ("root", vN r), ("mates", .ref pm), ("back", .ref pb), ("base", .ref ps), ("even", .ref pe)]) pm = some (fl l.length (mfun p) vO) := (upd_ne hpa).trans (e7 _ _ hm6)
    have hb7 : upd H7 a (.ins C dx [("near", near), ("root", vN r), ("mates", .ref pm), ("back", .ref pb), ("base", .ref ps), ("even", .ref pe)]) pb = some (fl l.length (s0 r).bk vO) := (upd_ne hba).trans (e7 _ _ hb6)
    have hs7 : upd H7 a (.ins C dx [("near", near), ("root", vN r), ("mates", .ref pm), ("back", .ref pb), ("base", .ref ps), ("even", .ref pe)]) ps = some (fl l.length (s0 r).bs vN) := (upd_ne hsa).trans (e7 _ _ hs6)
    have he7 : upd H7 a (.ins C dx [("near", near), ("root", vN r), ("mates", .ref pm), ("back", .ref pb), ("base", .ref ps), ("even", .ref pe)]) pe = some (fl l.length (s0 r).ev V.bl) := (upd_ne hea).trans hpe
    refine s_fldsetL (fs := [("near", near), ("root", vN r), ("mates", .ref pm), ("back", .ref pb), ("base", .ref ps), ("even", .ref pe)]) (xs := [vN r]) c.cl c.left rfl (el_lst (ea_cons (ev_var rfl) ea_nil) (by show 1 ≤ 100000; decide)) upd_same (by show 6 < 1000; decide) fun pl H8 npl e8 hpl => ?_
    have hla := lst_ne (Hq := upd H7 a _) upd_same e8 hpl
    have npl0 : H0 pl = none := fresh_back x7 npl
    refine hq ⟨a, dx, pm, pb, ps, pe, pl⟩ _ rfl ⟨Ex.mut (x7.trans e8) n1, ?_, ?_, upd_same, (upd_ne hpa).trans (e8 _ _ hm7), (upd_ne hba).trans (e8 _ _ hb7), (upd_ne hsa).trans (e8 _ _ hs7), (upd_ne hea).trans (e8 _ _ he7), (upd_ne hla).trans hpl⟩
    · intro q hq
      simp only [List.mem_cons, List.not_mem_nil, or_false] at hq
      rcases hq with e | e | e | e | e | e <;> rw [e] <;> assumption
    · have u1 : pm ≠ pl := ne_of_none hm7 npl
      have u2 : pb ≠ pl := ne_of_none hb7 npl
      have u3 : ps ≠ pl := ne_of_none hs7 npl
      have u4 : pe ≠ pl := ne_of_none he7 npl
      simp only [List.nodup_cons, List.mem_cons, List.not_mem_nil, or_false, not_or, List.nodup_nil, and_true, not_false_eq_true]
      exact ⟨⟨hmb, hms, hme, u1⟩, ⟨hbs, hbe, u2⟩, ⟨hse, u3⟩, u4⟩
end
end WK
/-! ### W6 -/
set_option Elab.async false
set_option linter.all false
set_option maxRecDepth 100000
set_option maxHeartbeats 4000000
/-! shrink -/
namespace WK
open PySem PySem.Spec PyProof.Rows L2 Evl DX DL KM C8
abbrev N_S_shrink : List Str := ["self", "one", "other", "top", "within", "person", "behind", "mate"]
theorem sc_S_shrink : FnScope N_S_shrink ["self", "one", "other"] (defScope HD.s_S_shrink) := ⟨rfl, rfl, rfl, by decide +kernel, rfl, by decide +kernel, by decide +kernel⟩
def wlist (E : KM.Env) (st : SS) (P : List Nat) : List Nat := P.flatMap fun p => [st.bs p, st.bs ((E.m p).getD 0)]
theorem relink_lt {n : Nat} {m : Nat → Option Nat} (hm : ∀ {u v}, m u = some v → v < n) (h0 : 0 < n) : ∀ (P : List Nat) (bk : Nat → Option Nat) (beh : Nat), (∀ {u v}, bk u = some v → v < n) → beh < n → ∀ {u v}, relink m bk P beh u = some v → v < n
  | [], bk, beh, hb, _, u, v, h => hb h
  | p :: P, bk, beh, hb, hbe, u, v, h => by
    refine relink_lt hm h0 P (fup bk p (some beh)) ((m p).getD 0) ?_ ?_ h
    · intro u v h
      unfold fup at h
      split at h
      · cases h; exact hbe
      · exact hb h
    · cases hq : m p with
      | none => exact h0
      | some o => exact hm hq
theorem ch_inv {E : KM.Env} {s : SS} {v : Nat} {l : List Nat} (h : Ch E s v l) (hl : 2 ≤ l.length) : ∃ o w L, l = v :: L ∧ E.m v = some o ∧ s.bk o = some w ∧ Ch E s w L := by
  cases h with
  | root => simp at hl
  | step h1 h2 h3 h4 => exact ⟨_, _, _, rfl, h2, h3, h4⟩
theorem in_wlist {E : KM.Env} {st : SS} {P Q : List Nat} (hP : ∀ p ∈ P, ∃ o, E.m p = some o) (hQ : ∀ p ∈ Q, ∃ o, E.m p = some o) (b : Nat) : b ∈ wlist E st P ++ wlist E st Q ↔ InW E st P Q b := by
  simp only [List.mem_append, wlist, List.mem_flatMap, List.mem_cons, List.not_mem_nil, or_false]
  constructor
  · rintro (⟨p, hp, h⟩ | ⟨p, hp, h⟩)
    · obtain ⟨o, ho⟩ := hP p hp
      refine ⟨p, .inl hp, ?_⟩
      rw [ho] at h
      exact h.imp id fun h => ⟨o, ho, h⟩
    · obtain ⟨o, ho⟩ := hQ p hp
      refine ⟨p, .inr hp, ?_⟩
      rw [ho] at h
      exact h.imp id fun h => ⟨o, ho, h⟩
  · rintro ⟨p, hp | hp, h⟩
    · obtain ⟨o, ho⟩ := hP p hp
      refine .inl ⟨p, hp, ?_⟩
      rw [ho]
      rcases h with h | ⟨o', ho', h⟩
      · exact .inl h
      · rw [ho] at ho'; cases ho'; exact .inr h
    · obtain ⟨o, ho⟩ := hQ p hp
      refine .inr ⟨p, hp, ?_⟩
      rw [ho]
      rcases h with h | ⟨o', ho', h⟩
      · exact .inl h
      · rw [ho] at ho'; cases ho'; exact .inr h
section
variable {C : Addr} {H0 H H' : Hp} {A : Ad} {near : V} {n r : Nat} {m : Nat → Option Nat} {st : SS} {L : List Nat}
theorem SH.other (S : SH C H0 A near n r m st L H) {p : Addr} {o : HO} (h0 : H0 p = none) (hp : p ∉ [A.a, A.pm, A.pb, A.ps, A.pe, A.pl]) : SH C H0 A near n r m st L (upd H p o) := by
  simp only [List.mem_cons, List.not_mem_nil, or_false, not_or] at hp
  obtain ⟨q0, q1, q2, q3, q4, q5⟩ := hp
  exact ⟨Ex.mut S.ex h0, S.n0, S.nd, (upd_ne (Ne.symm q0)).trans S.ho, (upd_ne (Ne.symm q1)).trans S.hm, (upd_ne (Ne.symm q2)).trans S.hb, (upd_ne (Ne.symm q3)).trans S.hs, (upd_ne (Ne.symm q4)).trans S.he, (upd_ne (Ne.symm q5)).trans S.hl⟩
theorem SH.fresh (S : SH C H0 A near n r m st L H) {p : Addr} (h : H p = none) : H0 p = none ∧ p ∉ [A.a, A.pm, A.pb, A.ps, A.pe, A.pl] := by
  refine ⟨fresh_back S.ex h, ?_⟩
  simp only [List.mem_cons, List.not_mem_nil, or_false, not_or]
  exact ⟨(ne_of_none S.ho h).symm, (ne_of_none S.hm h).symm, (ne_of_none S.hb h).symm, (ne_of_none S.hs h).symm, (ne_of_none S.he h).symm, (ne_of_none S.hl h).symm⟩
end
section
variable {K : PySem.W.Frag} {σ : L2.St} {H : Hp} {te : TE} {D : Ends} {tz : TS}
/-- a for over a new tuple without lists, whose body changes lists only -/
theorem s_forX {g : TG} {tb : TS} {ds : List PyData} (h : EvD K te σ H (.tuple ds)) (ht : tupDs ds = true) (Pv : Nat → L2.St → Hp → Prop) (h0 : ∀ H1, Ex H H1 → Pv 0 σ H1)
    (hs : ∀ i d x σ1 H1 Hs, ds[i]? = some d → Pv i σ1 H1 → ExT Hs H1 → Dp K H1 x d → g x σ1 H1 fun σ2 H2 => tb { D with nx := fun σ3 H3 => ExT Hs H3 ∧ Pv (i + 1) σ3 H3, ct := fun σ3 H3 => ExT Hs H3 ∧ Pv (i + 1) σ3 H3, bk := D.nx } σ2 H2)
    (he : ∀ σ1 H1, Pv ds.length σ1 H1 → D.nx σ1 H1) : tFor (iTup K te) g tb D σ H :=
  h H (Ex.refl H) _ fun v H2 e2 hv => by
    obtain ⟨a, xs, rfl, hsq, hxs⟩ := dp_tup hv
    have n1 := dpAll_length hxs
    refine ⟨a, rfl, ⟨xs, hsq⟩, for_it (walk_tup (xs := xs)) (fun i σ1 H1 => ExT H2 H1 ∧ Pv i σ1 H1) ⟨ExT.refl _, h0 H2 e2⟩ (fun i σ1 H1 _ p => sqt_monoT p.1 hsq) (fun i x σ1 H3 H4 hi p y => ?_) fun σ1 H1 p => he σ1 H1 (by rw [← n1]; exact p.2)⟩
    obtain ⟨rfl, hy⟩ := y
    obtain ⟨d, h1, h2⟩ := dpAll_get (dpa_monoT p.1 ht hxs) hy
    exact hs i d x σ1 H4 H2 h1 p.2 p.1 h2
theorem q_forX {g : TG} {tb : TS} {ds : List PyData} (h : EvD K te σ H (.tuple ds)) (ht : tupDs ds = true) (Pv : Nat → L2.St → Hp → Prop) (h0 : ∀ H1, Ex H H1 → Pv 0 σ H1)
    (hs : ∀ i d x σ1 H1 Hs, ds[i]? = some d → Pv i σ1 H1 → ExT Hs H1 → Dp K H1 x d → g x σ1 H1 fun σ2 H2 => tb { D with nx := fun σ3 H3 => ExT Hs H3 ∧ Pv (i + 1) σ3 H3, ct := fun σ3 H3 => ExT Hs H3 ∧ Pv (i + 1) σ3 H3, bk := tz D } σ2 H2)
    (he : ∀ σ1 H1, Pv ds.length σ1 H1 → tz D σ1 H1) : tSeq (tFor (iTup K te) g tb) tz D σ H := s_forX (D := { D with nx := tz D }) h ht Pv h0 hs he
end
section
variable (st : SS) (WL : List Nat) (top : Nat)
def bsA (i : Nat) : Nat → Nat := fun v => if v < i ∧ st.bs v ∈ WL then top else st.bs v
def evA (i : Nat) : Nat → Bool := fun v => st.ev v || (decide (v < i) && decide (st.bs v ∈ WL))
def addA (i : Nat) : List Nat := (List.range i).filter fun v => decide (st.bs v ∈ WL) && !st.ev v
theorem bsA_0 : bsA st WL top 0 = st.bs := by funext v; simp [bsA]
theorem evA_0 : evA st WL 0 = st.ev := by funext v; simp [evA]
theorem bsA_yes {i : Nat} (h : st.bs i ∈ WL) : fup (bsA st WL top i) i top = bsA st WL top (i + 1) := by
  funext v
  unfold fup bsA
  by_cases e : v = i
  · subst e; rw [if_pos rfl, if_pos ⟨by omega, h⟩]
  · rw [if_neg e]
    by_cases g : v < i ∧ st.bs v ∈ WL
    · rw [if_pos g, if_pos ⟨by omega, g.2⟩]
    · rw [if_neg g, if_neg (fun z => g ⟨by omega, z.2⟩)]
theorem bsA_no {i : Nat} (h : st.bs i ∉ WL) : bsA st WL top i = bsA st WL top (i + 1) := by
  funext v
  unfold bsA
  by_cases g : v < i ∧ st.bs v ∈ WL
  · rw [if_pos g, if_pos ⟨by omega, g.2⟩]
  · rw [if_neg g, if_neg (fun z => g ⟨by
      have : v ≠ i := fun e => h (by rw [← e]; exact z.2)
      omega, z.2⟩)]
theorem evA_yes {i : Nat} (h : st.bs i ∈ WL) : fup (evA st WL i) i true = evA st WL (i + 1) := by
  funext v
  unfold fup evA
  by_cases e : v = i
  · subst e; rw [if_pos rfl]; simp [h]
  · rw [if_neg e]
    have : decide (v < i) = decide (v < i + 1) := by rw [Bool.eq_iff_iff]; simp; omega
    rw [this]
theorem evA_no {i : Nat} (h : st.ev i = true ∨ st.bs i ∉ WL) : evA st WL i = evA st WL (i + 1) := by
  funext v
  unfold evA
  by_cases e : v = i
  · subst e
    rcases h with h | h <;> simp [h]
  · have : decide (v < i) = decide (v < i + 1) := by rw [Bool.eq_iff_iff]; simp; omega
    rw [this]
theorem addA_yes {i : Nat} (h : st.bs i ∈ WL) (g : st.ev i = false) : addA st WL (i + 1) = addA st WL i ++ [i] := by
  unfold addA; rw [List.range_succ, List.filter_append]; simp [h, g]
theorem addA_no {i : Nat} (h : st.ev i = true ∨ st.bs i ∉ WL) : addA st WL (i + 1) = addA st WL i := by
  unfold addA; rw [List.range_succ, List.filter_append]
  rcases h with h | h <;> simp [h]
end
section
variable {P : Program} {w : World} {K : PySem.W.Frag} {mg : Str → Option Value} {base : Heap} {f : Addr} {fd : FuncData} {C : Addr}
def tShrB (K : PySem.W.Frag) : TS := tSeq (tAsg (tOp (rIxL K) (tFld K (tVar 0) "mates") (tVar 5)) (gName 7))
  (tSeq (tDrop (tBM K "list" rExtend (tVar 4) (tCons (tLst (tCons (tOp (rIxL K) (tFld K (tVar 0) "base") (tVar 5)) (tCons (tOp (rIxL K) (tFld K (tVar 0) "base") (tVar 7)) tNil))) tNil)))
    (tSeq (tAsg (tVar 6) (gSub (tFld K (tVar 0) "back") (tVar 5) rSetL)) (tPar 6 5 (tCons (tVar 7) (tCons (tOp (rIxL K) (tFld K (tVar 0) "back") (tVar 7)) tNil)))))
def tShrW (K : PySem.W.Frag) : TS := tWhile (tTest (tOp rNe (tOp (rIxL K) (tFld K (tVar 0) "base") (tVar 5)) (tVar 3))) (tShrB K)
variable (c : CF K C)
include c
theorem shr_while {D : Ends} {E : KM.Env} {H0 H : Hp} {A : Ad} {near : V} {n : Nat} {st : SS} {L : List Nat} {one other top pw x beh : Nat} {mt : Option V} {bk0 : Nat → Option Nat} {W0 R0 T : List Nat} {t1 : Nat} {k : L2.St → Hp → Prop}
    (bd : Bd n E st) (I : KM.Inv E st) (hbk0 : ∀ {u v}, bk0 u = some v → v < n) (S : SH C H0 A near n E.r E.m ⟨bk0, st.bs, st.ev⟩ L H) (npw : H0 pw = none ∧ pw ∉ [A.a, A.pm, A.pb, A.ps, A.pe, A.pl]) (hpw : H pw = some (.lst (W0.map vN)))
    (hx : x < n) (hb : beh < n) (hc : Ch E st x (R0 ++ t1 :: T)) (hR : ∀ p ∈ R0, st.bs p ≠ top) (ht : st.bs t1 = top) (hrd : ∀ p ∈ R0, ∀ o, E.m p = some o → o ∉ R0 ∧ bk0 o = st.bk o) (hW : W0.length + 2 * R0.length ≤ 10000)
    (hk : ∀ x' b' mt' H', ExT H H' → SH C H0 A near n E.r E.m ⟨relink E.m bk0 R0 beh, st.bs, st.ev⟩ L H' → H' pw = some (.lst ((W0 ++ wlist E st R0).map vN)) →
      D.nx [some (.ref A.a), some (vN one), some (vN other), some (vN top), some (.ref pw), some (vN x'), some b', mt'] H') :
    tShrW K D [some (.ref A.a), some (vN one), some (vN other), some (vN top), some (.ref pw), some (vN x), some (vN beh), mt] H := by
  refine s_while (fun j σ' H' => ∃ R1 R x' b' bk' mt', R0 = R1 ++ R ∧ j = R.length ∧ σ' = [some (.ref A.a), some (vN one), some (vN other), some (vN top), some (.ref pw), some (vN x'), some (vN b'), mt'] ∧ x' < n ∧ b' < n ∧ Ch E st x' (R ++ t1 :: T) ∧
    (∀ {u v}, bk' u = some v → v < n) ∧ (∀ p ∈ R, ∀ o, E.m p = some o → o ∉ R ∧ bk' o = st.bk o) ∧ relink E.m bk' R b' = relink E.m bk0 R0 beh ∧ ExT H H' ∧ SH C H0 A near n E.r E.m ⟨bk', st.bs, st.ev⟩ L H' ∧ H' pw = some (.lst ((W0 ++ wlist E st R1).map vN)))
    R0.length ⟨[], R0, x, beh, bk0, mt, rfl, rfl, rfl, hx, hb, hc, hbk0, hrd, rfl, ExT.refl _, S, by simpa [wlist] using hpw⟩ ?_
  rintro j σ' H' ⟨R1, R, x', b', bk', mt', hR0, rfl, rfl, hx', hb', hc', hbk', hrd', hrl, hex, S', hpw'⟩
  have bas : ∀ {σ : L2.St} {H1 : Hp} {tb : TE} {v : Nat}, σ[0]? = some (some (.ref A.a)) → SH C H0 A near n E.r E.m ⟨bk', st.bs, st.ev⟩ L H1 → Ev tb σ H1 (.int (v : Int)) → v < n → Ev (tOp (rIxL K) (tFld K (tVar 0) "base") tb) σ H1 (.int (st.bs v : Int)) := fun hσ S h hv => ev_base (st := ⟨bk', st.bs, st.ev⟩) c hσ S h hv
  refine ⟨!decide (st.bs x' = top), et_test (ev_neN (bas rfl S' (ev_var rfl) hx') (ev_var rfl)), fun hbt H2 e2 => ?_, fun hbf H2 e2 => ?_⟩
  · have hne : st.bs x' ≠ top := by simpa using hbt
    have S2 := S'.mono e2
    have hp2 := e2 _ _ hpw'
    cases R with
    | nil =>
      exfalso
      obtain ⟨q, hq⟩ := hc'.head
      simp at hq
      exact hne (by rw [← hq.1]; exact ht)
    | cons p R =>
      obtain ⟨o, w, L', hl, hm, hbk, hcw⟩ := ch_inv hc' (by simp; omega)
      have hl' : p :: (R ++ t1 :: T) = x' :: L' := hl
      injection hl' with hxp hL'
      subst hxp
      subst hL'
      obtain ⟨ho, hbo⟩ := hrd' p (List.mem_cons_self ..) o hm
      have hon : o < n := bd.mt hm
      have hwn : w < n := bd.bk hbk
      have hop : o ≠ p := fun e => ho (by rw [e]; exact List.mem_cons_self ..)
      have hin : p ∈ R0 := by rw [hR0]; simp
      refine ⟨fun σ2 H3 => σ2 = [some (.ref A.a), some (vN one), some (vN other), some (vN top), some (.ref pw), some (vN w), some (vN o), some (vN o)] ∧ ExT H H3 ∧ SH C H0 A near n E.r E.m ⟨fup bk' p (some b'), st.bs, st.ev⟩ L H3 ∧ H3 pw = some (.lst ((W0 ++ wlist E st (R1 ++ [p])).map vN)), ?_, ?_⟩
      · rintro σ2 H3 ⟨rfl, h3, h4, h5⟩
        refine ⟨R.length, by simp, R1 ++ [p], R, w, o, fup bk' p (some b'), _, by rw [hR0]; simp, rfl, rfl, hwn, hon, hcw, ?_, ?_, ?_, h3, h4, h5⟩
        · intro u v h
          unfold fup at h
          split at h
          · cases h; exact hb'
          · exact hbk' h
        · intro p2 hp2 o2 ho2
          obtain ⟨q1, q2⟩ := hrd' p2 (List.mem_cons_of_mem _ hp2) o2 ho2
          refine ⟨fun h => q1 (List.mem_cons_of_mem _ h), ?_⟩
          rw [fup_ne (fun e => q1 (by rw [e]; exact List.mem_cons_self ..))]
          exact q2
        · rw [← hrl]
          show _ = relink E.m (fup bk' p (some b')) R ((E.m p).getD 0)
          rw [hm]; rfl
      · have hev : ∀ {σ : L2.St} {H1 : Hp}, Ex H2 H1 → True := fun _ => trivial
        refine q_asg (ev_some (ev_mates (i := 0) (v := p) c rfl S2 (ev_var rfl) hx') hm) fun H3 e3 => ?_
        have S3 := S2.mono e3
        have hp3 := e3 _ _ hp2
        refine q_ext (ys := [vN (st.bs p), vN (st.bs o)]) hp3 (ev_var rfl) (el_lst (ea_cons (bas rfl S3 (ev_var rfl) hx') (ea_cons (bas rfl S3 (ev_var rfl) hon) ea_nil)) (by show 2 ≤ 100000; decide)) ?_ fun H4 e4 => ?_
        · have h1 : R0.length = R1.length + (R.length + 1) := by rw [hR0]; simp
          have h2 : (wlist E st R1).length ≤ 2 * R1.length := by
            unfold wlist
            generalize R1 = l
            induction l with
            | nil => simp
            | cons a l ih => simp only [List.flatMap_cons, List.length_append, List.length_cons, List.length_nil]; omega
          simp
          omega
        have S4 : SH C H0 A near n E.r E.m ⟨bk', st.bs, st.ev⟩ L (upd H4 pw (.lst ((W0 ++ wlist E st R1).map vN ++ [vN (st.bs p), vN (st.bs o)]))) := (S3.mono e4).other npw.1 npw.2
        refine q_setL (l := A.pb) (j := p) S4.hb (ev_var rfl) (ev_fld c rfl S4 c.back rfl) (ev_var rfl) (by simpa using hx') fun H5 e5 => ?_
        have S5 : SH C H0 A near n E.r E.m ⟨fup bk' p (some b'), st.bs, st.ev⟩ L _ := (S4.mono e5).setBack p (some b')
        have pwb : pw ≠ A.pb := fun e => npw.2 (by rw [e]; simp)
        have hp5 : (upd H5 A.pb (.lst (((List.range n).map fun v => vO (bk' v)).set p (vO (some b'))))) pw = some (.lst ((W0 ++ wlist E st (R1 ++ [p])).map vN)) := by
          rw [upd_ne pwb, e5 _ _ upd_same]
          simp [wlist, hm]
        have rd : Ev (tOp (rIxL K) (tFld K (tVar 0) "back") (tVar 7)) [some (.ref A.a), some (vN one), some (vN other), some (vN top), some (.ref pw), some (vN p), some (vN b'), some (vN o)] (upd H5 A.pb (.lst (((List.range n).map fun v => vO (bk' v)).set p (vO (some b'))))) (.int (w : Int)) :=
          ev_some (ev_back (i := 0) (v := o) c rfl S5 (ev_var rfl) hon) (by show fup bk' p (some b') o = some w; rw [fup_ne hop, hbo]; exact hbk)
        refine ea_cons (ev_var (v := vN o) rfl) (ea_cons rd ea_nil) _ (Ex.refl _) _ fun H6 e6 => ⟨_, _, rfl, rfl, ?_, S5.mono e6, e6 _ _ hp5⟩
        have z1 : ExT H4 (upd H4 pw (.lst ((W0 ++ wlist E st R1).map vN ++ [vN (st.bs p), vN (st.bs o)]))) := ExT.put (e4 _ _ hp3)
        have z2 : ExT H5 (upd H5 A.pb (.lst (((List.range n).map fun v => vO (bk' v)).set p (vO (some b'))))) := ExT.put (e5 _ _ S4.hb)
        exact (hex.trans (Ex.toT ((e2.trans e3).trans e4))).trans (z1.trans ((Ex.toT e5).trans (z2.trans (Ex.toT e6))))
  · have hbe : st.bs x' = top := by simpa using hbf
    have hR : R = [] := by
      cases R with
      | nil => rfl
      | cons p R =>
        obtain ⟨q, hq⟩ := hc'.head
        have : p = x' := by simpa using congrArg List.head? hq
        exact absurd (by rw [this]; exact hbe) (hR p (by rw [hR0]; simp))
    subst hR
    rw [List.append_nil] at hR0
    subst hR0
    have hrl' : bk' = relink E.m bk0 R0 beh := hrl
    rw [← hrl'] at hk
    exact hk x' _ mt' H2 (hex.trans (Ex.toT e2)) (S'.mono e2) (e2 _ _ hpw')
omit c in
theorem shrunk_of {E : KM.Env} {st : SS} {n x y : Nat} {P Q T1 T2 : List Nat} {t1 t2 top : Nat} {X Y Z : List Nat} (bd : Bd n E st) (M : Meet E st x y P Q T1 T2 t1 t2 top X Y Z) :
    Shrunk E st ⟨relink E.m (relink E.m st.bk P y) Q x, bsA st (wlist E st P ++ wlist E st Q) top n, evA st (wlist E st P ++ wlist E st Q) n⟩ x y P Q top := by
  have hw := in_wlist (st := st) (M.mateP) (M.mateQ)
  have evlt : ∀ p, p ∈ P ∨ p ∈ Q → st.ev p = true := fun p h => h.elim (M.evP p) (M.evQ p)
  have big : ∀ v, InW E st P Q (st.bs v) → v < n := fun v h => by
    by_cases hv : v < n
    · exact hv
    · have he : st.ev v = false := by
        cases he : st.ev v with
        | false => rfl
        | true => exact absurd (bd.ev he) hv
      rw [M.I.C3 he] at h
      obtain ⟨p, hp, h | ⟨o, ho, h⟩⟩ := h
      · exact absurd (h ▸ bd.ev (M.I.C1 (evlt p hp))) hv
      · exact absurd (h ▸ bd.bs M.I (bd.mt ho)) hv
  refine ⟨fun v h => ?_, fun v h => ?_, fun v => ?_, ?_, ?_, fun v h1 h2 => ?_⟩
  · exact if_pos ⟨big v h, (hw _).mpr h⟩
  · exact if_neg fun z => h ((hw _).mp z.2)
  · simp only [evA, Bool.or_eq_true, Bool.and_eq_true, decide_eq_true_eq, hw]
    exact or_congr_right ⟨fun h => h.2, fun h => ⟨big v h, h⟩⟩
  · refine Linked.congr (bk := relink E.m st.bk P y) (fun p hp => ?_) (relink_on M.ndP (M.mateP))
    exact relink_off fun h => M.P_Q hp (List.mem_append_left _ h)
  · exact relink_on M.symm.ndP (M.mateQ)
  · show relink E.m (relink E.m st.bk P y) Q x v = st.bk v
    rw [relink_off h2, relink_off h1]
def spShrink (K : PySem.W.Frag) (C : Addr) : Sp := fun vs H Q _ => ∃ E H0 A near n st L one other, ∃ l : List PyData, vs = [.ref A.a, vN one, vN other] ∧ SH C H0 A near n E.r E.m st L H ∧ KM.Inv E st ∧ Bd n E st ∧ st.ev one = true ∧ st.ev other = true ∧
  E.G one other ∧ E.m one ≠ some other ∧ L.length ≤ 1000 ∧ Dp K H0 near (.list l) ∧ l.length = n ∧
  ∀ st' L' H', ExT H H' → SH C H0 A near n E.r E.m st' (L ++ L') H' → KM.Inv E st' → Bd n E st' → Mono st st' → st'.bs one = st'.bs other → (∀ v, st'.ev v = true ↔ st.ev v = true ∨ v ∈ L') → L'.Nodup → (∀ v ∈ L', st.ev v = false) → Q .non H'
variable (B : BI mg)
include B
theorem ok_shrink (F : FnP K "shrink" "Search.shrink" HD.s_S_shrink f fd) (me : Meth K C "shrink" f) (c_S_meeting : C8.Met P w K mg base 1 C "meeting" (spMeet C) []) : C8.Met P w K mg base 2 C "shrink" (spShrink K C) [] := by
  refine metD c.cl me F sc_S_shrink (F.bindsN fun _ _ _ _ _ _ us hl => match us, hl with | [_, _, _], _ => rfl) (fun vs H Q E h => ?_) fun cdv Ar outer s H vs Q Ek hr h => ?_
  · obtain ⟨E, H0, A, near, n, st, L, one, other, l, rfl, _⟩ := h; rfl
  obtain ⟨E, H0, A, near, n, st, L, one, other, l, rfl, S, I, bd, he1, he2, hG, hm, hLl, hnear, hln, hq⟩ := h
  refine ⟨_, PSs.nox (pss_cons (ps_par (i := 3) (j := 4) rfl sc_S_shrink.nd rfl rfl (by decide) rfl rfl (pa_cons (pe_mt c_S_meeting hr (by decide) (pv 0) (pa_cons (pv 1) (pa_cons (pv 2) pa_nil))) (pa_cons (pe_lst pa_nil) pa_nil)) (by rfl))
    (pss_cons (ps_for PassesOwn.never rfl (k_tup K (pi_tup (pe_tup (pa_cons (pe_tup (pa_cons (pv 1) (pa_cons (pv 2) pa_nil))) (pa_cons (pe_tup (pa_cons (pv 2) (pa_cons (pv 1) pa_nil))) pa_nil))))) (k_gtup K (pg_tup (n := 2) rfl (pgs_cons (pg_name (i := 5) sc_S_shrink.nd rfl (.inl rfl)) (pgs_cons (pg_name (i := 6) sc_S_shrink.nd rfl (.inl rfl)) pgs_nil)))) (pss_one (ps_while PassesOwn.never (pt_cmpR op_ne (pe_ix (ix_lstK K) (k_fld K (pe_fld (pv 0) rfl)) (pv 5) (fun _ _ => rfl)) (pv 3) (nomark _)) (pss_cons (ps_set (i := 7) sc_S_shrink.nd rfl (.inl rfl) (pe_ix (ix_lstK K) (k_fld K (pe_fld (pv 0) rfl)) (pv 5) (fun _ _ => rfl)))
    (pss_cons (ps_expr (k_bm K (pe_bm PySem.F.plainAttrs_list PySem.F.slot_list_extend PySem.F.type_list_extend mt_extend (pv 4) (pa_cons (pe_lst (pa_cons (pe_ix (ix_lstK K) (k_fld K (pe_fld (pv 0) rfl)) (pv 5) (fun _ _ => rfl)) (pa_cons (pe_ix (ix_lstK K) (k_fld K (pe_fld (pv 0) rfl)) (pv 7) (fun _ _ => rfl)) pa_nil))) pa_nil))))
    (pss_cons (ps_asg (pv 6) (pg_sub (k_fld K (pe_fld (pv 0) rfl)) (pv 5) set_list))
    (pss_one (ps_par (i := 6) (j := 5) rfl sc_S_shrink.nd rfl rfl (by decide) rfl rfl (pa_cons (pv 7) (pa_cons (pe_ix (ix_lstK K) (k_fld K (pe_fld (pv 0) rfl)) (pv 7) (fun _ _ => rfl)) pa_nil)) (by rfl)))))))))
    (pss_one (ps_for PassesOwn.never rfl (pi_range1 rfl B.range (pa_cons (pe_callB (cr_lenK K) rfl B.len (by decide +kernel) (pa_cons (k_fld K (pe_fld (pv 0) rfl)) pa_nil)) pa_nil)) (pg_name (i := 5) sc_S_shrink.nd rfl (.inl rfl)) (pss_one (ps_if (pt_cmpR (op_inK K) (pe_ix (ix_lstK K) (k_fld K (pe_fld (pv 0) rfl)) (pv 5) (fun _ _ => rfl)) (pv 4) (by with_unfolding_all rfl)) (pss_cons (ps_asg (pv 3) (pg_sub (k_fld K (pe_fld (pv 0) rfl)) (pv 5) set_list))
    (pss_one (ps_if (pt_not (pt_val (pe_ix (ix_lstK K) (k_fld K (pe_fld (pv 0) rfl)) (pv 5) (fun _ _ => rfl)))) (pss_cons (ps_asg pe_bl (pg_sub (k_fld K (pe_fld (pv 0) rfl)) (pv 5) set_list))
    (pss_one (ps_expr (k_bm K (pe_bm PySem.F.plainAttrs_list PySem.F.slot_list_append PySem.F.type_list_append mt_append (k_fld K (pe_fld (pv 0) rfl)) (pa_cons (pv 5) pa_nil)))))) pss_nil))) pss_nil)))))), ?_⟩
  have l1 := bd.ev he1
  have l2 := bd.ev he2
  have hn1 := bd.n1
  refine ⟨_, rfl, A.a, A.dx, _, rfl, S.ho, rfl, _, rfl, _, rfl, E, H0, A, near, n, st, L, one, other, rfl, S, I, bd, he1, he2, fun top H1 e1 ⟨BL1, X0, Y0, hb1, hb2, hX, htop⟩ => ?_⟩
  obtain ⟨R1, R2, T1, T2, t1, t2, X, Z, M⟩ := meet_of I he1 he2 hb1 hb2 hX htop
  refine ⟨by show 0 ≤ sizeLine; decide, fun pw npw => ⟨vN top, .ref pw, rfl, ?_⟩⟩
  have S1 := S.mono e1
  have fr := S1.fresh npw
  have S2 := S1.mono (Ex.new (o := .lst []) npw)
  have len1 : R1.length ≤ n := by
    have := nodup_len (l' := List.range n) M.ndP (fun x hx => List.mem_range.mpr (bd.ev (M.evP x hx)))
    rwa [List.length_range] at this
  have len2 : R2.length ≤ n := by
    have := nodup_len (l' := List.range n) M.symm.ndP (fun x hx => List.mem_range.mpr (bd.ev (M.evQ x hx)))
    rwa [List.length_range] at this
  have wlen : ∀ R : List Nat, (wlist E st R).length ≤ 2 * R.length := fun R => by
    unfold wlist
    induction R with
    | nil => simp
    | cons a l ih => simp only [List.flatMap_cons, List.length_append, List.length_cons, List.length_nil]; omega
  have bk1lt : ∀ {u v}, relink E.m st.bk R1 other u = some v → v < n := fun h => relink_lt bd.mt (by omega) R1 st.bk other bd.bk l2 h
  have bk2lt : ∀ {u v}, relink E.m (relink E.m st.bk R1 other) R2 one u = some v → v < n := fun h => relink_lt bd.mt (by omega) R2 _ one bk1lt l1 h
  refine q_forX (ds := [dP (one, other), dP (other, one)]) (evd_tup (eda_cons (evd_tup (eda_cons (evd_int (ev_var rfl)) (eda_cons (evd_int (ev_var rfl)) eda_nil)) (by show 2 ≤ 100000; decide)) (eda_cons (evd_tup (eda_cons (evd_int (ev_var rfl)) (eda_cons (evd_int (ev_var rfl)) eda_nil)) (by show 2 ≤ 100000; decide)) eda_nil)) (by show 2 ≤ 100000; decide)) rfl
    (fun i σ1 H1 => (∃ u v t, σ1 = [some (.ref A.a), some (vN one), some (vN other), some (vN top), some (.ref pw), u, v, t]) ∧ ExT H H1 ∧
      SH C H0 A near n E.r E.m ⟨if i = 0 then st.bk else if i = 1 then relink E.m st.bk R1 other else relink E.m (relink E.m st.bk R1 other) R2 one, st.bs, st.ev⟩ L H1 ∧
      H1 pw = some (.lst ((if i = 0 then [] else if i = 1 then wlist E st R1 else wlist E st R1 ++ wlist E st R2).map vN))) ?_ ?_ ?_
  · intro H3 e3
    exact ⟨⟨none, none, none, rfl⟩, Ex.toT ((e1.trans (Ex.new npw)).trans e3), S2.mono e3, e3 _ _ upd_same⟩
  · rintro i d x σ1 H3 Hs hi ⟨⟨u, v, t, rfl⟩, ex3, S3, hp3⟩ exs hx
    have hne : ∀ p ∈ R1, st.bs p ≠ top := fun p hp e => M.nA _ (M.pA p hp) (by rw [e]; exact List.mem_cons_self ..)
    have hne2 : ∀ p ∈ R2, st.bs p ≠ top := fun p hp e => M.symm.nA _ (M.qB p hp) (by rw [e]; exact List.mem_cons_self ..)
    rcases i with _ | _ | i
    · cases hi
      obtain ⟨y, z, hy, hz, kk⟩ := g_two hx
      cases dp_int hy
      cases dp_int hz
      refine kk _ ⟨_, [_], rfl, _, [], rfl, rfl, ?_⟩
      refine shr_while (R0 := R1) (T := T1) (t1 := t1) (W0 := []) (bk0 := st.bk) c (k := fun _ _ => True) bd I bd.bk S3 fr hp3 l1 l2 M.cx hne M.e1 (fun p hp o ho => ⟨fun h => M.mP_P hp ho (List.mem_append_left _ h), rfl⟩) (by simp; omega) fun x' b' mt' H4 e4 S4 hp4 => ?_
      exact ⟨exs.trans e4, ⟨_, _, _, rfl⟩, ex3.trans e4, S4, hp4⟩
    · cases hi
      obtain ⟨y, z, hy, hz, kk⟩ := g_two hx
      cases dp_int hy
      cases dp_int hz
      refine kk _ ⟨_, [_], rfl, _, [], rfl, rfl, ?_⟩
      refine shr_while (R0 := R2) (T := T2) (t1 := t2) (W0 := wlist E st R1) (bk0 := relink E.m st.bk R1 other) c (k := fun _ _ => True) bd I bk1lt S3 fr hp3 l2 l1 M.cy hne2 M.e2 (fun p hp o ho => ⟨fun h => M.symm.mP_P hp ho (List.mem_append_left _ h), relink_off fun h => M.symm.mP_Q hp ho (List.mem_append_left _ h)⟩) (by have := wlen R1; omega) fun x' b' mt' H4 e4 S4 hp4 => ?_
      exact ⟨exs.trans e4, ⟨_, _, _, rfl⟩, ex3.trans e4, S4, hp4⟩
    · cases hi
  · rintro σ1 H3 ⟨⟨u, v, t, rfl⟩, ex3, S3, hp3⟩
    have hi2 : (if (2 : Nat) = 0 then st.bk else if (2 : Nat) = 1 then relink E.m st.bk R1 other else relink E.m (relink E.m st.bk R1 other) R2 one) = relink E.m (relink E.m st.bk R1 other) R2 one := rfl
    replace S3 : SH C H0 A near n E.r E.m ⟨relink E.m (relink E.m st.bk R1 other) R2 one, st.bs, st.ev⟩ L H3 := S3
    replace hp3 : H3 pw = some (.lst ((wlist E st R1 ++ wlist E st R2).map vN)) := hp3
    have Sh := shrunk_of bd M
    have hw := in_wlist (st := st) (M.mateP) (M.mateQ)
    have tn : top < n := bd.ev M.top_ev.1
    generalize hWL : wlist E st R1 ++ wlist E st R2 = WL at *
    generalize hbk2 : relink E.m (relink E.m st.bk R1 other) R2 one = bk2 at *
    have lenadd : ∀ i, (addA st WL i).length ≤ i := fun i => by
      have := List.length_filter_le (fun v => decide (st.bs v ∈ WL) && !st.ev v) (List.range i)
      rw [List.length_range] at this
      exact this
    have hlen : Ev (tCB (rLenS K) (tCons (tFld K (tVar 0) "near") tNil)) [some (.ref A.a), some (vN one), some (vN other), some (vN top), some (.ref pw), u, v, t] H3 (.int (n : Int)) :=
      ev_is (ev_lenL (K := K) (ds := l) (evd_of (ev_fld c rfl S3 c.near rfl) fun H4 e4 => dp_mono (S3.ex.trans e4) hnear)) (by rw [hln])
    refine s_forR1 (n := (n : Int)) (ea_cons hlen ea_nil) ⟨by omega, by omega⟩ (fun i σ' H' => (∃ u v t, σ' = [some (.ref A.a), some (vN one), some (vN other), some (vN top), some (.ref pw), u, v, t]) ∧ ExT H H' ∧
      SH C H0 A near n E.r E.m ⟨bk2, bsA st WL top i, evA st WL i⟩ (L ++ addA st WL i) H' ∧ H' pw = some (.lst (WL.map vN))) ?_ ?_ ?_
    · intro H4 e4
      refine ⟨⟨u, v, t, rfl⟩, ex3.trans (Ex.toT e4), ?_, e4 _ _ hp3⟩
      rw [bsA_0, evA_0]
      simpa [addA] using S3.mono e4
    · rintro i σ' H4 hi ⟨⟨u', v', t', rfl⟩, ex4, S4, hp4⟩
      have hin : i < n := by omega
      have hbi : bsA st WL top i i = st.bs i := if_neg (by omega)
      have hei : evA st WL i i = st.ev i := by simp [evA]
      have g1 := ev_base (i := 0) (v := i) (σ := [some (.ref A.a), some (vN one), some (vN other), some (vN top), some (.ref pw), some (vN i), v', t']) (tb := tVar 5) c rfl S4 (ev_var rfl) hin
      rw [show SS.bs ⟨bk2, bsA st WL top i, evA st WL i⟩ i = st.bs i from hbi] at g1
      refine s_if (b := decide (st.bs i ∈ WL)) (et_test (ev_inNl (neg := false) (evd_int g1) (evd_of (ev_var rfl) fun H5 e5 => .lst (sq_of (e5 _ _ hp4)) (N_dpa _)))) (fun hb H5 e5 => ?_) fun hb H5 e5 => ?_
      · have hW : st.bs i ∈ WL := by simpa using hb
        have S5 := S4.mono e5
        refine q_setL (l := A.ps) (j := i) (v := vN top) S5.hs (ev_var rfl) (ev_fld c rfl S5 c.base rfl) (ev_var rfl) (by simpa using hin) fun H6 e6 => ?_
        have S6 := (S5.mono e6).setBase i top
        have zs : ExT H6 (upd H6 A.ps (.lst (((List.range n).map fun v => vN (SS.bs ⟨bk2, bsA st WL top i, evA st WL i⟩ v)).set i (vN top)))) := ExT.put (e6 _ _ S5.hs)
        have ex6 := ex4.trans ((Ex.toT (e5.trans e6)).trans zs)
        have pws : pw ≠ A.ps := fun e => fr.2 (by rw [e]; simp)
        have pwe : pw ≠ A.pe := fun e => fr.2 (by rw [e]; simp)
        have pwl : pw ≠ A.pl := fun e => fr.2 (by rw [e]; simp)
        have hp6 := (upd_ne (o := .lst (((List.range n).map fun v => vN (SS.bs ⟨bk2, bsA st WL top i, evA st WL i⟩ v)).set i (vN top))) pws).trans ((e5.trans e6) _ _ hp4)
        have hby : fup (bsA st WL top i) i top = bsA st WL top (i + 1) := bsA_yes st WL top hW
        dsimp only at S6
        rw [hby] at S6
        refine s_if (b := !st.ev i) (et_not (et_B (ev_is (ev_even (i := 0) (v := i) c rfl S6 (ev_var rfl) hin) (by rw [show SS.ev ⟨bk2, bsA st WL top (i + 1), evA st WL i⟩ i = st.ev i from hei])))) (fun hb2 H7 e7 => ?_) fun hb2 H7 e7 => ?_
        · have hne : st.ev i = false := by simpa using hb2
          have S7 := S6.mono e7
          refine q_setL (l := A.pe) (j := i) (v := .bl true) S7.he ev_c (ev_fld c rfl S7 c.even rfl) (ev_var rfl) (by simpa using hin) fun H8 e8 => ?_
          have S8 := (S7.mono e8).setEven i true
          have hey : fup (evA st WL i) i true = evA st WL (i + 1) := evA_yes st WL hW
          dsimp only at S8
          rw [hey] at S8
          have z8 : ExT H8 (upd H8 A.pe (.lst (((List.range n).map fun v => V.bl (SS.ev ⟨bk2, bsA st WL top (i + 1), evA st WL i⟩ v)).set i (.bl true)))) := ExT.put (e8 _ _ S7.he)
          have hp8 := (upd_ne (o := .lst (((List.range n).map fun v => V.bl (SS.ev ⟨bk2, bsA st WL top (i + 1), evA st WL i⟩ v)).set i (.bl true))) pwe).trans ((e7.trans e8) _ _ hp6)
          refine s_app S8.hl (ev_fld c rfl S8 c.left rfl) (ev_var rfl) ?_ fun H9 e9 => ⟨⟨_, _, _, rfl⟩, ?_, ?_, (upd_ne pwl).trans (e9 _ _ hp8)⟩
          · have := lenadd i
            simp
            omega
          · exact (ex6.trans (Ex.toT (e7.trans e8))).trans (z8.trans ((Ex.toT e9).trans (ExT.put (e9 _ _ S8.hl))))
          · rw [addA_yes st WL hW hne, ← List.append_assoc]
            exact (S8.mono e9).addLeft i
        · have hne : st.ev i = true := by simpa using hb2
          refine ⟨⟨_, _, _, rfl⟩, ex6.trans (Ex.toT e7), ?_, e7 _ _ hp6⟩
          rw [addA_no st WL (.inl hne), ← evA_no st WL (.inl hne)]
          exact S6.mono e7
      · have hW : st.bs i ∉ WL := by simpa using hb
        refine ⟨⟨_, _, _, rfl⟩, ex4.trans (Ex.toT e5), ?_, e5 _ _ hp4⟩
        rw [addA_no st WL (.inr hW), ← evA_no st WL (.inr hW), ← bsA_no st WL top hW]
        exact S4.mono e5
    · rintro σ' H4 ⟨_, ex4, S4, _⟩
      rw [Int.toNat_natCast] at S4
      have I' := shrink_inv M Sh hG hm
      have Mo := shrunk_mono M Sh
      refine hq _ (addA st WL n) H4 ex4 S4 I' ⟨hn1, fun {v} h => ?_, bd.mt, bk2lt, bd.rt⟩ Mo ?_ (fun v => ?_) ?_ fun v hv => ?_
      · have h' : (st.ev v || (decide (v < n) && decide (st.bs v ∈ WL))) = true := h
        simp only [Bool.or_eq_true, Bool.and_eq_true, decide_eq_true_eq] at h'
        exact h'.elim bd.ev fun h => h.1
      · have tops : ∀ z, z < n → (st.bs z ∈ WL ∨ st.bs z = top) → bsA st WL top n z = top := fun z hz h => by
          unfold bsA
          by_cases g : z < n ∧ st.bs z ∈ WL
          · exact if_pos g
          · rw [if_neg g]
            exact h.elim (fun h => absurd ⟨hz, h⟩ g) id
        have c1 : st.bs one ∈ WL ∨ st.bs one = top := by
          cases hR1 : R1 with
          | nil =>
            obtain ⟨q, hq⟩ := M.cx.head
            rw [hR1] at hq
            have : t1 = one := by simpa using congrArg List.head? hq
            exact .inr (by rw [← this]; exact M.e1)
          | cons p R =>
            obtain ⟨q, hq⟩ := M.cx.head
            rw [hR1] at hq
            have : p = one := by simpa using congrArg List.head? hq
            exact .inl ((hw _).mpr (M.self_w (.inl (by rw [hR1, this]; exact List.mem_cons_self ..))))
        have c2 : st.bs other ∈ WL ∨ st.bs other = top := by
          cases hR2 : R2 with
          | nil =>
            obtain ⟨q, hq⟩ := M.cy.head
            rw [hR2] at hq
            have : t2 = other := by simpa using congrArg List.head? hq
            exact .inr (by rw [← this]; exact M.e2)
          | cons p R =>
            obtain ⟨q, hq⟩ := M.cy.head
            rw [hR2] at hq
            have : p = other := by simpa using congrArg List.head? hq
            exact .inl ((hw _).mpr (M.self_w (.inr (by rw [hR2, this]; exact List.mem_cons_self ..))))
        show bsA st WL top n one = bsA st WL top n other
        rw [tops one l1 c1, tops other l2 c2]
      · show (st.ev v || (decide (v < n) && decide (st.bs v ∈ WL))) = true ↔ _
        cases hv : st.ev v with
        | true => simp
        | false => simp [addA, hv]
      · exact List.Pairwise.filter _ List.nodup_range
      · have := (List.mem_filter.mp hv).2
        simp at this
        exact this.2
end
end WK
/-! ### W7 -/
set_option Elab.async false
set_option linter.all false
set_option maxRecDepth 100000
set_option maxHeartbeats 4000000
/-! run -/
namespace WK
open PySem PySem.Spec PyProof.Rows L2 Evl DX DL KM C8
abbrev N_S_run : List Str := ["self", "is_growing", "at", "one", "other"]
theorem sc_S_run : FnScope N_S_run ["self", "is_growing"] (defScope HD.s_S_run) := ⟨rfl, rfl, rfl, by decide +kernel, rfl, by decide +kernel, by decide +kernel⟩
structure RI (n : Nat) (E : KM.Env) (st : SS) (L : List Nat) : Prop where
  I : KM.Inv E st
  bd : Bd n E st
  nd : L.Nodup
  mem : ∀ v, st.ev v = true ↔ v ∈ L
def P1 (E : KM.Env) (st : SS) (Pr : List Nat) : Prop := ∀ v ∈ Pr, ∀ w, E.G v w → st.ev w = false → st.bk w ≠ none
def P2 (E : KM.Env) (st : SS) (Pr : List Nat) : Prop := ∀ v ∈ Pr, ∀ w ∈ Pr, E.G v w → st.bs v = st.bs w ∨ E.m v = some w
def Q1 (st : SS) (Dn : List Nat) : Prop := ∀ w ∈ Dn, st.ev w = false → st.bk w ≠ none
def Q2 (E : KM.Env) (st : SS) (one : Nat) (Pr Dn : List Nat) : Prop := ∀ w ∈ Dn, w ∈ Pr → st.bs one = st.bs w ∨ E.m one = some w
section
variable {n : Nat} {E : KM.Env} {st st' : SS} {L L' Pr Dn : List Nat} {one : Nat}
theorem RI.len (R : RI n E st L) : L.length ≤ n := by
  have := nodup_len (l' := List.range n) R.nd (fun x hx => List.mem_range.mpr (R.bd.ev ((R.mem x).mpr hx)))
  rwa [List.length_range] at this
theorem RI.step (R : RI n E st L) (I' : KM.Inv E st') (b' : Bd n E st') (he : ∀ v, st'.ev v = true ↔ st.ev v = true ∨ v ∈ L') (nd : L'.Nodup) (hn : ∀ v ∈ L', st.ev v = false) : RI n E st' (L ++ L') :=
  ⟨I', b', List.nodup_append.mpr ⟨R.nd, nd, fun a ha b hb e => by
    have := hn b hb
    rw [← e, (R.mem a).mpr ha] at this
    cases this⟩, fun v => by rw [he, R.mem, List.mem_append]⟩
theorem ev_back_mono (M : Mono st st') {w : Nat} (h : st'.ev w = false) : st.ev w = false := by
  cases h2 : st.ev w with
  | false => rfl
  | true => rw [M.ev h2] at h; cases h
theorem P1.mono (M : Mono st st') (h : P1 E st Pr) : P1 E st' Pr := fun v hv w hG he => M.bk (h v hv w hG (ev_back_mono M he))
theorem P2.mono (M : Mono st st') (h : P2 E st Pr) : P2 E st' Pr := fun v hv w hw hG => (h v hv w hw hG).imp M.bs id
theorem Q1.mono (M : Mono st st') (h : Q1 st Dn) : Q1 st' Dn := fun w hw he => M.bk (h w hw (ev_back_mono M he))
theorem Q2.mono (M : Mono st st') (h : Q2 E st one Pr Dn) : Q2 E st' one Pr Dn := fun w hw hp => (h w hw hp).imp M.bs id
theorem Q1.snoc (h : Q1 st Dn) {w : Nat} (hw : st.ev w = false → st.bk w ≠ none) : Q1 st (Dn ++ [w]) := fun x hx => by
  rcases List.mem_append.mp hx with hx | hx
  · exact h x hx
  · have : x = w := by simpa using hx
    rw [this]; exact hw
theorem Q2.snoc (h : Q2 E st one Pr Dn) {w : Nat} (hw : w ∈ Pr → st.bs one = st.bs w ∨ E.m one = some w) : Q2 E st one Pr (Dn ++ [w]) := fun x hx => by
  rcases List.mem_append.mp hx with hx | hx
  · exact h x hx
  · have : x = w := by simpa using hx
    rw [this]; exact hw
theorem P1.snoc (h : P1 E st Pr) (h1 : Q1 st Dn) (hD : ∀ w, E.G one w → w ∈ Dn) : P1 E st (Pr ++ [one]) := fun v hv w hG he => by
  rcases List.mem_append.mp hv with hv | hv
  · exact h v hv w hG he
  · have : v = one := by simpa using hv
    subst this
    exact h1 w (hD w hG) he
theorem P2.snoc (h : P2 E st Pr) (h2 : Q2 E st one Pr Dn) (hD : ∀ w, E.G one w → w ∈ Dn) : P2 E st (Pr ++ [one]) := fun v hv w hw hG => by
  rcases List.mem_append.mp hv with a | a
  · rcases List.mem_append.mp hw with b | b
    · exact h v a w b hG
    · have : w = one := by simpa using b
      subst this
      exact (h2 v (hD v (E.gs hG)) a).imp Eq.symm E.ms
  · have e1 : v = one := by simpa using a
    subst e1
    rcases List.mem_append.mp hw with b | b
    · exact h2 w (hD w hG) b
    · have e2 : w = v := by simpa using b
      rw [e2] at hG
      exact absurd hG (E.gi v)
end
section
variable {P : Program} {w : World} {K : PySem.W.Frag} {mg : Str → Option Value} {base : Heap} {f : Addr} {fd : FuncData} {C : Addr}
variable (B : BI mg) (c : CF K C)
include B c
def spRun (K : PySem.W.Frag) (C : Addr) : Sp := fun vs H Q _ => ∃ (E : KM.Env) (H0 : Hp) (A : Ad) (near : V) (n : Nat) (nb : Nat → List Nat), vs = [.ref A.a, .bl true] ∧ SH C H0 A near n E.r E.m (s0 E.r) [E.r] H ∧ Bd n E (s0 E.r) ∧
  Dp K H0 near (.list ((List.range n).map fun v => dNs (nb v))) ∧ (∀ v w, v < n → (w ∈ nb v ↔ E.G v w)) ∧ (∀ v w, E.G v w → w < n) ∧
  (∀ st L H', SH C H0 A near n E.r E.m st L H' → RI n E st L → P1 E st L → P2 E st L → Q .non H') ∧
  (∀ st L H' one o, SH C H0 A near n E.r E.m ⟨fup st.bk o (some one), st.bs, st.ev⟩ L H' → RI n E st L → st.ev one = true → E.G one o → E.m o = none → st.ev o = false → Q (vN o) H')
theorem ok_run (F : FnP K "run" "Search.run" HD.s_S_run f fd) (me : Meth K C "run" f) (c_S_shrink : C8.Met P w K mg base 2 C "shrink" (spShrink K C) []) : C8.Met P w K mg base 3 C "run" (spRun K C) [] := by
  refine metD c.cl me F sc_S_run (F.bindsN fun _ _ _ _ _ _ us hl => match us, hl with | [_, _], _ => rfl) (fun vs H Q E h => ?_) fun cdv Ar outer s H vs Q Ek hr h => ?_
  · obtain ⟨E, H0, A, near, n, nb, rfl, _⟩ := h; rfl
  obtain ⟨E, H0, A, near, n, nb, rfl, S, bd, hnear, hnb, hGn, hq1, hq2⟩ := h
  refine ⟨_, PSs.nox (pss_cons (ps_set (i := 2) sc_S_run.nd rfl (.inl rfl) pe_int)
    (pss_cons (ps_while PassesOwn.never (pt_cmpR op_lt (pv 2) (pe_callB (cr_lenK K) rfl B.len (by decide +kernel) (pa_cons (k_fld K (pe_fld (pv 0) rfl)) pa_nil)) (nomark _)) (pss_cons (ps_set (i := 3) sc_S_run.nd rfl (.inl rfl) (pe_ix (ix_lstK K) (k_fld K (pe_fld (pv 0) rfl)) (pv 2) (fun _ _ => rfl)))
    (pss_cons (ps_set (i := 2) sc_S_run.nd rfl (.inl rfl) (pe_op op_add (pv 2) pe_int))
    (pss_one (ps_for PassesOwn.never rfl (k_tup K (pi_tup (pe_ix (ix_lstK K) (k_fld K (pe_fld (pv 0) rfl)) (pv 3) (fun _ _ => rfl)))) (pg_name (i := 4) sc_S_run.nd rfl (.inl rfl)) (pss_cons (ps_if (PW.pt (pw_or (pt_cmpR op_eq (pe_ix (ix_lstK K) (k_fld K (pe_fld (pv 0) rfl)) (pv 3) (fun _ _ => rfl)) (pe_ix (ix_lstK K) (k_fld K (pe_fld (pv 0) rfl)) (pv 4) (fun _ _ => rfl)) (nomark _)) (pw_or1 (pt_cmpR op_eq (pe_ix (ix_lstK K) (k_fld K (pe_fld (pv 0) rfl)) (pv 3) (fun _ _ => rfl)) (pv 4) (nomark _))))) (pss_one ps_continue) pss_nil)
    (pss_one (ps_if (pt_val (pe_ix (ix_lstK K) (k_fld K (pe_fld (pv 0) rfl)) (pv 4) (fun _ _ => rfl))) (pss_one (ps_expr (pe_mt c_S_shrink hr (by decide) (pv 0) (pa_cons (pv 3) (pa_cons (pv 4) pa_nil))))) (pss_one (ps_if (PW.pt (pw_and (pt_cmpR op_isN' (pe_ix (ix_lstK K) (k_fld K (pe_fld (pv 0) rfl)) (pv 4) (fun _ _ => rfl)) pe_non (nomark _)) (pw_and1 (pt_cmpR op_notN' (pe_ix (ix_lstK K) (k_fld K (pe_fld (pv 0) rfl)) (pv 4) (fun _ _ => rfl)) pe_non (nomark _))))) (pss_cons (ps_asg (pv 3) (pg_sub (k_fld K (pe_fld (pv 0) rfl)) (pv 4) set_list))
    (pss_cons (ps_asg pe_bl (pg_sub (k_fld K (pe_fld (pv 0) rfl)) (pe_ix (ix_lstK K) (k_fld K (pe_fld (pv 0) rfl)) (pv 4) (fun _ _ => rfl)) set_list))
    (pss_one (ps_expr (k_bm K (pe_bm PySem.F.plainAttrs_list PySem.F.slot_list_append PySem.F.type_list_append mt_append (k_fld K (pe_fld (pv 0) rfl)) (pa_cons (pe_ix (ix_lstK K) (k_fld K (pe_fld (pv 0) rfl)) (pv 4) (fun _ _ => rfl)) pa_nil))))))) (pss_one (ps_if (PW.pt (pw_and (pt_val (pv 1)) (pw_and1 (pt_cmpR op_isN' (pe_ix (ix_lstK K) (k_fld K (pe_fld (pv 0) rfl)) (pv 4) (fun _ _ => rfl)) pe_non (nomark _))))) (pss_cons (ps_asg (pv 3) (pg_sub (k_fld K (pe_fld (pv 0) rfl)) (pv 4) set_list))
    (pss_one (ps_ret (pv 4)))) pss_nil))))))))))))
    (pss_one (ps_ret pe_non)))), ?_⟩
  have hn1 := bd.n1
  refine q_asg ev_c fun H1 e1 => ?_
  refine q_while (fun k σ' H' => ∃ i st L o3 o4, σ' = [some (.ref A.a), some (.bl true), some (.int ((i : Nat) : Int)), o3, o4] ∧ k = n - i ∧ i ≤ L.length ∧ SH C H0 A near n E.r E.m st L H' ∧ RI n E st L ∧ P1 E st (L.take i) ∧ P2 E st (L.take i)) n
    ⟨0, s0 E.r, [E.r], none, none, rfl, rfl, Nat.zero_le _, S.mono e1, ⟨inv0 E, bd, by simp, fun v => by simp [s0]⟩, by simp [P1], by simp [P2]⟩ ?_
  rintro k σ' H' ⟨i, st, L, o3, o4, rfl, rfl, hi, S', R, p1, p2⟩
  have hL := R.len
  have hlen : ∀ {σ : L2.St}, σ[0]? = some (some (.ref A.a)) → Ev (tCB (rLenS K) (tCons (tFld K (tVar 0) "left") tNil)) σ H' (.int (L.length : Int)) := fun hσ => ev_is (ev_len (ev_fld c hσ S' c.left rfl) (sq_of S'.hl)) (by rw [List.length_map])
  refine ⟨decide (i < L.length), et_is (et_test (ev_op (ev_var rfl) (hlen rfl) rv_I0)) (by simp), fun hb H2 e2 => ?_, fun hb H2 e2 => ?_⟩
  · have hiL : i < L.length := by simpa using hb
    have S2 := S'.mono e2
    obtain ⟨one, hone⟩ : ∃ one, L[i]? = some one := ⟨L[i], List.getElem?_eq_getElem hiL⟩
    have hLs : L = L.take i ++ one :: L.drop (i + 1) := by
      have := List.getElem?_eq_some_iff.mp hone
      rw [← this.2, ← List.drop_eq_getElem_cons hiL, List.take_append_drop]
    have hev1 : st.ev one = true := (R.mem one).mpr (List.mem_of_getElem? hone)
    have hon : one < n := R.bd.ev hev1
    refine ⟨fun σ2 H3 => ∃ st L o3 o4, σ2 = [some (.ref A.a), some (.bl true), some (.int ((i + 1 : Nat) : Int)), o3, o4] ∧ i + 1 ≤ L.length ∧ SH C H0 A near n E.r E.m st L H3 ∧ RI n E st L ∧ P1 E st (L.take (i + 1)) ∧ P2 E st (L.take (i + 1)), ?_, ?_⟩
    · rintro σ2 H3 ⟨st2, L2, o3, o4, rfl, h1, h2, h3, h4, h5⟩
      exact ⟨n - (i + 1), by omega, i + 1, st2, L2, o3, o4, rfl, rfl, h1, h2, h3, h4, h5⟩
    · refine q_asg (v := vN one) (ev_op (ev_fld c rfl S2 c.left rfl) (ev_var rfl) (rv_ixL (sq_of S2.hl) (atI_nn (by rw [List.getElem?_map, hone]; rfl)))) fun H3 e3 => ?_
      refine q_asg (v := .int ((i + 1 : Nat) : Int)) (ev_is (ev_op (ev_var rfl) ev_c rv_I0) (by simp)) fun H4 e4 => ?_
      have S4 := S2.mono (e3.trans e4)
      obtain ⟨a0, xs, rfl, hsq, hxs⟩ := dp_lst hnear
      obtain ⟨row, hrow, hdrow⟩ := dpa_at (i := one) (d := dNs (nb one)) hxs (by rw [List.getElem?_map, List.getElem?_range hon]; rfl)
      refine s_for0 (H0 := H0) (ds := (nb one).map dN) (v := row) (ev_op (ev_fld c rfl S4 c.near rfl) (ev_var rfl) (rv_ixL (ex_l S4.ex hsq) (atI_nn hrow))) hdrow S4.ex
        (fun j σ1 H1 => ∃ st Lr o4, σ1 = [some (.ref A.a), some (.bl true), some (.int ((i + 1 : Nat) : Int)), some (vN one), o4] ∧ SH C H0 A (.ref a0) n E.r E.m st (L.take i ++ one :: Lr) H1 ∧ RI n E st (L.take i ++ one :: Lr) ∧ P1 E st (L.take i) ∧ P2 E st (L.take i) ∧
          Q1 st ((nb one).take j) ∧ Q2 E st one (L.take i) ((nb one).take j)) (fun j σ1 H1 ⟨_, _, _, _, h, _⟩ => h.ex) ?_ ?_ ?_
      · intro H5 e5
        exact ⟨st, L.drop (i + 1), o4, rfl, by rw [← hLs]; exact S4.mono e5, by rw [← hLs]; exact R, p1, p2, by simp [Q1], by simp [Q2]⟩
      · rintro j d x σ1 H5 hj ⟨st, Lr, o4, rfl, S5, R, p1, p2, q1, q2⟩ hx
        rw [List.getElem?_map] at hj
        cases hw : (nb one)[j]? with
        | none => rw [hw] at hj; cases hj
        | some v =>
          rw [hw] at hj
          cases hj
          cases dp_int hx
          have hG : E.G one v := (hnb one v hon).mp (List.mem_of_getElem? hw)
          have hvn := hGn one v hG
          have htk : (nb one).take (j + 1) = (nb one).take j ++ [v] := by rw [List.take_succ, hw]; rfl
          have hev1 : st.ev one = true := (R.mem one).mpr (by simp)
          have hLen := R.len
          show tSeq _ _ _ _ H5
          have b1 : ∀ {H6 : Hp}, Ex H5 H6 → Ev (tOp (rIxL K) (tFld K (tVar 0) "base") (tVar 3)) [some (.ref A.a), some (.bl true), some (.int ((i + 1 : Nat) : Int)), some (vN one), some (vN v)] H6 (.int (st.bs one : Int)) := fun e => ev_base c rfl (S5.mono e) (ev_var rfl) hon
          have b2 : ∀ {H6 : Hp}, Ex H5 H6 → Ev (tOp (rIxL K) (tFld K (tVar 0) "base") (tVar 4)) [some (.ref A.a), some (.bl true), some (.int ((i + 1 : Nat) : Int)), some (vN one), some (vN v)] H6 (.int (st.bs v : Int)) := fun e => ev_base c rfl (S5.mono e) (ev_var rfl) hvn
          have m1 : ∀ {H6 : Hp}, Ex H5 H6 → Ev (tOp (rIxL K) (tFld K (tVar 0) "mates") (tVar 3)) [some (.ref A.a), some (.bl true), some (.int ((i + 1 : Nat) : Int)), some (vN one), some (vN v)] H6 (vO (E.m one)) := fun e => ev_mates c rfl (S5.mono e) (ev_var rfl) hon
          have m2 : ∀ {H6 : Hp}, Ex H5 H6 → Ev (tOp (rIxL K) (tFld K (tVar 0) "mates") (tVar 4)) [some (.ref A.a), some (.bl true), some (.int ((i + 1 : Nat) : Int)), some (vN one), some (vN v)] H6 (vO (E.m v)) := fun e => ev_mates c rfl (S5.mono e) (ev_var rfl) hvn
          have t1 : EvT (tTest (tOp rEq (tOp (rIxL K) (tFld K (tVar 0) "mates") (tVar 3)) (tVar 4))) [some (.ref A.a), some (.bl true), some (.int ((i + 1 : Nat) : Int)), some (vN one), some (vN v)] H5 (decide (E.m one = some v)) := by
            refine et_test (ev_is (ev_op (m1 (Ex.refl _)) (ev_var rfl) (rv_eq ?_)) ?_)
            · cases E.m one <;> rfl
            · congr 1
              rw [Bool.eq_iff_iff]
              cases hq : E.m one with
              | none => simp [vO]
              | some z => simp [vO]; omega
          refine q_ifE (b := decide (st.bs one = st.bs v) || decide (E.m one = some v)) (et_or (et_test (ev_eqN (b1 (Ex.refl _)) (b2 (Ex.refl _)))) fun _ => t1) (fun hb H6 e6 => ?_) fun hb H6 e6 => ?_
          · have hb' : st.bs one = st.bs v ∨ E.m one = some v := by simpa using hb
            refine ⟨st, Lr, _, rfl, S5.mono e6, R, p1, p2, ?_, ?_⟩
            · rw [htk]
              refine q1.snoc fun he => ?_
              rcases hb' with h | h
              · have := R.I.C1 hev1
                rw [h, R.I.C3 he, he] at this
                cases this
              · have hne : one ≠ E.r := fun e => by rw [e, E.mr] at h; cases h
                obtain ⟨o, w, g1, g2, _⟩ := R.I.B hev1 hne
                rw [h] at g1
                cases g1
                rw [g2]; simp
            · rw [htk]
              exact q2.snoc fun _ => hb'
          · have hb' : ¬ st.bs one = st.bs v ∧ ¬ E.m one = some v := by simpa using hb
            obtain ⟨nb1, nb2⟩ := hb'
            have S6 := S5.mono e6
            refine s_if (b := st.ev v) (et_B (ev_even c rfl S6 (ev_var rfl) hvn)) (fun hev H7 e7 => ?_) fun hev H7 e7 => ?_
            · have S7 := S6.mono e7
              refine ⟨_, rfl, A.a, A.dx, _, rfl, S7.ho, rfl, _, rfl, _, rfl, E, H0, A, .ref a0, n, st, _, one, v, (List.range n).map fun v => dNs (nb v), rfl, S7, R.I, R.bd, hev1, hev, hG, nb2, by omega, .lst hsq hxs, by simp, fun st' L' H8 e8 S8 I8 b8 M8 hbs he8 nd8 hn8 => ?_⟩
              have R8 := R.step I8 b8 he8 nd8 hn8
              refine ⟨st', Lr ++ L', _, rfl, by simpa using S8, by simpa using R8, p1.mono M8, p2.mono M8, ?_, ?_⟩
              · rw [htk]
                refine (q1.mono M8).snoc fun he => ?_
                rw [M8.ev hev] at he
                cases he
              · rw [htk]
                exact (q2.mono M8).snoc fun _ => .inl hbs
            · have S7 := S6.mono e7
              have bkv : Ev (tOp (rIxL K) (tFld K (tVar 0) "back") (tVar 4)) [some (.ref A.a), some (.bl true), some (.int ((i + 1 : Nat) : Int)), some (vN one), some (vN v)] H7 (vO (st.bk v)) := ev_back c rfl S7 (ev_var rfl) hvn
              have tn1 : EvT (tTest (tOp rIsN' (tOp (rIxL K) (tFld K (tVar 0) "back") (tVar 4)) (tC .non))) [some (.ref A.a), some (.bl true), some (.int ((i + 1 : Nat) : Int)), some (vN one), some (vN v)] H7 (st.bk v).isNone := by
                refine et_test (ev_is (ev_op bkv ev_c (rv_val fun H1 _ Q q => ⟨rfl, q⟩)) ?_)
                cases st.bk v <;> simp [vO]
              have tn2 : EvT (tTest (tOp rNotN' (tOp (rIxL K) (tFld K (tVar 0) "mates") (tVar 4)) (tC .non))) [some (.ref A.a), some (.bl true), some (.int ((i + 1 : Nat) : Int)), some (vN one), some (vN v)] H7 (E.m v).isSome := by
                refine et_test (ev_is (ev_op (m2 (e6.trans e7)) ev_c (rv_val fun H1 _ Q q => ⟨rfl, q⟩)) ?_)
                cases E.m v <;> simp [vO]
              refine s_if (b := (st.bk v).isNone && (E.m v).isSome) (et_and tn1 fun _ => tn2) (fun hbb H8 e8 => ?_) fun hbb H8 e8 => ?_
              · have hbb' : st.bk v = none ∧ (E.m v).isSome = true := by simpa using hbb
                obtain ⟨hbk, hsome⟩ := hbb'
                obtain ⟨x, hmx⟩ := Option.isSome_iff_exists.mp hsome
                have hxn : x < n := R.bd.mt hmx
                have S8 := S7.mono e8
                have hnew := grow_new R.I hev hbk hmx
                have I9 := grow_inv R.I hev1 hG nb2 hev hbk hmx
                have M9 := grow_mono st one v x
                refine q_setL (l := A.pb) (j := v) (v := vN one) S8.hb (ev_var rfl) (ev_fld c rfl S8 c.back rfl) (ev_var rfl) (by simpa using hvn) fun H9 e9 => ?_
                have S9 := (S8.mono e9).setBack v (some one)
                refine q_setL (l := A.pe) (j := x) (v := .bl true) S9.he ev_c (ev_fld c rfl S9 c.even rfl) (ev_some (ev_mates (i := 0) (v := v) c rfl S9 (ev_var rfl) hvn) hmx) (by simpa using hxn) fun H10 e10 => ?_
                have S10 := (S9.mono e10).setEven x true
                refine s_app S10.hl (ev_fld c rfl S10 c.left rfl) (ev_some (ev_mates (i := 0) (v := v) c rfl S10 (ev_var rfl) hvn) hmx) (by rw [List.length_map]; omega) fun H11 e11 => ?_
                have S11 := (S10.mono e11).addLeft x
                have b9 : Bd n E (grow st one v x) := by
                  refine ⟨hn1, fun {u} h => ?_, R.bd.mt, fun {u w} h => ?_, R.bd.rt⟩
                  · have h' : fup st.ev x true u = true := h
                    unfold fup at h'
                    split at h'
                    · rename_i e; rw [e]; exact hxn
                    · exact R.bd.ev h'
                  · have h' : fup st.bk v (some one) u = some w := h
                    unfold fup at h'
                    split at h'
                    · cases h'; exact hon
                    · exact R.bd.bk h'
                have R9 := R.step (L' := [x]) I9 b9 (fun u => by
                  show fup st.ev x true u = true ↔ _
                  by_cases e : u = x
                  · subst e; rw [fup_same]; simp
                  · rw [fup_ne e]; simp [e]) (by simp) (fun u hu => by
                  have : u = x := by simpa using hu
                  rw [this]; exact hnew)
                have zz : (L.take i ++ one :: Lr) ++ [x] = L.take i ++ one :: (Lr ++ [x]) := by simp
                rw [zz] at S11 R9
                refine ⟨grow st one v x, Lr ++ [x], _, rfl, S11, R9, p1.mono M9, p2.mono M9, ?_, ?_⟩
                · rw [htk]
                  refine (q1.mono M9).snoc fun _ => ?_
                  show fup st.bk v (some one) v ≠ none
                  rw [fup_same]; simp
                · rw [htk]
                  refine (q2.mono M9).snoc fun hp => ?_
                  have := (R.mem v).mpr (List.mem_append_left _ hp)
                  rw [hev] at this
                  cases this
              · have S8 := S7.mono e8
                have tn3 : EvT (tTest (tOp rIsN' (tOp (rIxL K) (tFld K (tVar 0) "mates") (tVar 4)) (tC .non))) [some (.ref A.a), some (.bl true), some (.int ((i + 1 : Nat) : Int)), some (vN one), some (vN v)] H8 (E.m v).isNone := by
                  refine et_test (ev_is (ev_op (m2 ((e6.trans e7).trans e8)) ev_c (rv_val fun H1 _ Q q => ⟨rfl, q⟩)) ?_)
                  cases E.m v <;> simp [vO]
                refine s_if (b := (E.m v).isNone) (et_is (et_and (a := true) (et_B (ev_var rfl)) fun _ => tn3) (by simp)) (fun hbn H9 e9 => ?_) fun hbn H9 e9 => ?_
                · have hmn : E.m v = none := by simpa using hbn
                  have S9 := S8.mono e9
                  refine q_setL (l := A.pb) (j := v) (v := vN one) S9.hb (ev_var rfl) (ev_fld c rfl S9 c.back rfl) (ev_var rfl) (by simpa using hvn) fun H10 e10 => ?_
                  have S10 := (S9.mono e10).setBack v (some one)
                  exact s_ret (ev_var rfl) fun H11 e11 => hq2 st _ H11 one v (S10.mono e11) R hev1 hG hmn hev
                · have hms : E.m v ≠ none := fun h => by rw [h] at hbn; simp at hbn
                  have hbkn : st.bk v ≠ none := fun h => by
                    rw [h] at hbb
                    cases hq : E.m v with
                    | none => exact hms hq
                    | some z => rw [hq] at hbb; simp at hbb
                  refine ⟨st, Lr, _, rfl, S8.mono e9, R, p1, p2, ?_, ?_⟩
                  · rw [htk]
                    exact q1.snoc fun _ => hbkn
                  · rw [htk]
                    refine q2.snoc fun hp => ?_
                    have := (R.mem v).mpr (List.mem_append_left _ hp)
                    rw [hev] at this
                    cases this
      · rintro σ1 H5 ⟨st, Lr, o4, rfl, S5, R, p1, p2, q1, q2⟩
        rw [List.length_map, List.take_length] at q1 q2
        have hD : ∀ w, E.G one w → w ∈ nb one := fun w hG => (hnb one w hon).mpr hG
        have hti : (L.take i ++ one :: Lr).take (i + 1) = L.take i ++ [one] := by
          have hl : (L.take i).length = i := by rw [List.length_take]; omega
          rw [List.take_append, List.take_of_length_le (by omega), hl, show i + 1 - i = 1 by omega]
          rfl
        refine ⟨st, L.take i ++ one :: Lr, _, _, rfl, ?_, S5, R, ?_, ?_⟩
        · simp; omega
        · rw [hti]; exact p1.snoc q1 hD
        · rw [hti]; exact p2.snoc q2 hD
  · have hiL : i = L.length := by
      have : ¬ i < L.length := by simpa using hb
      omega
    rw [hiL, List.take_length] at p1 p2
    exact s_ret ev_c fun H3 e3 => hq1 st L H3 (S'.mono (e2.trans e3)) R p1 p2
end
end WK
/-! ### W8 -/
set_option Elab.async false
set_option linter.all false
set_option maxRecDepth 100000
set_option maxHeartbeats 4000000
/-! told_search, served_more -/
namespace WK
open PySem PySem.Spec PyProof.Rows L2 Evl DX DL KM C8
abbrev N_told_search : List Str := ["near", "plan", "person", "search"]
theorem sc_told_search : FnScope N_told_search ["near", "plan", "person"] (defScope HD.s_told_search) := ⟨rfl, rfl, rfl, by decide +kernel, rfl, by decide +kernel, by decide +kernel⟩
abbrev N_served_more : List Str := ["web", "near", "plan", "lot", "person", "search", "last", "other"]
theorem sc_served_more : FnScope N_served_more ["web", "near", "plan", "lot", "person"] (defScope HD.s_served_more) := ⟨rfl, rfl, rfl, by decide +kernel, rfl, by decide +kernel, by decide +kernel⟩
def Told (n : Nat) (E : KM.Env) (L : List Nat) (o : Option Nat) (stF : SS) : Prop :=
  (o = none ∧ RI n E stF L ∧ P1 E stF L ∧ P2 E stF L) ∨ ∃ st one v, o = some v ∧ stF = ⟨fup st.bk v (some one), st.bs, st.ev⟩ ∧ RI n E st L ∧ st.ev one = true ∧ E.G one v ∧ E.m v = none ∧ st.ev v = false
def spN (K : PySem.W.Frag) (n : Nat) (Pre : List PyData → Prop) (Post : List PyData → PyData → Prop) : Sp := fun vs H Q _ => vs.length = n ∧ ∃ ds, DpAll K H vs ds ∧ Pre ds ∧ ∀ d, Post ds d → RetD K d H Q
theorem evp_callN {K : PySem.W.Frag} {σ : L2.St} {H : Hp} {n : Nat} {Pre : List PyData → Prop} {Post : List PyData → PyData → Prop} {E : XK} {ta : TA} {ds : List PyData} (h : EvDA K ta σ H ds) (hn : ds.length = n) (hp : Pre ds) :
    EvP (tCall (spN K n Pre Post) [] E ta) σ H fun v H2 => ∃ d, Post ds d ∧ Dp K H2 v d :=
  evp_call h fun vs H1 _ hv Q q => by
    rw [List.append_nil]
    exact ⟨by rw [dpAll_length hv, hn], ds, hv, hp, fun d hd v H2 e h => q v H2 e ⟨d, hd, h⟩⟩
theorem mfun_lt {n : Nat} {ps p : List Pr} (hw : IsWeb n ps) (hp : IsPlan ps p) {u v : Nat} (h : mfun p u = some v) : v < n ∧ u < n := by
  have h1 := (mfun_norm hw hp).mp h
  have h2 := hw _ (hp.1 _ h1)
  have h3 := norm_ends u v
  rcases h3 with ⟨e, _⟩ | ⟨e, _⟩ <;> rw [e] at h2 <;> simp at h2 <;> omega
theorem bd0 {n : Nat} {ps p : List Pr} (hw : IsWeb n ps) (hp : IsPlan ps p) {x : Nat} (hx : x ∉ verts p) (hn : n ≤ 1000) (hxn : x < n) : Bd n (KM.envOf hw hp hx) (s0 x) :=
  ⟨hn, fun {v} h => by
    have : v = x := by simpa [s0] using h
    omega, fun h => (mfun_lt hw hp h).1, fun h => (by cases h), hxn⟩
theorem nbrs_iff {n : Nat} {ps : List Pr} (hw : IsWeb n ps) (v w : Nat) : w ∈ nbrs ps v ↔ norm v w ∈ ps := by
  unfold nbrs
  simp only [List.mem_map, List.mem_filter, decide_eq_true_eq]
  constructor
  · rintro ⟨e, ⟨he, h⟩, rfl⟩
    have hlt := (hw e he).1
    rcases h with h | h
    · subst h
      rw [if_neg (by omega), norm_of hlt]; exact he
    · subst h
      rw [if_pos rfl, norm_comm, norm_of hlt]; exact he
  · intro h
    have h2 := (hw _ h).1
    rcases norm_ends v w with ⟨e, hle⟩ | ⟨e, hle⟩
    · rw [e] at h h2
      exact ⟨(v, w), ⟨h, .inl rfl⟩, by simp at h2; rw [if_neg (by simp; omega)]⟩
    · rw [e] at h h2
      exact ⟨(w, v), ⟨h, .inr rfl⟩, by simp⟩
theorem ch_end {E : KM.Env} {st : SS} {v : Nat} {L : List Nat} (h : Ch E st v L) : ∃ L0, L = L0 ++ [E.r] := by
  induction h with
  | root => exact ⟨[], rfl⟩
  | step h1 h2 h3 h4 ih =>
    obtain ⟨L0, e⟩ := ih
    exact ⟨_ :: L0, by rw [e]; rfl⟩
theorem plan_len {n : Nat} {ps p : List Pr} (hw : IsWeb n ps) (hp : IsPlan ps p) : 2 * p.length ≤ n := by
  rw [← verts_len]
  have := nodup_len (l' := List.range n) hp.2 (fun x hx => by
    obtain ⟨e, he, h⟩ := mem_verts.mp hx
    have := hw _ (hp.1 _ he)
    rw [List.mem_range]
    omega)
  rwa [List.length_range] at this
section
variable {n : Nat} {ps p : List Pr} {x : Nat} (hw : IsWeb n ps) (hp : IsPlan ps p) (hx : x ∉ verts p) {st : SS}
theorem path_len2 (m : Nat → Option Nat) {v : Nat} {Lc : List Nat} (h : Ch (KM.envOf hw hp hx) st v Lc) : (pathR m Lc).length = 2 * (Lc.length - 1) + 1 := by
  obtain ⟨L, e⟩ := h.head
  rw [e, path_len]; simp
theorem turnok_even (n60 : n ≤ 60) (hps : ps.length ≤ 1000) (I : KM.Inv (KM.envOf hw hp hx) st) (bd : Bd n (KM.envOf hw hp hx) st) {v : Nat} {Lc : List Nat} (h : Ch (KM.envOf hw hp hx) st v Lc) (g : Good (KM.envOf hw hp hx) Lc) (hv : v ≠ x) : TurnOk n ps p (pathR (mfun p) Lc) := by
  have hl := path_len2 hw hp hx (mfun p) h
  have nd := path_nodup hw hp hx I h g
  have lt := path_lt hw hp hx I (fun v hv => bd.ev hv) h
  have ht := path_told hw hp hx I h
  have h2 : 2 ≤ Lc.length := by
    cases h with
    | root => exact absurd rfl hv
    | step h1 h2 h3 h4 => obtain ⟨q, e⟩ := h4.head; rw [e]; simp
  have hle := nodup_len (l' := List.range n) nd (fun y hy => List.mem_range.mpr (lt y hy))
  rw [List.length_range] at hle
  refine ⟨by omega, hps, by have := plan_len hw hp; omega, by omega, by omega, nd, lt, ht.1, ?_, fun u hu => ?_, fun ho => by omega⟩
  · rw [ht.2.1, hl]; rfl
  · obtain ⟨L0, e⟩ := ch_end h
    obtain ⟨q, hq⟩ := path_first (mfun p) L0 x
    rw [e] at hu
    have : pathR (mfun p) (L0 ++ [(KM.envOf hw hp hx).r]) = x :: q := hq
    rw [this] at hu
    cases hu
    exact hx
theorem plan_even (I : KM.Inv (KM.envOf hw hp hx) st) {v : Nat} {Lc : List Nat} (h : Ch (KM.envOf hw hp hx) st v Lc) (g : Good (KM.envOf hw hp hx) Lc) (hv : v ≠ x) :
    IsPlan ps (srtP (newPlan p (steps (pathR (mfun p) Lc)))) ∧ ∀ u, u = x ∨ (u ∈ verts p ∧ u ≠ v) → u ∈ verts (srtP (newPlan p (steps (pathR (mfun p) Lc)))) := by
  obtain ⟨h1, h2⟩ := turn_even hw hp hx I h g
  have nd : (x :: verts p).Nodup := List.nodup_cons.mpr ⟨hx, hp.2⟩
  have nd2 := (h2.nodup_iff.mp nd)
  have hpl : IsPlan ps (newPlan p (steps (pathR (mfun p) Lc))) := ⟨h1, (List.nodup_cons.mp nd2).2⟩
  refine ⟨hpl.perm (srtP_perm _).symm, fun u hu => ?_⟩
  rw [(verts_perm (srtP_perm _)).mem_iff]
  have hm : u ∈ v :: verts (newPlan p (steps (pathR (mfun p) Lc))) := h2.mem_iff.mp (by
    rcases hu with hu | hu
    · rw [hu]; exact List.mem_cons_self ..
    · exact List.mem_cons_of_mem _ hu.1)
  rcases List.mem_cons.mp hm with e | e
  · rcases hu with hu | hu
    · exact absurd (e.symm.trans hu) hv
    · exact absurd e hu.2
  · exact e
theorem not_path {v l : Nat} {Lc : List Nat} (I : KM.Inv (KM.envOf hw hp hx) st) (h : Ch (KM.envOf hw hp hx) st v Lc) (hl : l ∉ verts p) (hlx : l ≠ x) : l ∉ pathR (mfun p) Lc := by
  have ht := path_told hw hp hx I h
  obtain ⟨L0, e⟩ := ch_end h
  have e' : Lc = L0 ++ [x] := e
  have hv := path_verts2 (mfun p) L0 x
  rw [← e'] at hv
  intro hm
  rcases List.mem_cons.mp (hv.mem_iff.mpr hm) with h1 | h1
  · exact hlx h1
  · obtain ⟨d, hd, hd2⟩ := mem_verts.mp h1
    exact hl (mem_verts.mpr ⟨d, ht.2.2.2.1 d hd, hd2⟩)
theorem altn_odd (k : Nat) : altn (2 * k) ++ [false] = altn (2 * k + 1) := by
  rw [altn_succ]
  have : (2 * k % 2 == 1) = false := by simp
  rw [this]
theorem turnok_grow (n60 : n ≤ 60) (hps : ps.length ≤ 1000) (I : KM.Inv (KM.envOf hw hp hx) st) (bd : Bd n (KM.envOf hw hp hx) st) {v l : Nat} {Lc : List Nat} (h : Ch (KM.envOf hw hp hx) st v Lc) (g : Good (KM.envOf hw hp hx) Lc) (hl : l ∉ verts p) (hlx : l ≠ x) (hln : l < n) (hg : norm v l ∈ ps) :
    TurnOk n ps p (pathR (mfun p) Lc ++ [l]) := by
  have hlen := path_len2 hw hp hx (mfun p) h
  have nd := path_nodup hw hp hx I h g
  have lt := path_lt hw hp hx I (fun v hv => bd.ev hv) h
  have ht := path_told hw hp hx I h
  have hnp := not_path hw hp hx I h hl hlx
  have nd2 : (pathR (mfun p) Lc ++ [l]).Nodup := List.nodup_append.mpr ⟨nd, by simp, fun a ha b hb e => by
    have : b = l := by simpa using hb
    exact hnp (by rw [← this, ← e]; exact ha)⟩
  have lt2 : ∀ y ∈ pathR (mfun p) Lc ++ [l], y < n := fun y hy => by
    rcases List.mem_append.mp hy with h | h
    · exact lt y h
    · have : y = l := by simpa using h
      omega
  have hle := nodup_len (l' := List.range n) nd2 (fun y hy => List.mem_range.mpr (lt2 y hy))
  rw [List.length_range, List.length_append, List.length_singleton] at hle
  have tg := turn_grow hw hp hx I h g hl hg
  have hnot : norm v l ∉ p := fun hm => hl (mem_verts.mpr ⟨_, hm, by rcases norm_ends v l with ⟨e, _⟩ | ⟨e, _⟩ <;> rw [e] <;> simp⟩)
  refine ⟨by omega, hps, by have := plan_len hw hp; omega, by simp; omega, by simp; omega, nd2, lt2, ?_, ?_, fun u hu => ?_, fun ho u hu => ?_⟩
  · rw [tg.1]
    intro e he
    rcases List.mem_append.mp he with h | h
    · exact ht.1 e h
    · have : e = norm v l := by simpa using h
      rw [this]; exact hg
  · rw [tg.1, List.map_append, ht.2.1, List.map_singleton, show decide (norm v l ∈ p) = false by simpa using hnot, altn_odd]
    congr 1
    rw [List.length_append, hlen, List.length_singleton]
    omega
  · obtain ⟨L0, e⟩ := ch_end h
    obtain ⟨q, hq⟩ := path_first (mfun p) L0 x
    have : pathR (mfun p) Lc = x :: q := by rw [e]; exact hq
    rw [this] at hu
    cases hu
    exact hx
  · have e : (pathR (mfun p) Lc ++ [l]).length - 1 = (pathR (mfun p) Lc).length := by simp
    rw [e, List.getElem?_append_right (Nat.le_refl _), Nat.sub_self] at hu
    cases hu
    exact hl
theorem plan_grow (I : KM.Inv (KM.envOf hw hp hx) st) {v l : Nat} {Lc : List Nat} (h : Ch (KM.envOf hw hp hx) st v Lc) (g : Good (KM.envOf hw hp hx) Lc) (hl : l ∉ verts p) (hlx : l ≠ x) (hg : norm v l ∈ ps) :
    IsPlan ps (srtP (newPlan p (steps (pathR (mfun p) Lc ++ [l])))) ∧ ∀ u, u = x ∨ u ∈ verts p → u ∈ verts (srtP (newPlan p (steps (pathR (mfun p) Lc ++ [l])))) := by
  obtain ⟨_, h1, h2⟩ := turn_grow hw hp hx I h g hl hg
  have nd : (x :: l :: verts p).Nodup := List.nodup_cons.mpr ⟨by simp [hx, Ne.symm hlx], List.nodup_cons.mpr ⟨hl, hp.2⟩⟩
  have hpl : IsPlan ps (newPlan p (steps (pathR (mfun p) Lc ++ [l]))) := ⟨h1, h2.nodup_iff.mp nd⟩
  refine ⟨hpl.perm (srtP_perm _).symm, fun u hu => ?_⟩
  rw [(verts_perm (srtP_perm _)).mem_iff]
  refine h2.mem_iff.mp ?_
  rcases hu with hu | hu
  · rw [hu]; exact List.mem_cons_self ..
  · exact List.mem_cons_of_mem _ (List.mem_cons_of_mem _ hu)
/-- nobody more can be served -/
theorem stuck {L lot : List Nat} (R : RI n (KM.envOf hw hp hx) st L) (p1 : P1 (KM.envOf hw hp hx) st L) (p2 : P2 (KM.envOf hw hp hx) st L) (hall : ∀ v, st.ev v = true → v = x ∨ v ∈ lot) : ¬ Servable ps (lot ++ [x]) := by
  rintro ⟨q, hq, hs⟩
  refine search_end R.I (n := n) (fun v hv => R.bd.ev hv) (fun v w hv hG he => p1 v ((R.mem v).mp hv) w hG he) (fun v w hv hw' hG => p2 v ((R.mem v).mp hv) w ((R.mem w).mp hw') hG) (fun v => (mfun q v).getD 0) fun v hv => ?_
  have hin : v ∈ verts q := hs v (by
    rcases hall v hv with h | h
    · rw [h]; simp
    · exact List.mem_append_left _ h)
  have hne : mfun q v ≠ none := fun e => (mfun_none hq).mp e hin
  obtain ⟨u, hu⟩ := Option.ne_none_iff_exists'.mp hne
  have h1 := (mfun_norm hw hq).mp hu
  rw [hu]
  refine ⟨hq.1 _ h1, ?_⟩
  show (mfun q u).getD 0 = v
  rw [(mfun_norm hw hq).mpr (by rw [norm_comm]; exact h1)]
  rfl
end
section
variable {P : Program} {w : World} {K : PySem.W.Frag} {mg : Str → Option Value} {base : Heap} {f : Addr} {fd : FuncData} {C : Addr}
variable (B : BI mg) (c : CF K C)
include B c
def spTold (K : PySem.W.Frag) (C : Addr) : Sp := fun vs H Q _ => ∃ (n : Nat) (ps p : List Pr) (x : Nat) (hw : IsWeb n ps) (hp : IsPlan ps p) (hx : x ∉ verts p) (near plan : V), vs = [near, plan, vN x] ∧ n ≤ 1000 ∧ x < n ∧
  Dp K H near (.list ((List.range n).map fun v => dNs (nbrs ps v))) ∧ Dp K H plan (dPs p) ∧
  ∀ A o st L H' T, H' T = some (.tup [.ref A.a, vO o]) → SH C H A near n x (mfun p) st L H' → Told n (KM.envOf hw hp hx) L o st → Q (.ref T) H'
theorem ok_told_search (F : FnP K "told_search" "told_search" HD.s_told_search f fd) (hm : mg "told_search" = some (.ref f)) (c_S_init : C8.Mak P w K mg base 1 "Search" C (spInit K C) []) (c_S_run : C8.Met P w K mg base 3 C "run" (spRun K C) []) :
    C8.Cal P w K mg base 4 "told_search" (spTold K C) [] := by
  refine calD F hm sc_told_search (F.bindsN fun _ _ _ _ _ _ us hl => match us, hl with | [_, _, _], _ => rfl) (fun vs H Q E h => ?_) fun cdv Ar outer s H vs Q Ek hr h => ?_
  · obtain ⟨n, ps, p, x, hw, hp, hx, near, plan, rfl, _⟩ := h; rfl
  obtain ⟨n, ps, p, x, hw, hp, hx, near, plan, rfl, hn, hxn, hnear, hplan, hq⟩ := h
  refine ⟨_, PSs.nox (pss_cons (ps_set (i := 3) sc_told_search.nd rfl (.inl rfl) (pe_mk c_S_init hr (by decide) rfl (pa_cons (pv 0) (pa_cons (pv 1) (pa_cons (pv 2) pa_nil)))))
    (pss_one (ps_ret (pe_tup (pa_cons (pv 3) (pa_cons (pe_mt c_S_run hr (by decide) (pv 3) (pa_cons pe_bl pa_nil)) pa_nil)))))), ?_⟩
  refine ⟨_, rfl, _, rfl, _, rfl, fun a dx na ndx hne => ⟨H, a, dx, near, plan, (List.range n).map (nbrs ps), p, x, rfl, na, ndx, hne, rfl, by rw [List.map_map]; exact hnear, by simp; omega, hplan, fun e he => ?_, by simpa using hxn, fun A H1 hA S => ?_⟩⟩
  · have := hw e (hp.1 e he)
    simp; omega
  rw [List.length_map, List.length_range] at S
  subst hA
  refine ⟨rfl, ?_⟩
  have bd := bd0 hw hp hx hn hxn
  have fin : ∀ o st L H2, SH C H A near n x (mfun p) st L H2 → Told n (KM.envOf hw hp hx) L o st → ∀ T, H2 T = none → Q (.ref T) (upd H2 T (.tup [.ref A.a, vO o])) := fun o st L H2 S2 hT T nT =>
    hq A o st L _ T upd_same (S2.mono (Ex.new nT)) hT
  refine ⟨_, rfl, _, rfl, A.a, A.dx, _, rfl, S.ho, rfl, KM.envOf hw hp hx, H, A, near, n, nbrs ps, rfl, S, bd, hnear, fun v w _ => nbrs_iff hw v w, fun v w h => ?_, fun st L H2 S2 R p1 p2 => ?_, fun st L H2 one o S2 R h1 h2 h3 h4 => ?_⟩
  · have h2 := hw _ h
    rcases norm_ends v w with ⟨e, _⟩ | ⟨e, _⟩ <;> rw [e] at h2 <;> simp at h2 <;> omega
  · exact ⟨by show 2 ≤ sizeLine; decide, fun T nT => fin none st L H2 S2 (.inl ⟨rfl, R, p1, p2⟩) T nT⟩
  · exact ⟨by show 2 ≤ sizeLine; decide, fun T nT => fin (some o) _ L H2 S2 (.inr ⟨st, one, o, rfl, rfl, R, h1, h2, h3, h4⟩) T nT⟩
omit B in
theorem evd_way {E : KM.Env} {H0 H : Hp} {A : Ad} {near : V} {n : Nat} {st : SS} {L : List Nat} {σ : L2.St} {te : TE} {i v : Nat} {Lc : List Nat} (S : SH C H0 A near n E.r E.m st L H) (bd : Bd n E st) (hv : v < n) (h : Ch E st v Lc) (hσ : σ[i]? = some (some (.ref A.a))) (ht : Ev te σ H (.int (v : Int))) :
    EvD K (tMeth C "way" (spWay K C) [] C8.E0 (tVar i) (tCons te tNil)) σ H (dNs (pathR E.m Lc)) := fun H1 e Q q =>
  ⟨_, hσ, A.a, A.dx, _, rfl, (S.mono e).ho, rfl, ht H1 e _ fun H2 e2 => ⟨E, H0, A, near, n, st, L, v, Lc, rfl, (S.mono e).mono e2, bd, hv, h, fun u H3 e3 hu => q u H3 (e2.trans e3) hu⟩⟩
omit B in
theorem evd_reached {H0 H : Hp} {A : Ad} {near : V} {n r : Nat} {m : Nat → Option Nat} {st : SS} {L : List Nat} {σ : L2.St} {i : Nat} (S : SH C H0 A near n r m st L H) (hn : n ≤ 1000) (hσ : σ[i]? = some (some (.ref A.a))) :
    EvD K (tMeth C "reached" (spReached K C) [] C8.E0 (tVar i) tNil) σ H (dNs ((List.range n).filter st.ev)) := fun H1 e Q q =>
  ⟨_, hσ, A.a, A.dx, _, rfl, (S.mono e).ho, rfl, ⟨H0, A, near, n, r, m, st, L, rfl, hn, S.mono e, fun u H3 e3 hu => q u H3 e3 hu⟩⟩
def spMore (K : PySem.W.Frag) : Sp := fun vs H Q _ => ∃ (n : Nat) (ps p : List Pr) (lot : List Nat) (x : Nat), vs.length = 5 ∧ DpAll K H vs [dW n ps, .list ((List.range n).map fun v => dNs (nbrs ps v)), dPs p, .list (lot.map dN), dN x] ∧
  n ≤ 60 ∧ ps.length ≤ 1000 ∧ IsWeb n ps ∧ IsPlan ps p ∧ (∀ v ∈ lot, v ∈ verts p) ∧ x < n ∧
  (∀ p', IsPlan ps p' → (∀ v, v = x ∨ v ∈ lot → v ∈ verts p') → RetD K (dPs p') H Q) ∧ (¬ Servable ps (lot ++ [x]) → RetD K .none H Q)
theorem ok_served_more (F : FnP K "served_more" "served_more" HD.s_served_more f fd) (hm : mg "served_more" = some (.ref f)) (c_partner : C8.Cal P w K mg base 1 "partner" (spR K 2 R_partner) [])
    (c_told_search : C8.Cal P w K mg base 4 "told_search" (spTold K C) []) (c_turned : C8.Cal P w K mg base 6 "turned" (spR K 3 R_turned) []) (c_S_way : C8.Met P w K mg base 1 C "way" (spWay K C) [])
    (c_S_reached : C8.Met P w K mg base 1 C "reached" (spReached K C) []) : C8.Cal P w K mg base 7 "served_more" (spMore K) [] := by
  refine calD F hm sc_served_more (F.bindsN fun _ _ _ _ _ _ us hl => match us, hl with | [_, _, _, _, _], _ => rfl) (fun vs H Q E h => ?_) fun cdv Ar outer s H vs Q Ek hr h => ?_
  · obtain ⟨n, ps, p, lot, x, h, _⟩ := h; exact h
  obtain ⟨n, ps, p, lot, x, _, hd, n60, hps, hw, hp, hlot, hxn, hq1, hq2⟩ := h
  obtain ⟨web, r, rfl, h1, hd2⟩ := dpa_cons hd
  obtain ⟨near, r, rfl, h2, hd3⟩ := dpa_cons hd2
  obtain ⟨plan, r, rfl, h3, hd4⟩ := dpa_cons hd3
  obtain ⟨lo, r, rfl, h4, hd5⟩ := dpa_cons hd4
  obtain ⟨px, r, rfl, h5, h6⟩ := dpa_cons hd5
  cases dpa_nil h6
  cases dp_int h5
  refine ⟨_, PSs.nox (pss_cons (ps_if (pt_cmpR op_notN' (pe_c c_partner hr (by decide) rfl (pa_cons (pv 2) (pa_cons (pv 4) pa_nil))) pe_non (nomark _)) (pss_one (ps_ret (pv 2))) pss_nil)
    (pss_cons (ps_asg (pe_c c_told_search hr (by decide) rfl (pa_cons (pv 1) (pa_cons (pv 2) (pa_cons (pv 4) pa_nil)))) (k_gtup K (pg_tup (n := 2) rfl (pgs_cons (pg_name (i := 5) sc_served_more.nd rfl (.inl rfl)) (pgs_cons (pg_name (i := 6) sc_served_more.nd rfl (.inl rfl)) pgs_nil)))))
    (pss_cons (ps_if (pt_cmpR op_notN' (pv 6) pe_non (nomark _)) (pss_one (ps_ret (pe_c c_turned hr (by decide) rfl (pa_cons (pv 0) (pa_cons (pv 2) (pa_cons (pe_tup (pa_cons pe_str (pa_cons (pe_tup (k_star K (StX.pa_star (pe_mt c_S_way hr (by decide) (pv 5) (pa_cons (pe_ix (ix_lstK K) (k_fld K (pe_fld (pv 5) rfl)) (pv 6) (fun _ _ => rfl)) pa_nil)) (pa_cons (pv 6) pa_nil)))) pa_nil))) pa_nil)))))) pss_nil)
    (pss_cons (ps_for PassesOwn.never rfl (k_tup K (pi_tup (pe_mt0 c_S_reached hr (by decide) (pv 5)))) (pg_name (i := 7) sc_served_more.nd rfl (.inl rfl)) (pss_one (ps_if (PW.pt (pw_and (pt_cmpR op_ne (pv 7) (pv 4) (nomark _)) (pw_and1 (pt_cmpR (op_ninK K) (pv 7) (pv 3) (by with_unfolding_all rfl))))) (pss_one (ps_ret (pe_c c_turned hr (by decide) rfl (pa_cons (pv 0) (pa_cons (pv 2) (pa_cons (pe_tup (pa_cons pe_str (pa_cons (pe_mt c_S_way hr (by decide) (pv 5) (pa_cons (pv 7) pa_nil)) pa_nil))) pa_nil)))))) pss_nil)))
    (pss_one (ps_ret pe_non)))))), ?_⟩
  have hpl := plan_len hw hp
  refine q_ifE (b := decide (x ∈ verts p)) ?_ (fun hb H1 e1 => ?_) fun hb H1 e1 => ?_
  · refine et_test (ev_opD (d := dO (partF p x)) (e := .none) (evd_callR (ds := [dPs p, dN x]) (eda_cons (evd_var rfl h3) (eda_cons (evd_int (ev_var rfl)) eda_nil)) rfl ⟨p, x, by omega, rfl, rfl⟩) (evd_non (K := K) ev_c) fun v w H1 _ hv hw' Q q => ?_)
    refine ⟨dp_non hw', ?_⟩
    have : (!decide (v = V.non)) = decide (x ∈ verts p) := by
      cases hpf : partF p x with
      | none =>
        rw [hpf] at hv
        rw [dp_non hv]
        have := partF_none.mp hpf
        simp [this]
      | some z =>
        rw [hpf] at hv
        rw [dp_int hv]
        have : x ∈ verts p := Classical.byContradiction fun h => by
          rw [partF_none.mpr h] at hpf
          cases hpf
        simp [this]
    rw [this]
    exact q
  · have hin : x ∈ verts p := by simpa using hb
    exact s_retQ (evd_var rfl (dp_mono e1 h3)) (hq1 p hp fun v hv => hv.elim (fun h => by rw [h]; exact hin) (hlot v)) e1
  have hx : x ∉ verts p := by simpa using hb
  refine ⟨_, rfl, _, rfl, _, rfl, n, ps, p, x, hw, hp, hx, near, plan, rfl, by omega, hxn, dp_mono e1 h2, dp_mono e1 h3, fun A o st L H2 T hT S hTold => ⟨T, _, rfl, st_of hT, rfl, _, _, rfl, _, _, rfl, rfl, ?_⟩⟩
  have k1 := dp_mono S.ex (dp_mono e1 h1)
  have k3 := dp_mono S.ex (dp_mono e1 h3)
  have k4 := dp_mono S.ex (dp_mono e1 h4)
  have e02 := e1.trans S.ex
  dsimp only
  refine q_ifE (b := o.isSome) ?_ (fun hb H3 e3 => ?_) fun hb H3 e3 => ?_
  · refine et_test (ev_is (ev_op (ev_var (v := vO o) rfl) ev_c (rv_val fun H1 _ Q q => ⟨rfl, q⟩)) ?_)
    cases o <;> simp [vO]
  · rcases hTold with ⟨rfl, _⟩ | ⟨st0, one, l, rfl, rfl, R, g1, g2, g3, g4⟩
    · cases hb
    · have hl : l ∉ verts p := (mfun_none hp).mp g3
      have hlx : l ≠ x := fun e => by
        have h0 : st0.ev x = true := R.I.er
        rw [e, h0] at g4
        cases g4
      have hln : l < n := by
        have h2 := hw _ g2
        rcases norm_ends one l with ⟨e, _⟩ | ⟨e, _⟩ <;> rw [e] at h2 <;> simp at h2 <;> omega
      obtain ⟨Lc, hc, hgood⟩ := R.I.ch g1
      have hon := R.bd.ev g1
      have hc' : Ch (KM.envOf hw hp hx) ⟨fup st0.bk l (some one), st0.bs, st0.ev⟩ one Lc := hc.stay (fun _ h => h) fun z hz o' ho' => by
        refine fup_ne fun e => ?_
        have h9 : mfun p o' = some z := (KM.envOf hw hp hx).ms ho'
        rw [e] at h9
        have g3' : mfun p l = none := g3
        rw [g3'] at h9
        cases h9
      have bd' : Bd n (KM.envOf hw hp hx) ⟨fup st0.bk l (some one), st0.bs, st0.ev⟩ := ⟨R.bd.n1, R.bd.ev, R.bd.mt, fun {u v} h => by
        have h' : fup st0.bk l (some one) u = some v := h
        unfold fup at h'
        split at h'
        · cases h'; exact hon
        · exact R.bd.bk h', R.bd.rt⟩
      have S3 := S.mono e3
      have tk := turnok_grow hw hp hx n60 hps R.I R.bd hc hgood hl hlx hln g2
      have pg := plan_grow hw hp hx R.I hc hgood hl hlx g2
      have hlen : ((pathR (mfun p) Lc ++ [l]).map dN).length ≤ 100000 := by have := tk.l64; simp at *; omega
      have hway : EvD K _ [some web, some near, some plan, some lo, some (vN x), some (.ref A.a), some (vN l), none] H3 (dNs (pathR (mfun p) Lc)) := evd_way (C := C) c (E := KM.envOf hw hp hx) (i := 5) (te := tOp (rIxL K) (tFld K (tVar 5) "back") (tVar 6)) S3 bd' hon hc' rfl (ev_some (ev_back (i := 5) (v := l) c rfl S3 (ev_var rfl) hln) (by show fup st0.bk l (some one) l = some one; rw [fup_same]))
      refine s_retQ (evd_callR (ds := [dW n ps, dPs p, .tuple [.str "way", dNs (pathR (mfun p) Lc ++ [l])]]) (eda_cons (evd_var rfl (dp_mono e3 k1)) (eda_cons (evd_var rfl (dp_mono e3 k3)) (eda_cons (evd_tup (eda_cons (evd_str ev_c) (eda_cons (evd_is (evd_tup (eda_star hway (eda_cons (evd_int (ev_var rfl)) eda_nil)) (by have h := hlen; simp only [List.length_map, List.length_append, List.length_cons, List.length_nil] at h ⊢; omega)) (by rw [dNs, List.map_append]; rfl)) eda_nil)) (by show 2 ≤ 100000; decide)) eda_nil))) rfl ⟨n, ps, p, _, tk, rfl, rfl⟩) (hq1 _ pg.1 fun v hv => pg.2 v (hv.imp id (hlot v))) (e02.trans e3)
  · rcases hTold with ⟨rfl, R, p1, p2⟩ | ⟨st0, one, l, rfl, _⟩
    · have S3 := S.mono e3
      have j1 := dp_mono e3 k1
      have j3 := dp_mono e3 k3
      have j4 := dp_mono e3 k4
      have hrl : ((List.range n).filter st.ev).length ≤ n := by
        have := List.length_filter_le st.ev (List.range n)
        rwa [List.length_range] at this
      refine s_forI (D := { nx := _, rt := _ }) (IvE.of_map (iv_tup (evd_reached c S3 (by omega) rfl))) (fun i σ1 H1 => (∃ o7, σ1 = [some web, some near, some plan, some lo, some (vN x), some (.ref A.a), some .non, o7]) ∧ ∀ v ∈ ((List.range n).filter st.ev).take i, v = x ∨ v ∈ lot) ?_ (fun i σ1 H1 H2 _ h => h) ?_ ?_
      · intro H4 e4
        exact ⟨⟨none, rfl⟩, by simp⟩
      · rintro i v z σ1 H4 Hb hi e4 eb ⟨⟨o7, rfl⟩, hno⟩ hz
        cases dp_int hz
        have hvm := List.mem_filter.mp (List.mem_of_getElem? hi)
        have hev : st.ev v = true := hvm.2
        have hvn : v < n := List.mem_range.mp hvm.1
        dsimp only
        refine s_if (b := !decide (v = x) && !decide (v ∈ lot)) (et_and (et_test (ev_neN (n := v) (m := x) (ev_var rfl) (ev_var rfl))) fun _ => et_test (ev_inNl (neg := true) (n := v) (evd_int (ev_var rfl)) (evd_var rfl (dp_mono e4 j4)))) (fun hb H5 e5 => ?_) fun hb H5 e5 => ?_
        · have hb' : v ≠ x ∧ v ∉ lot := by simpa using hb
          obtain ⟨Lc, hc, hgood⟩ := R.I.ch hev
          have tk := turnok_even hw hp hx n60 hps R.I R.bd hc hgood hb'.1
          have pg := plan_even hw hp hx R.I hc hgood hb'.1
          have hlen : ((pathR (mfun p) Lc).map dN).length ≤ 100000 := by have := tk.l64; simp at *; omega
          have e45 := e4.trans e5
          have hway : EvD K _ [some web, some near, some plan, some lo, some (vN x), some (.ref A.a), some .non, some (vN v)] H5 (dNs (pathR (mfun p) Lc)) := evd_way (C := C) c (E := KM.envOf hw hp hx) (i := 5) (te := tVar 7) (S3.mono e45) R.bd hvn hc rfl (ev_var rfl)
          exact s_retQ (evd_callR (ds := [dW n ps, dPs p, .tuple [.str "way", dNs (pathR (mfun p) Lc)]]) (eda_cons (evd_var rfl (dp_mono e45 j1)) (eda_cons (evd_var rfl (dp_mono e45 j3)) (eda_cons (evd_tup (eda_cons (evd_str ev_c) (eda_cons hway eda_nil)) (by show 2 ≤ 100000; decide)) eda_nil))) rfl ⟨n, ps, p, _, tk, rfl, rfl⟩) (hq1 _ pg.1 fun u hu => pg.2 u (hu.imp id fun h => ⟨hlot u h, fun e => hb'.2 (by rw [← e]; exact h)⟩)) ((e02.trans e3).trans e45)
        · have hb' : v = x ∨ v ∈ lot := by
            rcases Classical.em (v = x) with h | h
            · exact .inl h
            · rcases Classical.em (v ∈ lot) with h2 | h2
              · exact .inr h2
              · simp [h, h2] at hb
          refine ⟨eb.trans e5, ⟨_, rfl⟩, fun u hu => ?_⟩
          rw [List.take_succ, hi] at hu
          rcases List.mem_append.mp hu with h | h
          · exact hno u h
          · have : u = v := by simpa using h
            rw [this]; exact hb'
      · rintro σ1 H4 e4 ⟨⟨o7, rfl⟩, hno⟩
        rw [List.take_length] at hno
        dsimp only
        refine s_retQ (evd_non ev_c) (hq2 (stuck hw hp hx R p1 p2 fun v hv => hno v (List.mem_filter.mpr ⟨List.mem_range.mpr (R.bd.ev hv), hv⟩))) ((e02.trans e3).trans e4)
    · cases hb
end
end WK
/-! ### W9 -/
set_option Elab.async false
set_option linter.all false
set_option maxRecDepth 100000
set_option maxHeartbeats 4000000
/-! kept_of, kept_lot, and the news -/
namespace WK
open PySem PySem.Spec PyProof.Rows L2 Evl DX DL KM C8
abbrev N_kept_of : List Str := ["web", "lot", "near", "plan", "kept", "person", "more"]
theorem sc_kept_of : FnScope N_kept_of ["web", "lot"] (defScope HD.s_kept_of) := ⟨rfl, rfl, rfl, by decide +kernel, rfl, by decide +kernel, by decide +kernel⟩
abbrev N_kept_lot : List Str := ["web", "order"]
theorem sc_kept_lot : FnScope N_kept_lot ["web", "order"] (defScope HD.s_kept_lot) := ⟨rfl, rfl, rfl, by decide +kernel, rfl, by decide +kernel, by decide +kernel⟩
abbrev N_come_and_gone : List Str := ["web", "other", "order", "before", "behind", "come", "person"]
theorem sc_come_and_gone : FnScope N_come_and_gone ["web", "other", "order"] (defScope HD.s_come_and_gone) := ⟨rfl, rfl, rfl, by decide +kernel, rfl, by decide +kernel, by decide +kernel⟩
abbrev N_pair_turned : List Str := ["web", "pair"]
theorem sc_pair_turned : FnScope N_pair_turned ["web", "pair"] (defScope HD.s_pair_turned) := ⟨rfl, rfl, rfl, by decide +kernel, rfl, by decide +kernel, by decide +kernel⟩
abbrev N_pair_news : List Str := ["web", "order", "pair", "come", "gone"]
theorem sc_pair_news : FnScope N_pair_news ["web", "order", "pair"] (defScope HD.s_pair_news) := ⟨rfl, rfl, rfl, by decide +kernel, rfl, by decide +kernel, by decide +kernel⟩
abbrev N_person_gone : List Str := ["web", "order", "person", "come", "gone", "other"]
theorem sc_person_gone : FnScope N_person_gone ["web", "order", "person"] (defScope HD.s_person_gone) := ⟨rfl, rfl, rfl, by decide +kernel, rfl, by decide +kernel, by decide +kernel⟩
section
variable {P : Program} {w : World} {K : PySem.W.Frag} {mg : Str → Option Value} {base : Heap} {x : Str} {st : Stmt} {f : Addr} {fd : FuncData} {N ps : List Str} {k : Nat}
theorem fnR {n : Nat} {R : List PyData → PyData → Prop} (F : FnP K x x st f fd) (S : FnScope N ps (defScope st)) (hn : ps.length = n)
    (hbody : ∀ (cdv : Value) (A : Around) (outer : List PySem.Env) (s : Shared) (H : Hp) (vs : List V) (Q : VK) (E : XK) (ds : List PyData) (d : PyData), Room k (A.deeper (PyProof.Rows.envOfC x (defScope st) s.heap.objs.size f cdv)) → DpAll K H vs ds → R ds d → RetD K d H Q →
      ∃ t, PSs (cxOf L2.CX0 P w K mg base N x (defScope st) f cdv A outer s H E) (defBody st) t ∧ t { nx := fun _ H' => Q .non H', rt := Q } (L2.start N vs) H) : FnOk P w K mg base L2.CX0 (k + 1) f fd ps (spR K n R) :=
  F.ok S (fun _ _ _ _ h => by rw [h.1, hn]) fun cdv A outer s H vs Q E hr ⟨_, ds, d, h1, h2, h3⟩ => hbody cdv A outer s H vs Q E ds d hr h1 h2 h3
theorem cal_fn {sp : Sp} (F : FnP K x x st f fd) (hm : mg x = some (.ref f)) (b : Binds K fd ps []) (h : FnOk P w K mg base L2.CX0 k f fd ps sp) : C8.Cal P w K mg base k x sp [] := ⟨f, fd, ps, [], h, hm, F.kp, b, .nil⟩
/-- a function that is called by keywords alone -/
structure CalKw (P : Program) (w : World) (K : PySem.W.Frag) (mg : Str → Option Value) (base : Heap) (k : Nat) (x : Str) (sp : Sp) (ks : List Str) (gV : List V → List V → List V) : Prop where
  ex : ∃ (f : Addr) (fd : FuncData) (ps : List Str) (g : List Value → List Value → List Value), FnOk P w K mg base L2.CX0 k f fd ps sp ∧ mg x = some (.ref f) ∧ PySem.W.keepIn K (.ref f) = true ∧ KBinds K fd ps ks g gV
theorem kb_of {ks : List Str} {g : List Value → List Value → List Value} {gV : List V → List V → List V} (F : FnP K x x st f fd)
    (h : ∀ (kV doc pm : Value) (an : Option Addr) (cdv ct : Value) (us ws : List Value), (g us ws).length = ps.length → bindArgs (PySem.W.fnOf x x (defArgs st) (defBody st) (defScope st) .none kV doc pm an cdv ct) ⟨us, ks.zip ws⟩ = pure (ps.zip (g us ws)))
    (rel : ∀ {vs : List V} {us : List Value} {zs : List V} {ws : List Value}, Vals vs us → Vals zs ws → Vals (gV vs zs) (g us ws)) : KBinds K fd ps ks g gV := by
  obtain ⟨oc, od, dV, kV, doc, pm, an, cdv, ct, osl, rfl, lk, hcd, hD, hK⟩ := F.ex
  rcases hD with ⟨_, rfl⟩ | ⟨e, _⟩
  · exact ⟨fun s us ws _ hl => .of_eq (h kV doc pm an cdv ct us ws hl), rel⟩
  · exact absurd rfl e
end
section
variable {X : Cx} {k j : Nat} {x : Str} {sp : Sp} {p pos : Pos} {ks : List Str} {gV : List V → List V → List V} {kws : List Keyword} {tk : TA}
theorem pe_cK (c : CalKw X.prog X.w X.K X.mg X.base k x sp ks gV) (hr : Room j X.A) (hk : k ≤ j) (hg : Gl X x)
    (hkw : PK X kws tk) (hall : (backToKw pos (keywordEach kws X.env)).all (·.1.isSome) = true := by rfl) (hks : (backToKw pos (keywordEach kws X.env)).filterMap (·.1) = ks := by rfl) (hdb : (x == ("__debug__" : Str)) = false := by decide)
    (hpl : ((backTo pos (starEach [] X.env)).any (·.1) || (backToKw pos (keywordEach kws X.env)).any (·.1.isNone)) = false := by rfl) : PE X (.Call (.Name x p) [] kws pos) (tCallK sp gV C8.E0 tNil tk) := by
  obtain ⟨f, fd, ps, g, F, hm, kp, hb⟩ := c.ex
  exact pe_callK0 F (hr.mono hk) hg hm kp hb C8.pass0 hkw hall hks hdb hpl
end
structure WOk (n : Nat) (ps : List Pr) : Prop where
  n60 : n ≤ 60
  len : ps.length ≤ 1000
  hw : IsWeb n ps
structure OrdOk (n : Nat) (ord : List Nat) : Prop where
  lt : ∀ v ∈ ord, v < n
  len : ord.length ≤ 1000
theorem kept_len {ps : List Pr} {ord : List Nat} : (keptBy ps ord).length ≤ ord.length := (kept_sublist ps ord).length_le
section
variable {K : PySem.W.Frag} {σ : L2.St} {H : Hp} {te : TE} {D : Ends} {tz : TS}
theorem q_asg2 {i j : Nat} {d e : PyData} (h : EvD K te σ H (.tuple [d, e])) (k : ∀ v w H1, Ex H H1 → Dp K H1 v d → Dp K H1 w e → tz D ((σ.set i (some v)).set j (some w)) H1) : tSeq (tAsg te (gTup K 2 (gCons (gName i) (gCons (gName j) gNil)))) tz D σ H :=
  h H (Ex.refl _) _ fun T H1 e1 hT => by
    obtain ⟨b1, b2, k1, k2, kk⟩ := g_two hT
    exact kk _ ⟨_, [_], rfl, _, [], rfl, rfl, k b1 b2 H1 e1 k1 k2⟩
end
def comes (a b : List Nat) : List Nat := b.filter fun v => !decide (v ∈ a)
def turnedW (ps : List Pr) (e : Pr) : List Pr := if e ∈ ps then ps.filter (fun x => !decide (x ∈ [e])) else srtP (ps ++ [e])
def newsD (come gone : List Nat) : PyData :=
  if come.length = gone.length then (if come.length = 0 then .tuple [.str "same"] else .tuple [.str "instead", dN (come.headD 0), dN (gone.headD 0)])
  else if gone.length < come.length then .tuple [.str "come", dNs come] else .tuple [.str "go", dNs gone]
def goneD (come gone : List Nat) (x : Nat) : PyData :=
  if gone.length = 0 then .tuple [.str "same"] else if 0 < come.length then .tuple [.str "instead", dN (come.headD 0)] else .tuple [.str "go", dN ((gone.filter fun v => !decide (v = x)).headD 0)]
def lessW (ps : List Pr) (x : Nat) : List Pr := ps.filter fun e => !decide (e ∈ ps.filter fun e => decide (e.1 ∈ [x]) || decide (e.2 ∈ [x]))
theorem lessW_mem {ps : List Pr} {x : Nat} {e : Pr} : e ∈ lessW ps x ↔ e ∈ ps ∧ e.1 ≠ x ∧ e.2 ≠ x := by
  unfold lessW
  simp only [List.mem_filter, Bool.not_eq_true', decide_eq_false_iff_not, Bool.or_eq_true, decide_eq_true_eq, List.mem_singleton]
  constructor
  · rintro ⟨h, g⟩
    exact ⟨h, fun e => g ⟨h, .inl e⟩, fun e => g ⟨h, .inr e⟩⟩
  · rintro ⟨h, g1, g2⟩
    exact ⟨h, fun z => z.2.elim g1 g2⟩
theorem turnedW_mem {ps : List Pr} {e x : Pr} : x ∈ turnedW ps e ↔ if e ∈ ps then x ∈ ps ∧ x ≠ e else x ∈ ps ∨ x = e := by
  unfold turnedW
  by_cases h : e ∈ ps
  · rw [if_pos h, if_pos h]; simp
  · rw [if_neg h, if_neg h, mem_srtP]; simp
theorem turnedW_ok {n : Nat} {ps : List Pr} {e : Pr} (W : WOk n ps) (hl : ps.length ≤ 999) (he : e.1 < e.2 ∧ e.2 < n) : WOk n (turnedW ps e) := by
  refine ⟨W.n60, ?_, fun x hx => ?_⟩
  · unfold turnedW
    split
    · exact Nat.le_trans (List.length_filter_le _ _) W.len
    · rw [len_srtP]; simp; omega
  · rw [turnedW_mem] at hx
    split at hx
    · exact W.hw x hx.1
    · rcases hx with h | h
      · exact W.hw x h
      · rw [h]; exact he
theorem lessW_ok {n : Nat} {ps : List Pr} {x : Nat} (W : WOk n ps) : WOk n (lessW ps x) :=
  ⟨W.n60, Nat.le_trans (List.length_filter_le _ _) W.len, fun e he => W.hw e (lessW_mem.mp he).1⟩
theorem head_at {l : List Nat} (h : 0 < l.length) : (l.map dN)[0]? = some (dN (l.headD 0)) := by
  cases l with
  | nil => cases h
  | cons a l => rfl
section
variable {P : Program} {w : World} {K : PySem.W.Frag} {mg : Str → Option Value} {base : Heap} {f : Addr} {fd : FuncData}
variable (B : BI mg)
include B
def spKept (K : PySem.W.Frag) : Sp := fun vs H Q _ => ∃ (n : Nat) (ps : List Pr) (ord : List Nat), vs.length = 2 ∧ DpAll K H vs [dW n ps, dNs ord] ∧ WOk n ps ∧ OrdOk n ord ∧ ∀ p, RetD K (.tuple [dNs (keptBy ps ord), dPs p]) H Q
theorem ok_kept_of (F : FnP K "kept_of" "kept_of" HD.s_kept_of f fd) (hm : mg "kept_of" = some (.ref f)) (c_near_of : C8.Cal P w K mg base 2 "near_of" (spR K 1 R_near_of) []) (c_served_more : C8.Cal P w K mg base 7 "served_more" (spMore K) []) :
    C8.Cal P w K mg base 8 "kept_of" (spKept K) [] := by
  refine calD F hm sc_kept_of (F.bindsN fun _ _ _ _ _ _ us hl => match us, hl with | [_, _], _ => rfl) (fun vs H Q E h => ?_) fun cdv Ar outer s H vs Q Ek hr h => ?_
  · obtain ⟨n, ps, ord, h, _⟩ := h; exact h
  obtain ⟨n, ps, ord, _, hd, W, O, hq⟩ := h
  obtain ⟨web, r, rfl, h1, hd2⟩ := dpa_cons hd
  obtain ⟨lot, r, rfl, h2, h3⟩ := dpa_cons hd2
  cases dpa_nil h3
  refine ⟨_, PSs.nox (pss_cons (ps_par3 (i := 2) (j := 3) (l := 4) rfl sc_kept_of.nd rfl rfl rfl (by decide) (by decide) (by decide) rfl rfl rfl (pa_cons (pe_c c_near_of hr (by decide) rfl (pa_cons (pv 0) pa_nil)) (pa_cons (pe_tup pa_nil) (pa_cons (pe_lst pa_nil) pa_nil))) (by rfl))
    (pss_cons (ps_for PassesOwn.never rfl (k_tup K (pi_tup (pv 1))) (pg_name (i := 5) sc_kept_of.nd rfl (.inl rfl)) (pss_cons (ps_set (i := 6) sc_kept_of.nd rfl (.inl rfl) (pe_c c_served_more hr (by decide) rfl (pa_cons (pv 0) (pa_cons (pv 2) (pa_cons (pv 3) (pa_cons (pv 4) (pa_cons (pv 5) pa_nil)))))))
    (pss_one (ps_if (pt_cmpR op_notN' (pv 6) pe_non (nomark _)) (pss_cons (ps_set (i := 3) sc_kept_of.nd rfl (.inl rfl) (pv 6))
    (pss_one (ps_expr (k_bm K (pe_bm PySem.F.plainAttrs_list PySem.F.slot_list_append PySem.F.type_list_append mt_append (pv 4) (pa_cons (pv 5) pa_nil)))))) pss_nil))))
    (pss_one (ps_ret (pe_tup (pa_cons (pe_callTy (cr_tupK K) rfl B.tuple (by decide +kernel) (pa_cons (pv 4) pa_nil)) (pa_cons (pv 3) pa_nil))))))), ?_⟩
  refine (evd_callR (K := K) (σ := [some web, some lot, none, none, none, none, none]) (ds := [dW n ps]) (eda_cons (evd_var rfl h1) eda_nil) rfl ⟨n, ps, by have := W.n60; omega, W.len, rfl, rfl⟩) H (Ex.refl _) _ fun nr H1 e1 hnr => ?_
  refine ⟨by show 0 ≤ sizeLine; decide, fun tp htp => ⟨by show 0 ≤ sizeLine; decide, fun k hk => ⟨nr, .ref tp, .ref k, rfl, ?_⟩⟩⟩
  have e2 : Ex H1 (upd H1 tp (.tup [])) := Ex.new htp
  have e3 : Ex (upd H1 tp (.tup [])) (upd (upd H1 tp (.tup [])) k (.lst [])) := Ex.new hk
  generalize hHb : upd H1 tp (.tup []) = Hb at *
  have hpl : Dp K Hb (.ref tp) (dPs []) := .tup (st_of (by rw [← hHb]; exact upd_same)) .nil
  have eb := e1.trans e2
  have b1 := dp_mono eb h1
  have b2 := dp_mono eb h2
  have bn := dp_mono e2 hnr
  dsimp only
  refine q_for0 (H0 := Hb) (ds := ord.map dN) (ev_var rfl) b2 e3 (fun i σ1 H1 => ∃ pv p o5 o6, σ1 = [some web, some lot, some nr, some pv, some (.ref k), o5, o6] ∧ Ex Hb H1 ∧ H1 k = some (.lst ((keptBy ps (ord.take i)).map vN)) ∧ Dp K H1 pv (dPs p) ∧ IsPlan ps p ∧ ∀ v ∈ keptBy ps (ord.take i), v ∈ verts p) (fun i σ1 H1 ⟨_, _, _, _, _, h, _⟩ => h) ?_ ?_ ?_
  · intro H4 e4
    exact ⟨.ref tp, [], none, none, rfl, e3.trans e4, e4 _ _ upd_same, dp_mono (e3.trans e4) hpl, isPlan_nil ps, by simp [keptBy_nil]⟩
  · rintro i d x σ1 H4 hi ⟨pv, p, o5, o6, rfl, e4, hk4, hpv, hp, hsub⟩ hx
    rw [List.getElem?_map] at hi
    cases hv : ord[i]? with
    | none => rw [hv] at hi; cases hi
    | some v =>
      rw [hv] at hi
      cases hi
      cases dp_int hx
      have hvn := O.lt v (List.mem_of_getElem? hv)
      have htk : ord.take (i + 1) = ord.take i ++ [v] := by rw [List.take_succ, hv]; rfl
      have hkl : (keptBy ps (ord.take i)).length ≤ 1000 := by
        have h1 := @kept_len ps (ord.take i)
        have h2 := O.len
        rw [List.length_take] at h1
        omega
      refine ⟨_, rfl, _, rfl, _, rfl, _, rfl, _, rfl, n, ps, p, keptBy ps (ord.take i), v, rfl, .cons (dp_mono e4 b1) (.cons (dp_mono e4 bn) (.cons hpv (.cons (.lst (sq_of hk4) (N_dpa _)) (.cons (.int _) .nil)))), W.n60, W.len, W.hw, hp, hsub, hvn, fun p' hp' hs u H5 e5 hu => ?_, fun hns u H5 e5 hu => ?_⟩
      · obtain ⟨ua, xs, rfl, _, _⟩ := dp_tup hu
        have hk5 := e5 _ _ hk4
        refine s_if (b := true) (et_test (ev_op (ev_var rfl) ev_c (rv_val fun H1 _ Q q => ⟨rfl, q⟩))) (fun _ H6 e6 => ?_) fun h => (by cases h)
        refine q_asg (ev_var rfl) fun H7 e7 => ?_
        have hk7 := (e6.trans e7) _ _ hk5
        refine s_app hk7 (ev_var rfl) (ev_var rfl) (by rw [List.length_map]; omega) fun H8 e8 => ?_
        have hk8 := e8 _ _ hk7
        have hks : keptBy ps (ord.take (i + 1)) = keptBy ps (ord.take i) ++ [v] := by
          rw [htk, keptBy_snoc]
          exact kstep_yes ⟨p', hp', fun z hz => hs z (by
            rcases List.mem_append.mp hz with h | h
            · exact .inr h
            · exact .inl (by simpa using h))⟩
        have nk : Hb k = none := hk
        refine ⟨.ref ua, p', _, _, rfl, Ex.mut (((e4.trans e5).trans e6).trans (e7.trans e8)) nk, ?_, dp_monoT (ExT.put hk8) (tupD_Ps p') (dp_mono ((e6.trans e7).trans e8) hu), hp', fun z hz => ?_⟩
        · rw [upd_same, hks, List.map_append]; rfl
        · rw [hks] at hz
          rcases List.mem_append.mp hz with h | h
          · exact hs z (.inr h)
          · exact hs z (.inl (by simpa using h))
      · cases dp_non hu
        refine s_if (b := false) (et_test (ev_op (ev_var rfl) ev_c (rv_val fun H1 _ Q q => ⟨rfl, q⟩))) (fun h => (by cases h)) fun _ H6 e6 => ?_
        have hks : keptBy ps (ord.take (i + 1)) = keptBy ps (ord.take i) := by
          rw [htk, keptBy_snoc]
          exact kstep_no hns
        have e46 := e5.trans e6
        refine ⟨pv, p, _, _, rfl, e4.trans e46, ?_, dp_mono e46 hpv, hp, ?_⟩
        · rw [hks]; exact e46 _ _ hk4
        · rw [hks]; exact hsub
  · rintro σ1 H4 ⟨pv, p, o5, o6, rfl, e4, hk4, hpv, hp, hsub⟩
    rw [List.length_map, List.take_length] at hk4
    refine s_retQ (evd_tup (eda_cons (evd_tupOf (evd_of (ev_var rfl) fun H5 e5 => .lst (sq_of (e5 _ _ hk4)) (N_dpa _))) (eda_cons (evd_var rfl hpv) eda_nil)) (by show 2 ≤ 100000; decide)) (hq p) (eb.trans e4)
def R_kept_lot : List PyData → PyData → Prop := fun ds d => ∃ n ps ord, WOk n ps ∧ OrdOk n ord ∧ ds = [dW n ps, dNs ord] ∧ d = dNs (srtN (keptBy ps ord))
theorem ok_kept_lot (F : FnP K "kept_lot" "kept_lot" HD.s_kept_lot f fd) (hm : mg "kept_lot" = some (.ref f)) (c_kept_of : C8.Cal P w K mg base 8 "kept_of" (spKept K) []) : C8.Cal P w K mg base 9 "kept_lot" (spR K 2 R_kept_lot) [] := by
  refine calR F hm sc_kept_lot (F.bindsN fun _ _ _ _ _ _ us hl => match us, hl with | [_, _], _ => rfl) rfl fun cdv A outer s H vs Q E ds d hr hd hR hq => ?_
  obtain ⟨n, ps, ord, W, O, rfl, rfl⟩ := hR
  obtain ⟨web, r, rfl, h1, hd2⟩ := dpa_cons hd
  obtain ⟨lot, r, rfl, h2, h3⟩ := dpa_cons hd2
  cases dpa_nil h3
  refine ⟨_, PSs.nox (pss_one (ps_ret (pe_callTy (cr_tupK K) rfl B.tuple (by decide +kernel) (pa_cons (pe_callB (cr_sortK K hr) rfl B.sorted (by decide +kernel) (pa_cons (pe_ix (ix_tupK K) (pe_c c_kept_of hr (by decide) rfl (pa_cons (pv 0) (pa_cons (pv 1) pa_nil))) pe_int (fun _ _ => rfl)) pa_nil)) pa_nil)))), ?_⟩
  refine s_retQ (evd_tupOf (evn_d (evn_sortN (.inr ?_)))) hq (Ex.refl _)
  intro H1 e1 Q1 q1
  refine ⟨_, rfl, _, rfl, n, ps, ord, rfl, .cons (dp_mono e1 h1) (.cons (dp_mono e1 h2) .nil), W, O, fun p u H2 e2 hu => ?_⟩
  obtain ⟨a, xs, rfl, hs, hx⟩ := dp_tup hu
  obtain ⟨v, hv, hdv⟩ := dpa_at (i := 0) hx rfl
  exact ⟨a, xs, 0, v, rfl, rfl, hs, atI_nn hv, q1 v H2 e2 hdv⟩
noncomputable def keptT (ps : List Pr) (ord : List Nat) : List Nat := srtN (keptBy ps ord)
omit B in
theorem keptT_len {n : Nat} {ps : List Pr} {ord : List Nat} (O : OrdOk n ord) : (keptT ps ord).length ≤ 1000 := by
  unfold keptT
  rw [len_srtN]
  have h1 := @kept_len ps ord
  have := O.len
  omega
def R_come_and_gone : List PyData → PyData → Prop := fun ds d => ∃ n ps qs ord, WOk n ps ∧ WOk n qs ∧ OrdOk n ord ∧ ds = [dW n ps, dW n qs, dNs ord] ∧ d = .tuple [dNs (comes (keptT ps ord) (keptT qs ord)), dNs (comes (keptT qs ord) (keptT ps ord))]
theorem ok_come_and_gone (F : FnP K "come_and_gone" "come_and_gone" HD.s_come_and_gone f fd) (hm : mg "come_and_gone" = some (.ref f)) (c_kept_lot : C8.Cal P w K mg base 9 "kept_lot" (spR K 2 R_kept_lot) []) : C8.Cal P w K mg base 10 "come_and_gone" (spR K 3 R_come_and_gone) [] := by
  refine calR F hm sc_come_and_gone (F.bindsN fun _ _ _ _ _ _ us hl => match us, hl with | [_, _, _], _ => rfl) rfl fun cdv A outer s H vs Q E ds d hr hd hR hq => ?_
  obtain ⟨n, ps, qs, ord, W1, W2, O, rfl, rfl⟩ := hR
  obtain ⟨web, r, rfl, h1, hd2⟩ := dpa_cons hd
  obtain ⟨oth, r, rfl, h2, hd3⟩ := dpa_cons hd2
  obtain ⟨lot, r, rfl, h3, h4⟩ := dpa_cons hd3
  cases dpa_nil h4
  refine ⟨_, PSs.nox (pss_cons (ps_asg (pe_tup (pa_cons (pe_c c_kept_lot hr (by decide) rfl (pa_cons (pv 0) (pa_cons (pv 2) pa_nil))) (pa_cons (pe_c c_kept_lot hr (by decide) rfl (pa_cons (pv 1) (pa_cons (pv 2) pa_nil))) pa_nil))) (k_gtup K (pg_tup (n := 2) rfl (pgs_cons (pg_name (i := 3) sc_come_and_gone.nd rfl (.inr rfl)) (pgs_cons (pg_name (i := 4) sc_come_and_gone.nd rfl (.inr rfl)) pgs_nil)))))
    (pss_cons (ps_set (i := 5) sc_come_and_gone.nd rfl (.inl rfl) (pe_callTy (cr_tupK K) rfl B.tuple (by decide +kernel) (pa_cons (pe_lc (own := [("person", 6)]) rfl sc_come_and_gone.nd  (k_tup K (pi_tup (pv 4))) (blkOk_by (N := N_come_and_gone) (sc := defScope HD.s_come_and_gone) (by decide +kernel)) (fun _ _ _ _ _ => (pg_name (i := 6) sc_come_and_gone.nd rfl (.inl rfl))) (fun _ _ _ _ _ => (pts_one (pt_cmpR (op_ninK K) (pv 6) (pv 3) (by with_unfolding_all rfl)))) (fun _ _ _ _ _ => (pv 6))) pa_nil)))
    (pss_one (ps_ret (pe_tup (pa_cons (pv 5) (pa_cons (pe_callTy (cr_tupK K) rfl B.tuple (by decide +kernel) (pa_cons (pe_lc (own := [("person", 6)]) rfl sc_come_and_gone.nd  (k_tup K (pi_tup (pv 3))) (blkOk_by (N := N_come_and_gone) (sc := defScope HD.s_come_and_gone) (by decide +kernel)) (fun _ _ _ _ _ => (pg_name (i := 6) sc_come_and_gone.nd rfl (.inl rfl))) (fun _ _ _ _ _ => (pts_one (pt_cmpR (op_ninK K) (pv 6) (pv 4) (by with_unfolding_all rfl)))) (fun _ _ _ _ _ => (pv 6))) pa_nil)) pa_nil))))))), ?_⟩
  have l1 := @keptT_len n ps ord O
  have l2 := @keptT_len n qs ord O
  refine q_asg2 (d := dNs (keptT ps ord)) (e := dNs (keptT qs ord)) (evd_tup (eda_cons (evd_callR (ds := [dW n ps, dNs ord]) (eda_cons (evd_var rfl h1) (eda_cons (evd_var rfl h3) eda_nil)) rfl ⟨n, ps, ord, W1, O, rfl, rfl⟩) (eda_cons (evd_callR (ds := [dW n qs, dNs ord]) (eda_cons (evd_var rfl h2) (eda_cons (evd_var rfl h3) eda_nil)) rfl ⟨n, qs, ord, W2, O, rfl, rfl⟩) eda_nil)) (by show 2 ≤ 100000; decide)) fun b1 b2 H1 e1 k1 k2 => ?_
  refine q_asgP (evd_tupOf (evn_d (EvN.data (evnl_lc (p := fun v : Nat => !decide (v ∈ keptT ps ord)) (d := dN) (IvE.of_map (iv_tup (evd_var rfl k2))) (sz_of (by omega)) tupD_N fun v x H2 hv ex hx => ?_) (by rfl)))) fun c H2 e2 hc => ?_
  · exact ⟨_, fun Q q => q, rfl, et_test (ev_inN (neg := true) (evd_var rfl hx) (evd_var rfl (dp_mono ex k1))), fun _ => evd_var rfl hx⟩
  have m1 := dp_mono e2 k1
  have m2 := dp_mono e2 k2
  refine s_retQ (evd_tup (eda_cons (evd_var rfl hc) (eda_cons (evd_tupOf (evn_d (evnl_lc (p := fun v : Nat => !decide (v ∈ keptT qs ord)) (d := dN) (IvE.of_map (iv_tup (evd_var rfl m1))) (sz_of (by omega)) tupD_N fun v x H2 hv ex hx => ?_))) eda_nil)) (by show 2 ≤ 100000; decide)) hq (e1.trans e2)
  exact ⟨_, fun Q q => q, rfl, et_test (ev_inN (neg := true) (evd_var rfl hx) (evd_var rfl (dp_mono ex m2))), fun _ => evd_var rfl hx⟩
def R_pair_turned : List PyData → PyData → Prop := fun ds d => ∃ n ps e, ps.length ≤ 999 ∧ ds = [dW n ps, dP e] ∧ d = dW n (turnedW ps e)
theorem fk_pair_turned (F : FnP K "pair_turned" "pair_turned" HD.s_pair_turned f fd) (c_less : C8.Cal P w K mg base 1 "less" (spR K 2 R_less) []) : FnOk P w K mg base L2.CX0 2 f fd ["web", "pair"] (spR K 2 R_pair_turned) := by
  refine fnR F sc_pair_turned rfl fun cdv A outer s H vs Q E ds d hr hd hR hq => ?_
  obtain ⟨n, ps, e, hl, rfl, rfl⟩ := hR
  obtain ⟨web, r, rfl, h1, hd2⟩ := dpa_cons hd
  obtain ⟨pr, r, rfl, h2, h3⟩ := dpa_cons hd2
  cases dpa_nil h3
  refine ⟨_, PSs.nox (pss_cons (ps_if (pt_cmpR (op_inTK K hr) (pv 1) (pe_ix (ix_tupK K) (pv 0) pe_int (fun _ _ => rfl)) (by with_unfolding_all rfl)) (pss_one (ps_ret (pe_c c_less hr (by decide) rfl (pa_cons (pv 0) (pa_cons (pe_tup (pa_cons (pv 1) pa_nil)) pa_nil))))) pss_nil)
    (pss_one (ps_ret (pe_tup (pa_cons (pe_ix (ix_tupK K) (pv 0) pe_int (fun _ _ => rfl)) (pa_cons (pe_callTy (cr_tupK K) rfl B.tuple (by decide +kernel) (pa_cons (pe_callB (cr_sortK K hr) rfl B.sorted (by decide +kernel) (pa_cons (pe_lst (k_star K (StX.pa_star (pe_ix (ix_tupK K) (pv 0) pe_int (fun _ _ => rfl)) (pa_cons (pv 1) pa_nil)))) pa_nil)) pa_nil)) pa_nil)))))), ?_⟩
  refine q_ifE (b := decide (e ∈ ps)) (et_test (et_inP (evd_var rfl h2) (evd_ixT (i := 1) (evd_var rfl h1) ev_c rfl))) (fun hb H1 e1 => ?_) fun hb H1 e1 => ?_
  · have hin : e ∈ ps := by simpa using hb
    rw [turnedW, if_pos hin] at hq
    refine s_retQ (evd_callR (ds := [dW n ps, dPs [e]]) (eda_cons (evd_var rfl (dp_mono e1 h1)) (eda_cons (evd_tup (eda_cons (evd_var rfl (dp_mono e1 h2)) eda_nil) (by show 1 ≤ 100000; decide)) eda_nil)) rfl ⟨n, ps, [e], by omega, rfl, rfl⟩) hq e1
  · have hin : e ∉ ps := by simpa using hb
    rw [turnedW, if_neg hin] at hq
    have k1 := dp_mono e1 h1
    refine s_retQ (evd_tup (eda_cons (evd_ixT (i := 0) (evd_var rfl k1) ev_c rfl) (eda_cons (evd_tupOf (evn_d (evn_sortP (l := ps ++ [e]) (.inl (evn_d (EvN.data (evn_lst (eda_star (evd_ixT (i := 1) (evd_var rfl k1) ev_c rfl) (eda_cons (evd_var rfl (dp_mono e1 h2)) eda_nil)) ?_) ?_)))))) eda_nil)) (by show 2 ≤ 100000; decide)) hq e1
    · simp; omega
    · rw [List.map_append]; rfl
def R_pair_news : List PyData → PyData → Prop := fun ds d => ∃ n ps ord e, WOk n ps ∧ ps.length ≤ 999 ∧ (e.1 < e.2 ∧ e.2 < n) ∧ OrdOk n ord ∧ ds = [dW n ps, dNs ord, dP e] ∧ d = newsD (comes (keptT ps ord) (keptT (turnedW ps e) ord)) (comes (keptT (turnedW ps e) ord) (keptT ps ord))
theorem fk_pair_news (F : FnP K "pair_news" "pair_news" HD.s_pair_news f fd) (c_pair_turned : C8.Cal P w K mg base 2 "pair_turned" (spR K 2 R_pair_turned) [])
    (c_come_and_gone : C8.Cal P w K mg base 10 "come_and_gone" (spR K 3 R_come_and_gone) []) : FnOk P w K mg base L2.CX0 11 f fd ["web", "order", "pair"] (spR K 3 R_pair_news) := by
  refine fnR F sc_pair_news rfl fun cdv A outer s H vs Q E ds d hr hd hR hq => ?_
  obtain ⟨n, ps, ord, e, W, hl, he, O, rfl, rfl⟩ := hR
  obtain ⟨web, r, rfl, h1, hd2⟩ := dpa_cons hd
  obtain ⟨lot, r, rfl, h2, hd3⟩ := dpa_cons hd2
  obtain ⟨pr, r, rfl, h3, h4⟩ := dpa_cons hd3
  cases dpa_nil h4
  refine ⟨_, PSs.nox (pss_cons (ps_asg (pe_c c_come_and_gone hr (by decide) rfl (pa_cons (pv 0) (pa_cons (pe_c c_pair_turned hr (by decide) rfl (pa_cons (pv 0) (pa_cons (pv 2) pa_nil))) (pa_cons (pv 1) pa_nil)))) (k_gtup K (pg_tup (n := 2) rfl (pgs_cons (pg_name (i := 3) sc_pair_news.nd rfl (.inl rfl)) (pgs_cons (pg_name (i := 4) sc_pair_news.nd rfl (.inl rfl)) pgs_nil)))))
    (pss_cons (ps_if (pt_cmpR op_eq (pe_callB (cr_lenK K) rfl B.len (by decide +kernel) (pa_cons (pv 3) pa_nil)) (pe_callB (cr_lenK K) rfl B.len (by decide +kernel) (pa_cons (pv 4) pa_nil)) (nomark _)) (pss_one (ps_ret (pe_ifExp (pt_cmpR op_eq (pe_callB (cr_lenK K) rfl B.len (by decide +kernel) (pa_cons (pv 3) pa_nil)) pe_int (nomark _)) (pe_tup (pa_cons pe_str pa_nil)) (pe_tup (pa_cons pe_str (pa_cons (pe_ix (ix_tupK K) (pv 3) pe_int (fun _ _ => rfl)) (pa_cons (pe_ix (ix_tupK K) (pv 4) pe_int (fun _ _ => rfl)) pa_nil))))))) pss_nil)
    (pss_one (ps_ret (pe_ifExp (pt_cmpR op_gt (pe_callB (cr_lenK K) rfl B.len (by decide +kernel) (pa_cons (pv 3) pa_nil)) (pe_callB (cr_lenK K) rfl B.len (by decide +kernel) (pa_cons (pv 4) pa_nil)) (nomark _)) (pe_tup (pa_cons pe_str (pa_cons (pv 3) pa_nil))) (pe_tup (pa_cons pe_str (pa_cons (pv 4) pa_nil)))))))), ?_⟩
  have W2 := turnedW_ok W hl he
  generalize hcm : comes (keptT ps ord) (keptT (turnedW ps e) ord) = come at *
  generalize hgn : comes (keptT (turnedW ps e) ord) (keptT ps ord) = gone at *
  refine q_asg2 (d := dNs come) (e := dNs gone) (evd_callR (ds := [dW n ps, dW n (turnedW ps e), dNs ord]) (eda_cons (evd_var rfl h1) (eda_cons (evd_callR (ds := [dW n ps, dP e]) (eda_cons (evd_var rfl h1) (eda_cons (evd_var rfl h3) eda_nil)) rfl ⟨n, ps, e, hl, rfl, rfl⟩) (eda_cons (evd_var rfl h2) eda_nil))) rfl ⟨n, ps, turnedW ps e, ord, W, W2, O, rfl, by rw [hcm, hgn]⟩) fun b1 b2 H1 e1 k1 k2 => ?_
  have lc : ∀ {H2 : Hp}, Ex H1 H2 → Ev (tCB (rLenS K) (tCons (tVar 3) tNil)) [some web, some lot, some pr, some b1, some b2] H2 (.int (come.length : Int)) := fun x => ev_is (ev_lenT (evd_var rfl (dp_mono x k1))) (by rw [List.length_map])
  have lg : ∀ {H2 : Hp}, Ex H1 H2 → Ev (tCB (rLenS K) (tCons (tVar 4) tNil)) [some web, some lot, some pr, some b1, some b2] H2 (.int (gone.length : Int)) := fun x => ev_is (ev_lenT (evd_var rfl (dp_mono x k2))) (by rw [List.length_map])
  refine q_ifE (b := decide (come.length = gone.length)) (et_test (ev_eqN (lc (Ex.refl _)) (lg (Ex.refl _)))) (fun hb H2 e2 => ?_) fun hb H2 e2 => ?_
  · have hb' : come.length = gone.length := by simpa using hb
    rw [newsD, if_pos hb'] at hq
    refine s_retQ (evp_if (b := decide (come.length = 0)) (et_test (ev_eqN (m := 0) (lc e2) ev_c)) (fun hz => ?_) fun hz => ?_) hq (e1.trans e2)
    · rw [if_pos (by simpa using hz)]
      exact evd_tup (eda_cons (evd_str ev_c) eda_nil) (by show 1 ≤ 100000; decide)
    · have hz' : come.length ≠ 0 := by simpa using hz
      rw [if_neg hz']
      exact evd_tup (eda_cons (evd_str ev_c) (eda_cons (evd_ixT (i := 0) (evd_var rfl (dp_mono e2 k1)) ev_c (head_at (by omega))) (eda_cons (evd_ixT (i := 0) (evd_var rfl (dp_mono e2 k2)) ev_c (head_at (by omega))) eda_nil))) (by show 3 ≤ 100000; decide)
  · have hb' : come.length ≠ gone.length := by simpa using hb
    rw [newsD, if_neg hb'] at hq
    refine s_retQ (evp_if (b := decide (gone.length < come.length)) (et_is (et_test (ev_op (lc e2) (lg e2) rv_I0)) ?_) (fun hz => ?_) fun hz => ?_) hq (e1.trans e2)
    · simp
    · rw [if_pos (by simpa using hz)]
      exact evd_tup (eda_cons (evd_str ev_c) (eda_cons (evd_var rfl (dp_mono e2 k1)) eda_nil)) (by show 2 ≤ 100000; decide)
    · rw [if_neg (by simpa using hz)]
      exact evd_tup (eda_cons (evd_str ev_c) (eda_cons (evd_var rfl (dp_mono e2 k2)) eda_nil)) (by show 2 ≤ 100000; decide)
def R_person_gone : List PyData → PyData → Prop := fun ds d => ∃ n ps ord x, WOk n ps ∧ OrdOk n ord ∧ ds = [dW n ps, dNs ord, dN x] ∧
  ((comes (keptT (lessW ps x) ord) (keptT ps ord)).length ≠ 0 → (comes (keptT ps ord) (keptT (lessW ps x) ord)).length = 0 → ((comes (keptT (lessW ps x) ord) (keptT ps ord)).filter fun v => !decide (v = x)) ≠ []) ∧
  d = goneD (comes (keptT ps ord) (keptT (lessW ps x) ord)) (comes (keptT (lessW ps x) ord) (keptT ps ord)) x
theorem fk_person_gone (F : FnP K "person_gone" "person_gone" HD.s_person_gone f fd) (c_less : C8.Cal P w K mg base 1 "less" (spR K 2 R_less) []) (c_pairs_at : C8.Cal P w K mg base 1 "pairs_at" (spR K 2 R_pairs_at) [])
    (c_come_and_gone : C8.Cal P w K mg base 10 "come_and_gone" (spR K 3 R_come_and_gone) []) : FnOk P w K mg base L2.CX0 11 f fd ["web", "order", "person"] (spR K 3 R_person_gone) := by
  refine fnR F sc_person_gone rfl fun cdv A outer s H vs Q E ds d hr hd hR hq => ?_
  obtain ⟨n, ps, ord, x, W, O, rfl, hne, rfl⟩ := hR
  obtain ⟨web, r, rfl, h1, hd2⟩ := dpa_cons hd
  obtain ⟨lot, r, rfl, h2, hd3⟩ := dpa_cons hd2
  obtain ⟨pr, r, rfl, h3, h4⟩ := dpa_cons hd3
  cases dpa_nil h4
  cases dp_int h3
  refine ⟨_, PSs.nox (pss_cons (ps_asg (pe_c c_come_and_gone hr (by decide) rfl (pa_cons (pv 0) (pa_cons (pe_c c_less hr (by decide) rfl (pa_cons (pv 0) (pa_cons (pe_c c_pairs_at hr (by decide) rfl (pa_cons (pv 0) (pa_cons (pe_tup (pa_cons (pv 2) pa_nil)) pa_nil))) pa_nil))) (pa_cons (pv 1) pa_nil)))) (k_gtup K (pg_tup (n := 2) rfl (pgs_cons (pg_name (i := 3) sc_person_gone.nd rfl (.inl rfl)) (pgs_cons (pg_name (i := 4) sc_person_gone.nd rfl (.inl rfl)) pgs_nil)))))
    (pss_cons (ps_if (pt_cmpR op_eq (pe_callB (cr_lenK K) rfl B.len (by decide +kernel) (pa_cons (pv 4) pa_nil)) pe_int (nomark _)) (pss_one (ps_ret (pe_tup (pa_cons pe_str pa_nil)))) pss_nil)
    (pss_cons (ps_if (pt_cmpR op_gt (pe_callB (cr_lenK K) rfl B.len (by decide +kernel) (pa_cons (pv 3) pa_nil)) pe_int (nomark _)) (pss_one (ps_ret (pe_tup (pa_cons pe_str (pa_cons (pe_ix (ix_tupK K) (pv 3) pe_int (fun _ _ => rfl)) pa_nil))))) pss_nil)
    (pss_one (ps_ret (pe_tup (pa_cons pe_str (pa_cons (pe_ix (ix_lstK K) (pe_lc (own := [("other", 5)]) rfl sc_person_gone.nd  (k_tup K (pi_tup (pv 4))) (blkOk_by (N := N_person_gone) (sc := defScope HD.s_person_gone) (by decide +kernel)) (fun _ _ _ _ _ => (pg_name (i := 5) sc_person_gone.nd rfl (.inl rfl))) (fun _ _ _ _ _ => (pts_one (pt_cmpR op_ne (pv 5) (pv 2) (nomark _)))) (fun _ _ _ _ _ => (pv 5))) pe_int (fun _ _ => rfl)) pa_nil)))))))), ?_⟩
  have W2 := @lessW_ok n ps x W
  have l1 := @keptT_len n ps ord O
  have lg1 : (comes (keptT (lessW ps x) ord) (keptT ps ord)).length ≤ 1000 := Nat.le_trans (List.length_filter_le _ _) l1
  generalize hcm : comes (keptT ps ord) (keptT (lessW ps x) ord) = come at *
  generalize hgn : comes (keptT (lessW ps x) ord) (keptT ps ord) = gone at *
  refine q_asg2 (d := dNs come) (e := dNs gone) (evd_callR (ds := [dW n ps, dW n (lessW ps x), dNs ord]) (eda_cons (evd_var rfl h1) (eda_cons (evd_callR (ds := [dW n ps, dPs (ps.filter fun e => decide (e.1 ∈ [x]) || decide (e.2 ∈ [x]))]) (eda_cons (evd_var rfl h1) (eda_cons (evd_callR (ds := [dW n ps, dNs [x]]) (eda_cons (evd_var rfl h1) (eda_cons (evd_tup (eda_cons (evd_int (ev_var rfl)) eda_nil) (by show 1 ≤ 100000; decide)) eda_nil)) rfl ⟨n, ps, [x], W.len, rfl, rfl⟩) eda_nil)) rfl ⟨n, ps, _, W.len, rfl, rfl⟩) (eda_cons (evd_var rfl h2) eda_nil))) rfl ⟨n, ps, lessW ps x, ord, W, W2, O, rfl, by rw [hcm, hgn]⟩) fun b1 b2 H1 e1 k1 k2 => ?_
  have lc : ∀ {H2 : Hp}, Ex H1 H2 → Ev (tCB (rLenS K) (tCons (tVar 3) tNil)) [some web, some lot, some (vN x), some b1, some b2, none] H2 (.int (come.length : Int)) := fun x => ev_is (ev_lenT (evd_var rfl (dp_mono x k1))) (by rw [List.length_map])
  have lg : ∀ {H2 : Hp}, Ex H1 H2 → Ev (tCB (rLenS K) (tCons (tVar 4) tNil)) [some web, some lot, some (vN x), some b1, some b2, none] H2 (.int (gone.length : Int)) := fun x => ev_is (ev_lenT (evd_var rfl (dp_mono x k2))) (by rw [List.length_map])
  refine q_ifE (b := decide (gone.length = 0)) (et_test (ev_eqN (m := 0) (lg (Ex.refl _)) ev_c)) (fun hb H2 e2 => ?_) fun hb H2 e2 => ?_
  · rw [goneD, if_pos (by simpa using hb)] at hq
    exact s_retQ (evd_tup (eda_cons (evd_str ev_c) eda_nil) (by show 1 ≤ 100000; decide)) hq (e1.trans e2)
  · have hg0 : gone.length ≠ 0 := by simpa using hb
    rw [goneD, if_neg hg0] at hq
    refine q_ifE (b := decide (0 < come.length)) (et_is (et_test (ev_op (lc e2) ev_c rv_I0)) (by simp)) (fun hb H3 e3 => ?_) fun hb H3 e3 => ?_
    · have hc0 : 0 < come.length := by simpa using hb
      rw [if_pos hc0] at hq
      exact s_retQ (evd_tup (eda_cons (evd_str ev_c) (eda_cons (evd_ixT (i := 0) (evd_var rfl (dp_mono (e2.trans e3) k1)) ev_c (head_at hc0)) eda_nil)) (by show 2 ≤ 100000; decide)) hq ((e1.trans e2).trans e3)
    · have hc0 : ¬ 0 < come.length := by simpa using hb
      rw [if_neg hc0] at hq
      have hf := hne hg0 (by omega)
      refine s_retQ (evd_tup (eda_cons (evd_str ev_c) (eda_cons (evd_ixL (i := 0) (evn_d (evnl_lc (p := fun v : Nat => !decide (v = x)) (d := dN) (IvE.of_map (iv_tup (evd_var rfl (dp_mono (e2.trans e3) k2)))) (sz_of (by omega)) tupD_N fun v z H4 hv ex hz => ?_)) ev_c (head_at (List.length_pos_iff.mpr hf))) eda_nil)) (by show 2 ≤ 100000; decide)) hq ((e1.trans e2).trans e3)
      cases dp_int hz
      exact ⟨_, fun Q q => q, rfl, et_test (ev_neN (n := v) (m := x) (ev_var rfl) (ev_var rfl)), fun _ => evd_int (ev_var rfl)⟩
end
end WK
/-! ### W10 -/
set_option Elab.async false
set_option linter.all false
set_option maxRecDepth 100000
set_option maxHeartbeats 4000000
/-! the law's plain helpers: plans, lots, marks -/
namespace WK
open PySem PySem.Spec PyProof.Rows L2 Evl DX DL KM C8
abbrev N_law_lot_of : List Str := ["_law_plan", "_law_found", "_law_pair"]
theorem sc_law_lot_of : FnScope N_law_lot_of ["_law_plan"] (defScope HD.s_law_lot_of) := ⟨rfl, rfl, rfl, by decide +kernel, rfl, by decide +kernel, by decide +kernel⟩
abbrev N_law_at : List Str := ["_law_pairs_here", "_law_lot", "_law_pair", "_law_one"]
theorem sc_law_at : FnScope N_law_at ["_law_pairs_here", "_law_lot"] (defScope HD.s_law_at) := ⟨rfl, rfl, rfl, by decide +kernel, rfl, by decide +kernel, by decide +kernel⟩
abbrev N_law_plans : List Str := ["_law_pairs_here", "_law_found", "_law_pair", "_law_plan", "_law_one"]
theorem sc_law_plans : FnScope N_law_plans ["_law_pairs_here"] (defScope HD.s_law_plans) := ⟨rfl, rfl, rfl, by decide +kernel, rfl, by decide +kernel, by decide +kernel⟩
section
variable {X : Cx} (K : PySem.W.Frag)
def iSeqW (K : PySem.W.Frag) (t : TE) : TI := fun σ H R => iList K t σ H R ∨ iTup K t σ H R
theorem pi_seq {tg e : Expr} {t : TE} (h : PE X e t) : PI X tg e (iSeqW X.K t) := ⟨fun pins s σ H R I w => by
  rcases w with w | w
  · exact (pi_list h).run pins s σ H R I w
  · exact (pi_tup h).run pins s σ H R I w⟩
theorem k_seq {tg e : Expr} {t : TE} (h : PI X tg e (iSeqW X.K t)) (hK : X.K = K := by rfl) : PI X tg e (iSeqW K t) := hK ▸ h
end
section
variable {K : PySem.W.Frag} {σ : L2.St} {H : Hp} {te tb : TE} {D : Ends} {tz : TS} {α : Type} {l : List α} {R : α → V → Hp → Prop} {wi : TI}
theorem IvE.left (h : IvE (iList K te) σ H l R) : IvE (iSeqW K te) σ H l R := fun H1 e Rr k => .inl (h H1 e Rr k)
theorem IvE.right (h : IvE (iTup K te) σ H l R) : IvE (iSeqW K te) σ H l R := fun H1 e Rr k => .inr (h H1 e Rr k)
theorem q_forI {g : TG} {tb : TS} (hi : IvE wi σ H l R) (Pv : Nat → L2.St → Hp → Prop) (h0 : ∀ H1, Ex H H1 → Pv 0 σ H1) (hE : ∀ i σ1 H1 H2, Ex H1 H2 → Pv i σ1 H1 → Pv i σ1 H2)
    (hs : ∀ i a x σ1 H1 Hb, l[i]? = some a → Ex H H1 → Ex Hb H1 → Pv i σ1 H1 → R a x H1 → g x σ1 H1 fun σ2 H2 => tb { D with nx := fun σ3 H3 => Ex Hb H3 ∧ Pv (i + 1) σ3 H3, ct := fun σ3 H3 => Ex Hb H3 ∧ Pv (i + 1) σ3 H3, bk := tz D } σ2 H2)
    (hd : ∀ σ1 H1, Ex H H1 → Pv l.length σ1 H1 → tz D σ1 H1) : tSeq (tFor wi g tb) tz D σ H := s_forI (D := { D with nx := tz D }) hi Pv h0 hE hs hd
/-- a list that is held, and a new one -/
theorem evn_catV {p : Addr} {xs : List V} {ds es : List PyData} (ha : Ev te σ H (.ref p)) (hp : H p = some (.lst xs)) (hx : DpAll K H xs ds) (hb : EvNl K tb σ H es) (hl : ds.length + es.length ≤ sizeLine) : EvNl K (tOp rCat te tb) σ H (ds ++ es) := fun H1 x Q q =>
  ha H1 x _ fun H2 x2 => hb H2 (x.trans x2) _ fun r ys H3 _ x3 hr d2 => by
    have n1 := dpAll_length hx
    have n2 := dpAll_length d2
    have e3 := (x.trans x2).trans x3
    exact ⟨p, r, xs, ys, rfl, rfl, e3 p _ hp, hr, by omega, fun z hz => q z _ _ (fresh_back (x2.trans x3) hz) ((x2.trans x3).trans (Ex.new hz)) upd_same (dpa_mono (Ex.new hz) (dpa_app (dpa_mono e3 hx) d2))⟩
theorem q_asgNl {i : Nat} {ds : List PyData} (h : EvNl K te σ H ds) (k : ∀ p ys H1, H p = none → Ex H H1 → H1 p = some (.lst ys) → DpAll K H1 ys ds → tz D (σ.set i (some (.ref p))) H1) : tSeq (tAsg te (gName i)) tz D σ H := h H (Ex.refl H) _ k
theorem s_asgNl {i : Nat} {ds : List PyData} (h : EvNl K te σ H ds) (k : ∀ p ys H1, H p = none → Ex H H1 → H1 p = some (.lst ys) → DpAll K H1 ys ds → D.nx (σ.set i (some (.ref p))) H1) : tAsg te (gName i) D σ H := h H (Ex.refl H) _ k
theorem tupDs_len (l : List PyData) : True := trivial
end
def plansOf (ps : List Pr) : List (List Pr) := ps.foldl (fun found e => found ++ (found.filter fun pl => decide ((pl.filter fun o => decide (o.1 ∈ [e.1, e.2]) || decide (o.2 ∈ [e.1, e.2])) = [])).map fun pl => pl ++ [e]) [[]]
theorem plansOf_snoc (ps : List Pr) (e : Pr) : plansOf (ps ++ [e]) = plansOf ps ++ ((plansOf ps).filter fun pl => decide ((pl.filter fun o => decide (o.1 ∈ [e.1, e.2]) || decide (o.2 ∈ [e.1, e.2])) = [])).map fun pl => pl ++ [e] := by
  unfold plansOf; rw [List.foldl_append]; rfl
theorem snocP_ind {P : List Pr → Prop} (h0 : P []) (h1 : ∀ l x, P l → P (l ++ [x])) (l : List Pr) : P l := by
  have : ∀ k (l : List Pr), l.length = k → P l := by
    intro k
    induction k with
    | zero => intro l hl; rw [List.length_eq_zero_iff.mp hl]; exact h0
    | succ k ih =>
      intro l hl
      have hne : l ≠ [] := by intro e; rw [e] at hl; cases hl
      rw [← List.dropLast_concat_getLast hne]
      exact h1 _ _ (ih _ (by rw [List.length_dropLast, hl]; rfl))
  exact this _ l rfl
theorem plansOf_len (ps : List Pr) : (plansOf ps).length ≤ 2 ^ ps.length := by
  induction ps using snocP_ind with
  | h0 => simp [plansOf]
  | h1 l x ih =>
    rw [plansOf_snoc, List.length_append, List.length_map, List.length_append, List.length_singleton, Nat.pow_succ]
    have := List.length_filter_le (fun pl => decide ((pl.filter fun o => decide (o.1 ∈ [x.1, x.2]) || decide (o.2 ∈ [x.1, x.2])) = [])) (plansOf l)
    omega
theorem plansOf_sub {ps pl : List Pr} (h : pl ∈ plansOf ps) : pl.Sublist ps := by
  induction ps using snocP_ind generalizing pl with
  | h0 => simp [plansOf] at h; rw [h]; exact List.Sublist.refl _
  | h1 l x ih =>
    rw [plansOf_snoc, List.mem_append] at h
    rcases h with h | h
    · exact (ih h).trans (List.sublist_append_left _ _)
    · obtain ⟨q, hq, rfl⟩ := List.mem_map.mp h
      exact (ih (List.mem_filter.mp hq).1).append (List.Sublist.refl _)
theorem free_of {pl : List Pr} {e : Pr} : (pl.filter fun o => decide (o.1 ∈ [e.1, e.2]) || decide (o.2 ∈ [e.1, e.2])) = [] ↔ e.1 ∉ verts pl ∧ e.2 ∉ verts pl := by
  rw [List.filter_eq_nil_iff]
  simp only [mem_verts, Bool.or_eq_true, decide_eq_true_eq, List.mem_cons, List.not_mem_nil, or_false, not_or, not_exists, not_and]
  constructor
  · intro h
    exact ⟨fun o ho => ⟨fun e => (h o ho).1.1 e.symm, fun e => (h o ho).2.1 e.symm⟩, fun o ho => ⟨fun e => (h o ho).1.2 e.symm, fun e => (h o ho).2.2 e.symm⟩⟩
  · rintro ⟨h1, h2⟩ o ho
    exact ⟨⟨fun e => (h1 o ho).1 e.symm, fun e => (h2 o ho).1 e.symm⟩, fun e => (h1 o ho).2 e.symm, fun e => (h2 o ho).2 e.symm⟩
theorem verts_snoc (pl : List Pr) (e : Pr) : verts (pl ++ [e]) = verts pl ++ [e.1, e.2] := by rw [verts_app]; rfl
theorem plansOf_plan {n : Nat} {ps : List Pr} (hw : IsWeb n ps) {pl : List Pr} (h : pl ∈ plansOf ps) : IsPlan ps pl := by
  refine ⟨fun e he => (plansOf_sub h).subset he, ?_⟩
  induction ps using snocP_ind generalizing pl with
  | h0 => simp [plansOf] at h; rw [h]; simp [verts]
  | h1 l x ih =>
    rw [plansOf_snoc, List.mem_append] at h
    have hwl : IsWeb n l := fun e he => hw e (List.mem_append_left _ he)
    rcases h with h | h
    · exact ih hwl h
    · obtain ⟨q, hq, rfl⟩ := List.mem_map.mp h
      obtain ⟨h1, h2⟩ := List.mem_filter.mp hq
      have h3 := free_of.mp (by simpa using h2)
      have h4 := (hw x (by simp)).1
      rw [verts_snoc, List.nodup_append]
      refine ⟨ih hwl h1, by simp; omega, fun a ha b hb e => ?_⟩
      simp only [List.mem_cons, List.not_mem_nil, or_false] at hb
      rcases hb with hb | hb
      · exact h3.1 (by rw [← hb, ← e]; exact ha)
      · exact h3.2 (by rw [← hb, ← e]; exact ha)
theorem plansOf_mem {ps pl : List Pr} (h : pl.Sublist ps) (nd : (verts pl).Nodup) : pl ∈ plansOf ps := by
  induction ps using snocP_ind generalizing pl with
  | h0 => rw [List.sublist_nil.mp h]; simp [plansOf]
  | h1 l x ih =>
    rw [plansOf_snoc, List.mem_append]
    obtain ⟨a, b, rfl, ha, hb⟩ := List.sublist_append_iff.mp h
    have hb2 : b = [] ∨ b = [x] := by
      rcases List.sublist_cons_iff.mp hb with h | ⟨r, h1, h2⟩
      · exact .inl (List.sublist_nil.mp h)
      · rw [List.sublist_nil.mp h2] at h1; exact .inr h1
    rcases hb2 with e | e
    · subst e
      rw [List.append_nil] at nd ⊢
      exact .inl (ih ha nd)
    · subst e
      rw [verts_snoc, List.nodup_append] at nd
      refine .inr (List.mem_map.mpr ⟨a, List.mem_filter.mpr ⟨ih ha nd.1, ?_⟩, rfl⟩)
      simp only [decide_eq_true_eq]
      exact free_of.mpr ⟨fun hv => nd.2.2 _ hv _ (by simp) rfl, fun hv => nd.2.2 _ hv _ (by simp) rfl⟩
section
variable {P : Program} {w : World} {K : PySem.W.Frag} {mg : Str → Option Value} {base : Heap} {f : Addr} {fd : FuncData}
variable (B : BI mg)
include B
def R_lot_of : List PyData → PyData → Prop := fun ds d => ∃ p : List Pr, p.length ≤ 1000 ∧ ds = [dPs p] ∧ d = dNs (srtN (verts p))
theorem ok_lot_of (F : FnP K "_law_lot_of" "_law_lot_of" HD.s_law_lot_of f fd) (hm : mg "_law_lot_of" = some (.ref f)) : C8.Cal P w K mg base 1 "_law_lot_of" (spR K 1 R_lot_of) [] := by
  refine calR F hm sc_law_lot_of (F.bindsN fun _ _ _ _ _ _ us hl => match us, hl with | [_], _ => rfl) rfl fun cdv A outer s H vs Q E ds d hr hd hR hq => ?_
  obtain ⟨p, hp, rfl, rfl⟩ := hR
  obtain ⟨v, r, rfl, h1, h2⟩ := dpa_cons hd
  cases dpa_nil h2
  refine ⟨_, PSs.nox (pss_cons (ps_set (i := 1) sc_law_lot_of.nd rfl (.inl rfl) (pe_lst pa_nil))
    (pss_cons (ps_for PassesOwn.never rfl (k_tup K (pi_tup (pv 0))) (pg_name (i := 2) sc_law_lot_of.nd rfl (.inl rfl)) (pss_one (ps_set (i := 1) sc_law_lot_of.nd rfl (.inl rfl) (pe_op op_cat (pv 1) (pe_callTy (cr_lstK K) rfl B.list (by decide +kernel) (pa_cons (pv 2) pa_nil))))))
    (pss_one (ps_ret (pe_callTy (cr_tupK K) rfl B.tuple (by decide +kernel) (pa_cons (pe_callB (cr_sortK K hr) rfl B.sorted (by decide +kernel) (pa_cons (pv 1) pa_nil)) pa_nil)))))), ?_⟩
  refine q_asgL (el_lst ea_nil (by decide)) fun q0 H1 hq0 e1 hH1 => ?_
  refine q_forI (IvE.of_map (iv_tup (evd_var rfl (dp_mono e1 h1)))) (fun i σ1 H1 => ∃ q o, σ1 = [some v, some (.ref q), o] ∧ H1 q = some (.lst ((verts (p.take i)).map vN))) ?_ (fun i σ1 H1 H2 x ⟨q, o, h1, h2⟩ => ⟨q, o, h1, x _ _ h2⟩) ?_ ?_
  · intro H2 e2
    exact ⟨q0, none, rfl, e2 _ _ hH1⟩
  · rintro i e x σ1 H2 Hb hi e2 eb ⟨q, o, rfl, hH2⟩ hx
    have hlen : (verts (p.take i)).length ≤ 2000 := by rw [verts_len, List.length_take]; omega
    refine s_asgNl (evn_catV (ds := (verts (p.take i)).map dN) (es := [dN e.1, dN e.2]) (ev_var rfl) hH2 (N_dpa _) (evn_lstOf (evd_var rfl hx)) ?_) fun r ys H3 hr e3 hr3 hd3 => ⟨eb.trans e3, r, _, rfl, ?_⟩
    · refine Nat.le_trans ?_ (show 100000 ≤ sizeLine by decide)
      simp; omega
    · rw [hr3]
      have : (verts (p.take i)).map dN ++ [dN e.1, dN e.2] = (verts (p.take (i + 1))).map dN := by
        rw [List.take_succ, hi]
        show _ = (verts (p.take i ++ [e])).map dN
        rw [verts_snoc, List.map_append]; rfl
      rw [this] at hd3
      rw [dpa_N hd3]
  · rintro σ1 H2 e2 ⟨q, o, rfl, hH2⟩
    rw [List.take_length] at hH2
    exact s_retQ (evd_tupOf (evn_d (evn_sortN (.inl (evd_of (ev_var rfl) fun H5 e5 => .lst (sq_of (e5 _ _ hH2)) (N_dpa _)))))) hq (e1.trans e2)
def R_law_at : List PyData → PyData → Prop := fun ds d => ∃ (ps : List Pr) (l : List Nat), ps.length ≤ 1000 ∧ ds = [dPs ps, .list (l.map dN)] ∧ d = dPs (ps.filter fun e => decide (e.1 ∈ l) || decide (e.2 ∈ l))
theorem ok_law_at (F : FnP K "_law_at" "_law_at" HD.s_law_at f fd) (hm : mg "_law_at" = some (.ref f)) : C8.Cal P w K mg base 1 "_law_at" (spR K 2 R_law_at) [] := by
  refine calR F hm sc_law_at (F.bindsN fun _ _ _ _ _ _ us hl => match us, hl with | [_, _], _ => rfl) rfl fun cdv A outer s H vs Q E ds d hr hd hR hq => ?_
  obtain ⟨ps, l, hl, rfl, rfl⟩ := hR
  obtain ⟨v, r, rfl, h1, hd2⟩ := dpa_cons hd
  obtain ⟨u, r, rfl, h2, h3⟩ := dpa_cons hd2
  cases dpa_nil h3
  refine ⟨_, PSs.nox (pss_one (ps_ret (pe_callTy (cr_tupK K) rfl B.tuple (by decide +kernel) (pa_cons (pe_lc (own := [("_law_pair", 2)]) rfl sc_law_at.nd  (k_tup K (pi_tup (pv 0))) (blkOk_by (N := N_law_at) (sc := defScope HD.s_law_at) (by decide +kernel)) (fun _ _ _ _ _ => (pg_name (i := 2) sc_law_at.nd rfl (.inl rfl))) (fun _ _ _ _ _ => (pts_one (pt_cmpR (op_neDK K hr) (pe_lc (own := [("_law_one", 3)]) rfl sc_law_at.nd  (k_tup K (pi_tup (pv 2))) (blkIn (by rfl)) (fun _ _ _ _ _ => (pg_name (i := 3) sc_law_at.nd rfl (.inl rfl))) (fun _ _ _ _ _ => (pts_one (pt_cmpR (op_inK K) (pv 3) (pv 1) (by with_unfolding_all rfl)))) (fun _ _ _ _ _ => (pv 3))) (pe_lst pa_nil) (nomark _)))) (fun _ _ _ _ _ => (pv 2))) pa_nil)))), ?_⟩
  refine s_retQ (evd_tupOf (evn_d (evnl_lc (p := fun e : Pr => decide (e.1 ∈ l) || decide (e.2 ∈ l)) (d := dP) (IvE.of_map (iv_tup (evd_var rfl h1))) (sz_of (by omega)) tupD_P fun e x H1 he ex hx => ?_))) hq (Ex.refl _)
  refine ⟨_, fun Q q => q, rfl, et_is (et_test (ev_neD (d := .list (([e.1, e.2].filter fun v => decide (v ∈ l)).map dN)) (e := .list []) (evn_d (evnl_lc (p := fun v : Nat => decide (v ∈ l)) (d := dN) (l := [e.1, e.2]) (IvE.of_map (iv_tup (evd_var rfl hx))) (by show 2 ≤ sizeLine; decide) tupD_N fun z y H2 hz ez hy => ?_)) (evn_d (evn_lst eda_nil (by decide))) (shaped_lst (by decide) canLay_N depth_N _) rfl)) ?_, fun _ => evd_var rfl hx⟩
  · exact ⟨_, fun Q q => q, rfl, et_test (ev_inNl (neg := false) (evd_var rfl hy) (evd_var rfl (dp_mono (ex.trans ez) h2))), fun _ => evd_var rfl hy⟩
  · by_cases a : e.1 ∈ l <;> by_cases b : e.2 ∈ l <;> simp [a, b, PyData.eqv, PyData.eqvAll]
def R_plans : List PyData → PyData → Prop := fun ds d => ∃ ps : List Pr, ps.length ≤ 22 ∧ (ds = [dPs ps] ∨ ds = [.list (ps.map dP)]) ∧ d = .list ((plansOf ps).map dPs)
omit B in
theorem plans_small {ps : List Pr} (h : ps.length ≤ 22) : (plansOf ps).length ≤ 4194304 := Nat.le_trans (plansOf_len ps) (Nat.le_trans (Nat.pow_le_pow_right (by decide) h) (by decide))
theorem ok_plans (F : FnP K "_law_plans" "_law_plans" HD.s_law_plans f fd) (hm : mg "_law_plans" = some (.ref f)) : C8.Cal P w K mg base 1 "_law_plans" (spR K 1 R_plans) [] := by
  refine calR F hm sc_law_plans (F.bindsN fun _ _ _ _ _ _ us hl => match us, hl with | [_], _ => rfl) rfl fun cdv A outer s H vs Q E ds d hr hd hR hq => ?_
  obtain ⟨ps, hps, hds, rfl⟩ := hR
  obtain ⟨v, rfl, h1⟩ : ∃ v, vs = [v] ∧ (Dp K H v (dPs ps) ∨ Dp K H v (.list (ps.map dP))) := by
    rcases hds with rfl | rfl
    · obtain ⟨v, r, rfl, h1, h2⟩ := dpa_cons hd
      cases dpa_nil h2
      exact ⟨v, rfl, .inl h1⟩
    · obtain ⟨v, r, rfl, h1, h2⟩ := dpa_cons hd
      cases dpa_nil h2
      exact ⟨v, rfl, .inr h1⟩
  refine ⟨_, PSs.nox (pss_cons (ps_set (i := 1) sc_law_plans.nd rfl (.inl rfl) (pe_lst (pa_cons (pe_tup pa_nil) pa_nil)))
    (pss_cons (ps_for PassesOwn.never rfl (k_seq K (pi_seq (pv 0))) (pg_name (i := 2) sc_law_plans.nd rfl (.inr rfl)) (pss_one (ps_set (i := 1) sc_law_plans.nd rfl (.inl rfl) (pe_op op_cat (pv 1) (pe_lc (own := [("_law_plan", 3)]) rfl sc_law_plans.nd  (k_list K (pi_list (pv 1))) (blkOk_by (N := N_law_plans) (sc := defScope HD.s_law_plans) (by decide +kernel)) (fun _ _ _ _ _ => (pg_name (i := 3) sc_law_plans.nd rfl (.inl rfl))) (fun _ _ _ _ _ => (pts_one (pt_cmpR (op_eqDK K hr) (pe_lc (own := [("_law_one", 4)]) rfl sc_law_plans.nd  (k_tup K (pi_tup (pv 3))) (blkIn (by rfl)) (fun _ _ _ _ _ => (pg_name (i := 4) sc_law_plans.nd rfl (.inl rfl))) (fun _ _ _ _ _ => (pts_one (PW.pt (pw_or (pt_cmpR (op_inK K) (pe_ix (ix_tupK K) (pv 4) pe_int (fun _ _ => rfl)) (pv 2) (by with_unfolding_all rfl)) (pw_or1 (pt_cmpR (op_inK K) (pe_ix (ix_tupK K) (pv 4) pe_int (fun _ _ => rfl)) (pv 2) (by with_unfolding_all rfl))))))) (fun _ _ _ _ _ => (pv 4))) (pe_lst pa_nil) (nomark _)))) (fun _ _ _ _ _ => (pe_op (op_catK K) (pv 3) (pe_tup (pa_cons (pv 2) pa_nil)))))))))
    (pss_one (ps_ret (pv 1))))), ?_⟩
  refine q_asgNl (K := K) (ds := [dPs []]) (evn_lst (eda_cons (evd_tup eda_nil (by decide)) eda_nil) (by show 1 ≤ 100000; decide)) fun q0 ys0 H1 hq0 e1 hH1 hd1 => ?_
  have hiv : IvE (iSeqW K (tVar 0)) [some v, some (.ref q0), none, none, none] H1 (ps.map dP) fun d v H => Dp K H v d := by
    rcases h1 with h1 | h1
    · exact (iv_tup (evd_var rfl (dp_mono e1 h1))).right
    · exact (iv_lst (evd_var rfl (dp_mono e1 h1))).left
  refine q_forI hiv.of_map (fun i σ1 H1 => ∃ q o xs, σ1 = [some v, some (.ref q), o, none, none] ∧ H1 q = some (.lst xs) ∧ DpAll K H1 xs ((plansOf (ps.take i)).map dPs)) ?_ (fun i σ1 H1 H2 x ⟨q, o, xs, h1, h2, h3⟩ => ⟨q, o, xs, h1, x _ _ h2, dpa_mono x h3⟩) ?_ ?_
  · intro H2 e2
    exact ⟨q0, none, ys0, rfl, e2 _ _ hH1, dpa_mono e2 hd1⟩
  · rintro i e x σ1 H2 Hb hi e2 eb ⟨q, o, xs, rfl, hH2, hd2⟩ hx
    have hti : ps.take (i + 1) = ps.take i ++ [e] := by rw [List.take_succ, hi]; rfl
    have hle : (ps.take (i + 1)).length ≤ 22 := by rw [List.length_take]; omega
    have hb1 := plans_small hle
    rw [hti, plansOf_snoc, List.length_append, List.length_map] at hb1
    have hsz : (4194304 : Nat) ≤ sizeLine := by decide
    refine s_asgNl (evn_catV (ds := (plansOf (ps.take i)).map dPs) (es := (((plansOf (ps.take i)).filter fun pl => decide ((pl.filter fun o => decide (o.1 ∈ [e.1, e.2]) || decide (o.2 ∈ [e.1, e.2])) = [])).map fun pl => dPs (pl ++ [e]))) (ev_var rfl) hH2 hd2 ?_ ?_) fun r ys H3 hr e3 hr3 hd3 => ⟨eb.trans e3, r, _, ys, rfl, hr3, ?_⟩
    · refine evnl_lc (d := fun pl => dPs (pl ++ [e])) (IvE.of_map (iv_lst (evd_of (ev_var rfl) fun H5 e5 => .lst (sq_of (e5 _ _ hH2)) (dpa_mono e5 hd2)))) (by omega) (fun pl => tupD_Ps _) fun pl y H3 hpl e3 hy => ?_
      have hpll : pl.length ≤ 22 := by
        have := (plansOf_sub hpl).length_le
        rw [List.length_take] at this
        omega
      refine ⟨_, fun Q q => q, rfl, et_is (et_test (ev_eqD (d := .list ((pl.filter fun o => decide (o.1 ∈ [e.1, e.2]) || decide (o.2 ∈ [e.1, e.2])).map dP)) (e := .list []) (evn_d (evnl_lc (p := fun o : Pr => decide (o.1 ∈ [e.1, e.2]) || decide (o.2 ∈ [e.1, e.2])) (d := dP) (IvE.of_map (iv_tup (evd_var rfl hy))) (sz_of (by omega)) tupD_P fun z u H4 hz ez hu => ?_)) (evn_d (evn_lst eda_nil (by decide))) (shaped_lst (by decide) canLay_P depth_P _) rfl)) ?_, fun _ => ?_⟩
      · have hx4 : Dp K H4 x (dNs [e.1, e.2]) := dp_mono (e3.trans ez) hx
        exact ⟨_, fun Q q => q, rfl, et_or (et_inL (ev_int (evd_ixT (K := K) (ds := [dN z.1, dN z.2]) (i := 0) (evd_var rfl hu) ev_c rfl)) (evd_var rfl hx4)) fun _ => et_inL (ev_int (evd_ixT (K := K) (ds := [dN z.1, dN z.2]) (i := 1) (evd_var rfl hu) ev_c rfl)) (evd_var rfl hx4), fun _ => evd_var rfl hu⟩
      · generalize (pl.filter fun o => decide (o.1 ∈ [e.1, e.2]) || decide (o.2 ∈ [e.1, e.2])) = l
        cases l <;> simp [PyData.eqv, PyData.eqvAll]
      · refine evd_is (evd_catA (ds := pl.map dP) (es := [dP e]) (evd_var rfl hy) (evd_tup (eda_cons (evd_var rfl (dp_mono e3 hx)) eda_nil) (by show 1 ≤ 100000; decide)) (by simp; omega)) ?_
        rw [dPs, List.map_append]; rfl
    · rw [List.length_map, List.length_map]; omega
    · rw [hti, plansOf_snoc, List.map_append, List.map_map]
      exact hd3
  · rintro σ1 H2 e2 ⟨q, o, xs, rfl, hH2, hd2⟩
    rw [List.take_length] at hd2
    exact s_retQ (evd_of (ev_var rfl) fun H5 e5 => .lst (sq_of (e5 _ _ hH2)) (dpa_mono e5 hd2)) hq (e1.trans e2)
end
end WK
/-! ### W11 -/
set_option Elab.async false
set_option linter.all false
set_option maxRecDepth 100000
set_option maxHeartbeats 4000000
/-! the greatest marks are those of the kept ones -/
namespace WK
open PySem PySem.Spec PyProof.Rows L2 Evl DX DL KM C8
def marks (S : Nat → Bool) (ord : List Nat) : List Nat := ord.map fun v => if S v then 1 else 0
def toI (l : List Nat) : List Int := l.map fun v : Nat => (v : Int)
theorem toD_I (l : List Nat) : PySem.W.Datum.toD (toI l) = PyData.list (l.map dN) := by
  show PyData.list ((toI l).map _) = _
  unfold toI
  rw [List.map_map]; rfl
theorem lt_marks {S T : Nat → Bool} : ∀ {ord : List Nat}, (∀ pre f post, ord = pre ++ f :: post → (∀ y ∈ pre, S y = T y) → S f ≠ T f → S f = false ∧ T f = true) → PySem.W.listLt (toI (marks T ord)) (toI (marks S ord)) = false ∧ (marks S ord ≠ marks T ord → PySem.W.listLt (toI (marks S ord)) (toI (marks T ord)) = true)
  | [], _ => ⟨rfl, fun h => absurd rfl h⟩
  | v :: ord, h => by
    by_cases e : S v = T v
    · have ih := lt_marks (S := S) (T := T) (ord := ord) fun pre f post he ha hf => h (v :: pre) f post (by rw [he]; rfl) (fun y hy => by
        rcases List.mem_cons.mp hy with z | z
        · rw [z]; exact e
        · exact ha y z) hf
      have e2 : ∀ a b : List Int, ∀ x : Int, PySem.W.listLt (x :: a) (x :: b) = PySem.W.listLt a b := fun a b x => if_pos rfl
      have m1 : toI (marks S (v :: ord)) = (if T v then (1 : Int) else 0) :: toI (marks S ord) := by
        simp only [marks, toI, List.map_cons, e]; cases T v <;> rfl
      have m2 : toI (marks T (v :: ord)) = (if T v then (1 : Int) else 0) :: toI (marks T ord) := by
        simp only [marks, toI, List.map_cons]; cases T v <;> rfl
      rw [m1, m2, e2, e2]
      refine ⟨ih.1, fun hne => ih.2 fun z => hne ?_⟩
      simp only [marks, List.map_cons, e] at z ⊢
      rw [z]
    · obtain ⟨h1, h2⟩ := h [] v ord rfl (by simp) e
      have m1 : toI (marks S (v :: ord)) = (0 : Int) :: toI (marks S ord) := by simp [marks, toI, h1]
      have m2 : toI (marks T (v :: ord)) = (1 : Int) :: toI (marks T ord) := by simp [marks, toI, h2]
      rw [m1, m2]
      refine ⟨?_, fun _ => ?_⟩
      · show (if (1 : Int) = 0 then _ else decide ((1 : Int) < 0)) = false
        rw [if_neg (by decide)]; rfl
      · show (if (0 : Int) = 1 then _ else decide ((0 : Int) < 1)) = true
        rw [if_neg (by decide)]; rfl
theorem max_is {c : List Int} : ∀ (xs : List (List Int)) (a : List Int), (a = c ∨ c ∈ xs) → (∀ y ∈ a :: xs, PySem.W.listLt c y = false ∧ (y ≠ c → PySem.W.listLt y c = true)) → PySem.W.maxOf a xs = c
  | [], a, h, _ => h.elim id fun h => by cases h
  | y :: xs, a, h, hall => by
    show PySem.W.maxOf (if PySem.W.DatumOrd.lt a y = true then y else a) xs = c
    have ha := hall a (List.mem_cons_self ..)
    have hy := hall y (List.mem_cons_of_mem _ (List.mem_cons_self ..))
    by_cases e : a = c
    · subst e
      rw [if_neg (by rw [show PySem.W.DatumOrd.lt a y = PySem.W.listLt a y from rfl, hy.1]; decide)]
      exact max_is xs a (.inl rfl) fun z hz => hall z (by
        rcases List.mem_cons.mp hz with q | q
        · rw [q]; exact List.mem_cons_self ..
        · exact List.mem_cons_of_mem _ (List.mem_cons_of_mem _ q))
    · by_cases ey : y = c
      · subst ey
        rw [if_pos (show PySem.W.DatumOrd.lt a y = true from ha.2 e)]
        exact max_is xs y (.inl rfl) fun z hz => hall z (List.mem_cons_of_mem _ hz)
      · have hc : c ∈ xs := by
          rcases h with h | h
          · exact absurd h e
          · rcases List.mem_cons.mp h with q | q
            · exact absurd q.symm ey
            · exact q
        split
        · exact max_is xs y (.inr hc) fun z hz => hall z (List.mem_cons_of_mem _ hz)
        · exact max_is xs a (.inr hc) fun z hz => hall z (by
            rcases List.mem_cons.mp hz with q | q
            · rw [q]; exact List.mem_cons_self ..
            · exact List.mem_cons_of_mem _ (List.mem_cons_of_mem _ q))
structure KOk (n : Nat) (ps : List Pr) (ord : List Nat) : Prop where
  hw : IsWeb n ps
  nd : ps.Nodup
  len : ps.length ≤ 22
  ond : ord.Nodup
  olen : ord.length ≤ 1000
  hin : ∀ e ∈ ps, e.1 ∈ ord ∧ e.2 ∈ ord
noncomputable def chi (ps : List Pr) (ord : List Nat) : List Nat := marks (fun v => decide (v ∈ keptBy ps ord)) ord
def plMarks (ord : List Nat) (pl : List Pr) : List Nat := marks (fun v => decide (v ∈ verts pl)) ord
theorem chi_max {n : Nat} {ps : List Pr} {ord : List Nat} (k : KOk n ps ord) (a : List Pr) (r : List (List Pr)) (h : plansOf ps = a :: r) : PySem.W.maxD (.list ((plMarks ord a).map dN)) (r.map fun pl => PyData.list ((plMarks ord pl).map dN)) = .list ((chi ps ord).map dN) := by
  rw [← toD_I, ← toD_I]
  have e : (r.map fun pl => PyData.list ((plMarks ord pl).map dN)) = (r.map fun pl => toI (plMarks ord pl)).map PySem.W.Datum.toD := by
    rw [List.map_map]
    apply List.map_congr_left
    intro pl _
    exact (toD_I _).symm
  rw [e, PySem.W.maxD_map]
  congr 1
  have all : ∀ pl ∈ plansOf ps, PySem.W.listLt (toI (chi ps ord)) (toI (plMarks ord pl)) = false ∧ (plMarks ord pl ≠ chi ps ord → PySem.W.listLt (toI (plMarks ord pl)) (toI (chi ps ord)) = true) := fun pl hpl => by
    have hp := plansOf_plan k.hw hpl
    refine lt_marks fun pre f post he hag hne => ?_
    have hag' : ∀ y ∈ pre, y ∈ keptBy ps ord → y ∈ verts pl := fun y hy hk => by
      have := hag y hy
      simpa [hk] using this
    by_cases hf : f ∈ verts pl
    · have : f ∈ keptBy ps ord := by rw [he] at hag' ⊢; exact kept_first hp hag' hf
      simp [hf, this] at hne
    · refine ⟨by simpa using hf, ?_⟩
      by_cases hk : f ∈ keptBy ps ord
      · simpa using hk
      · simp [hf, hk] at hne
  have injI : ∀ {a b : List Nat}, toI a = toI b → a = b := fun {a b} h => by
    have : ∀ (a b : List Nat), toI a = toI b → a = b := by
      intro a
      induction a with
      | nil => intro b h; cases b with
        | nil => rfl
        | cons y b => cases h
      | cons x a ih => intro b h; cases b with
        | nil => cases h
        | cons y b =>
          simp only [toI, List.map_cons, List.cons.injEq] at h
          have h1 : x = y := by omega
          rw [h1, ih b h.2]
    exact this a b h
  refine max_is _ _ ?_ ?_
  · obtain ⟨p, hp, hv⟩ := kept_plan k.hin
    have hsub : (ps.filter fun e => decide (e ∈ p)).Sublist ps := List.filter_sublist
    have hperm : (ps.filter fun e => decide (e ∈ p)).Perm p := by
      refine (List.perm_ext_iff_of_nodup (List.Pairwise.filter _ k.nd) (verts_nodup_pairs hp hp.2)).mpr fun e => ?_
      simp only [List.mem_filter, decide_eq_true_eq]
      exact ⟨fun h => h.2, fun h => ⟨hp.1 e h, h⟩⟩
    have hm := plansOf_mem hsub ((verts_perm hperm).nodup_iff.mpr hp.2)
    have hchi : plMarks ord (ps.filter fun e => decide (e ∈ p)) = chi ps ord := by
      unfold plMarks chi marks
      apply List.map_congr_left
      intro v _
      have : (v ∈ verts (ps.filter fun e => decide (e ∈ p))) ↔ v ∈ keptBy ps ord := by rw [(verts_perm hperm).mem_iff]; exact hv v
      simp [this]
    rw [h] at hm
    rcases List.mem_cons.mp hm with q | q
    · exact .inl (by rw [← hchi, q])
    · exact .inr (List.mem_map.mpr ⟨_, q, by rw [hchi]⟩)
  · intro y hy
    have : ∃ pl ∈ plansOf ps, y = toI (plMarks ord pl) := by
      rcases List.mem_cons.mp hy with q | q
      · exact ⟨a, by rw [h]; exact List.mem_cons_self .., q⟩
      · obtain ⟨pl, hpl, rfl⟩ := List.mem_map.mp q
        exact ⟨pl, by rw [h]; exact List.mem_cons_of_mem _ hpl, rfl⟩
    obtain ⟨pl, hpl, rfl⟩ := this
    exact ⟨(all pl hpl).1, fun hne => (all pl hpl).2 fun e => hne (by rw [e])⟩
theorem chi_filter (S : Nat → Bool) : ∀ ord : List Nat, ((ord.zip (marks S ord)).filter fun q => decide (q.2 = 1)).map (·.1) = ord.filter S
  | [] => rfl
  | v :: ord => by
    have ih := chi_filter S ord
    simp only [marks, List.map_cons, List.zip_cons_cons, List.filter_cons] at ih ⊢
    cases h : S v with
    | true => simp [← ih]
    | false => simp [← ih]
theorem chi_kept {n : Nat} {ps : List Pr} {ord : List Nat} (k : KOk n ps ord) : srtN (ord.filter fun v => decide (v ∈ keptBy ps ord)) = keptT ps ord := by
  refine srtN_eq ((List.perm_ext_iff_of_nodup (List.Pairwise.filter _ k.ond) (kept_nodup k.ond)).mpr fun v => ?_)
  simp only [List.mem_filter, decide_eq_true_eq]
  exact ⟨fun h => h.2, fun h => ⟨kept_mem_ord h, h⟩⟩
end WK
/-! ### W12 -/
set_option Elab.async false
set_option linter.all false
set_option maxRecDepth 100000
set_option maxHeartbeats 4000000
/-! marked, first, kept -/
namespace WK
open PySem PySem.Spec PyProof.Rows L2 Evl DX DL KM C8
abbrev N_law_marked : List Str := ["_law_plans_here", "_law_order", "_law_found", "_law_plan", "_law_lot", "_law_person"]
theorem sc_law_marked : FnScope N_law_marked ["_law_plans_here", "_law_order"] (defScope HD.s_law_marked) := ⟨rfl, rfl, rfl, by decide +kernel, rfl, by decide +kernel, by decide +kernel⟩
abbrev N_law_first : List Str := ["_law_marked_here", "_law_order", "_law_hidden", "_law_best", "_law_plan", "_law_marks", "_law_person", "_law_mark", "_law_pair"]
theorem sc_law_first : FnScope N_law_first ["_law_marked_here", "_law_order", "_law_hidden"] (defScope HD.s_law_first) := ⟨rfl, rfl, rfl, by decide +kernel, rfl, by decide +kernel, by decide +kernel⟩
abbrev N_law_kept : List Str := ["_law_pairs_here", "_law_order"]
theorem sc_law_kept : FnScope N_law_kept ["_law_pairs_here", "_law_order"] (defScope HD.s_law_kept) := ⟨rfl, rfl, rfl, by decide +kernel, rfl, by decide +kernel, by decide +kernel⟩
section
variable {K : PySem.W.Frag} {σ : L2.St} {H : Hp} {te tb : TE} {D : Ends} {tz : TS}
/-- a for over a list that stood before -/
theorem s_for0L {g : TG} {tb : TS} {ds : List PyData} {H0 : Hp} {v : V} (h : Ev te σ H v) (hd : Dp K H0 v (.list ds)) (h0H : Ex H0 H) (Pv : Nat → L2.St → Hp → Prop) (hx : ∀ i σ1 H1, Pv i σ1 H1 → Ex H0 H1) (h0 : ∀ H1, Ex H H1 → Pv 0 σ H1)
    (hs : ∀ i d x σ1 H1, ds[i]? = some d → Pv i σ1 H1 → Dp K H0 x d → g x σ1 H1 fun σ2 H2 => tb { D with nx := Pv (i + 1), ct := Pv (i + 1), bk := D.nx } σ2 H2)
    (he : ∀ σ1 H1, Pv ds.length σ1 H1 → D.nx σ1 H1) : tFor (iList K te) g tb D σ H :=
  h H (Ex.refl H) _ fun H2 e2 => by
    obtain ⟨a, xs, rfl, hsq, hxs⟩ := dp_lst hd
    have n1 := dpAll_length hxs
    refine ⟨a, rfl, ⟨xs, ex_l (h0H.trans e2) hsq⟩, for_it (walk_list (xs := xs)) Pv (h0 H2 e2) (fun i σ1 H1 _ p => ex_l (hx i σ1 H1 p) hsq) (fun i x σ1 H3 H4 hi p y => ?_) fun σ1 H1 p => he σ1 H1 (by rw [← n1]; exact p)⟩
    obtain ⟨rfl, hy⟩ := y
    obtain ⟨d, h1, h2⟩ := dpAll_get hxs hy
    exact hs i d x σ1 H4 h1 p h2
theorem q_for0L {g : TG} {tb : TS} {ds : List PyData} {H0 : Hp} {v : V} (h : Ev te σ H v) (hd : Dp K H0 v (.list ds)) (h0H : Ex H0 H) (Pv : Nat → L2.St → Hp → Prop) (hx : ∀ i σ1 H1, Pv i σ1 H1 → Ex H0 H1) (h0 : ∀ H1, Ex H H1 → Pv 0 σ H1)
    (hs : ∀ i d x σ1 H1, ds[i]? = some d → Pv i σ1 H1 → Dp K H0 x d → g x σ1 H1 fun σ2 H2 => tb { D with nx := Pv (i + 1), ct := Pv (i + 1), bk := tz D } σ2 H2)
    (he : ∀ σ1 H1, Pv ds.length σ1 H1 → tz D σ1 H1) : tSeq (tFor (iList K te) g tb) tz D σ H := s_for0L (D := { D with nx := tz D }) h hd h0H Pv hx h0 hs he
/-- the items of a list that stands, as they stood -/
theorem iv_lst0 {i : Nat} {v : V} {ds : List PyData} (hσ : σ[i]? = some (some v)) (hd : Dp K H v (.list ds)) : IvE (iList K (tVar i)) σ H ds fun d x _ => Dp K H x d := fun H1 e Rr k =>
  ⟨v, hσ, by
    obtain ⟨a, xs, rfl, hs, hxs⟩ := dp_lst hd
    refine ⟨a, rfl, ⟨xs, ex_l e hs⟩, k _ H1 (Ex.refl _) ?_⟩
    have n1 := dpAll_length hxs
    rw [← n1]
    refine walk_list.mono (fun H3 g => ex_l (e.trans g) hs) fun j H3 x H4 hi g y => ?_
    obtain ⟨rfl, hx⟩ := y
    obtain ⟨d, h1, h2⟩ := dpAll_get hxs hx
    exact ⟨Ex.refl _, d, h1, h2⟩⟩
theorem g_two0 {t : TGs} {x : V} {σ1 : L2.St} {H0 H1 : Hp} {d e : PyData} (h : Dp K H0 x (.tuple [d, e])) (x01 : Ex H0 H1) : ∃ v w, Dp K H0 v d ∧ Dp K H0 w e ∧ ∀ Q : L2.St → Hp → Prop, t [v, w] σ1 H1 Q → gTup K 2 t x σ1 H1 Q := by
  obtain ⟨a, xs, rfl, hs, hd⟩ := dp_tup h
  obtain ⟨v, r, rfl, h1, h2⟩ := dpa_cons hd
  obtain ⟨w, r, rfl, h3, h4⟩ := dpa_cons h2
  rw [dpa_nil h4] at hs
  exact ⟨v, w, h1, h3, fun Q q => ⟨a, [v, w], rfl, ex_t x01 hs, rfl, q⟩⟩
end
section
variable {P : Program} {w : World} {K : PySem.W.Frag} {mg : Str → Option Value} {base : Heap} {f : Addr} {fd : FuncData}
variable (B : BI mg)
include B
abbrev dMk (ord : List Nat) (pl : List Pr) : PyData := .tuple [dPs pl, .list ((plMarks ord pl).map dN)]
def R_marked : List PyData → PyData → Prop := fun ds d => ∃ (pls : List (List Pr)) (ord : List Nat), pls.length ≤ 4194304 ∧ (∀ pl ∈ pls, pl.length ≤ 1000) ∧ ord.length ≤ 1000 ∧ ds = [.list (pls.map dPs), dNs ord] ∧ d = .list (pls.map (dMk ord))
theorem ok_marked (F : FnP K "_law_marked" "_law_marked" HD.s_law_marked f fd) (hm : mg "_law_marked" = some (.ref f)) (c_law_lot_of : C8.Cal P w K mg base 1 "_law_lot_of" (spR K 1 R_lot_of) []) : C8.Cal P w K mg base 2 "_law_marked" (spR K 2 R_marked) [] := by
  refine calR F hm sc_law_marked (F.bindsN fun _ _ _ _ _ _ us hl => match us, hl with | [_, _], _ => rfl) rfl fun cdv A outer s H vs Q E ds d hr hd hR hq => ?_
  obtain ⟨pls, ord, hn, hpl, ho, rfl, rfl⟩ := hR
  obtain ⟨v, r, rfl, h1, hd2⟩ := dpa_cons hd
  obtain ⟨u, r, rfl, h2, h3⟩ := dpa_cons hd2
  cases dpa_nil h3
  refine ⟨_, PSs.nox (pss_cons (ps_set (i := 2) sc_law_marked.nd rfl (.inl rfl) (pe_lst pa_nil))
    (pss_cons (ps_for PassesOwn.never rfl (k_list K (pi_list (pv 0))) (pg_name (i := 3) sc_law_marked.nd rfl (.inl rfl)) (pss_cons (ps_set (i := 4) sc_law_marked.nd rfl (.inr rfl) (pe_c c_law_lot_of hr (by decide) rfl (pa_cons (pv 3) pa_nil)))
    (pss_one (ps_expr (k_bm K (pe_bm PySem.F.plainAttrs_list PySem.F.slot_list_append PySem.F.type_list_append mt_append (pv 2) (pa_cons (pe_tup (pa_cons (pv 3) (pa_cons (pe_lc (own := [("_law_person", 5)]) rfl sc_law_marked.nd  (k_tup K (pi_tup (pv 1))) (blkOk_by (N := N_law_marked) (sc := defScope HD.s_law_marked) (by decide +kernel)) (fun _ _ _ _ _ => (pg_name (i := 5) sc_law_marked.nd rfl (.inl rfl))) (fun _ _ _ _ _ => pts_nil) (fun _ _ _ _ _ => (pe_ifExp (pt_cmpR (op_inK K) (pv 5) (pv 4) (by with_unfolding_all rfl)) pe_int pe_int))) pa_nil))) pa_nil)))))))
    (pss_one (ps_ret (pv 2))))), ?_⟩
  have hsz : (4194304 : Nat) < sizeLine := by decide
  refine q_asgL (el_lst ea_nil (by decide)) fun k H1 hk e1 hH1 => ?_
  refine q_for0L (H0 := H) (ev_var rfl) h1 e1 (fun i σ1 H2 => ∃ o3 o4 acc, σ1 = [some v, some u, some (.ref k), o3, o4, none] ∧ Ex H H2 ∧ H2 k = some (.lst acc) ∧
    Each (fun pl x H2 => ∃ T pv q, x = .ref T ∧ T ≠ k ∧ q ≠ k ∧ H2 T = some (.tup [pv, .ref q]) ∧ H2 q = some (.lst ((plMarks ord pl).map vN)) ∧ Dp K H pv (dPs pl)) H2 (pls.take i) acc) (fun i σ1 H2 ⟨_, _, _, _, h, _⟩ => h) ?_ ?_ ?_
  · intro H2 e2
    exact ⟨none, none, [], rfl, e1.trans e2, e2 _ _ hH1, by simpa using Each.nil⟩
  · rintro i d x σ1 H2 hi ⟨o3, o4, acc, rfl, e2, hk2, hE⟩ hx
    rw [List.getElem?_map] at hi
    cases hv : pls[i]? with
    | none => rw [hv] at hi; cases hi
    | some pl =>
      rw [hv] at hi
      cases hi
      have hpll := hpl pl (List.mem_of_getElem? hv)
      have hil : i < pls.length := (List.getElem?_eq_some_iff.mp hv).1
      refine q_asgP (evd_callR (ds := [dPs pl]) (eda_cons (evd_var rfl (dp_mono e2 hx)) eda_nil) rfl ⟨pl, hpll, rfl, rfl⟩) fun lt H3 e3 hlt => ?_
      have hk3 := e3 _ _ hk2
      refine ⟨_, rfl, .inl ⟨rfl, acc, sq_of hk3⟩, _, rfl, ?_⟩
      have e23 := e2.trans e3
      have hel : EvNl K (tLc (iTup K (tVar 1)) (gName 5) tYes (tIf (tTest (tOp (rIn K false) (tVar 5) (tVar 4))) (tC (.int 1)) (tC (.int 0))) [5]) [some v, some u, some (.ref k), some x, some lt, none] H3 ((plMarks ord pl).map dN) := by
        refine EvN.data (evnl_lc0 (d := fun y : Nat => dN (if y ∈ verts pl then 1 else 0)) (IvE.of_map (iv_tup (evd_var rfl (dp_mono e23 h2)))) (sz_of (by omega)) (fun _ => tupD_N _) fun y z H4 hy ey hz => ?_) ?_
        · refine ⟨_, fun Q q => q, rfl, evp_if (b := decide (y ∈ verts pl)) (et_is (et_inL (l := srtN (verts pl)) (ev_int (evd_var rfl hz)) (evd_var rfl (dp_mono ey hlt))) (by simp [mem_srtN])) (fun hb => ?_) fun hb => ?_⟩
          · rw [if_pos (by simpa using hb)]; exact evd_int ev_c
          · rw [if_neg (by simpa using hb)]; exact evd_int ev_c
        · unfold plMarks marks
          rw [List.map_map]
          apply List.map_congr_left
          intro y _
          by_cases h : y ∈ verts pl <;> simp [h]
      refine hel H3 (Ex.refl _) _ fun q ys H4 hq4 e4 hys hd4 => ?_
      rw [dpa_N hd4] at hys
      refine ⟨by show 2 ≤ sizeLine; decide, fun T hT => ⟨k, acc, .ref T, rfl, rfl, ?_, ?_, ?_⟩⟩
      · rw [upd_ne (ne_of_none (e4 _ _ hk3) hT)]; exact e4 _ _ hk3
      · have := hE.len
        rw [List.length_take] at this
        omega
      have hk4 := e4 _ _ hk3
      have hTk : T ≠ k := fun e => by rw [e, hk4] at hT; cases hT
      have hqk : q ≠ k := fun e => by rw [e, hk3] at hq4; cases hq4
      have hqT : q ≠ T := ne_of_none hys hT
      refine ⟨_, _, _, rfl, Ex.mut ((e23.trans e4).trans (Ex.new hT)) hk, upd_same, ?_⟩
      have htk : pls.take (i + 1) = pls.take i ++ [pl] := by rw [List.take_succ, hv]; rfl
      rw [htk]
      refine Each.snoc (hE.mono fun pl' y _ ⟨T', pv, q', g1, g2, g3, g4, g5, g6⟩ => ⟨T', pv, q', g1, g2, g3, (upd_ne g2).trans (((e3.trans e4).trans (Ex.new hT)) _ _ g4), (upd_ne g3).trans (((e3.trans e4).trans (Ex.new hT)) _ _ g5), g6⟩) ⟨T, x, q, rfl, hTk, hqk, ?_, ?_, hx⟩
      · rw [upd_ne hTk]; exact upd_same
      · rw [upd_ne hqk, upd_ne hqT]; exact hys
  · rintro σ1 H2 ⟨o3, o4, acc, rfl, e2, hk2, hE⟩
    rw [List.length_map, List.take_length] at hE
    have hda : DpAll K H2 acc (pls.map (dMk ord)) := each_dpa (hE.mono fun pl x _ ⟨T, pv, q, g1, g2, g3, g4, g5, g6⟩ => by
      rw [g1]
      exact .tup (st_of g4) (.cons (dp_mono e2 g6) (.cons (.lst (sq_of g5) (N_dpa _)) .nil)))
    exact s_retQ (evd_of (ev_var rfl) fun H5 e5 => .lst (sq_of (e5 _ _ hk2)) (dpa_mono e5 hda)) hq e2
def R_first : List PyData → PyData → Prop := fun ds d => ∃ (n : Nat) (ps : List Pr) (ord : List Nat), KOk n ps ord ∧ ds = [.list ((plansOf ps).map (dMk ord)), dNs ord, .tuple []] ∧ d = dNs (keptT ps ord)
theorem ok_first (F : FnP K "_law_first" "_law_first" HD.s_law_first f fd) (hm : mg "_law_first" = some (.ref f)) : C8.Cal P w K mg base 1 "_law_first" (spR K 3 R_first) [] := by
  refine calR F hm sc_law_first (F.bindsN fun _ _ _ _ _ _ us hl => match us, hl with | [_, _, _], _ => rfl) rfl fun cdv A outer s H vs Q E ds d hr hd hR hq => ?_
  obtain ⟨n, ps, ord, O, rfl, rfl⟩ := hR
  obtain ⟨v, r, rfl, h1, hd2⟩ := dpa_cons hd
  obtain ⟨u, r, rfl, h2, hd3⟩ := dpa_cons hd2
  obtain ⟨z, r, rfl, h3, h4⟩ := dpa_cons hd3
  cases dpa_nil h4
  refine ⟨_, PSs.nox (pss_cons (ps_set (i := 3) sc_law_first.nd rfl (.inl rfl) (pe_callB (cr_maxK K rfl hr) rfl B.max (by decide +kernel) (pa_cons (pe_lc (own := [("_law_plan", 4), ("_law_marks", 5)]) rfl sc_law_first.nd  (k_list K (pi_list (pv 0))) (blkOk_by (N := N_law_first) (sc := defScope HD.s_law_first) (by decide +kernel)) (fun _ _ _ _ _ => (k_gtup K (pg_tup (n := 2) rfl (pgs_cons (pg_name (i := 4) sc_law_first.nd rfl (.inl rfl)) (pgs_cons (pg_name (i := 5) sc_law_first.nd rfl (.inl rfl)) pgs_nil))))) (fun _ _ _ _ _ => (pts_one (pt_cmpR (op_eqDK K hr) (pe_lc (own := [("_law_pair", 8)]) rfl sc_law_first.nd  (k_tup K (pi_tup (pv 4))) (blkIn (by rfl)) (fun _ _ _ _ _ => (pg_name (i := 8) sc_law_first.nd rfl (.inl rfl))) (fun _ _ _ _ _ => (pts_one (pt_cmpR (op_inTK K hr) (pv 8) (pv 2) (by with_unfolding_all rfl)))) (fun _ _ _ _ _ => (pv 8))) (pe_lst pa_nil) (nomark _)))) (fun _ _ _ _ _ => (pv 5))) pa_nil)))
    (pss_one (ps_ret (pe_callTy (cr_tupK K) rfl B.tuple (by decide +kernel) (pa_cons (pe_callB (cr_sortK K hr) rfl B.sorted (by decide +kernel) (pa_cons (pe_lc (own := [("_law_person", 6), ("_law_mark", 7)]) rfl sc_law_first.nd  (k_zipM K (pi_zipM rfl B.zip (pa_cons (pv 1) (pa_cons (pv 3) pa_nil)))) (blkOk_by (N := N_law_first) (sc := defScope HD.s_law_first) (by decide +kernel)) (fun _ _ _ _ _ => (k_gtup K (pg_tup (n := 2) rfl (pgs_cons (pg_name (i := 6) sc_law_first.nd rfl (.inl rfl)) (pgs_cons (pg_name (i := 7) sc_law_first.nd rfl (.inl rfl)) pgs_nil))))) (fun _ _ _ _ _ => (pts_one (pt_cmpR op_eq (pv 7) pe_int (nomark _)))) (fun _ _ _ _ _ => (pv 6))) pa_nil)) pa_nil))))), ?_⟩
  have hsm := plans_small O.len
  have hsz : (4194304 : Nat) ≤ sizeLine := by decide
  have hne : plansOf ps ≠ [] := fun e => by
    have := plansOf_mem (pl := []) (ps := ps) (List.nil_sublist _) (by simp [verts])
    rw [e] at this
    cases this
  obtain ⟨a0, r0, har⟩ := List.exists_cons_of_ne_nil hne
  have hplen : ∀ pl ∈ plansOf ps, pl.length ≤ 22 := fun pl h => Nat.le_trans (plansOf_sub h).length_le O.len
  refine q_asgP (P := fun v H => Dp K H v (.list ((chi ps ord).map dN))) ?_ fun b H1 e1 hb => ?_
  · rw [← chi_max O a0 r0 har]
    refine evd_best (d := .list ((plMarks ord a0).map dN)) (ds := r0.map fun pl => PyData.list ((plMarks ord pl).map dN)) (.inl ?_) ?_ ?_
    · intro H2 e2 Q2 q2
      refine evn_lc (σ := [some v, some u, some z, none, none, none, none, none, none]) (H := H) (l := plansOf ps) (p := fun _ => true) (P := fun pl x _ => Dp K H x (.list ((plMarks ord pl).map dN))) (IvE.of_map (iv_lst0 (i := 0) rfl h1)) (by omega) (fun _ _ _ _ _ h => h) (fun pl x H3 hpl e3 hx => ?_) H2 e2 Q2 fun p ys H3 hp e3 h3 hE => ?_
      · obtain ⟨pv, mv, hpv, hmv, kk⟩ := g_two0 hx e3
        refine ⟨_, fun Q q => kk Q ⟨_, [_], rfl, _, [], rfl, rfl, q⟩, rfl, ?_, fun _ => evp_of (ev_var rfl) fun _ _ => hmv⟩
        refine et_is (et_test (ev_eqD (d := .list []) (e := .list []) (evn_d (EvN.data (evnl_lc (p := fun _ : Pr => false) (d := dP) (IvE.of_map (iv_tup (evd_var rfl (dp_mono e3 hpv)))) (sz_of (by have := hplen pl hpl; omega)) tupD_P fun o y H4 ho eo hy => ?_) (by simp))) (evn_d (evn_lst eda_nil (by decide))) rfl rfl)) rfl
        exact ⟨_, fun Q q => q, rfl, et_test (ev_is (ev_inT (neg := false) (es := []) (evd_var rfl hy) (evd_var rfl (dp_mono (e3.trans eo) h3)) (shaped_P _) rfl) rfl), fun _ => evd_var rfl hy⟩
      · rw [List.filter_eq_self.mpr (by simp)] at hE
        have hall : DpAll K H ys ((plansOf ps).map fun pl => PyData.list ((plMarks ord pl).map dN)) := by
          have hE' : Each (fun pl x H => Dp K H x (.list ((plMarks ord pl).map dN))) H (plansOf ps) ys := by
            refine Each.mono (P := fun pl x _ => Dp K H x (.list ((plMarks ord pl).map dN))) (H' := H) hE fun a v _ h => h
          exact each_dpa hE'
        rw [har] at hall
        exact q2 (.ref p) H3 e3 (.lst (sq_of h3) (dpa_mono (e2.trans e3) hall))
    · have : (PyData.list ((plMarks ord a0).map dN) :: r0.map fun pl => PyData.list ((plMarks ord pl).map dN)) = ((a0 :: r0).map fun pl => toI (plMarks ord pl)).map PySem.W.Datum.toD := by
        rw [List.map_map, List.map_cons]
        congr 1
        · exact (toD_I _).symm
        · apply List.map_congr_left
          intro pl _
          exact (toD_I _).symm
      rw [this]
      exact PySem.W.alikeAll_datum _
    · have : ∀ l : List (List Pr), PyData.depthAll (l.map fun pl => PyData.list ((plMarks ord pl).map dN)) ≤ 40 := fun l => depth_all (k := 40) (fun pl => by
        have := depth_all (k := 0) depth_N (plMarks ord pl)
        simp only [PyData.depth]
        omega) l
      exact this (a0 :: r0)
  · have hlen : (chi ps ord).length = ord.length := by unfold chi marks; rw [List.length_map]
    have hz := iv_zipM (K := K) (σ := [some v, some u, some z, some b, none, none, none, none, none]) (H := H1) (te := tVar 1) (tf := tVar 3) (evd_var rfl (dp_mono e1 h2)) (evd_var rfl hb) (by rw [List.length_map, List.length_map, hlen])
    rw [List.zip_map] at hz
    refine s_retQ (evd_tupOf (evn_d (evn_sortN (l := ((ord.zip (chi ps ord)).filter fun q => decide (q.2 = 1)).map (·.1)) (.inl (evn_d (EvN.data (evnl_lc (p := fun q : Nat × Nat => decide (q.2 = 1)) (d := fun q => dN q.1) hz.of_map (sz_of (by have := O.olen; simp; omega)) (fun _ => tupD_N _) fun q x H2 hqm e2 hx => ?_) (by rw [List.map_map]; rfl))))))) (show RetD K (dNs (srtN (((ord.zip (chi ps ord)).filter fun q => decide (q.2 = 1)).map (·.1)))) H Q from ?_) e1
    · obtain ⟨y1, y2, hy1, hy2, kk⟩ := g_two hx
      exact ⟨_, fun Q q => kk Q ⟨_, [_], rfl, _, [], rfl, rfl, q⟩, rfl, et_test (ev_eqN (n := q.2) (m := 1) (ev_int (evd_var rfl hy2)) ev_c), fun _ => evd_var rfl hy1⟩
    · rw [chi, chi_filter, chi_kept O]; exact hq
def R_lkept : List PyData → PyData → Prop := fun ds d => ∃ (n : Nat) (ps : List Pr) (ord : List Nat), KOk n ps ord ∧ (ds = [dPs ps, dNs ord] ∨ ds = [.list (ps.map dP), dNs ord]) ∧ d = dNs (keptT ps ord)
theorem ok_lkept (F : FnP K "_law_kept" "_law_kept" HD.s_law_kept f fd) (hm : mg "_law_kept" = some (.ref f)) (c_law_plans : C8.Cal P w K mg base 1 "_law_plans" (spR K 1 R_plans) []) (c_law_marked : C8.Cal P w K mg base 2 "_law_marked" (spR K 2 R_marked) [])
    (c_law_first : C8.Cal P w K mg base 1 "_law_first" (spR K 3 R_first) []) : C8.Cal P w K mg base 3 "_law_kept" (spR K 2 R_lkept) [] := by
  refine calR F hm sc_law_kept (F.bindsN fun _ _ _ _ _ _ us hl => match us, hl with | [_, _], _ => rfl) rfl fun cdv A outer s H vs Q E ds d hr hd hR hq => ?_
  obtain ⟨n, ps, ord, O, hds, rfl⟩ := hR
  obtain ⟨v, u, rfl, h1, h2⟩ : ∃ v u, vs = [v, u] ∧ (∃ d0, Dp K H v d0 ∧ (d0 = dPs ps ∨ d0 = .list (ps.map dP))) ∧ Dp K H u (dNs ord) := by
    rcases hds with rfl | rfl
    · obtain ⟨v, r, rfl, h1, hd2⟩ := dpa_cons hd
      obtain ⟨u, r, rfl, h2, h3⟩ := dpa_cons hd2
      cases dpa_nil h3
      exact ⟨v, u, rfl, ⟨_, h1, .inl rfl⟩, h2⟩
    · obtain ⟨v, r, rfl, h1, hd2⟩ := dpa_cons hd
      obtain ⟨u, r, rfl, h2, h3⟩ := dpa_cons hd2
      cases dpa_nil h3
      exact ⟨v, u, rfl, ⟨_, h1, .inr rfl⟩, h2⟩
  obtain ⟨d0, h1, hd0⟩ := h1
  refine ⟨_, PSs.nox (pss_one (ps_ret (pe_c c_law_first hr (by decide) rfl (pa_cons (pe_c c_law_marked hr (by decide) rfl (pa_cons (pe_c c_law_plans hr (by decide) rfl (pa_cons (pv 0) pa_nil)) (pa_cons (pv 1) pa_nil))) (pa_cons (pv 1) (pa_cons (pe_tup pa_nil) pa_nil)))))), ?_⟩
  refine s_retQ (evd_callR (ds := [.list ((plansOf ps).map (dMk ord)), dNs ord, .tuple []]) (eda_cons (evd_callR (ds := [.list ((plansOf ps).map dPs), dNs ord]) (eda_cons (evd_callR (ds := [d0]) (eda_cons (evd_var rfl h1) eda_nil) rfl ⟨ps, O.len, ?_, rfl⟩) (eda_cons (evd_var rfl h2) eda_nil)) rfl ⟨plansOf ps, ord, plans_small O.len, fun pl h => Nat.le_trans (plansOf_sub h).length_le (by have := O.len; omega), O.olen, rfl, rfl⟩) (eda_cons (evd_var rfl h2) (eda_cons (evd_tup eda_nil (by decide)) eda_nil))) rfl ⟨n, ps, ord, O, rfl, rfl⟩) hq (Ex.refl _)
  rcases hd0 with h | h
  · exact .inl (by rw [h])
  · exact .inr (by rw [h])
end
end WK
/-! ### W13 -/
set_option Elab.async false
set_option linter.all false
set_option maxRecDepth 100000
set_option maxHeartbeats 4000000
/-! the law's news, can, gone -/
namespace WK
open PySem PySem.Spec PyProof.Rows L2 Evl DX DL KM C8
abbrev N_law_news : List Str := ["_law_before", "_law_behind", "_law_come", "_law_gone_here", "_law_person"]
theorem sc_law_news : FnScope N_law_news ["_law_before", "_law_behind"] (defScope HD.s_law_news) := ⟨rfl, rfl, rfl, by decide +kernel, rfl, by decide +kernel, by decide +kernel⟩
abbrev N_law_can : List Str := ["_law_plans_here", "_law_lot", "_law_plan", "_law_person"]
theorem sc_law_can : FnScope N_law_can ["_law_plans_here", "_law_lot"] (defScope HD.s_law_can) := ⟨rfl, rfl, rfl, by decide +kernel, rfl, by decide +kernel, by decide +kernel⟩
abbrev N_law_gone : List Str := ["_law_pairs_here", "_law_order", "_law_kept_here", "_law_person", "_law_plans_here", "_law_rest", "_law_some", "_law_one", "_law_pair", "_law_other"]
theorem sc_law_gone : FnScope N_law_gone ["_law_pairs_here", "_law_order", "_law_kept_here", "_law_person"] (defScope HD.s_law_gone) := ⟨rfl, rfl, rfl, by decide +kernel, rfl, by decide +kernel, by decide +kernel⟩
def lnewsD (come gone : List Nat) : PyData :=
  if come = [] ∧ gone = [] then .tuple [.str "same"]
  else if come.length = 1 ∧ gone.length = 1 then .tuple [.str "instead", dN (come.headD 0), dN (gone.headD 0)]
  else if come.length + gone.length ≠ 2 then .none
  else if gone = [] then .tuple [.str "come", dNs come] else .tuple [.str "go", dNs gone]
def canB (pls : List (List Pr)) (lot : List Nat) : Bool := pls.any fun pl => lot.all fun v => decide (v ∈ verts pl)
def offP (ps : List Pr) (x : Nat) : List Pr := ps.filter fun e => !decide (x ∈ [e.1, e.2])
def restL (kt : List Nat) (x : Nat) : List Nat := kt.filter fun v => !decide (v = x)
def someL (ps : List Pr) (ord kt : List Nat) (x : Nat) : List Nat := ord.filter fun v => !decide (v ∈ kt) && canB (plansOf (offP ps x)) (restL kt x ++ [v])
def lastL (ps : List Pr) (ord kt : List Nat) (x : Nat) : List Nat := ord.filter fun v => decide (v ∈ restL kt x) && canB (plansOf (offP ps x)) ((restL kt x).filter fun u => !decide (u = v))
def lgoneD (ps : List Pr) (ord kt : List Nat) (x : Nat) : PyData :=
  if x ∉ kt then .tuple [.str "same"] else if someL ps ord kt x ≠ [] then .tuple [.str "instead", dN ((someL ps ord kt x).headD 0)] else .tuple [.str "go", dN ((lastL ps ord kt x).getLastD 0)]
theorem nil_eqv {l : List Nat} : PyData.eqv (dNs l) (.tuple []) = decide (l = []) := by
  have := eqv_Ns l []
  exact this
theorem nil_eqvL {l : List Nat} : PyData.eqv (.list (l.map dN)) (.list []) = decide (l = []) := by
  have : PyData.eqv (.list (l.map dN)) (.list ([].map dN)) = _ := eqvAll_map eqv_N l []
  exact this
section
variable {P : Program} {w : World} {K : PySem.W.Frag} {mg : Str → Option Value} {base : Heap} {f : Addr} {fd : FuncData}
variable (B : BI mg)
include B
def R_lnews : List PyData → PyData → Prop := fun ds d => ∃ a b : List Nat, a.length ≤ 1000 ∧ b.length ≤ 1000 ∧ ds = [dNs a, dNs b] ∧ d = lnewsD (comes a b) (comes b a)
theorem ok_lnews (F : FnP K "_law_news" "_law_news" HD.s_law_news f fd) (hm : mg "_law_news" = some (.ref f)) : C8.Cal P w K mg base 1 "_law_news" (spR K 2 R_lnews) [] := by
  refine calR F hm sc_law_news (F.bindsN fun _ _ _ _ _ _ us hl => match us, hl with | [_, _], _ => rfl) rfl fun cdv A outer s H vs Q E ds d hr hd hR hq => ?_
  obtain ⟨a, b, ha, hb, rfl, rfl⟩ := hR
  obtain ⟨va, r, rfl, h1, hd2⟩ := dpa_cons hd
  obtain ⟨vb, r, rfl, h2, h3⟩ := dpa_cons hd2
  cases dpa_nil h3
  refine ⟨_, PSs.nox (pss_cons (ps_set (i := 2) sc_law_news.nd rfl (.inl rfl) (pe_callTy (cr_tupK K) rfl B.tuple (by decide +kernel) (pa_cons (pe_lc (own := [("_law_person", 4)]) rfl sc_law_news.nd  (k_tup K (pi_tup (pv 1))) (blkOk_by (N := N_law_news) (sc := defScope HD.s_law_news) (by decide +kernel)) (fun _ _ _ _ _ => (pg_name (i := 4) sc_law_news.nd rfl (.inl rfl))) (fun _ _ _ _ _ => (pts_one (pt_cmpR (op_ninK K) (pv 4) (pv 0) (by with_unfolding_all rfl)))) (fun _ _ _ _ _ => (pv 4))) pa_nil)))
    (pss_cons (ps_set (i := 3) sc_law_news.nd rfl (.inl rfl) (pe_callTy (cr_tupK K) rfl B.tuple (by decide +kernel) (pa_cons (pe_lc (own := [("_law_person", 4)]) rfl sc_law_news.nd  (k_tup K (pi_tup (pv 0))) (blkOk_by (N := N_law_news) (sc := defScope HD.s_law_news) (by decide +kernel)) (fun _ _ _ _ _ => (pg_name (i := 4) sc_law_news.nd rfl (.inl rfl))) (fun _ _ _ _ _ => (pts_one (pt_cmpR (op_ninK K) (pv 4) (pv 1) (by with_unfolding_all rfl)))) (fun _ _ _ _ _ => (pv 4))) pa_nil)))
    (pss_cons (ps_if (PW.pt (pw_and (pt_cmpR (op_eqDK K hr) (pv 2) (pe_tup pa_nil) (nomark _)) (pw_and1 (pt_cmpR (op_eqDK K hr) (pv 3) (pe_tup pa_nil) (nomark _))))) (pss_one (ps_ret (pe_tup (pa_cons pe_str pa_nil)))) pss_nil)
    (pss_cons (ps_if (PW.pt (pw_and (pt_cmpR op_eq (pe_callB (cr_lenK K) rfl B.len (by decide +kernel) (pa_cons (pv 2) pa_nil)) pe_int (nomark _)) (pw_and1 (pt_cmpR op_eq (pe_callB (cr_lenK K) rfl B.len (by decide +kernel) (pa_cons (pv 3) pa_nil)) pe_int (nomark _))))) (pss_one (ps_ret (pe_tup (pa_cons pe_str (pa_cons (pe_ix (ix_tupK K) (pv 2) pe_int (fun _ _ => rfl)) (pa_cons (pe_ix (ix_tupK K) (pv 3) pe_int (fun _ _ => rfl)) pa_nil)))))) pss_nil)
    (pss_cons (ps_if (pt_cmpR op_ne (pe_callB (cr_lenK K) rfl B.len (by decide +kernel) (pa_cons (pe_op (op_catK K) (pv 2) (pv 3)) pa_nil)) pe_int (nomark _)) (pss_one (ps_ret pe_non)) pss_nil)
    (pss_one (ps_ret (pe_ifExp (pt_cmpR (op_eqDK K hr) (pv 3) (pe_tup pa_nil) (nomark _)) (pe_tup (pa_cons pe_str (pa_cons (pv 2) pa_nil))) (pe_tup (pa_cons pe_str (pa_cons (pv 3) pa_nil))))))))))), ?_⟩
  have lc0 : (comes a b).length ≤ 1000 := Nat.le_trans (List.length_filter_le _ _) hb
  have lg0 : (comes b a).length ≤ 1000 := Nat.le_trans (List.length_filter_le _ _) ha
  refine q_asgP (evd_tupOf (evn_d (EvN.data (evnl_lc (p := fun v : Nat => !decide (v ∈ a)) (d := dN) (IvE.of_map (iv_tup (evd_var rfl h2))) (sz_of (by omega)) tupD_N fun v x H2 hv ex hx => ?_) (by rfl)))) fun cv H1 e1 hc => ?_
  · exact ⟨_, fun Q q => q, rfl, et_test (ev_inN (neg := true) (evd_var rfl hx) (evd_var rfl (dp_mono ex h1))), fun _ => evd_var rfl hx⟩
  have k1 := dp_mono e1 h1
  have k2 := dp_mono e1 h2
  refine q_asgP (evd_tupOf (evn_d (EvN.data (evnl_lc (p := fun v : Nat => !decide (v ∈ b)) (d := dN) (IvE.of_map (iv_tup (evd_var rfl k1))) (sz_of (by omega)) tupD_N fun v x H2 hv ex hx => ?_) (by rfl)))) fun gv H2 e2 hg => ?_
  · exact ⟨_, fun Q q => q, rfl, et_test (ev_inN (neg := true) (evd_var rfl hx) (evd_var rfl (dp_mono ex k2))), fun _ => evd_var rfl hx⟩
  have hcm : Dp K H2 cv (dNs (comes a b)) := dp_mono e2 hc
  have hgn : Dp K H2 gv (dNs (comes b a)) := hg
  generalize comes a b = come at *
  generalize comes b a = gone at *
  have isn : ∀ {H3 : Hp} {i : Nat} {v : V} {l : List Nat} {σ : L2.St}, σ[i]? = some (some v) → Dp K H3 v (dNs l) → EvT (tTest (tOp (rEqD K) (tVar i) (tTup tNil))) σ H3 (decide (l = [])) := fun hσ hd => et_test (ev_is (ev_eqD (evd_var hσ hd) (evd_tup eda_nil (by decide)) (shaped_Ns _) rfl) (by rw [nil_eqv]))
  have ln : ∀ {H3 : Hp} {i : Nat} {v : V} {l : List Nat} {σ : L2.St}, σ[i]? = some (some v) → Dp K H3 v (dNs l) → Ev (tCB (rLenS K) (tCons (tVar i) tNil)) σ H3 (.int (l.length : Int)) := fun hσ hd => ev_is (ev_lenT (evd_var hσ hd)) (by rw [List.length_map])
  have e12 := e1.trans e2
  refine q_ifE (b := decide (come = []) && decide (gone = [])) (et_and (isn rfl hcm) fun _ => isn rfl hgn) (fun hbb H3 e3 => ?_) fun hbb H3 e3 => ?_
  · have : come = [] ∧ gone = [] := by simpa using hbb
    rw [lnewsD, if_pos this] at hq
    exact s_retQ (evd_tup (eda_cons (evd_str ev_c) eda_nil) (by show 1 ≤ 100000; decide)) hq (e12.trans e3)
  · have hn1 : ¬ (come = [] ∧ gone = []) := fun z => by rw [z.1, z.2] at hbb; cases hbb
    rw [lnewsD, if_neg hn1] at hq
    have m1 := dp_mono e3 hcm
    have m2 := dp_mono e3 hgn
    refine q_ifE (b := decide (come.length = 1) && decide (gone.length = 1)) (et_and (et_test (ev_eqN (m := 1) (ln rfl m1) ev_c)) fun _ => et_test (ev_eqN (m := 1) (ln rfl m2) ev_c)) (fun hbc H4 e4 => ?_) fun hbc H4 e4 => ?_
    · have : come.length = 1 ∧ gone.length = 1 := by simpa using hbc
      rw [if_pos this] at hq
      exact s_retQ (evd_tup (eda_cons (evd_str ev_c) (eda_cons (evd_ixT (i := 0) (evd_var rfl (dp_mono e4 m1)) ev_c (head_at (by omega))) (eda_cons (evd_ixT (i := 0) (evd_var rfl (dp_mono e4 m2)) ev_c (head_at (by omega))) eda_nil))) (by show 3 ≤ 100000; decide)) hq ((e12.trans e3).trans e4)
    · have hn2 : ¬ (come.length = 1 ∧ gone.length = 1) := fun z => by rw [z.1, z.2] at hbc; cases hbc
      rw [if_neg hn2] at hq
      have n1 := dp_mono e4 m1
      have n2 := dp_mono e4 m2
      refine q_ifE (b := !decide (come.length + gone.length = 2)) (et_test (ev_neN (n := come.length + gone.length) (m := 2) (ev_is (ev_lenT (evd_catA (ds := come.map dN) (es := gone.map dN) (evd_var rfl n1) (evd_var rfl n2) (by simp; omega))) (by simp)) ev_c)) (fun hbd H5 e5 => ?_) fun hbd H5 e5 => ?_
      · have : come.length + gone.length ≠ 2 := by simpa using hbd
        rw [if_pos this] at hq
        exact s_retQ (evd_non ev_c) hq (((e12.trans e3).trans e4).trans e5)
      · have h2e : come.length + gone.length = 2 := by simpa using hbd
        rw [if_neg (by omega)] at hq
        refine s_retQ (evp_if (b := decide (gone = [])) (isn rfl (dp_mono e5 n2)) (fun hz => ?_) fun hz => ?_) hq (((e12.trans e3).trans e4).trans e5)
        · rw [if_pos (by simpa using hz)]
          exact evd_tup (eda_cons (evd_str ev_c) (eda_cons (evd_var rfl (dp_mono e5 n1)) eda_nil)) (by show 2 ≤ 100000; decide)
        · rw [if_neg (by simpa using hz)]
          exact evd_tup (eda_cons (evd_str ev_c) (eda_cons (evd_var rfl (dp_mono e5 n2)) eda_nil)) (by show 2 ≤ 100000; decide)
def R_can : List PyData → PyData → Prop := fun ds d => ∃ (pls : List (List Pr)) (lot : List Nat), pls.length ≤ 4194304 ∧ (∀ pl ∈ pls, pl.length ≤ 1000) ∧ lot.length ≤ 2000 ∧ ds = [.list (pls.map dPs), .list (lot.map dN)] ∧ d = .bool (canB pls lot)
theorem ok_can (F : FnP K "_law_can" "_law_can" HD.s_law_can f fd) (hm : mg "_law_can" = some (.ref f)) (c_law_lot_of : C8.Cal P w K mg base 1 "_law_lot_of" (spR K 1 R_lot_of) []) : C8.Cal P w K mg base 2 "_law_can" (spR K 2 R_can) [] := by
  refine calR F hm sc_law_can (F.bindsN fun _ _ _ _ _ _ us hl => match us, hl with | [_, _], _ => rfl) rfl fun cdv A outer s H vs Q E ds d hr hd hR hq => ?_
  obtain ⟨pls, lot, hn, hpl, hlot, rfl, rfl⟩ := hR
  obtain ⟨v, r, rfl, h1, hd2⟩ := dpa_cons hd
  obtain ⟨u, r, rfl, h2, h3⟩ := dpa_cons hd2
  cases dpa_nil h3
  have hsz : (4194304 : Nat) ≤ sizeLine := by decide
  refine ⟨_, PSs.nox (pss_one (ps_ret (pe_cmpR (op_neDK K hr) (pe_lc (own := [("_law_plan", 2)]) rfl sc_law_can.nd  (k_list K (pi_list (pv 0))) (blkOk_by (N := N_law_can) (sc := defScope HD.s_law_can) (by decide +kernel)) (fun _ _ _ _ _ => (pg_name (i := 2) sc_law_can.nd rfl (.inr rfl))) (fun _ _ _ _ _ => (pts_one (pt_cmpR (op_eqDK K hr) (pe_lc (own := [("_law_person", 3)]) rfl sc_law_can.nd  (k_list K (pi_list (pv 1))) (blkIn (by rfl)) (fun _ _ _ _ _ => (pg_name (i := 3) sc_law_can.nd rfl (.inl rfl))) (fun _ _ _ _ _ => (pts_one (pt_cmpR (op_ninK K) (pv 3) (pe_c c_law_lot_of hr (by decide) rfl (pa_cons (pv 2) pa_nil)) (by with_unfolding_all rfl)))) (fun _ _ _ _ _ => (pv 3))) (pe_lst pa_nil) (nomark _)))) (fun _ _ _ _ _ => (pv 2))) (pe_lst pa_nil) (nomark _)))), ?_⟩
  refine s_retQ (evd_bl (ev_is (ev_neD (d := .list ((pls.filter fun pl => lot.all fun v => decide (v ∈ verts pl)).map dPs)) (e := .list []) (evn_d (evnl_lc (p := fun pl : List Pr => lot.all fun v => decide (v ∈ verts pl)) (d := dPs) (IvE.of_map (iv_lst (evd_var rfl h1))) (by omega) tupD_Ps fun pl x H1 hplm ex hx => ?_)) (evn_d (evn_lst eda_nil (by decide))) ?_ rfl) ?_)) hq (Ex.refl _)
  · refine ⟨_, fun Q q => q, rfl, et_is (et_test (ev_is (ev_eqD (d := .list ((lot.filter fun v => !decide (v ∈ verts pl)).map dN)) (e := .list []) (evn_d (evnl_lc (p := fun v : Nat => !decide (v ∈ verts pl)) (d := dN) (IvE.of_map (iv_lst (evd_var rfl (dp_mono ex h2)))) (sz_of (by omega)) tupD_N fun y z H2 hy ey hz => ?_)) (evn_d (evn_lst eda_nil (by decide))) (shaped_lst (by decide) canLay_N depth_N _) rfl) (by rw [nil_eqvL]))) ?_, fun _ => evd_var rfl hx⟩
    · refine ⟨_, fun Q q => q, rfl, et_is (et_test (ev_inN (neg := true) (n := y) (l := srtN (verts pl)) (evd_var rfl hz) (evd_callR (ds := [dPs pl]) (eda_cons (evd_var rfl (dp_mono ey hx)) eda_nil) rfl ⟨pl, hpl pl hplm, rfl, rfl⟩))) (by simp [mem_srtN]), fun _ => evd_var rfl hz⟩
    · rw [Bool.eq_iff_iff]
      simp [List.filter_eq_nil_iff]
  · exact shaped_lst (f := dPs) (k := 2) (by decide) (fun a => by simpa [PyData.canLay0] using canLay_all canLay_P a) (fun a => by have := depth_all (k := 1) depth_P a; simp only [PyData.depth]; omega) _
  · have : PyData.eqv (.list ((pls.filter fun pl => lot.all fun v => decide (v ∈ verts pl)).map dPs)) (.list []) = decide ((pls.filter fun pl => lot.all fun v => decide (v ∈ verts pl)) = []) := by
      have h := eqvAll_map eqv_Ps (pls.filter fun pl => lot.all fun v => decide (v ∈ verts pl)) []
      exact h
    rw [this]
    congr 1
    rw [Bool.eq_iff_iff, canB]
    simp [List.filter_eq_nil_iff]
def R_lgone : List PyData → PyData → Prop := fun ds d => ∃ (ps : List Pr) (ord kt : List Nat) (x : Nat), ps.length ≤ 22 ∧ ord.length ≤ 1000 ∧ kt.length ≤ 1000 ∧ ds = [dPs ps, dNs ord, dNs kt, dN x] ∧ (x ∈ kt → someL ps ord kt x = [] → lastL ps ord kt x ≠ []) ∧ d = lgoneD ps ord kt x
theorem ok_lgone (F : FnP K "_law_gone" "_law_gone" HD.s_law_gone f fd) (hm : mg "_law_gone" = some (.ref f)) (c_law_plans : C8.Cal P w K mg base 1 "_law_plans" (spR K 1 R_plans) []) (c_law_can : C8.Cal P w K mg base 2 "_law_can" (spR K 2 R_can) []) : C8.Cal P w K mg base 3 "_law_gone" (spR K 4 R_lgone) [] := by
  refine calR F hm sc_law_gone (F.bindsN fun _ _ _ _ _ _ us hl => match us, hl with | [_, _, _, _], _ => rfl) rfl fun cdv A outer s H vs Q E ds d hr hd hR hq => ?_
  obtain ⟨ps, ord, kt, x, hps, ho, hk, rfl, hne, rfl⟩ := hR
  obtain ⟨v1, r, rfl, h1, hd2⟩ := dpa_cons hd
  obtain ⟨v2, r, rfl, h2, hd3⟩ := dpa_cons hd2
  obtain ⟨v3, r, rfl, h3, hd4⟩ := dpa_cons hd3
  obtain ⟨v4, r, rfl, h4, h5⟩ := dpa_cons hd4
  cases dpa_nil h5
  cases dp_int h4
  refine ⟨_, PSs.nox (pss_cons (ps_if (pt_cmpR (op_ninK K) (pv 3) (pv 2) (by with_unfolding_all rfl)) (pss_one (ps_ret (pe_tup (pa_cons pe_str pa_nil)))) pss_nil)
    (pss_cons (ps_set (i := 4) sc_law_gone.nd rfl (.inr rfl) (pe_c c_law_plans hr (by decide) rfl (pa_cons (pe_lc (own := [("_law_pair", 8)]) rfl sc_law_gone.nd  (k_tup K (pi_tup (pv 0))) (blkOk_by (N := N_law_gone) (sc := defScope HD.s_law_gone) (by decide +kernel)) (fun _ _ _ _ _ => (pg_name (i := 8) sc_law_gone.nd rfl (.inl rfl))) (fun _ _ _ _ _ => (pts_one (pt_cmpR (op_ninK K) (pv 3) (pv 8) (by with_unfolding_all rfl)))) (fun _ _ _ _ _ => (pv 8))) pa_nil)))
    (pss_cons (ps_set (i := 5) sc_law_gone.nd rfl (.inr rfl) (pe_lc (own := [("_law_one", 7)]) rfl sc_law_gone.nd  (k_tup K (pi_tup (pv 2))) (blkOk_by (N := N_law_gone) (sc := defScope HD.s_law_gone) (by decide +kernel)) (fun _ _ _ _ _ => (pg_name (i := 7) sc_law_gone.nd rfl (.inl rfl))) (fun _ _ _ _ _ => (pts_one (pt_cmpR op_ne (pv 7) (pv 3) (nomark _)))) (fun _ _ _ _ _ => (pv 7))))
    (pss_cons (ps_setLc (i := 6) (own := [("_law_one", 7)]) rfl sc_law_gone.nd rfl rfl (sw_true rfl rfl rfl (by decide +kernel)) (k_tup K (pi_tup (pv 1))) (blkOk_by (N := N_law_gone) (sc := defScope HD.s_law_gone) (by decide +kernel)) (fun _ _ _ _ _ => (pg_name (i := 7) sc_law_gone.nd rfl (.inl rfl))) (fun _ _ _ _ _ => (pts_one (PW.pt (pw_and (pt_cmpR (op_ninK K) (pv 7) (pv 2) (by with_unfolding_all rfl)) (pw_and1 (pt_val (pe_c c_law_can hr (by decide) rfl (pa_cons (pv 4) (pa_cons (pe_op op_cat (pv 5) (pe_lst (pa_cons (pv 7) pa_nil))) pa_nil))))))))) (fun _ _ _ _ _ => (pv 7)))
    (pss_cons (ps_if (pt_cmpR (op_neDK K hr) (pv 6) (pe_lst pa_nil) (nomark _)) (pss_one (ps_ret (pe_tup (pa_cons pe_str (pa_cons (pe_ix (ix_lstK K) (pv 6) pe_int (fun _ _ => rfl)) pa_nil))))) pss_nil)
    (pss_one (ps_ret (pe_tup (pa_cons pe_str (pa_cons (pe_ix (ix_lstK K) (pe_lc (own := [("_law_one", 7)]) rfl sc_law_gone.nd  (k_tup K (pi_tup (pv 1))) (blkOk_by (N := N_law_gone) (sc := defScope HD.s_law_gone) (by decide +kernel)) (fun _ _ _ _ _ => (pg_name (i := 7) sc_law_gone.nd rfl (.inr rfl))) (fun _ _ _ _ _ => (pts_one (PW.pt (pw_and (pt_cmpR (op_inK K) (pv 7) (pv 5) (by with_unfolding_all rfl)) (pw_and1 (pt_val (pe_c c_law_can hr (by decide) rfl (pa_cons (pv 4) (pa_cons (pe_lc (own := [("_law_other", 9)]) rfl sc_law_gone.nd  (k_list K (pi_list (pv 5))) (blkIn (by rfl)) (fun _ _ _ _ _ => (pg_name (i := 9) sc_law_gone.nd rfl (.inl rfl))) (fun _ _ _ _ _ => (pts_one (pt_cmpR op_ne (pv 9) (pv 7) (nomark _)))) (fun _ _ _ _ _ => (pv 9))) pa_nil))))))))) (fun _ _ _ _ _ => (pv 7))) (pe_un un_neg pe_int) (fun _ _ => rfl)) pa_nil)))))))))), ?_⟩
  refine q_ifE (b := !decide (x ∈ kt)) (et_test (ev_inN (neg := true) (evd_int (ev_var rfl)) (evd_var rfl h3))) (fun hb H1 e1 => ?_) fun hb H1 e1 => ?_
  · have : x ∉ kt := by simpa using hb
    rw [lgoneD, if_pos this] at hq
    exact s_retQ (evd_tup (eda_cons (evd_str ev_c) eda_nil) (by show 1 ≤ 100000; decide)) hq e1
  have hin : x ∈ kt := by simpa using hb
  rw [lgoneD, if_neg (not_not_intro hin)] at hq
  have hoff : (offP ps x).length ≤ 22 := Nat.le_trans (List.length_filter_le _ _) hps
  have hpl := plans_small hoff
  have hplm : ∀ pl ∈ plansOf (offP ps x), pl.length ≤ 1000 := fun pl h => Nat.le_trans (plansOf_sub h).length_le (by omega)
  refine q_asgP (evd_callR (ds := [.list ((offP ps x).map dP)]) (eda_cons (evn_d (evnl_lc (p := fun e : Pr => !decide (x ∈ [e.1, e.2])) (d := dP) (IvE.of_map (iv_tup (evd_var rfl (dp_mono e1 h1)))) (sz_of (by omega)) tupD_P fun e y H2 he ex hx => ?_)) eda_nil) rfl ⟨offP ps x, hoff, .inr rfl, rfl⟩) fun pv H2 e2 hpv => ?_
  · exact ⟨_, fun Q q => q, rfl, et_test (ev_inN (neg := true) (n := x) (l := [e.1, e.2]) (evd_int (ev_var rfl)) (evd_var rfl hx)), fun _ => evd_var rfl hx⟩
  have e12 := e1.trans e2
  have hrl : (restL kt x).length ≤ 1000 := Nat.le_trans (List.length_filter_le _ _) hk
  refine q_asgNl (K := K) (ds := (restL kt x).map dN) (evnl_lc (p := fun v : Nat => !decide (v = x)) (d := dN) (IvE.of_map (iv_tup (evd_var rfl (dp_mono e12 h3)))) (sz_of (by omega)) tupD_N fun y z H3 hy ey hz => ?_) fun rp ys H3 hrp e3 hH3 hd3 => ?_
  · exact ⟨_, fun Q q => q, rfl, et_test (ev_neN (n := y) (m := x) (ev_int (evd_var rfl hz)) (ev_var rfl)), fun _ => evd_var rfl hz⟩
  rw [dpa_N hd3] at hH3
  have e13 := e12.trans e3
  have hpv3 := dp_mono e3 hpv
  have hrd : ∀ {H4 : Hp}, Ex H3 H4 → Dp K H4 (.ref rp) (.list ((restL kt x).map dN)) := fun e => .lst (sq_of (e _ _ hH3)) (N_dpa _)
  refine q_asgNl (K := K) (ds := (someL ps ord kt x).map dN) (evnl_lc (p := fun v : Nat => !decide (v ∈ kt) && canB (plansOf (offP ps x)) (restL kt x ++ [v])) (d := dN) (IvE.of_map (iv_tup (evd_var rfl (dp_mono e13 h2)))) (sz_of (by omega)) tupD_N fun y z H4 hy ey hz => ?_) fun sp ys4 H4 hsp e4 hH4 hd4 => ?_
  · refine ⟨_, fun Q q => q, rfl, et_and (et_test (ev_inN (neg := true) (evd_var rfl hz) (evd_var rfl (dp_mono (e13.trans ey) h3)))) fun _ => et_B (ev_bl (evd_callR (ds := [.list ((plansOf (offP ps x)).map dPs), .list ((restL kt x ++ [y]).map dN)]) (eda_cons (evd_var rfl (dp_mono ey hpv3)) (eda_cons (evn_d (EvN.data (evn_catV (ds := (restL kt x).map dN) (es := [dN y]) (ev_var rfl) (ey _ _ hH3) (N_dpa _) (evn_lst (eda_cons (evd_var rfl hz) eda_nil) (by show 1 ≤ 100000; decide)) ?_) (by rw [List.map_append]; rfl))) eda_nil)) rfl ⟨_, _, hpl, hplm, by simp; omega, rfl, rfl⟩)), fun _ => evd_var rfl hz⟩
    refine Nat.le_trans ?_ (show 100000 ≤ sizeLine by decide)
    simp; omega
  rw [dpa_N hd4] at hH4
  have e14 := e13.trans e4
  have hsd : ∀ {H5 : Hp}, Ex H4 H5 → Dp K H5 (.ref sp) (.list ((someL ps ord kt x).map dN)) := fun e => .lst (sq_of (e _ _ hH4)) (N_dpa _)
  refine q_ifE (b := !decide (someL ps ord kt x = [])) (et_test (ev_is (ev_neD (d := .list ((someL ps ord kt x).map dN)) (e := .list []) (evd_of (ev_var rfl) fun H5 e5 => hsd e5) (evn_d (evn_lst eda_nil (by decide))) (shaped_lst (by decide) canLay_N depth_N _) rfl) (by rw [nil_eqvL]))) (fun hbb H5 e5 => ?_) fun hbb H5 e5 => ?_
  · have hs : someL ps ord kt x ≠ [] := by simpa using hbb
    rw [if_pos hs] at hq
    exact s_retQ (evd_tup (eda_cons (evd_str ev_c) (eda_cons (evd_ixL (i := 0) (evd_var rfl (hsd e5)) ev_c (head_at (List.length_pos_iff.mpr hs))) eda_nil)) (by show 2 ≤ 100000; decide)) hq (e14.trans e5)
  · have hs : someL ps ord kt x = [] := by simpa using hbb
    rw [if_neg (not_not_intro hs)] at hq
    have hl := hne hin hs
    have e45 := e4.trans e5
    have e15 := e14.trans e5
    refine s_retQ (evd_tup (eda_cons (evd_str ev_c) (eda_cons (evd_lastL (ds := (lastL ps ord kt x).map dN) (evn_d (evnl_lc (p := fun v : Nat => decide (v ∈ restL kt x) && canB (plansOf (offP ps x)) ((restL kt x).filter fun u => !decide (u = v))) (d := dN) (IvE.of_map (iv_tup (evd_var rfl (dp_mono e15 h2)))) (sz_of (by omega)) tupD_N fun y z H6 hy ey hz => ?_)) ev_neg1 ?_) eda_nil)) (by show 2 ≤ 100000; decide)) hq e15
    · refine ⟨_, fun Q q => q, rfl, et_and (et_test (ev_inNl (neg := false) (evd_var rfl hz) (evd_var rfl (hrd (e45.trans ey))))) fun _ => et_B (ev_bl (evd_callR (ds := [.list ((plansOf (offP ps x)).map dPs), .list (((restL kt x).filter fun u => !decide (u = y)).map dN)]) (eda_cons (evd_var rfl (dp_mono (e45.trans ey) hpv3)) (eda_cons (evn_d (evnl_lc (p := fun u : Nat => !decide (u = y)) (d := dN) (IvE.of_map (iv_lst (evd_var rfl (hrd (e45.trans ey))))) (sz_of (by omega)) tupD_N fun u a H7 hu eu ha => ?_)) eda_nil)) rfl ⟨_, _, hpl, hplm, Nat.le_trans (List.length_filter_le _ _) (by omega), rfl, rfl⟩)), fun _ => evd_var rfl hz⟩
      cases dp_int hz
      exact ⟨_, fun Q q => q, rfl, et_test (ev_neN (n := u) (m := y) (ev_int (evd_var rfl ha)) (ev_var rfl)), fun _ => evd_var rfl ha⟩
    · rw [List.length_map, List.getElem?_map, ← List.getLast?_eq_getElem?]
      obtain ⟨y, hy⟩ := Option.isSome_iff_exists.mp (List.getLast?_isSome.mpr hl)
      rw [List.getLastD_eq_getLast?, hy]; rfl
end
end WK
/-! ### W14 -/
set_option Elab.async false
set_option linter.all false
set_option maxRecDepth 100000
set_option maxHeartbeats 4000000
/-! the deal -/
namespace WK
open PySem PySem.Spec PyProof.Rows L2 Evl DX DL KM C8
abbrev N_law_draw : List Str := ["_law_script", "_law_salt", "_law_cells", "_law_blend", "_law_cell"]
theorem sc_law_draw : FnScope N_law_draw ["_law_script", "_law_salt"] (defScope HD.s_law_draw) := ⟨rfl, rfl, rfl, by decide +kernel, rfl, by decide +kernel, by decide +kernel⟩
abbrev N_law_any : List Str := ["_law_deal", "_law_bound", "_law_rest"]
theorem sc_law_any : FnScope N_law_any ["_law_deal", "_law_bound"] (defScope HD.s_law_any) := ⟨rfl, rfl, rfl, by decide +kernel, rfl, by decide +kernel, by decide +kernel⟩
abbrev N_law_of : List Str := ["_law_deal", "_law_some"]
theorem sc_law_of : FnScope N_law_of ["_law_deal", "_law_some"] (defScope HD.s_law_of) := ⟨rfl, rfl, rfl, by decide +kernel, rfl, by decide +kernel, by decide +kernel⟩
abbrev N_law_mixed : List Str := ["_law_deal", "_law_some", "_law_left", "_law_found"]
theorem sc_law_mixed : FnScope N_law_mixed ["_law_deal", "_law_some"] (defScope HD.s_law_mixed) := ⟨rfl, rfl, rfl, by decide +kernel, rfl, by decide +kernel, by decide +kernel⟩
theorem erase_perm : ∀ (l : List Nat) (r : Nat) (h : r < l.length), (l[r] :: l.eraseIdx r).Perm l
  | a :: l, 0, h => List.Perm.refl _
  | a :: l, r + 1, h => by
    have hr : r < l.length := by simpa using h
    have := erase_perm l r hr
    show (l[r]'hr :: a :: l.eraseIdx r).Perm (a :: l)
    exact (List.Perm.swap _ _ _).trans (this.cons a)
theorem erase_map : ∀ (l : List Nat) (r : Nat), (l.map vN).eraseIdx r = (l.eraseIdx r).map vN
  | [], r => by simp
  | a :: l, 0 => rfl
  | a :: l, r + 1 => by
    show vN a :: (l.map vN).eraseIdx r = vN a :: (l.eraseIdx r).map vN
    rw [erase_map l r]
structure Deal (p q : Addr) (H : Hp) : Prop where
  ne : p ≠ q
  ex : ∃ (xs : List Int) (b : Int), H p = some (.lst [.ref q, .int b]) ∧ H q = some (.lst (xs.map V.int)) ∧ xs.length ≤ 48
theorem Deal.mono {p q : Addr} {H H' : Hp} (d : Deal p q H) (e : Ex H H') : Deal p q H' := by
  obtain ⟨n, xs, b, h1, h2, h3⟩ := d
  exact ⟨n, xs, b, e _ _ h1, e _ _ h2, h3⟩
/-- all but the deal stands -/
def FrD (p q : Addr) (H H' : Hp) : Prop := ∀ a o, a ≠ p → a ≠ q → H a = some o → H' a = some o
theorem FrD.refl (p q : Addr) (H : Hp) : FrD p q H H := fun _ _ _ _ h => h
theorem FrD.trans {p q : Addr} {H H1 H2 : Hp} (a : FrD p q H H1) (b : FrD p q H1 H2) : FrD p q H H2 := fun x o n1 n2 h => b x o n1 n2 (a x o n1 n2 h)
theorem Ex.toD {p q : Addr} {H H' : Hp} (e : Ex H H') : FrD p q H H' := fun a o _ _ h => e a o h
theorem FrD.putp {p q : Addr} {H : Hp} {o : HO} : FrD p q H (upd H p o) := fun a u n1 _ h => by rw [upd_ne n1]; exact h
theorem FrD.putq {p q : Addr} {H : Hp} {o : HO} : FrD p q H (upd H q o) := fun a u _ n2 h => by rw [upd_ne n2]; exact h
theorem FrD.toT {p q : Addr} {H H' : Hp} (h : FrD p q H H') (d : Deal p q H) : ExT H H' := fun a o n e => by
  obtain ⟨_, xs, b, h1, h2, _⟩ := d
  refine h a o (fun z => ?_) (fun z => ?_) e
  · rw [z, h1] at e; cases e; exact n _ rfl
  · rw [z, h2] at e; cases e; exact n _ rfl
theorem Deal.mk' {p q : Addr} {H : Hp} {xs : List Int} {b : Int} (n : p ≠ q) (h1 : H p = some (.lst [.ref q, .int b])) (h2 : H q = some (.lst (xs.map V.int))) (h3 : xs.length ≤ 48) : Deal p q H := ⟨n, xs, b, h1, h2, h3⟩
section
variable {P : Program} {w : World} {K : PySem.W.Frag} {mg : Str → Option Value} {base : Heap} {f : Addr} {fd : FuncData}
variable (B : BI mg)
include B
def spAny (K : PySem.W.Frag) : Sp := fun vs H Q _ => ∃ (p q : Addr) (m : Nat), vs = [.ref p, vN m] ∧ 0 < m ∧ m ≤ 1000 ∧ Deal p q H ∧ ∀ (r : Nat) H', r < m → FrD p q H H' → Deal p q H' → Q (vN r) H'
omit B in
theorem shaped_ints (xs : List Int) : SeqAt.shaped (.list (xs.map PyData.int)) = true := shaped_lst (k := 0) (by decide) (fun a => by simp [PyData.canLay0]) (fun a => by simp [PyData.depth]) xs
omit B in
theorem ints_dpa {H : Hp} (xs : List Int) : DpAll K H (xs.map V.int) (xs.map PyData.int) := val_dpa (fun a => .int _) xs
omit B in
theorem mod_nat {i : Int} {m : Nat} (h : 0 < m) : ∃ r : Nat, r < m ∧ i % (m : Int) = (r : Int) := by
  have h1 := Int.emod_nonneg i (b := (m : Int)) (by omega)
  have h2 := Int.emod_lt_of_pos i (b := (m : Int)) (by omega)
  exact ⟨(i % (m : Int)).toNat, by omega, by omega⟩
theorem ok_any (F : FnP K "_law_any" "_law_any" HD.s_law_any f fd) (hm : mg "_law_any" = some (.ref f)) : C8.Cal P w K mg base 1 "_law_any" (spAny K) [] := by
  refine calD F hm sc_law_any (F.bindsN fun _ _ _ _ _ _ us hl => match us, hl with | [_, _], _ => rfl) (fun vs H Q E h => ?_) fun cdv Ar outer s H vs Q Ek hr h => ?_
  · obtain ⟨p, q, m, rfl, _⟩ := h; rfl
  obtain ⟨p, q, m, rfl, hm0, hm1, ⟨hpq, xs0, b0, hp0, hq0, hl0⟩, hq⟩ := h
  refine ⟨_, PSs.nox (pss_cons (ps_while PassesOwn.never (PW.pt (pw_and (pt_cmpR (op_neDK K hr) (pe_ix (ix_lstK K) (pv 0) pe_int (fun _ _ => rfl)) (pe_lst pa_nil) (nomark _)) (pw_and1 (pt_cmpR op_eq (pe_ix (ix_lstK K) (pe_ix (ix_lstK K) (pv 0) pe_int (fun _ _ => rfl)) (pe_un un_neg pe_int) (fun _ _ => rfl)) pe_int (nomark _))))) (pss_one (ps_expr (k_bm0 K (pe_bm0 PySem.F.plainAttrs_list PySem.F.slot_list_pop PySem.F.type_list_pop mt_pop (pe_ix (ix_lstK K) (pv 0) pe_int (fun _ _ => rfl)))))))
    (pss_cons (ps_if (pt_cmpR (op_neDK K hr) (pe_ix (ix_lstK K) (pv 0) pe_int (fun _ _ => rfl)) (pe_lst pa_nil) (nomark _)) (pss_cons (ps_set (i := 2) sc_law_any.nd rfl (.inl rfl) (pe_callTy cr_int1 rfl B.int (by decide +kernel) (pa_cons (k_bm0 K (pe_bm0 PySem.F.plainAttrs_list PySem.F.slot_list_pop PySem.F.type_list_pop mt_pop (pe_ix (ix_lstK K) (pv 0) pe_int (fun _ _ => rfl)))) pa_nil)))
    (pss_cons (ps_expr (k_bm K (pe_bm PySem.F.plainAttrs_list PySem.F.slot_list_append PySem.F.type_list_append mt_append (pe_ix (ix_lstK K) (pv 0) pe_int (fun _ _ => rfl)) (pa_cons (pe_op op_fdiv (pv 2) (pv 1)) pa_nil))))
    (pss_one (ps_ret (pe_op op_mod (pv 2) (pv 1)))))) pss_nil)
    (pss_cons (ps_asg (pe_op op_mod (pe_callTy cr_int1 rfl B.int (by decide +kernel) (pa_cons (pe_op op_add (pe_op op_mul (pe_ix (ix_lstK K) (pv 0) pe_int (fun _ _ => rfl)) pe_int) pe_int) pa_nil)) pe_int) (pg_sub (pv 0) pe_int set_list))
    (pss_one (ps_ret (pe_op op_mod (pe_callTy cr_int1 rfl B.int (by decide +kernel) (pa_cons (pe_op op_fdiv (pe_ix (ix_lstK K) (pv 0) pe_int (fun _ _ => rfl)) pe_int) pa_nil)) (pv 1))))))), ?_⟩
  have d0 : ∀ {H1 : Hp} {σ : L2.St} {b : Int}, σ[0]? = some (some (.ref p)) → H1 p = some (.lst [.ref q, .int b]) → Ev (tOp (rIxL K) (tVar 0) (tC (.int 0))) σ H1 (.ref q) := fun hσ h => ev_op (ev_var hσ) ev_c (rv_ixL (i := 0) (sq_of h) rfl)
  have isn : ∀ {H1 : Hp} {σ : L2.St} {b : Int} {xs : List Int}, σ[0]? = some (some (.ref p)) → H1 p = some (.lst [.ref q, .int b]) → H1 q = some (.lst (xs.map V.int)) → EvT (tTest (tOp (rNeD K) (tOp (rIxL K) (tVar 0) (tC (.int 0))) (tLst tNil))) σ H1 (!decide (xs = [])) := fun {H1 σ b xs} hσ h1 h2 =>
    et_test (ev_is (ev_neD (d := .list (xs.map PyData.int)) (e := .list []) (evd_of (d0 hσ h1) fun H2 e2 => .lst (sq_of (e2 _ _ h2)) (ints_dpa xs)) (evn_d (evn_lst eda_nil (by decide))) (shaped_ints xs) rfl) (by cases xs <;> simp [PyData.eqv, PyData.eqvAll]))
  refine q_while (fun k σ' H' => σ' = [some (.ref p), some (vN m), none] ∧ ∃ xs : List Int, k = xs.length ∧ H' p = some (.lst [.ref q, .int b0]) ∧ H' q = some (.lst (xs.map V.int)) ∧ xs.length ≤ 48 ∧ FrD p q H H') xs0.length ⟨rfl, xs0, rfl, hp0, hq0, hl0, FrD.refl _ _ _⟩ ?_
  rintro k σ' H' ⟨rfl, xs, rfl, hp1, hq1, hl1, hf1⟩
  refine ⟨!decide (xs = []) && decide (xs.getLastD 1 = 0), et_and (isn rfl hp1 hq1) (fun hne => ?_), fun hb H2 e2 => ?_, fun hb H2 e2 => ?_⟩
  · have hx : xs ≠ [] := by simpa using hne
    have hxl : (xs.map V.int)[(xs.map V.int).length - 1]? = some (.int (xs.getLastD 1)) := by
      rw [List.length_map, List.getElem?_map, ← List.getLast?_eq_getElem?, List.getLastD_eq_getLast?]
      obtain ⟨y, hy⟩ := Option.isSome_iff_exists.mp (List.getLast?_isSome.mpr hx)
      rw [hy]; rfl
    refine et_test (ev_is (ev_op (ev_op (d0 rfl hp1) ev_neg1 (rv_ixL (sq_of hq1) (atI_last1 hxl))) ev_c (rv_eq rfl)) ?_)
    congr 1
    rw [Bool.eq_iff_iff]; simp
  · have hx : xs ≠ [] := by
      intro e
      rw [e] at hb
      cases hb
    have hp2 := e2 _ _ hp1
    have hq2 := e2 _ _ hq1
    obtain ⟨y, hy⟩ := Option.isSome_iff_exists.mp (List.getLast?_isSome.mpr hx)
    refine ⟨fun σ2 H3 => σ2 = [some (.ref p), some (vN m), none] ∧ ∃ ys : List Int, ys.length < xs.length ∧ H3 p = some (.lst [.ref q, .int b0]) ∧ H3 q = some (.lst (ys.map V.int)) ∧ FrD p q H H3, ?_, ?_⟩
    · rintro σ2 H3 ⟨rfl, ys, h1, h2, h3, h4⟩
      exact ⟨ys.length, h1, rfl, ys, rfl, h2, h3, by omega, h4⟩
    · refine d0 (σ := [some (.ref p), some (vN m), none]) rfl hp2 H2 (Ex.refl _) _ fun H3 e3 => ⟨.inl ⟨rfl, _, sq_of (e3 _ _ hq2)⟩, q, xs.map V.int, .int y, rfl, rfl, e3 _ _ hq2, ?_, rfl, xs.dropLast, ?_, ?_, ?_, ?_⟩
      · rw [List.length_map, List.getElem?_map, ← List.getLast?_eq_getElem?, hy]; rfl
      · have := List.length_pos_iff.mpr hx
        rw [List.length_dropLast]; omega
      · rw [upd_ne hpq]; exact e3 _ _ hp2
      · rw [upd_same, List.map_dropLast]
      · exact (hf1.trans (Ex.toD (e2.trans e3))).trans FrD.putq
  · have hp2 := e2 _ _ hp1
    have hq2 := e2 _ _ hq1
    have hf2 := hf1.trans (Ex.toD (p := p) (q := q) e2)
    refine q_ifE (b := !decide (xs = [])) (isn rfl hp2 hq2) (fun hne H3 e3 => ?_) fun hne H3 e3 => ?_
    · have hx : xs ≠ [] := by simpa using hne
      have hp3 := e3 _ _ hp2
      have hq3 := e3 _ _ hq2
      obtain ⟨y, hy⟩ := Option.isSome_iff_exists.mp (List.getLast?_isSome.mpr hx)
      refine d0 (σ := [some (.ref p), some (vN m), none]) rfl hp3 H3 (Ex.refl _) _ fun H4 e4 => ⟨.inl ⟨rfl, _, sq_of (e4 _ _ hq3)⟩, q, xs.map V.int, .int y, rfl, rfl, e4 _ _ hq3, ?_, .inl ⟨y, rfl, ?_⟩⟩
      · rw [List.length_map, List.getElem?_map, ← List.getLast?_eq_getElem?, hy]; rfl
      have hp5 : (upd H4 q (.lst (xs.map V.int).dropLast)) p = some (.lst [.ref q, .int b0]) := by rw [upd_ne hpq]; exact e4 _ _ hp3
      have hq5 : (upd H4 q (.lst (xs.map V.int).dropLast)) q = some (.lst (xs.dropLast.map V.int)) := by rw [upd_same, List.map_dropLast]
      have hf5 : FrD p q H (upd H4 q (.lst (xs.map V.int).dropLast)) := (hf2.trans (Ex.toD (e3.trans e4))).trans FrD.putq
      generalize upd H4 q (.lst (xs.map V.int).dropLast) = H5 at *
      dsimp only
      refine q_app hq5 (d0 rfl hp5) (ev_op (ev_var (v := .int y) rfl) (ev_var (v := vN m) rfl) (rv_I (C := CDiv) (g := fun i j => .int (i / j)) ⟨by omega, by omega⟩)) (by rw [List.length_map, List.length_dropLast]; omega) fun H6 e6 => ?_
      obtain ⟨r, hr1, hr2⟩ := mod_nat (i := y) hm0
      refine s_ret (v := vN r) (ev_is (ev_op (ev_var (v := .int y) rfl) (ev_var (v := vN m) rfl) (rv_I (C := fun _ j => 0 < j) (g := fun i j => .int (i % j)) (by omega))) (by rw [hr2])) fun H7 e7 => hq r H7 hr1 ?_ ?_
      · exact ((hf5.trans (Ex.toD e6)).trans FrD.putq).trans (Ex.toD e7)
      · refine Deal.mono (Deal.mk' (xs := xs.dropLast ++ [y / (m : Int)]) hpq ((upd_ne hpq).trans (e6 _ _ hp5)) (upd_same.trans ?_) ?_) e7
        · rw [List.map_append]; rfl
        · have := List.length_pos_iff.mpr hx
          simp; omega
    · have hx : xs = [] := by simpa using hne
      have hp3 := e3 _ _ hp2
      have hq3 := e3 _ _ hq2
      have d1 : ∀ {H1 : Hp} {σ : L2.St} {b : Int}, σ[0]? = some (some (.ref p)) → H1 p = some (.lst [.ref q, .int b]) → Ev (tOp (rIxL K) (tVar 0) (tC (.int 1))) σ H1 (.int b) := fun hσ h => ev_op (ev_var hσ) ev_c (rv_ixL (i := 1) (sq_of h) rfl)
      refine q_setL (l := p) (j := 1) hp3 (ev_op (ev_cb (ea_cons (ev_op (ev_op (d1 rfl hp3) ev_c (rv_I (C := CMul) (g := fun i j => .int (i * j)) (.inr ⟨by decide, by decide⟩))) ev_c rv_I0) ea_nil) (z := .int _) fun H1 _ Q q => .inl ⟨_, rfl, q H1 (Ex.refl _)⟩) ev_c (rv_I (C := fun _ j => 0 < j) (g := fun i j => .int (i % j)) (by decide))) (ev_var rfl) ev_c (by show 1 < 2; decide) fun H4 e4 => ?_
      generalize hb1 : (b0 * 40693 + 71) % 2147483647 = b1
      have hp5 : (upd H4 p (.lst ([V.ref q, .int b0].set 1 (.int b1)))) p = some (.lst [.ref q, .int b1]) := upd_same
      have hq5 : (upd H4 p (.lst ([V.ref q, .int b0].set 1 (.int b1)))) q = some (.lst (xs.map V.int)) := (upd_ne (Ne.symm hpq)).trans (e4 _ _ hq3)
      have hf5 : FrD p q H (upd H4 p (.lst ([V.ref q, .int b0].set 1 (.int b1)))) := (hf2.trans (Ex.toD (e3.trans e4))).trans FrD.putp
      generalize upd H4 p (.lst ([V.ref q, .int b0].set 1 (.int b1))) = H5 at *
      obtain ⟨r, hr1, hr2⟩ := mod_nat (i := b1 / 64) hm0
      refine s_ret (v := vN r) (ev_is (ev_op (ev_cb (ea_cons (ev_op (d1 rfl hp5) ev_c (rv_I (C := CDiv) (g := fun i j => .int (i / j)) ⟨by decide, by decide⟩)) ea_nil) (z := .int (b1 / 64)) fun H1 _ Q q => .inl ⟨_, rfl, q H1 (Ex.refl _)⟩) (ev_var (v := vN m) rfl) (rv_I (C := fun _ j => 0 < j) (g := fun i j => .int (i % j)) (by omega))) (by rw [hr2])) fun H7 e7 => hq r H7 hr1 (hf5.trans (Ex.toD e7)) ((Deal.mk' hpq hp5 hq5 hl1).mono e7)
def spOf (K : PySem.W.Frag) : Sp := fun vs H Q _ => ∃ (p q s : Addr) (l : List Nat), vs = [.ref p, .ref s] ∧ l ≠ [] ∧ l.length ≤ 1000 ∧ s ≠ p ∧ s ≠ q ∧ H s = some (.lst (l.map vN)) ∧ Deal p q H ∧ ∀ (r : Nat) H', r ∈ l → FrD p q H H' → Deal p q H' → Q (vN r) H'
theorem ok_of (F : FnP K "_law_of" "_law_of" HD.s_law_of f fd) (hm : mg "_law_of" = some (.ref f)) (c_law_any : C8.Cal P w K mg base 1 "_law_any" (spAny K) []) : C8.Cal P w K mg base 2 "_law_of" (spOf K) [] := by
  refine calD F hm sc_law_of (F.bindsN fun _ _ _ _ _ _ us hl => match us, hl with | [_, _], _ => rfl) (fun vs H Q E h => ?_) fun cdv Ar outer st H vs Q Ek hr h => ?_
  · obtain ⟨p, q, s, l, rfl, _⟩ := h; rfl
  obtain ⟨p, q, s, l, rfl, hl0, hl1, hsp, hsq, hs, hd, hq⟩ := h
  refine ⟨_, PSs.nox (pss_one (ps_ret (pe_ix (ix_lstK K) (pv 1) (pe_c c_law_any hr (by decide) rfl (pa_cons (pv 0) (pa_cons (pe_callB (cr_lenK K) rfl B.len (by decide +kernel) (pa_cons (pv 1) pa_nil)) pa_nil))) (fun _ _ => rfl)))), ?_⟩
  have hpos := List.length_pos_iff.mpr hl0
  refine ⟨_, rfl, _, rfl, (ev_is (ev_len (σ := [some (.ref p), some (.ref s)]) (K := K) (ta := tVar 1) (ev_var rfl) (sq_of hs)) (by rw [List.length_map]) : Ev _ _ _ (vN l.length)) H (Ex.refl _) _ fun H1 e1 => ⟨p, q, l.length, rfl, hpos, hl1, hd.mono e1, fun r H2 hr2 hf hd2 => ?_⟩⟩
  have hs2 : H2 s = some (.lst (l.map vN)) := hf s _ hsp hsq (e1 _ _ hs)
  exact ⟨s, l.map vN, (r : Int), vN l[r], rfl, rfl, sq_of hs2, atI_nn (by rw [List.getElem?_map, List.getElem?_eq_getElem hr2]; rfl), hq l[r] H2 (List.getElem_mem hr2) ((Ex.toD e1).trans hf) hd2⟩
def spMixed (K : PySem.W.Frag) : Sp := fun vs H Q _ => ∃ (p q s : Addr) (l : List Nat), vs = [.ref p, .ref s] ∧ l.length ≤ 1000 ∧ s ≠ p ∧ s ≠ q ∧ H s = some (.lst (l.map vN)) ∧ Deal p q H ∧
  ∀ (r : Addr) (l' : List Nat) H', l'.Perm l → H r = none → FrD p q H H' → Deal p q H' → H' r = some (.lst (l'.map vN)) → Q (.ref r) H'
theorem ok_mixed (F : FnP K "_law_mixed" "_law_mixed" HD.s_law_mixed f fd) (hm : mg "_law_mixed" = some (.ref f)) (c_law_any : C8.Cal P w K mg base 1 "_law_any" (spAny K) []) : C8.Cal P w K mg base 2 "_law_mixed" (spMixed K) [] := by
  refine calD F hm sc_law_mixed (F.bindsN fun _ _ _ _ _ _ us hl => match us, hl with | [_, _], _ => rfl) (fun vs H Q E h => ?_) fun cdv Ar outer st H vs Q Ek hr h => ?_
  · obtain ⟨p, q, s, l, rfl, _⟩ := h; rfl
  obtain ⟨p, q, s, l, rfl, hl1, hsp, hsq, hs, hd, hq⟩ := h
  refine ⟨_, PSs.nox (pss_cons (ps_par (i := 2) (j := 3) rfl sc_law_mixed.nd rfl rfl (by decide) rfl rfl (pa_cons (pe_callTy (cr_lstK K) rfl B.list (by decide +kernel) (pa_cons (pv 1) pa_nil)) (pa_cons (pe_lst pa_nil) pa_nil)) (by rfl))
    (pss_cons (ps_while PassesOwn.never (pt_cmpR (op_neDK K hr) (pv 2) (pe_lst pa_nil) (nomark _)) (pss_one (ps_expr (k_bm K (pe_bm PySem.F.plainAttrs_list PySem.F.slot_list_append PySem.F.type_list_append mt_append (pv 3) (pa_cons (k_bm K (pe_bm PySem.F.plainAttrs_list PySem.F.slot_list_pop PySem.F.type_list_pop mt_popAt (pv 2) (pa_cons (pe_c c_law_any hr (by decide) rfl (pa_cons (pv 0) (pa_cons (pe_callB (cr_lenK K) rfl B.len (by decide +kernel) (pa_cons (pv 2) pa_nil)) pa_nil))) pa_nil))) pa_nil))))))
    (pss_one (ps_ret (pv 3))))), ?_⟩
  refine ⟨_, rfl, s, l.map vN, rfl, .inl (sq_of hs), fun lf hlf => ⟨by show 0 ≤ sizeLine; decide, fun fo hfo => ⟨.ref lf, .ref fo, rfl, ?_⟩⟩⟩
  have n1 : ∀ {a : Addr} {H1 : Hp}, Deal p q H1 → H1 a = none → a ≠ p ∧ a ≠ q := fun {a H1} d h => by
    obtain ⟨_, xs, b, h1, h2, _⟩ := d
    exact ⟨(ne_of_none h1 h).symm, (ne_of_none h2 h).symm⟩
  have dl := hd.mono (Ex.new (o := .lst (l.map vN)) hlf)
  have nlf := n1 hd hlf
  have nfo := n1 dl hfo
  have nfl : fo ≠ lf := fun e => by rw [e, upd_same] at hfo; cases hfo
  have hfoH : H fo = none := fresh_back (Ex.new hlf) hfo
  have d2 := dl.mono (Ex.new (o := .lst []) hfo)
  have e02 : Ex H (upd (upd H lf (.lst (l.map vN))) fo (.lst [])) := (Ex.new hlf).trans (Ex.new hfo)
  have hl2 : (upd (upd H lf (.lst (l.map vN))) fo (.lst [])) lf = some (.lst (l.map vN)) := (upd_ne (Ne.symm nfl)).trans upd_same
  have hf2 : (upd (upd H lf (.lst (l.map vN))) fo (.lst [])) fo = some (.lst ([].map vN)) := upd_same
  generalize upd (upd H lf (.lst (l.map vN))) fo (.lst []) = H2 at *
  dsimp only
  refine q_while (fun k σ' H' => σ' = [some (.ref p), some (.ref s), some (.ref lf), some (.ref fo)] ∧ ∃ a b : List Nat, k = a.length ∧ (b ++ a).Perm l ∧ H' lf = some (.lst (a.map vN)) ∧ H' fo = some (.lst (b.map vN)) ∧ Deal p q H' ∧ ∀ c o, c ≠ p → c ≠ q → H c = some o → H' c = some o) l.length
    ⟨rfl, l, [], rfl, by simp, hl2, hf2, d2, fun c o _ _ h => e02 _ _ h⟩ ?_
  rintro k σ' H' ⟨rfl, a, b, rfl, hper, hla, hfb, hd', hfr⟩
  have hlen : b.length + a.length = l.length := by rw [← List.length_append]; exact hper.length_eq
  refine ⟨!decide (a = []), et_test (ev_is (ev_neD (d := .list (a.map dN)) (e := .list []) (evd_of (ev_var rfl) fun H5 e5 => .lst (sq_of (e5 _ _ hla)) (N_dpa _)) (evn_d (evn_lst eda_nil (by decide))) (shaped_lst (by decide) canLay_N depth_N _) rfl) (by rw [nil_eqvL])), fun hb H3 e3 => ?_, fun hb H3 e3 => ?_⟩
  · have ha : a ≠ [] := by simpa using hb
    have hpos := List.length_pos_iff.mpr ha
    have hla3 := e3 _ _ hla
    have hfb3 := e3 _ _ hfb
    refine ⟨fun σ2 H4 => σ2 = [some (.ref p), some (.ref s), some (.ref lf), some (.ref fo)] ∧ ∃ a2 b2 : List Nat, a2.length < a.length ∧ (b2 ++ a2).Perm l ∧ H4 lf = some (.lst (a2.map vN)) ∧ H4 fo = some (.lst (b2.map vN)) ∧ Deal p q H4 ∧ ∀ c o, c ≠ p → c ≠ q → H c = some o → H4 c = some o, ?_, ?_⟩
    · rintro σ2 H4 ⟨rfl, a2, b2, h1, h2, h3, h4, h5, h6⟩
      exact ⟨a2.length, h1, rfl, a2, b2, rfl, h2, h3, h4, h5, h6⟩
    · refine ⟨_, rfl, .inl ⟨rfl, _, sq_of hfb3⟩, _, rfl, .inl ⟨rfl, _, sq_of hla3⟩, _, rfl, (ev_is (ev_len (σ := [some (.ref p), some (.ref s), some (.ref lf), some (.ref fo)]) (K := K) (ta := tVar 2) (ev_var rfl) (sq_of hla3)) (by rw [List.length_map]) : Ev _ _ _ (vN a.length)) H3 (Ex.refl _) _ fun H4 e4 => ⟨p, q, a.length, rfl, hpos, by omega, (hd'.mono e3).mono e4, fun r H5 hr5 hf5 hd5 => ?_⟩⟩
      have hla5 : H5 lf = some (.lst (a.map vN)) := hf5 _ _ nlf.1 nlf.2 (e4 _ _ hla3)
      have hfb5 : H5 fo = some (.lst (b.map vN)) := hf5 _ _ nfo.1 nfo.2 (e4 _ _ hfb3)
      refine ⟨lf, a.map vN, (r : Int), r, vN a[r], rfl, rfl, hla5, by omega, by omega, ?_, by rw [List.getElem?_map, List.getElem?_eq_getElem hr5]; rfl, fo, b.map vN, vN a[r], rfl, rfl, (upd_ne nfl).trans hfb5, ?_, rfl, a.eraseIdx r, b ++ [a[r]], ?_, ?_, ?_, ?_, ?_, ?_⟩
      · unfold seqIndex?
        rw [List.length_map]
        have h1 : ¬ ((r : Int) < 0) := by omega
        simp only [h1, if_false]
        rw [if_pos (by simp; omega)]
        simp
      · rw [List.length_map]
        refine sz_lt ?_
        omega
      · rw [List.length_eraseIdx_of_lt hr5]; omega
      · refine List.Perm.trans ?_ hper
        rw [List.append_assoc]
        refine List.Perm.append_left b ?_
        show (a[r] :: a.eraseIdx r).Perm a
        exact erase_perm a r hr5
      · rw [upd_ne (Ne.symm nfl), upd_same]
        congr 2
        exact erase_map a r
      · rw [upd_same, List.map_append]; rfl
      · obtain ⟨_, xs, bb, g1, g2, g3⟩ := hd5
        exact ⟨hd'.ne, xs, bb, (upd_ne (Ne.symm nfo.1)).trans ((upd_ne (Ne.symm nlf.1)).trans g1), (upd_ne (Ne.symm nfo.2)).trans ((upd_ne (Ne.symm nlf.2)).trans g2), g3⟩
      · intro c o h1 h2 h3
        rw [upd_ne (ne_of_none h3 hfoH), upd_ne (ne_of_none h3 hlf)]
        exact hf5 _ _ h1 h2 (e4 _ _ (e3 _ _ (hfr c o h1 h2 h3)))
  · have ha : a = [] := by simpa using hb
    rw [ha, List.append_nil] at hper
    refine s_ret (ev_var rfl) fun H4 e4 => hq fo b H4 hper hfoH ?_ ((hd'.mono e3).mono e4) (e4 _ _ (e3 _ _ hfb))
    intro c o h1 h2 h3
    exact e4 _ _ (e3 _ _ (hfr c o h1 h2 h3))
def spDraw (K : PySem.W.Frag) : Sp := fun vs H Q _ => ∃ (a : Addr) (ns : List Int), vs = [.ref a, .int 32] ∧ SqL K H a (ns.map V.int) ∧ ∀ p q H', H p = none → H q = none → Ex H H' → Deal p q H' → Q (.ref p) H'
theorem ok_draw (F : FnP K "_law_draw" "_law_draw" HD.s_law_draw f fd) (hm : mg "_law_draw" = some (.ref f)) : C8.Cal P w K mg base 1 "_law_draw" (spDraw K) [] := by
  refine calD F hm sc_law_draw (F.bindsN fun _ _ _ _ _ _ us hl => match us, hl with | [_, _], _ => rfl) (fun vs H Q E h => ?_) fun cdv Ar outer st H vs Q Ek hr h => ?_
  · obtain ⟨a, ns, rfl, _⟩ := h; rfl
  obtain ⟨a, ns, rfl, hs, hq⟩ := h
  refine ⟨_, PSs.nox (pss_cons (ps_setLc (i := 2) (own := [("_law_cell", 4)]) rfl sc_law_draw.nd rfl rfl (sw_true rfl rfl rfl (by decide +kernel)) (k_list K (pi_list (pe_slice (sl_lstK K) (pv 0) po_none (po_some pe_int)))) (blkOk_by (N := N_law_draw) (sc := defScope HD.s_law_draw) (by decide +kernel)) (fun _ _ _ _ _ => (pg_name (i := 4) sc_law_draw.nd rfl (.inl rfl))) (fun _ _ _ _ _ => pts_nil) (fun _ _ _ _ _ => (pe_callB cr_abs rfl B.abs (by decide +kernel) (pa_cons (pe_callTy cr_int1 rfl B.int (by decide +kernel) (pa_cons (pv 4) pa_nil)) pa_nil))))
    (pss_cons (ps_set (i := 3) sc_law_draw.nd rfl (.inl rfl) (pe_op op_add pe_int (pe_op op_mul pe_int (pv 1))))
    (pss_cons (ps_for PassesOwn.never rfl (k_list K (pi_list (pv 2))) (pg_name (i := 4) sc_law_draw.nd rfl (.inl rfl)) (pss_one (ps_set (i := 3) sc_law_draw.nd rfl (.inl rfl) (pe_op op_mod (pe_callTy cr_int1 rfl B.int (by decide +kernel) (pa_cons (pe_op op_add (pe_op op_add (pe_op op_mul (pv 3) pe_int) (pe_op op_mod (pv 4) pe_int)) pe_int) pa_nil)) pe_int))))
    (pss_one (ps_ret (pe_lst (pa_cons (k_rev K (pe_revL (pe_lc (own := [("_law_cell", 4)]) rfl sc_law_draw.nd  (k_list K (pi_list (pv 2))) (blkOk_by (N := N_law_draw) (sc := defScope HD.s_law_draw) (by decide +kernel)) (fun _ _ _ _ _ => (pg_name (i := 4) sc_law_draw.nd rfl (.inl rfl))) (fun _ _ _ _ _ => (pts_one (pt_cmpR op_ge (pv 4) (pe_op op_pow pe_int pe_int) (nomark _)))) (fun _ _ _ _ _ => (pv 4))))) (pa_cons (pv 3) pa_nil)))))))), ?_⟩
  have hdns : Dp K H (.ref a) (.list (ns.map PyData.int)) := .lst hs (ints_dpa ns)
  have l48 : (ns.take 48).length ≤ 48 := by rw [List.length_take]; omega
  refine q_asgNl (K := K) (ds := (ns.take 48).map fun i => PyData.int (if i < 0 then -i else i)) (evnl_lc0 (d := fun i : Int => PyData.int (if i < 0 then -i else i)) (l := ns.take 48) (IvE.of_map (f := PyData.int) (R := fun d x H => Dp K H x d) ?_) (sz_of (by omega)) (fun _ => rfl) fun i x H1 hi e1 hx => ?_) fun cp ys H1 hcp e1 hH1 hd1 => ?_
  · refine iv_lst (evn_d (EvN.data (evn_slL (lo := none) (hi := some ((48 : Nat) : Int)) (evd_var rfl hdns) eo_none (eo_some ev_c)) ?_))
    rw [cut_to, List.map_take]
  · cases dp_int hx
    exact ⟨_, fun Q q => q, rfl, evd_int (ev_cb (ea_cons (ev_cb (ea_cons (ev_var rfl) ea_nil) (z := .int i) fun H2 _ Q q => .inl ⟨_, rfl, q H2 (Ex.refl _)⟩) ea_nil) fun H2 _ Q q => ⟨i, rfl, q H2 (Ex.refl _)⟩)⟩
  have hys : ys = (ns.take 48).map fun i => V.int (if i < 0 then -i else i) := dpa_val (fun i v h => dp_int h) hd1
  generalize hcs : ((ns.take 48).map fun i => if i < 0 then -i else i) = cs at *
  have hcl : cs.length ≤ 48 := by rw [← hcs, List.length_map]; exact l48
  have hcd : Dp K H1 (.ref cp) (.list (cs.map PyData.int)) := .lst (sq_of hH1) (by rw [← hcs, List.map_map]; exact hd1)
  refine q_asg (v := .int (7919 + 104729 * 32)) (ev_op ev_c (ev_op ev_c (ev_var rfl) (rv_I (C := CMul) (g := fun i j => .int (i * j)) (.inl ⟨by decide, by decide⟩))) rv_I0) fun H2 e2 => ?_
  have hcd2 := dp_mono e2 hcd
  refine q_forI (IvE.of_map (iv_lst (evd_var rfl hcd2))) (fun i σ1 H3 => ∃ (bl : Int) (o : Option V), σ1 = [some (.ref a), some (.int 32), some (.ref cp), some (.int bl), o]) ?_ (fun i σ1 H3 H4 _ h => h) ?_ ?_
  · intro H3 e3
    exact ⟨_, none, rfl⟩
  · rintro i c x σ1 H3 Hb hi e3 eb ⟨bl, o, rfl⟩ hx
    cases dp_int hx
    refine s_asg (v := .int ((bl * 48271 + c % 2147483549 + 11) % 2147483647)) (ev_op (ev_cb (ea_cons (ev_op (ev_op (ev_op (ev_var rfl) ev_c (rv_I (C := CMul) (g := fun i j => .int (i * j)) (.inr ⟨by decide, by decide⟩))) (ev_op (ev_var rfl) ev_c (rv_I (C := fun _ j => 0 < j) (g := fun i j => .int (i % j)) (by decide))) rv_I0) ev_c rv_I0) ea_nil) (z := .int _) fun H1 _ Q q => .inl ⟨_, rfl, q H1 (Ex.refl _)⟩) ev_c (rv_I (C := fun _ j => 0 < j) (g := fun i j => .int (i % j)) (by decide))) fun H4 e4 => ⟨eb.trans e4, _, _, rfl⟩
  · rintro σ1 H3 e3 ⟨bl, o, rfl⟩
    have hcd3 := dp_mono e3 hcd2
    have e03 := (e1.trans e2).trans e3
    have hin : EvNl K (tRevL K (tLc (iList K (tVar 2)) (gName 4) (tTest (tOp (rI0 fun i j => .bl (decide (j ≤ i))) (tVar 4) (tOp (rI CPow fun i j => .int (i ^ j.toNat)) (tC (.int 10)) (tC (.int 18))))) (tVar 4) [4])) [some (.ref a), some (.int 32), some (.ref cp), some (.int bl), o] H3 ((cs.filter fun c => decide ((10 : Int) ^ 18 ≤ c)).map PyData.int).reverse := by
      refine evn_rev (evn_d (evnl_lc (p := fun c : Int => decide ((10 : Int) ^ 18 ≤ c)) (d := PyData.int) (IvE.of_map (iv_lst (evd_var rfl hcd3))) (sz_of (by omega)) (fun _ => rfl) fun c x H4 hc e4 hx => ?_))
      cases dp_int hx
      exact ⟨_, fun Q q => q, rfl, et_test (ev_op (ev_var rfl) (ev_op ev_c ev_c (rv_I (C := CPow) (g := fun i j => .int (i ^ j.toNat)) ⟨by decide, by decide, by decide⟩)) rv_I0), fun _ => evd_int (ev_var rfl)⟩
    unfold tRet tLst tCons
    refine hin H3 (Ex.refl _) _ fun q ys4 H4 hq4 e4 hH4 hd4 => ⟨_, rfl, by show 2 ≤ sizeLine; decide, fun p hp => ?_⟩
    have hy4 : ys4 = ((cs.filter fun c => decide ((10 : Int) ^ 18 ≤ c)).reverse).map V.int := by
      rw [← List.map_reverse] at hd4
      exact dpa_val (fun i v h => dp_int h) hd4
    have hpq : p ≠ q := (ne_of_none hH4 hp).symm
    refine hq p q _ (fresh_back (e03.trans e4) hp) (fresh_back e03 hq4) ((e03.trans e4).trans (Ex.new hp)) (Deal.mk' (b := bl) hpq upd_same ((upd_ne (Ne.symm hpq)).trans (by rw [hH4, hy4])) ?_)
    have := List.length_filter_le (fun c : Int => decide ((10 : Int) ^ 18 ≤ c)) cs
    rw [List.length_reverse]
    omega
end
end WK
/-! ### W15 -/
set_option Elab.async false
set_option linter.all false
set_option maxRecDepth 100000
set_option maxHeartbeats 4000000
/-! the pairs that are dealt -/
namespace WK
open PySem PySem.Spec PyProof.Rows L2 Evl DX DL KM C8
abbrev N_law_pairs : List Str := ["_law_deal", "_law_n", "_law_row", "_law_pairs_here", "_law_form", "_law_turn", "_law_at_here", "_law_pair"]
theorem sc_law_pairs : FnScope N_law_pairs ["_law_deal", "_law_n"] (defScope HD.s_law_pairs) := ⟨rfl, rfl, rfl, by decide +kernel, rfl, by decide +kernel, by decide +kernel⟩
/-- a list of pairs of people, made on the way -/
structure PL (k : Addr) (n : Nat) (acc : List (Addr × Pr)) (H : Hp) : Prop where
  hk : H k = some (.lst (acc.map fun t => V.ref t.1))
  el : ∀ t ∈ acc, H t.1 = some (.tup [vN t.2.1, vN t.2.2]) ∧ t.2.1 < n ∧ t.2.2 < n
theorem PL.fr {p q k : Addr} {n : Nat} {acc : List (Addr × Pr)} {H H' : Hp} (h : PL k n acc H) (f : FrD p q H H') (d : Deal p q H) (h1 : k ≠ p) (h2 : k ≠ q) : PL k n acc H' := by
  obtain ⟨_, xs, b, g1, g2, _⟩ := d
  refine ⟨f _ _ h1 h2 h.hk, fun t ht => ⟨f _ _ (fun e => ?_) (fun e => ?_) (h.el t ht).1, (h.el t ht).2⟩⟩
  · have := (h.el t ht).1
    rw [e, g1] at this
    cases this
  · have := (h.el t ht).1
    rw [e, g2] at this
    cases this
theorem PL.mono {k : Addr} {n : Nat} {acc : List (Addr × Pr)} {H H' : Hp} (h : PL k n acc H) (e : Ex H H') : PL k n acc H' := ⟨e _ _ h.hk, fun t ht => ⟨e _ _ (h.el t ht).1, (h.el t ht).2⟩⟩
theorem PL.add {k T : Addr} {n a b : Nat} {acc : List (Addr × Pr)} {H : Hp} (h : PL k n acc H) (hT : H T = some (.tup [vN a, vN b])) (ha : a < n) (hb : b < n) : PL k n (acc ++ [(T, (a, b))]) (upd H k (.lst (acc.map (fun t => V.ref t.1) ++ [.ref T]))) := by
  refine ⟨by rw [upd_same, List.map_append]; rfl, fun t ht => ?_⟩
  have : ∀ {c : Addr} {xs : List V}, H c = some (.tup xs) → c ≠ k := fun hc e => by rw [e, h.hk] at hc; cases hc
  rcases List.mem_append.mp ht with g | g
  · exact ⟨(upd_ne (this (h.el t g).1)).trans (h.el t g).1, (h.el t g).2⟩
  · have e : t = (T, (a, b)) := by simpa using g
    rw [e]
    exact ⟨(upd_ne (this hT)).trans hT, ha, hb⟩
theorem FrD.putk {p q k : Addr} {H0 H : Hp} {o : HO} (h : FrD p q H0 H) (hk : H0 k = none) : FrD p q H0 (upd H k o) := fun a u n1 n2 e => by
  rw [upd_ne (ne_of_none e hk)]
  exact h a u n1 n2 e
theorem Deal.putk {p q k : Addr} {H : Hp} {o : HO} (d : Deal p q H) (h1 : k ≠ p) (h2 : k ≠ q) : Deal p q (upd H k o) := by
  obtain ⟨n, xs, b, g1, g2, g3⟩ := d
  exact ⟨n, xs, b, (upd_ne (Ne.symm h1)).trans g1, (upd_ne (Ne.symm h2)).trans g2, g3⟩
/-- pairs as tuples of ints -/
theorem dpa_ks {K : PySem.W.Frag} {H : Hp} : ∀ {l : List Pr} {ys : List V}, DpAll K H ys (l.map dP) → ∃ ks : List (Addr × List Int), ys = ks.map (fun p => V.ref p.1) ∧ (∀ p ∈ ks, SqT K H p.1 (p.2.map V.int)) ∧ ks.map (·.2) = l.map fun e => [(e.1 : Int), (e.2 : Int)]
  | [], _, h => by rw [dpa_nil h]; exact ⟨[], rfl, by simp, rfl⟩
  | e :: l, _, h => by
    obtain ⟨v, r, rfl, h1, h2⟩ := dpa_cons h
    obtain ⟨ks, rfl, k1, k2⟩ := dpa_ks h2
    obtain ⟨a, rfl, hs⟩ := dp_P h1
    refine ⟨(a, [(e.1 : Int), (e.2 : Int)]) :: ks, rfl, fun p hp => ?_, by rw [List.map_cons, k2]; rfl⟩
    rcases List.mem_cons.mp hp with g | g
    · rw [g]; exact hs
    · exact k1 p g
theorem code_inj (a1 a2 b1 b2 n : Nat) (g1 : a1 < a2 ∧ a2 < n) (g2 : b1 < b2 ∧ b2 < n) (hn : n ≤ 7) (e : a2 * (a2 - 1) / 2 + a1 = b2 * (b2 - 1) / 2 + b1) : a1 = b1 ∧ a2 = b2 := by
  have c1 : a2 = 1 ∨ a2 = 2 ∨ a2 = 3 ∨ a2 = 4 ∨ a2 = 5 ∨ a2 = 6 := by omega
  have c2 : b2 = 1 ∨ b2 = 2 ∨ b2 = 3 ∨ b2 = 4 ∨ b2 = 5 ∨ b2 = 6 := by omega
  rcases c1 with rfl | rfl | rfl | rfl | rfl | rfl <;> rcases c2 with rfl | rfl | rfl | rfl | rfl | rfl <;> (simp at e; omega)
theorem code_lt (a1 a2 n : Nat) (g1 : a1 < a2 ∧ a2 < n) (hn : n ≤ 7) : a2 * (a2 - 1) / 2 + a1 < 21 := by
  have c1 : a2 = 1 ∨ a2 = 2 ∨ a2 = 3 ∨ a2 = 4 ∨ a2 = 5 ∨ a2 = 6 := by omega
  rcases c1 with rfl | rfl | rfl | rfl | rfl | rfl <;> (simp; omega)
theorem web_len {n : Nat} {ps : List Pr} (hw : IsWeb n ps) (hn : n ≤ 7) (nd : ps.Nodup) : ps.length ≤ 21 := by
  have h1 : (ps.map fun e => e.2 * (e.2 - 1) / 2 + e.1).Nodup := by
    unfold List.Nodup
    rw [List.pairwise_map]
    refine List.Pairwise.imp_of_mem ?_ nd
    intro a b ha hb hne e
    obtain ⟨h1, h2⟩ := code_inj a.1 a.2 b.1 b.2 n (hw a ha) (hw b hb) hn e
    exact hne (Prod.ext h1 h2)
  have := nodup_len (l' := List.range 21) h1 fun x hx => by
    obtain ⟨e, he, rfl⟩ := List.mem_map.mp hx
    exact List.mem_range.mpr (code_lt e.1 e.2 n (hw e he) hn)
  rwa [List.length_map, List.length_range] at this
section
variable {σ : L2.St} {H : Hp} {t : TT} {D : Ends} {tu tw tz : TS}
theorem q_ifMid {b : Bool} (Mid : L2.St → Hp → Prop) (h : EvT t σ H b) (h1 : b = true → ∀ H1, Ex H H1 → ∀ N : L2.St → Hp → Prop, (∀ σ' H', Mid σ' H' → N σ' H') → tu { D with nx := N } σ H1)
    (h2 : b = false → ∀ H1, Ex H H1 → Mid σ H1) (k : ∀ σ' H', Mid σ' H' → tz D σ' H') : tSeq (tIfS t tu tNext) tz D σ H :=
  q_ifE h (fun hb H1 e1 => h1 hb H1 e1 _ k) fun hb H1 e1 => k _ _ (h2 hb H1 e1)
end
section
variable {P : Program} {w : World} {K : PySem.W.Frag} {mg : Str → Option Value} {base : Heap} {f : Addr} {fd : FuncData}
variable (B : BI mg)
include B
structure WebOk (n : Nat) (ps : List Pr) : Prop where
  hw : IsWeb n ps
  nd : ps.Nodup
  pw : ps.Pairwise (fun a b => leP a b = true)
  len : ps.length ≤ 21
def spPairs (K : PySem.W.Frag) : Sp := fun vs H Q _ => ∃ (p q : Addr) (n : Nat), vs = [.ref p, vN n] ∧ 1 ≤ n ∧ n ≤ 7 ∧ Deal p q H ∧ ∀ (ps : List Pr) v H', WebOk n ps → Dp K H' v (dPs ps) → FrD p q H H' → Deal p q H' → Q v H'
omit B in
/-- the end: the set of the pairs, sorted -/
theorem pairs_end {n : Nat} {ds : List Pr} (hn : n ≤ 7) (hl : ds.length < 64) (hds : ∀ e ∈ ds, e.1 < e.2 ∧ e.2 < n) {σ : L2.St} {H : Hp} {te : TE} (h : EvNl K te σ H (ds.map dP)) {Q : VK} (hq : ∀ (ps : List Pr) v H', WebOk n ps → Ex H H' → Dp K H' v (dPs ps) → Q v H') :
    tCB (rTupOf K) (tCons (tCB (rSortedT K P w) (tCons (tCB (rSetOfT K P w) (tCons te tNil)) tNil)) tNil) σ H Q :=
  h H (Ex.refl _) _ fun r ys H1 hr e1 hH1 hd => by
    obtain ⟨ks, rfl, hk1, hk2⟩ := dpa_ks hd
    have hkl : ks.length = ds.length := by have := congrArg List.length hk2; simpa using this
    have hel : ∀ p ∈ ks, ∃ e ∈ ds, p.2 = [(e.1 : Int), (e.2 : Int)] := fun p hp => by
      have : p.2 ∈ ks.map (·.2) := List.mem_map.mpr ⟨p, hp, rfl⟩
      rw [hk2] at this
      obtain ⟨e, he, g⟩ := List.mem_map.mp this
      exact ⟨e, he, g.symm⟩
    refine ⟨r, ks, rfl, sq_of hH1, hk1, by omega, fun a L ha hsub hall => ?_⟩
    have hexa : Ex H1 (upd H1 a (SetTO P w a L)) := Ex.new ha
    refine ⟨a, L, 2, 64, rfl, upd_same, fun p hp => ex_t hexa (hk1 p (hsub p hp)), by decide, fun p hp => ?_, fun L' b hperm hnd hlt hpw hb => ?_⟩
    · obtain ⟨e, he, g⟩ := hel p (hsub p hp)
      have := hds e he
      rw [g]
      refine ⟨rfl, fun m hm => ?_⟩
      simp only [List.mem_cons, List.not_mem_nil, or_false] at hm
      rcases hm with hm | hm <;> rw [hm] <;> omega
    · have hL' : ∀ t ∈ L', ∃ e ∈ ds, t.2 = [(e.1 : Int), (e.2 : Int)] := fun t ht => hel t (hsub t (hperm.mem_iff.mp ht))
      have hSq : ∀ t ∈ L', SqT K (upd H1 a (SetTO P w a L)) t.1 (t.2.map V.int) := fun t ht => ex_t hexa (hk1 t (hsub t (hperm.mem_iff.mp ht)))
      let g : Addr × List Int → Pr := fun t => ((t.2.headD 0).toNat, ((t.2.drop 1).headD 0).toNat)
      have hg : ∀ t ∈ L', t.2 = [((g t).1 : Int), ((g t).2 : Int)] ∧ (g t) ∈ ds := fun t ht => by
        obtain ⟨e, he, h⟩ := hL' t ht
        have : g t = e := by
          show ((t.2.headD 0).toNat, ((t.2.drop 1).headD 0).toNat) = e
          rw [h]; simp
        rw [this]
        exact ⟨h, he⟩
      have e2 : Ex (upd H1 a (SetTO P w a L)) (upd (upd H1 a (SetTO P w a L)) b (.lst (L'.map fun q => V.ref q.1))) := Ex.new hb
      have hda : ∀ (l : List (Addr × List Int)) (H2 : Hp), (∀ t ∈ l, t ∈ L') → Ex (upd H1 a (SetTO P w a L)) H2 → DpAll K H2 (l.map fun q => V.ref q.1) ((l.map g).map dP) := by
        intro l H2
        induction l with
        | nil => intro _ _; exact .nil
        | cons t l ih =>
          intro hm ex
          obtain ⟨g1, _⟩ := hg t (hm t (List.mem_cons_self ..))
          have hs := ex_t ex (hSq t (hm t (List.mem_cons_self ..)))
          rw [g1] at hs
          exact .cons (P_dp (e := g t) hs) (ih (fun u hu => hm u (List.mem_cons_of_mem _ hu)) ex)
      refine ⟨b, L'.map fun q => V.ref q.1, rfl, .inl ⟨sq_of upd_same, fun l hl => ?_⟩⟩
      have e3 : Ex (upd (upd H1 a (SetTO P w a L)) b (.lst (L'.map fun q => V.ref q.1))) (upd (upd (upd H1 a (SetTO P w a L)) b (.lst (L'.map fun q => V.ref q.1))) l (.tup (L'.map fun q => V.ref q.1))) := Ex.new hl
      have hw : IsWeb n (L'.map g) := fun e he => by
        obtain ⟨t, ht, rfl⟩ := List.mem_map.mp he
        exact hds _ (hg t ht).2
      have hndp : (L'.map g).Nodup := by
        unfold List.Nodup at hnd ⊢
        rw [List.pairwise_map] at hnd ⊢
        refine List.Pairwise.imp_of_mem ?_ hnd
        intro t u ht hu hne e
        exact hne (by rw [(hg t ht).1, (hg u hu).1, e])
      have hpwp : (L'.map g).Pairwise (fun a b => leP a b = true) := by
        rw [List.pairwise_map]
        refine List.Pairwise.imp_of_mem ?_ hpw
        intro t u ht hu hle
        rw [(hg t ht).1, (hg u hu).1, code_pair, code_pair] at hle
        have b1 := hds _ (hg t ht).2
        have b2 := hds _ (hg u hu).2
        simp only [leP, decide_eq_true_eq]
        omega
      exact hq (L'.map g) (.ref l) _ ⟨hw, hndp, hpwp, web_len hw hn hndp⟩ (((e1.trans hexa).trans e2).trans e3) (.tup (st_of upd_same) (hda L' _ (fun _ h => h) (e2.trans e3)))
theorem ok_pairs (F : FnP K "_law_pairs" "_law_pairs" HD.s_law_pairs f fd) (hm : mg "_law_pairs" = some (.ref f)) (c_law_any : C8.Cal P w K mg base 1 "_law_any" (spAny K) []) (c_law_of : C8.Cal P w K mg base 2 "_law_of" (spOf K) [])
    (c_law_mixed : C8.Cal P w K mg base 2 "_law_mixed" (spMixed K) []) : C8.Cal P w K mg base 3 "_law_pairs" (spPairs K) [] := by
  refine calD F hm sc_law_pairs (F.bindsN fun _ _ _ _ _ _ us hl => match us, hl with | [_, _], _ => rfl) (fun vs H Q E h => ?_) fun cdv Ar outer st H vs Q Ek hr h => ?_
  · obtain ⟨p, q, n, rfl, _⟩ := h; rfl
  obtain ⟨p, q, n, rfl, hn1, hn7, hd, hq⟩ := h
  refine ⟨_, PSs.nox (pss_cons (ps_asg (pe_tup (pa_cons (pe_c c_law_mixed hr (by decide) rfl (pa_cons (pv 0) (pa_cons (pe_listRg rfl rfl B.list (prg_1 rfl B.range (pv 1))) pa_nil))) (pa_cons (pe_lst pa_nil) (pa_cons (pe_c c_law_any hr (by decide) rfl (pa_cons (pv 0) (pa_cons pe_int pa_nil))) pa_nil)))) (k_gtup K (pg_tup (n := 3) rfl (pgs_cons (pg_name (i := 2) sc_law_pairs.nd rfl (.inr rfl)) (pgs_cons (pg_name (i := 3) sc_law_pairs.nd rfl (.inl rfl)) (pgs_cons (pg_name (i := 4) sc_law_pairs.nd rfl (.inl rfl)) pgs_nil))))))
    (pss_cons (ps_if (pt_cmpR op_lt (pv 4) pe_int (nomark _)) (pss_one (ps_setLc (i := 3) (own := [("_law_at_here", 6)]) rfl sc_law_pairs.nd rfl rfl (sw_true rfl rfl rfl (by decide +kernel)) (pi_range1 rfl B.range (pa_cons (pe_op op_sub (pv 1) pe_int) pa_nil)) (blkOk_by (N := N_law_pairs) (sc := defScope HD.s_law_pairs) (by decide +kernel)) (fun _ _ _ _ _ => (pg_name (i := 6) sc_law_pairs.nd rfl (.inl rfl))) (fun _ _ _ _ _ => (pts_one (pt_cmpR op_gt (pe_c c_law_any hr (by decide) rfl (pa_cons (pv 0) (pa_cons pe_int pa_nil))) pe_int (nomark _)))) (fun _ _ _ _ _ => (pe_tup (pa_cons (pe_ix (ix_lstK K) (pv 2) (pv 6) (fun _ _ => rfl)) (pa_cons (pe_ix (ix_lstK K) (pv 2) (pe_op op_add (pv 6) pe_int) (fun _ _ => rfl)) pa_nil)))))) pss_nil)
    (pss_cons (ps_if (PW.pt (pw_and (pt_cmpR op_eq (pv 4) pe_int (nomark _)) (pw_and1 (pt_cmpR op_gt (pv 1) pe_int (nomark _))))) (pss_one (ps_expr (k_bm K (pe_bm PySem.F.plainAttrs_list PySem.F.slot_list_append PySem.F.type_list_append mt_append (pv 3) (pa_cons (pe_tup (pa_cons (pe_ix (ix_lstK K) (pv 2) pe_int (fun _ _ => rfl)) (pa_cons (pe_ix (ix_lstK K) (pv 2) (pe_op op_sub (pe_callB (call_min2 rfl) rfl B.min (by decide +kernel) (pa_cons (pe_c c_law_of hr (by decide) rfl (pa_cons (pv 0) (pa_cons (pe_lst (pa_cons pe_int (pa_cons pe_int (pa_cons pe_int (pa_cons (pv 1) pa_nil))))) pa_nil))) (pa_cons (pv 1) pa_nil))) pe_int) (fun _ _ => rfl)) pa_nil))) pa_nil))))) pss_nil)
    (pss_cons (ps_for PassesOwn.never rfl (pi_range1 rfl B.range (pa_cons (pe_ifExp (pt_cmpR op_lt (pv 4) pe_int (nomark _)) (pe_c c_law_any hr (by decide) rfl (pa_cons (pv 0) (pa_cons (pe_op op_add (pv 1) pe_int) pa_nil))) (pe_c c_law_any hr (by decide) rfl (pa_cons (pv 0) (pa_cons (pe_op op_add (pe_op op_mul pe_int (pv 1)) pe_int) pa_nil)))) pa_nil)) (pg_name (i := 5) sc_law_pairs.nd rfl (.inl rfl)) (pss_one (ps_expr (k_bm K (pe_bm PySem.F.plainAttrs_list PySem.F.slot_list_append PySem.F.type_list_append mt_append (pv 3) (pa_cons (pe_tup (pa_cons (pe_c c_law_any hr (by decide) rfl (pa_cons (pv 0) (pa_cons (pv 1) pa_nil))) (pa_cons (pe_c c_law_any hr (by decide) rfl (pa_cons (pv 0) (pa_cons (pv 1) pa_nil))) pa_nil))) pa_nil))))))
    (pss_one (ps_ret (pe_callTy (cr_tupK K) rfl B.tuple (by decide +kernel) (pa_cons (pe_callB (cr_sortedT rfl) rfl B.sorted (by decide +kernel) (pa_cons (pe_callTy (cr_setOfT rfl (h64 hr)) rfl B.set (by decide +kernel) (pa_cons (pe_lc (own := [("_law_pair", 7)]) rfl sc_law_pairs.nd  (k_list K (pi_list (pv 3))) (blkOk_by (N := N_law_pairs) (sc := defScope HD.s_law_pairs) (by decide +kernel)) (fun _ _ _ _ _ => (pg_name (i := 7) sc_law_pairs.nd rfl (.inl rfl))) (fun _ _ _ _ _ => (pts_one (pt_cmpR op_ne (pe_ix (ix_tupK K) (pv 7) pe_int (fun _ _ => rfl)) (pe_ix (ix_tupK K) (pv 7) pe_int (fun _ _ => rfl)) (nomark _)))) (fun _ _ _ _ _ => (pe_tup (pa_cons (pe_callB (cr_minK' K rfl hr) rfl B.min (by decide +kernel) (pa_cons (pv 7) pa_nil)) (pa_cons (pe_callB (cr_maxK K rfl hr) rfl B.max (by decide +kernel) (pa_cons (pv 7) pa_nil)) pa_nil))))) pa_nil)) pa_nil)) pa_nil)))))))), ?_⟩
  have ndl : ∀ {a : Addr} {H1 : Hp}, Deal p q H1 → H1 a = none → a ≠ p ∧ a ≠ q := fun {a H1} d h => by
    obtain ⟨_, xs, b, h1, h2, _⟩ := d
    exact ⟨(ne_of_none h1 h).symm, (ne_of_none h2 h).symm⟩
  have bk : ∀ {a : Addr} {H1 : Hp}, FrD p q H H1 → Deal p q H1 → H1 a = none → H a = none := fun {a H1} fr d1 h => by
    cases ha : H a with
    | none => rfl
    | some o =>
      have := fr a o (ndl d1 h).1 (ndl d1 h).2 ha
      rw [h] at this
      cases this
  refine ⟨_, rfl, (el_lrg (σ := [some (.ref p), some (vN n), none, none, none, none, none, none]) (tb := tVar 1) (n := n) (by omega) (ev_var rfl)) H (Ex.refl _) _ fun s Hs hs es hHs => ⟨p, q, s, List.range n, rfl, by simp; omega, (ndl hd hs).1, (ndl hd hs).2, hHs, hd.mono es, fun r l' H1 hper hr hf1 hd1 hr1 => ?_⟩⟩
  refine ⟨by show 0 ≤ sizeLine; decide, fun k hk => ⟨_, rfl, p, q, 4, rfl, by decide, by decide, hd1.mono (Ex.new hk), fun fm H3 hfm hf3 hd3 => ⟨by show 3 ≤ sizeLine; decide, fun T hT => ⟨T, _, rfl, st_of upd_same, rfl, _, _, rfl, _, _, rfl, _, _, rfl, rfl, ?_⟩⟩⟩⟩
  have hrH : H r = none := fresh_back es hr
  have nr := ndl hd hrH
  have hf1' : FrD p q H H1 := (Ex.toD es).trans hf1
  have hkH : H k = none := bk hf1' hd1 hk
  have nk := ndl hd1 hk
  have nrk : r ≠ k := fun e => by rw [e, hk] at hr1; cases hr1
  have fk : FrD p q H1 (upd H1 k (.lst [])) := Ex.toD (Ex.new hk)
  have hf3' : FrD p q H H3 := (hf1'.trans fk).trans hf3
  have pl3 : PL k n [] H3 := PL.fr (H := upd H1 k (.lst [])) ⟨upd_same, by simp⟩ hf3 (hd1.mono (Ex.new hk)) nk.1 nk.2
  have hr3 : H3 r = some (.lst (l'.map vN)) := hf3 _ _ nr.1 nr.2 ((upd_ne nrk).trans hr1)
  have eT : Ex H3 (upd H3 T (.tup [.ref r, .ref k, vN fm])) := Ex.new hT
  have hf4 : FrD p q H (upd H3 T (.tup [.ref r, .ref k, vN fm])) := hf3'.trans (Ex.toD eT)
  have pl4 := pl3.mono eT
  have hr4 := eT _ _ hr3
  have hd4 := hd3.mono eT
  generalize upd H3 T (.tup [.ref r, .ref k, vN fm]) = H4 at *
  have hll : l'.length = n := by rw [hper.length_eq, List.length_range]
  have hlt : ∀ v ∈ l', v < n := fun v hv => List.mem_range.mp (hper.mem_iff.mp hv)
  have rowat : ∀ {σ : L2.St} {H5 : Hp} {tb : TE} {j : Nat} {x : Nat}, σ[2]? = some (some (.ref r)) → H5 r = some (.lst (l'.map vN)) → Ev tb σ H5 (.int (j : Int)) → l'[j]? = some x → Ev (tOp (rIxL K) (tVar 2) tb) σ H5 (vN x) := fun hσ h hb hj => ev_op (ev_var hσ) hb (rv_ixL (sq_of h) (atI_nn (by rw [List.getElem?_map, hj]; rfl)))
  dsimp only
  refine q_ifMid (b := decide (fm < 3)) (fun σ' H' => ∃ k acc, σ' = [some (.ref p), some (vN n), some (.ref r), some (.ref k), some (vN fm), none, none, none] ∧ PL k n acc H' ∧ acc.length ≤ 6 ∧ k ≠ p ∧ k ≠ q ∧ r ≠ k ∧ H k = none ∧ FrD p q H H' ∧ Deal p q H' ∧ H' r = some (.lst (l'.map vN)))
    (et_is (et_test (ev_op (ev_var rfl) ev_c rv_I0)) (by rw [Bool.eq_iff_iff]; simp only [decide_eq_true_eq]; omega)) (fun hb H5 e5 N hN => ?_) (fun hb H5 e5 => ⟨k, [], rfl, pl4.mono e5, by simp, nk.1, nk.2, nrk, hkH, hf4.trans (Ex.toD e5), hd4.mono e5, e5 _ _ hr4⟩) ?_
  · have hf5 := hf4.trans (Ex.toD (p := p) (q := q) e5)
    have hd5 := hd4.mono e5
    have hr5 := e5 _ _ hr4
    have hcnt : Ev (tOp (rI0 fun i j => .int (i - j)) (tVar 1) (tC (.int 1))) [some (.ref p), some (vN n), some (.ref r), some (.ref k), some (vN fm), none, none, none] H5 (.int ((n - 1 : Nat) : Int)) := ev_is (ev_op (ev_var rfl) ev_c rv_I0) (by congr 1; omega)
    refine hcnt H5 (Ex.refl _) _ fun H6 e6 => ⟨((n - 1 : Nat) : Int), rfl, by omega, by omega, fun D hD => ?_⟩
    have hf6 := hf5.trans (Ex.toD (p := p) (q := q) e6)
    have hd6 := hd5.mono e6
    have nD := ndl hd6 hD
    have hDH := bk hf6 hd6 hD
    have nrD : r ≠ D := ne_of_none (e6 _ _ hr5) hD
    rw [show ((n - 1 : Nat) : Int).toNat = n - 1 by omega]
    refine lc_it (walk_range (lo := 0) (n := n - 1)) (fun i H' => ∃ acc, PL D n acc H' ∧ acc.length ≤ i ∧ FrD p q H H' ∧ Deal p q H' ∧ H' r = some (.lst (l'.map vN))) ?_ (fun _ _ _ _ => trivial) ?_ ?_
    · exact ⟨[], ⟨upd_same, by simp⟩, by simp, hf6.trans (Ex.toD (Ex.new hD)), hd6.mono (Ex.new hD), (upd_ne nrD).trans (e6 _ _ hr5)⟩
    · rintro i x H7 H8 hi ⟨acc, pl, hal, hf7, hd7, hr7⟩ ⟨rfl, rfl⟩
      refine ⟨rfl, ⟨_, rfl, p, q, 8, rfl, by decide, by decide, hd7, fun z H9 hz hf9 hd9 => ?_⟩⟩
      have pl9 := pl.fr hf9 hd7 nD.1 nD.2
      have hr9 := hf9 _ _ nr.1 nr.2 hr7
      have hf9' := hf7.trans hf9
      refine ⟨(z : Int), 0, rfl, rfl, decide ((0 : Int) < (z : Int)), rfl, ?_⟩
      by_cases hz0 : (0 : Int) < (z : Int)
      · rw [decide_eq_true hz0]
        obtain ⟨x1, hx1⟩ : ∃ x, l'[i]? = some x := ⟨l'[i]'(by omega), List.getElem?_eq_getElem _⟩
        obtain ⟨x2, hx2⟩ : ∃ x, l'[i + 1]? = some x := ⟨l'[i + 1]'(by omega), List.getElem?_eq_getElem _⟩
        have hi0 : (V.int (0 + (i : Int))) = vN i := by rw [Int.zero_add]
        refine (if_pos (c := true = true) rfl).mpr ?_
        dsimp only
        rw [hi0]
        refine (rowat (σ := [some (.ref p), some (vN n), some (.ref r), some (.ref k), some (vN fm), none, some (vN i), none]) (tb := tVar 6) rfl hr9 (ev_var rfl) hx1) H9 (Ex.refl _) _ fun H10 e10 => (rowat (σ := [some (.ref p), some (vN n), some (.ref r), some (.ref k), some (vN fm), none, some (vN i), none]) (j := i + 1) rfl (e10 _ _ hr9) (ev_is (ev_op (ev_var rfl) ev_c rv_I0) (by congr 1)) hx2) H10 (Ex.refl _) _ fun H11 e11 => ⟨by show 2 ≤ sizeLine; decide, fun T2 hT2 => ?_⟩
        have e13 : Ex H9 (upd H11 T2 (.tup [vN x1, vN x2])) := (e10.trans e11).trans (Ex.new hT2)
        have pl13 := pl9.mono e13
        refine ⟨acc.map fun t => V.ref t.1, pl13.hk, ?_, acc ++ [(T2, (x1, x2))], pl13.add upd_same (hlt x1 (List.mem_of_getElem? hx1)) (hlt x2 (List.mem_of_getElem? hx2)), ?_, (hf9'.trans (Ex.toD e13)).putk hDH, (hd9.mono e13).putk nD.1 nD.2, (upd_ne nrD).trans (e13 _ _ hr9)⟩
        · rw [List.length_map]; exact sz_lt (by omega)
        · simp; omega
      · rw [decide_eq_false hz0]
        exact ⟨acc, pl9, by omega, hf9', hd9, hr9⟩
    · rintro H7 ⟨acc, pl, hal, hf7, hd7, hr7⟩
      exact hN _ _ ⟨D, acc, rfl, pl, by omega, nD.1, nD.2, nrD, hDH, hf7, hd7, hr7⟩
  rintro σ5 H5 ⟨k, acc, rfl, pl5, hal, nkp, nkq, nrk', hkH, hf5, hd5, hr5⟩
  refine q_ifMid (b := decide (fm = 0) && decide (2 < n)) (fun σ' H' => ∃ acc, σ' = [some (.ref p), some (vN n), some (.ref r), some (.ref k), some (vN fm), none, none, none] ∧ PL k n acc H' ∧ acc.length ≤ 7 ∧ FrD p q H H' ∧ Deal p q H' ∧ H' r = some (.lst (l'.map vN)))
    (et_and (et_test (ev_eqN (n := fm) (m := 0) (ev_var rfl) ev_c)) fun _ => et_is (et_test (ev_op (ev_var rfl) ev_c rv_I0)) (by rw [Bool.eq_iff_iff]; simp only [decide_eq_true_eq]; omega)) (fun hb H6 e6 N hN => ?_) (fun hb H6 e6 => ⟨acc, rfl, pl5.mono e6, by omega, hf5.trans (Ex.toD e6), hd5.mono e6, e6 _ _ hr5⟩) ?_
  · have hb' : fm = 0 ∧ 2 < n := by simpa using hb
    have pl6 := pl5.mono e6
    have hr6 := e6 _ _ hr5
    have hf6 := hf5.trans (Ex.toD (p := p) (q := q) e6)
    have hd6 := hd5.mono e6
    obtain ⟨x1, hx1⟩ : ∃ x, l'[0]? = some x := ⟨l'[0]'(by omega), List.getElem?_eq_getElem _⟩
    refine ⟨_, rfl, .inl ⟨rfl, _, sq_of pl6.hk⟩, ?_⟩
    refine (rowat (σ := [some (.ref p), some (vN n), some (.ref r), some (.ref k), some (vN fm), none, none, none]) (j := 0) rfl hr6 ev_c hx1) H6 (Ex.refl _) _ fun H7 e7 => ?_
    have hd7 := hd6.mono e7
    refine ⟨_, rfl, _, rfl, (el_lst (σ := [some (.ref p), some (vN n), some (.ref r), some (.ref k), some (vN fm), none, none, none]) (vs := [vN 3, vN 3, vN 5, vN n]) (ea_cons ev_c (ea_cons ev_c (ea_cons ev_c (ea_cons (ev_var rfl) ea_nil)))) (by show 4 ≤ 100000; decide)) H7 (Ex.refl _) _ fun s4 H8 hs4 e8 hH8 => ⟨p, q, s4, [3, 3, 5, n], rfl, by simp, by show 4 ≤ 1000; decide, (ndl hd7 hs4).1, (ndl hd7 hs4).2, hH8, hd7.mono e8, fun z H9 hz hf9 hd9 => ⟨_, rfl, (z : Int), (n : Int), rfl, (if (n : Int) < (z : Int) then (n : Int) else (z : Int)), 1, rfl, rfl, ?_⟩⟩⟩
    have hz1 : 1 ≤ z := by
      simp only [List.mem_cons, List.not_mem_nil, or_false] at hz
      omega
    have e68 := e7.trans e8
    have hf9' : FrD p q H6 H9 := (Ex.toD e68).trans hf9
    have pl9 : PL k n acc H9 := pl6.fr hf9' hd6 nkp nkq
    have hr9 := hf9' _ _ nr.1 nr.2 hr6
    obtain ⟨jz, hjz, hjl⟩ : ∃ jz : Nat, (if (n : Int) < (z : Int) then (n : Int) else (z : Int)) - 1 = (jz : Int) ∧ jz < n := by
      by_cases hnz : (n : Int) < (z : Int)
      · exact ⟨n - 1, by rw [if_pos hnz]; omega, by omega⟩
      · exact ⟨z - 1, by rw [if_neg hnz]; omega, by omega⟩
    obtain ⟨x2, hx2⟩ : ∃ x, l'[jz]? = some x := ⟨l'[jz]'(by omega), List.getElem?_eq_getElem _⟩
    dsimp only
    rw [hjz]
    refine ⟨r, l'.map vN, (jz : Int), vN x2, rfl, rfl, sq_of hr9, atI_nn (by rw [List.getElem?_map, hx2]; rfl), by show 2 ≤ sizeLine; decide, fun T2 hT2 => ⟨k, acc.map fun t => V.ref t.1, .ref T2, rfl, rfl, (pl9.mono (Ex.new hT2)).hk, ?_, hN _ _ ⟨acc ++ [(T2, (x1, x2))], rfl, (pl9.mono (Ex.new hT2)).add upd_same (hlt x1 (List.mem_of_getElem? hx1)) (hlt x2 (List.mem_of_getElem? hx2)), ?_, ((hf6.trans hf9').trans (Ex.toD (Ex.new hT2))).putk hkH, (hd9.mono (Ex.new hT2)).putk nkp nkq, ?_⟩⟩⟩
    · rw [List.length_map]; exact sz_lt (by omega)
    · simp; omega
    · rw [upd_ne nrk']
      exact (Ex.new hT2) _ _ hr9
  rintro σ6 H6 ⟨acc, rfl, pl6, hal6, hf6, hd6, hr6⟩
  have hcount : ∀ R : It → Hp → Prop, (∀ (cN : Nat) H7, cN ≤ 14 → PL k n acc H7 → FrD p q H H7 → Deal p q H7 → H7 r = some (.lst (l'.map vN)) → R (Itr 0 cN) H7) →
      iRng1 (tCons (tIf (tTest (tOp (rI0 fun i j => .bl (decide (i < j))) (tVar 4) (tC (.int 3)))) (tCall (spAny K) [] C8.E0 (tCons (tVar 0) (tCons (tOp (rI0 fun i j => .int (i + j)) (tVar 1) (tC (.int 1))) tNil)))
        (tCall (spAny K) [] C8.E0 (tCons (tVar 0) (tCons (tOp (rI0 fun i j => .int (i + j)) (tOp (rI CMul fun i j => .int (i * j)) (tC (.int 2)) (tVar 1)) (tC (.int 1))) tNil)))) tNil) [some (.ref p), some (vN n), some (.ref r), some (.ref k), some (vN fm), none, none, none] H6 R := by
    intro R hR
    have tst : EvT (tTest (tOp (rI0 fun i j => .bl (decide (i < j))) (tVar 4) (tC (.int 3)))) [some (.ref p), some (vN n), some (.ref r), some (.ref k), some (vN fm), none, none, none] H6 (decide (fm < 3)) := et_is (et_test (ev_op (ev_var rfl) ev_c rv_I0)) (by rw [Bool.eq_iff_iff]; simp only [decide_eq_true_eq]; omega)
    refine tst H6 (Ex.refl _) _ fun H7 e7 => ?_
    have pl7 := pl6.mono e7
    have hd7 := hd6.mono e7
    have hf7 := hf6.trans (Ex.toD (p := p) (q := q) e7)
    have hr7 := e7 _ _ hr6
    by_cases hb : fm < 3
    · rw [decide_eq_true hb]
      refine (if_pos (c := true = true) rfl).mpr ⟨_, rfl, (ev_is (ev_op (σ := [some (.ref p), some (vN n), some (.ref r), some (.ref k), some (vN fm), none, none, none]) (ta := tVar 1) (tb := tC (.int 1)) (ev_var rfl) ev_c rv_I0) (by rfl) : Ev _ _ H7 (.int ((n : Int) + 1))) H7 (Ex.refl _) _ fun H8 e8 => ⟨p, q, n + 1, by simp, by omega, by omega, hd7.mono e8, fun z H9 hz hf9 hd9 => ?_⟩⟩
      have f79 : FrD p q H7 H9 := (Ex.toD e8).trans hf9
      refine ⟨(z : Int), rfl, by omega, by omega, ?_⟩
      rw [Int.toNat_natCast]
      exact hR z H9 (by omega) (pl7.fr f79 hd7 nkp nkq) (hf7.trans f79) hd9 (f79 _ _ nr.1 nr.2 hr7)
    · rw [decide_eq_false hb]
      refine (if_neg (c := false = true) (by decide)).mpr ⟨_, rfl, (ev_is (ev_op (σ := [some (.ref p), some (vN n), some (.ref r), some (.ref k), some (vN fm), none, none, none]) (tb := tC (.int 1)) (ev_op (ta := tC (.int 2)) (tb := tVar 1) ev_c (ev_var rfl) (rv_I (C := CMul) (g := fun i j => .int (i * j)) (.inl ⟨by decide, by decide⟩))) ev_c rv_I0) (by rfl) : Ev _ _ H7 (.int (2 * (n : Int) + 1))) H7 (Ex.refl _) _ fun H8 e8 => ⟨p, q, 2 * n + 1, by simp, by omega, by omega, hd7.mono e8, fun z H9 hz hf9 hd9 => ?_⟩⟩
      have f79 : FrD p q H7 H9 := (Ex.toD e8).trans hf9
      refine ⟨(z : Int), rfl, by omega, by omega, ?_⟩
      rw [Int.toNat_natCast]
      exact hR z H9 (by omega) (pl7.fr f79 hd7 nkp nkq) (hf7.trans f79) hd9 (f79 _ _ nr.1 nr.2 hr7)
  unfold tSeq tFor
  refine hcount _ fun cN H7 hcN pl7 hf7 hd7 hr7 => ?_
  refine for_it (walk_range (lo := 0) (n := cN)) (fun i σ' H' => ∃ acc o, σ' = [some (.ref p), some (vN n), some (.ref r), some (.ref k), some (vN fm), o, none, none] ∧ PL k n acc H' ∧ acc.length ≤ 7 + i ∧ FrD p q H H' ∧ Deal p q H') ⟨acc, none, rfl, pl7, by omega, hf7, hd7⟩ (fun _ _ _ _ _ => trivial) ?_ ?_
  · rintro i x σ' H8 H9 hi ⟨acc, o, rfl, pl8, hal8, hf8, hd8⟩ ⟨rfl, rfl⟩
    refine ⟨_, rfl, .inl ⟨rfl, _, sq_of pl8.hk⟩, _, rfl, _, rfl, p, q, n, rfl, by omega, by omega, hd8, fun a H10 ha hf10 hd10 => ⟨_, rfl, _, rfl, p, q, n, rfl, by omega, by omega, hd10, fun b H11 hb hf11 hd11 => ⟨by show 2 ≤ sizeLine; decide, fun T2 hT2 => ?_⟩⟩⟩
    have f := hf10.trans hf11
    have pl11 := (pl8.fr f hd8 nkp nkq).mono (Ex.new (o := .tup [vN a, vN b]) hT2)
    refine ⟨k, acc.map fun t => V.ref t.1, .ref T2, rfl, rfl, pl11.hk, ?_, acc ++ [(T2, (a, b))], _, rfl, pl11.add upd_same ha hb, ?_, ((hf8.trans f).trans (Ex.toD (Ex.new hT2))).putk hkH, (hd11.mono (Ex.new hT2)).putk nkp nkq⟩
    · rw [List.length_map]; exact sz_lt (by omega)
    · simp; omega
  · rintro σ' H8 ⟨acc, o, rfl, pl8, hal8, hf8, hd8⟩
    have hdp : Dp K H8 (.ref k) (.list (acc.map fun t => dP t.2)) := .lst (sq_of pl8.hk) (by
      have : ∀ l : List (Addr × Pr), (∀ t ∈ l, t ∈ acc) → DpAll K H8 (l.map fun t => V.ref t.1) (l.map fun t => dP t.2) := by
        intro l
        induction l with
        | nil => intro _; exact .nil
        | cons t l ih => intro hm; exact .cons (P_dp (st_of (pl8.el t (hm t (List.mem_cons_self ..))).1)) (ih fun u hu => hm u (List.mem_cons_of_mem _ hu))
      exact this acc fun _ h => h)
    have hlen : ((acc.filter fun t => !decide (t.2.1 = t.2.2)).map fun t => norm t.2.1 t.2.2).length < 64 := by
      rw [List.length_map]
      have := List.length_filter_le (fun t : Addr × Pr => !decide (t.2.1 = t.2.2)) acc
      omega
    refine pairs_end (n := n) (ds := (acc.filter fun t => !decide (t.2.1 = t.2.2)).map fun t => norm t.2.1 t.2.2) hn7 hlen (fun e he => ?_) (EvN.data (evnl_lc (p := fun t : Addr × Pr => !decide (t.2.1 = t.2.2)) (d := fun t => dP (norm t.2.1 t.2.2)) (l := acc) (IvE.of_map (R := fun d x H => Dp K H x d) (f := fun t : Addr × Pr => dP t.2) (iv_lst (evd_var rfl hdp))) (sz_of (by omega)) (fun _ => tupD_P _) fun t x H9 ht e9 hx => ?_) (by rw [List.map_map]; rfl)) fun ps v H9 W e9 hv => hq ps v H9 W hv (hf8.trans (Ex.toD e9)) (hd8.mono e9)
    · obtain ⟨t, ht, rfl⟩ := List.mem_map.mp he
      obtain ⟨h1, h2⟩ := List.mem_filter.mp ht
      have h3 : t.2.1 ≠ t.2.2 := by simpa using h2
      have h4 := (pl8.el t h1).2
      simp only [norm]
      omega
    · exact ⟨_, fun Q q => q, rfl, et_test (ev_neN (n := t.2.1) (m := t.2.2) (ev_int (evd_ixT (K := K) (ds := [dN t.2.1, dN t.2.2]) (i := 0) (evd_var rfl hx) ev_c rfl)) (ev_int (evd_ixT (K := K) (ds := [dN t.2.1, dN t.2.2]) (i := 1) (evd_var rfl hx) ev_c rfl))), fun _ => evd_tup (eda_cons (evd_min2 (.inl (evd_var rfl hx))) (eda_cons (evd_max2 (.inl (evd_var rfl hx))) eda_nil)) (by show 2 ≤ 100000; decide)⟩
end
end WK
/-! ### W16 -/
set_option Elab.async false
set_option linter.all false
set_option maxRecDepth 100000
set_option maxHeartbeats 4000000
/-! calls by keywords; the law's mathematics -/
namespace WK
open PySem PySem.Spec PyProof.Rows L2 Evl DX DL KM C8
def g2 {α : Type} : List α → List α → List α
  | [], [a, b] => [b, a]
  | _, _ => []
def g3 {α : Type} : List α → List α → List α
  | [], [a, b, c] => [c, b, a]
  | _, _ => []
theorem g2_rel {vs : List V} {us : List Value} {zs : List V} {ws : List Value} (h1 : Vals vs us) (h2 : Vals zs ws) : Vals (g2 vs zs) (g2 us ws) := by
  cases h1 with
  | cons r t => exact .nil
  | nil =>
    cases h2 with
    | nil => exact .nil
    | cons r t =>
      cases t with
      | nil => exact .nil
      | cons r2 t =>
        cases t with
        | nil => exact .cons r2 (.cons r .nil)
        | cons r3 t => exact .nil
theorem g3_rel {vs : List V} {us : List Value} {zs : List V} {ws : List Value} (h1 : Vals vs us) (h2 : Vals zs ws) : Vals (g3 vs zs) (g3 us ws) := by
  cases h1 with
  | cons r t => exact .nil
  | nil =>
    cases h2 with
    | nil => exact .nil
    | cons r t =>
      cases t with
      | nil => exact .nil
      | cons r2 t =>
        cases t with
        | nil => exact .nil
        | cons r3 t =>
          cases t with
          | nil => exact .cons r3 (.cons r2 (.cons r .nil))
          | cons r4 t => exact .nil
section
variable {P : Program} {w : World} {K : PySem.W.Frag} {mg : Str → Option Value} {base : Heap} {f : Addr} {fd : FuncData}
theorem kw_pair_turned {k : Nat} {sp : Sp} (F : FnP K "pair_turned" "pair_turned" HD.s_pair_turned f fd) (hm : mg "pair_turned" = some (.ref f)) (h : FnOk P w K mg base L2.CX0 k f fd ["web", "pair"] sp) : CalKw P w K mg base k "pair_turned" sp ["pair", "web"] g2 :=
  ⟨f, fd, _, g2, h, hm, F.kp, kb_of F (fun _ _ _ _ _ _ us ws hl => match us, ws, hl with | [], [_, _], _ => rfl) g2_rel⟩
theorem kw_pair_news {k : Nat} {sp : Sp} (F : FnP K "pair_news" "pair_news" HD.s_pair_news f fd) (hm : mg "pair_news" = some (.ref f)) (h : FnOk P w K mg base L2.CX0 k f fd ["web", "order", "pair"] sp) : CalKw P w K mg base k "pair_news" sp ["pair", "order", "web"] g3 :=
  ⟨f, fd, _, g3, h, hm, F.kp, kb_of F (fun _ _ _ _ _ _ us ws hl => match us, ws, hl with | [], [_, _, _], _ => rfl) g3_rel⟩
theorem kw_person_gone {k : Nat} {sp : Sp} (F : FnP K "person_gone" "person_gone" HD.s_person_gone f fd) (hm : mg "person_gone" = some (.ref f)) (h : FnOk P w K mg base L2.CX0 k f fd ["web", "order", "person"] sp) : CalKw P w K mg base k "person_gone" sp ["person", "order", "web"] g3 :=
  ⟨f, fd, _, g3, h, hm, F.kp, kb_of F (fun _ _ _ _ _ _ us ws hl => match us, ws, hl with | [], [_, _, _], _ => rfl) g3_rel⟩
end
/-! ### mathematics -/
theorem mem_keptT {ps : List Pr} {ord : List Nat} {v : Nat} : v ∈ keptT ps ord ↔ v ∈ keptBy ps ord := mem_srtN
theorem keptT_nd {ps : List Pr} {ord : List Nat} (h : ord.Nodup) : (keptT ps ord).Nodup := (srtN_perm _).nodup_iff.mpr (kept_nodup h)
theorem mem_comes {a b : List Nat} {v : Nat} : v ∈ comes a b ↔ v ∈ b ∧ v ∉ a := by unfold comes; simp
theorem comes_nd {a b : List Nat} (h : b.Nodup) : (comes a b).Nodup := List.Pairwise.filter _ h
theorem keptT_ext {ps qs : List Pr} {ord : List Nat} (h : ord.Nodup) (e : ∀ v, v ∈ keptBy ps ord ↔ v ∈ keptBy qs ord) : keptT ps ord = keptT qs ord :=
  srtN_eq ((List.perm_ext_iff_of_nodup (kept_nodup h) (kept_nodup h)).mpr e)
theorem can_iff {n : Nat} {qs : List Pr} {lot : List Nat} (hw : IsWeb n qs) (nd : qs.Nodup) : canB (plansOf qs) lot = true ↔ Servable qs lot := by
  unfold canB
  simp only [List.any_eq_true, List.all_eq_true, decide_eq_true_eq]
  constructor
  · rintro ⟨pl, h1, h2⟩
    exact ⟨pl, plansOf_plan hw h1, h2⟩
  · rintro ⟨p, hp, hs⟩
    have hperm : (qs.filter fun e => decide (e ∈ p)).Perm p := by
      refine (List.perm_ext_iff_of_nodup (List.Pairwise.filter _ nd) (verts_nodup_pairs hp hp.2)).mpr fun e => ?_
      simp only [List.mem_filter, decide_eq_true_eq]
      exact ⟨fun h => h.2, fun h => ⟨hp.1 e h, h⟩⟩
    exact ⟨_, plansOf_mem List.filter_sublist ((verts_perm hperm).nodup_iff.mpr hp.2), fun v hv => (verts_perm hperm).mem_iff.mpr (hs v hv)⟩
/-- what is new: nothing, or two people -/
theorem news_len {ps qs : List Pr} {ord : List Nat} (nd : ord.Nodup) (h1 : ∀ e ∈ ps, e.1 ∈ ord ∧ e.2 ∈ ord) (h2 : ∀ e ∈ qs, e.1 ∈ ord ∧ e.2 ∈ ord) {z : Nat} (hz : AwayFrom z ps qs) :
    (comes (keptT ps ord) (keptT qs ord) = [] ∧ comes (keptT qs ord) (keptT ps ord) = []) ∨
    ((comes (keptT ps ord) (keptT qs ord)).length + (comes (keptT qs ord) (keptT ps ord)).length = 2 ∧ (z ∈ keptBy ps ord ∨ z ∈ keptBy qs ord) ∧ ∃ x, ¬ (x ∈ keptBy ps ord ↔ x ∈ keptBy qs ord)) := by
  obtain ⟨p, q, T⟩ := two_of nd h1 h2
  by_cases h : ∃ x, ¬ (x ∈ keptBy ps ord ↔ x ∈ keptBy qs ord)
  · obtain ⟨x, hx⟩ := h
    obtain ⟨y, hxy, hy, hall, hzz⟩ := just_two T hz hx
    refine .inr ⟨?_, hzz, x, hx⟩
    rw [← List.length_append]
    have hnd : (comes (keptT ps ord) (keptT qs ord) ++ comes (keptT qs ord) (keptT ps ord)).Nodup := List.nodup_append.mpr ⟨comes_nd (keptT_nd nd), comes_nd (keptT_nd nd), fun a ha b hb e => by
      have h1 := mem_comes.mp ha
      have h2 := mem_comes.mp hb
      rw [e] at h1
      exact h1.2 h2.1⟩
    have hp : (comes (keptT ps ord) (keptT qs ord) ++ comes (keptT qs ord) (keptT ps ord)).Perm [x, y] := by
      refine (List.perm_ext_iff_of_nodup hnd (by simp [hxy])).mpr fun v => ?_
      simp only [List.mem_append, mem_comes, mem_keptT, List.mem_cons, List.not_mem_nil, or_false]
      constructor
      · rintro (h | h)
        · exact hall v fun e => h.2 (e.mpr h.1)
        · exact hall v fun e => h.2 (e.mp h.1)
      · intro h
        have hv : ¬ (v ∈ keptBy ps ord ↔ v ∈ keptBy qs ord) := by
          rcases h with h | h <;> rw [h] <;> assumption
        by_cases a : v ∈ keptBy ps ord <;> by_cases b : v ∈ keptBy qs ord <;> simp [a, b] at hv ⊢
    rw [hp.length_eq]; rfl
  · have hall : ∀ v, v ∈ keptBy ps ord ↔ v ∈ keptBy qs ord := fun v => Classical.byContradiction fun g => h ⟨v, g⟩
    refine .inl ⟨?_, ?_⟩ <;> rw [List.eq_nil_iff_forall_not_mem] <;> intro v hv <;> have hh := mem_comes.mp hv <;> rw [mem_keptT, mem_keptT] at hh
    · exact hh.2 ((hall v).mpr hh.1)
    · exact hh.2 ((hall v).mp hh.1)
theorem news_eq {come gone : List Nat} (h : (come = [] ∧ gone = []) ∨ come.length + gone.length = 2) : newsD come gone = lnewsD come gone := by
  rcases h with ⟨rfl, rfl⟩ | h
  · rfl
  · unfold newsD lnewsD
    have h0 : ¬ (come = [] ∧ gone = []) := fun ⟨a, b⟩ => by rw [a, b] at h; cases h
    rw [if_neg h0]
    by_cases e : come.length = gone.length
    · have e1 : come.length = 1 ∧ gone.length = 1 := by omega
      have e2 : ¬ come.length = 0 := by omega
      rw [if_pos e, if_neg e2, if_pos e1]
    · have e1 : ¬ (come.length = 1 ∧ gone.length = 1) := by omega
      have e3 : ¬ (come.length + gone.length ≠ 2) := by omega
      rw [if_neg e, if_neg e1, if_neg e3]
      by_cases g : gone.length < come.length
      · rw [if_pos g, if_pos (List.length_eq_zero_iff.mp (by omega))]
      · rw [if_neg g, if_neg (fun z => by rw [z, List.length_nil] at h g; omega)]
/-- the pairs with one pair turned -/
theorem turned_more {ps : List Pr} {e : Pr} (pw : ps.Pairwise (fun a b => leP a b = true)) : srtP (ps.filter (fun x => !decide (x = e)) ++ (if e ∈ ps then [] else [e])) = turnedW ps e := by
  unfold turnedW
  by_cases h : e ∈ ps
  · rw [if_pos h, if_pos h, List.append_nil]
    have : (ps.filter fun x => !decide (x = e)) = ps.filter fun x => !decide (x ∈ [e]) := by
      apply List.filter_congr
      intro x _
      simp
    rw [this]
    exact srtP_self (List.Pairwise.filter _ pw)
  · rw [if_neg h, if_neg h]
    have : (ps.filter fun x => !decide (x = e)) = ps := List.filter_eq_self.mpr fun x hx => by
      have : x ≠ e := fun z => h (by rw [← z]; exact hx)
      simp [this]
    rw [this]
theorem offP_mem {ps : List Pr} {x : Nat} {e : Pr} : e ∈ offP ps x ↔ e ∈ ps ∧ e.1 ≠ x ∧ e.2 ≠ x := by
  unfold offP
  simp only [List.mem_filter, Bool.not_eq_true', decide_eq_false_iff_not, List.mem_cons, List.not_mem_nil, or_false, not_or]
  exact and_congr_right fun _ => and_congr ne_comm ne_comm
theorem lessW_off {ps : List Pr} {x : Nat} : lessW ps x = offP ps x := by
  unfold lessW offP
  apply List.filter_congr
  intro e he
  congr 1
  rw [Bool.eq_iff_iff]
  simp only [decide_eq_true_eq, List.mem_filter, Bool.or_eq_true, List.mem_singleton, List.mem_cons, List.not_mem_nil, or_false, he, true_and]
  exact or_congr eq_comm eq_comm
theorem off_gone {ps : List Pr} {x : Nat} : Gone x ps (offP ps x) := fun e => offP_mem
/-- what goes with a person: nobody else, or one who comes or goes -/
theorem gone_law {n : Nat} {ps : List Pr} {ord : List Nat} (k : KOk n ps ord) {x : Nat} :
    (x ∉ keptT ps ord → keptT (offP ps x) ord = keptT ps ord) ∧
    (x ∈ keptT ps ord → ∃ y, y ≠ x ∧ y ∈ ord ∧
      ((y ∉ keptT ps ord ∧ (∀ v, v ∈ keptT (offP ps x) ord ↔ v = y ∨ v ∈ keptT ps ord ∧ v ≠ x) ∧ ∃ r, someL ps ord (keptT ps ord) x = y :: r) ∨
       (y ∈ keptT ps ord ∧ (∀ v, v ∈ keptT (offP ps x) ord ↔ v ∈ keptT ps ord ∧ v ≠ x ∧ v ≠ y) ∧ someL ps ord (keptT ps ord) x = [] ∧ ∃ l, lastL ps ord (keptT ps ord) x = l ++ [y]))) := by
  have hwo : IsWeb n (offP ps x) := fun e he => k.hw e (offP_mem.mp he).1
  have ndo : (offP ps x).Nodup := List.Pairwise.filter _ k.nd
  have hino : ∀ e ∈ offP ps x, e.1 ∈ ord ∧ e.2 ∈ ord := fun e he => k.hin e (offP_mem.mp he).1
  obtain ⟨p, q, T⟩ := two_of (qs := offP ps x) k.ond k.hin hino
  refine ⟨fun hx => keptT_ext k.ond fun v => ((gone_same T off_gone (fun h => hx (mem_keptT.mpr h))) v).symm, fun hx => ?_⟩
  obtain ⟨y, hzy, hyo, hcase⟩ := gone_two T off_gone (mem_keptT.mp hx)
  have hrest : ∀ v, v ∈ restL (keptT ps ord) x ↔ v ∈ keptBy ps ord ∧ v ≠ x := fun v => by unfold restL; simp [mem_keptT]
  have hsv := kept_servable (offP ps x) ord
  refine ⟨y, Ne.symm hzy, hyo, ?_⟩
  rcases hcase with ⟨h1, h2⟩ | ⟨h1, h2⟩
  · refine .inl ⟨fun h => h1 (mem_keptT.mp h), fun v => by rw [mem_keptT, mem_keptT]; exact h2 v, ?_⟩
    have hys : y ∈ someL ps ord (keptT ps ord) x := by
      unfold someL
      refine List.mem_filter.mpr ⟨hyo, ?_⟩
      simp only [Bool.and_eq_true, Bool.not_eq_true', decide_eq_false_iff_not]
      refine ⟨fun h => h1 (mem_keptT.mp h), (can_iff hwo ndo).mpr (hsv.sub fun v hv => (h2 v).mpr ?_)⟩
      rcases List.mem_append.mp hv with h | h
      · exact .inr ((hrest v).mp h)
      · exact .inl (by simpa using h)
    cases hs : someL ps ord (keptT ps ord) x with
    | nil => rw [hs] at hys; cases hys
    | cons c r =>
      refine ⟨r, ?_⟩
      by_cases hc : c = y
      · rw [hc]
      · exfalso
        have hcm : c ∈ someL ps ord (keptT ps ord) x := by rw [hs]; exact List.mem_cons_self ..
        have hcf := List.mem_filter.mp hcm
        have hcp := hcf.2
        simp only [Bool.and_eq_true, Bool.not_eq_true', decide_eq_false_iff_not] at hcp
        obtain ⟨hc1, hc2⟩ := hcp
        have hsc := (can_iff hwo ndo).mp hc2
        obtain ⟨pre, post, he⟩ := List.append_of_mem hcf.1
        have hypre := come_first k.ond (R := fun v => v ∈ keptBy ps ord ∧ v ≠ x) h2 (S := restL (keptT ps ord) x ++ [c]) (fun v hv => List.mem_append_left _ ((hrest v).mpr hv)) (List.mem_append_right _ (by simp)) (fun hk => by
          rcases (h2 c).mp hk with g | g
          · exact hc g
          · exact hc1 (mem_keptT.mpr g.1)) hsc he
        -- y stands before c in the order, so before it in the filtered list
        have hsub : someL ps ord (keptT ps ord) x = pre.filter (fun v => !decide (v ∈ keptT ps ord) && canB (plansOf (offP ps x)) (restL (keptT ps ord) x ++ [v])) ++ (c :: post).filter (fun v => !decide (v ∈ keptT ps ord) && canB (plansOf (offP ps x)) (restL (keptT ps ord) x ++ [v])) := by
          unfold someL
          rw [← List.filter_append, ← he]
        have hyf : y ∈ pre.filter (fun v => !decide (v ∈ keptT ps ord) && canB (plansOf (offP ps x)) (restL (keptT ps ord) x ++ [v])) := List.mem_filter.mpr ⟨hypre, (List.mem_filter.mp hys).2⟩
        have hcpre : c ∉ pre := fun h => by
          have := k.ond
          rw [he, List.nodup_append] at this
          exact this.2.2 c h c (List.mem_cons_self ..) rfl
        cases hpf : pre.filter (fun v => !decide (v ∈ keptT ps ord) && canB (plansOf (offP ps x)) (restL (keptT ps ord) x ++ [v])) with
        | nil => rw [hpf] at hyf; cases hyf
        | cons d ds =>
          rw [hpf, hs] at hsub
          have hcd : c = d := by injection hsub
          have : d ∈ pre := (List.mem_filter.mp (by rw [hpf]; exact List.mem_cons_self .. : d ∈ pre.filter _)).1
          exact hcpre (by rw [hcd]; exact this)
  · refine .inr ⟨mem_keptT.mpr h1, fun v => by rw [mem_keptT, mem_keptT]; exact h2 v, ?_, ?_⟩
    · rw [List.eq_nil_iff_forall_not_mem]
      intro c hc
      have hcp := (List.mem_filter.mp hc).2
      simp only [Bool.and_eq_true, Bool.not_eq_true', decide_eq_false_iff_not] at hcp
      obtain ⟨pl, hpl, hps⟩ := (can_iff hwo ndo).mp hcp.2
      obtain ⟨pre, post, he⟩ := List.append_of_mem hyo
      have hyp : y ∈ verts pl := hps y (List.mem_append_left _ ((hrest y).mpr ⟨h1, Ne.symm hzy⟩))
      have hk : y ∈ keptBy (offP ps x) ord := by
        rw [he]
        refine kept_first hpl (fun v _ hv => ?_) hyp
        rw [← he] at hv
        have := (h2 v).mp hv
        exact hps v (List.mem_append_left _ ((hrest v).mpr ⟨this.1, this.2.1⟩))
      exact ((h2 y).mp hk).2.2 rfl
    · have hyl : y ∈ lastL ps ord (keptT ps ord) x := by
        unfold lastL
        refine List.mem_filter.mpr ⟨hyo, ?_⟩
        simp only [Bool.and_eq_true, decide_eq_true_eq]
        refine ⟨(hrest y).mpr ⟨h1, Ne.symm hzy⟩, (can_iff hwo ndo).mpr (hsv.sub fun v hv => (h2 v).mpr ?_)⟩
        have hv' := List.mem_filter.mp hv
        have hvr := (hrest v).mp hv'.1
        exact ⟨hvr.1, hvr.2, by simpa using hv'.2⟩
      obtain ⟨pre, post, he⟩ := List.append_of_mem hyo
      have hsub : lastL ps ord (keptT ps ord) x = pre.filter (fun v => decide (v ∈ restL (keptT ps ord) x) && canB (plansOf (offP ps x)) ((restL (keptT ps ord) x).filter fun u => !decide (u = v))) ++ ([y].filter (fun v => decide (v ∈ restL (keptT ps ord) x) && canB (plansOf (offP ps x)) ((restL (keptT ps ord) x).filter fun u => !decide (u = v))) ++ post.filter (fun v => decide (v ∈ restL (keptT ps ord) x) && canB (plansOf (offP ps x)) ((restL (keptT ps ord) x).filter fun u => !decide (u = v)))) := by
        unfold lastL
        rw [← List.filter_append, ← List.filter_append]
        congr 1
      have hpost : post.filter (fun v => decide (v ∈ restL (keptT ps ord) x) && canB (plansOf (offP ps x)) ((restL (keptT ps ord) x).filter fun u => !decide (u = v))) = [] := by
        rw [List.eq_nil_iff_forall_not_mem]
        intro c hc
        obtain ⟨hcp, hcc⟩ := List.mem_filter.mp hc
        simp only [Bool.and_eq_true, decide_eq_true_eq] at hcc
        have hyc : y ≠ c := fun e => by
          have := k.ond
          rw [he, List.nodup_append] at this
          exact (List.nodup_cons.mp this.2.1).1 (by rw [e]; exact hcp)
        have hcpre := go_last k.ond (R := fun v => v ∈ keptBy ps ord ∧ v ≠ x) (fun v => by rw [h2 v]; exact ⟨fun h => ⟨⟨h.1, h.2.1⟩, h.2.2⟩, fun h => ⟨h.1.1, h.1.2, h.2⟩⟩) ⟨h1, Ne.symm hzy⟩ hyc
          (S := (restL (keptT ps ord) x).filter fun u => !decide (u = c)) (fun v hv hvc => List.mem_filter.mpr ⟨(hrest v).mpr hv, by simpa using hvc⟩) ((can_iff hwo ndo).mp hcc.2) he
        have := k.ond
        rw [he, List.nodup_append] at this
        exact this.2.2 c hcpre c (List.mem_cons_of_mem _ hcp) rfl
      have hone : [y].filter (fun v => decide (v ∈ restL (keptT ps ord) x) && canB (plansOf (offP ps x)) ((restL (keptT ps ord) x).filter fun u => !decide (u = v))) = [y] := by
        rw [List.filter_cons, if_pos (List.mem_filter.mp hyl).2]; rfl
      exact ⟨_, by rw [hsub, hpost, hone, List.append_nil]⟩
end WK
/-! ### WE -/
set_option Elab.async false
set_option linter.all false
set_option maxRecDepth 100000
set_option maxHeartbeats 4000000
/-! The end for a law that needs to know that nothing guards around it (repr): a def's promise where the guards are known to be none. -/
namespace WK
open PySem PySem.Spec PyProof.Rows L2
structure FnG (P : Program) (w : World) (K : PySem.W.Frag) (mg : Str → Option Value) (base : Heap) (k : Nat) (f : Addr) (fd : FuncData) (ps : List Str) (sp : Sp) : Prop where
  go : ∀ (A : Around) (outer : List PySem.Env) (s : Shared) (H : Hp) (args : Args) (us : List Value) (vs : List V) (Q : VK) (E : XK), Room k A → A.guards = some [] → Env0 P w K mg base A outer s H →
    BindsTo s fd args (ps.zip us) → Vals vs us → sp vs H Q E → codeAny (model P w) A (.call (.ref f) args) (CR L2.CX0 outer P w H s Q E) s
theorem fnG {P : Program} {w : World} {K : PySem.W.Frag} {mg : Str → Option Value} {base : Heap} {x : Str} {st : Stmt} {f : Addr} {fd : FuncData} {N ps : List Str} {k : Nat} {sp : Sp} (F : FnP K x x st f fd) (S : FnScope N ps (defScope st))
    (len : ∀ vs H Q E, sp vs H Q E → vs.length = ps.length)
    (hbody : ∀ (cdv : Value) (A : Around) (outer : List PySem.Env) (s : Shared) (H : Hp) (vs : List V) (Q : VK) (E : XK), Room k (A.deeper (envOfC x (defScope st) s.heap.objs.size f cdv)) → A.guards = some [] → sp vs H Q E →
      ∃ t, PSs (cxOf L2.CX0 P w K mg base N x (defScope st) f cdv A outer s H E) (defBody st) t ∧ t { nx := fun _ H' => Q .non H', rt := Q } (start N vs) H) : FnG P w K mg base (k + 1) f fd ps sp := by
  obtain ⟨oc, od, dV, kV, doc, pm, an, cdv, ct, osl, rfl, lk, hcd, _, _⟩ := F.ex
  constructor
  intro A outer s H args us vs Q E room grd env bnd rel prom
  have count := len _ _ _ _ prom
  have old : ∀ b o, base.get? b = some o → s.heap.get? b = some o := fun b o e => (env.bs b o e).1
  have kIn : K.In s.heap := env.mod.kin.keeps old
  have kinds : ∀ y ∈ ps.zip us, (defScope st).names.lookup y.1 = some .local ∨ ((defScope st).names.lookup y.1 = some .cell ∧ ((cellsFrom (s.heap.objs.size + 1) (defScope st).names []).lookup y.1).isSome = true) := by
    intro y hy
    rcases S.par y.1 (List.of_mem_zip (a := y.1) (b := y.2) hy).1 with q | q
    · exact .inl q
    · exact .inr ⟨q, PySem.W.cellsFrom_some _ _ _ (.inl q)⟩
  refine codeAny_call_function room.depth (kIn _ _ lk) rfl S.co S.gen rfl (PySem.W.codeRec_of kIn hcd) (bnd _ _ _ _ (wpAny_newFunctionEnv_cells S.kind kinds fun e' he' s1 cc => ?_))
  subst he'
  refine ⟨(env.mod.nolimit.keeps old).keeps cc.toInCall.keep, codeAny_func ?_⟩
  obtain ⟨t, der, read⟩ := hbody cdv A outer s H vs Q E (room.deeper _) grd prom
  have inv : Inv (cxOf L2.CX0 P w K mg base N x (defScope st) f cdv A outer s H E) [] (start N vs) H s1 := inv_start S room.hd env count rel cc
  refine wpAny_mono (der.run [] s1 (start N vs) H _ inv read) (fun fl s2 hs => ?_) fun _ _ hs => hs
  match fl, hs with
  | .ret u, ⟨v, σ2, H2, J, rv, q⟩ => exact ⟨v, H2, J.os, J.bare, J.base, J.hok, rv, q⟩
  | .next, ⟨σ2, H2, J, q⟩ => exact ⟨V.non, H2, J.os, J.bare, J.base, J.hok, rfl, q⟩
  | .brk, ⟨_, _, _, q⟩ => exact False.elim q
  | .cont, ⟨_, _, _, q⟩ => exact False.elim q
/-- the script, seen in the heap: as the module's own object, or as a locked one -/
def seen (K : PySem.W.Frag) (a : Addr) (o : Obj) (ns : List Int) : Hp := fun b => match K.lookup a with
  | some _ => none
  | none => if b = a then some (.frz o (.lst (ns.map V.int))) else none
theorem seen_at {K : PySem.W.Frag} {a b : Addr} {o : Obj} {ns : List Int} {u : HO} (h : seen K a o ns b = some u) : b = a ∧ K.lookup a = none ∧ u = .frz o (.lst (ns.map V.int)) := by
  unfold seen at h
  cases hk : K.lookup a with
  | some x => rw [hk] at h; cases h
  | none =>
    rw [hk] at h
    by_cases hb : b = a
    · simp only [hb, if_true] at h
      exact ⟨hb, rfl, (Option.some.inj h).symm⟩
    · simp only [hb, if_false] at h
      cases h
theorem law_callG {P : Program} {w : World} {K : PySem.W.Frag} {mg mb : Str → Option Value} {k : Nat} {fa a : Addr} {fd : FuncData} {x : Str} {sp : Sp} {s1 : Shared} {vs : List Value} {ns : List Int}
    (kIn : K.In s1.heap) (nsG : s1.heap.Ns mainGlobals mg) (nsB : s1.heap.Ns builtinsNs mb) (bOk : ∀ x : Str, x ≠ "__name__" → mb x = bootBuiltins x) (nlim : s1.heap.NoLimit) (gens : s1.gens = #[])
    (obj : s1.heap.get? a = some { cls := .type "list", data := .seq vs.toArray }) (whole : IntsAre vs ns) (few : ns.length ≤ sizeLine) (room : Room k callerA)
    (F : ∀ base : Heap, K.In base → base.Ns mainGlobals mg → FnG P w K mg base k fa fd [x] sp) (bnd : ∀ (s : Shared) (u : Value), BindsTo s fd ⟨[u], []⟩ [(x, u)])
    (prom : ∀ H : Hp, SqL K H a (ns.map V.int) → sp [.ref a] H (fun v _ => v = .bl true) fun _ _ _ => False) :
    codeAny (model P w) callerA (.call (.ref fa) ⟨[.ref a], []⟩) (fun r s' => r = .ok (.ret (.bool true)) ∧ OldK s1.heap s'.heap ∧ s'.os = s1.os ∧ AllBare s'.gens) s1 := by
  have rel := vals_ints whole
  have cnt := whole.length
  generalize hob : ({ cls := .type "list", data := .seq vs.toArray } : Obj) = ob at *
  have clear : ∀ {b : Addr} {o : Obj}, K.lookup b = some o → seen K a ob ns b = none := fun {b o} e => by
    cases q : seen K a ob ns b with
    | none => rfl
    | some u =>
      obtain ⟨h1, h2, _⟩ := seen_at q
      rw [h1, h2] at e
      cases e
  have dict : ∀ {b : Addr} {o : Obj} {es : Array DictEntry} {ep : Nat}, s1.heap.get? b = some o → o.data = .dict es ep → seen K a ob ns b = none := fun {b o es ep} e d => by
    cases q : seen K a ob ns b with
    | none => rfl
    | some u =>
      obtain ⟨h1, _, _⟩ := seen_at q
      rw [h1, obj, ← hob] at e
      cases e
      cases d
  have hold : ∀ {b : Addr} {m : Str → Option Value}, s1.heap.Ns b m → (hidT s1.heap (seen K a ob ns)).Ns b m := fun {b m} ⟨o, es, ep, e, d, r⟩ => ⟨o, es, ep, hidT_get e (dict e d), d, r⟩
  have kBase : K.In (hidT s1.heap (seen K a ob ns)) := fun b o e => hidT_get (kIn b o e) (clear e)
  have hok : HOk P w (seen K a ob ns) s1.heap := fun b u z => by
    obtain ⟨h1, _, h3⟩ := seen_at z
    rw [h1, h3]
    exact ⟨obj, by rw [List.length_map]; exact few, vs, _, rel, by rw [obj, ← hob]⟩
  have md : Mod K mg (hidT s1.heap (seen K a ob ns)) := ⟨kBase, hold nsG, ⟨mb, hold nsB, bOk⟩, by obtain ⟨mc, h1, h2⟩ := nlim; exact ⟨mc, hold h1, h2⟩⟩
  have env : Env0 P w K mg (hidT s1.heap (seen K a ob ns)) callerA [] s1 (seen K a ob ns) :=
    ⟨rfl, md, fun b o e => of_hidT e, Nat.le_of_eq (hidT_size _ _), trivial, fun b hb => (nomatch hb), hok, .of_eq gens⟩
  have script : SqL K (seen K a ob ns) a (ns.map V.int) := by
    cases hk : K.lookup a with
    | some o =>
      have e := kIn a o hk
      rw [obj] at e
      cases e
      rw [← hob] at hk
      exact .inr ⟨_, vs.toArray, _, hk, rfl, rfl, rfl, by rw [List.size_toArray, cnt]; exact few, by simpa using rel⟩
    | none => exact .inl (.inr ⟨ob, by unfold seen; rw [hk]; exact if_pos rfl⟩)
  refine codeAny_mono ((F _ kBase (hold nsG)).go callerA [] s1 (seen K a ob ns) ⟨[.ref a], []⟩ [.ref a] [.ref a] _ _ room rfl env (bnd s1 (.ref a)) (.cons rfl .nil) (prom _ script)) fun r s2 h => ?_
  match r, h with
  | .error e, h => exact (show False from h).elim
  | .ok .next, h => exact (show False from h).elim
  | .ok .brk, h => exact (show False from h).elim
  | .ok .cont, h => exact (show False from h).elim
  | .ok (.ret u), ⟨v, H2, os, bare, un, hok2, rv, q⟩ =>
    have q2 : v = .bl true := q
    subst q2
    have ru : u = Value.bool true := rv
    subst ru
    refine ⟨rfl, OldK.of_keep fun b o e => ?_, os, bare⟩
    cases z : seen K a ob ns b with
    | none => exact un.keep b o e z (fun m => nomatch m) (by simp)
    | some u =>
      obtain ⟨h1, _, h3⟩ := seen_at z
      subst h3
      obtain ⟨g1, _⟩ := hok b _ z
      obtain ⟨g2, _⟩ := hok2 b _ (un.frzs b ob _ z)
      rw [e] at g1
      cases g1
      exact g2
theorem walkG {l : PySem.W.OpenLaw} {n k : Nat} {q : Program} {loose : List Str} {XP : (Str → Option Value) → Heap → Prop} {YP : World → Heap → Prop} {d : DefRec} {x : Str}
    (hn : l.most = some n) (hn2 : n ≤ sizeLine) (hdf : d.params.defaults = []) (room : Room k callerA)
    (F : ∀ (w : World) (mg : Str → Option Value) (fa : Addr) (h : Heap), YP w h → h.Ns mainGlobals mg → mg d.name = some (.ref fa) →
      ∃ (K : PySem.W.Frag) (fd : FuncData) (sp : Sp), K.In h ∧ (∀ (s : Shared) (u : Value), BindsTo s fd ⟨[u], []⟩ [(x, u)]) ∧ (∀ (H : Hp) (a : Addr) (ns : List Int), SqL K H a (ns.map V.int) → sp [.ref a] H (fun v _ => v = .bl true) fun _ _ _ => False) ∧
        ∀ base : Heap, K.In base → base.Ns mainGlobals mg → FnG l.prog w K mg base k fa fd [x] sp) : PySem.W.WalkO q loose XP YP l.row.toRowW d [] (fun f vs => PySem.call f vs) :=
  Att.attach_call hn hdf fun w s0 s1 mg mb fa o pm cd doc a vs ns G Y ho hd hcd hmg hobj hints hlen hg => by
    obtain ⟨K, fd, sp, kIn, hb, hsp, hF⟩ := F w mg fa _ Y G.T.g hmg
    exact law_callG kIn G.T.g G.T.b G.T.builtins G.T.nolimit hg hobj hints (Nat.le_trans hlen hn2) room hF hb fun H hS => hsp H a ns hS
end WK
/-! ### WF -/
set_option Elab.async false
set_option linter.all false
set_option maxRecDepth 100000
set_option maxHeartbeats 4000000
/-! what repr says is short -/
namespace WK
open PySem PySem.Spec PyProof.Rows L2 Evl DX DL KM
theorem short_N : ∀ n, n < 61 → PyData.intsShort 13 (dN n) = true ∧ PyData.showable (dN n) = true := by decide +kernel
theorem wt_N : ∀ n, n < 61 → PyData.weight (dN n) ≤ 6 := by decide +kernel
structure RepW (d : PyData) (k w : Nat) : Prop where
  lay : d.canLay0 = true
  dep : d.depth ≤ k
  wt : d.weight ≤ w
  sh : d.intsShort 13 = true
  show_ : d.showable = true
theorem repw_N {n : Nat} (h : n < 61) : RepW (dN n) 0 6 := ⟨canLay_N n, depth_N n, wt_N n h, (short_N n h).1, (short_N n h).2⟩
theorem repw_all {k w : Nat} : ∀ xs : List PyData, (∀ x ∈ xs, RepW x k w) → PyData.canLayAll0 xs = true ∧ PyData.depthAll xs ≤ k ∧ PyData.weightAll xs ≤ xs.length * (w + 1) ∧ PyData.intsShortAll 13 xs = true ∧ PyData.showableAll xs = true
  | [], _ => ⟨by simp [PyData.canLayAll0], by simp [PyData.depthAll], by simp [PyData.weightAll], by simp [PyData.intsShortAll], by simp [PyData.showableAll]⟩
  | x :: xs, h => by
    obtain ⟨h1, h2, h3, h4, h5⟩ := repw_all xs fun y hy => h y (List.mem_cons_of_mem _ hy)
    have hx := h x (List.mem_cons_self ..)
    refine ⟨by simp [PyData.canLayAll0, hx.lay, h1], ?_, ?_, by simp [PyData.intsShortAll, hx.sh, h4], by simp [PyData.showableAll, hx.show_, h5]⟩
    · simp only [PyData.depthAll]
      exact Nat.max_le.mpr ⟨hx.dep, h2⟩
    · simp only [PyData.weightAll, List.length_cons]
      have := hx.wt
      rw [Nat.succ_mul]
      omega
theorem repw_tup {k w : Nat} {xs : List PyData} (h : ∀ x ∈ xs, RepW x k w) : RepW (.tuple xs) (k + 1) (xs.length * (w + 1)) := by
  obtain ⟨h1, h2, h3, h4, h5⟩ := repw_all xs h
  exact ⟨by simpa [PyData.canLay0] using h1, by simp only [PyData.depth]; omega, by simpa [PyData.weight] using h3, by simpa [PyData.intsShort] using h4, by simpa [PyData.showable] using h5⟩
theorem RepW.up {d : PyData} {k w k' w' : Nat} (h : RepW d k w) (h1 : k ≤ k') (h2 : w ≤ w') : RepW d k' w' := ⟨h.lay, Nat.le_trans h.dep h1, Nat.le_trans h.wt h2, h.sh, h.show_⟩
theorem repw_P {e : Pr} (h : e.1 < 61 ∧ e.2 < 61) : RepW (dP e) 1 14 := repw_tup (xs := [dN e.1, dN e.2]) (by
  intro x hx
  simp only [List.mem_cons, List.not_mem_nil, or_false] at hx
  rcases hx with rfl | rfl
  · exact repw_N h.1
  · exact repw_N h.2)
theorem repw_Ns {l : List Nat} (h : ∀ v ∈ l, v < 61) (hl : l.length ≤ 1000) : RepW (dNs l) 1 7000 := (repw_tup (xs := l.map dN) (by
  intro x hx
  obtain ⟨v, hv, rfl⟩ := List.mem_map.mp hx
  exact repw_N (h v hv))).up (by omega) (by rw [List.length_map]; omega)
theorem repw_Ps {l : List Pr} (h : ∀ e ∈ l, e.1 < 61 ∧ e.2 < 61) (hl : l.length ≤ 1000) : RepW (dPs l) 2 15000 := (repw_tup (xs := l.map dP) (by
  intro x hx
  obtain ⟨v, hv, rfl⟩ := List.mem_map.mp hx
  exact repw_P (h v hv))).up (by omega) (by rw [List.length_map]; omega)
theorem repw_s {z : Str} (h : (PyData.str z).canLay0 = true) (h2 : z.cps.size ≤ 10) : RepW (.str z) 0 10 := ⟨h, by simp [PyData.depth], by simpa [PyData.weight] using h2, by simp [PyData.intsShort], by simp [PyData.showable]⟩
theorem RepW.len {d : PyData} {k w : Nat} (h : RepW d k w) (hk : k ≤ 20) (hw : w ≤ 1000000) : d.shown.length ≤ sizeLine := by
  refine Nat.le_trans (shown_le13 ?_ h.sh) (by decide)
  show (PyData.canLay0 d && decide (PyData.depth d ≤ 64) && decide (PyData.weight d ≤ 2 ^ 20)) = true
  have := h.dep
  have := h.wt
  simp only [Bool.and_eq_true, decide_eq_true_eq]
  exact ⟨⟨h.lay, by omega⟩, by omega⟩
/-- repr of data that is alike on both sides -/
theorem ev_repr {K : PySem.W.Frag} {σ : L2.St} {H : Hp} {te : TE} {ds : List PyData} {k w : Nat} (h : EvD K te σ H (.tuple ds)) (r : RepW (.tuple ds) k w) (hk : k ≤ 20) (hw : w ≤ 1000000) : Ev (tCB (rReprG K) (tCons te tNil)) σ H (.str (PyData.tuple ds).shown) := fun H1 e Q q =>
  h H1 e _ fun v H2 e2 hv => by
    obtain ⟨a, xs, rfl, _, _⟩ := dp_tup hv
    exact ⟨a, .tuple ds, rfl, hv, r.show_, PyData.hasDict_of_canLay _ r.lay, Nat.le_trans r.dep hk, r.len hk hw, q H2 e2⟩
theorem repw_W {n : Nat} {l : List Pr} (hn : n < 61) (h : ∀ e ∈ l, e.1 < 61 ∧ e.2 < 61) (hl : l.length ≤ 1000) : RepW (dW n l) 3 50000 := (repw_tup (k := 2) (w := 15000) (xs := [dN n, dPs l]) (by
  intro x hx
  simp only [List.mem_cons, List.not_mem_nil, or_false] at hx
  rcases hx with rfl | rfl
  · exact (repw_N hn).up (by omega) (by omega)
  · exact repw_Ps h hl)).up (by omega) (by simp)
theorem repw_same : RepW (.tuple [.str "same"]) 3 50000 := (repw_tup (k := 0) (w := 10) (xs := [.str "same"]) (by
  intro x hx
  have : x = .str "same" := by simpa using hx
  rw [this]
  exact repw_s (by simp only [PyData.canLay0]; decide +kernel) (by decide +kernel))).up (by omega) (by simp)
theorem repw_word {z : Str} {d : PyData} (hz : RepW (.str z) 0 10) (h : RepW d 1 7000) : RepW (.tuple [.str z, d]) 3 50000 := (repw_tup (k := 1) (w := 7000) (xs := [.str z, d]) (by
  intro x hx
  simp only [List.mem_cons, List.not_mem_nil, or_false] at hx
  rcases hx with rfl | rfl
  · exact hz.up (by omega) (by omega)
  · exact h)).up (by omega) (by simp)
theorem repw_inst {a b : Nat} (ha : a < 61) (hb : b < 61) : RepW (.tuple [.str "instead", dN a, dN b]) 3 50000 := (repw_tup (k := 0) (w := 10) (xs := [.str "instead", dN a, dN b]) (by
  intro x hx
  simp only [List.mem_cons, List.not_mem_nil, or_false] at hx
  rcases hx with rfl | rfl | rfl
  · exact repw_s (by simp only [PyData.canLay0]; decide +kernel) (by decide +kernel)
  · exact (repw_N ha).up (by omega) (by omega)
  · exact (repw_N hb).up (by omega) (by omega))).up (by omega) (by simp)
end WK
/-! ### W17a -/
set_option Elab.async false
set_option linter.all false
set_option maxRecDepth 100000
set_option maxHeartbeats 8000000
/-! the law's blocks: a pair turned -/
namespace WK
open PySem PySem.Spec PyProof.Rows L2 Evl DX DL KM C8
structure Fix (n : Nat) (ps : List Pr) (ord : List Nat) : Prop where
  W : WebOk n ps
  n1 : 1 ≤ n
  n7 : n ≤ 7
  pm : ord.Perm (List.range n)
theorem Fix.mem {n : Nat} {ps : List Pr} {ord : List Nat} (x : Fix n ps ord) {v : Nat} : v ∈ ord ↔ v < n := by rw [x.pm.mem_iff, List.mem_range]
theorem Fix.olen {n : Nat} {ps : List Pr} {ord : List Nat} (x : Fix n ps ord) : ord.length = n := by rw [x.pm.length_eq, List.length_range]
theorem Fix.ond {n : Nat} {ps : List Pr} {ord : List Nat} (x : Fix n ps ord) : ord.Nodup := x.pm.nodup_iff.mpr List.nodup_range
theorem Fix.kok {n : Nat} {ps : List Pr} {ord : List Nat} (x : Fix n ps ord) {qs : List Pr} (hw : IsWeb n qs) (nd : qs.Nodup) (hl : qs.length ≤ 22) : KOk n qs ord :=
  ⟨hw, nd, hl, x.ond, by have := x.olen; have := x.n7; omega, fun e he => by have := hw e he; rw [x.mem, x.mem]; omega⟩
theorem Fix.wok {n : Nat} {ps : List Pr} {ord : List Nat} (x : Fix n ps ord) : WOk n ps := ⟨by have := x.n7; omega, by have := x.W.len; omega, x.W.hw⟩
theorem Fix.ook {n : Nat} {ps : List Pr} {ord : List Nat} (x : Fix n ps ord) : OrdOk n ord := ⟨fun v hv => x.mem.mp hv, by have := x.olen; have := x.n7; omega⟩
theorem keptT_lt {n : Nat} {ps qs : List Pr} {ord : List Nat} (x : Fix n ps ord) {v : Nat} (h : v ∈ keptT qs ord) : v < n := x.mem.mp (kept_mem_ord (mem_keptT.mp h))
structure Ctx (K : PySem.W.Frag) (p q : Addr) (n : Nat) (ps : List Pr) (ord : List Nat) (pv ov wv kv : V) (H : Hp) : Prop where
  deal : Deal p q H
  hp : Dp K H pv (dPs ps)
  ho : Dp K H ov (dNs ord)
  hw : Dp K H wv (dW n ps)
  hk : Dp K H kv (dNs (keptT ps ord))
section
variable {K : PySem.W.Frag} {p q : Addr} {n : Nat} {ps : List Pr} {ord : List Nat} {pv ov wv kv : V} {H H' : Hp}
theorem Ctx.ex (c : Ctx K p q n ps ord pv ov wv kv H) (e : Ex H H') : Ctx K p q n ps ord pv ov wv kv H' := ⟨c.deal.mono e, dp_mono e c.hp, dp_mono e c.ho, dp_mono e c.hw, dp_mono e c.hk⟩
theorem Ctx.fr (c : Ctx K p q n ps ord pv ov wv kv H) (f : FrD p q H H') (d : Deal p q H') : Ctx K p q n ps ord pv ov wv kv H' := by
  have t := f.toT c.deal
  exact ⟨d, dp_monoT t (tupD_Ps _) c.hp, dp_monoT t (tupD_Ns _) c.ho, dp_monoT t (tupD_W _ _) c.hw, dp_monoT t (tupD_Ns _) c.hk⟩
theorem ndeal (d : Deal p q H) {a : Addr} (h : H a = none) : a ≠ p ∧ a ≠ q := by
  obtain ⟨_, xs, b, h1, h2, _⟩ := d
  exact ⟨(ne_of_none h1 h).symm, (ne_of_none h2 h).symm⟩
variable {σ : L2.St} {ta tb tc : TE} {E : XK}
theorem evd_kw2 {R : List PyData → PyData → Prop} {d1 d2 d : PyData} (ha : EvD K ta σ H d1) (hb : EvD K tb σ H d2) (hR : R [d2, d1] d) : EvD K (tCallK (spR K 2 R) g2 E tNil (tCons ta (tCons tb tNil))) σ H d := fun H1 e Q q => by
    refine (show tCons ta (tCons tb tNil) σ H1 (fun zs H2 => spR K 2 R (g2 [] zs) H2 Q E) from eda_cons ha (eda_cons hb eda_nil) H1 e _ fun vs H2 e2 hv => ?_)
    obtain ⟨v, r, rfl, h1, h2⟩ := dpa_cons hv
    obtain ⟨u, r, rfl, h3, h4⟩ := dpa_cons h2
    cases dpa_nil h4
    exact ⟨rfl, [d2, d1], d, .cons h3 (.cons h1 .nil), hR, fun v H3 e3 h => q v H3 (e2.trans e3) h⟩
theorem evd_kw3 {R : List PyData → PyData → Prop} {d1 d2 d3 d : PyData} (ha : EvD K ta σ H d1) (hb : EvD K tb σ H d2) (hc : EvD K tc σ H d3) (hR : R [d3, d2, d1] d) : EvD K (tCallK (spR K 3 R) g3 E tNil (tCons ta (tCons tb (tCons tc tNil)))) σ H d := fun H1 e Q q => by
    refine (show tCons ta (tCons tb (tCons tc tNil)) σ H1 (fun zs H2 => spR K 3 R (g3 [] zs) H2 Q E) from eda_cons ha (eda_cons hb (eda_cons hc eda_nil)) H1 e _ fun vs H2 e2 hv => ?_)
    obtain ⟨v, r, rfl, h1, h2⟩ := dpa_cons hv
    obtain ⟨u, r, rfl, h3, h4⟩ := dpa_cons h2
    obtain ⟨x, r, rfl, h5, h6⟩ := dpa_cons h4
    cases dpa_nil h6
    exact ⟨rfl, [d3, d2, d1], d, .cons h5 (.cons h3 (.cons h1 .nil)), hR, fun v H3 e3 h => q v H3 (e2.trans e3) h⟩
theorem cutV_to (xs : List V) (k : Nat) : cutV xs none (some (k : Int)) = xs.take k := by
  unfold cutV
  rw [HT.sIx_nat, HT.sIx_none, Nat.sub_zero, List.drop_zero]
  by_cases h : k ≤ xs.length
  · rw [Nat.min_eq_left h]
  · rw [Nat.min_eq_right (by omega), List.take_length, List.take_of_length_le (by omega)]
/-- both say the same -/
theorem et_same {z : Str} (ha : Ev ta σ H (.str z)) (hb : Ev tb σ H (.str z)) : EvT (tTest (tOp rNe ta tb)) σ H false := et_test (ev_is (ev_op ha hb (rv_ne rfl)) (by simp))
end
/-- what a change says, and what is to be checked of it -/
theorem turned_due {n : Nat} {ps : List Pr} {ord : List Nat} (x : Fix n ps ord) {e : Pr} (he : e.1 < e.2 ∧ e.2 < n) : ∃ (z : Str) (rest : List PyData),
    lnewsD (comes (keptT ps ord) (keptT (turnedW ps e) ord)) (comes (keptT (turnedW ps e) ord) (keptT ps ord)) = .tuple (.str z :: rest) ∧ RepW (.tuple (.str z :: rest)) 3 50000 ∧
    newsD (comes (keptT ps ord) (keptT (turnedW ps e) ord)) (comes (keptT (turnedW ps e) ord) (keptT ps ord)) = .tuple (.str z :: rest) ∧
    (if e ∈ ps then z ≠ "come" else z ≠ "go") ∧ ((PyData.tuple (.str z :: rest) = .tuple [.str "same"]) ∨ (e.1 ∈ (if e ∈ ps then keptT ps ord else keptT (turnedW ps e) ord) ∧ e.2 ∈ (if e ∈ ps then keptT ps ord else keptT (turnedW ps e) ord))) := by
  have W2 := turnedW_ok x.wok (by have := x.W.len; omega) he
  have h1 : ∀ d ∈ ps, d.1 ∈ ord ∧ d.2 ∈ ord := fun d hd => by have := x.W.hw d hd; rw [x.mem, x.mem]; omega
  have h2 : ∀ d ∈ turnedW ps e, d.1 ∈ ord ∧ d.2 ∈ ord := fun d hd => by have := W2.hw d hd; rw [x.mem, x.mem]; omega
  have haw : AwayFrom e.1 ps (turnedW ps e) := fun d a b => by
    rw [turnedW_mem]
    have hne : d ≠ e := fun z => a (by rw [z])
    split <;> simp [hne]
  have hnl := news_len x.ond h1 h2 haw
  have hsum : (comes (keptT ps ord) (keptT (turnedW ps e) ord) = [] ∧ comes (keptT (turnedW ps e) ord) (keptT ps ord) = []) ∨ (comes (keptT ps ord) (keptT (turnedW ps e) ord)).length + (comes (keptT (turnedW ps e) ord) (keptT ps ord)).length = 2 := hnl.imp id fun h => h.1
  have hboth : (∃ v, ¬ (v ∈ keptBy ps ord ↔ v ∈ keptBy (turnedW ps e) ord)) → e.1 ∈ (if e ∈ ps then keptT ps ord else keptT (turnedW ps e) ord) ∧ e.2 ∈ (if e ∈ ps then keptT ps ord else keptT (turnedW ps e) ord) := by
    rintro ⟨v, hv⟩
    obtain ⟨p, q, T⟩ := two_of x.ond h1 h2
    by_cases hin : e ∈ ps
    · rw [if_pos hin, mem_keptT, mem_keptT]
      exact pair_both T.symm (d := e) (fun d hd => by rw [turnedW_mem, if_pos hin]; simp [hd]) (by rw [turnedW_mem, if_pos hin]; simp) (fun g => hv g.symm)
    · rw [if_neg hin, mem_keptT, mem_keptT]
      exact pair_both T (d := e) (fun d hd => by rw [turnedW_mem, if_neg hin]; simp [hd]) hin hv
  have hcm : ∀ v, v ∈ comes (keptT ps ord) (keptT (turnedW ps e) ord) ↔ v ∈ keptBy (turnedW ps e) ord ∧ v ∉ keptBy ps ord := fun v => by rw [mem_comes, mem_keptT, mem_keptT]
  have hgn : ∀ v, v ∈ comes (keptT (turnedW ps e) ord) (keptT ps ord) ↔ v ∈ keptBy ps ord ∧ v ∉ keptBy (turnedW ps e) ord := fun v => by rw [mem_comes, mem_keptT, mem_keptT]
  have hcl : ∀ v ∈ comes (keptT ps ord) (keptT (turnedW ps e) ord), v < 61 := fun v hv => by have := keptT_lt x (mem_comes.mp hv).1; have := x.n7; omega
  have hgl : ∀ v ∈ comes (keptT (turnedW ps e) ord) (keptT ps ord), v < 61 := fun v hv => by have := keptT_lt x (mem_comes.mp hv).1; have := x.n7; omega
  have hgo : e ∈ ps → comes (keptT ps ord) (keptT (turnedW ps e) ord) ≠ [] → comes (keptT (turnedW ps e) ord) (keptT ps ord) ≠ [] := fun hin hc hg => by
    refine hc (List.eq_nil_iff_forall_not_mem.mpr fun v hv => ?_)
    have hh := (hcm v).mp hv
    exact hh.2 (kept_grow (ps := turnedW ps e) (qs := ps) (ord := ord) (fun d hd => by rw [turnedW_mem, if_pos hin] at hd; exact hd.1) (fun u hu => Classical.byContradiction fun g => by
      have : u ∈ comes (keptT (turnedW ps e) ord) (keptT ps ord) := (hgn u).mpr ⟨hu, g⟩
      rw [hg] at this
      cases this) v hh.1)
  have hco : e ∉ ps → comes (keptT (turnedW ps e) ord) (keptT ps ord) ≠ [] → comes (keptT ps ord) (keptT (turnedW ps e) ord) ≠ [] := fun hin hg hc => by
    refine hg (List.eq_nil_iff_forall_not_mem.mpr fun v hv => ?_)
    have hh := (hgn v).mp hv
    exact hh.2 (kept_grow (ps := ps) (qs := turnedW ps e) (ord := ord) (fun d hd => by rw [turnedW_mem, if_neg hin]; exact .inl hd) (fun u hu => Classical.byContradiction fun g => by
      have : u ∈ comes (keptT ps ord) (keptT (turnedW ps e) ord) := (hcm u).mpr ⟨hu, g⟩
      rw [hc] at this
      cases this) v hh.1)
  have hex : (comes (keptT ps ord) (keptT (turnedW ps e) ord)).length + (comes (keptT (turnedW ps e) ord) (keptT ps ord)).length = 2 → ∃ v, ¬ (v ∈ keptBy ps ord ↔ v ∈ keptBy (turnedW ps e) ord) := fun h => by
    rcases hnl with ⟨a, b⟩ | h
    · rw [a, b] at h; cases h
    · exact h.2.2
  rw [news_eq hsum]
  have hcl1 : (comes (keptT ps ord) (keptT (turnedW ps e) ord)).length ≤ 1000 := Nat.le_trans (List.length_filter_le _ _) (keptT_len x.ook)
  have hgl1 : (comes (keptT (turnedW ps e) ord) (keptT ps ord)).length ≤ 1000 := Nat.le_trans (List.length_filter_le _ _) (keptT_len x.ook)
  generalize comes (keptT ps ord) (keptT (turnedW ps e) ord) = come at *
  generalize comes (keptT (turnedW ps e) ord) (keptT ps ord) = gone at *
  by_cases h0 : come = [] ∧ gone = []
  · refine ⟨"same", [], by rw [lnewsD, if_pos h0], repw_same, by rw [lnewsD, if_pos h0], by split <;> decide, .inl rfl⟩
  · have h2 : come.length + gone.length = 2 := hsum.resolve_left h0
    have hb := hboth (hex h2)
    by_cases h1 : come.length = 1 ∧ gone.length = 1
    · obtain ⟨a, ha⟩ := List.length_eq_one_iff.mp h1.1
      obtain ⟨b, hb'⟩ := List.length_eq_one_iff.mp h1.2
      refine ⟨"instead", _, by rw [lnewsD, if_neg h0, if_pos h1], repw_inst ?_ ?_, by rw [lnewsD, if_neg h0, if_pos h1], by split <;> decide, .inr hb⟩
      · rw [ha]; exact hcl a (by rw [ha]; simp)
      · rw [hb']; exact hgl b (by rw [hb']; simp)
    · have h3 : ¬ (come.length + gone.length ≠ 2) := by omega
      by_cases hg : gone = []
      · have hc : come ≠ [] := fun z => h0 ⟨z, hg⟩
        have hni : e ∉ ps := fun hin => hgo hin hc hg
        refine ⟨"come", _, by rw [lnewsD, if_neg h0, if_neg h1, if_neg h3, if_pos hg], repw_word (repw_s (by simp only [PyData.canLay0]; decide +kernel) (by decide +kernel)) (repw_Ns hcl hcl1), by rw [lnewsD, if_neg h0, if_neg h1, if_neg h3, if_pos hg], ?_, .inr hb⟩
        rw [if_neg hni]; decide
      · have hin : e ∈ ps := Classical.byContradiction fun hni => by
          have hc := hco hni hg
          have g1 := List.length_pos_iff.mpr hg
          have g2 := List.length_pos_iff.mpr hc
          omega
        refine ⟨"go", _, by rw [lnewsD, if_neg h0, if_neg h1, if_neg h3, if_neg hg], repw_word (repw_s (by simp only [PyData.canLay0]; decide +kernel) (by decide +kernel)) (repw_Ns hgl hgl1), by rw [lnewsD, if_neg h0, if_neg h1, if_neg h3, if_neg hg], ?_, .inr hb⟩
        rw [if_pos hin]; decide
def tFalse : TS := tRet (tC (.bl false))
def t_b1 (K : PySem.W.Frag) : TS :=
  tSeq (tAsg (tSl (rSlL K) (tCall (spMixed K) [] C8.E0 (tCons (tVar 1) (tCons (tLstRg (tRg1 (tVar 3))) tNil))) tNoPart (tPart (tC (V.int 2)))) (gName 9))
  (tSeq (tAsg (tTup (tCons (tCB (rBest K PySem.W.minD) (tCons (tVar 9) tNil)) (tCons (tCB (rBest K PySem.W.maxD) (tCons (tVar 9) tNil)) tNil))) (gName 10))
  (tSeq (tAsg (tCB (rTupOf K) (tCons (tCB (rSortG K) (tCons (tOp rCat (tLc (iTup K (tVar 4)) (gName 17) (tTest (tOp (rNeD K) (tVar 17) (tVar 10))) (tVar 17) [17])
      (tIf (tTest (tOp (rInT K false) (tVar 10) (tVar 4))) (tLst tNil) (tLst (tCons (tVar 10) tNil)))) tNil)) tNil)) (gName 11))
  (tSeq (tAsg (tCall (spR K 2 R_lkept) [] C8.E0 (tCons (tVar 11) (tCons (tVar 5) tNil))) (gName 12))
  (tSeq (tAsg (tCall (spR K 2 R_lnews) [] C8.E0 (tCons (tVar 7) (tCons (tVar 12) tNil))) (gName 13))
  (tSeq (tIfS (tOr (tTest (tOp rIsN' (tVar 13) (tC V.non))) (tTest (tOp rNe (tCB (rReprG K) (tCons (tCallK (spR K 2 R_pair_turned) g2 C8.E0 tNil (tCons (tVar 10) (tCons (tVar 6) tNil))) tNil)) (tCB (rReprG K) (tCons (tTup (tCons (tVar 3) (tCons (tVar 11) tNil))) tNil))))) tFalse tNext)
  (tSeq (tIfS (tOr (tTest (tOp rNe (tCB (rReprG K) (tCons (tCallK (spR K 3 R_pair_news) g3 C8.E0 tNil (tCons (tVar 10) (tCons (tVar 5) (tCons (tVar 6) tNil)))) tNil)) (tCB (rReprG K) (tCons (tVar 13) tNil))))
      (tTest (tOp rEq (tOp (rIxT K) (tVar 13) (tC (V.int 0))) (tIf (tTest (tOp (rInT K false) (tVar 10) (tVar 4))) (tC (V.str "come")) (tC (V.str "go")))))) tFalse tNext)
    (tIfS (tAnd (tTest (tOp (rNeD K) (tVar 13) (tTup (tCons (tC (V.str "same")) tNil)))) (tTest (tOp (rNeD K) (tLc (iTup K (tVar 10)) (gName 17) (tTest (tOp (rIn K true) (tVar 17) (tIf (tTest (tOp (rInT K false) (tVar 10) (tVar 4))) (tVar 7) (tVar 12)))) (tVar 17) [17]) (tLst tNil)))) tFalse tNext)))))))
theorem s_ifN {D : Ends} {σ : L2.St} {H : Hp} {t : TT} {tu : TS} (h : EvT t σ H false) (k : ∀ H1, Ex H H1 → D.nx σ H1) : tIfS t tu tNext D σ H := h H (Ex.refl H) _ fun H1 e => k H1 e
theorem blk1 {K : PySem.W.Frag} {p q : Addr} {n : Nat} {ps : List Pr} {ord : List Nat} {pv ov wv kv : V} {H : Hp} {D : Ends} (x : Fix n ps ord) (c : Ctx K p q n ps ord pv ov wv kv H) (hn : 2 ≤ n) {s : V} {t o8 o9 o10 o11 o12 o13 o14 o15 o16 : Option V}
    (k : ∀ o9 o10 o11 o12 o13 H', Ctx K p q n ps ord pv ov wv kv H' → D.nx [some s, some (.ref p), t, some (vN n), some pv, some ov, some wv, some kv, o8, o9, o10, o11, o12, o13, o14, o15, o16, none] H') :
    t_b1 K D [some s, some (.ref p), t, some (vN n), some pv, some ov, some wv, some kv, o8, o9, o10, o11, o12, o13, o14, o15, o16, none] H := by
  have hn7 := x.n7
  refine ⟨_, rfl, (el_lrg (σ := [some s, some (.ref p), t, some (vN n), some pv, some ov, some wv, some kv, o8, o9, o10, o11, o12, o13, o14, o15, o16, none]) (tb := tVar 3) (n := n) (by omega) (ev_var rfl)) H (Ex.refl _) _ fun sl Hs hs es hHs => ⟨p, q, sl, List.range n, rfl, by simp; omega, (ndeal c.deal hs).1, (ndeal c.deal hs).2, hHs, c.deal.mono es, fun r l' H1 hper hr hf1 hd1 hr1 => ?_⟩⟩
  have c1 : Ctx K p q n ps ord pv ov wv kv H1 := (c.ex es).fr hf1 hd1
  have hll : l'.length = n := by rw [hper.length_eq, List.length_range]
  have hlt : ∀ v ∈ l', v < n := fun v hv => List.mem_range.mp (hper.mem_iff.mp hv)
  have hnd : l'.Nodup := hper.nodup_iff.mpr List.nodup_range
  obtain ⟨u1, u2, l2, hl2⟩ : ∃ u1 u2 l2, l' = u1 :: u2 :: l2 := by
    match l', hll with
    | [], h => simp at h; omega
    | [a], h => simp at h; omega
    | a :: b :: l, _ => exact ⟨a, b, l, rfl⟩
  have hu1 := hlt u1 (by rw [hl2]; simp)
  have hu2 := hlt u2 (by rw [hl2]; simp)
  have hne : u1 ≠ u2 := fun e => by rw [hl2, e] at hnd; simp at hnd
  refine ⟨2, rfl, r, l'.map vN, rfl, sq_of hr1, fun b hb => ?_⟩
  have ht2 : cutV (l'.map vN) none (some 2) = [vN u1, vN u2] := by
    rw [show (some (2 : Int)) = some ((2 : Nat) : Int) from rfl, cutV_to, hl2]; rfl
  rw [ht2]
  have c2 := c1.ex (Ex.new (o := .lst [vN u1, vN u2]) hb)
  have hb2 : (upd H1 b (.lst [vN u1, vN u2])) b = some (.lst [vN u1, vN u2]) := upd_same
  generalize upd H1 b (.lst [vN u1, vN u2]) = H2 at *
  have htwo : ∀ {H3 : Hp}, Ex H2 H3 → Dp K H3 (.ref b) (.list [dN u1, dN u2]) := fun e => .lst (sq_of (e _ _ hb2)) (N_dpa [u1, u2])
  dsimp only
  obtain ⟨e, hee⟩ : ∃ e : Pr, e = (min u1 u2, max u1 u2) := ⟨_, rfl⟩
  have he : e.1 < e.2 ∧ e.2 < n := by rw [hee]; simp only; omega
  refine q_asgP (P := fun v H => Dp K H v (dP e)) (evd_is (evd_tup (eda_cons (evd_min2 (.inr (evd_of (ev_var rfl) fun H3 e3 => htwo e3))) (eda_cons (evd_max2 (.inr (evd_of (ev_var rfl) fun H3 e3 => htwo e3))) eda_nil)) (by show 2 ≤ 100000; decide)) (by rw [hee])) fun ev H3 e3 hev => ?_
  have c3 := c2.ex e3
  have tin : ∀ {H4 : Hp} {σ : L2.St}, Ex H3 H4 → σ[10]? = some (some ev) → σ[4]? = some (some pv) → EvT (tTest (tOp (rInT K false) (tVar 10) (tVar 4))) σ H4 (decide (e ∈ ps)) := fun x h1 h2 => et_test (et_inP (evd_var h1 (dp_mono x hev)) (evd_var h2 (dp_mono x c3.hp)))
  have W2 := turnedW_ok x.wok (by have := x.W.len; omega) he
  have hpl := x.W.len
  refine q_asgP (P := fun v H => Dp K H v (dPs (turnedW ps e))) (evd_is (evd_tupOf (evn_d (evn_sortP (l := ps.filter (fun y => !decide (y = e)) ++ (if e ∈ ps then [] else [e])) (.inl (evn_d (EvN.data (evn_cat (ds := (ps.filter (fun y => !decide (y = e))).map dP) (es := (if e ∈ ps then [] else [e]).map dP)
    (evnl_lc (p := fun y : Pr => !decide (y = e)) (d := dP) (IvE.of_map (iv_tup (evd_var rfl c3.hp))) (sz_of (by omega)) tupD_P fun y z H4 hy ey hz => ?_)
    (evn_if (b := decide (e ∈ ps)) (tin (Ex.refl _) rfl rfl) (fun hb => ?_) fun hb => ?_) ?_) (by rw [List.map_append]))))))) (by rw [turned_more x.W.pw])) fun mv H4 e4 hmv => ?_
  · exact ⟨_, fun Q q => q, rfl, et_test (ev_is (ev_neD (evd_var rfl hz) (evd_var rfl (dp_mono ey hev)) (shaped_P _) (shaped_P _)) (by rw [eqv_P])), fun _ => evd_var rfl hz⟩
  · rw [if_pos (by simpa using hb)]
    exact evn_lst eda_nil (by decide)
  · rw [if_neg (by simpa using hb)]
    exact evn_lst (eda_cons (evd_var rfl hev) eda_nil) (by show 1 ≤ 100000; decide)
  · refine Nat.le_trans ?_ (show 100000 ≤ sizeLine by decide)
    have h1 := List.length_filter_le (fun y => !decide (y = e)) ps
    have h2 : (if e ∈ ps then [] else [e] : List Pr).length ≤ 1 := by split <;> simp
    simp only [List.length_map]
    omega
  have c4 := c3.ex e4
  have hev4 := dp_mono e4 hev
  have hlq : (turnedW ps e).length ≤ 22 := by
    unfold turnedW
    split
    · exact Nat.le_trans (List.length_filter_le _ _) (by omega)
    · rw [len_srtP]; simp; omega
  have ndq : (turnedW ps e).Nodup := by
    unfold turnedW
    split
    · exact List.Pairwise.filter _ x.W.nd
    · rename_i hni
      exact (srtP_perm _).nodup_iff.mpr (List.nodup_append.mpr ⟨x.W.nd, by simp, fun a ha b hb z => by
        have : b = e := by simpa using hb
        exact hni (by rw [← this, ← z]; exact ha)⟩)
  have kq := x.kok W2.hw ndq hlq
  have kp := x.kok x.W.hw x.W.nd (by omega)
  refine q_asgP (evd_callR (ds := [dPs (turnedW ps e), dNs ord]) (eda_cons (evd_var rfl hmv) (eda_cons (evd_var rfl c4.ho) eda_nil)) rfl ⟨n, turnedW ps e, ord, kq, .inl rfl, rfl⟩) fun bv H5 e5 hbv => ?_
  have c5 := c4.ex e5
  have lk := @keptT_len n ps ord x.ook
  have lb := @keptT_len n (turnedW ps e) ord x.ook
  obtain ⟨z, rest, hdue, hrep, hnews, hzz, hends⟩ := turned_due x he
  refine q_asgP (P := fun v H => Dp K H v (.tuple (.str z :: rest))) (evd_is (evd_callR (ds := [dNs (keptT ps ord), dNs (keptT (turnedW ps e) ord)]) (eda_cons (evd_var rfl c5.hk) (eda_cons (evd_var rfl hbv) eda_nil)) rfl ⟨_, _, lk, lb, rfl, rfl⟩) hdue) fun dv H6 e6 hdv => ?_
  have c6 := c5.ex e6
  have e56 := e5.trans e6
  have hev6 := dp_mono e56 hev4
  have hmv6 := dp_mono e56 hmv
  have hbv6 := dp_mono e6 hbv
  have s61 : ∀ d ∈ turnedW ps e, d.1 < 61 ∧ d.2 < 61 := fun d hd => by have := W2.hw d hd; omega
  have rW := repw_W (n := n) (l := turnedW ps e) (by omega) s61 (by omega)
  refine q_ifN (et_is (et_or (a := false) (b := false) (et_test (ev_is (ev_opD (d := .tuple (.str z :: rest)) (e := .none) (evd_var rfl hdv) (evd_non (K := K) ev_c) fun v u H7 _ hv hu Q q => by
    obtain ⟨va, vx, rfl, _, _⟩ := dp_tup hv
    exact ⟨dp_non hu, q⟩) (v := .bl false) rfl)) fun _ => et_same (ev_repr (evd_kw2 (evd_var rfl hev6) (evd_var rfl c6.hw) ⟨n, ps, e, by omega, rfl, rfl⟩) rW (by decide) (by decide)) (ev_repr (evd_tup (eda_cons (evd_int (ev_var rfl)) (eda_cons (evd_var rfl hmv6) eda_nil)) (by show 2 ≤ 100000; decide)) rW (by decide) (by decide))) rfl) fun H7 e7 => ?_
  have c7 := c6.ex e7
  have e57 := e56.trans e7
  have hev7 := dp_mono e57 hev4
  have hdv7 := dp_mono e7 hdv
  refine q_ifN (et_is (et_or (a := false) (b := false) (et_same (ev_repr (evd_is (evd_kw3 (evd_var rfl hev7) (evd_var rfl c7.ho) (evd_var rfl c7.hw) ⟨n, ps, ord, e, x.wok, by omega, he, x.ook, rfl, rfl⟩) hnews) hrep (by decide) (by decide)) (ev_repr (evd_var rfl hdv7) hrep (by decide) (by decide))) fun _ => ?_) rfl) fun H8 e8 => ?_
  · have hz0 : Ev (tOp (rIxT K) (tVar 13) (tC (V.int 0))) [some s, some (.ref p), t, some (vN n), some pv, some ov, some wv, some kv, o8, some (.ref b), some ev, some mv, some bv, some dv, o14, o15, o16, none] H7 (.str z) := ev_str (K := K) (evd_ixT (i := 0) (evd_var rfl hdv7) ev_c rfl)
    have htn : EvT (tTest (tOp (rInT K false) (tVar 10) (tVar 4))) [some s, some (.ref p), t, some (vN n), some pv, some ov, some wv, some kv, o8, some (.ref b), some ev, some mv, some bv, some dv, o14, o15, o16, none] H7 (decide (e ∈ ps)) := tin (e4.trans e57) rfl rfl
    refine et_test (ev_is (ev_op hz0 (ev_if (v := .str (if e ∈ ps then "come" else "go")) htn (fun hb => ?_) fun hb => ?_) (rv_eq rfl)) ?_)
    · rw [if_pos (by simpa using hb)]; exact ev_c
    · rw [if_neg (by simpa using hb)]; exact ev_c
    · congr 1
      rw [decide_eq_false_iff_not, V.str.injEq]
      by_cases hin : e ∈ ps
      · rw [if_pos hin] at hzz ⊢; exact hzz
      · rw [if_neg hin] at hzz ⊢; exact hzz
  have c8 := c7.ex e8
  have e58 := e57.trans e8
  have hev8 := dp_mono e58 hev4
  have hdv8 := dp_mono e8 hdv7
  have hbv8 := dp_mono e8 (dp_mono e7 hbv6)
  have shd : SeqAt.shaped (.tuple (.str z :: rest)) = true := by
    unfold SeqAt.shaped
    have := hrep.dep
    rw [hrep.lay, Bool.true_and, decide_eq_true_eq]
    omega
  have shs : SeqAt.shaped (.tuple [.str "same"]) = true := by
    unfold SeqAt.shaped
    have := repw_same.dep
    rw [repw_same.lay, Bool.true_and, decide_eq_true_eq]
    omega
  refine s_ifN (et_is (et_and (a := !PyData.eqv (.tuple (.str z :: rest)) (.tuple [.str "same"])) (b := false) (et_test (ev_neD (evd_var rfl hdv8) (evd_tup (eda_cons (evd_str ev_c) eda_nil) (by show 1 ≤ 100000; decide)) shd shs)) fun hdiff => ?_) (by simp)) fun H9 e9 => k _ _ _ _ _ H9 (c8.ex e9)
  have hends' := hends.resolve_left fun h => by
    rw [h] at hdiff
    have : PyData.eqv (.tuple [.str "same"]) (.tuple [.str "same"]) = true := by simp [PyData.eqv, PyData.eqvAll]
    rw [this] at hdiff
    cases hdiff
  refine et_test (ev_is (ev_neD (d := .list (([e.1, e.2].filter fun v => !decide (v ∈ (if e ∈ ps then keptT ps ord else keptT (turnedW ps e) ord))).map dN)) (e := .list []) (evn_d (evnl_lc (p := fun v : Nat => !decide (v ∈ (if e ∈ ps then keptT ps ord else keptT (turnedW ps e) ord))) (d := dN) (l := [e.1, e.2]) (IvE.of_map (iv_tup (evd_var rfl hev8))) (by show 2 ≤ sizeLine; decide) tupD_N fun y a H9 hy ey ha => ?_)) (evn_d (evn_lst eda_nil (by decide))) (shaped_lst (by decide) canLay_N depth_N _) rfl) ?_)
  · refine ⟨_, fun Q q => q, rfl, et_test (ev_inN (neg := true) (evd_var rfl ha) (evp_if (b := decide (e ∈ ps)) (tin ((e4.trans e58).trans ey) rfl rfl) (fun hb => ?_) fun hb => ?_)), fun _ => evd_var rfl ha⟩
    · rw [if_pos (by simpa using hb)]; exact evd_var rfl (dp_mono ey c8.hk)
    · rw [if_neg (by simpa using hb)]; exact evd_var rfl (dp_mono ey hbv8)
  · rw [nil_eqvL]
    have : ([e.1, e.2].filter fun v => !decide (v ∈ (if e ∈ ps then keptT ps ord else keptT (turnedW ps e) ord))) = [] := by
      rw [List.filter_eq_nil_iff]
      intro v hv
      simp only [List.mem_cons, List.not_mem_nil, or_false] at hv
      rcases hv with hv | hv <;> rw [hv]
      · simp only [hends'.1, decide_true, Bool.not_true, Bool.false_eq_true, not_false_eq_true]
      · simp only [hends'.2, decide_true, Bool.not_true, Bool.false_eq_true, not_false_eq_true]
    rw [this]; rfl
end WK
/-! ### W17b -/
set_option Elab.async false
set_option linter.all false
set_option maxRecDepth 100000
set_option maxHeartbeats 8000000
/-! the law's blocks: a person goes -/
namespace WK
open PySem PySem.Spec PyProof.Rows L2 Evl DX DL KM C8
theorem keptT_srt {ps : List Pr} {ord l : List Nat} (ho : ord.Nodup) (hl : l.Nodup) (h : ∀ v, v ∈ keptT ps ord ↔ v ∈ l) : keptT ps ord = srtN l :=
  srtN_eq ((List.perm_ext_iff_of_nodup (kept_nodup ho) hl).mpr fun v => by rw [← h v, mem_keptT])
theorem repw_one {z : Str} {y : Nat} (hz : RepW (.str z) 0 10) (hy : y < 61) : RepW (.tuple [.str z, dN y]) 3 50000 := repw_word hz ((repw_N hy).up (by omega) (by omega))
theorem same_self : PyData.eqv (.tuple [.str "same"]) (.tuple [.str "same"]) = true := by simp [PyData.eqv, PyData.eqvAll]
theorem same_not {z : Str} {d : PyData} : PyData.eqv (.tuple [.str z, d]) (.tuple [.str "same"]) = false := by simp [PyData.eqv, PyData.eqvAll]
theorem one_of {l : List Nat} {y : Nat} (nd : l.Nodup) (h : ∀ v, v ∈ l ↔ v = y) : l = [y] :=
  List.perm_singleton.mp ((List.perm_ext_iff_of_nodup nd (by simp)).mpr fun v => by rw [h v]; simp)
structure GoneDue (n : Nat) (ps : List Pr) (ord : List Nat) (u : Nat) (z : Str) (rest kr : List Nat) : Prop where
  say : lgoneD ps ord (keptT ps ord) u = .tuple (.str z :: rest.map dN)
  rep : RepW (.tuple (.str z :: rest.map dN)) 3 50000
  pre1 : u ∈ keptT ps ord → someL ps ord (keptT ps ord) u = [] → lastL ps ord (keptT ps ord) u ≠ []
  pre2 : (comes (keptT (lessW ps u) ord) (keptT ps ord)).length ≠ 0 → (comes (keptT ps ord) (keptT (lessW ps u) ord)).length = 0 → ((comes (keptT (lessW ps u) ord) (keptT ps ord)).filter fun v => !decide (v = u)) ≠ []
  same : goneD (comes (keptT ps ord) (keptT (lessW ps u) ord)) (comes (keptT (lessW ps u) ord) (keptT ps ord)) u = .tuple (.str z :: rest.map dN)
  rl : rest.length ≤ 1
  kr_ : (z = "same" ∧ kr = keptT ps ord) ∨ (z = "instead" ∧ kr = keptT ps ord ++ rest) ∨ (z = "go" ∧ kr = (keptT ps ord).filter fun v => !decide (v ∈ rest))
  off : keptT (offP ps u) ord = srtN (kr.filter fun v => !decide (v = u) || PyData.eqv (.tuple (.str z :: rest.map dN)) (.tuple [.str "same"]))
theorem gone_due {n : Nat} {ps : List Pr} {ord : List Nat} (x : Fix n ps ord) {u : Nat} (hu : u < n) : ∃ (z : Str) (rest kr : List Nat), GoneDue n ps ord u z rest kr := by
  have k := x.kok x.W.hw x.W.nd (by have := x.W.len; omega)
  obtain ⟨g1, g2⟩ := gone_law k (x := u)
  have hn := x.n7
  have ond := x.ond
  have ndk := keptT_nd (ps := ps) ond
  by_cases hk : u ∈ keptT ps ord
  · obtain ⟨y, hyu, hyo, hc⟩ := g2 hk
    have hy61 : y < 61 := by have := x.mem.mp hyo; omega
    rcases hc with ⟨hyk, hoff, r, hs⟩ | ⟨hyk, hoff, hs, l, hl⟩
    · have hcm : comes (keptT ps ord) (keptT (lessW ps u) ord) = [y] := one_of (comes_nd (keptT_nd ond)) fun v => by
        rw [mem_comes, lessW_off, hoff]
        exact ⟨fun h => h.1.resolve_right fun g => h.2 g.1, fun h => by rw [h]; exact ⟨.inl rfl, hyk⟩⟩
      have hgn : comes (keptT (lessW ps u) ord) (keptT ps ord) = [u] := one_of (comes_nd ndk) fun v => by
        rw [mem_comes, lessW_off, hoff]
        constructor
        · rintro ⟨h1, h2⟩
          exact Classical.byContradiction fun g => h2 (.inr ⟨h1, g⟩)
        · rintro rfl
          exact ⟨hk, fun h => h.elim (fun h => hyu h.symm) fun h => h.2 rfl⟩
      refine ⟨"instead", [y], keptT ps ord ++ [y], ?_, repw_one (repw_s (by simp only [PyData.canLay0]; decide +kernel) (by decide +kernel)) hy61, ?_, ?_, ?_, by simp, .inr (.inl ⟨rfl, rfl⟩), ?_⟩
      · rw [lgoneD, if_neg (by simpa using hk), if_pos (by rw [hs]; simp), hs]; rfl
      · intro _ h; rw [hs] at h; cases h
      · intro _ h; rw [hcm] at h; cases h
      · rw [hcm, hgn]; rfl
      · rw [show PyData.eqv (.tuple (.str "instead" :: [y].map dN)) (.tuple [.str "same"]) = false from same_not]
        refine keptT_srt ond (List.Pairwise.filter _ (List.nodup_append.mpr ⟨ndk, by simp, fun a ha b hb => ?_⟩)) fun v => ?_
        · rintro rfl
          have : a = y := by simpa using hb
          exact hyk (this ▸ ha)
        · rw [hoff v, List.mem_filter, List.mem_append]
          simp only [List.mem_singleton, Bool.or_false, Bool.not_eq_true', decide_eq_false_iff_not]
          constructor
          · rintro (h | h)
            · exact ⟨.inr h, h ▸ hyu⟩
            · exact ⟨.inl h.1, h.2⟩
          · rintro ⟨h | h, g⟩
            · exact .inr ⟨h, g⟩
            · exact .inl h
    · have hcm : comes (keptT ps ord) (keptT (lessW ps u) ord) = [] := List.eq_nil_iff_forall_not_mem.mpr fun v hv => by
        rw [mem_comes, lessW_off, hoff] at hv
        exact hv.2 hv.1.1
      have hgm : ∀ v, v ∈ comes (keptT (lessW ps u) ord) (keptT ps ord) ↔ v = u ∨ v = y := fun v => by
        rw [mem_comes, lessW_off, hoff]
        constructor
        · rintro ⟨h1, h2⟩
          refine Classical.byContradiction fun g => h2 ⟨h1, fun e => g (.inl e), fun e => g (.inr e)⟩
        · rintro (rfl | rfl)
          · exact ⟨hk, fun h => h.2.1 rfl⟩
          · exact ⟨hyk, fun h => h.2.2 rfl⟩
      have hf : ((comes (keptT (lessW ps u) ord) (keptT ps ord)).filter fun v => !decide (v = u)) = [y] := one_of (List.Pairwise.filter _ (comes_nd ndk)) fun v => by
        rw [List.mem_filter, hgm v]
        simp only [Bool.not_eq_true', decide_eq_false_iff_not]
        exact ⟨fun h => h.1.resolve_left h.2, fun h => ⟨.inr h, h ▸ hyu⟩⟩
      have hg0 : (comes (keptT (lessW ps u) ord) (keptT ps ord)).length ≠ 0 := fun h => by
        have := (hgm u).mpr (.inl rfl)
        rw [List.length_eq_zero_iff.mp h] at this
        cases this
      refine ⟨"go", [y], (keptT ps ord).filter fun v => !decide (v ∈ [y]), ?_, repw_one (repw_s (by simp only [PyData.canLay0]; decide +kernel) (by decide +kernel)) hy61, ?_, ?_, ?_, by simp, .inr (.inr ⟨rfl, rfl⟩), ?_⟩
      · rw [lgoneD, if_neg (by simpa using hk), if_neg (by rw [hs]; simp), hl]
        simp
      · intro _ _; rw [hl]; simp
      · intro _ _; rw [hf]; simp
      · rw [goneD, if_neg hg0, hcm, if_neg (by simp), hf]; rfl
      · rw [show PyData.eqv (.tuple (.str "go" :: [y].map dN)) (.tuple [.str "same"]) = false from same_not]
        refine keptT_srt ond (List.Pairwise.filter _ (List.Pairwise.filter _ ndk)) fun v => ?_
        rw [hoff v, List.mem_filter, List.mem_filter]
        simp only [List.mem_singleton, Bool.or_false, Bool.not_eq_true', decide_eq_false_iff_not]
        exact ⟨fun h => ⟨⟨h.1, h.2.2⟩, h.2.1⟩, fun h => ⟨h.1.1, h.2, h.1.2⟩⟩
  · have h0 := g1 hk
    have hgn : comes (keptT (lessW ps u) ord) (keptT ps ord) = [] := List.eq_nil_iff_forall_not_mem.mpr fun v hv => by
      rw [mem_comes, lessW_off, h0] at hv
      exact hv.2 hv.1
    refine ⟨"same", [], keptT ps ord, ?_, repw_same, fun h => absurd h hk, fun h => absurd (by rw [hgn]; rfl) h, ?_, by simp, .inl ⟨rfl, rfl⟩, ?_⟩
    · rw [lgoneD, if_pos hk]; rfl
    · rw [goneD, hgn, if_pos List.length_nil]; rfl
    · rw [h0, show PyData.eqv (.tuple (.str "same" :: [].map dN)) (.tuple [.str "same"]) = true from same_self]
      have : ((keptT ps ord).filter fun v => !decide (v = u) || true) = keptT ps ord := List.filter_eq_self.mpr (by simp)
      rw [this]
      exact (srtN_self (srtN_pw _)).symm
section
variable {K : PySem.W.Frag} {p q : Addr} {n : Nat} {ps : List Pr} {ord : List Nat} {pv ov wv kv : V} {H H' : Hp} {σ : L2.St}
theorem ex_dict {H1 H2 : Hp} {a : Addr} {o : HO} (e : Ex (upd H1 a (.dK [])) H2) (ha : H1 a = none) : Ex H1 (upd H2 a o) := ((Ex.new ha).trans e).mut ha
def ExK (H H' : Hp) : Prop := ∀ a o, (∀ ys, o ≠ .dK ys) → H a = some o → H' a = some o
theorem ExK.put {H : Hp} {p : Addr} {xs : List (Key × V)} {o : HO} (h : H p = some (.dK xs)) : ExK H (upd H p o) := fun a u n e => by
  by_cases ha : a = p
  · subst ha
    rw [h] at e
    cases e
    exact absurd rfl (n xs)
  · rw [upd_ne ha]; exact e
theorem sqt_monoK (e : ExK H H') {a : Addr} {xs : List V} (h : SqT K H a xs) : SqT K H' a xs := by
  rcases h with (h | ⟨o, h⟩) | h
  · exact .inl (.inl (e a _ (by intro ys z; cases z) h))
  · exact .inl (.inr ⟨o, e a _ (by intro ys z; cases z) h⟩)
  · exact .inr h
mutual
theorem dp_monoK (e : ExK H H') : ∀ {d : PyData} {v : V}, tupD d = true → Dp K H v d → Dp K H' v d
  | _, _, _, .non => .non
  | _, _, _, .bl b => .bl b
  | _, _, _, .int i => .int i
  | _, _, _, .str x => .str x
  | .list _, _, t, .lst h1 h2 => by simp [tupD] at t
  | .tuple _, _, t, .tup h1 h2 => .tup (sqt_monoK e h1) (dpa_monoK e (by simpa [tupD] using t) h2)
theorem dpa_monoK (e : ExK H H') : ∀ {ds : List PyData} {vs : List V}, tupDs ds = true → DpAll K H vs ds → DpAll K H' vs ds
  | _, _, _, .nil => .nil
  | _ :: _, _, t, .cons h1 h2 => .cons (dp_monoK e (by simp only [tupDs, Bool.and_eq_true] at t; exact t.1) h1) (dpa_monoK e (by simp only [tupDs, Bool.and_eq_true] at t; exact t.2) h2)
end
/-- the display of three texts, and what stands at one of them -/
theorem evd_three {t1 t2 t3 ty : TE} {d1 d2 d3 d : PyData} {z : Str} (h1 : EvD K t1 σ H d1) (h2 : EvD K t2 σ H d2) (h3 : EvD K t3 σ H d3) (hy : Ev ty σ H (.str z))
    (hd : tupD d = true) (hz : (z = "same" ∧ d = d1) ∨ (z = "instead" ∧ d = d2) ∨ (z = "go" ∧ d = d3)) :
    EvD K (tDGet (tDisp [(tC (V.str "same"), t1), (tC (V.str "instead"), t2), (tC (V.str "go"), t3)]) ty) σ H d := fun H1 e Q q => fun a ha => by
  refine h1 _ (e.trans (Ex.new ha)) _ fun v1 H2 e2 k1 => h2 H2 ((e.trans (Ex.new ha)).trans e2) _ fun v2 H3 e3 k2 => h3 H3 (((e.trans (Ex.new ha)).trans e2).trans e3) _ fun v3 H4 e4 k3 => ?_
  have e24 := (e2.trans e3).trans e4
  refine ⟨e24 _ _ upd_same, [(.inr "same", v1), (.inr "instead", v2), (.inr "go", v3)], rfl, by show 3 ≤ 15; decide, ?_⟩
  have eA : Ex H1 (upd H4 a (.dK (mergeK [] [((.inr "same" : Key), v1), (.inr "instead", v2), (.inr "go", v3)]))) := ex_dict e24 ha
  refine hy _ (e.trans eA) _ fun H5 e5 => ?_
  have hd5 := e5 _ _ (upd_same (H := H4) (a := a) (o := .dK (mergeK [] [((.inr "same" : Key), v1), (.inr "instead", v2), (.inr "go", v3)])))
  have kx : ExK H4 (upd H4 a (.dK (mergeK [] [((.inr "same" : Key), v1), (.inr "instead", v2), (.inr "go", v3)]))) := ExK.put (e24 _ _ upd_same)
  have fin : ∀ {v : V}, Dp K H4 v d → Dp K H5 v d := fun h => dp_mono e5 (dp_monoK kx hd h)
  rcases hz with ⟨rfl, rfl⟩ | ⟨rfl, rfl⟩ | ⟨rfl, rfl⟩
  · exact ⟨a, v1, rfl, DGet.k (k := .inr "same") hd5, q v1 H5 (eA.trans e5) (fin (dp_mono (e3.trans e4) k1))⟩
  · exact ⟨a, v2, rfl, DGet.k (k := .inr "instead") hd5, q v2 H5 (eA.trans e5) (fin (dp_mono e4 k2))⟩
  · exact ⟨a, v3, rfl, DGet.k (k := .inr "go") hd5, q v3 H5 (eA.trans e5) (fin k3)⟩
end
def t_b2 (K : PySem.W.Frag) : TS :=
  tSeq (tAsg (tCall (spAny K) [] C8.E0 (tCons (tVar 1) (tCons (tVar 3) tNil))) (gName 14))
  (tSeq (tAsg (tTup (tCons (tCall (spR K 4 R_lgone) [] C8.E0 (tCons (tVar 4) (tCons (tVar 5) (tCons (tVar 7) (tCons (tVar 14) tNil)))))
      (tCons (tCall (spR K 2 R_lkept) [] C8.E0 (tCons (tLc (iTup K (tVar 4)) (gName 10) (tTest (tOp (rIn K true) (tVar 14) (tVar 10))) (tVar 10) [10]) (tCons (tVar 5) tNil))) tNil)))
      (gTup K 2 (gCons (gName 13) (gCons (gName 12) gNil))))
  (tSeq (tAsg (tDGet (tDisp [(tC (V.str "same"), tVar 7), (tC (V.str "instead"), tOp (rCatA K) (tVar 7) (tSl (rSlA K) (tVar 13) (tPart (tC (V.int 1))) tNoPart)),
      (tC (V.str "go"), tCB (rTupOf K) (tCons (tLc (iTup K (tVar 7)) (gName 17) (tTest (tOp (rIn K true) (tVar 17) (tSl (rSlA K) (tVar 13) (tPart (tC (V.int 1))) tNoPart))) (tVar 17) [17]) tNil))])
      (tOp (rIxT K) (tVar 13) (tC (V.int 0)))) (gName 15))
  (tSeq (tIfS (tTest (tOp rNe (tCB (rReprG K) (tCons (tCallK (spR K 3 R_person_gone) g3 C8.E0 tNil (tCons (tVar 14) (tCons (tVar 5) (tCons (tVar 6) tNil)))) tNil)) (tCB (rReprG K) (tCons (tVar 13) tNil)))) tFalse tNext)
    (tIfS (tTest (tOp (rNeD K) (tVar 12) (tCB (rTupOf K) (tCons (tCB (rSortG K) (tCons (tLc (iTup K (tVar 15)) (gName 17) (tOr (tTest (tOp rNe (tVar 17) (tVar 14))) (tTest (tOp (rEqD K) (tVar 13) (tTup (tCons (tC (V.str "same")) tNil))))) (tVar 17) [17]) tNil)) tNil)))) tFalse tNext))))
section
variable {K : PySem.W.Frag} {p q : Addr} {n : Nat} {ps : List Pr} {ord : List Nat} {pv ov wv kv : V} {H H' : Hp} {σ : L2.St} {D : Ends}
theorem blk2 (x : Fix n ps ord) (c : Ctx K p q n ps ord pv ov wv kv H) {s : V} {t o8 o9 o10 o11 o12 o13 o14 o15 o16 : Option V}
    (k : ∀ o12 o13 o14 o15 H', Ctx K p q n ps ord pv ov wv kv H' → D.nx [some s, some (.ref p), t, some (vN n), some pv, some ov, some wv, some kv, o8, o9, o10, o11, o12, o13, o14, o15, o16, none] H') :
    t_b2 K D [some s, some (.ref p), t, some (vN n), some pv, some ov, some wv, some kv, o8, o9, o10, o11, o12, o13, o14, o15, o16, none] H := by
  have hn7 := x.n7
  have hn1 := x.n1
  have hpl := x.W.len
  refine ⟨_, rfl, _, rfl, p, q, n, rfl, by omega, by omega, c.deal, fun u H1 hu f1 d1 => ?_⟩
  have c1 : Ctx K p q n ps ord pv ov wv kv H1 := c.fr f1 d1
  dsimp only
  obtain ⟨z, rest, kr, G⟩ := gone_due x hu
  have lk := @keptT_len n ps ord x.ook
  have hol := x.olen
  have ko : KOk n (offP ps u) ord := x.kok (fun e he => x.W.hw e (offP_mem.mp he).1) (List.Pairwise.filter _ x.W.nd) (Nat.le_trans (List.length_filter_le _ _) (by omega))
  refine q_asg2 (d := .tuple (.str z :: rest.map dN)) (e := dNs (keptT (offP ps u) ord)) (evd_tup (eda_cons (evd_callR (ds := [dPs ps, dNs ord, dNs (keptT ps ord), dN u]) (eda_cons (evd_var rfl c1.hp) (eda_cons (evd_var rfl c1.ho) (eda_cons (evd_var rfl c1.hk) (eda_cons (evd_int (ev_var rfl)) eda_nil)))) rfl ⟨ps, ord, keptT ps ord, u, by omega, by omega, lk, rfl, G.pre1, G.say.symm⟩)
    (eda_cons (evd_callR (ds := [.list ((offP ps u).map dP), dNs ord]) (eda_cons (evn_d (evnl_lc (p := fun e : Pr => !decide (u ∈ [e.1, e.2])) (d := dP) (IvE.of_map (iv_tup (evd_var rfl c1.hp))) (sz_of (by omega)) tupD_P fun y b H4 hy ey hb => ?_)) (eda_cons (evd_var rfl c1.ho) eda_nil)) rfl ⟨n, offP ps u, ord, ko, .inr rfl, rfl⟩) eda_nil)) (by show 2 ≤ 100000; decide)) fun dv bv H2 e2 hdv hbv => ?_
  · exact ⟨_, fun Q q => q, rfl, et_test (ev_inN (neg := true) (l := [y.1, y.2]) (evd_int (ev_var rfl)) (evd_var rfl hb)), fun _ => evd_var rfl hb⟩
  have c2 := c1.ex e2
  have hsl : ∀ {σ : L2.St} {H3 : Hp}, σ[13]? = some (some dv) → Ex H2 H3 → EvD K (tSl (rSlA K) (tVar 13) (tPart (tC (V.int 1))) tNoPart) σ H3 (dNs rest) := fun h e => evd_is (evd_slA (lo := some 1) (hi := none) (evd_var h (dp_mono e hdv)) (eo_some ev_c) eo_none) (by rw [cut_from]; rfl)
  have htk : tupD (dNs kr) = true := tupD_Ns kr
  have hrl := G.rl
  refine q_asgP (P := fun v H => Dp K H v (dNs kr)) (evd_three (d1 := dNs (keptT ps ord)) (d2 := dNs (keptT ps ord ++ rest)) (d3 := dNs ((keptT ps ord).filter fun v => !decide (v ∈ rest))) (z := z) (evd_var rfl c2.hk)
    (evd_is (evd_catA (ds := (keptT ps ord).map dN) (es := rest.map dN) (evd_var rfl c2.hk) (hsl rfl (Ex.refl _)) (by simp; omega)) (by rw [← List.map_append]))
    (evd_tupOf (evn_d (evnl_lc (p := fun v : Nat => !decide (v ∈ rest)) (d := dN) (IvE.of_map (iv_tup (evd_var rfl c2.hk))) (sz_of (by omega)) tupD_N fun y b H4 hy ey hb => ?_)))
    (ev_str (K := K) (evd_ixT (i := 0) (evd_var rfl hdv) ev_c rfl)) htk ?_) fun rv H3 e3 hrv => ?_
  · exact ⟨_, fun Q q => q, rfl, et_test (ev_inN (neg := true) (evd_var rfl hb) (hsl rfl ey)), fun _ => evd_var rfl hb⟩
  · rcases G.kr_ with ⟨h1, h2⟩ | ⟨h1, h2⟩ | ⟨h1, h2⟩
    · exact .inl ⟨h1, by rw [h2]⟩
    · exact .inr (.inl ⟨h1, by rw [h2]⟩)
    · exact .inr (.inr ⟨h1, by rw [h2]⟩)
  have c3 := c2.ex e3
  have hdv3 := dp_mono e3 hdv
  have hbv3 := dp_mono e3 hbv
  refine q_ifN (et_same (ev_repr (evd_is (evd_kw3 (evd_int (ev_var rfl)) (evd_var rfl c3.ho) (evd_var rfl c3.hw) ⟨n, ps, ord, u, x.wok, x.ook, rfl, G.pre2, rfl⟩) G.same) G.rep (by decide) (by decide)) (ev_repr (evd_var rfl hdv3) G.rep (by decide) (by decide))) fun H4 e4 => ?_
  have c4 := c3.ex e4
  have hdv4 := dp_mono e4 hdv3
  have hbv4 := dp_mono e4 hbv3
  have hrv4 := dp_mono e4 hrv
  have hkl : kr.length ≤ 2000 := by
    rcases G.kr_ with ⟨h1, h2⟩ | ⟨h1, h2⟩ | ⟨h1, h2⟩ <;> rw [h2]
    · omega
    · rw [List.length_append]; omega
    · exact Nat.le_trans (List.length_filter_le _ _) (by omega)
  have shd : SeqAt.shaped (.tuple (.str z :: rest.map dN)) = true := by
    unfold SeqAt.shaped
    have := G.rep.dep
    rw [G.rep.lay, Bool.true_and, decide_eq_true_eq]
    omega
  have shs : SeqAt.shaped (.tuple [.str "same"]) = true := by
    unfold SeqAt.shaped
    have := repw_same.dep
    rw [repw_same.lay, Bool.true_and, decide_eq_true_eq]
    omega
  refine s_ifN (et_test (ev_is (ev_neD (d := dNs (keptT (offP ps u) ord)) (e := dNs (keptT (offP ps u) ord)) (evd_var rfl hbv4) (evd_tupOf (evn_d (EvN.data (evn_sortN (l := kr.filter fun v => !decide (v = u) || PyData.eqv (.tuple (.str z :: rest.map dN)) (.tuple [.str "same"])) (.inl (evn_d
    (evnl_lc (p := fun v : Nat => !decide (v = u) || PyData.eqv (.tuple (.str z :: rest.map dN)) (.tuple [.str "same"])) (d := dN) (IvE.of_map (iv_tup (evd_var rfl hrv4))) (sz_of (by omega)) tupD_N fun y b H5 hy ey hb => ?_)))) (by rw [G.off])))) (shaped_Ns _) (shaped_Ns _)) (by rw [eqv_Ns]; simp))) fun H5 e5 => k _ _ _ _ H5 (c4.ex e5)
  exact ⟨_, fun Q q => q, rfl, et_or (a := !decide (y = u)) (et_test (ev_neN (n := y) (m := u) (ev_int (evd_var rfl hb)) (ev_var rfl))) (fun _ => et_test (ev_eqD (evd_var rfl (dp_mono ey hdv4)) (evd_tup (eda_cons (evd_str ev_c) eda_nil) (by show 1 ≤ 100000; decide)) shd shs)), fun _ => evd_var rfl hb⟩
end
end WK
/-! ### W17c -/
set_option Elab.async false
set_option linter.all false
set_option maxRecDepth 100000
set_option maxHeartbeats 8000000
/-! the law's blocks: a person's pairs anew -/
namespace WK
open PySem PySem.Spec PyProof.Rows L2 Evl DX DL KM C8
def newP (ps qs : List Pr) (u : Nat) : List Pr := srtP (offP ps u ++ qs.filter fun e => decide (e.1 ∈ [u]) || decide (e.2 ∈ [u]))
def xorL (n : Nat) (a b : List Nat) : List Nat := (List.range n).filter fun v => !decide (decide (v ∈ a) = decide (v ∈ b))
theorem newP_mem {ps qs : List Pr} {u : Nat} {e : Pr} : e ∈ newP ps qs u ↔ (e ∈ ps ∧ e.1 ≠ u ∧ e.2 ≠ u) ∨ (e ∈ qs ∧ (e.1 = u ∨ e.2 = u)) := by
  unfold newP
  rw [mem_srtP, List.mem_append, offP_mem, List.mem_filter]
  simp
theorem newP_away {ps qs : List Pr} {u : Nat} : AwayFrom u ps (newP ps qs u) := fun e h1 h2 => by
  rw [newP_mem]
  exact ⟨fun h => .inl ⟨h, h1, h2⟩, fun h => h.elim (fun h => h.1) fun h => (h.2.elim h1 h2).elim⟩
theorem xor_law {n : Nat} {ps qs : List Pr} {ord : List Nat} {u : Nat} (x : Fix n ps ord) (hq : IsWeb n qs) :
    (xorL n (keptT ps ord) (keptT (newP ps qs u) ord)).length ≤ 2 ∧ (xorL n (keptT ps ord) (keptT (newP ps qs u) ord) ≠ [] → u ∈ keptT ps ord ∨ u ∈ keptT (newP ps qs u) ord) := by
  have h1 : ∀ d ∈ ps, d.1 ∈ ord ∧ d.2 ∈ ord := fun d hd => by have := x.W.hw d hd; rw [x.mem, x.mem]; omega
  have h2 : ∀ d ∈ newP ps qs u, d.1 ∈ ord ∧ d.2 ∈ ord := fun d hd => by
    rcases newP_mem.mp hd with h | h
    · exact h1 d h.1
    · have := hq d h.1; rw [x.mem, x.mem]; omega
  have hnl := news_len x.ond h1 h2 newP_away
  have hp : (xorL n (keptT ps ord) (keptT (newP ps qs u) ord)).Perm (comes (keptT ps ord) (keptT (newP ps qs u) ord) ++ comes (keptT (newP ps qs u) ord) (keptT ps ord)) := by
    refine (List.perm_ext_iff_of_nodup (List.Pairwise.filter _ List.nodup_range) (List.nodup_append.mpr ⟨comes_nd (keptT_nd x.ond), comes_nd (keptT_nd x.ond), fun a ha b hb e => ?_⟩)).mpr fun v => ?_
    · rw [mem_comes] at ha hb
      exact ha.2 (e ▸ hb.1)
    · rw [List.mem_filter, List.mem_append, mem_comes, mem_comes, List.mem_range]
      constructor
      · rintro ⟨_, h⟩
        by_cases a : v ∈ keptT ps ord <;> by_cases b : v ∈ keptT (newP ps qs u) ord <;> simp [a, b] at h ⊢
      · rintro (h | h)
        · exact ⟨keptT_lt x h.1, by simp [h.1, h.2]⟩
        · exact ⟨keptT_lt x h.1, by simp [h.1, h.2]⟩
  rcases hnl with ⟨a, b⟩ | ⟨a, b, _⟩
  · have : xorL n (keptT ps ord) (keptT (newP ps qs u) ord) = [] := by
      rw [a, b] at hp
      exact hp.eq_nil
    rw [this]
    exact ⟨by simp, fun h => (h rfl).elim⟩
  · refine ⟨?_, fun _ => ?_⟩
    · rw [hp.length_eq, List.length_append]; omega
    · rw [mem_keptT, mem_keptT]; exact b
def t_more (K : PySem.W.Frag) : TE := tCB (rTupOf K) (tCons (tCB (rSortG K) (tCons (tOp rCat (tLc (iTup K (tVar 4)) (gName 10) (tTest (tOp (rIn K true) (tVar 14) (tVar 10))) (tVar 10) [10])
  (tCB (rListS K) (tCons (tCall (spR K 2 R_law_at) [] C8.E0 (tCons (tCall (spPairs K) [] C8.E0 (tCons (tVar 1) (tCons (tVar 3) tNil))) (tCons (tLst (tCons (tVar 14) tNil)) tNil))) tNil))) tNil)) tNil)
def t_b3 (K : PySem.W.Frag) : TS :=
  tSeq (tAsg (tCall (spAny K) [] C8.E0 (tCons (tVar 1) (tCons (tVar 3) tNil))) (gName 14))
  (tSeq (tAsg (t_more K) (gName 11))
  (tSeq (tAsg (tCall (spR K 2 R_kept_lot) [] C8.E0 (tCons (tTup (tCons (tVar 3) (tCons (tVar 11) tNil))) (tCons (tVar 5) tNil))) (gName 12))
  (tSeq (tAsg (tLc (iRng1 (tCons (tVar 3) tNil)) (gName 17) (tTest (tOp rNe (tOp (rIn K false) (tVar 17) (tVar 7)) (tOp (rIn K false) (tVar 17) (tVar 12)))) (tVar 17) [17]) (gName 16))
    (tIfS (tOr (tTest (tOp (rI0 fun i j => V.bl (decide (j < i))) (tCB (rLenS K) (tCons (tVar 16) tNil)) (tC (V.int 2))))
      (tAnd (tTest (tOp (rNeD K) (tVar 16) (tLst tNil))) (tAnd (tTest (tOp (rIn K true) (tVar 14) (tVar 7))) (tTest (tOp (rIn K true) (tVar 14) (tVar 12)))))) tFalse tNext))))
section
variable {K : PySem.W.Frag} {p q : Addr} {n : Nat} {ps : List Pr} {ord : List Nat} {pv ov wv kv : V} {H H' : Hp} {σ : L2.St} {D : Ends}
theorem more_new (x : Fix n ps ord) (c : Ctx K p q n ps ord pv ov wv kv H) {u : Nat} {s : V} {t o8 o9 o10 o11 o12 o13 o15 o16 : Option V} {Q : VK}
    (hq : ∀ v H' qs, WebOk n qs → Ctx K p q n ps ord pv ov wv kv H' → Dp K H' v (dPs (newP ps qs u)) → Q v H') :
    t_more K [some s, some (.ref p), t, some (vN n), some pv, some ov, some wv, some kv, o8, o9, o10, o11, o12, o13, some (vN u), o15, o16, none] H Q := by
  have hn7 := x.n7
  have hn1 := x.n1
  have hpl := x.W.len
  have hA : EvNl K (tLc (iTup K (tVar 4)) (gName 10) (tTest (tOp (rIn K true) (tVar 14) (tVar 10))) (tVar 10) [10]) [some s, some (.ref p), t, some (vN n), some pv, some ov, some wv, some kv, o8, o9, o10, o11, o12, o13, some (vN u), o15, o16, none] H ((offP ps u).map dP) :=
    evnl_lc (p := fun e : Pr => !decide (u ∈ [e.1, e.2])) (d := dP) (IvE.of_map (iv_tup (evd_var rfl c.hp))) (sz_of (by omega)) tupD_P fun y b H4 hy ey hb =>
      ⟨_, fun Q q => q, rfl, et_test (ev_inN (neg := true) (l := [y.1, y.2]) (evd_int (ev_var rfl)) (evd_var rfl hb)), fun _ => evd_var rfl hb⟩
  unfold t_more tCB tCons tOp
  refine hA H (Ex.refl _) _ fun p0 xs H2 hp0 e2 hH2 hd2 => ?_
  have c2 := c.ex e2
  refine ⟨_, rfl, _, rfl, p, q, n, rfl, hn1, hn7, c2.deal, fun qs qv H3 Wq hqv f3 d3 => ?_⟩
  have c3 := c2.fr f3 d3
  have hnd := ndeal c.deal hp0
  have hH3 : H3 p0 = some (.lst xs) := f3 _ _ hnd.1 hnd.2 hH2
  have hd3 : DpAll K H3 xs ((offP ps u).map dP) := dpa_monoT (f3.toT c2.deal) (tupDs_map tupD_P _) hd2
  have hql := Wq.len
  have hof : (offP ps u).length ≤ ps.length := List.length_filter_le _ _
  have hqf : (qs.filter fun e => decide (e.1 ∈ [u]) || decide (e.2 ∈ [u])).length ≤ qs.length := List.length_filter_le _ _
  have hev : EvD K (tCB (rTupOf K) (tCons (tCB (rSortG K) (tCons (tOp rCat (tC (.ref p0))
      (tCB (rListS K) (tCons (tCall (spR K 2 R_law_at) [] C8.E0 (tCons (tC qv) (tCons (tLst (tCons (tVar 14) tNil)) tNil))) tNil))) tNil)) tNil))
      [some s, some (.ref p), t, some (vN n), some pv, some ov, some wv, some kv, o8, o9, o10, o11, o12, o13, some (vN u), o15, o16, none] H3 (dPs (newP ps qs u)) :=
    evd_tupOf (evn_d (evn_sortP (l := offP ps u ++ qs.filter fun e => decide (e.1 ∈ [u]) || decide (e.2 ∈ [u])) (.inl (evn_d (EvN.data (evn_catV (ds := (offP ps u).map dP) (es := (qs.filter fun e => decide (e.1 ∈ [u]) || decide (e.2 ∈ [u])).map dP) ev_c hH3 hd3
      (evn_lstOf (evd_callR (ds := [dPs qs, .list ([u].map dN)]) (eda_cons (evd_of ev_c fun _ e => dp_mono e hqv) (eda_cons (evn_d (evn_lst (ds := [u].map dN) (eda_cons (evd_int (ev_var rfl)) eda_nil) (by show 1 ≤ 100000; decide))) eda_nil)) rfl ⟨qs, [u], by omega, rfl, rfl⟩)) (sz_of (by simp only [List.length_map]; omega))) (by rw [List.map_append]))))))
  exact hev H3 (Ex.refl _) _ fun v H4 e4 hv => hq v H4 qs Wq (c3.ex e4) hv
theorem blk3 (x : Fix n ps ord) (c : Ctx K p q n ps ord pv ov wv kv H) {s : V} {t o8 o9 o10 o11 o12 o13 o14 o15 o16 : Option V}
    (k : ∀ o11 o12 o14 o16 H', Ctx K p q n ps ord pv ov wv kv H' → D.nx [some s, some (.ref p), t, some (vN n), some pv, some ov, some wv, some kv, o8, o9, o10, o11, o12, o13, o14, o15, o16, none] H') :
    t_b3 K D [some s, some (.ref p), t, some (vN n), some pv, some ov, some wv, some kv, o8, o9, o10, o11, o12, o13, o14, o15, o16, none] H := by
  have hn7 := x.n7
  have hn1 := x.n1
  have hpl := x.W.len
  refine ⟨_, rfl, _, rfl, p, q, n, rfl, by omega, by omega, c.deal, fun u H1 hu f1 d1 => ?_⟩
  have c1 : Ctx K p q n ps ord pv ov wv kv H1 := c.fr f1 d1
  dsimp only
  refine more_new x c1 fun mv H2 qs Wq c2 hmv => ?_
  dsimp only
  have lk := @keptT_len n ps ord x.ook
  have lb := @keptT_len n (newP ps qs u) ord x.ook
  have hw2 : IsWeb n (newP ps qs u) := fun e he => by
    rcases newP_mem.mp he with h | h
    · exact x.W.hw e h.1
    · exact Wq.hw e h.1
  have hml : (newP ps qs u).length ≤ 1000 := by
    unfold newP
    rw [len_srtP, List.length_append]
    have h1 : (offP ps u).length ≤ ps.length := List.length_filter_le _ _
    have h2 : (qs.filter fun e => decide (e.1 ∈ [u]) || decide (e.2 ∈ [u])).length ≤ qs.length := List.length_filter_le _ _
    have := Wq.len
    omega
  obtain ⟨hx1, hx2⟩ := xor_law (u := u) x Wq.hw
  refine q_asgP (P := fun v H => Dp K H v (dNs (keptT (newP ps qs u) ord))) (evd_callR (ds := [dW n (newP ps qs u), dNs ord]) (eda_cons (evd_tup (eda_cons (evd_int (ev_var rfl)) (eda_cons (evd_var rfl hmv) eda_nil)) (by show 2 ≤ 100000; decide)) (eda_cons (evd_var rfl c2.ho) eda_nil)) rfl
    ⟨n, newP ps qs u, ord, ⟨by omega, hml, hw2⟩, x.ook, rfl, rfl⟩) fun bv H3 e3 hbv => ?_
  have c3 := c2.ex e3
  refine q_asgNl (K := K) (ds := (xorL n (keptT ps ord) (keptT (newP ps qs u) ord)).map dN) (evnl_lc (p := fun v : Nat => !decide (decide (v ∈ keptT ps ord) = decide (v ∈ keptT (newP ps qs u) ord))) (d := dN) (iv_rng (n := n) (ev_var rfl) (by omega)) (sz_of (by simp; omega)) tupD_N fun y b H4 hy ey hb => ?_) fun r ys H4 hr e4 hH4 hd4 => ?_
  · subst hb
    exact ⟨_, fun Q q => q, rfl, et_test (ev_is (ev_op (ev_inN (neg := false) (evd_int (ev_var rfl)) (evd_var rfl (dp_mono ey c3.hk))) (ev_inN (neg := false) (evd_int (ev_var rfl)) (evd_var rfl (dp_mono ey hbv))) (rv_ne rfl)) (by simp)), fun _ => evd_int (ev_var rfl)⟩
  have c4 := c3.ex e4
  have hbv4 := dp_mono e4 hbv
  have hboth : Dp K H4 (.ref r) (.list ((xorL n (keptT ps ord) (keptT (newP ps qs u) ord)).map dN)) := .lst (sq_of hH4) hd4
  refine s_ifN (et_is (et_or (a := false) (b := false) (et_test (ev_is (ev_op (ev_lenL (evd_var rfl hboth)) ev_c rv_I0) ?_)) fun _ => ?_) rfl) fun H5 e5 => k _ _ _ _ H5 (c4.ex e5)
  · rw [List.length_map]
    congr 1
    rw [decide_eq_false_iff_not]
    omega
  · refine et_is (et_and (a := !PyData.eqv (.list ((xorL n (keptT ps ord) (keptT (newP ps qs u) ord)).map dN)) (.list [])) (b := !decide (u ∈ keptT ps ord) && !decide (u ∈ keptT (newP ps qs u) ord)) (et_test (ev_neD (evd_var rfl hboth) (evn_d (evn_lst eda_nil (by decide))) (shaped_lst (by decide) canLay_N depth_N _) rfl)) fun _ => et_and (et_test (ev_inN (neg := true) (evd_int (ev_var rfl)) (evd_var rfl c4.hk))) fun _ => et_test (ev_inN (neg := true) (evd_int (ev_var rfl)) (evd_var rfl hbv4))) ?_
    rw [nil_eqvL]
    by_cases h0 : xorL n (keptT ps ord) (keptT (newP ps qs u) ord) = []
    · simp [h0]
    · rcases hx2 h0 with h | h <;> simp [h]
end
end WK
/-! ### W17 -/
set_option Elab.async false
set_option linter.all false
set_option maxRecDepth 100000
set_option maxHeartbeats 8000000
/-! the law -/
namespace WK
open PySem PySem.Spec PyProof.Rows L2 Evl DX DL KM C8
abbrev N_law : List Str := ["_law_script", "_law_deal", "_law_turn", "_law_n", "_law_pairs_here", "_law_order", "_law_web", "_law_kept_here", "_law_again", "_law_two", "_law_pair", "_law_more", "_law_behind", "_law_due", "_law_person", "_law_rest", "_law_both", "_law_one"]
theorem sc_law : FnScope N_law ["_law_script"] (defScope HD.s_law) := ⟨rfl, rfl, rfl, by decide +kernel, rfl, by decide +kernel, by decide +kernel⟩
section
variable {P : Program} {w : World} {K : PySem.W.Frag} {mg : Str → Option Value} {base : Heap} {f : Addr} {fd : FuncData}
variable (B : BI mg)
include B
omit B in
theorem q_forR {te : TE} {tb tz : TS} {i : Nat} {D : Ends} {σ : L2.St} {H : Hp} (C : Prop) (Pv : L2.St → Hp → Prop) (h : ∀ Q : VK, (∀ (m : Nat) H', m ≤ 100000 → (0 < m → C) → Pv σ H' → Q (vN m) H') → te σ H Q)
    (hs : C → ∀ (m : Nat) σ H, Pv σ H → tb { D with nx := Pv, ct := Pv, bk := tz D } (σ.set i (some (vN m))) H) (hd : ∀ σ H, Pv σ H → tz D σ H) : tSeq (tFor (iRng1 (tCons te tNil)) (gName i) tb) tz D σ H :=
  h _ fun m H' hm hC hP => by
    refine ⟨(m : Int), rfl, by omega, by omega, for_it (D := { D with nx := tz D }) (walk_range (lo := 0) (n := m)) (fun _ => Pv) hP (fun _ _ _ _ _ => trivial) ?_ hd⟩
    rintro j x σ1 H1 H2 hj hP1 ⟨rfl, hx⟩
    rw [show x = vN j from hx.trans (by simp)]
    exact hs (hC (by omega)) j σ1 H2 hP1
omit B in
theorem q_asg45 {K : PySem.W.Frag} {p q : Addr} {n : Nat} {tz : TS} {D : Ends} {σ : L2.St} {H : Hp} (h1 : σ[1]? = some (some (.ref p))) (h3 : σ[3]? = some (some (vN n))) (n1 : 1 ≤ n) (n7 : n ≤ 7) (d : Deal p q H)
    (k : ∀ pv ov ps ord H', Fix n ps ord → Deal p q H' → Dp K H' pv (dPs ps) → Dp K H' ov (dNs ord) → tz D ((σ.set 4 (some pv)).set 5 (some ov)) H') :
    tSeq (tAsg (tTup (tCons (tCall (spPairs K) [] C8.E0 (tCons (tVar 1) (tCons (tVar 3) tNil)))
      (tCons (tCB (rTupOf K) (tCons (tCall (spMixed K) [] C8.E0 (tCons (tVar 1) (tCons (tLstRg (tRg1 (tVar 3))) tNil))) tNil)) tNil))) (gTup K 2 (gCons (gName 4) (gCons (gName 5) gNil)))) tz D σ H := by
  refine ⟨_, h1, _, h3, p, q, n, rfl, n1, n7, d, fun ps pv H1 W hpv f1 d1 => ?_⟩
  refine ⟨_, h1, (el_lrg (σ := σ) (tb := tVar 3) (n := n) (by omega) (ev_var h3)) H1 (Ex.refl _) _ fun sl Hs hs es hHs => ⟨p, q, sl, List.range n, rfl, by simp; omega, (ndeal d1 hs).1, (ndeal d1 hs).2, hHs, d1.mono es, fun r l' H3 hper hr hf hd3 hr3 => ?_⟩⟩
  have hp3 : Dp K H3 pv (dPs ps) := dp_monoT (hf.toT (d1.mono es)) (tupD_Ps _) (dp_mono es hpv)
  have hev : EvD K (tTup (tCons (tC pv) (tCons (tCB (rTupOf K) (tCons (tC (.ref r)) tNil)) tNil))) σ H3 (.tuple [dPs ps, dNs l']) :=
    evd_tup (eda_cons (evd_of ev_c fun _ e => dp_mono e hp3) (eda_cons (evd_tupOf (evd_of ev_c fun _ e => .lst (sq_of (e _ _ hr3)) (N_dpa l'))) eda_nil)) (by show 2 ≤ 100000; decide)
  exact q_asg2 (i := 4) (j := 5) (tz := tz) (D := D) hev fun v w H4 e4 hv hw => k v w ps l' H4 ⟨W, n1, n7, hper⟩ (hd3.mono e4) hv hw
def spLaw (K : PySem.W.Frag) : Sp := fun vs H Q _ => ∃ (a : Addr) (ns : List Int), vs = [.ref a] ∧ SqL K H a (ns.map V.int) ∧ ∀ H', Q (.bl true) H'
theorem ok_law (F : FnP K "law" "law" HD.s_law f fd) (c_law_draw : C8.Cal P w K mg base 1 "_law_draw" (spDraw K) []) (c_law_any : C8.Cal P w K mg base 1 "_law_any" (spAny K) [])
    (c_law_pairs : C8.Cal P w K mg base 3 "_law_pairs" (spPairs K) []) (c_law_mixed : C8.Cal P w K mg base 2 "_law_mixed" (spMixed K) []) (c_law_kept : C8.Cal P w K mg base 3 "_law_kept" (spR K 2 R_lkept) [])
    (c_law_news : C8.Cal P w K mg base 1 "_law_news" (spR K 2 R_lnews) []) (c_law_gone : C8.Cal P w K mg base 3 "_law_gone" (spR K 4 R_lgone) []) (c_law_at : C8.Cal P w K mg base 1 "_law_at" (spR K 2 R_law_at) [])
    (c_kept_lot : C8.Cal P w K mg base 9 "kept_lot" (spR K 2 R_kept_lot) [])
    (c_pair_turned : CalKw P w K mg base 2 "pair_turned" (spR K 2 R_pair_turned) ["pair", "web"] g2) (c_pair_news : CalKw P w K mg base 11 "pair_news" (spR K 3 R_pair_news) ["pair", "order", "web"] g3)
    (c_person_gone : CalKw P w K mg base 11 "person_gone" (spR K 3 R_person_gone) ["person", "order", "web"] g3) : FnG P w K mg base 12 f fd ["_law_script"] (spLaw K) := by
  refine fnG F sc_law (fun vs H Q E h => ?_) fun cdv Ar outer st H vs Q Ek hr hgu h => ?_
  · obtain ⟨a, ns, rfl, _⟩ := h; rfl
  obtain ⟨a, ns, rfl, hs, hq⟩ := h
  refine ⟨_, PSs.nox (pss_cons (ps_set (i := 1) sc_law.nd rfl (.inl rfl) (pe_c c_law_draw hr (by decide) rfl (pa_cons (pv 0) (pa_cons pe_int pa_nil))))
    (pss_cons (ps_for PassesOwn.never rfl (pi_range1 rfl B.range (pa_cons pe_int pa_nil)) (pg_name (i := 2) sc_law.nd rfl (.inl rfl)) (pss_cons (ps_set (i := 3) sc_law.nd rfl (.inl rfl) (pe_op op_add pe_int (pe_c c_law_any hr (by decide) rfl (pa_cons (pv 1) (pa_cons pe_int pa_nil)))))
    (pss_cons (ps_asg (pe_tup (pa_cons (pe_c c_law_pairs hr (by decide) rfl (pa_cons (pv 1) (pa_cons (pv 3) pa_nil))) (pa_cons (pe_callTy (cr_tupK K) rfl B.tuple (by decide +kernel) (pa_cons (pe_c c_law_mixed hr (by decide) rfl (pa_cons (pv 1) (pa_cons (pe_listRg rfl rfl B.list (prg_1 rfl B.range (pv 3))) pa_nil))) pa_nil)) pa_nil))) (k_gtup K (pg_tup (n := 2) rfl (pgs_cons (pg_name (i := 4) sc_law.nd rfl (.inr rfl)) (pgs_cons (pg_name (i := 5) sc_law.nd rfl (.inl rfl)) pgs_nil)))))
    (pss_cons (ps_asg (pe_tup (pa_cons (pe_tup (pa_cons (pv 3) (pa_cons (pv 4) pa_nil))) (pa_cons (pe_c c_law_kept hr (by decide) rfl (pa_cons (pv 4) (pa_cons (pv 5) pa_nil))) pa_nil))) (k_gtup K (pg_tup (n := 2) rfl (pgs_cons (pg_name (i := 6) sc_law.nd rfl (.inl rfl)) (pgs_cons (pg_name (i := 7) sc_law.nd rfl (.inr rfl)) pgs_nil)))))
    (pss_cons (ps_for PassesOwn.never rfl (pi_range1 rfl B.range (pa_cons (pe_ifExp (pt_cmpR op_gt (pv 3) pe_int (nomark _)) pe_int pe_int) pa_nil)) (pg_name (i := 8) sc_law.nd rfl (.inl rfl)) (pss_cons (ps_set (i := 9) sc_law.nd rfl (.inl rfl) (pe_slice (sl_lstK K) (pe_c c_law_mixed hr (by decide) rfl (pa_cons (pv 1) (pa_cons (pe_listRg rfl rfl B.list (prg_1 rfl B.range (pv 3))) pa_nil))) po_none (po_some pe_int)))
    (pss_cons (ps_set (i := 10) sc_law.nd rfl (.inr rfl) (pe_tup (pa_cons (pe_callB (cr_minK' K rfl hr) rfl B.min (by decide +kernel) (pa_cons (pv 9) pa_nil)) (pa_cons (pe_callB (cr_maxK K rfl hr) rfl B.max (by decide +kernel) (pa_cons (pv 9) pa_nil)) pa_nil))))
    (pss_cons (ps_set (i := 11) sc_law.nd rfl (.inl rfl) (pe_callTy (cr_tupK K) rfl B.tuple (by decide +kernel) (pa_cons (pe_callB (cr_sortK K hr) rfl B.sorted (by decide +kernel) (pa_cons (pe_op op_cat (pe_lc (own := [("_law_one", 17)]) rfl sc_law.nd  (k_tup K (pi_tup (pv 4))) (blkOk_by (N := N_law) (sc := defScope HD.s_law) (by decide +kernel)) (fun _ _ _ _ _ => (pg_name (i := 17) sc_law.nd rfl (.inl rfl))) (fun _ _ _ _ _ => (pts_one (pt_cmpR (op_neDK K hr) (pv 17) (pv 10) (nomark _)))) (fun _ _ _ _ _ => (pv 17))) (pe_ifExp (pt_cmpR (op_inTK K hr) (pv 10) (pv 4) (by with_unfolding_all rfl)) (pe_lst pa_nil) (pe_lst (pa_cons (pv 10) pa_nil)))) pa_nil)) pa_nil)))
    (pss_cons (ps_set (i := 12) sc_law.nd rfl (.inr rfl) (pe_c c_law_kept hr (by decide) rfl (pa_cons (pv 11) (pa_cons (pv 5) pa_nil))))
    (pss_cons (ps_set (i := 13) sc_law.nd rfl (.inr rfl) (pe_c c_law_news hr (by decide) rfl (pa_cons (pv 7) (pa_cons (pv 12) pa_nil))))
    (pss_cons (ps_if (PW.pt (pw_or (pt_cmpR op_isN' (pv 13) pe_non (nomark _)) (pw_or1 (pt_cmpR op_ne (pe_callB (cr_reprG (h64 hr) hgu) rfl B.repr (by decide +kernel) (pa_cons (pe_cK c_pair_turned hr (by decide) rfl (pk_cons (pv 10) (pk_cons (pv 6) pk_nil))) pa_nil)) (pe_callB (cr_reprG (h64 hr) hgu) rfl B.repr (by decide +kernel) (pa_cons (pe_tup (pa_cons (pv 3) (pa_cons (pv 11) pa_nil))) pa_nil)) (nomark _))))) (pss_one (ps_ret pe_bl)) pss_nil)
    (pss_cons (ps_if (PW.pt (pw_or (pt_cmpR op_ne (pe_callB (cr_reprG (h64 hr) hgu) rfl B.repr (by decide +kernel) (pa_cons (pe_cK c_pair_news hr (by decide) rfl (pk_cons (pv 10) (pk_cons (pv 5) (pk_cons (pv 6) pk_nil)))) pa_nil)) (pe_callB (cr_reprG (h64 hr) hgu) rfl B.repr (by decide +kernel) (pa_cons (pv 13) pa_nil)) (nomark _)) (pw_or1 (pt_cmpR op_eq (pe_ix (ix_tupK K) (pv 13) pe_int (fun _ _ => rfl)) (pe_ifExp (pt_cmpR (op_inTK K hr) (pv 10) (pv 4) (by with_unfolding_all rfl)) pe_str pe_str) (nomark _))))) (pss_one (ps_ret pe_bl)) pss_nil)
    (pss_one (ps_if (PW.pt (pw_and (pt_cmpR (op_neDK K hr) (pv 13) (pe_tup (pa_cons pe_str pa_nil)) (nomark _)) (pw_and1 (pt_cmpR (op_neDK K hr) (pe_lc (own := [("_law_one", 17)]) rfl sc_law.nd  (k_tup K (pi_tup (pv 10))) (blkOk_by (N := N_law) (sc := defScope HD.s_law) (by decide +kernel)) (fun _ _ _ _ _ => (pg_name (i := 17) sc_law.nd rfl (.inl rfl))) (fun _ _ _ _ _ => (pts_one (pt_cmpR (op_ninK K) (pv 17) (pe_ifExp (pt_cmpR (op_inTK K hr) (pv 10) (pv 4) (by with_unfolding_all rfl)) (pv 7) (pv 12)) (by with_unfolding_all rfl)))) (fun _ _ _ _ _ => (pv 17))) (pe_lst pa_nil) (nomark _))))) (pss_one (ps_ret pe_bl)) pss_nil))))))))))
    (pss_cons (ps_for PassesOwn.never rfl (pi_range1 rfl B.range (pa_cons pe_int pa_nil)) (pg_name (i := 8) sc_law.nd rfl (.inl rfl)) (pss_cons (ps_set (i := 14) sc_law.nd rfl (.inr rfl) (pe_c c_law_any hr (by decide) rfl (pa_cons (pv 1) (pa_cons (pv 3) pa_nil))))
    (pss_cons (ps_asg (pe_tup (pa_cons (pe_c c_law_gone hr (by decide) rfl (pa_cons (pv 4) (pa_cons (pv 5) (pa_cons (pv 7) (pa_cons (pv 14) pa_nil))))) (pa_cons (pe_c c_law_kept hr (by decide) rfl (pa_cons (pe_lc (own := [("_law_pair", 10)]) rfl sc_law.nd  (k_tup K (pi_tup (pv 4))) (blkOk_by (N := N_law) (sc := defScope HD.s_law) (by decide +kernel)) (fun _ _ _ _ _ => (pg_name (i := 10) sc_law.nd rfl (.inl rfl))) (fun _ _ _ _ _ => (pts_one (pt_cmpR (op_ninK K) (pv 14) (pv 10) (by with_unfolding_all rfl)))) (fun _ _ _ _ _ => (pv 10))) (pa_cons (pv 5) pa_nil))) pa_nil))) (k_gtup K (pg_tup (n := 2) rfl (pgs_cons (pg_name (i := 13) sc_law.nd rfl (.inr rfl)) (pgs_cons (pg_name (i := 12) sc_law.nd rfl (.inr rfl)) pgs_nil)))))
    (pss_cons (ps_set (i := 15) sc_law.nd rfl (.inl rfl) (pe_dget (hu_of hr) (pe_disp (pps_cons pe_str (pv 7) (pps_cons pe_str (pe_op (op_catK K) (pv 7) (pe_slice (sl_tupK K) (pv 13) (po_some pe_int) po_none)) (pps_cons pe_str (pe_callTy (cr_tupK K) rfl B.tuple (by decide +kernel) (pa_cons (pe_lc (own := [("_law_one", 17)]) rfl sc_law.nd  (k_tup K (pi_tup (pv 7))) (blkOk_by (N := N_law) (sc := defScope HD.s_law) (by decide +kernel)) (fun _ _ _ _ _ => (pg_name (i := 17) sc_law.nd rfl (.inl rfl))) (fun _ _ _ _ _ => (pts_one (pt_cmpR (op_ninK K) (pv 17) (pe_slice (sl_tupK K) (pv 13) (po_some pe_int) po_none) (by with_unfolding_all rfl)))) (fun _ _ _ _ _ => (pv 17))) pa_nil)) pps_nil))) rfl rfl (by decide) (by decide)) (pe_ix (ix_tupK K) (pv 13) pe_int (fun _ _ => rfl)) (fun _ _ => rfl)))
    (pss_cons (ps_if (pt_cmpR op_ne (pe_callB (cr_reprG (h64 hr) hgu) rfl B.repr (by decide +kernel) (pa_cons (pe_cK c_person_gone hr (by decide) rfl (pk_cons (pv 14) (pk_cons (pv 5) (pk_cons (pv 6) pk_nil)))) pa_nil)) (pe_callB (cr_reprG (h64 hr) hgu) rfl B.repr (by decide +kernel) (pa_cons (pv 13) pa_nil)) (nomark _)) (pss_one (ps_ret pe_bl)) pss_nil)
    (pss_one (ps_if (pt_cmpR (op_neDK K hr) (pv 12) (pe_callTy (cr_tupK K) rfl B.tuple (by decide +kernel) (pa_cons (pe_callB (cr_sortK K hr) rfl B.sorted (by decide +kernel) (pa_cons (pe_lc (own := [("_law_one", 17)]) rfl sc_law.nd  (k_tup K (pi_tup (pv 15))) (blkOk_by (N := N_law) (sc := defScope HD.s_law) (by decide +kernel)) (fun _ _ _ _ _ => (pg_name (i := 17) sc_law.nd rfl (.inl rfl))) (fun _ _ _ _ _ => (pts_one (PW.pt (pw_or (pt_cmpR op_ne (pv 17) (pv 14) (nomark _)) (pw_or1 (pt_cmpR (op_eqDK K hr) (pv 13) (pe_tup (pa_cons pe_str pa_nil)) (nomark _))))))) (fun _ _ _ _ _ => (pv 17))) pa_nil)) pa_nil)) (nomark _)) (pss_one (ps_ret pe_bl)) pss_nil)))))))
    (pss_cons (ps_set (i := 14) sc_law.nd rfl (.inr rfl) (pe_c c_law_any hr (by decide) rfl (pa_cons (pv 1) (pa_cons (pv 3) pa_nil))))
    (pss_cons (ps_set (i := 11) sc_law.nd rfl (.inl rfl) (pe_callTy (cr_tupK K) rfl B.tuple (by decide +kernel) (pa_cons (pe_callB (cr_sortK K hr) rfl B.sorted (by decide +kernel) (pa_cons (pe_op op_cat (pe_lc (own := [("_law_pair", 10)]) rfl sc_law.nd  (k_tup K (pi_tup (pv 4))) (blkOk_by (N := N_law) (sc := defScope HD.s_law) (by decide +kernel)) (fun _ _ _ _ _ => (pg_name (i := 10) sc_law.nd rfl (.inl rfl))) (fun _ _ _ _ _ => (pts_one (pt_cmpR (op_ninK K) (pv 14) (pv 10) (by with_unfolding_all rfl)))) (fun _ _ _ _ _ => (pv 10))) (pe_callTy (cr_lstK K) rfl B.list (by decide +kernel) (pa_cons (pe_c c_law_at hr (by decide) rfl (pa_cons (pe_c c_law_pairs hr (by decide) rfl (pa_cons (pv 1) (pa_cons (pv 3) pa_nil))) (pa_cons (pe_lst (pa_cons (pv 14) pa_nil)) pa_nil))) pa_nil))) pa_nil)) pa_nil)))
    (pss_cons (ps_set (i := 12) sc_law.nd rfl (.inr rfl) (pe_c c_kept_lot hr (by decide) rfl (pa_cons (pe_tup (pa_cons (pv 3) (pa_cons (pv 11) pa_nil))) (pa_cons (pv 5) pa_nil))))
    (pss_cons (ps_setLc (i := 16) (own := [("_law_one", 17)]) rfl sc_law.nd rfl rfl (sw_true rfl rfl rfl (by decide +kernel)) (pi_range1 rfl B.range (pa_cons (pv 3) pa_nil)) (blkOk_by (N := N_law) (sc := defScope HD.s_law) (by decide +kernel)) (fun _ _ _ _ _ => (pg_name (i := 17) sc_law.nd rfl (.inl rfl))) (fun _ _ _ _ _ => (pts_one (pt_cmpR op_ne (pe_cmpR (op_inK K) (pv 17) (pv 7) (by with_unfolding_all rfl)) (pe_cmpR (op_inK K) (pv 17) (pv 12) (by with_unfolding_all rfl)) (nomark _)))) (fun _ _ _ _ _ => (pv 17)))
    (pss_one (ps_if (PW.pt (pw_or (pt_cmpR op_gt (pe_callB (cr_lenK K) rfl B.len (by decide +kernel) (pa_cons (pv 16) pa_nil)) pe_int (nomark _)) (pw_or1 (PW.pt (pw_and (pt_cmpR (op_neDK K hr) (pv 16) (pe_lst pa_nil) (nomark _)) (pw_and (pt_cmpR (op_ninK K) (pv 14) (pv 7) (by with_unfolding_all rfl)) (pw_and1 (pt_cmpR (op_ninK K) (pv 14) (pv 12) (by with_unfolding_all rfl))))))))) (pss_one (ps_ret pe_bl)) pss_nil))))))))))))
    (pss_one (ps_ret pe_bl)))), ?_⟩
  refine ⟨_, rfl, a, ns, rfl, hs, fun p q H1 hp hq1 e1 d1 => ?_⟩
  dsimp only
  refine q_forR True (fun σ H => ∃ o2 o3 o4 o5 o6 o7 o8 o9 o10 o11 o12 o13 o14 o15 o16, σ = [some (.ref a), some (.ref p), o2, o3, o4, o5, o6, o7, o8, o9, o10, o11, o12, o13, o14, o15, o16, none] ∧ Deal p q H)
    (fun Q q => q 2 H1 (by omega) (fun _ => trivial) ⟨_, _, _, _, _, _, _, _, _, _, _, _, _, _, _, rfl, d1⟩) ?_ fun σ H2 _ => hq H2
  rintro - m σ H2 ⟨o2, o3, o4, o5, o6, o7, o8, o9, o10, o11, o12, o13, o14, o15, o16, rfl, d2⟩
  refine ⟨_, rfl, p, q, 7, rfl, by decide, by decide, d2, fun u H3 hu f3 d3 => ⟨1, (u : Int), rfl, rfl, ?_⟩⟩
  dsimp only
  rw [show (1 : Int) + (u : Int) = ((1 + u : Nat) : Int) from by omega]
  generalize hn : 1 + u = n
  refine q_asg45 (p := p) (q := q) (n := n) rfl rfl (by omega) (by omega) d3 fun pv ov ps ord H4 x d4 hp4 ho4 => ?_
  have k4 := x.kok x.W.hw x.W.nd (by have := x.W.len; omega)
  refine q_asg2 (d := dW n ps) (e := dNs (keptT ps ord)) (evd_tup (eda_cons (evd_tup (eda_cons (evd_int (ev_var rfl)) (eda_cons (evd_var rfl hp4) eda_nil)) (by show 2 ≤ 100000; decide))
    (eda_cons (evd_callR (ds := [dPs ps, dNs ord]) (eda_cons (evd_var rfl hp4) (eda_cons (evd_var rfl ho4) eda_nil)) rfl ⟨n, ps, ord, k4, .inl rfl, rfl⟩) eda_nil)) (by show 2 ≤ 100000; decide)) fun wv kv H5 e5 hw5 hk5 => ?_
  have c : Ctx K p q n ps ord pv ov wv kv H5 := ⟨d4.mono e5, dp_mono e5 hp4, dp_mono e5 ho4, hw5, hk5⟩
  refine q_forR (2 ≤ n) (fun σ H => ∃ o8 o9 o10 o11 o12 o13 o14 o15 o16, σ = [some (.ref a), some (.ref p), some (vN m), some (vN n), some pv, some ov, some wv, some kv, o8, o9, o10, o11, o12, o13, o14, o15, o16, none] ∧ Ctx K p q n ps ord pv ov wv kv H) ?_ ?_ ?_
  · intro Q q
    refine (et_is (et_test (ev_op (ev_var rfl) ev_c rv_I0)) (b := decide (2 ≤ n)) ?_ : EvT (tTest (tOp (rI0 fun i j => V.bl (decide (j < i))) (tVar 3) (tC (V.int 1)))) [some (.ref a), some (.ref p), some (vN m), some (vN n), some pv, some ov, some wv, some kv, o8, o9, o10, o11, o12, o13, o14, o15, o16, none] H5 (decide (2 ≤ n))) H5 (Ex.refl _) _ fun H6 e6 => ?_
    · rw [Bool.eq_iff_iff]; simp; omega
    · by_cases h : 2 ≤ n
      · rw [decide_eq_true h]
        exact q 3 H6 (by omega) (fun _ => h) ⟨_, _, _, _, _, _, _, _, _, rfl, c.ex e6⟩
      · rw [decide_eq_false h]
        exact q 0 H6 (by omega) (fun h => absurd h (by omega)) ⟨_, _, _, _, _, _, _, _, _, rfl, c.ex e6⟩
  · rintro h2 m2 σ H6 ⟨o8, o9, o10, o11, o12, o13, o14, o15, o16, rfl, c6⟩
    exact blk1 x c6 h2 fun _ _ _ _ _ H7 c7 => ⟨_, _, _, _, _, _, _, _, _, rfl, c7⟩
  · rintro σ H6 ⟨o8, o9, o10, o11, o12, o13, o14, o15, o16, rfl, c6⟩
    refine q_forR True (fun σ H => ∃ o8 o9 o10 o11 o12 o13 o14 o15 o16, σ = [some (.ref a), some (.ref p), some (vN m), some (vN n), some pv, some ov, some wv, some kv, o8, o9, o10, o11, o12, o13, o14, o15, o16, none] ∧ Ctx K p q n ps ord pv ov wv kv H)
      (fun Q q => q 2 H6 (by omega) (fun _ => trivial) ⟨_, _, _, _, _, _, _, _, _, rfl, c6⟩) ?_ ?_
    · rintro - m2 σ H7 ⟨o8, o9, o10, o11, o12, o13, o14, o15, o16, rfl, c7⟩
      exact blk2 x c7 fun _ _ _ _ H8 c8 => ⟨_, _, _, _, _, _, _, _, _, rfl, c8⟩
    · rintro σ H7 ⟨o8, o9, o10, o11, o12, o13, o14, o15, o16, rfl, c7⟩
      exact blk3 x c7 fun _ _ _ _ H8 c8 => ⟨_, _, _, _, _, _, _, _, _, _, _, _, _, _, _, rfl, c8.deal⟩
end
end WK
/-! ### WZ -/
set_option Elab.async false
set_option linter.all false
set_option maxRecDepth 100000
set_option maxHeartbeats 0
/-! the end: the head's facts, every promise, the law -/
namespace WK
open PySem PySem.Spec PyProof.Rows L2 Evl DX DL KM C8
theorem facts {P : Program} {w : World} {K : PySem.W.Frag} {h : Heap} {mg : Str → Option Value} {f : Addr} (X : K.In h) (G : h.Ns mainGlobals mg) (hfa : mg ("law" : Str) = some (.ref f)) (c : He.SaysD HD.fa HD.fn K) (ex : HD.ex K = true) :
    ∃ fd : FuncData, (∀ (s : Shared) (v : Value), BindsTo s fd ⟨[v], []⟩ [("_law_script", v)]) ∧ ∀ base : Heap, K.In base → base.Ns mainGlobals mg → FnG P w K mg base 12 f fd ["_law_script"] (spLaw K) := by
  obtain ⟨d0, F_is_integer⟩ := c.def_ 0 (d := HD.d_is_integer) rfl
  obtain ⟨d1, F_is_number⟩ := c.def_ 1 (d := HD.d_is_number) rfl
  obtain ⟨d2, F_is_index⟩ := c.def_ 2 (d := HD.d_is_index) rfl
  obtain ⟨d3, F_is_row_of⟩ := c.def_ 3 (d := HD.d_is_row_of) rfl
  obtain ⟨d4, F_is_word_of⟩ := c.def_ 4 (d := HD.d_is_word_of) rfl
  obtain ⟨d5, F_served⟩ := c.def_ 5 (d := HD.d_served) rfl
  obtain ⟨d6, F_partner⟩ := c.def_ 6 (d := HD.d_partner) rfl
  obtain ⟨d7, F_steps_of⟩ := c.def_ 7 (d := HD.d_steps_of) rfl
  obtain ⟨d8, F_are_people⟩ := c.def_ 8 (d := HD.d_are_people) rfl
  obtain ⟨d9, F_is_turn⟩ := c.def_ 9 (d := HD.d_is_turn) rfl
  obtain ⟨d10, F_turned⟩ := c.def_ 10 (d := HD.d_turned) rfl
  obtain ⟨d11, F_neighbours⟩ := c.def_ 11 (d := HD.d_neighbours) rfl
  obtain ⟨d12, F_near_of⟩ := c.def_ 12 (d := HD.d_near_of) rfl
  obtain ⟨d13, F_S_init⟩ := c.def_ 13 (d := HD.d_S_init) rfl
  obtain ⟨d14, F_S_run⟩ := c.def_ 14 (d := HD.d_S_run) rfl
  obtain ⟨d15, F_S_meeting⟩ := c.def_ 15 (d := HD.d_S_meeting) rfl
  obtain ⟨d16, F_S_shrink⟩ := c.def_ 16 (d := HD.d_S_shrink) rfl
  obtain ⟨d17, F_S_way⟩ := c.def_ 17 (d := HD.d_S_way) rfl
  obtain ⟨d18, F_S_reached⟩ := c.def_ 18 (d := HD.d_S_reached) rfl
  obtain ⟨d19, F_told_search⟩ := c.def_ 19 (d := HD.d_told_search) rfl
  obtain ⟨d20, F_served_more⟩ := c.def_ 20 (d := HD.d_served_more) rfl
  obtain ⟨d21, F_kept_of⟩ := c.def_ 21 (d := HD.d_kept_of) rfl
  obtain ⟨d22, F_kept_lot⟩ := c.def_ 22 (d := HD.d_kept_lot) rfl
  obtain ⟨d23, F_pairs_at⟩ := c.def_ 23 (d := HD.d_pairs_at) rfl
  obtain ⟨d24, F_less⟩ := c.def_ 24 (d := HD.d_less) rfl
  obtain ⟨d25, F_come_and_gone⟩ := c.def_ 25 (d := HD.d_come_and_gone) rfl
  obtain ⟨d26, F_pair_turned⟩ := c.def_ 26 (d := HD.d_pair_turned) rfl
  obtain ⟨d27, F_pair_news⟩ := c.def_ 27 (d := HD.d_pair_news) rfl
  obtain ⟨d28, F_person_gone⟩ := c.def_ 28 (d := HD.d_person_gone) rfl
  obtain ⟨d29, F_law_draw⟩ := c.def_ 29 (d := HD.d_law_draw) rfl
  obtain ⟨d30, F_law_any⟩ := c.def_ 30 (d := HD.d_law_any) rfl
  obtain ⟨d31, F_law_of⟩ := c.def_ 31 (d := HD.d_law_of) rfl
  obtain ⟨d32, F_law_mixed⟩ := c.def_ 32 (d := HD.d_law_mixed) rfl
  obtain ⟨d33, F_law_pairs⟩ := c.def_ 33 (d := HD.d_law_pairs) rfl
  obtain ⟨d34, F_law_at⟩ := c.def_ 34 (d := HD.d_law_at) rfl
  obtain ⟨d35, F_law_plans⟩ := c.def_ 35 (d := HD.d_law_plans) rfl
  obtain ⟨d36, F_law_lot_of⟩ := c.def_ 36 (d := HD.d_law_lot_of) rfl
  obtain ⟨d37, F_law_marked⟩ := c.def_ 37 (d := HD.d_law_marked) rfl
  obtain ⟨d38, F_law_first⟩ := c.def_ 38 (d := HD.d_law_first) rfl
  obtain ⟨d39, F_law_kept⟩ := c.def_ 39 (d := HD.d_law_kept) rfl
  obtain ⟨d40, F_law_news⟩ := c.def_ 40 (d := HD.d_law_news) rfl
  obtain ⟨d41, F_law_can⟩ := c.def_ 41 (d := HD.d_law_can) rfl
  obtain ⟨d42, F_law_gone⟩ := c.def_ 42 (d := HD.d_law_gone) rfl
  obtain ⟨d43, F_law⟩ := c.def_ 43 (d := HD.d_law) rfl
  have m_is_integer := He.glo_ok X G (c.fact 0 (f := .glo "is_integer") rfl)
  have m_is_number := He.glo_ok X G (c.fact 1 (f := .glo "is_number") rfl)
  have m_is_index := He.glo_ok X G (c.fact 2 (f := .glo "is_index") rfl)
  have m_is_row_of := He.glo_ok X G (c.fact 3 (f := .glo "is_row_of") rfl)
  have m_is_word_of := He.glo_ok X G (c.fact 4 (f := .glo "is_word_of") rfl)
  have m_served := He.glo_ok X G (c.fact 5 (f := .glo "served") rfl)
  have m_partner := He.glo_ok X G (c.fact 6 (f := .glo "partner") rfl)
  have m_steps_of := He.glo_ok X G (c.fact 7 (f := .glo "steps_of") rfl)
  have m_are_people := He.glo_ok X G (c.fact 8 (f := .glo "are_people") rfl)
  have m_is_turn := He.glo_ok X G (c.fact 9 (f := .glo "is_turn") rfl)
  have m_turned := He.glo_ok X G (c.fact 10 (f := .glo "turned") rfl)
  have m_neighbours := He.glo_ok X G (c.fact 11 (f := .glo "neighbours") rfl)
  have m_near_of := He.glo_ok X G (c.fact 12 (f := .glo "near_of") rfl)
  have m_told_search := He.glo_ok X G (c.fact 13 (f := .glo "told_search") rfl)
  have m_served_more := He.glo_ok X G (c.fact 14 (f := .glo "served_more") rfl)
  have m_kept_of := He.glo_ok X G (c.fact 15 (f := .glo "kept_of") rfl)
  have m_kept_lot := He.glo_ok X G (c.fact 16 (f := .glo "kept_lot") rfl)
  have m_pairs_at := He.glo_ok X G (c.fact 17 (f := .glo "pairs_at") rfl)
  have m_less := He.glo_ok X G (c.fact 18 (f := .glo "less") rfl)
  have m_come_and_gone := He.glo_ok X G (c.fact 19 (f := .glo "come_and_gone") rfl)
  have m_pair_turned := He.glo_ok X G (c.fact 20 (f := .glo "pair_turned") rfl)
  have m_pair_news := He.glo_ok X G (c.fact 21 (f := .glo "pair_news") rfl)
  have m_person_gone := He.glo_ok X G (c.fact 22 (f := .glo "person_gone") rfl)
  have m__law_draw := He.glo_ok X G (c.fact 23 (f := .glo "_law_draw") rfl)
  have m__law_any := He.glo_ok X G (c.fact 24 (f := .glo "_law_any") rfl)
  have m__law_of := He.glo_ok X G (c.fact 25 (f := .glo "_law_of") rfl)
  have m__law_mixed := He.glo_ok X G (c.fact 26 (f := .glo "_law_mixed") rfl)
  have m__law_pairs := He.glo_ok X G (c.fact 27 (f := .glo "_law_pairs") rfl)
  have m__law_at := He.glo_ok X G (c.fact 28 (f := .glo "_law_at") rfl)
  have m__law_plans := He.glo_ok X G (c.fact 29 (f := .glo "_law_plans") rfl)
  have m__law_lot_of := He.glo_ok X G (c.fact 30 (f := .glo "_law_lot_of") rfl)
  have m__law_marked := He.glo_ok X G (c.fact 31 (f := .glo "_law_marked") rfl)
  have m__law_first := He.glo_ok X G (c.fact 32 (f := .glo "_law_first") rfl)
  have m__law_kept := He.glo_ok X G (c.fact 33 (f := .glo "_law_kept") rfl)
  have m__law_news := He.glo_ok X G (c.fact 34 (f := .glo "_law_news") rfl)
  have m__law_can := He.glo_ok X G (c.fact 35 (f := .glo "_law_can") rfl)
  have m__law_gone := He.glo_ok X G (c.fact 36 (f := .glo "_law_gone") rfl)
  have m_law := He.glo_ok X G (c.fact 37 (f := .glo "law") rfl)
  have m_Search := He.glo_ok X G (c.fact 38 (f := .glo "Search") rfl)
  have m_KINDS := He.glo_ok X G (c.fact 41 (f := .glo "KINDS") rfl)
  have B : BI mg := ⟨He.free_ok X G (c.fact 56 (f := .free "isinstance") rfl), He.free_ok X G (c.fact 61 (f := .free "len") rfl), He.free_ok X G (c.fact 62 (f := .free "all") rfl), He.free_ok X G (c.fact 63 (f := .free "any") rfl), He.free_ok X G (c.fact 64 (f := .free "set") rfl), He.free_ok X G (c.fact 65 (f := .free "sorted") rfl), He.free_ok X G (c.fact 67 (f := .free "max") rfl), He.free_ok X G (c.fact 66 (f := .free "min") rfl), He.free_ok X G (c.fact 68 (f := .free "zip") rfl), He.free_ok X G (c.fact 69 (f := .free "range") rfl), He.free_ok X G (c.fact 70 (f := .free "enumerate") rfl), He.free_ok X G (c.fact 71 (f := .free "list") rfl), He.free_ok X G (c.fact 72 (f := .free "abs") rfl), He.free_ok X G (c.fact 73 (f := .free "repr") rfl), He.free_ok X G (c.fact 57 (f := .free "int") rfl), He.free_ok X G (c.fact 58 (f := .free "bool") rfl), He.free_ok X G (c.fact 59 (f := .free "tuple") rfl), He.free_ok X G (c.fact 60 (f := .free "str") rfl)⟩
  have CFx : CF K (He.ga K "Search") := ⟨He.cls_ok (c.fact 39 (f := .cls "Search") rfl), He.noat_ok (c.fact 43 (f := .noat "Search" "near") rfl), He.noat_ok (c.fact 44 (f := .noat "Search" "root") rfl), He.noat_ok (c.fact 45 (f := .noat "Search" "mates") rfl), He.noat_ok (c.fact 46 (f := .noat "Search" "back") rfl), He.noat_ok (c.fact 47 (f := .noat "Search" "base") rfl), He.noat_ok (c.fact 48 (f := .noat "Search" "even") rfl), He.noat_ok (c.fact 49 (f := .noat "Search" "left") rfl)⟩
  have Mkx := He.mkr_ok (c.fact 40 (f := .mkr "Search") rfl)
  have kd : Kinds K mg (He.ga K "KINDS") := ⟨⟨_, m_KINDS, rfl⟩, fun H => .tup (He.tupB_ok ex H) (.cons (.str _) (.cons (.str _) .nil))⟩
  have e := hfa.symm.trans m_law
  cases e
  have b := FunD.bindsA (ps := ["_law_script"]) F_law fun _ _ _ _ _ _ us hl => match us, hl with | [_], _ => rfl
  refine ⟨_, fun s v => b s [v] rfl, fun base _ _ => ?_⟩
  have c_is_integer := ok_is_integer (P := P) (w := w) (base := base) B F_is_integer m_is_integer
  have c_is_number := ok_is_number B F_is_number m_is_number c_is_integer
  have c_is_index := ok_is_index B F_is_index m_is_index c_is_number
  have c_is_row_of := ok_is_row_of (P := P) (w := w) (base := base) B F_is_row_of m_is_row_of
  have c_is_word_of := ok_is_word_of (P := P) (w := w) (base := base) B F_is_word_of m_is_word_of
  have c_served := ok_served (P := P) (w := w) (base := base) B F_served m_served
  have c_partner := ok_partner (P := P) (w := w) (base := base) B F_partner m_partner
  have c_steps_of := ok_steps_of (P := P) (w := w) (base := base) B F_steps_of m_steps_of
  have c_are_people := ok_are_people B F_are_people m_are_people c_is_index
  have c_is_turn := ok_is_turn B kd F_is_turn m_is_turn c_is_row_of c_is_word_of c_are_people c_steps_of c_served
  have c_turned := ok_turned B F_turned m_turned c_is_turn c_steps_of
  have c_neighbours := ok_neighbours (P := P) (w := w) (base := base) B F_neighbours m_neighbours
  have c_near_of := ok_near_of B F_near_of m_near_of c_neighbours
  have c_pairs_at := ok_pairs_at (P := P) (w := w) (base := base) B F_pairs_at m_pairs_at
  have c_less := ok_less (P := P) (w := w) (base := base) B F_less m_less
  have c_S_init := ok_init (P := P) (w := w) (base := base) B CFx F_S_init Mkx m_Search
  have c_S_meeting := ok_meeting (P := P) (w := w) (base := base) B CFx F_S_meeting (He.meth_ok (c.fact 52 (f := .meth "Search" "meeting") rfl))
  have c_S_way := ok_way (P := P) (w := w) (base := base) B CFx F_S_way (He.meth_ok (c.fact 54 (f := .meth "Search" "way") rfl))
  have c_S_reached := ok_reached (P := P) (w := w) (base := base) B CFx F_S_reached (He.meth_ok (c.fact 55 (f := .meth "Search" "reached") rfl))
  have c_S_shrink := ok_shrink CFx B F_S_shrink (He.meth_ok (c.fact 53 (f := .meth "Search" "shrink") rfl)) c_S_meeting
  have c_S_run := ok_run B CFx F_S_run (He.meth_ok (c.fact 51 (f := .meth "Search" "run") rfl)) c_S_shrink
  have c_told_search := ok_told_search B CFx F_told_search m_told_search c_S_init c_S_run
  have c_served_more := ok_served_more B CFx F_served_more m_served_more c_partner c_told_search c_turned c_S_way c_S_reached
  have c_kept_of := ok_kept_of B F_kept_of m_kept_of c_near_of c_served_more
  have c_kept_lot := ok_kept_lot B F_kept_lot m_kept_lot c_kept_of
  have c_come_and_gone := ok_come_and_gone B F_come_and_gone m_come_and_gone c_kept_lot
  have c_fpt := fk_pair_turned B F_pair_turned c_less
  have c_pair_turned := cal_fn (x := "pair_turned") (st := HD.s_pair_turned) F_pair_turned m_pair_turned (F_pair_turned.bindsN fun _ _ _ _ _ _ us hl => match us, hl with | [_, _], _ => rfl) c_fpt
  have c_fpn := fk_pair_news B F_pair_news c_pair_turned c_come_and_gone
  have c_fpg := fk_person_gone B F_person_gone c_less c_pairs_at c_come_and_gone
  have c_law_any := ok_any (P := P) (w := w) (base := base) B F_law_any m__law_any
  have c_law_draw := ok_draw (P := P) (w := w) (base := base) B F_law_draw m__law_draw
  have c_law_of := ok_of B F_law_of m__law_of c_law_any
  have c_law_mixed := ok_mixed B F_law_mixed m__law_mixed c_law_any
  have c_law_pairs := ok_pairs B F_law_pairs m__law_pairs c_law_any c_law_of c_law_mixed
  have c_law_at := ok_law_at (P := P) (w := w) (base := base) B F_law_at m__law_at
  have c_law_plans := ok_plans (P := P) (w := w) (base := base) B F_law_plans m__law_plans
  have c_law_lot_of := ok_lot_of (P := P) (w := w) (base := base) B F_law_lot_of m__law_lot_of
  have c_law_marked := ok_marked B F_law_marked m__law_marked c_law_lot_of
  have c_law_first := ok_first (P := P) (w := w) (base := base) B F_law_first m__law_first
  have c_law_kept := ok_lkept B F_law_kept m__law_kept c_law_plans c_law_marked c_law_first
  have c_law_news := ok_lnews (P := P) (w := w) (base := base) B F_law_news m__law_news
  have c_law_can := ok_can B F_law_can m__law_can c_law_lot_of
  have c_law_gone := ok_lgone B F_law_gone m__law_gone c_law_plans c_law_can
  exact ok_law B F_law c_law_draw c_law_any c_law_pairs c_law_mixed c_law_kept c_law_news c_law_gone c_law_at c_kept_lot (kw_pair_turned F_pair_turned m_pair_turned c_fpt) (kw_pair_news F_pair_news m_pair_news c_fpn) (kw_person_gone F_person_gone m_person_gone c_fpg)
end WK
/-! ### WY -/
set_option Elab.async false
set_option linter.all false
set_option maxRecDepth 100000
set_option maxHeartbeats 0
/-! the law holds -/
open PySem PySem.W PySem.Calls PyProof.Rows
theorem PySem.Challenge.cw_givesifgets_k32_whole_one_pair_one_perso_holds : PySem.Challenge.rw_givesifgets_k32_whole_one_pair_one_perso.Holds := by
  w_on; o_law
  refine HandSHeadRun.head_any (r := HD.R) (q := view HD.R.prog [55]) (H := HD.hk) (ob := HD.ob) (M := 4000) (loose := HD.names) (d := HandSHeadRun.topDef HD.R.prog 55) (kwd := []) HD.ob_eq
    (by kernel_rfl) (fun s => by kernel_rfl) HD.run (by kernel_rfl) (by kernel_rfl) (by kernel_rfl) (by rfl) (by first | assumption | decide +kernel) (by decide +kernel) ⟨rfl, rfl, rfl, rfl, rfl, by decide +kernel⟩ ?hw ?hc
  case hw => w_witness2
  case hc =>
    refine WK.walkG (l := PySem.Challenge.rw_givesifgets_k32_whole_one_pair_one_perso) (n := 63) (k := 12) (x := "_law_script") rfl (by decide) (by kernel_rfl) ⟨rfl, by decide, by decide⟩ ?F
    intro w mg fa h Y G hmg0
    obtain ⟨K, KX, c⟩ := Y
    have hmg : mg ("law" : PySem.Str) = some (.ref fa) := by
      have e : (HandSHeadRun.topDef HD.R.prog 55).name = ("law" : PySem.Str) := by kernel_rfl
      rw [← e]
      exact hmg0
    obtain ⟨fd, hb, hF⟩ := WK.facts (P := HD.R.prog) (w := w) KX G hmg c.t.d c.more
    exact ⟨K, fd, WK.spLaw K, KX, hb, fun H a ns hS => ⟨a, ns, rfl, hS, fun _ => rfl⟩, hF⟩
