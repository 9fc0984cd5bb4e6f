import PyProof.Rows.All
import KE.DatumOrd
import HandS.SortRule
import Wide.All
import OpenK.AllK
import Wide.FinOn
import KE.KStateDown
import HandS.ForMost
import HandS.ForExc
import HandS.Evl
import HandS.ExcCtx
import HandS.ExcIs
import HandS.HotCalls
import HandS.IsInst
import HandS.Codes
import HandS.Conv
import HandS.Deep
import HandS.Zip
import HandS.SetFor
import HandS.Defaults
import HandS.Walk
import PySem.Challenge.RW_cellfolio_k19_whole_fewer_walked
import KE.Datum
import HandS.Head0
import HandS.Head1
import HandS.Head2
import HandS.HeadEnd
import HandS.HeadHook1
import HandS.HeadHook2
set_option Elab.async false
set_option linter.all false
set_option maxHeartbeats 4000000
/-! the mathematics, no program in sight -/
namespace C19
abbrev Pic := List (List Int)
abbrev Col := Int × Int × Int
/-! ### counting -/
def cntL (l : List Int) : List Int := (List.range 16).map fun i => ((l.count ((i : Nat) : Int) : Nat) : Int)
def cnt (p : Pic) (c : Int) : Nat := p.flatten.count c
def counts (p : Pic) : List Int := cntL p.flatten
theorem cntL_len (l : List Int) : (cntL l).length = 16 := by simp [cntL]
theorem cntL_at (l : List Int) {i : Nat} (h : i < 16) : (cntL l)[i]? = some ((l.count ((i : Nat) : Int) : Nat) : Int) := by
  unfold cntL
  rw [List.getElem?_map, List.getElem?_range h]
  rfl
theorem cntL_nil : cntL [] = List.replicate 16 0 := by decide
theorem cntL_step (l : List Int) {c : Int} (h0 : 0 ≤ c) (h1 : c ≤ 15) : (cntL l).set c.toNat (((l.count c : Nat) : Int) + 1) = cntL (l ++ [c]) := by
  refine List.ext_getElem? fun i => ?_
  by_cases hi : i < 16
  · rw [List.getElem?_set, cntL_len, cntL_at _ hi, cntL_at _ hi]
    by_cases e : c.toNat = i
    · have e2 : ((i : Nat) : Int) = c := by omega
      rw [if_pos e, if_pos (by omega), e2, List.count_append, List.count_singleton_self]
      simp
    · rw [if_neg e, List.count_append, List.count_singleton]
      have e2 : (c == ((i : Nat) : Int)) = false := by
        rw [beq_eq_false_iff_ne]
        omega
      rw [e2]
      simp
  · rw [List.getElem?_eq_none (by rw [List.length_set, cntL_len]; omega), List.getElem?_eq_none (by rw [cntL_len]; omega)]
theorem counts_len (p : Pic) : (counts p).length = 16 := cntL_len _
theorem counts_at (p : Pic) {i : Nat} (h : i < 16) : (counts p)[i]? = some ((cnt p ((i : Nat) : Int) : Nat) : Int) := cntL_at _ h
/-- a picture of cells below m, w wide -/
structure Good (p : Pic) : Prop where
  high : 1 ≤ p.length ∧ p.length ≤ 24
  wide : ∃ w, 1 ≤ w ∧ w ≤ 24 ∧ ∀ r ∈ p, r.length = w
  cell : ∀ r ∈ p, ∀ c ∈ r, 0 ≤ c ∧ c ≤ 15
theorem Good.row {p : Pic} (h : Good p) {r : List Int} (hr : r ∈ p) : 1 ≤ r.length ∧ r.length ≤ 24 := by
  obtain ⟨w, h1, h2, h3⟩ := h.wide
  rw [h3 r hr]
  exact ⟨h1, h2⟩
theorem Good.flat {p : Pic} (h : Good p) {c : Int} (hc : c ∈ p.flatten) : 0 ≤ c ∧ c ≤ 15 := by
  obtain ⟨r, hr, h2⟩ := List.mem_flatten.mp hc
  exact h.cell r hr c h2
theorem cnt_pos {p : Pic} {c : Int} : 0 < cnt p c ↔ c ∈ p.flatten := List.count_pos_iff
/-! ### the used cells -/
def used (p : Pic) : List Int := ((List.range 16).filter fun i => decide (0 < cnt p ((i : Nat) : Int))).map fun i => ((i : Nat) : Int)
theorem mem_used {p : Pic} {c : Int} : c ∈ used p ↔ (0 ≤ c ∧ c ≤ 15) ∧ 0 < cnt p c := by
  unfold used
  rw [List.mem_map]
  constructor
  · rintro ⟨i, hi, rfl⟩
    obtain ⟨h1, h2⟩ := List.mem_filter.mp hi
    have := List.mem_range.mp h1
    exact ⟨by omega, of_decide_eq_true h2⟩
  · rintro ⟨h1, h2⟩
    have e : ((c.toNat : Nat) : Int) = c := by omega
    exact ⟨c.toNat, List.mem_filter.mpr ⟨List.mem_range.mpr (by omega), by rw [e]; exact decide_eq_true h2⟩, e⟩
theorem used_lt (p : Pic) : (used p).Pairwise (· < ·) := by
  unfold used
  refine List.pairwise_map.mpr (List.Pairwise.filter _ ?_)
  exact List.pairwise_lt_range.imp fun h => by omega
theorem used_nodup (p : Pic) : (used p).Nodup := (used_lt p).imp fun h => by omega
theorem used_len (p : Pic) : (used p).length ≤ 16 := by
  unfold used
  rw [List.length_map]
  have := List.length_filter_le (fun i => decide (0 < cnt p ((i : Nat) : Int))) (List.range 16)
  rw [List.length_range] at this
  exact this
/-- two strictly rising lists of the same members are one -/
theorem rise_ext : ∀ {l m : List Int}, l.Pairwise (· < ·) → m.Pairwise (· < ·) → (∀ c, c ∈ l ↔ c ∈ m) → l = m
  | [], [], _, _, _ => rfl
  | [], y :: m, _, _, h => absurd ((h y).mpr List.mem_cons_self) (by simp)
  | x :: l, [], _, _, h => absurd ((h x).mp List.mem_cons_self) (by simp)
  | x :: l, y :: m, hl0, hm0, h => by
    have hx := (List.pairwise_cons.mp hl0).1
    have hy := (List.pairwise_cons.mp hm0).1
    have e : x = y := by
      rcases List.mem_cons.mp ((h x).mp List.mem_cons_self) with e | e
      · exact e
      · rcases List.mem_cons.mp ((h y).mpr List.mem_cons_self) with e2 | e2
        · exact e2.symm
        · have := hx y e2
          have := hy x e
          omega
    have hlm : ∀ c, c ∈ l ↔ c ∈ m := fun c => ⟨fun hc => by
      rcases List.mem_cons.mp ((h c).mp (List.mem_cons_of_mem _ hc)) with e3 | e3
      · have := hx c hc
        omega
      · exact e3, fun hc => by
      rcases List.mem_cons.mp ((h c).mpr (List.mem_cons_of_mem _ hc)) with e3 | e3
      · have := hy c hc
        omega
      · exact e3⟩
    rw [e, rise_ext (List.pairwise_cons.mp hl0).2 (List.pairwise_cons.mp hm0).2 hlm]
/-! ### one cell less -/
def merge (g h : Int) (p : Pic) : Pic := p.map fun r => r.map fun c => if c = g then h else c
theorem merge_flat (g h : Int) (p : Pic) : (merge g h p).flatten = p.flatten.map fun c => if c = g then h else c := by
  unfold merge
  rw [List.map_flatten]
theorem count_merge {g h : Int} (hne : g ≠ h) (c : Int) : ∀ l : List Int, (l.map fun c => if c = g then h else c).count c = if c = g then 0 else if c = h then l.count h + l.count g else l.count c
  | [] => by simp
  | x :: l => by
    rw [List.map_cons, List.count_cons, count_merge hne c l]
    by_cases hx : x = g
    · subst hx
      rw [if_pos rfl]
      by_cases hc : c = x
      · subst hc
        rw [if_pos rfl, if_pos rfl]
        have : (h == c) = false := by
          rw [beq_eq_false_iff_ne]
          exact Ne.symm hne
        rw [this]
        simp
      · rw [if_neg hc, if_neg hc]
        by_cases hh : c = h
        · subst hh
          rw [if_pos rfl, if_pos rfl, List.count_cons, List.count_cons, beq_self_eq_true, beq_self_eq_true]
          have : (x == c) = false := by
            rw [beq_eq_false_iff_ne]
            exact hne
          rw [this]
          simp
          omega
        · rw [if_neg hh, if_neg hh, List.count_cons]
          have e1 : (h == c) = false := by
            rw [beq_eq_false_iff_ne]
            exact Ne.symm hh
          have e2 : (x == c) = false := by
            rw [beq_eq_false_iff_ne]
            exact Ne.symm hc
          rw [e1, e2]
    · rw [if_neg hx]
      by_cases hc : c = g
      · subst hc
        have e1 : (x == c) = false := by
          rw [beq_eq_false_iff_ne]
          exact hx
        rw [if_pos rfl, if_pos rfl, e1]
        simp
      · rw [if_neg hc, if_neg hc]
        have e2 : (x == g) = false := by
          rw [beq_eq_false_iff_ne]
          exact hx
        by_cases hh : c = h
        · subst hh
          rw [if_pos rfl, if_pos rfl, List.count_cons, List.count_cons, e2]
          simp
          omega
        · rw [if_neg hh, if_neg hh, List.count_cons]
theorem cnt_merge {g h : Int} (hne : g ≠ h) (c : Int) (p : Pic) : cnt (merge g h p) c = if c = g then 0 else if c = h then cnt p h + cnt p g else cnt p c := by
  unfold cnt
  rw [merge_flat]
  exact count_merge hne c _
/-- the cell that goes: the least used, of several the greatest -/
def IsGone (p : Pic) (g : Int) : Prop := g ∈ used p ∧ ∀ c ∈ used p, cnt p g < cnt p c ∨ (cnt p g = cnt p c ∧ c ≤ g)
theorem isGone_one {p : Pic} {g g' : Int} (h : IsGone p g) (h' : IsGone p g') : g = g' := by
  have a := h.2 g' h'.1
  have b := h'.2 g h.1
  omega
/-- its heir among us: the least apart, of several the least -/
def IsHeir (ap : Int → Int) (us : List Int) (g h : Int) : Prop := (h ∈ us ∧ h ≠ g) ∧ ∀ o ∈ us, o ≠ g → ap h < ap o ∨ (ap h = ap o ∧ h ≤ o)
theorem isHeir_one {ap : Int → Int} {us : List Int} {g h h' : Int} (k : IsHeir ap us g h) (k' : IsHeir ap us g h') : h = h' := by
  have a := k.2 h' k'.1.1 k'.1.2
  have b := k'.2 h k.1.1 k.1.2
  omega
/-- the least by a key: the first of the least -/
def leastBy (f : Int → Int → Bool) : Int → List Int → Int
  | b, [] => b
  | b, x :: l => leastBy f (if f x b then x else b) l
theorem leastBy_mem (f : Int → Int → Bool) : ∀ (l : List Int) (b : Int), leastBy f b l ∈ b :: l
  | [], b => List.mem_cons_self
  | x :: l, b => by
    have := leastBy_mem f l (if f x b then x else b)
    unfold leastBy
    rcases List.mem_cons.mp this with e | e
    · rw [e]
      split
      · exact List.mem_cons_of_mem _ List.mem_cons_self
      · exact List.mem_cons_self
    · exact List.mem_cons_of_mem _ (List.mem_cons_of_mem _ e)
def goneF (p : Pic) : Int := match used p with
  | [] => 0
  | u :: us => leastBy (fun x b => decide (cnt p x ≤ cnt p b)) u (u :: us)
theorem gone_fold (f : Int → Nat) : ∀ (l : List Int) (b : Int), (∀ c ∈ l, b ≤ c) → l.Pairwise (· ≤ ·) → (leastBy (fun x b => decide (f x ≤ f b)) b l ∈ b :: l) ∧ ∀ c ∈ b :: l, f (leastBy (fun x b => decide (f x ≤ f b)) b l) < f c ∨ (f (leastBy (fun x b => decide (f x ≤ f b)) b l) = f c ∧ c ≤ leastBy (fun x b => decide (f x ≤ f b)) b l)
  | [], b, _, _ => ⟨List.mem_cons_self, fun c hc => by
    have e : c = b := by simpa using hc
    rw [e]
    exact .inr ⟨rfl, Int.le_refl _⟩⟩
  | x :: l, b, hb, hl => by
    obtain ⟨hx, hl⟩ := List.pairwise_cons.mp hl
    have hbx := hb x List.mem_cons_self
    unfold leastBy
    by_cases q : f x ≤ f b
    · rw [if_pos (decide_eq_true q)]
      obtain ⟨h1, h2⟩ := gone_fold f l x hx hl
      refine ⟨List.mem_cons_of_mem _ h1, fun c hc => ?_⟩
      rcases List.mem_cons.mp hc with e | hc
      · subst e
        have h3 := h2 x List.mem_cons_self
        omega
      · exact h2 c hc
    · rw [if_neg (by rw [decide_eq_false q]; decide)]
      obtain ⟨h1, h2⟩ := gone_fold f l b (fun c hc => hb c (List.mem_cons_of_mem _ hc)) hl
      refine ⟨?_, fun c hc => ?_⟩
      · rcases List.mem_cons.mp h1 with e | e
        · rw [e]
          exact List.mem_cons_self
        · exact List.mem_cons_of_mem _ (List.mem_cons_of_mem _ e)
      · rcases List.mem_cons.mp hc with e | hc
        · exact h2 c (e ▸ List.mem_cons_self)
        · rcases List.mem_cons.mp hc with e | hc
          · have h3 := h2 b List.mem_cons_self
            rw [e]
            omega
          · exact h2 c (List.mem_cons_of_mem _ hc)
theorem goneF_is {p : Pic} (h : used p ≠ []) : IsGone p (goneF p) := by
  unfold goneF
  have hp := used_lt p
  unfold IsGone
  cases e : used p with
  | nil => exact absurd e h
  | cons u us =>
    rw [e] at hp
    obtain ⟨h1, h2⟩ := List.pairwise_cons.mp hp
    obtain ⟨h3, h4⟩ := gone_fold (cnt p) (u :: us) u (fun c hc => by
      rcases List.mem_cons.mp hc with e | hc
      · omega
      · have := h1 c hc
        omega) (hp.imp fun h => by omega)
    refine ⟨?_, fun c hc => h4 c (List.mem_cons_of_mem _ hc)⟩
    rcases List.mem_cons.mp h3 with e2 | e2
    · show leastBy _ u (u :: us) ∈ u :: us
      rw [e2]
      exact List.mem_cons_self
    · exact e2
def heirF (ap : Int → Int) (us : List Int) (g : Int) : Int := match us.filter fun o => decide (o ≠ g) with
  | [] => 0
  | u :: r => leastBy (fun x b => decide (ap x < ap b)) u r
theorem heir_fold (f : Int → Int) : ∀ (l : List Int) (b : Int), (∀ c ∈ l, b < c) → l.Pairwise (· < ·) → ∀ c ∈ b :: l, f (leastBy (fun x b => decide (f x < f b)) b l) < f c ∨ (f (leastBy (fun x b => decide (f x < f b)) b l) = f c ∧ leastBy (fun x b => decide (f x < f b)) b l ≤ c)
  | [], b, _, _, c, hc => by
    have e : c = b := by simpa using hc
    rw [e]
    exact .inr ⟨rfl, Int.le_refl _⟩
  | x :: l, b, hb, hl, c, hc => by
    obtain ⟨hx, hl⟩ := List.pairwise_cons.mp hl
    have hbx := hb x List.mem_cons_self
    unfold leastBy
    by_cases q : f x < f b
    · rw [if_pos (decide_eq_true q)]
      have h2 := heir_fold f l x hx hl
      have h3 := h2 x List.mem_cons_self
      rcases List.mem_cons.mp hc with e | hc
      · subst e
        omega
      · exact h2 c hc
    · rw [if_neg (by rw [decide_eq_false q]; decide)]
      have h2 := heir_fold f l b (fun c hc => hb c (List.mem_cons_of_mem _ hc)) hl
      have h3 := h2 b List.mem_cons_self
      rcases List.mem_cons.mp hc with e | hc
      · exact h2 c (e ▸ List.mem_cons_self)
      · rcases List.mem_cons.mp hc with e | hc
        · have hm := leastBy_mem (fun x b => decide (f x < f b)) l b
          rw [e]
          rcases List.mem_cons.mp hm with e2 | e2
          · rw [e2]
            omega
          · omega
        · exact h2 c (List.mem_cons_of_mem _ hc)
theorem heirF_is {ap : Int → Int} {us : List Int} {g : Int} (hs : us.Pairwise (· < ·)) (h : ∃ o ∈ us, o ≠ g) : IsHeir ap us g (heirF ap us g) := by
  have hp : (us.filter fun o => decide (o ≠ g)).Pairwise (· < ·) := hs.filter _
  have hm : ∀ o, o ∈ us.filter (fun o => decide (o ≠ g)) ↔ o ∈ us ∧ o ≠ g := fun o => by
    rw [List.mem_filter, decide_eq_true_eq]
  unfold heirF
  cases e : us.filter fun o => decide (o ≠ g) with
  | nil =>
    obtain ⟨o, h1, h2⟩ := h
    have := (hm o).mpr ⟨h1, h2⟩
    rw [e] at this
    cases this
  | cons u r =>
    rw [e] at hp hm
    obtain ⟨h1, h2⟩ := List.pairwise_cons.mp hp
    refine ⟨(hm _).mp (leastBy_mem _ r u), fun o ho hg => ?_⟩
    exact heir_fold ap r u h1 h2 o ((hm o).mpr ⟨ho, hg⟩)
end C19
set_option Elab.async false
set_option linter.all false
set_option maxHeartbeats 4000000
/-! the mathematics, second part: one less, many less, order, ranks -/
namespace C19
theorem Good.mem_used {p : Pic} (h : Good p) {c : Int} : c ∈ used p ↔ c ∈ p.flatten := by
  rw [C19.mem_used, cnt_pos]
  exact ⟨fun k => k.2, fun k => ⟨h.flat k, k⟩⟩
theorem Good.used_ne {p : Pic} (h : Good p) : used p ≠ [] := fun e => by
  obtain ⟨h1, _⟩ := h.high
  cases p with
  | nil => simp at h1
  | cons r t =>
    have hr := h.row (r := r) List.mem_cons_self
    cases r with
    | nil => simp at hr
    | cons c r =>
      have hm : c ∈ used ((c :: r) :: t) := h.mem_used.mpr (by simp)
      rw [e] at hm
      cases hm
theorem merge_length (g h : Int) (p : Pic) : (merge g h p).length = p.length := List.length_map _
theorem Good.merge {p : Pic} (k : Good p) {g h : Int} (hh : 0 ≤ h ∧ h ≤ 15) : Good (merge g h p) := by
  refine ⟨by rw [merge_length]; exact k.high, ?_, ?_⟩
  · obtain ⟨w, h1, h2, h3⟩ := k.wide
    refine ⟨w, h1, h2, fun r hr => ?_⟩
    obtain ⟨r0, hr0, rfl⟩ := List.mem_map.mp hr
    rw [List.length_map]
    exact h3 r0 hr0
  · intro r hr c hc
    obtain ⟨r0, hr0, rfl⟩ := List.mem_map.mp hr
    obtain ⟨c0, hc0, rfl⟩ := List.mem_map.mp hc
    split
    · exact hh
    · exact k.cell r0 hr0 c0 hc0
def dist (a b : Col) : Int := (a.1 - b.1) * (a.1 - b.1) + (a.2.1 - b.2.1) * (a.2.1 - b.2.1) + (a.2.2 - b.2.2) * (a.2.2 - b.2.2)
def colAt (cols : List Col) (c : Int) : Col := cols.getD c.toNat (0, 0, 0)
def apF (cols : List Col) (g o : Int) : Int := dist (colAt cols o) (colAt cols g)
def heirOf (cols : List Col) (p : Pic) : Int := heirF (apF cols (goneF p)) (used p) (goneF p)
def oneLess (cols : List Col) (p : Pic) : Pic := merge (goneF p) (heirOf cols p) p
theorem heirOf_is {cols : List Col} {p : Pic} (h : 2 ≤ (used p).length) : IsHeir (apF cols (goneF p)) (used p) (goneF p) (heirOf cols p) := by
  refine heirF_is (used_lt p) ?_
  have nd := used_nodup p
  match hu : used p, h with
  | x :: y :: l, _ =>
    rw [hu] at nd
    by_cases e : x = goneF p
    · refine ⟨y, by simp, fun e2 => ?_⟩
      have := (List.nodup_cons.mp nd).1
      exact this (by rw [e, ← e2]; simp)
    · exact ⟨x, by simp, e⟩
theorem used_oneLess {cols : List Col} {p : Pic} (h : 2 ≤ (used p).length) : used (oneLess cols p) = (used p).erase (goneF p) := by
  have hg := goneF_is (p := p) (fun e => by rw [e] at h; simp at h)
  have hh := heirOf_is (cols := cols) h
  have nd := used_nodup p
  refine rise_ext (used_lt _) ((used_lt p).sublist List.erase_sublist) fun c => ?_
  rw [nd.mem_erase_iff, mem_used]
  unfold oneLess
  rw [cnt_merge (Ne.symm hh.1.2)]
  have h1 := (mem_used.mp hh.1.1)
  by_cases e : c = goneF p
  · rw [if_pos e]
    exact ⟨fun k => absurd k.2 (by omega), fun k => absurd e k.1⟩
  · rw [if_neg e]
    by_cases e2 : c = heirOf cols p
    · rw [if_pos e2]
      subst e2
      exact ⟨fun _ => ⟨e, hh.1.1⟩, fun _ => ⟨h1.1, by omega⟩⟩
    · rw [if_neg e2, ← mem_used]
      exact ⟨fun k => ⟨e, k⟩, fun k => k.2⟩
theorem oneLess_len {cols : List Col} {p : Pic} (h : 2 ≤ (used p).length) : (used (oneLess cols p)).length = (used p).length - 1 := by
  rw [used_oneLess h, List.length_erase_of_mem]
  exact (goneF_is (p := p) (fun e => by rw [e] at h; simp at h)).1
theorem Good.oneLess {cols : List Col} {p : Pic} (k : Good p) (h : 2 ≤ (used p).length) : Good (oneLess cols p) := by
  have hh := heirOf_is (cols := cols) h
  exact k.merge (C19.mem_used.mp hh.1.1).1
/-- k times one less -/
def iter (cols : List Col) : Nat → Pic → Pic
  | 0, p => p
  | k + 1, p => oneLess cols (iter cols k p)
theorem iter_good {cols : List Col} {p : Pic} (g : Good p) : ∀ {k : Nat}, k < (used p).length → Good (iter cols k p) ∧ (used (iter cols k p)).length = (used p).length - k ∧ ∀ c ∈ used (iter cols k p), c ∈ used p
  | 0, _ => ⟨g, rfl, fun _ h => h⟩
  | k + 1, hk => by
    obtain ⟨h1, h2, h3⟩ := iter_good (cols := cols) g (k := k) (by omega)
    have h4 : 2 ≤ (used (iter cols k p)).length := by omega
    refine ⟨h1.oneLess h4, ?_, fun c hc => h3 c ?_⟩
    · show (used (oneLess cols (iter cols k p))).length = _
      rw [oneLess_len h4, h2]
      omega
    · have hc : c ∈ used (oneLess cols (iter cols k p)) := hc
      rw [used_oneLess h4] at hc
      exact List.mem_of_mem_erase hc
/-- at most m cells -/
def fewM (cols : List Col) (m : Nat) (p : Pic) : Pic := iter cols ((used p).length - m) p
theorem fewM_good {cols : List Col} {p : Pic} (g : Good p) {m : Nat} (hm : 1 ≤ m) : Good (fewM cols m p) ∧ (used (fewM cols m p)).length = min m (used p).length ∧ ∀ c ∈ used (fewM cols m p), c ∈ used p := by
  have h0 : 0 < (used p).length := List.length_pos_iff.mpr g.used_ne
  obtain ⟨h1, h2, h3⟩ := iter_good (cols := cols) g (k := (used p).length - m) (by omega)
  refine ⟨h1, ?_, h3⟩
  show (used (iter cols ((used p).length - m) p)).length = _
  omega
theorem fewM_step {cols : List Col} {p : Pic} (g : Good p) {m : Nat} (hm : 1 ≤ m) : fewM cols m p = if m < (used (fewM cols (m + 1) p)).length then oneLess cols (fewM cols (m + 1) p) else fewM cols (m + 1) p := by
  have h0 : 0 < (used p).length := List.length_pos_iff.mpr g.used_ne
  rw [(fewM_good (cols := cols) g (m := m + 1) (by omega)).2.1]
  by_cases c : m < (used p).length
  · rw [if_pos (by omega)]
    show iter cols ((used p).length - m) p = oneLess cols (iter cols ((used p).length - (m + 1)) p)
    rw [show (used p).length - m = ((used p).length - (m + 1)) + 1 by omega]
    rfl
  · rw [if_neg (by omega)]
    show iter cols ((used p).length - m) p = iter cols ((used p).length - (m + 1)) p
    rw [show (used p).length - m = (used p).length - (m + 1) by omega]
theorem fewM_ahead {cols : List Col} {p : Pic} (g : Good p) {m : Nat} (hm : 1 ≤ m) : fewM cols m (fewM cols (m + 1) p) = fewM cols m p := by
  have h0 : 0 < (used p).length := List.length_pos_iff.mpr g.used_ne
  have h1 := (fewM_good (cols := cols) g (m := m + 1) (by omega)).2.1
  rw [fewM_step g hm]
  show iter cols ((used (fewM cols (m + 1) p)).length - m) (fewM cols (m + 1) p) = _
  by_cases c : m < (used (fewM cols (m + 1) p)).length
  · rw [if_pos c, show (used (fewM cols (m + 1) p)).length - m = 0 + 1 by omega]
    rfl
  · rw [if_neg c, show (used (fewM cols (m + 1) p)).length - m = 0 by omega]
    rfl
theorem fewM_all {cols : List Col} {p : Pic} {m : Nat} (hm : 16 ≤ m) : fewM cols m p = p := by
  have := used_len p
  show iter cols ((used p).length - m) p = p
  rw [show (used p).length - m = 0 by omega]
  rfl
/-! ### a picture by numbers -/
def app (ns : List Int) (p : Pic) : Pic := p.map fun r => r.map fun c => ns.getD c.toNat 0
theorem map_good {p : Pic} (g : Good p) {f h : Int → Int} (e : ∀ c ∈ p.flatten, f c = h c) : (p.map fun r => r.map f) = p.map fun r => r.map h :=
  List.map_congr_left fun r hr => List.map_congr_left fun c hc => e c (List.mem_flatten.mpr ⟨r, hr, hc⟩)
theorem map_self {p : Pic} {f : Int → Int} (e : ∀ c ∈ p.flatten, f c = c) : (p.map fun r => r.map f) = p := by
  have h1 : ∀ r ∈ p, r.map f = r := fun r hr => by
    have : r.map f = r.map id := List.map_congr_left fun c hc => e c (List.mem_flatten.mpr ⟨r, hr, hc⟩)
    rw [this, List.map_id]
  have : (p.map fun r => r.map f) = p.map id := List.map_congr_left h1
  rw [this, List.map_id]
def ns0 : List Int := (List.range 16).map fun i => ((i : Nat) : Int)
theorem ns_at (f : Nat → Int) {c : Int} (h : 0 ≤ c ∧ c ≤ 15) : ((List.range 16).map f).getD c.toNat 0 = f c.toNat := by
  rw [List.getD_eq_getElem?_getD, List.getElem?_map, List.getElem?_range (by omega)]
  rfl
theorem app_ns0 {p : Pic} (g : Good p) : app ns0 p = p := map_self fun c hc => by
  have := g.flat hc
  rw [ns0, ns_at _ this]
  omega
theorem app_merge {p : Pic} (g : Good p) {ns : List Int} (hl : ns.length = 16) (x h : Int) : app (ns.map fun c => if c = x then h else c) p = merge x h (app ns p) := by
  unfold app merge
  rw [List.map_map]
  refine List.map_congr_left fun r hr => ?_
  show _ = (r.map _).map _
  rw [List.map_map]
  refine List.map_congr_left fun c hc => ?_
  have hc := g.cell r hr c hc
  have hlt : c.toNat < ns.length := by omega
  show _ = if ns.getD c.toNat 0 = x then h else ns.getD c.toNat 0
  rw [List.getD_eq_getElem?_getD, List.getD_eq_getElem?_getD, List.getElem?_map, List.getElem?_eq_getElem hlt]
  rfl
theorem Good.app {p : Pic} (k : Good p) {ns : List Int} (hn : ns.length = 16) (hh : ∀ x ∈ ns, 0 ≤ x ∧ x ≤ 15) : Good (app ns p) := by
  refine ⟨by rw [C19.app, List.length_map]; exact k.high, ?_, ?_⟩
  · obtain ⟨w, h1, h2, h3⟩ := k.wide
    refine ⟨w, h1, h2, fun r hr => ?_⟩
    obtain ⟨r0, hr0, rfl⟩ := List.mem_map.mp hr
    rw [List.length_map]
    exact h3 r0 hr0
  · intro r hr c hc
    obtain ⟨r0, hr0, rfl⟩ := List.mem_map.mp hr
    obtain ⟨c0, hc0, rfl⟩ := List.mem_map.mp hc
    have hc0 := k.cell r0 hr0 c0 hc0
    have hlt : c0.toNat < ns.length := by omega
    rw [List.getD_eq_getElem?_getD, List.getElem?_eq_getElem hlt]
    exact hh _ (List.getElem_mem hlt)
/-! ### the least of pairs -/
theorem minOf_is (x : Int × Int) : ∀ (l : List (Int × Int)), PySem.W.minOf x l ∈ x :: l ∧ ∀ y ∈ x :: l, (PySem.W.minOf x l).1 < y.1 ∨ ((PySem.W.minOf x l).1 = y.1 ∧ (PySem.W.minOf x l).2 ≤ y.2) := by
  have key : ∀ (l : List (Int × Int)) (b : Int × Int), l.foldl (fun a y => if PySem.W.DatumOrd.lt y a = true then y else a) b ∈ b :: l ∧ ∀ y ∈ b :: l, (l.foldl (fun a y => if PySem.W.DatumOrd.lt y a = true then y else a) b).1 < y.1 ∨ ((l.foldl (fun a y => if PySem.W.DatumOrd.lt y a = true then y else a) b).1 = y.1 ∧ (l.foldl (fun a y => if PySem.W.DatumOrd.lt y a = true then y else a) b).2 ≤ y.2) := by
    intro l
    induction l with
    | nil =>
      intro b
      refine ⟨List.mem_cons_self, fun y hy => ?_⟩
      have e : y = b := by simpa using hy
      rw [e]
      exact .inr ⟨rfl, Int.le_refl _⟩
    | cons z l ih =>
      intro b
      rw [List.foldl_cons]
      have hlt : PySem.W.DatumOrd.lt z b = true ↔ (z.1 < b.1 ∨ (z.1 = b.1 ∧ z.2 < b.2)) := by
        show (if z.1 = b.1 then decide (z.2 < b.2) else decide (z.1 < b.1)) = true ↔ _
        split
        · rename_i e
          rw [decide_eq_true_eq]
          omega
        · rename_i e
          rw [decide_eq_true_eq]
          omega
      by_cases c : PySem.W.DatumOrd.lt z b = true
      · rw [if_pos c]
        obtain ⟨h1, h2⟩ := ih z
        refine ⟨List.mem_cons_of_mem _ h1, fun y hy => ?_⟩
        rcases List.mem_cons.mp hy with e | hy
        · have h3 := h2 z List.mem_cons_self
          have h4 := hlt.mp c
          rw [e]
          omega
        · exact h2 y hy
      · rw [if_neg c]
        obtain ⟨h1, h2⟩ := ih b
        refine ⟨?_, fun y hy => ?_⟩
        · rcases List.mem_cons.mp h1 with e | e
          · rw [e]
            exact List.mem_cons_self
          · exact List.mem_cons_of_mem _ (List.mem_cons_of_mem _ e)
        · rcases List.mem_cons.mp hy with e | hy
          · exact h2 y (e ▸ List.mem_cons_self)
          · rcases List.mem_cons.mp hy with e | hy
            · have h3 := h2 b List.mem_cons_self
              have h4 : ¬ (z.1 < b.1 ∨ (z.1 = b.1 ∧ z.2 < b.2)) := fun q => c (hlt.mpr q)
              rw [e]
              omega
            · exact h2 y (List.mem_cons_of_mem _ hy)
  exact fun l => key l x
theorem min_gone {p : Pic} {x : Int × Int} {l : List (Int × Int)} (h : (x :: l) = (used p).map fun c => (((cnt p c : Nat) : Int), 0 - c)) : 0 - (PySem.W.minOf x l).2 = goneF p := by
  obtain ⟨h1, h2⟩ := minOf_is x l
  have hne : used p ≠ [] := fun e => by rw [e] at h; cases h
  generalize PySem.W.minOf x l = m at h1 h2
  rw [h] at h1 h2
  obtain ⟨g, hg, rfl⟩ := List.mem_map.mp h1
  have k : IsGone p g := ⟨hg, fun c hc => by
    have := h2 _ (List.mem_map_of_mem hc)
    simp only at this
    omega⟩
  have := isGone_one k (goneF_is hne)
  show 0 - (0 - g) = _
  omega
theorem min_heir {ap : Int → Int} {us : List Int} {g h : Int} (hh : IsHeir ap us g h) {x : Int × Int} {l : List (Int × Int)} (e : (x :: l) = (us.filter fun o => decide (o ≠ g)).map fun o => (ap o, o)) : (PySem.W.minOf x l).2 = h := by
  obtain ⟨h1, h2⟩ := minOf_is x l
  generalize PySem.W.minOf x l = m at h1 h2
  rw [e] at h1 h2
  obtain ⟨o, ho, rfl⟩ := List.mem_map.mp h1
  obtain ⟨ho1, ho2⟩ := List.mem_filter.mp ho
  refine isHeir_one (ap := ap) (us := us) (g := g) ⟨⟨ho1, of_decide_eq_true ho2⟩, fun c hc hcg => ?_⟩ hh
  have := h2 _ (List.mem_map_of_mem (List.mem_filter.mpr ⟨hc, decide_eq_true hcg⟩))
  simp only at this
  omega
/-! ### the order -/
def before (p : Pic) (a b : Int) : Prop := cnt p b < cnt p a ∨ (cnt p a = cnt p b ∧ a < b)
structure IsOrder (p : Pic) (l : List Int) : Prop where
  srt : l.Pairwise (before p)
  mem : ∀ c, c ∈ l ↔ c ∈ used p
theorem srt_ext {r : Int → Int → Prop} (as : ∀ x y, r x y → ¬ r y x) : ∀ {l m : List Int}, l.Pairwise r → m.Pairwise r → (∀ c, c ∈ l ↔ c ∈ m) → l = m
  | [], [], _, _, _ => rfl
  | [], y :: m, _, _, h => absurd ((h y).mpr List.mem_cons_self) (by simp)
  | x :: l, [], _, _, h => absurd ((h x).mp List.mem_cons_self) (by simp)
  | x :: l, y :: m, hl0, hm0, h => by
    have hx := (List.pairwise_cons.mp hl0).1
    have hy := (List.pairwise_cons.mp hm0).1
    have e : x = y := by
      rcases List.mem_cons.mp ((h x).mp List.mem_cons_self) with e | e
      · exact e
      · rcases List.mem_cons.mp ((h y).mpr List.mem_cons_self) with e2 | e2
        · exact e2.symm
        · exact absurd (hy x e) (as _ _ (hx y e2))
    have hlm : ∀ c, c ∈ l ↔ c ∈ m := fun c => ⟨fun hc => by
      rcases List.mem_cons.mp ((h c).mp (List.mem_cons_of_mem _ hc)) with e3 | e3
      · have h1 := hx c hc
        rw [e3, ← e] at h1
        exact absurd h1 (as _ _ h1)
      · exact e3, fun hc => by
      rcases List.mem_cons.mp ((h c).mpr (List.mem_cons_of_mem _ hc)) with e3 | e3
      · have h1 := hy c hc
        rw [e3, e] at h1
        exact absurd h1 (as _ _ h1)
      · exact e3⟩
    rw [e, srt_ext as (List.pairwise_cons.mp hl0).2 (List.pairwise_cons.mp hm0).2 hlm]
theorem before_as {p : Pic} (x y : Int) (h : before p x y) : ¬ before p y x := fun k => by
  unfold before at h k
  omega
theorem isOrder_one {p : Pic} {l m : List Int} (h : IsOrder p l) (k : IsOrder p m) : l = m := srt_ext before_as h.srt k.srt fun c => (h.mem c).trans (k.mem c).symm
theorem IsOrder.nodup {p : Pic} {l : List Int} (h : IsOrder p l) : l.Nodup := h.srt.imp fun {a b} k e => by
  subst e
  exact before_as _ _ k k
theorem IsOrder.len {p : Pic} {l : List Int} (h : IsOrder p l) : l.length = (used p).length := by
  have : l.Perm (used p) := (List.perm_ext_iff_of_nodup h.nodup (used_nodup p)).mpr h.mem
  exact this.length_eq
theorem order_of_sorted {p : Pic} {zs : List (Int × Int)} (hp : zs.Perm ((used p).map fun c => (0 - ((cnt p c : Nat) : Int), c))) (hs : zs.Pairwise fun x y => SrtO.lexB y x = false) : IsOrder p (zs.map Prod.snd) := by
  have nd : zs.Nodup := hp.symm.nodup (List.Pairwise.map _ (fun a b (h : a ≠ b) e => h (congrArg Prod.snd e)) (used_nodup p))
  refine ⟨List.pairwise_map.mpr ?_, fun c => ?_⟩
  · refine (hs.and nd).imp_of_mem fun {x y} hx hy h => ?_
    obtain ⟨a, ha, rfl⟩ := List.mem_map.mp (hp.mem_iff.mp hx)
    obtain ⟨b, hb, rfl⟩ := List.mem_map.mp (hp.mem_iff.mp hy)
    have h1 := SrtO.lexB_no.mp h.1
    have h2 : a ≠ b := fun e => h.2 (by rw [e])
    unfold before
    simp only at h1 ⊢
    omega
  · rw [(hp.map Prod.snd).mem_iff, List.map_map]
    show c ∈ (used p).map (fun c => c) ↔ _
    simp
/-- the first of the most used -/
def bestF (p : Pic) (u : Int) (l : List Int) : Int := leastBy (fun x b => decide (cnt p x > cnt p b)) u l
theorem bestF_is {p : Pic} {u : Int} {l : List Int} (h : (u :: l).Pairwise (· < ·)) : bestF p u (u :: l) ∈ u :: l ∧ ∀ c ∈ u :: l, c ≠ bestF p u (u :: l) → before p (bestF p u (u :: l)) c := by
  have e : (fun x b => decide (cnt p x > cnt p b)) = fun x b => decide ((fun c => -((cnt p c : Nat) : Int)) x < (fun c => -((cnt p c : Nat) : Int)) b) := by
    funext x b
    exact decide_eq_decide.mpr (by simp only; omega)
  obtain ⟨h1, h2⟩ := List.pairwise_cons.mp h
  have e2 : bestF p u (u :: l) = bestF p u l := by
    unfold bestF
    rw [leastBy]
    rw [if_neg (by simp)]
  rw [e2]
  refine ⟨leastBy_mem _ l u, fun c hc hne => ?_⟩
  have k := heir_fold (fun c => -((cnt p c : Nat) : Int)) l u h1 h2 c hc
  unfold bestF at hne ⊢
  rw [e] at hne ⊢
  unfold before
  skip
  generalize hq : leastBy (fun x b => decide ((fun c => -((cnt p c : Nat) : Int)) x < (fun c => -((cnt p c : Nat) : Int)) b)) u l = q at *
  omega
/-- what is found and what is left -/
structure Part (p : Pic) (found left : List Int) : Prop where
  srt : found.Pairwise (before p)
  bef : ∀ a ∈ found, ∀ b ∈ left, before p a b
  lt : left.Pairwise (· < ·)
  mem : ∀ c, c ∈ used p ↔ c ∈ found ∨ c ∈ left
theorem Part.start (p : Pic) : Part p [] (used p) := ⟨.nil, (fun _ h => nomatch h), used_lt p, fun c => by simp⟩
theorem Part.step {p : Pic} {found : List Int} {u : Int} {l : List Int} (k : Part p found (u :: l)) : Part p (found ++ [bestF p u (u :: l)]) ((u :: l).erase (bestF p u (u :: l))) := by
  obtain ⟨h1, h2⟩ := bestF_is (p := p) k.lt
  have nd : (u :: l).Nodup := k.lt.imp fun h => by omega
  refine ⟨List.pairwise_append.mpr ⟨k.srt, List.pairwise_singleton _ _, fun a ha b hb => ?_⟩, fun a ha b hb => ?_, k.lt.sublist List.erase_sublist, fun c => ?_⟩
  · rw [List.mem_singleton.mp hb]
    exact k.bef a ha _ h1
  · obtain ⟨hb1, hb2⟩ := nd.mem_erase_iff.mp hb
    rcases List.mem_append.mp ha with ha | ha
    · exact k.bef a ha b hb2
    · rw [List.mem_singleton.mp ha]
      exact h2 b hb2 hb1
  · rw [k.mem c, List.mem_append, nd.mem_erase_iff, List.mem_singleton]
    by_cases e : c = bestF p u (u :: l)
    · exact ⟨fun _ => .inl (.inr e), fun _ => .inr (e ▸ h1)⟩
    · constructor
      · rintro (h | h)
        · exact .inl (.inl h)
        · exact .inr ⟨e, h⟩
      · rintro ((h | h) | h)
        · exact .inl h
        · exact absurd h e
        · exact .inr h.2
theorem Part.done {p : Pic} {found : List Int} (k : Part p found []) : IsOrder p found := ⟨k.srt, fun c => by rw [k.mem c]; simp⟩
/-! ### ranks -/
def rankN (l : List Int) (i : Nat) : List Int := (List.range 16).map fun c => if ((c : Nat) : Int) ∈ l.take i then ((l.idxOf ((c : Nat) : Int) : Nat) : Int) else 0
theorem rankN_zero (l : List Int) : rankN l 0 = List.replicate 16 0 := by
  unfold rankN
  rw [List.take_zero]
  rfl
theorem rankN_len (l : List Int) (i : Nat) : (rankN l i).length = 16 := by simp [rankN]
theorem rankN_step {l : List Int} (nd : l.Nodup) {i : Nat} {c : Int} (hc : l[i]? = some c) (h : 0 ≤ c ∧ c ≤ 15) : (rankN l i).set c.toNat ((i : Nat) : Int) = rankN l (i + 1) := by
  obtain ⟨hil, hci⟩ := List.getElem?_eq_some_iff.mp hc
  have hidx : l.idxOf c = i := by
    rw [← hci]
    exact nd.idxOf_getElem i hil
  refine List.ext_getElem? fun j => ?_
  by_cases hj : j < 16
  · rw [List.getElem?_set]
    unfold rankN
    rw [List.getElem?_map, List.getElem?_map, List.getElem?_range hj, List.length_map, List.length_range, List.take_add_one, hc]
    by_cases e : c.toNat = j
    · have e2 : ((j : Nat) : Int) = c := by omega
      rw [if_pos e, if_pos (by omega)]
      simp only [Option.map_some, e2, Option.toList_some]
      rw [if_pos (by simp), hidx]
    · rw [if_neg e]
      have e2 : ((j : Nat) : Int) ≠ c := by omega
      simp only [Option.map_some, Option.toList_some, List.mem_append, List.mem_singleton, e2, or_false]
  · rw [List.getElem?_eq_none (by rw [List.length_set, rankN_len]; omega), List.getElem?_eq_none (by rw [rankN_len]; omega)]
theorem rankN_all {l : List Int} {c : Int} (hc : c ∈ l) (h : 0 ≤ c ∧ c ≤ 15) : (rankN l l.length).getD c.toNat 0 = ((l.idxOf c : Nat) : Int) := by
  unfold rankN
  rw [ns_at _ h, List.take_length]
  have e : ((c.toNat : Nat) : Int) = c := by omega
  rw [e, if_pos hc]
theorem rankN_range {l : List Int} (hl : l.length ≤ 16) : ∀ x ∈ rankN l l.length, 0 ≤ x ∧ x ≤ 15 := by
  intro x hx
  obtain ⟨c, _, rfl⟩ := List.mem_map.mp hx
  simp only [List.take_length]
  split
  · rename_i h
    have := List.idxOf_lt_length_iff.mpr h
    omega
  · omega
/-- the picture in its order -/
def ranked (l : List Int) (p : Pic) : Pic := p.map fun r => r.map fun c => ((l.idxOf c : Nat) : Int)
theorem app_rank {p : Pic} (g : Good p) {l : List Int} (h : IsOrder p l) : app (rankN l l.length) p = ranked l p := map_good g fun c hc =>
  rankN_all ((h.mem c).mpr (g.mem_used.mpr hc)) (g.flat hc)
theorem ranked_good {p : Pic} (g : Good p) {l : List Int} (h : IsOrder p l) : Good (ranked l p) := by
  rw [← app_rank g h]
  exact g.app (rankN_len _ _) (rankN_range (by rw [h.len]; exact used_len p))
theorem ranked_lt {p : Pic} (g : Good p) {l : List Int} (h : IsOrder p l) : ∀ c ∈ (ranked l p).flatten, c < l.length := fun c hc => by
  obtain ⟨r, hr, hcr⟩ := List.mem_flatten.mp hc
  obtain ⟨r0, hr0, rfl⟩ := List.mem_map.mp hr
  obtain ⟨c0, hc0, rfl⟩ := List.mem_map.mp hcr
  have := List.idxOf_lt_length_iff.mpr ((h.mem c0).mpr (g.mem_used.mpr (List.mem_flatten.mpr ⟨r0, hr0, hc0⟩)))
  omega
end C19
set_option Elab.async false
set_option linter.all false
set_option maxRecDepth 100000
set_option maxHeartbeats 4000000
/-! own words over the layer: calls by a bundle, what evaluates to what, data, item += of a list, min of pairs -/
namespace C19
open PySem PySem.Spec PyProof.Rows L2 Evl

/-! ### facts of the text -/
structure XF (K : PySem.W.Frag) (C : Addr) : Prop where
  x : PySem.W.excIn K C [.type "ValueError", .type "Exception", .type "BaseException", .type "object"] "ValueError.__new__" = true
  k : PySem.W.keepIn K (.ref C) = true
  b : PySem.W.subIn K (.ref C) (.type "BaseException") = some true
  t : PySem.W.typeIn K (.ref C) = some (.type "type")

/-! ### a def of the text, called -/
section
variable (P : Program) (w : World) (K : PySem.W.Frag) (mg : Str → Option Value) (base : Heap)
/-- the def that the module's name x stands for keeps the promise sp -/
def Cal (CX : CXT) (k : Nat) (x : Str) (ps : List Str) (sp : Sp) : Prop :=
  ∃ (f : Addr) (fd : FuncData), FnOk P w K mg base CX k f fd ps sp ∧ mg x = some (.ref f) ∧ PySem.W.keepIn K (.ref f) = true ∧ Binds K fd ps []
/-- the method m of the class at C -/
def Mth (C : Addr) (k : Nat) (m : Str) (ps : List Str) (sp : Sp) : Prop :=
  Cls K C ∧ ∃ (f : Addr) (fd : FuncData), FnOk P w K mg base CX0 k f fd ps sp ∧ Meth K C m f ∧ Binds K fd ps []
/-- the class that x stands for, made by its __init__ -/
def Mkr (C : Addr) (k : Nat) (x : Str) (ps : List Str) (sp : Sp) : Prop :=
  ∃ (f : Addr) (fd : FuncData), Mk K C f ∧ FnOk P w K mg base CX0 k f fd ps sp ∧ mg x = some (.ref C) ∧ Binds K fd ps []
end
section
variable {X : Cx} {CX : CXT} {k j : Nat} {C : Addr} {ps : List Str} {sp : Sp} {E : XK} {x m : Str} {p pos apos : Pos} {e o : Expr} {es : List Expr} {ta : TE} {t : TA}
theorem pf_c (F : Cal X.prog X.w X.K X.mg X.base CX k x ps sp) (hr : Room j X.A) (hg : Gl X x) (hx : Passes CX X E)
    (ha : PA X (e :: es) t) (hj : k ≤ j := by decide) (hdb : (x == ("__debug__" : Str)) = false := by decide) (he : starEach (e :: es) X.env = (false, eval e X.env) :: starEach es X.env := by rfl) (hpl : (backTo pos (starEach es X.env)).any (·.1) = false := by rfl) :
    PE X (.Call (.Name x p) (e :: es) [] pos) (tCall sp [] E t) := by
  obtain ⟨f, fd, F, hm, hk, hb⟩ := F
  exact pe_call F (hr.mono hj) hg hm hk hb .nil hx ha hdb he hpl
theorem pf_cS {E : L2.St → XK} (F : Cal X.prog X.w X.K X.mg X.base CX k x ps sp) (hr : Room j X.A) (hg : Gl X x) (hx : ∀ σ, PassesAt CX X σ (E σ))
    (ha : PA X (e :: es) t) (hj : k ≤ j := by decide) (hdb : (x == ("__debug__" : Str)) = false := by decide) (he : starEach (e :: es) X.env = (false, eval e X.env) :: starEach es X.env := by rfl) (hpl : (backTo pos (starEach es X.env)).any (·.1) = false := by rfl) :
    PE X (.Call (.Name x p) (e :: es) [] pos) (tCallS sp E t) := by
  obtain ⟨f, fd, F, hm, hk, hb⟩ := F
  exact pe_callS F (hr.mono hj) hg hm hk hb hx ha hdb he hpl
theorem pm_c {pl : Sem Bool} (he : PE X o ta) (F : Mth X.prog X.w X.K X.mg X.base C k m ps sp) (hr : Room j X.A) (hx : Passes CX0 X E) (ha : PA X (e :: es) t) (hj : k ≤ j := by decide)
    (hst : starEach (e :: es) X.env = (false, eval e X.env) :: starEach es X.env := by rfl) (hpl : (backTo pos (starEach es X.env)).any (·.1) = false := by rfl)
    (ht : eval (.Call (.Attribute o m apos) (e :: es) [] pos) X.env = (do
      let ov ← eval o X.env
      standAt apos.atName
      let (f, first) ← holding [ov] (getMethod ov m pl)
      callWith pos f first (backTo pos (starEach (e :: es) X.env)) (backToKw pos (keywordEach [] X.env))) := by rfl) :
    PE X (.Call (.Attribute o m apos) (e :: es) [] pos) (tMeth C m sp [] E ta t) := by
  obtain ⟨c, f, fd, F, hm, hb⟩ := F
  exact pe_meth he c hm F (hr.mono hj) hb .nil hx ha hst hpl ht
theorem pm_c0 {pl : Sem Bool} (he : PE X o ta) (F : Mth X.prog X.w X.K X.mg X.base C k m ps sp) (hr : Room j X.A) (hx : Passes CX0 X E) (hj : k ≤ j := by decide)
    (ht : eval (.Call (.Attribute o m apos) [] [] pos) X.env = (do
      let ov ← eval o X.env
      standAt apos.atName
      let (f, first) ← holding [ov] (getMethod ov m pl)
      callWith pos f first (backTo pos (starEach [] X.env)) (backToKw pos (keywordEach [] X.env))) := by rfl) :
    PE X (.Call (.Attribute o m apos) [] [] pos) (tMeth C m sp [] E ta tNil) := by
  obtain ⟨c, f, fd, F, hm, hb⟩ := F
  exact pe_meth0 he c hm F (hr.mono hj) hb .nil hx ht
theorem pk_c (F : Mkr X.prog X.w X.K X.mg X.base C k x ps sp) (hr : Room j X.A) (hg : Gl X x) (hx : Passes CX0 X E) (ha : PA X (e :: es) t) (hj : k + 1 ≤ j := by decide)
    (hdb : (x == ("__debug__" : Str)) = false := by decide) (he : starEach (e :: es) X.env = (false, eval e X.env) :: starEach es X.env := by rfl) (hpl : (backTo pos (starEach es X.env)).any (·.1) = false := by rfl) :
    PE X (.Call (.Name x p) (e :: es) [] pos) (tMake C sp [] E t) := by
  obtain ⟨f, fd, M, F, hm, hb⟩ := F
  exact pe_make M F (hr.mono hj) hg hm hb .nil hx ha hdb he hpl
theorem passLN : Passes (L2N.CX X.prog X.w) X E0 := fun _ _ _ _ _ _ _ h => by
  obtain ⟨_, _, _, _, _, _, _, _, _, _, _, _, z⟩ := h
  exact z.elim
theorem u65 {A : Around} (hr : Room k A) : A.units + 65 < cLine := by have := hr.un; omega
/-- a constant of the module -/
theorem pe_k {i : Int} (h : ∃ t, X.mg x = some (.int i t)) (hg : Gl X x := by rfl) (hd : (x == ("__debug__" : Str)) = false := by decide) : PE X (.Name x pos) (tC (.int i)) := by
  obtain ⟨t, h⟩ := h
  exact pe_glob hg h ⟨t, rfl⟩ hd
end

/-! ### xs[i] op= e -/
section
variable {X : Cx}
def rGetL (K : PySem.W.Frag) : V → V → Hp → VK → Prop := fun o i H Q => ∃ p xs j v, o = .ref p ∧ i = .int ((j : Nat) : Int) ∧ SqL K H p xs ∧ xs[j]? = some v ∧ Q v H
theorem pget_list : PGet X (rGetL X.K) := by
  intro pins s σ H o i ov iv Q I ro ri h
  obtain ⟨p, xs, j, v, rfl, rfl, hq, hj, q⟩ := h
  cases ro
  obtain ⟨t, rfl⟩ := ri
  obtain ⟨its, r, pl, hz⟩ := I.list hq
  obtain ⟨u, hu, ru⟩ := r.get hj
  have hl : j < xs.length := (List.getElem?_eq_some_iff.mp hj).1
  have h63 : ((j : Nat) : Int) < 2 ^ 63 := by
    have e := sizeLine_eq
    omega
  refine wpAny_getItem_list pl.isList (by omega) h63 (x := u) (by simpa using hu) ⟨v, H, I, ru, q⟩
end

/-! ### min of a list of pairs of ints -/
section
variable {X : Cx}
def prD (p : Int × Int) : PyData := .tuple [.int p.1, .int p.2]
def rMinP (K : PySem.W.Frag) : List V → Hp → VK → Prop := fun vs H Q => ∃ (a : Addr) (xs : List V) (p : Int × Int) (ps : List (Int × Int)), vs = [V.ref a] ∧ SqL K H a xs ∧ DpAll K H xs ((p :: ps).map prD) ∧
  ∀ v, Dp K H v (prD (PySem.W.minOf p ps)) → Q v H
theorem dp_at {K : PySem.W.Frag} {H : Hp} : ∀ {xs : List V} {ds : List PyData} {i : Nat} {x : V}, DpAll K H xs ds → xs[i]? = some x → ∃ d, ds[i]? = some d ∧ Dp K H x d
  | _, _, 0, _, .cons h _, e => by simp at e; subst e; exact ⟨_, rfl, h⟩
  | _, _, i + 1, _, .cons _ t, e => dp_at (i := i) t (by simpa using e)
  | _, _, 0, _, .nil, e => by simp at e
  | _, _, _ + 1, _, .nil, e => by simp at e
theorem dp_len {K : PySem.W.Frag} {H : Hp} : ∀ {xs : List V} {ds : List PyData}, DpAll K H xs ds → xs.length = ds.length
  | _, _, .nil => rfl
  | _, _, .cons _ t => congrArg Nat.succ (dp_len t)
theorem cr_minP (hc : X.calm = true) (hu : X.A.units + 65 < cLine) : CallR X (.builtin "min") (rMinP X.K) := by
  intro pins s σ H vs us Q I r h
  obtain ⟨a, xs, p, ps, rfl, hs, hd, q⟩ := h
  obtain ⟨its, rv, hl, _⟩ := I.list hs
  rw [Vals.ref1 r]
  obtain ⟨as, ra⟩ := Dp.readsAll I _ _ _ hd rv
  refine PySem.W.min_list_datum (α := Int × Int) (x := p) (xs := ps) (vs := its.toArray) (I.ok.hd hc) hl.isList ⟨as, ra⟩ (by show X.A.units + 1 + 1 < cLine; omega) fun i v h' tk hi hv hk => ?_
  obtain ⟨bs, rb⟩ := hv
  have hi' : its[i]? = some v := by simpa using hi
  have hlen := rv.length
  have hil : i < xs.length := by
    have := (List.getElem?_eq_some_iff.mp hi').1
    omega
  obtain ⟨u, hu1, hu2⟩ := rv.get (List.getElem?_eq_getElem hil)
  rw [hi'] at hu1
  cases hu1
  obtain ⟨d, hd1, hd2⟩ := dp_at hd (List.getElem?_eq_getElem hil)
  obtain ⟨cs, rc⟩ := Dp.reads I _ _ _ hd2 hu2
  have e : d = prD (PySem.W.minOf p ps) := by
    rw [List.getElem?_map] at hd1
    obtain ⟨z, _, rfl⟩ := Option.map_eq_some_iff.mp hd1
    exact SeqAt.Reads.unique _ _ _ _ _ (by simp [prD, PyData.canLay0, PyData.canLayAll0]) (Reads.keeps hk rc) rb
  rw [e] at hd2
  exact ⟨_, H, I.kept hk, hu2, q _ hd2⟩
end

/-! ### data -/
mutual
theorem dp_ex {K : PySem.W.Frag} {H H' : Hp} (e : Ex H H') : ∀ (d : PyData) (v : V), Dp K H v d → Dp K H' v d
  | .none, _, h => by
    cases h
    exact .non
  | .bool b, _, h => by
    cases h
    exact .bl b
  | .int i, _, h => by
    cases h
    exact .int i
  | .str x, _, h => by
    cases h
    exact .str x
  | .list ds, _, h => by
    cases h with
    | lst hs ha => exact .lst (ex_l e hs) (dpa_ex e ds _ ha)
  | .tuple ds, _, h => by
    cases h with
    | tup hs ha => exact .tup (ex_t e hs) (dpa_ex e ds _ ha)
  | .dict _, _, h => by cases h
theorem dpa_ex {K : PySem.W.Frag} {H H' : Hp} (e : Ex H H') : ∀ (ds : List PyData) (vs : List V), DpAll K H vs ds → DpAll K H' vs ds
  | [], _, h => by
    cases h
    exact .nil
  | d :: ds, _, h => by
    cases h with
    | cons h1 h2 => exact .cons (dp_ex e d _ h1) (dpa_ex e ds _ h2)
end
theorem dpx {K : PySem.W.Frag} {H H' : Hp} {v : V} {d : PyData} (h : Dp K H v d) (e : Ex H H') : Dp K H' v d := dp_ex e d v h
theorem dpax {K : PySem.W.Frag} {H H' : Hp} {vs : List V} {ds : List PyData} (h : DpAll K H vs ds) (e : Ex H H') : DpAll K H' vs ds := dpa_ex e ds vs h
/-- the name of its type -/
def tyN : PyData → String
  | .none => "NoneType"
  | .bool _ => "bool"
  | .int _ => "int"
  | .str _ => "str"
  | .list _ => "list"
  | .tuple _ => "tuple"
  | .dict _ => "dict"
theorem sql_ty {K : PySem.W.Frag} {H : Hp} {a : Addr} {xs : List V} (h : SqL K H a xs) : TyX K H (.ref a) (.type "list") := by
  rcases h with (h | ⟨o, h⟩) | ⟨o, its, n, h1, h2, _⟩
  · exact .base (.lst h)
  · exact .base (.frz h)
  · exact .kList h1 h2
theorem sqt_ty {K : PySem.W.Frag} {H : Hp} {a : Addr} {xs : List V} (h : SqT K H a xs) : TyX K H (.ref a) (.type "tuple") := by
  rcases h with (h | ⟨o, h⟩) | ⟨o, its, n, h1, h2, _⟩
  · exact .base (.tup h)
  · exact .fTuple h
  · exact .kTuple h1 h2
theorem dp_ty {K : PySem.W.Frag} {H : Hp} {v : V} : ∀ {d : PyData}, Dp K H v d → TyX K H v (.type (tyN d))
  | .none, h => by
    cases h
    exact .base .non
  | .bool b, h => by
    cases h
    exact .base (.bl b)
  | .int i, h => by
    cases h
    exact .base (.int i)
  | .str x, h => by
    cases h
    exact .base (.str x)
  | .list ds, h => by
    cases h with
    | lst hs _ => exact sql_ty hs
  | .tuple ds, h => by
    cases h with
    | tup hs _ => exact sqt_ty hs
  | .dict _, h => by cases h
/-! ### isinstance of data against a built-in type -/
def isIntB : PyData → Bool
  | .bool _ => true
  | .int _ => true
  | _ => false
def isBoolB : PyData → Bool
  | .bool _ => true
  | _ => false
def isListB : PyData → Bool
  | .list _ => true
  | _ => false
def isTupB : PyData → Bool
  | .tuple _ => true
  | _ => false
section
variable {K : PySem.W.Frag} {σ : L2.St} {H : Hp} {ta : TE} {x : V} {d : PyData}
theorem isi_int : ∀ d : PyData, PySem.W.kitOne K (.type (tyN d)) (.type "int") = some (isIntB d)
  | .none => kit_ty (a := "NoneType") (b := "int") (r := false) (by decide +kernel)
  | .bool _ => kit_ty (a := "bool") (b := "int") (r := true) (by decide +kernel)
  | .int _ => kit_ty (a := "int") (b := "int") (r := true) (by decide +kernel)
  | .str _ => kit_ty (a := "str") (b := "int") (r := false) (by decide +kernel)
  | .list _ => kit_ty (a := "list") (b := "int") (r := false) (by decide +kernel)
  | .tuple _ => kit_ty (a := "tuple") (b := "int") (r := false) (by decide +kernel)
  | .dict _ => kit_ty (a := "dict") (b := "int") (r := false) (by decide +kernel)
theorem isi_bool : ∀ d : PyData, PySem.W.kitOne K (.type (tyN d)) (.type "bool") = some (isBoolB d)
  | .none => kit_ty (a := "NoneType") (b := "bool") (r := false) (by decide +kernel)
  | .bool _ => kit_ty (a := "bool") (b := "bool") (r := true) (by decide +kernel)
  | .int _ => kit_ty (a := "int") (b := "bool") (r := false) (by decide +kernel)
  | .str _ => kit_ty (a := "str") (b := "bool") (r := false) (by decide +kernel)
  | .list _ => kit_ty (a := "list") (b := "bool") (r := false) (by decide +kernel)
  | .tuple _ => kit_ty (a := "tuple") (b := "bool") (r := false) (by decide +kernel)
  | .dict _ => kit_ty (a := "dict") (b := "bool") (r := false) (by decide +kernel)
theorem isi_list : ∀ d : PyData, PySem.W.kitOne K (.type (tyN d)) (.type "list") = some (isListB d)
  | .none => kit_ty (a := "NoneType") (b := "list") (r := false) (by decide +kernel)
  | .bool _ => kit_ty (a := "bool") (b := "list") (r := false) (by decide +kernel)
  | .int _ => kit_ty (a := "int") (b := "list") (r := false) (by decide +kernel)
  | .str _ => kit_ty (a := "str") (b := "list") (r := false) (by decide +kernel)
  | .list _ => kit_ty (a := "list") (b := "list") (r := true) (by decide +kernel)
  | .tuple _ => kit_ty (a := "tuple") (b := "list") (r := false) (by decide +kernel)
  | .dict _ => kit_ty (a := "dict") (b := "list") (r := false) (by decide +kernel)
theorem isi_tup : ∀ d : PyData, PySem.W.kitOne K (.type (tyN d)) (.type "tuple") = some (isTupB d)
  | .none => kit_ty (a := "NoneType") (b := "tuple") (r := false) (by decide +kernel)
  | .bool _ => kit_ty (a := "bool") (b := "tuple") (r := false) (by decide +kernel)
  | .int _ => kit_ty (a := "int") (b := "tuple") (r := false) (by decide +kernel)
  | .str _ => kit_ty (a := "str") (b := "tuple") (r := false) (by decide +kernel)
  | .list _ => kit_ty (a := "list") (b := "tuple") (r := false) (by decide +kernel)
  | .tuple _ => kit_ty (a := "tuple") (b := "tuple") (r := true) (by decide +kernel)
  | .dict _ => kit_ty (a := "dict") (b := "tuple") (r := false) (by decide +kernel)
theorem ev_isiT {n : String} {b : Bool} (h : Ev ta σ H x) (hd : Dp K H x d) (hk : PySem.W.kitOne K (.type (tyN d)) (.type n) = some b) : Ev (tCB (rIsi K) (tCons ta (tCons (tC (.ty n)) tNil))) σ H (.bl b) := fun H1 e Q q =>
  h H1 e _ fun H2 e2 => ⟨x, .ty n, _, _, b, rfl, .ty n, dp_ty (dpx hd (e.trans e2)), hk, q H2 e2⟩
theorem ev_isInt (h : Ev ta σ H x) (hd : Dp K H x d) : Ev (tCB (rIsi K) (tCons ta (tCons (tC (.ty "int")) tNil))) σ H (.bl (isIntB d)) := ev_isiT h hd (isi_int d)
theorem ev_isBool (h : Ev ta σ H x) (hd : Dp K H x d) : Ev (tCB (rIsi K) (tCons ta (tCons (tC (.ty "bool")) tNil))) σ H (.bl (isBoolB d)) := ev_isiT h hd (isi_bool d)
theorem ev_isList (h : Ev ta σ H x) (hd : Dp K H x d) : Ev (tCB (rIsi K) (tCons ta (tCons (tC (.ty "list")) tNil))) σ H (.bl (isListB d)) := ev_isiT h hd (isi_list d)
theorem ev_isTup (h : Ev ta σ H x) (hd : Dp K H x d) : Ev (tCB (rIsi K) (tCons ta (tCons (tC (.ty "tuple")) tNil))) σ H (.bl (isTupB d)) := ev_isiT h hd (isi_tup d)
end
/-! ### what the program asks of a thing -/
/-- a whole number from l to m -/
def amB : PyData → Int → Int → Bool
  | .int i, l, m => decide (l ≤ i) && decide (i ≤ m)
  | _, _, _ => false
def cellB (d : PyData) : Bool := amB d 0 15
def cellsB : PyData → Bool
  | .list ds => ds.all cellB
  | _ => false
def lenD : PyData → Nat
  | .list ds => ds.length
  | .tuple ds => ds.length
  | _ => 0
def headD (ds : List PyData) : PyData := ds.headD .none
def picB : PyData → Bool
  | .list ds => decide (1 ≤ ds.length) && (decide (ds.length ≤ 24) && (ds.all cellsB && (decide (1 ≤ lenD (headD ds)) && (decide (lenD (headD ds) ≤ 24) && ds.all fun d => decide (lenD d = lenD (headD ds))))))
  | _ => false
/-! ### rules with the written part said (within a comprehension's block the reading may not name the context) -/
section
variable {X : Cx} {K : PySem.W.Frag}
theorem ix_listK (K : PySem.W.Frag) (hK : X.K = K := by rfl) : IxR X (rIxL K) := hK ▸ ix_list
theorem ix_tupK (K : PySem.W.Frag) (hK : X.K = K := by rfl) : IxR X (rIxT K) := hK ▸ ix_tup
theorem sl_listK (K : PySem.W.Frag) (hK : X.K = K := by rfl) : SlR X (rSlL K) := hK ▸ sl_list
theorem call_lenK (K : PySem.W.Frag) (hK : X.K = K := by rfl) : CallR X (.builtin "len") (fun vs H Q => ∃ p ys, vs = [V.ref p] ∧ (SqL K H p ys ∨ SqT K H p ys) ∧ Q (.int ys.length) H) := hK ▸ call_len_seq
theorem call_listK (K : PySem.W.Frag) (hK : X.K = K := by rfl) : CallR X (.type "list") (fun xs H Q => ∃ p ys, xs = [V.ref p] ∧ (SqL K H p ys ∨ SqT K H p ys) ∧ ∀ l, H l = none → Q (.ref l) (upd H l (.lst ys))) := hK ▸ call_list_of
theorem call_tupleK (K : PySem.W.Frag) (hK : X.K = K := by rfl) : CallR X (.type "tuple") (fun xs H Q => ∃ p ys, xs = [V.ref p] ∧ ((SqL K H p ys ∧ ∀ l, H l = none → Q (.ref l) (upd H l (.tup ys))) ∨ (SqT K H p ys ∧ Q (.ref p) H))) := hK ▸ call_tuple_of
theorem call_isiK (K : PySem.W.Frag) (hK : X.K = K := by rfl) : CallR X (.builtin "isinstance") (rIsi K) := hK ▸ call_isi
theorem cr_allK (K : PySem.W.Frag) (hc : X.calm = true) (hK : X.K = K := by rfl) : CallR X (.builtin "all") (rAll K) := hK ▸ cr_all hc
theorem cr_anyK (K : PySem.W.Frag) (hc : X.calm = true) (hK : X.K = K := by rfl) : CallR X (.builtin "any") (rAny K) := hK ▸ cr_any hc
theorem cr_sumK (K : PySem.W.Frag) (hc : X.calm = true) (hK : X.K = K := by rfl) : CallR X (.builtin "sum") (rSum K) := hK ▸ cr_sum hc
theorem cr_maxK (K : PySem.W.Frag) (hc : X.calm = true) (hK : X.K = K := by rfl) : CallR X (.builtin "max") (rMax K) := hK ▸ cr_max hc
theorem cr_minK (K : PySem.W.Frag) (hc : X.calm = true) (hK : X.K = K := by rfl) : CallR X (.builtin "min") (rMin K) := hK ▸ cr_min hc
theorem cr_minPK (K : PySem.W.Frag) (hc : X.calm = true) (hu : X.A.units + 65 < cLine) (hK : X.K = K := by rfl) : CallR X (.builtin "min") (rMinP K) := hK ▸ cr_minP hc hu
theorem cr_sortK (K : PySem.W.Frag) (hK : X.K = K := by rfl) : CallR X (.builtin "sorted") (rSortedPO K) := hK ▸ cr_sortedPO
theorem op_eqDK (K : PySem.W.Frag) (hu : X.A.units + 64 < cLine) (hK : X.K = K := by rfl) : OpR X (compareOp .Eq) (rEqD K) := hK ▸ op_eqD hu
theorem op_neDK (K : PySem.W.Frag) (hu : X.A.units + 64 < cLine) (hK : X.K = K := by rfl) : OpR X (compareOp .NotEq) (rNeD K) := hK ▸ op_neD hu
theorem op_inDK (K : PySem.W.Frag) (hu : X.A.units + 65 < cLine) (hK : X.K = K := by rfl) : OpR X (compareOp .In) (rInD K) := hK ▸ op_inD hu
theorem op_notInDK (K : PySem.W.Frag) (hu : X.A.units + 65 < cLine) (hK : X.K = K := by rfl) : OpR X (compareOp .NotIn) (rNotInD K) := hK ▸ op_notInD hu
theorem mt_indexK (K : PySem.W.Frag) (hK : X.K = K := by rfl) : MtR X "list.index" (rIndex K) := hK ▸ mt_index
theorem mt_indexDK (K : PySem.W.Frag) (hu : X.A.units + 65 < cLine) (hK : X.K = K := by rfl) : MtR X "list.index" (rIndexD K) := hK ▸ mt_indexD hu
theorem pget_listK (K : PySem.W.Frag) (hK : X.K = K := by rfl) : PGet X (rGetL K) := hK ▸ pget_list
theorem pi_listK (K : PySem.W.Frag) {tg l : Expr} {tl : TE} (hl : PE X l tl) (hK : X.K = K := by rfl) : PI X tg l (iList K tl) := hK ▸ pi_list hl
theorem pi_tupK (K : PySem.W.Frag) {tg l : Expr} {tl : TE} (hl : PE X l tl) (hK : X.K = K := by rfl) : PI X tg l (iTup K tl) := hK ▸ pi_tup hl
theorem pi_enumK (K : PySem.W.Frag) {e : Expr} {ta : TA} {p pos tpos : Pos} {elts : List Expr} {kk : Nat} (hg : Gl X "enumerate") (hm : X.mg "enumerate" = none) (ha : PA X [e] ta) (hs : starEach [e] X.env = [(false, eval e X.env)] := by rfl) (hK : X.K = K := by rfl) :
    PI X (.Tuple elts kk tpos) (.Call (.Name "enumerate" p) [e] [] pos) (iEnum K ta) := hK ▸ pi_enum hg hm ha hs
theorem pi_zipK (K : PySem.W.Frag) {e e2 : Expr} {ta : TA} {p pos tpos : Pos} {elts : List Expr} {kk : Nat} (hg : Gl X "zip") (hm : X.mg "zip" = none) (ha : PA X [e, e2] ta)
    (hs : starEach [e, e2] X.env = (false, eval e X.env) :: starEach [e2] X.env := by rfl) (hpl : (backTo pos (starEach [e2] X.env)).any (·.1) = false := by rfl) (hK : X.K = K := by rfl) :
    PI X (.Tuple elts kk tpos) (.Call (.Name "zip" p) [e, e2] [] pos) (RZ.iZipA K ta) := hK ▸ RZ.pi_zipA hg hm ha hs hpl
theorem pg_tupK (K : PySem.W.Frag) {es : List Expr} {k : Nat} {t : TGs} {n : Nat} {pos : Pos} (hc : X.calm = true) (h : PGs X es t)
    (hn : (assignEach es X.env).length = n := by rfl) (hst : (assignEach es X.env).findIdx? (·.1) = none := by rfl) (hK : X.K = K := by rfl) : PG X (.Tuple es k pos) (gTup K n t) := hK ▸ pg_tup hc h hn hst
theorem pe_bmK (K : PySem.W.Frag) {o e : Expr} {es : List Expr} {to : TE} {t : TA} {name : Str} {apos cpos : Pos} {T id : String} {r : V → List V → Hp → VK → Prop} (pa : PlainAttrs T) (slot : Slot T name id) (hty : typeOf (.builtin id) = pure (.type "method_descriptor")) (hm : MtR X id r) (ho : PE X o to) (ha : PA X (e :: es) t)
    (hbase : attributeBase o name X.env (eval o X.env) = eval o X.env := by rfl)
    (hfew : ((backTo cpos (starEach (e :: es) X.env)).all (fun x => !x.1) && (backToKw cpos (keywordEach [] X.env)).all (fun x => x.1.isSome)
      && decide ((e :: es).length + ([] : List Keyword).length + (if ([] : List Keyword).isEmpty then 0 else 1) < 30)) = true := by rfl)
    (hline : (apos.endLine == cpos.line) = true := by rfl) (hs : starEach (e :: es) X.env = (false, eval e X.env) :: starEach es X.env := by rfl) (hplain : (backTo cpos (starEach es X.env)).any (·.1) = false := by rfl) (hK : X.K = K := by rfl) :
    PE X (.Call (.Attribute o name apos) (e :: es) [] cpos) (tBM K T r to t) := hK ▸ pe_bm pa slot hty hm ho ha hbase hfew hline hs hplain
theorem pe_bm0K (K : PySem.W.Frag) {o : Expr} {to : TE} {name : Str} {apos cpos : Pos} {T id : String} {r : V → List V → Hp → VK → Prop} (pa : PlainAttrs T) (slot : Slot T name id) (hty : typeOf (.builtin id) = pure (.type "method_descriptor")) (hm : MtR X id r) (ho : PE X o to)
    (hbase : attributeBase o name X.env (eval o X.env) = eval o X.env := by rfl) (hline : (apos.endLine == cpos.line) = true := by rfl) (hK : X.K = K := by rfl) : PE X (.Call (.Attribute o name apos) [] [] cpos) (tBM0 K T r to) := hK ▸ pe_bm0 pa slot hty hm ho hbase hline
theorem pe_fldK (K : PySem.W.Frag) {e : Expr} {ta : TE} {f : Str} {pos : Pos} (he : PE X e ta) (hb : attributeBase e f X.env (eval e X.env) = eval e X.env) (hK : X.K = K := by rfl) : PE X (.Attribute e f pos) (tFld K ta f) := hK ▸ pe_fld he hb
end
end C19
set_option Elab.async false
set_option linter.all false
set_option maxRecDepth 100000
set_option maxHeartbeats 4000000
/-! the text by places: each def's slots and binding; the facts that the walks lean on -/
namespace C19
open PySem PySem.Spec PyProof.Rows L2 Evl
def top (i : Nat) : Stmt := PySem.Challenge.pw_cellfolio_k19_whole_fewer_walked.main.body.getD i (.Pass ⟨0, 0, 0, 0⟩)
abbrev s_is_among : Stmt := top 29
theorem sc_is_among : FnScope ["thing", "least", "most"] ["thing", "least", "most"] (defScope s_is_among) := ⟨rfl, rfl, rfl, by decide +kernel, rfl, by decide +kernel, by decide +kernel⟩
theorem bd_is_among {K : PySem.W.Frag} {f : Addr} {fd : FuncData} (F : FunD K "is_among" "is_among" (defArgs s_is_among) (defBody s_is_among) (defScope s_is_among) [] [] f fd) : Binds K fd ["thing", "least", "most"] [] := FunD.bindsN F fun _ _ _ _ _ _ us hl => match us, hl with | [_, _, _], _ => rfl
abbrev s_is_cell : Stmt := top 30
theorem sc_is_cell : FnScope ["thing"] ["thing"] (defScope s_is_cell) := ⟨rfl, rfl, rfl, by decide +kernel, rfl, by decide +kernel, by decide +kernel⟩
theorem bd_is_cell {K : PySem.W.Frag} {f : Addr} {fd : FuncData} (F : FunD K "is_cell" "is_cell" (defArgs s_is_cell) (defBody s_is_cell) (defScope s_is_cell) [] [] f fd) : Binds K fd ["thing"] [] := FunD.bindsN F fun _ _ _ _ _ _ us hl => match us, hl with | [_], _ => rfl
abbrev s_are_cells : Stmt := top 31
theorem sc_are_cells : FnScope ["thing", "one"] ["thing"] (defScope s_are_cells) := ⟨rfl, rfl, rfl, by decide +kernel, rfl, by decide +kernel, by decide +kernel⟩
theorem bd_are_cells {K : PySem.W.Frag} {f : Addr} {fd : FuncData} (F : FunD K "are_cells" "are_cells" (defArgs s_are_cells) (defBody s_are_cells) (defScope s_are_cells) [] [] f fd) : Binds K fd ["thing"] [] := FunD.bindsN F fun _ _ _ _ _ _ us hl => match us, hl with | [_], _ => rfl
abbrev s_is_picture : Stmt := top 32
theorem sc_is_picture : FnScope ["thing", "row"] ["thing"] (defScope s_is_picture) := ⟨rfl, rfl, rfl, by decide +kernel, rfl, by decide +kernel, by decide +kernel⟩
theorem bd_is_picture {K : PySem.W.Frag} {f : Addr} {fd : FuncData} (F : FunD K "is_picture" "is_picture" (defArgs s_is_picture) (defBody s_is_picture) (defScope s_is_picture) [] [] f fd) : Binds K fd ["thing"] [] := FunD.bindsN F fun _ _ _ _ _ _ us hl => match us, hl with | [_], _ => rfl
abbrev s_need_picture : Stmt := top 33
theorem sc_need_picture : FnScope ["picture"] ["picture"] (defScope s_need_picture) := ⟨rfl, rfl, rfl, by decide +kernel, rfl, by decide +kernel, by decide +kernel⟩
theorem bd_need_picture {K : PySem.W.Frag} {f : Addr} {fd : FuncData} (F : FunD K "need_picture" "need_picture" (defArgs s_need_picture) (defBody s_need_picture) (defScope s_need_picture) [] [] f fd) : Binds K fd ["picture"] [] := FunD.bindsN F fun _ _ _ _ _ _ us hl => match us, hl with | [_], _ => rfl
abbrev s_is_colour : Stmt := top 36
theorem sc_is_colour : FnScope ["thing", "share"] ["thing"] (defScope s_is_colour) := ⟨rfl, rfl, rfl, by decide +kernel, rfl, by decide +kernel, by decide +kernel⟩
theorem bd_is_colour {K : PySem.W.Frag} {f : Addr} {fd : FuncData} (F : FunD K "is_colour" "is_colour" (defArgs s_is_colour) (defBody s_is_colour) (defScope s_is_colour) [] [] f fd) : Binds K fd ["thing"] [] := FunD.bindsN F fun _ _ _ _ _ _ us hl => match us, hl with | [_], _ => rfl
abbrev s_need_colour : Stmt := top 37
theorem sc_need_colour : FnScope ["thing"] ["thing"] (defScope s_need_colour) := ⟨rfl, rfl, rfl, by decide +kernel, rfl, by decide +kernel, by decide +kernel⟩
theorem bd_need_colour {K : PySem.W.Frag} {f : Addr} {fd : FuncData} (F : FunD K "need_colour" "need_colour" (defArgs s_need_colour) (defBody s_need_colour) (defScope s_need_colour) [] [] f fd) : Binds K fd ["thing"] [] := FunD.bindsN F fun _ _ _ _ _ _ us hl => match us, hl with | [_], _ => rfl
abbrev s_apart : Stmt := top 38
theorem sc_apart : FnScope ["one", "other", "left", "right"] ["one", "other"] (defScope s_apart) := ⟨rfl, rfl, rfl, by decide +kernel, rfl, by decide +kernel, by decide +kernel⟩
theorem bd_apart {K : PySem.W.Frag} {f : Addr} {fd : FuncData} (F : FunD K "apart" "apart" (defArgs s_apart) (defBody s_apart) (defScope s_apart) [] [] f fd) : Binds K fd ["one", "other"] [] := FunD.bindsN F fun _ _ _ _ _ _ us hl => match us, hl with | [_, _], _ => rfl
abbrev s_Palette_init : Stmt := inClass (top 41) 0
theorem sc_Palette_init : FnScope ["self", "colours", "place", "colour"] ["self", "colours"] (defScope s_Palette_init) := ⟨rfl, rfl, rfl, by decide +kernel, rfl, by decide +kernel, by decide +kernel⟩
theorem bd_Palette_init {K : PySem.W.Frag} {f : Addr} {fd : FuncData} (F : FunD K "__init__" "Palette.__init__" (defArgs s_Palette_init) (defBody s_Palette_init) (defScope s_Palette_init) [] [] f fd) : Binds K fd ["self", "colours"] [] := FunD.bindsN F fun _ _ _ _ _ _ us hl => match us, hl with | [_, _], _ => rfl
abbrev s_Palette_colours : Stmt := inClass (top 41) 1
theorem sc_Palette_colours : FnScope ["self"] ["self"] (defScope s_Palette_colours) := ⟨rfl, rfl, rfl, by decide +kernel, rfl, by decide +kernel, by decide +kernel⟩
theorem bd_Palette_colours {K : PySem.W.Frag} {f : Addr} {fd : FuncData} (F : FunD K "colours" "Palette.colours" (defArgs s_Palette_colours) (defBody s_Palette_colours) (defScope s_Palette_colours) [] [] f fd) : Binds K fd ["self"] [] := FunD.bindsN F fun _ _ _ _ _ _ us hl => match us, hl with | [_], _ => rfl
abbrev s_Palette_many : Stmt := inClass (top 41) 2
theorem sc_Palette_many : FnScope ["self"] ["self"] (defScope s_Palette_many) := ⟨rfl, rfl, rfl, by decide +kernel, rfl, by decide +kernel, by decide +kernel⟩
theorem bd_Palette_many {K : PySem.W.Frag} {f : Addr} {fd : FuncData} (F : FunD K "many" "Palette.many" (defArgs s_Palette_many) (defBody s_Palette_many) (defScope s_Palette_many) [] [] f fd) : Binds K fd ["self"] [] := FunD.bindsN F fun _ _ _ _ _ _ us hl => match us, hl with | [_], _ => rfl
abbrev s_Palette_colour_of : Stmt := inClass (top 41) 3
theorem sc_Palette_colour_of : FnScope ["self", "cell"] ["self", "cell"] (defScope s_Palette_colour_of) := ⟨rfl, rfl, rfl, by decide +kernel, rfl, by decide +kernel, by decide +kernel⟩
theorem bd_Palette_colour_of {K : PySem.W.Frag} {f : Addr} {fd : FuncData} (F : FunD K "colour_of" "Palette.colour_of" (defArgs s_Palette_colour_of) (defBody s_Palette_colour_of) (defScope s_Palette_colour_of) [] [] f fd) : Binds K fd ["self", "cell"] [] := FunD.bindsN F fun _ _ _ _ _ _ us hl => match us, hl with | [_, _], _ => rfl
abbrev s_Palette_cell_of : Stmt := inClass (top 41) 4
theorem sc_Palette_cell_of : FnScope ["self", "colour"] ["self", "colour"] (defScope s_Palette_cell_of) := ⟨rfl, rfl, rfl, by decide +kernel, rfl, by decide +kernel, by decide +kernel⟩
theorem bd_Palette_cell_of {K : PySem.W.Frag} {f : Addr} {fd : FuncData} (F : FunD K "cell_of" "Palette.cell_of" (defArgs s_Palette_cell_of) (defBody s_Palette_cell_of) (defScope s_Palette_cell_of) [] [] f fd) : Binds K fd ["self", "colour"] [] := FunD.bindsN F fun _ _ _ _ _ _ us hl => match us, hl with | [_, _], _ => rfl
abbrev s_Palette_add_colour : Stmt := inClass (top 41) 5
theorem sc_Palette_add_colour : FnScope ["self", "colour", "cell"] ["self", "colour"] (defScope s_Palette_add_colour) := ⟨rfl, rfl, rfl, by decide +kernel, rfl, by decide +kernel, by decide +kernel⟩
theorem bd_Palette_add_colour {K : PySem.W.Frag} {f : Addr} {fd : FuncData} (F : FunD K "add_colour" "Palette.add_colour" (defArgs s_Palette_add_colour) (defBody s_Palette_add_colour) (defScope s_Palette_add_colour) [] [] f fd) : Binds K fd ["self", "colour"] [] := FunD.bindsN F fun _ _ _ _ _ _ us hl => match us, hl with | [_, _], _ => rfl
abbrev s_recoloured : Stmt := top 42
theorem sc_recoloured : FnScope ["picture", "numbers", "row", "cell"] ["picture", "numbers"] (defScope s_recoloured) := ⟨rfl, rfl, rfl, by decide +kernel, rfl, by decide +kernel, by decide +kernel⟩
theorem bd_recoloured {K : PySem.W.Frag} {f : Addr} {fd : FuncData} (F : FunD K "recoloured" "recoloured" (defArgs s_recoloured) (defBody s_recoloured) (defScope s_recoloured) [] [] f fd) : Binds K fd ["picture", "numbers"] [] := FunD.bindsN F fun _ _ _ _ _ _ us hl => match us, hl with | [_, _], _ => rfl
abbrev s_cell_counts : Stmt := top 44
theorem sc_cell_counts : FnScope ["picture", "found", "row", "cell"] ["picture"] (defScope s_cell_counts) := ⟨rfl, rfl, rfl, by decide +kernel, rfl, by decide +kernel, by decide +kernel⟩
theorem bd_cell_counts {K : PySem.W.Frag} {f : Addr} {fd : FuncData} (F : FunD K "cell_counts" "cell_counts" (defArgs s_cell_counts) (defBody s_cell_counts) (defScope s_cell_counts) [] [] f fd) : Binds K fd ["picture"] [] := FunD.bindsN F fun _ _ _ _ _ _ us hl => match us, hl with | [_], _ => rfl
abbrev s_used_counts : Stmt := top 45
theorem sc_used_counts : FnScope ["picture", "palette", "counts", "number"] ["picture", "palette"] (defScope s_used_counts) := ⟨rfl, rfl, rfl, by decide +kernel, rfl, by decide +kernel, by decide +kernel⟩
theorem bd_used_counts {K : PySem.W.Frag} {f : Addr} {fd : FuncData} (F : FunD K "used_counts" "used_counts" (defArgs s_used_counts) (defBody s_used_counts) (defScope s_used_counts) [] [] f fd) : Binds K fd ["picture", "palette"] [] := FunD.bindsN F fun _ _ _ _ _ _ us hl => match us, hl with | [_, _], _ => rfl
abbrev s_ordered_picture : Stmt := top 46
theorem sc_ordered_picture : FnScope ["picture", "palette", "counts", "order", "pair", "cell", "number", "numbers", "place"] ["picture", "palette"] (defScope s_ordered_picture) := ⟨rfl, rfl, rfl, by decide +kernel, rfl, by decide +kernel, by decide +kernel⟩
theorem bd_ordered_picture {K : PySem.W.Frag} {f : Addr} {fd : FuncData} (F : FunD K "ordered_picture" "ordered_picture" (defArgs s_ordered_picture) (defBody s_ordered_picture) (defScope s_ordered_picture) [] [] f fd) : Binds K fd ["picture", "palette"] [] := FunD.bindsN F fun _ _ _ _ _ _ us hl => match us, hl with | [_, _], _ => rfl
abbrev s_heir_of : Stmt := top 47
theorem sc_heir_of : FnScope ["cell", "used", "palette", "colour", "other"] ["cell", "used", "palette"] (defScope s_heir_of) := ⟨rfl, rfl, rfl, by decide +kernel, rfl, by decide +kernel, by decide +kernel⟩
theorem bd_heir_of {K : PySem.W.Frag} {f : Addr} {fd : FuncData} (F : FunD K "heir_of" "heir_of" (defArgs s_heir_of) (defBody s_heir_of) (defScope s_heir_of) [] [] f fd) : Binds K fd ["cell", "used", "palette"] [] := FunD.bindsN F fun _ _ _ _ _ _ us hl => match us, hl with | [_, _, _], _ => rfl
abbrev s_fewer_cells : Stmt := top 48
theorem sc_fewer_cells : FnScope ["picture", "palette", "many", "counts", "numbers", "used", "cell", "number", "gone", "heir"] ["picture", "palette", "many"] (defScope s_fewer_cells) := ⟨rfl, rfl, rfl, by decide +kernel, rfl, by decide +kernel, by decide +kernel⟩
theorem bd_fewer_cells {K : PySem.W.Frag} {f : Addr} {fd : FuncData} (F : FunD K "fewer_cells" "fewer_cells" (defArgs s_fewer_cells) (defBody s_fewer_cells) (defScope s_fewer_cells) [] [] f fd) : Binds K fd ["picture", "palette", "many"] [] := FunD.bindsN F fun _ _ _ _ _ _ us hl => match us, hl with | [_, _, _], _ => rfl
abbrev s_lw_draw : Stmt := top 50
theorem sc_lw_draw : FnScope ["_law_script", "_law_k", "_law_cell", "_law_base"] ["_law_script", "_law_k"] (defScope s_lw_draw) := ⟨rfl, rfl, rfl, by decide +kernel, rfl, by decide +kernel, by decide +kernel⟩
theorem bd_lw_draw {K : PySem.W.Frag} {f : Addr} {fd : FuncData} (F : FunD K "_law_draw" "_law_draw" (defArgs s_lw_draw) (defBody s_lw_draw) (defScope s_lw_draw) [] [] f fd) : Binds K fd ["_law_script", "_law_k"] [] := FunD.bindsN F fun _ _ _ _ _ _ us hl => match us, hl with | [_, _], _ => rfl
abbrev s_lw_whole : Stmt := top 51
theorem sc_lw_whole : FnScope ["_law_found"] ["_law_found"] (defScope s_lw_whole) := ⟨rfl, rfl, rfl, by decide +kernel, rfl, by decide +kernel, by decide +kernel⟩
theorem bd_lw_whole {K : PySem.W.Frag} {f : Addr} {fd : FuncData} (F : FunD K "_law_whole" "_law_whole" (defArgs s_lw_whole) (defBody s_lw_whole) (defScope s_lw_whole) [] [] f fd) : Binds K fd ["_law_found"] [] := FunD.bindsN F fun _ _ _ _ _ _ us hl => match us, hl with | [_], _ => rfl
abbrev s_lw_word : Stmt := top 52
theorem sc_lw_word : FnScope ["_law_e", "_law_some", "_law_found", "_law_word_here", "_law_fits"] ["_law_e"] (defScope s_lw_word) := ⟨rfl, rfl, rfl, by decide +kernel, rfl, by decide +kernel, by decide +kernel⟩
theorem bd_lw_word {K : PySem.W.Frag} {f : Addr} {fd : FuncData} (F : FunD K "_law_word" "_law_word" (defArgs s_lw_word) (defBody s_lw_word) (defScope s_lw_word) [] [] f fd) : Binds K fd ["_law_e"] [] := FunD.bindsN F fun _ _ _ _ _ _ us hl => match us, hl with | [_], _ => rfl
abbrev s_lw_colour : Stmt := top 53
theorem sc_lw_colour : FnScope ["_law_number", "_law_shares", "_law_way", "_law_share"] ["_law_number"] (defScope s_lw_colour) := ⟨rfl, rfl, rfl, by decide +kernel, rfl, by decide +kernel, by decide +kernel⟩
theorem bd_lw_colour {K : PySem.W.Frag} {f : Addr} {fd : FuncData} (F : FunD K "_law_colour" "_law_colour" (defArgs s_lw_colour) (defBody s_lw_colour) (defScope s_lw_colour) [] [] f fd) : Binds K fd ["_law_number"] [] := FunD.bindsN F fun _ _ _ _ _ _ us hl => match us, hl with | [_], _ => rfl
abbrev s_lw_apart : Stmt := top 54
theorem sc_lw_apart : FnScope ["_law_one", "_law_other", "_law_found", "_law_k"] ["_law_one", "_law_other"] (defScope s_lw_apart) := ⟨rfl, rfl, rfl, by decide +kernel, rfl, by decide +kernel, by decide +kernel⟩
theorem bd_lw_apart {K : PySem.W.Frag} {f : Addr} {fd : FuncData} (F : FunD K "_law_apart" "_law_apart" (defArgs s_lw_apart) (defBody s_lw_apart) (defScope s_lw_apart) [] [] f fd) : Binds K fd ["_law_one", "_law_other"] [] := FunD.bindsN F fun _ _ _ _ _ _ us hl => match us, hl with | [_, _], _ => rfl
abbrev s_lw_pool : Stmt := top 55
theorem sc_lw_pool : FnScope ["_law_script", "_law_first", "_law_near", "_law_base", "_law_found", "_law_k", "_law_number", "_law_colour_here", "_law_j"] ["_law_script", "_law_first", "_law_near"] (defScope s_lw_pool) := ⟨rfl, rfl, rfl, by decide +kernel, rfl, by decide +kernel, by decide +kernel⟩
theorem bd_lw_pool {K : PySem.W.Frag} {f : Addr} {fd : FuncData} (F : FunD K "_law_pool" "_law_pool" (defArgs s_lw_pool) (defBody s_lw_pool) (defScope s_lw_pool) [] [] f fd) : Binds K fd ["_law_script", "_law_first", "_law_near"] [] := FunD.bindsN F fun _ _ _ _ _ _ us hl => match us, hl with | [_, _, _], _ => rfl
abbrev s_lw_size : Stmt := top 56
theorem sc_lw_size : FnScope ["_law_number"] ["_law_number"] (defScope s_lw_size) := ⟨rfl, rfl, rfl, by decide +kernel, rfl, by decide +kernel, by decide +kernel⟩
theorem bd_lw_size {K : PySem.W.Frag} {f : Addr} {fd : FuncData} (F : FunD K "_law_size" "_law_size" (defArgs s_lw_size) (defBody s_lw_size) (defScope s_lw_size) [] [] f fd) : Binds K fd ["_law_number"] [] := FunD.bindsN F fun _ _ _ _ _ _ us hl => match us, hl with | [_], _ => rfl
abbrev s_lw_picture : Stmt := top 57
theorem sc_lw_picture : FnScope ["_law_script", "_law_first", "_law_many", "_law_number", "_law_wide", "_law_high", "_law_found", "_law_y", "_law_row", "_law_x", "_law_more", "_law_cell"] ["_law_script", "_law_first", "_law_many"] (defScope s_lw_picture) := ⟨rfl, rfl, rfl, by decide +kernel, rfl, by decide +kernel, by decide +kernel⟩
theorem bd_lw_picture {K : PySem.W.Frag} {f : Addr} {fd : FuncData} (F : FunD K "_law_picture" "_law_picture" (defArgs s_lw_picture) (defBody s_lw_picture) (defScope s_lw_picture) [] [] f fd) : Binds K fd ["_law_script", "_law_first", "_law_many"] [] := FunD.bindsN F fun _ _ _ _ _ _ us hl => match us, hl with | [_, _, _], _ => rfl
abbrev s_lw_copied : Stmt := top 58
theorem sc_lw_copied : FnScope ["_law_rows", "_law_row"] ["_law_rows"] (defScope s_lw_copied) := ⟨rfl, rfl, rfl, by decide +kernel, rfl, by decide +kernel, by decide +kernel⟩
theorem bd_lw_copied {K : PySem.W.Frag} {f : Addr} {fd : FuncData} (F : FunD K "_law_copied" "_law_copied" (defArgs s_lw_copied) (defBody s_lw_copied) (defScope s_lw_copied) [] [] f fd) : Binds K fd ["_law_rows"] [] := FunD.bindsN F fun _ _ _ _ _ _ us hl => match us, hl with | [_], _ => rfl
abbrev s_lw_rows_good : Stmt := top 59
theorem sc_lw_rows_good : FnScope ["_law_found", "_law_due", "_law_row"] ["_law_found", "_law_due"] (defScope s_lw_rows_good) := ⟨rfl, rfl, rfl, by decide +kernel, rfl, by decide +kernel, by decide +kernel⟩
theorem bd_lw_rows_good {K : PySem.W.Frag} {f : Addr} {fd : FuncData} (F : FunD K "_law_rows_good" "_law_rows_good" (defArgs s_lw_rows_good) (defBody s_lw_rows_good) (defScope s_lw_rows_good) [] [] f fd) : Binds K fd ["_law_found", "_law_due"] [] := FunD.bindsN F fun _ _ _ _ _ _ us hl => match us, hl with | [_, _], _ => rfl
abbrev s_lw_own : Stmt := top 60
theorem sc_lw_own : FnScope ["_law_found", "_law_due", "_law_row"] ["_law_found", "_law_due"] (defScope s_lw_own) := ⟨rfl, rfl, rfl, by decide +kernel, rfl, by decide +kernel, by decide +kernel⟩
theorem bd_lw_own {K : PySem.W.Frag} {f : Addr} {fd : FuncData} (F : FunD K "_law_own" "_law_own" (defArgs s_lw_own) (defBody s_lw_own) (defScope s_lw_own) [] [] f fd) : Binds K fd ["_law_found", "_law_due"] [] := FunD.bindsN F fun _ _ _ _ _ _ us hl => match us, hl with | [_, _], _ => rfl
abbrev s_lw_no_picture : Stmt := top 61
theorem sc_lw_no_picture : FnScope ["_law_rows", "_law_odd", "_law_number", "_law_y", "_law_x", "_law_spoilt", "_law_longer", "_law_some"] ["_law_rows", "_law_odd", "_law_number"] (defScope s_lw_no_picture) := ⟨rfl, rfl, rfl, by decide +kernel, rfl, by decide +kernel, by decide +kernel⟩
theorem bd_lw_no_picture {K : PySem.W.Frag} {f : Addr} {fd : FuncData} (F : FunD K "_law_no_picture" "_law_no_picture" (defArgs s_lw_no_picture) (defBody s_lw_no_picture) (defScope s_lw_no_picture) [] [] f fd) : Binds K fd ["_law_rows", "_law_odd", "_law_number"] [] := FunD.bindsN F fun _ _ _ _ _ _ us hl => match us, hl with | [_, _, _], _ => rfl
abbrev s_lw_counts : Stmt := top 62
theorem sc_lw_counts : FnScope ["_law_picture_here", "_law_found", "_law_row", "_law_cell"] ["_law_picture_here"] (defScope s_lw_counts) := ⟨rfl, rfl, rfl, by decide +kernel, rfl, by decide +kernel, by decide +kernel⟩
theorem bd_lw_counts {K : PySem.W.Frag} {f : Addr} {fd : FuncData} (F : FunD K "_law_counts" "_law_counts" (defArgs s_lw_counts) (defBody s_lw_counts) (defScope s_lw_counts) [] [] f fd) : Binds K fd ["_law_picture_here"] [] := FunD.bindsN F fun _ _ _ _ _ _ us hl => match us, hl with | [_], _ => rfl
abbrev s_lw_used : Stmt := top 63
theorem sc_lw_used : FnScope ["_law_picture_here", "_law_cell"] ["_law_picture_here"] (defScope s_lw_used) := ⟨rfl, rfl, rfl, by decide +kernel, rfl, by decide +kernel, by decide +kernel⟩
theorem bd_lw_used {K : PySem.W.Frag} {f : Addr} {fd : FuncData} (F : FunD K "_law_used" "_law_used" (defArgs s_lw_used) (defBody s_lw_used) (defScope s_lw_used) [] [] f fd) : Binds K fd ["_law_picture_here"] [] := FunD.bindsN F fun _ _ _ _ _ _ us hl => match us, hl with | [_], _ => rfl
abbrev s_lw_order : Stmt := top 64
theorem sc_lw_order : FnScope ["_law_picture_here", "_law_counts_here", "_law_left", "_law_cell", "_law_found", "_law_best"] ["_law_picture_here"] (defScope s_lw_order) := ⟨rfl, rfl, rfl, by decide +kernel, rfl, by decide +kernel, by decide +kernel⟩
theorem bd_lw_order {K : PySem.W.Frag} {f : Addr} {fd : FuncData} (F : FunD K "_law_order" "_law_order" (defArgs s_lw_order) (defBody s_lw_order) (defScope s_lw_order) [] [] f fd) : Binds K fd ["_law_picture_here"] [] := FunD.bindsN F fun _ _ _ _ _ _ us hl => match us, hl with | [_], _ => rfl
abbrev s_lw_one_less : Stmt := top 65
theorem sc_lw_one_less : FnScope ["_law_picture_here", "_law_colours", "_law_counts_here", "_law_used_here", "_law_cell", "_law_gone", "_law_others", "_law_ways", "_law_heir", "_law_row"] ["_law_picture_here", "_law_colours"] (defScope s_lw_one_less) := ⟨rfl, rfl, rfl, by decide +kernel, rfl, by decide +kernel, by decide +kernel⟩
theorem bd_lw_one_less {K : PySem.W.Frag} {f : Addr} {fd : FuncData} (F : FunD K "_law_one_less" "_law_one_less" (defArgs s_lw_one_less) (defBody s_lw_one_less) (defScope s_lw_one_less) [] [] f fd) : Binds K fd ["_law_picture_here", "_law_colours"] [] := FunD.bindsN F fun _ _ _ _ _ _ us hl => match us, hl with | [_, _], _ => rfl
abbrev s_lw_counts_good : Stmt := top 66
theorem sc_lw_counts_good : FnScope ["_law_picture_here", "_law_found", "_law_number"] ["_law_picture_here"] (defScope s_lw_counts_good) := ⟨rfl, rfl, rfl, by decide +kernel, rfl, by decide +kernel, by decide +kernel⟩
theorem bd_lw_counts_good {K : PySem.W.Frag} {f : Addr} {fd : FuncData} (F : FunD K "_law_counts_good" "_law_counts_good" (defArgs s_lw_counts_good) (defBody s_lw_counts_good) (defScope s_lw_counts_good) [] [] f fd) : Binds K fd ["_law_picture_here"] [] := FunD.bindsN F fun _ _ _ _ _ _ us hl => match us, hl with | [_], _ => rfl
abbrev s_lw_ordered_good : Stmt := top 67
theorem sc_lw_ordered_good : FnScope ["_law_picture_here", "_law_colours", "_law_palette", "_law_order_here", "_law_due", "_law_cell", "_law_row", "_law_found"] ["_law_picture_here", "_law_colours", "_law_palette"] (defScope s_lw_ordered_good) := ⟨rfl, rfl, rfl, by decide +kernel, rfl, by decide +kernel, by decide +kernel⟩
theorem bd_lw_ordered_good {K : PySem.W.Frag} {f : Addr} {fd : FuncData} (F : FunD K "_law_ordered_good" "_law_ordered_good" (defArgs s_lw_ordered_good) (defBody s_lw_ordered_good) (defScope s_lw_ordered_good) [] [] f fd) : Binds K fd ["_law_picture_here", "_law_colours", "_law_palette"] [] := FunD.bindsN F fun _ _ _ _ _ _ us hl => match us, hl with | [_, _, _], _ => rfl
abbrev s_lw_beside_good : Stmt := top 68
theorem sc_lw_beside_good : FnScope ["_law_picture_here", "_law_colours", "_law_first", "_law_handed", "_law_rows", "_law_some", "_law_told", "_law_fresh", "_law_k", "_law_colour_here", "_law_palette", "_law_own_here", "_law_beside", "_law_due"] ["_law_picture_here", "_law_colours"] (defScope s_lw_beside_good) := ⟨rfl, rfl, rfl, by decide +kernel, rfl, by decide +kernel, by decide +kernel⟩
theorem bd_lw_beside_good {K : PySem.W.Frag} {f : Addr} {fd : FuncData} (F : FunD K "_law_beside_good" "_law_beside_good" (defArgs s_lw_beside_good) (defBody s_lw_beside_good) (defScope s_lw_beside_good) [] [] f fd) : Binds K fd ["_law_picture_here", "_law_colours"] [] := FunD.bindsN F fun _ _ _ _ _ _ us hl => match us, hl with | [_, _], _ => rfl
abbrev s_lw_all_fewer : Stmt := top 69
theorem sc_lw_all_fewer : FnScope ["_law_picture_here", "_law_colours", "_law_palette", "_law_turn", "_law_due", "_law_many", "_law_ahead", "_law_handed", "_law_found"] ["_law_picture_here", "_law_colours", "_law_palette", "_law_turn"] (defScope s_lw_all_fewer) := ⟨rfl, rfl, rfl, by decide +kernel, rfl, by decide +kernel, by decide +kernel⟩
theorem bd_lw_all_fewer {K : PySem.W.Frag} {f : Addr} {fd : FuncData} (F : FunD K "_law_all_fewer" "_law_all_fewer" (defArgs s_lw_all_fewer) (defBody s_lw_all_fewer) (defScope s_lw_all_fewer) [] [] f fd) : Binds K fd ["_law_picture_here", "_law_colours", "_law_palette", "_law_turn"] [] := FunD.bindsN F fun _ _ _ _ _ _ us hl => match us, hl with | [_, _, _, _], _ => rfl
abbrev s_lw_refused : Stmt := top 70
theorem sc_lw_refused : FnScope ["_law_way", "_law_picture_here", "_law_palette", "_law_many", "_law_e"] ["_law_way", "_law_picture_here", "_law_palette", "_law_many"] (defScope s_lw_refused) := ⟨rfl, rfl, rfl, by decide +kernel, rfl, by decide +kernel, by decide +kernel⟩
theorem bd_lw_refused {K : PySem.W.Frag} {f : Addr} {fd : FuncData} (F : FunD K "_law_refused" "_law_refused" (defArgs s_lw_refused) (defBody s_lw_refused) (defScope s_lw_refused) [] [] f fd) : Binds K fd ["_law_way", "_law_picture_here", "_law_palette", "_law_many"] [] := FunD.bindsN F fun _ _ _ _ _ _ us hl => match us, hl with | [_, _, _, _], _ => rfl
abbrev s_law : Stmt := top 71
theorem sc_law : FnScope ["_law_script", "_law_number", "_law_pool_here", "_law_many", "_law_picture_here", "_law_colours", "_law_palette", "_law_handed", "_law_more", "_law_odd", "_law_bad", "_law_size_here", "_law_way", "_law_most", "_law_row", "_law_few", "_law_colour_here", "_law_again"] ["_law_script"] (defScope s_law) := ⟨rfl, rfl, rfl, by decide +kernel, rfl, by decide +kernel, by decide +kernel⟩
theorem bd_law {K : PySem.W.Frag} {f : Addr} {fd : FuncData} (F : FunD K "law" "law" (defArgs s_law) (defBody s_law) (defScope s_law) [] [] f fd) : Binds K fd ["_law_script"] [] := FunD.bindsN F fun _ _ _ _ _ _ us hl => match us, hl with | [_], _ => rfl
/-! ### what the top has written -/
/-- the addresses of the classes -/
structure Ad where
  pal : Addr
  pic : Addr
  siz : Addr
  noc : Addr
  fol : Addr
structure Txt (K : PySem.W.Frag) (mg : Str → Option Value) (a : Ad) : Prop where
  b_isinstance : mg "isinstance" = none
  b_int : mg "int" = none
  b_bool : mg "bool" = none
  b_list : mg "list" = none
  b_tuple : mg "tuple" = none
  b_len : mg "len" = none
  b_all : mg "all" = none
  b_any : mg "any" = none
  b_sorted : mg "sorted" = none
  b_enumerate : mg "enumerate" = none
  b_min : mg "min" = none
  b_max : mg "max" = none
  b_sum : mg "sum" = none
  b_zip : mg "zip" = none
  b_range : mg "range" = none
  b_ValueError : mg "ValueError" = none
  k_MOST_SIDE : ∃ t, mg "MOST_SIDE" = some (.int 24 t)
  k_MOST_CELL : ∃ t, mg "MOST_CELL" = some (.int 15 t)
  k_MOST_SHARE : ∃ t, mg "MOST_SHARE" = some (.int 255 t)
  k_MOST_COLOURS : ∃ t, mg "MOST_COLOURS" = some (.int 16 t)
  g_Palette : mg "Palette" = some (.ref a.pal)
  g_BadPicture : mg "BadPicture" = some (.ref a.pic)
  g_BadSize : mg "BadSize" = some (.ref a.siz)
  g_NoColour : mg "NoColour" = some (.ref a.noc)
  g_FolioError : mg "FolioError" = some (.ref a.fol)
  x_BadPicture : XF K a.pic
  x_BadSize : XF K a.siz
  x_NoColour : XF K a.noc
  m_BadPicture : PySem.W.exmOne K (.ref a.pic) (.ref a.fol) = some true
  m_BadSize : PySem.W.exmOne K (.ref a.siz) (.ref a.fol) = some true
  m_NoColour : PySem.W.exmOne K (.ref a.noc) (.ref a.fol) = some true
  cl : Cls K a.pal
  nS : NoAttr K a.pal "shades"
  ins : C8.InsC K a.pal
def DefAt (K : PySem.W.Frag) (mg : Str → Option Value) (x : Str) (st : Stmt) : Prop := ∃ f fd, FunD K x x (defArgs st) (defBody st) (defScope st) [] [] f fd ∧ mg x = some (.ref f)
def MethAt (K : PySem.W.Frag) (C : Addr) (m qual : Str) (st : Stmt) : Prop := ∃ f fd, FunD K m qual (defArgs st) (defBody st) (defScope st) [] [] f fd ∧ Meth K C m f
section
variable {P : Program} {w : World} {K : PySem.W.Frag} {mg : Str → Option Value} {base : Heap}
theorem cal_of {CX : CXT} {x : Str} {st : Stmt} {N ps : List Str} {k : Nat} {sp : Sp} (D : DefAt K mg x st) (hb : ∀ {f : Addr} {fd : FuncData}, FunD K x x (defArgs st) (defBody st) (defScope st) [] [] f fd → Binds K fd ps []) (S : FnScope N ps (defScope st))
    (len : ∀ vs H Q E, sp vs H Q E → vs.length = ps.length)
    (hbody : ∀ (f : Addr) (cdv : Value) (A : Around) (outer : List Env) (s : Shared) (H : Hp) (vs : List V) (Q : VK) (E : XK), Room k (A.deeper (envOfC x (defScope st) s.heap.objs.size f cdv)) → sp vs H Q E →
      ∃ t, PSs (cxOf CX P w K mg base N x (defScope st) f cdv A outer s H E) (defBody st) t ∧ t { nx := fun _ H' => Q .non H', rt := Q } (start N vs) H) : Cal P w K mg base CX (k + 1) x ps sp := by
  obtain ⟨f, fd, F, g⟩ := D
  exact ⟨f, fd, F.ok S len (hbody f), g, F.kp, hb F⟩
theorem mth_of {C : Addr} {m qual : Str} {st : Stmt} {N ps : List Str} {k : Nat} {sp : Sp} (c : Cls K C) (D : MethAt K C m qual st) (hb : ∀ {f : Addr} {fd : FuncData}, FunD K m qual (defArgs st) (defBody st) (defScope st) [] [] f fd → Binds K fd ps []) (S : FnScope N ps (defScope st))
    (len : ∀ vs H Q E, sp vs H Q E → vs.length = ps.length)
    (hbody : ∀ (f : Addr) (cdv : Value) (A : Around) (outer : List Env) (s : Shared) (H : Hp) (vs : List V) (Q : VK) (E : XK), Room k (A.deeper (envOfC qual (defScope st) s.heap.objs.size f cdv)) → sp vs H Q E →
      ∃ t, PSs (cxOf CX0 P w K mg base N qual (defScope st) f cdv A outer s H E) (defBody st) t ∧ t { nx := fun _ H' => Q .non H', rt := Q } (start N vs) H) : Mth P w K mg base C (k + 1) m ps sp := by
  obtain ⟨f, fd, F, g⟩ := D
  exact ⟨c, f, fd, F.ok S len (hbody f), g, hb F⟩
end
end C19
set_option Elab.async false
set_option linter.all false
set_option maxRecDepth 100000
set_option maxHeartbeats 4000000
/-! what evaluates to what: further words beside Evl's -/
namespace C19
open PySem PySem.Spec PyProof.Rows L2 Evl
section
variable {K : PySem.W.Frag} {σ : L2.St} {H H' : Hp} {ta tb tc te tx tl : TE} {t u : TT} {x y z v : V} {r : R2} {D : Ends} {tu tw tz : TS}
/-! ### any value with what is known of it -/
def Ep (te : TE) (σ : L2.St) (H : Hp) (P : V → Hp → Prop) : Prop := ∀ H1, Ex H H1 → ∀ Q : VK, (∀ v H2, Ex H1 H2 → P v H2 → Q v H2) → te σ H1 Q
theorem Ep.mono {P : V → Hp → Prop} (e : Ex H H') (h : Ep te σ H P) : Ep te σ H' P := fun H1 a Q q => h H1 (e.trans a) Q q
theorem Ep.use {P : V → Hp → Prop} {Q : VK} (h : Ep te σ H P) (k : ∀ v H1, Ex H H1 → P v H1 → Q v H1) : te σ H Q := h H (Ex.refl H) Q k
theorem ev_use {Q : VK} (h : Ev te σ H v) (k : ∀ H1, Ex H H1 → Q v H1) : te σ H Q := h H (Ex.refl H) Q k
theorem el_use {xs : List V} {Q : VK} (h : EvL te σ H xs) (k : ∀ p H1, H p = none → Ex H H1 → H1 p = some (.lst xs) → Q (.ref p) H1) : te σ H Q := h H (Ex.refl H) Q k
theorem et_use {b : Bool} {Q : Bool → Hp → Prop} (h : EvT t σ H b) (k : ∀ H1, Ex H H1 → Q b H1) : t σ H Q := h H (Ex.refl H) Q k
theorem ep_ev (h : Ev te σ H v) : Ep te σ H fun u _ => u = v := fun H1 e Q q => h H1 e Q fun H2 e2 => q v H2 e2 rfl
theorem s_set {i : Nat} {P : V → Hp → Prop} (h : Ep te σ H P) (k : ∀ v H1, Ex H H1 → P v H1 → D.nx (σ.set i (some v)) H1) : tAsg te (gName i) D σ H := h H (Ex.refl H) _ k
theorem q_set {i : Nat} {P : V → Hp → Prop} (h : Ep te σ H P) (k : ∀ v H1, Ex H H1 → P v H1 → tz D (σ.set i (some v)) H1) : tSeq (tAsg te (gName i)) tz D σ H := h H (Ex.refl H) _ k
theorem s_retP {P : V → Hp → Prop} (h : Ep te σ H P) (k : ∀ v H1, Ex H H1 → P v H1 → D.rt v H1) : tRet te D σ H := h H (Ex.refl H) _ k
theorem q_dropP {P : V → Hp → Prop} (h : Ep te σ H P) (k : ∀ v H1, Ex H H1 → P v H1 → tz D σ H1) : tSeq (tDrop te) tz D σ H := h H (Ex.refl H) _ k
theorem ev_at {v w : V} (h : Ev te σ H v) (e : v = w) : Ev te σ H w := e ▸ h
theorem et_at {a b : Bool} (h : EvT t σ H a) (e : a = b) : EvT t σ H b := e ▸ h

/-! ### comparisons -/
theorem ev_chainLe {i j k : Int} (h1 : Ev ta σ H (.int i)) (h2 : Ev tb σ H (.int j)) (h3 : Ev tc σ H (.int k)) :
    Ev (tChain (rI0 fun i j => .bl (decide (i ≤ j))) (rI0 fun i j => .bl (decide (i ≤ j))) ta tb tc) σ H (.bl (decide (i ≤ j) && decide (j ≤ k))) := fun H1 e Q q =>
  h1 H1 e _ fun H2 e2 => h2 H2 (e.trans e2) _ fun H3 e3 => ⟨i, j, rfl, rfl, decide (i ≤ j), rfl, by
    by_cases c : i ≤ j
    · rw [decide_eq_true c, Bool.true_and] at q
      rw [decide_eq_true c]
      exact iteT (h3 H3 ((e.trans e2).trans e3) _ fun H4 e4 => ⟨j, k, rfl, rfl, q H4 ((e2.trans e3).trans e4)⟩)
    · rw [decide_eq_false c, Bool.false_and] at q
      rw [decide_eq_false c]
      exact iteF (q H3 (e2.trans e3))⟩
theorem et_chainLe {i j k : Int} (h1 : Ev ta σ H (.int i)) (h2 : Ev tb σ H (.int j)) (h3 : Ev tc σ H (.int k)) :
    EvT (tTest (tChain (rI0 fun i j => .bl (decide (i ≤ j))) (rI0 fun i j => .bl (decide (i ≤ j))) ta tb tc)) σ H (decide (i ≤ j) && decide (j ≤ k)) := et_test (ev_chainLe h1 h2 h3)
/-- len of a list or tuple of data -/
theorem ev_lenA {p : Addr} {xs : List V} (ha : Ev ta σ H (.ref p)) (h : SqL K H p xs ∨ SqT K H p xs) :
    Ev (tCB (fun vs H Q => ∃ p ys, vs = [V.ref p] ∧ (SqL K H p ys ∨ SqT K H p ys) ∧ Q (.int ys.length) H) (tCons ta tNil)) σ H (.int ((xs.length : Nat) : Int)) := fun H1 e Q q =>
  ha H1 e _ fun H2 e2 => ⟨p, xs, rfl, h.imp (ex_l (e.trans e2)) (ex_t (e.trans e2)), q H2 e2⟩
theorem ev_lenL {xs : List V} (ha : EvL ta σ H xs) :
    Ev (tCB (fun vs H Q => ∃ p ys, vs = [V.ref p] ∧ (SqL K H p ys ∨ SqT K H p ys) ∧ Q (.int ys.length) H) (tCons ta tNil)) σ H (.int ((xs.length : Nat) : Int)) := fun H1 e Q q =>
  ha H1 e _ fun p H2 _ e2 h2 => ⟨p, xs, rfl, .inl (sq_of h2), q H2 e2⟩
/-! ### sums, all, any, max, min over new lists -/
theorem ev_allL {bs : List Bool} (h : EvL tl σ H (bs.map V.bl)) : Ev (tCB (rAll K) (tCons tl tNil)) σ H (.bl (bs.all id)) := fun H1 e Q q => h H1 e _ fun p H2 _ e2 h2 => ⟨p, bs, rfl, sq_of h2, q H2 e2⟩
theorem ev_anyL {bs : List Bool} (h : EvL tl σ H (bs.map V.bl)) : Ev (tCB (rAny K) (tCons tl tNil)) σ H (.bl (bs.any id)) := fun H1 e Q q => h H1 e _ fun p H2 _ e2 h2 => ⟨p, bs, rfl, sq_of h2, q H2 e2⟩
theorem ev_sumL {ns : List Int} (h : EvL tl σ H (ns.map V.int)) : Ev (tCB (rSum K) (tCons tl tNil)) σ H (.int ns.sum) := fun H1 e Q q => h H1 e _ fun p H2 _ e2 h2 => ⟨p, ns, rfl, sq_of h2, q H2 e2⟩
/-- a call -/
theorem ep_call {sp : Sp} {E : XK} {tA : TA} {vs : List V} {P : V → Hp → Prop} (h : EvA tA σ H vs) (hs : ∀ H1, Ex H H1 → ∀ Q : VK, (∀ v H2, Ex H1 H2 → P v H2 → Q v H2) → sp vs H1 Q E) : Ep (tCall sp [] E tA) σ H P := fun H1 e Q q =>
  h H1 e _ fun H2 e2 => by
    have k := hs H2 (e.trans e2) Q fun v H3 e3 p => q v H3 (e2.trans e3) p
    show sp (vs ++ []) H2 Q E
    rw [List.append_nil]
    exact k
theorem ev_callV {sp : Sp} {E : XK} {tA : TA} {vs : List V} (h : EvA tA σ H vs) (hs : ∀ H1, Ex H H1 → ∀ Q : VK, (∀ H2, Ex H1 H2 → Q v H2) → sp vs H1 Q E) : Ev (tCall sp [] E tA) σ H v := fun H1 e Q q =>
  ep_call (P := fun u _ => u = v) h (fun H2 e2 Q2 q2 => hs H2 e2 Q2 fun H3 e3 => q2 v H3 e3 rfl) H1 e Q fun u H2 e2 p => by
    rw [p]
    exact q H2 e2
end

/-! ### comprehensions over any walk -/
section
variable {K : PySem.W.Frag} {σ : L2.St} {H H1 : Hp} {te tl : TE} {tt : TT} {J : It} {n : Nat} {G : Hp → Prop} {Y : Nat → Hp → V → Hp → Prop} {g : TG} {vs : List Nat} {τ : Nat → L2.St} {b : Nat → Bool}
theorem cw_ex {f : Nat → Bool} {v : Nat → V} {Dl : Addr} {i : Nat} {H2 H3 : Hp} (p : Cw H1 f v Dl i H2) (e : Ex H2 H3) : Cw H1 f v Dl i H3 := ⟨p.1, p.2.1.trans e, e _ _ p.2.2⟩
/-- the turn's target: the slots are τ i behind it -/
def Aims (Y : Nat → Hp → V → Hp → Prop) (g : TG) (σ : L2.St) (vs : List Nat) (τ : Nat → L2.St) (n : Nat) (H1 : Hp) : Prop :=
  ∀ i x H2 H3, i < n → Ex H1 H2 → Y i H2 x H3 → Ex H2 H3 ∧ ∀ Kn : L2.St → Hp → Prop, Kn (τ i) H3 → g x (wipe σ vs) H3 Kn
theorem lc_det_core (w : Walk J n G Y) (hn : n ≤ 40000) (v : Nat → V) (hG : ∀ H2, Ex H1 H2 → G H2) (ha : Aims Y g σ vs τ n H1) (hw : ∀ i, i < n → wipe (τ i) vs = wipe σ vs)
    (ht : ∀ i H2, i < n → Ex H1 H2 → EvT tt (τ i) H2 (b i)) (he : ∀ i H2, i < n → b i = true → Ex H1 H2 → Ev te (τ i) H2 (v i)) {Q : VK} (q : ∀ p H2, H1 p = none → Ex H1 H2 → H2 p = some (.lst (given n b v)) → Q (.ref p) H2) :
    ∀ D, H1 D = none → ∃ W : Nat → Nat → Hp → Prop, (∃ m, W 0 m (upd H1 D (.lst []))) ∧ ∀ i m H, W i m H →
      (J.stop i H ∧ Q (.ref D) H) ∨ (J.go i H ∧ ∃ Nx : Hp → Prop, (∀ H', Nx H' → ∃ m', m' < m ∧ W (i + 1) m' H') ∧ ∀ x H', J.yld i H x H' → g x (wipe σ vs) H' fun σ2 H2 => wipe σ2 vs = wipe σ vs ∧ tt σ2 H2 fun b H3 =>
        if b = true then te σ2 H3 fun y H4 => ∃ acc, H4 D = some (.lst acc) ∧ acc.length < sizeLine ∧ Nx (upd H4 D (.lst (acc ++ [y]))) else Nx H3) := fun D hD =>
  lc_it (Qd := Q (.ref D)) w (Cw H1 b v D) ⟨hD, Ex.new hD, upd_same⟩ (fun i H2 _ p => hG H2 p.2.1)
    (fun i x H2 H3 hi p y => (ha i x H2 H3 hi p.2.1 y).2 _ ⟨hw i hi, cw_turn (cw_ex p (ha i x H2 H3 hi p.2.1 y).1) (by omega) (ht i H1 hi (Ex.refl H1)) fun hf => he i H1 hi hf (Ex.refl H1)⟩)
    (fun H2 p => q D H2 p.1 p.2.1 p.2.2)

/-! new things, one an item: mk tells what -/
structure Kids (mk : List V → HO) (H1 H2 : Hp) (p : Addr) (ps : List Addr) (xss : List (List V)) : Prop where
  lst : H2 p = some (.lst (ps.map V.ref))
  len : ps.length = xss.length
  at_ : ∀ (k : Nat) t xs, ps[k]? = some t → xss[k]? = some xs → H2 t = some (mk xs)
  new : ∀ t ∈ ps, H1 t = none
  nd : ps.Nodup
  out : p ∉ ps
def EvN (mk : List V → HO) (te : TE) (σ : L2.St) (H : Hp) (xss : List (List V)) : Prop := ∀ H1, Ex H H1 → ∀ Q : VK, (∀ p ps H2, H1 p = none → Ex H1 H2 → Kids mk H1 H2 p ps xss → Q (.ref p) H2) → te σ H1 Q
/-- one new thing -/
def EvO1 (mk : List V → HO) (te : TE) (σ : L2.St) (H : Hp) (xs : List V) : Prop := ∀ H1, Ex H H1 → ∀ Q : VK, (∀ p H2, H1 p = none → Ex H1 H2 → H2 p = some (mk xs) → Q (.ref p) H2) → te σ H1 Q
theorem eo_l {xs : List V} (h : EvL te σ H xs) : EvO1 HO.lst te σ H xs := h
theorem eo_u {xs : List V} (h : EvU te σ H xs) : EvO1 HO.tup te σ H xs := h
def givenL (n : Nat) (b : Nat → Bool) (f : Nat → List V) : List (List V) := ((List.range n).filter b).map f
theorem givenL_yes {f : Nat → List V} (h : b n = true) : givenL (n + 1) b f = givenL n b f ++ [f n] := by
  unfold givenL
  rw [List.range_succ, List.filter_append, List.map_append, List.filter_cons, if_pos h] <;> rfl
theorem givenL_no {f : Nat → List V} (h : b n = false) : givenL (n + 1) b f = givenL n b f := by
  unfold givenL
  rw [List.range_succ, List.filter_append, List.map_append, List.filter_cons, if_neg (by rw [h]; decide)]
  show _ ++ [] = _
  rw [List.append_nil]
theorem givenL_len (n : Nat) (b : Nat → Bool) (f : Nat → List V) : (givenL n b f).length ≤ n := by
  unfold givenL
  rw [List.length_map]
  have h := List.length_filter_le b (List.range n)
  rw [List.length_range] at h
  exact h
def Cn (mk : List V → HO) (H1 : Hp) (b : Nat → Bool) (f : Nat → List V) (D : Addr) (i : Nat) (H2 : Hp) : Prop := H1 D = none ∧ Ex H1 H2 ∧ ∃ ps, Kids mk H1 H2 D ps (givenL i b f)
theorem cn_ex {mk : List V → HO} {f : Nat → List V} {D : Addr} {i : Nat} {H2 H3 : Hp} (p : Cn mk H1 b f D i H2) (e : Ex H2 H3) : Cn mk H1 b f D i H3 := by
  obtain ⟨p1, p2, ps, k⟩ := p
  exact ⟨p1, p2.trans e, ps, e _ _ k.lst, k.len, fun j t xs h1 h2 => e _ _ (k.at_ j t xs h1 h2), k.new, k.nd, k.out⟩
theorem cn_turn {mk : List V → HO} {f : Nat → List V} {D : Addr} {i : Nat} {σ2 : L2.St} {H2 : Hp} (p : Cn mk H1 b f D i H2) (hi : i < 50000) (ht : EvT tt σ2 H1 (b i)) (he : b i = true → EvO1 mk te σ2 H1 (f i)) :
    tt σ2 H2 fun c H3 => if c = true then te σ2 H3 fun y H4 => ∃ acc, H4 D = some (.lst acc) ∧ acc.length < sizeLine ∧ Cn mk H1 b f D (i + 1) (upd H4 D (.lst (acc ++ [y]))) else Cn mk H1 b f D (i + 1) H3 := by
  refine ht H2 p.2.1 _ fun H3 e3 => ?_
  have p3 := cn_ex p e3
  cases hf : b i with
  | true =>
    refine iteT ?_
    refine he hf H3 p3.2.1 _ fun t H4 ht0 e4 h4 => ?_
    obtain ⟨p1, p2, ps, k⟩ := cn_ex p3 e4
    have k0 := p3.2.2
    have hl := k.len
    have hg := givenL_len i b f
    have nD : t ≠ D := fun z => by
      obtain ⟨ps0, k0⟩ := k0
      rw [z, k0.lst] at ht0
      cases ht0
    have tps : t ∉ ps := fun hm => by
      obtain ⟨j, hj, e⟩ := List.getElem_of_mem hm
      have hj2 : j < (givenL i b f).length := by omega
      obtain ⟨_, _, ps0, k0⟩ := p3
      have e1 : ps0 = ps := by
        have l1 := e4 _ _ k0.lst
        rw [k.lst] at l1
        have l2 := HO.lst.inj (Option.some.inj l1)
        exact (List.map_inj_right (f := V.ref) (fun a b h => V.ref.inj h)).mp l2.symm
      rw [e1] at k0
      have h5 := k0.at_ j t _ (by rw [List.getElem?_eq_getElem hj, e]) (List.getElem?_eq_getElem hj2)
      rw [ht0] at h5
      cases h5
    refine ⟨ps.map V.ref, k.lst, sz_lt (by rw [List.length_map]; omega), p1, fun a o ha => ?_, ps ++ [t], ?_, ?_, ?_, ?_, ?_, ?_⟩
    · rw [upd_ne (ne_of_none ha p1)]
      exact p2 a o ha
    · rw [upd_same, List.map_append]
      rfl
    · rw [givenL_yes hf, List.length_append, List.length_append, hl]
      rfl
    · intro j s xs h1 h2
      rw [givenL_yes hf] at h2
      by_cases hj : j < ps.length
      · rw [List.getElem?_append_left hj] at h1
        rw [List.getElem?_append_left (by omega)] at h2
        have sD : s ≠ D := fun z => k.out (z ▸ List.mem_of_getElem? h1)
        rw [upd_ne sD]
        exact k.at_ j s xs h1 h2
      · have e1 : j = ps.length := by
          have := (List.getElem?_eq_some_iff.mp h1).1
          rw [List.length_append, List.length_singleton] at this
          omega
        subst e1
        rw [List.getElem?_concat_length] at h1
        rw [hl, List.getElem?_concat_length] at h2
        cases h1
        cases h2
        rw [upd_ne nD]
        exact h4
    · intro s hs
      rcases List.mem_append.mp hs with hs | hs
      · exact k.new s hs
      · have e1 : s = t := by simpa using hs
        rw [e1]
        exact fresh_back p3.2.1 ht0
    · exact List.nodup_append.mpr ⟨k.nd, by simp, fun x hx y hy => by
        have e1 : y = t := by simpa using hy
        rw [e1]
        exact fun z => tps (z ▸ hx)⟩
    · intro hm
      rcases List.mem_append.mp hm with hm | hm
      · exact k.out hm
      · have e1 : D = t := by simpa using hm
        exact nD e1.symm
  | false =>
    refine iteF ?_
    obtain ⟨p1, p2, ps, k⟩ := p3
    refine ⟨p1, p2, ps, ?_⟩
    rw [givenL_no hf]
    exact k
theorem lc_new_core (mk : List V → HO) (w : Walk J n G Y) (hn : n ≤ 40000) (f : Nat → List V) (hG : ∀ H2, Ex H1 H2 → G H2) (ha : Aims Y g σ vs τ n H1) (hw : ∀ i, i < n → wipe (τ i) vs = wipe σ vs)
    (ht : ∀ i H2, i < n → Ex H1 H2 → EvT tt (τ i) H2 (b i)) (he : ∀ i H2, i < n → b i = true → Ex H1 H2 → EvO1 mk te (τ i) H2 (f i)) {Q : VK} (q : ∀ p ps H2, H1 p = none → Ex H1 H2 → Kids mk H1 H2 p ps (givenL n b f) → Q (.ref p) H2) :
    ∀ D, H1 D = none → ∃ W : Nat → Nat → Hp → Prop, (∃ m, W 0 m (upd H1 D (.lst []))) ∧ ∀ i m H, W i m H →
      (J.stop i H ∧ Q (.ref D) H) ∨ (J.go i H ∧ ∃ Nx : Hp → Prop, (∀ H', Nx H' → ∃ m', m' < m ∧ W (i + 1) m' H') ∧ ∀ x H', J.yld i H x H' → g x (wipe σ vs) H' fun σ2 H2 => wipe σ2 vs = wipe σ vs ∧ tt σ2 H2 fun b H3 =>
        if b = true then te σ2 H3 fun y H4 => ∃ acc, H4 D = some (.lst acc) ∧ acc.length < sizeLine ∧ Nx (upd H4 D (.lst (acc ++ [y]))) else Nx H3) := fun D hD =>
  lc_it (Qd := Q (.ref D)) w (Cn mk H1 b f D) ⟨hD, Ex.new hD, [], upd_same, rfl, fun _ _ _ h _ => (by simp at h), (fun _ h => nomatch h), List.nodup_nil, (fun h => nomatch h)⟩ (fun i H2 _ p => hG H2 p.2.1)
    (fun i x H2 H3 hi p y => (ha i x H2 H3 hi p.2.1 y).2 _ ⟨hw i hi, cn_turn (cn_ex p (ha i x H2 H3 hi p.2.1 y).1) (by omega) (ht i H1 hi (Ex.refl H1)) fun hf => he i H1 hi hf (Ex.refl H1)⟩)
    (fun H2 p => by
      obtain ⟨p1, p2, ps, k⟩ := p
      exact q D ps H2 p1 p2 k)

/-! ### the sources -/
theorem aims_list {xs : List V} {j : Nat} {H1 : Hp} (hj : ∀ i x, xs[i]? = some x → τ i = (wipe σ vs).set j (some x)) : Aims (YAt xs) (gName j) σ vs τ xs.length H1 := fun i x H2 H3 hi e y => by
  obtain ⟨rfl, hx⟩ := y
  refine ⟨Ex.refl _, fun Kn k => ?_⟩
  rw [hj i x hx] at k
  exact k
/-- over a list that stands: the turn's slots by its item -/
def stL (σ : L2.St) (vs : List Nat) (j : Nat) (xs : List V) (i : Nat) : L2.St := (wipe σ vs).set j xs[i]?
theorem stL_at {xs : List V} {i j : Nat} {x : V} (h : xs[i]? = some x) : stL σ vs j xs i = (wipe σ vs).set j (some x) := by
  unfold stL
  rw [h]
theorem given_map {xs : List V} {f : V → V} {d : V} : given xs.length (fun _ => true) (fun i => f (xs.getD i d)) = xs.map f := by
  unfold given
  rw [List.filter_eq_self.mpr (fun _ _ => rfl)]
  refine List.ext_getElem (by simp) fun i h1 h2 => ?_
  have h3 : i < xs.length := by simpa using h2
  rw [List.getElem_map, List.getElem_range, List.getElem_map, List.getD_eq_getElem?_getD, List.getElem?_eq_getElem h3, Option.getD_some]
theorem given_filt {xs : List V} {f : V → V} {p : V → Bool} {d : V} : given xs.length (fun i => p (xs.getD i d)) (fun i => f (xs.getD i d)) = (xs.filter p).map f := by
  have e : xs = (List.range xs.length).map fun i => xs.getD i d := by
    refine List.ext_getElem (by simp) fun i h1 h2 => ?_
    rw [List.getElem_map, List.getElem_range, List.getD_eq_getElem?_getD, List.getElem?_eq_getElem h1, Option.getD_some]
  unfold given
  conv => rhs; rw [e]
  rw [List.filter_map, List.map_map]
  rfl
theorem givenL_map {xs : List V} {f : V → List V} {d : V} : givenL xs.length (fun _ => true) (fun i => f (xs.getD i d)) = xs.map f := by
  unfold givenL
  rw [List.filter_eq_self.mpr (fun _ _ => rfl)]
  refine List.ext_getElem (by simp) fun i h1 h2 => ?_
  have h3 : i < xs.length := by simpa using h2
  rw [List.getElem_map, List.getElem_range, List.getElem_map, List.getD_eq_getElem?_getD, List.getElem?_eq_getElem h3, Option.getD_some]
theorem givenL_filt {xs : List V} {f : V → List V} {p : V → Bool} {d : V} : givenL xs.length (fun i => p (xs.getD i d)) (fun i => f (xs.getD i d)) = (xs.filter p).map f := by
  have e : xs = (List.range xs.length).map fun i => xs.getD i d := by
    refine List.ext_getElem (by simp) fun i h1 h2 => ?_
    rw [List.getElem_map, List.getElem_range, List.getD_eq_getElem?_getD, List.getElem?_eq_getElem h1, Option.getD_some]
  unfold givenL
  conv => rhs; rw [e]
  rw [List.filter_map, List.map_map]
  rfl
theorem getD_of {xs : List V} {i : Nat} {x d : V} (h : xs[i]? = some x) : xs.getD i d = x := by
  rw [List.getD_eq_getElem?_getD, h, Option.getD_some]
theorem at_lt {xs : List V} {i : Nat} (h : i < xs.length) : ∃ x, xs[i]? = some x ∧ x ∈ xs := ⟨xs[i], List.getElem?_eq_getElem h, List.getElem_mem h⟩
section
variable {a : Addr} {xs : List V} {j : Nat} {f : V → V} {F : V → List V} {p : V → Bool} {mk : List V → HO}
/-- [e for x in xs], [.. if t], e a known value: xs a list that stands -/
theorem el_map (h : Ev tl σ H (.ref a)) (hx : SqL K H a xs) (hz : xs.length ≤ 40000) (hw : ∀ x, wipe ((wipe σ vs).set j (some x)) vs = wipe σ vs)
    (he : ∀ x H1, x ∈ xs → Ex H H1 → Ev te ((wipe σ vs).set j (some x)) H1 (f x)) : EvL (tLc (iList K tl) (gName j) tYes te vs) σ H (xs.map f) := fun H0 e Q q => h H0 e _ fun H1 e1 => ⟨a, rfl, ⟨xs, ex_l (e.trans e1) hx⟩,
  lc_det_core (τ := stL σ vs j xs) (b := fun _ => true) walk_list hz (fun i => f (xs.getD i .non)) (fun H2 e2 => ex_l ((e.trans e1).trans e2) hx) (aims_list fun i x hi => stL_at hi) (fun i hi => by
      obtain ⟨x, h1, _⟩ := at_lt hi
      rw [stL_at h1]
      exact hw x) (fun _ H2 _ _ H3 _ Q q => q H3 (Ex.refl _)) (fun i H2 hi _ e2 => by
      obtain ⟨x, h1, h2⟩ := at_lt hi
      rw [stL_at h1, getD_of h1]
      exact he x H2 h2 ((e.trans e1).trans e2)) fun p H2 hp e2 h2 => q p H2 (fresh_back e1 hp) (e1.trans e2) (by rw [h2, given_map])⟩
theorem el_filt (h : Ev tl σ H (.ref a)) (hx : SqL K H a xs) (hz : xs.length ≤ 40000) (hw : ∀ x, wipe ((wipe σ vs).set j (some x)) vs = wipe σ vs)
    (ht : ∀ x H1, x ∈ xs → Ex H H1 → EvT tt ((wipe σ vs).set j (some x)) H1 (p x)) (he : ∀ x H1, x ∈ xs → p x = true → Ex H H1 → Ev te ((wipe σ vs).set j (some x)) H1 (f x)) : EvL (tLc (iList K tl) (gName j) tt te vs) σ H ((xs.filter p).map f) := fun H0 e Q q => h H0 e _ fun H1 e1 => ⟨a, rfl, ⟨xs, ex_l (e.trans e1) hx⟩,
  lc_det_core (τ := stL σ vs j xs) (b := fun i => p (xs.getD i .non)) walk_list hz (fun i => f (xs.getD i .non)) (fun H2 e2 => ex_l ((e.trans e1).trans e2) hx) (aims_list fun i x hi => stL_at hi) (fun i hi => by
      obtain ⟨x, h1, _⟩ := at_lt hi
      rw [stL_at h1]
      exact hw x) (fun i H2 hi e2 => by
      obtain ⟨x, h1, h2⟩ := at_lt hi
      rw [stL_at h1, getD_of h1]
      exact ht x H2 h2 ((e.trans e1).trans e2)) (fun i H2 hi hb e2 => by
      obtain ⟨x, h1, h2⟩ := at_lt hi
      rw [stL_at h1, getD_of h1]
      rw [getD_of h1] at hb
      exact he x H2 h2 hb ((e.trans e1).trans e2)) fun p H2 hp e2 h2 => q p H2 (fresh_back e1 hp) (e1.trans e2) (by rw [h2, given_filt])⟩
/-- the same, e a new thing each -/
theorem en_map (h : Ev tl σ H (.ref a)) (hx : SqL K H a xs) (hz : xs.length ≤ 40000) (hw : ∀ x, wipe ((wipe σ vs).set j (some x)) vs = wipe σ vs)
    (he : ∀ x H1, x ∈ xs → Ex H H1 → EvO1 mk te ((wipe σ vs).set j (some x)) H1 (F x)) : EvN mk (tLc (iList K tl) (gName j) tYes te vs) σ H (xs.map F) := fun H0 e Q q => h H0 e _ fun H1 e1 => ⟨a, rfl, ⟨xs, ex_l (e.trans e1) hx⟩,
  lc_new_core (τ := stL σ vs j xs) (b := fun _ => true) mk walk_list hz (fun i => F (xs.getD i .non)) (fun H2 e2 => ex_l ((e.trans e1).trans e2) hx) (aims_list fun i x hi => stL_at hi) (fun i hi => by
      obtain ⟨x, h1, _⟩ := at_lt hi
      rw [stL_at h1]
      exact hw x) (fun _ H2 _ _ H3 _ Q q => q H3 (Ex.refl _)) (fun i H2 hi _ e2 => by
      obtain ⟨x, h1, h2⟩ := at_lt hi
      rw [stL_at h1, getD_of h1]
      exact he x H2 h2 ((e.trans e1).trans e2)) fun p ps H2 hp e2 k => q p ps H2 (fresh_back e1 hp) (e1.trans e2) (by
      rw [givenL_map] at k
      exact ⟨k.lst, k.len, k.at_, fun t ht => fresh_back e1 (k.new t ht), k.nd, k.out⟩)⟩
theorem en_filt (h : Ev tl σ H (.ref a)) (hx : SqL K H a xs) (hz : xs.length ≤ 40000) (hw : ∀ x, wipe ((wipe σ vs).set j (some x)) vs = wipe σ vs)
    (ht : ∀ x H1, x ∈ xs → Ex H H1 → EvT tt ((wipe σ vs).set j (some x)) H1 (p x)) (he : ∀ x H1, x ∈ xs → p x = true → Ex H H1 → EvO1 mk te ((wipe σ vs).set j (some x)) H1 (F x)) : EvN mk (tLc (iList K tl) (gName j) tt te vs) σ H ((xs.filter p).map F) := fun H0 e Q q => h H0 e _ fun H1 e1 => ⟨a, rfl, ⟨xs, ex_l (e.trans e1) hx⟩,
  lc_new_core (τ := stL σ vs j xs) (b := fun i => p (xs.getD i .non)) mk walk_list hz (fun i => F (xs.getD i .non)) (fun H2 e2 => ex_l ((e.trans e1).trans e2) hx) (aims_list fun i x hi => stL_at hi) (fun i hi => by
      obtain ⟨x, h1, _⟩ := at_lt hi
      rw [stL_at h1]
      exact hw x) (fun i H2 hi e2 => by
      obtain ⟨x, h1, h2⟩ := at_lt hi
      rw [stL_at h1, getD_of h1]
      exact ht x H2 h2 ((e.trans e1).trans e2)) (fun i H2 hi hb e2 => by
      obtain ⟨x, h1, h2⟩ := at_lt hi
      rw [stL_at h1, getD_of h1]
      rw [getD_of h1] at hb
      exact he x H2 h2 hb ((e.trans e1).trans e2)) fun p ps H2 hp e2 k => q p ps H2 (fresh_back e1 hp) (e1.trans e2) (by
      rw [givenL_filt] at k
      exact ⟨k.lst, k.len, k.at_, fun t ht => fresh_back e1 (k.new t ht), k.nd, k.out⟩)⟩
/-- over a new list -/
theorem el_overL {vsx : List V} (h : EvL tl σ H xs) (k : ∀ p H1, Ex H H1 → H1 p = some (.lst xs) → EvL (tLc (iList K (tC (.ref p))) g tt te vs) σ H1 vsx) : EvL (tLc (iList K tl) g tt te vs) σ H vsx := fun H0 e Q q =>
  h H0 e _ fun p H1 _ e1 hp => k p H1 (e.trans e1) hp H1 (Ex.refl H1) Q fun r H2 hr e2 h2 => q r H2 (fresh_back e1 hr) (e1.trans e2) h2
end
/-! ranges, enumerate, zip -/
theorem aims_range {j n : Nat} {H1 : Hp} : Aims (YFn fun i => V.int (0 + i)) (gName j) σ vs (fun i => (wipe σ vs).set j (some (.int ((i : Nat) : Int)))) n H1 := fun i x H2 H3 hi e y => by
  obtain ⟨rfl, rfl⟩ := y
  refine ⟨Ex.refl _, fun Kn k => ?_⟩
  show Kn ((wipe σ vs).set j (some (.int (0 + ((i : Nat) : Int))))) H3
  rw [Int.zero_add]
  exact k
theorem aims_pair {f1 f2 : Nat → Option V} {i1 i2 : Nat} {H1 : Hp} (hj : ∀ i x y, f1 i = some x → f2 i = some y → τ i = ((wipe σ vs).set i1 (some x)).set i2 (some y)) : Aims (YPair f1 f2) (gTup K 2 (gCons (gName i1) (gCons (gName i2) gNil))) σ vs τ n H1 := fun i v H2 H3 hi e y => by
  obtain ⟨T, x, z, rfl, hT, rfl, h1, h2⟩ := y
  refine ⟨Ex.new hT, fun Kn k => ⟨T, [x, z], rfl, st_of upd_same, rfl, x, [z], rfl, z, [], rfl, rfl, ?_⟩⟩
  rw [hj i x z h1 h2] at k
  exact k
end
end C19
set_option Elab.async false
set_option linter.all false
set_option maxRecDepth 100000
set_option maxHeartbeats 4000000
namespace C19
open PySem PySem.Spec PyProof.Rows L2 Evl
section
variable {P : Program} {w : World} {K : PySem.W.Frag} {mg : Str → Option Value} {base : Heap} {a : Ad}
/-! ### is_among -/
theorem am_eq (d : PyData) (l m : Int) : (isIntB d && (!isBoolB d && amB d l m)) = amB d l m := by
  cases d <;> simp [isIntB, isBoolB, amB]
def spAmong (K : PySem.W.Frag) : Sp := fun vs H Q _ => ∃ (x : V) (d : PyData) (l m : Int), vs = [x, .int l, .int m] ∧ Dp K H x d ∧ ∀ H', Ex H H' → Q (.bl (amB d l m)) H'
theorem ok_is_among (T : Txt K mg a) (D : DefAt K mg "is_among" s_is_among) : Cal P w K mg base CX0 1 "is_among" ["thing", "least", "most"] (spAmong K) := by
  refine cal_of D bd_is_among sc_is_among (fun vs H Q E h => ?_) (fun f cdv A outer s H vs Q E hr h => ?_)
  · obtain ⟨x, d, l, m, rfl, _⟩ := h
    rfl
  · obtain ⟨x, d, l, m, rfl, hd, q⟩ := h
    refine ⟨_, (pss_one (ps_ret (pe_and (pe_callB (id := "isinstance") (call_isiK K) (by rfl) T.b_isinstance (by decide +kernel) (pa_cons (pv 0) (pa_cons (pe_bltn (v := .ty "int") (by rfl) T.b_int (by decide +kernel) rfl) pa_nil))) (pe_and (pe_not (pe_callB (id := "isinstance") (call_isiK K) (by rfl) T.b_isinstance (by decide +kernel) (pa_cons (pv 0) (pa_cons (pe_bltn (v := .ty "bool") (by rfl) T.b_bool (by decide +kernel) rfl) pa_nil)))) (pe_one (pe_chain op_le op_le (pv 1) (pv 0) (pv 2))))))), ?_⟩
    refine s_ret (v := .bl (isIntB d && (!isBoolB d && amB d l m))) (ev_andV (ev_isInt (ev_var rfl) hd) fun h1 => ev_andV (ev_notV (ev_isBool (ev_var rfl) hd)) fun h2 => ?_) fun H1 e1 => ?_
    · obtain ⟨i, rfl⟩ : ∃ i, d = .int i := by
        cases d <;> first | exact ⟨_, rfl⟩ | (cases h1; done) | (cases h2; done)
      cases hd
      exact ev_chainLe (ev_var rfl) (ev_var rfl) (ev_var rfl)
    · rw [am_eq]
      exact q H1 e1
theorem ev_among {σ : L2.St} {H : Hp} {tx tl tm : TE} {E : XK} {x : V} {d : PyData} {l m : Int} (h : Ev tx σ H x) (h1 : Ev tl σ H (.int l)) (h2 : Ev tm σ H (.int m)) (hd : Dp K H x d) :
    Ev (tCall (spAmong K) [] E (tCons tx (tCons tl (tCons tm tNil)))) σ H (.bl (amB d l m)) := ev_callV (ea_cons h (ea_cons h1 (ea_cons h2 ea_nil))) fun H1 e1 Q q => ⟨x, d, l, m, rfl, dpx hd e1, q⟩
/-! ### is_cell -/
def spCell (K : PySem.W.Frag) : Sp := fun vs H Q _ => ∃ (x : V) (d : PyData), vs = [x] ∧ Dp K H x d ∧ ∀ H', Ex H H' → Q (.bl (cellB d)) H'
theorem ok_is_cell (T : Txt K mg a) (D : DefAt K mg "is_cell" s_is_cell) (c_is_among : Cal P w K mg base CX0 1 "is_among" ["thing", "least", "most"] (spAmong K)) : Cal P w K mg base CX0 2 "is_cell" ["thing"] (spCell K) := by
  refine cal_of D bd_is_cell sc_is_cell (fun vs H Q E h => ?_) (fun f cdv A outer s H vs Q E hr h => ?_)
  · obtain ⟨x, d, rfl, _⟩ := h
    rfl
  · obtain ⟨x, d, rfl, hd, q⟩ := h
    refine ⟨_, (pss_one (ps_ret (pf_c c_is_among hr (by rfl) pass0 (pa_cons (pv 0) (pa_cons pe_int (pa_cons (pe_k T.k_MOST_CELL) pa_nil)))))), ?_⟩
    exact s_ret (ev_among (ev_var rfl) ev_c ev_c hd) q
theorem ev_cell {σ : L2.St} {H : Hp} {tx : TE} {E : XK} {x : V} {d : PyData} (h : Ev tx σ H x) (hd : Dp K H x d) : Ev (tCall (spCell K) [] E (tCons tx tNil)) σ H (.bl (cellB d)) :=
  ev_callV (ea_cons h ea_nil) fun H1 e1 Q q => ⟨x, d, rfl, dpx hd e1, q⟩
/-! ### are_cells -/
theorem dp_mem {H : Hp} : ∀ {xs : List V} {ds : List PyData} {x : V}, DpAll K H xs ds → x ∈ xs → ∃ d, d ∈ ds ∧ Dp K H x d
  | _, _, _, .cons h t, m => by
    rcases List.mem_cons.mp m with e | m
    · exact ⟨_, List.mem_cons_self, e ▸ h⟩
    · obtain ⟨d, h1, h2⟩ := dp_mem t m
      exact ⟨d, List.mem_cons_of_mem _ h1, h2⟩
/-- what is told of each item, as a list of truths: f of the data -/
theorem el_dps {σ : L2.St} {H : Hp} {tl te : TE} {p : Addr} {xs : List V} {ds : List PyData} {j : Nat} {vs : List Nat} {f : PyData → Bool} (h : Ev tl σ H (.ref p)) (hx : SqL K H p xs) (hd : DpAll K H xs ds) (hz : xs.length ≤ 40000) (hw : ∀ x, wipe ((wipe σ vs).set j (some x)) vs = wipe σ vs)
    (he : ∀ x d H1, x ∈ xs → d ∈ ds → Dp K H1 x d → Ex H H1 → Ev te ((wipe σ vs).set j (some x)) H1 (.bl (f d))) : EvL (tLc (iList K tl) (gName j) tYes te vs) σ H ((ds.map f).map V.bl) := fun H0 e Q q => h H0 e _ fun H1 e1 => ⟨p, rfl, ⟨xs, ex_l (e.trans e1) hx⟩,
  lc_det_core (τ := stL σ vs j xs) (b := fun _ => true) walk_list hz (fun i => .bl (f (ds.getD i .none))) (fun H2 e2 => ex_l ((e.trans e1).trans e2) hx) (aims_list fun i x hi => stL_at hi) (fun i hi => by
      obtain ⟨x, h1, _⟩ := at_lt hi
      rw [stL_at h1]
      exact hw x) (fun _ H2 _ _ H3 _ Q q => q H3 (Ex.refl _)) (fun i H2 hi _ e2 => by
      obtain ⟨x, h1, h2⟩ := at_lt hi
      obtain ⟨d, h3, h4⟩ := dp_at hd h1
      have e3 : ds.getD i .none = d := by rw [List.getD_eq_getElem?_getD, h3, Option.getD_some]
      rw [stL_at h1, e3]
      exact he x d H2 h2 (List.mem_of_getElem? h3) (dpx h4 ((e.trans e1).trans e2)) ((e.trans e1).trans e2)) fun p H2 hp e2 h2 => q p H2 (fresh_back e1 hp) (e1.trans e2) (by
      rw [h2, dp_len hd]
      congr 1
      unfold given
      rw [List.filter_eq_self.mpr (fun _ _ => rfl), List.map_map]
      refine congrArg _ (List.ext_getElem (by simp) fun i h1 h2 => ?_)
      have h3 : i < ds.length := by simpa using h2
      rw [List.getElem_map, List.getElem_range, List.getElem_map, List.getD_eq_getElem?_getD, List.getElem?_eq_getElem h3, Option.getD_some]
      rfl)⟩
def spCells (K : PySem.W.Frag) : Sp := fun vs H Q _ => ∃ (x : V) (d : PyData), vs = [x] ∧ Dp K H x d ∧ (∀ ds, d = .list ds → ds.length ≤ 40000) ∧ ∀ H', Ex H H' → Q (.bl (cellsB d)) H'
theorem ok_are_cells (T : Txt K mg a) (D : DefAt K mg "are_cells" s_are_cells) (c_is_cell : Cal P w K mg base CX0 2 "is_cell" ["thing"] (spCell K)) : Cal P w K mg base CX0 3 "are_cells" ["thing"] (spCells K) := by
  refine cal_of D bd_are_cells sc_are_cells (fun vs H Q E h => ?_) (fun f cdv A outer s H vs Q E hr h => ?_)
  · obtain ⟨x, d, rfl, _⟩ := h
    rfl
  · obtain ⟨x, d, rfl, hd, hz, q⟩ := h
    refine ⟨_, (pss_one (ps_ret (pe_and (pe_callB (id := "isinstance") (call_isiK K) (by rfl) T.b_isinstance (by decide +kernel) (pa_cons (pv 0) (pa_cons (pe_bltn (v := .ty "list") (by rfl) T.b_list (by decide +kernel) rfl) pa_nil))) (pe_one (pe_callB (id := "all") (cr_allK K rfl) (by rfl) T.b_all (by decide +kernel) (pa_cons (pe_lc (own := [("one", 1)]) (g := (gName 1)) rfl sc_are_cells.nd (pi_listK K (pv 0)) (blkOk_by (by kernel_rfl)) (fun _ _ _ _ _ => (pg_name (i := 1) sc_are_cells.nd rfl (by first | exact Or.inl rfl | exact Or.inr rfl))) (fun _ _ _ _ _ => pts_nil) (fun _ _ _ _ _ => (pf_c c_is_cell hr (by rfl) pass0 (pa_cons (pv 1) pa_nil)))) pa_nil)))))), ?_⟩
    refine s_ret (v := .bl (isListB d && cellsB d)) (ev_andV (ev_isList (ev_var rfl) hd) fun h1 => ?_) fun H1 e1 => ?_
    · obtain ⟨ds, rfl⟩ : ∃ ds, d = .list ds := by
        cases d <;> first | exact ⟨_, rfl⟩ | (cases h1; done)
      cases hd with
      | lst hs ha =>
        have e : cellsB (.list ds) = (ds.map cellB).all id := by
          rw [List.all_map]
          rfl
        rw [e]
        exact ev_allL (el_dps (ev_var rfl) hs ha (by rw [dp_len ha]; exact hz ds rfl) (fun x => rfl) fun x d H1 _ _ hd _ => ev_cell (ev_var rfl) hd)
    · have e : (isListB d && cellsB d) = cellsB d := by
        cases d <;> rfl
      rw [e]
      exact q H1 e1
end
end C19
set_option Elab.async false
set_option linter.all false
set_option maxRecDepth 100000
set_option maxHeartbeats 4000000
namespace C19
open PySem PySem.Spec PyProof.Rows L2 Evl
section
variable {P : Program} {w : World} {K : PySem.W.Frag} {mg : Str → Option Value} {base : Heap} {a : Ad}
/-! ### is_picture -/
def smB : PyData → Bool
  | .list ds => decide (ds.length ≤ 40000) && ds.all fun e => match e with
    | .list es => decide (es.length ≤ 40000)
    | _ => true
  | _ => true
/-- a thing, whether it is a picture -/
def ThP (K : PySem.W.Frag) (H : Hp) (x : V) (b : Bool) : Prop := (∃ d, Dp K H x d ∧ smB d = true ∧ picB d = b) ∨ (∃ p, x = .ref p ∧ H p = some (.dK []) ∧ b = false)
theorem thp_ex {H H' : Hp} {x : V} {b : Bool} (h : ThP K H x b) (e : Ex H H') : ThP K H' x b := by
  rcases h with ⟨d, h1, h2, h3⟩ | ⟨p, h1, h2, h3⟩
  · exact .inl ⟨d, dpx h1 e, h2, h3⟩
  · exact .inr ⟨p, h1, e _ _ h2, h3⟩
def spIsPic (K : PySem.W.Frag) : Sp := fun vs H Q _ => ∃ (x : V) (b : Bool), vs = [x] ∧ ThP K H x b ∧ ∀ H', Ex H H' → Q (.bl b) H'
theorem ev_cells {σ : L2.St} {H : Hp} {tx : TE} {E : XK} {x : V} {d : PyData} (h : Ev tx σ H x) (hd : Dp K H x d) (hz : ∀ ds, d = .list ds → ds.length ≤ 40000) : Ev (tCall (spCells K) [] E (tCons tx tNil)) σ H (.bl (cellsB d)) :=
  ev_callV (ea_cons h ea_nil) fun H1 e1 Q q => ⟨x, d, rfl, dpx hd e1, hz, q⟩
theorem ok_is_picture (T : Txt K mg a) (D : DefAt K mg "is_picture" s_is_picture) (c_are_cells : Cal P w K mg base CX0 3 "are_cells" ["thing"] (spCells K)) : Cal P w K mg base CX0 4 "is_picture" ["thing"] (spIsPic K) := by
  refine cal_of D bd_is_picture sc_is_picture (fun vs H Q E h => ?_) (fun f cdv A outer s H vs Q E hr h => ?_)
  · obtain ⟨x, b, rfl, _⟩ := h
    rfl
  · obtain ⟨x, b, rfl, hd, q⟩ := h
    refine ⟨_, (pss_cons (ps_if (PW.pt (pw_or (pt_not (pt_val (pe_callB (id := "isinstance") (call_isiK K) (by rfl) T.b_isinstance (by decide +kernel) (pa_cons (pv 0) (pa_cons (pe_bltn (v := .ty "list") (by rfl) T.b_list (by decide +kernel) rfl) pa_nil))))) (pw_or (pt_not (pt_chain op_le op_le pe_int (pe_callB (id := "len") (call_lenK K) (by rfl) T.b_len (by decide +kernel) (pa_cons (pv 0) pa_nil)) (pe_k T.k_MOST_SIDE))) (pw_or1 (pt_not (pt_val (pe_callB (id := "all") (cr_allK K rfl) (by rfl) T.b_all (by decide +kernel) (pa_cons (pe_lc (own := [("row", 1)]) (g := (gName 1)) rfl sc_is_picture.nd (pi_listK K (pv 0)) (blkOk_by (by kernel_rfl)) (fun _ _ _ _ _ => (pg_name (i := 1) sc_is_picture.nd rfl (by first | exact Or.inl rfl | exact Or.inr rfl))) (fun _ _ _ _ _ => pts_nil) (fun _ _ _ _ _ => (pf_c c_are_cells hr (by rfl) pass0 (pa_cons (pv 1) pa_nil)))) pa_nil)))))))) (pss_one (ps_ret pe_bl)) pss_nil)
      (pss_one (ps_ret (pe_and (pe_chain op_le op_le pe_int (pe_callB (id := "len") (call_lenK K) (by rfl) T.b_len (by decide +kernel) (pa_cons (pe_ix (ix_listK K) (pv 0) pe_int (fun _ _ => rfl)) pa_nil)) (pe_k T.k_MOST_SIDE)) (pe_one (pe_callB (id := "all") (cr_allK K rfl) (by rfl) T.b_all (by decide +kernel) (pa_cons (pe_lc (own := [("row", 1)]) (g := (gName 1)) rfl sc_is_picture.nd (pi_listK K (pv 0)) (blkOk_by (by kernel_rfl)) (fun _ _ _ _ _ => (pg_name (i := 1) sc_is_picture.nd rfl (by first | exact Or.inl rfl | exact Or.inr rfl))) (fun _ _ _ _ _ => pts_nil) (fun _ _ _ _ _ => (pe_cmpR op_eq (pe_callB (id := "len") (call_lenK K) (by rfl) T.b_len (by decide +kernel) (pa_cons (pv 1) pa_nil)) (pe_callB (id := "len") (call_lenK K) (by rfl) T.b_len (by decide +kernel) (pa_cons (pe_ix (ix_listK K) (pv 0) pe_int (fun _ _ => rfl)) pa_nil)) (nomark _)))) pa_nil))))))), ?_⟩
    rcases hd with ⟨d, hd, hs, rfl⟩ | ⟨p, rfl, hp, rfl⟩
    · cases d with
      | list ds =>
        cases hd with
        | lst hx ha =>
          rename_i p xs
          have hlen := dp_len ha
          obtain ⟨hs1, hs2⟩ := Bool.and_eq_true_iff.mp (show (decide (ds.length ≤ 40000) && ds.all fun e => match e with
            | .list es => decide (es.length ≤ 40000)
            | _ => true) = true from hs)
          have hz1 : xs.length ≤ 40000 := by rw [hlen]; exact of_decide_eq_true hs1
          have hz2 : ∀ d ∈ ds, ∀ es, d = .list es → es.length ≤ 40000 := fun d hd es e => by
            have := List.all_eq_true.mp hs2 d hd
            rw [e] at this
            exact of_decide_eq_true this
          have hev : Ev (tVar 0) (start ["thing", "row"] [.ref p]) H (.ref p) := ev_var rfl
          have e0 : ds.all cellsB = (ds.map cellsB).all id := by
            rw [List.all_map]
            rfl
          refine q_when (et_or (et_not (et_B (ev_isList hev (.lst hx ha)))) fun _ => et_or (et_not (et_chainLe ev_c (ev_lenA hev (.inl hx)) ev_c)) fun _ => et_not (et_B (ev_allL (el_dps hev hx ha hz1 (fun _ => rfl) fun x d H1 hm hmd hd _ => ev_cells (ev_var rfl) hd (hz2 d hmd))))) (fun hb H1 e1 => ?_) (fun hb H1 e1 => ?_)
          · refine s_ret ev_c fun H2 e2 => ?_
            have e2' : picB (.list ds) = false := by
              rw [← e0, hlen] at hb
              simp only [isListB, Bool.not_true, Bool.false_or, Bool.or_eq_true, Bool.not_eq_true', Bool.and_eq_false_iff, decide_eq_false_iff_not] at hb
              simp only [picB]
              rcases hb with (hb | hb) | hb
              · rw [decide_eq_false (by omega), Bool.false_and]
              · rw [show decide (ds.length ≤ 24) = false from decide_eq_false (by omega), Bool.false_and, Bool.and_false]
              · rw [hb, Bool.false_and, Bool.and_false, Bool.and_false]
            rw [e2'] at q
            exact q H2 (e1.trans e2)
          · rw [← e0, hlen] at hb
            simp only [isListB, Bool.not_true, Bool.false_or, Bool.or_eq_false_iff, Bool.not_eq_false', Bool.and_eq_true, decide_eq_true_eq] at hb
            obtain ⟨⟨hb1, hb2⟩, hb3⟩ := hb
            have hev1 := hev.mono e1
            have hx1 := ex_l e1 hx
            have ha1 := dpax ha e1
            have h0 : 0 < xs.length := by omega
            obtain ⟨d0, hd0, hD0⟩ := dp_at ha1 (List.getElem?_eq_getElem h0)
            have hall : ∀ d ∈ ds, ∃ es, d = .list es := fun d hd => by
              have := List.all_eq_true.mp hb3 d hd
              cases d <;> first | exact ⟨_, rfl⟩ | (cases this; done)
            obtain ⟨es0, rfl⟩ := hall d0 (List.mem_of_getElem? hd0)
            have ehead : headD ds = .list es0 := by
              unfold headD
              cases ds with
              | nil => simp at hd0
              | cons z r =>
                simp at hd0
                rw [hd0]
                rfl
            have hl0 : ∀ {σ : L2.St} {H2 : Hp}, Ex H1 H2 → Ev (tVar 0) σ H2 (.ref p) → Ev (tCB (fun vs H Q => ∃ p ys, vs = [V.ref p] ∧ (SqL K H p ys ∨ SqT K H p ys) ∧ Q (.int ys.length) H) (tCons (tOp (rIxL K) (tVar 0) (tC (.int 0))) tNil)) σ H2 (.int ((es0.length : Nat) : Int)) := fun {σ H2} e2 hv => by
              generalize hx0 : xs[0] = x0 at hD0
              have hD := dpx hD0 e2
              cases hD with
              | lst hs0 ha0 =>
                rename_i p0 xs0
                rw [← dp_len ha0]
                exact ev_lenA (ev_op hv ev_c (rv_ixL (ex_l e2 hx1) (atI_nat (j := 0) (by rw [List.getElem?_eq_getElem h0, hx0])))) (.inl hs0)
            have e3 : (ds.all fun d => decide (lenD d = lenD (headD ds))) = (ds.map fun d => decide (lenD d = lenD (headD ds))).all id := by
              rw [List.all_map]
              rfl
            have e4 : (decide ((1 : Int) ≤ ((es0.length : Nat) : Int)) && decide (((es0.length : Nat) : Int) ≤ 24) && (ds.map fun d => decide (lenD d = lenD (headD ds))).all id) = picB (.list ds) := by
              simp only [picB]
              rw [← e3, hb3, ehead]
              show _ = (decide (1 ≤ ds.length) && (decide (ds.length ≤ 24) && (true && (decide (1 ≤ es0.length) && (decide (es0.length ≤ 24) && _)))))
              rw [show decide (1 ≤ ds.length) = true from decide_eq_true (by omega), show decide (ds.length ≤ 24) = true from decide_eq_true (by omega), Bool.true_and, Bool.true_and, Bool.true_and, Bool.and_assoc]
              congr 1
              · exact decide_eq_decide.mpr (by omega)
              · congr 1
                exact decide_eq_decide.mpr (by omega)
            refine s_ret (v := .bl (decide ((1 : Int) ≤ ((es0.length : Nat) : Int)) && decide (((es0.length : Nat) : Int) ≤ 24) && (ds.map fun d => decide (lenD d = lenD (headD ds))).all id)) (ev_andV (ev_chainLe ev_c (hl0 (Ex.refl _) hev1) ev_c) fun _ => ev_allL (el_dps hev1 hx1 ha1 hz1 (fun _ => rfl) fun x d H2 hm hmd hd e2 => ?_)) fun H2 e2 => ?_
            · obtain ⟨es, rfl⟩ := hall d hmd
              cases hd with
              | lst hs2 ha2 =>
                rename_i p2 xs2
                have e5 : decide (V.int ((xs2.length : Nat) : Int) = V.int ((es0.length : Nat) : Int)) = decide (lenD (.list es) = lenD (headD ds)) := by
                  rw [dp_len ha2, ehead]
                  refine decide_eq_decide.mpr ⟨fun h => ?_, fun h => ?_⟩
                  · have := V.int.inj h
                    show es.length = es0.length
                    omega
                  · have h' : es.length = es0.length := h
                    rw [h']
                rw [← e5]
                exact ev_op (ev_lenA (ev_var rfl) (.inl hs2)) (hl0 e2 (ev_var rfl)) (rv_eq rfl)
            · rw [e4]
              exact q H2 (e1.trans e2)
      | _ =>
        refine q_when (b := true) (et_at (et_or (a := true) (b := true) (et_at (et_not (et_B (ev_isList (ev_var rfl) hd))) rfl) (fun z => nomatch z)) rfl) (fun hb H1 e1 => s_ret ev_c fun H2 e2 => q H2 (e1.trans e2)) (fun hb => nomatch hb)
    · have hti : EvT (tB (tCB (rIsi K) (tCons (tVar 0) (tCons (tC (.ty "list")) tNil)))) (start ["thing", "row"] [.ref p]) H false := et_B fun H1 e Q q => (show Ev (tVar 0) (start ["thing", "row"] [.ref p]) H (.ref p) from ev_var rfl) H1 e _ fun H2 e2 => ⟨.ref p, .ty "list", _, _, false, rfl, .ty "list", .base (.dK ((e.trans e2) _ _ hp)), kit_ty (by decide +kernel), q H2 e2⟩
      refine q_when (b := true) (et_at (et_or (a := true) (b := true) (et_at (et_not hti) rfl) (fun z => nomatch z)) rfl) (fun hb H1 e1 => s_ret ev_c fun H2 e2 => q H2 (e1.trans e2)) (fun hb => nomatch hb)
theorem ev_isPic {σ : L2.St} {H : Hp} {tx : TE} {E : XK} {x : V} {b : Bool} (h : Ev tx σ H x) (hd : ThP K H x b) : Ev (tCall (spIsPic K) [] E (tCons tx tNil)) σ H (.bl b) :=
  ev_callV (ea_cons h ea_nil) fun H1 e1 Q q => ⟨x, b, rfl, thp_ex hd e1, q⟩
/-! ### need_picture -/
def spNeed (K : PySem.W.Frag) (C : Addr) : Sp := fun vs H Q E => ∃ (x : V) (b : Bool), vs = [x] ∧ ThP K H x b ∧ (b = true → ∀ H', Ex H H' → Q .non H') ∧ (b = false → ∀ H', Ex H H' → E (.ref C) none H')
theorem ok_need_picture (T : Txt K mg a) (D : DefAt K mg "need_picture" s_need_picture) (c_is_picture : Cal P w K mg base CX0 4 "is_picture" ["thing"] (spIsPic K)) : Cal P w K mg base (L2N.CX P w) 5 "need_picture" ["picture"] (spNeed K a.pic) := by
  refine cal_of D bd_need_picture sc_need_picture (fun vs H Q E h => ?_) (fun f cdv A outer s H vs Q E hr h => ?_)
  · obtain ⟨x, b, rfl, _⟩ := h
    rfl
  · obtain ⟨x, b, rfl, hd, q1, q2⟩ := h
    refine ⟨_, (pss_one (ps_if (pt_not (pt_val (pf_c c_is_picture hr (by rfl) pass0 (pa_cons (pv 0) pa_nil)))) (pss_one (L2N.ps_raise rfl (L2N.takes_of rfl rfl rfl rfl) (L2N.pmk_own PySem.F.excBase_ValueError T.x_BadPicture.x T.g_BadPicture T.x_BadPicture.k (raises_own T.x_BadPicture.b T.x_BadPicture.t) rfl))) pss_nil)), ?_⟩
    refine s_when (et_not (et_B (ev_isPic (ev_var rfl) hd))) (fun hb H1 e1 => ?_) (fun hb H1 e1 => ?_)
    · exact q2 (by simpa using hb) H1 e1
    · exact q1 (by simpa using hb) H1 e1
end
end C19
set_option Elab.async false
set_option linter.all false
set_option maxRecDepth 100000
set_option maxHeartbeats 4000000
/-! pictures, colours, palettes as data and in the heap -/
namespace C19
open PySem PySem.Spec PyProof.Rows L2 Evl
def rowD (r : List Int) : PyData := .list (r.map .int)
def picD (p : Pic) : PyData := .list (p.map rowD)
def colD (c : Col) : PyData := .tuple [.int c.1, .int c.2.1, .int c.2.2]
def colsD (cs : List Col) : PyData := .list (cs.map colD)
def rowV (r : List Int) : List V := r.map V.int
def colV (c : Col) : List V := [.int c.1, .int c.2.1, .int c.2.2]
theorem eqv_row (a b : List Int) : PyData.eqv (rowD a) (rowD b) = decide (a = b) := PySem.W.Datum.eqv (α := List Int) a b
theorem eqv_pic (a b : Pic) : PyData.eqv (picD a) (picD b) = decide (a = b) := PySem.W.Datum.eqv (α := List (List Int)) a b
theorem eqv_int (a b : Int) : PyData.eqv (.int a) (.int b) = decide (a = b) := PySem.W.Datum.eqv (α := Int) a b
theorem eqv_col (a b : Col) : PyData.eqv (colD a) (colD b) = decide (a = b) := by
  have h := PySem.W.Datum.eqv (α := PySem.W.Tup Int) ⟨[a.1, a.2.1, a.2.2]⟩ ⟨[b.1, b.2.1, b.2.2]⟩
  refine (show PyData.eqv (colD a) (colD b) = _ from h).trans (decide_eq_decide.mpr ?_)
  obtain ⟨a1, a2, a3⟩ := a
  obtain ⟨b1, b2, b3⟩ := b
  simp
theorem eqv_cols : ∀ a b : List Col, PyData.eqv (colsD a) (colsD b) = decide (a = b) := by
  have h : ∀ a b : List Col, PyData.eqvAll (a.map colD) (b.map colD) = decide (a = b) := by
    intro a
    induction a with
    | nil =>
      intro b
      cases b <;> simp [PyData.eqvAll]
    | cons x xs ih =>
      intro b
      cases b with
      | nil => simp [PyData.eqvAll]
      | cons y ys =>
        rw [List.map_cons, List.map_cons, PyData.eqvAll, eqv_col, ih, ← Bool.decide_and]
        exact decide_eq_decide.mpr (by rw [List.cons.injEq])
  intro a b
  simp only [colsD, PyData.eqv]
  exact h a b
theorem lay_all {α : Type} {f : α → PyData} (h : ∀ a, (f a).canLay0 = true) : ∀ l : List α, PyData.canLayAll0 (l.map f) = true
  | [] => by simp [PyData.canLayAll0]
  | x :: l => by
    rw [List.map_cons, PyData.canLayAll0, h x, lay_all h l]
    rfl
theorem dep_all {α : Type} {f : α → PyData} {n : Nat} (h : ∀ a, (f a).depth ≤ n) : ∀ l : List α, PyData.depthAll (l.map f) ≤ n
  | [] => by simp [PyData.depthAll]
  | x :: l => by
    rw [List.map_cons, PyData.depthAll]
    exact Nat.max_le.mpr ⟨h x, dep_all h l⟩
theorem row_lay (r : List Int) : (rowD r).canLay0 = true := by
  simp only [rowD, PyData.canLay0]
  exact lay_all (fun _ => by simp [PyData.canLay0]) r
theorem row_dep (r : List Int) : (rowD r).depth ≤ 1 := by
  simp only [rowD, PyData.depth]
  have := dep_all (f := PyData.int) (n := 0) (fun _ => by simp [PyData.depth]) r
  omega
theorem shaped_row (r : List Int) : SeqAt.shaped (rowD r) = true := by
  have := row_dep r
  show ((rowD r).canLay0 && decide ((rowD r).depth ≤ 64)) = true
  rw [row_lay, decide_eq_true (by omega)]
  rfl
theorem shaped_pic (p : Pic) : SeqAt.shaped (picD p) = true := by
  have h1 : (picD p).canLay0 = true := by
    simp only [picD, PyData.canLay0]
    exact lay_all row_lay p
  have h2 : (picD p).depth ≤ 64 := by
    simp only [picD, PyData.depth]
    have := dep_all row_dep p
    omega
  show ((picD p).canLay0 && decide ((picD p).depth ≤ 64)) = true
  rw [h1, decide_eq_true h2]
  rfl
theorem col_lay (c : Col) : (colD c).canLay0 = true := by simp [colD, PyData.canLay0, PyData.canLayAll0]
theorem col_dep (c : Col) : (colD c).depth ≤ 1 := by simp [colD, PyData.depth, PyData.depthAll]
theorem shaped_col (c : Col) : SeqAt.shaped (colD c) = true := by
  have := col_dep c
  show ((colD c).canLay0 && decide ((colD c).depth ≤ 64)) = true
  rw [col_lay, decide_eq_true (by omega)]
  rfl
theorem shaped_cols (cs : List Col) : SeqAt.shaped (colsD cs) = true := by
  have h1 : (colsD cs).canLay0 = true := by
    simp only [colsD, PyData.canLay0]
    exact lay_all col_lay cs
  have h2 : (colsD cs).depth ≤ 64 := by
    simp only [colsD, PyData.depth]
    have := dep_all col_dep cs
    omega
  show ((colsD cs).canLay0 && decide ((colsD cs).depth ≤ 64)) = true
  rw [h1, decide_eq_true h2]
  rfl
/-! ### good pictures are pictures -/
theorem all_map {α β : Type} (f : α → β) (g : β → Bool) (l : List α) : (l.map f).all g = l.all fun a => g (f a) := by
  rw [List.all_map]
  rfl
theorem row_cells {p : Pic} (g : Good p) {r : List Int} (hr : r ∈ p) : cellsB (rowD r) = true := by
  show (r.map PyData.int).all cellB = true
  rw [all_map, List.all_eq_true]
  intro c hc
  have := g.cell r hr c hc
  show (decide (0 ≤ c) && decide (c ≤ 15)) = true
  rw [decide_eq_true this.1, decide_eq_true this.2]
  rfl
theorem Good.picB {p : Pic} (g : Good p) : picB (picD p) = true := by
  obtain ⟨w, hw1, hw2, hw⟩ := g.wide
  have hh := g.high
  have e1 : ∀ r ∈ p, lenD (rowD r) = w := fun r hr => by
    show (r.map PyData.int).length = w
    rw [List.length_map, hw r hr]
  have e2 : lenD (headD (p.map rowD)) = w := by
    cases p with
    | nil => simp at hh
    | cons r l => exact e1 r List.mem_cons_self
  simp only [C19.picB, picD]
  rw [e2, List.length_map, all_map, all_map, decide_eq_true hh.1, decide_eq_true hh.2, decide_eq_true hw1, decide_eq_true hw2]
  rw [List.all_eq_true.mpr fun r hr => row_cells g hr, List.all_eq_true.mpr fun r hr => decide_eq_true (e1 r hr)]
  rfl
theorem Good.smB {p : Pic} (g : Good p) : smB (picD p) = true := by
  simp only [C19.smB, picD]
  rw [List.length_map, all_map, decide_eq_true (by have := g.high; omega), Bool.true_and, List.all_eq_true]
  intro r hr
  show decide ((r.map PyData.int).length ≤ 40000) = true
  rw [List.length_map]
  exact decide_eq_true (by have := g.row hr; omega)
theorem Good.thp {K : PySem.W.Frag} {H : Hp} {x : V} {p : Pic} (g : Good p) (h : Dp K H x (picD p)) : ThP K H x true := .inl ⟨_, h, g.smB, g.picB⟩
/-! ### in the heap -/
section
variable {K : PySem.W.Frag} {H H' H0 H1 H2 : Hp}
theorem dpa_ints : ∀ r : List Int, DpAll K H (rowV r) (r.map .int)
  | [] => .nil
  | x :: r => .cons (.int x) (dpa_ints r)
theorem dpa_ints_inv : ∀ {r : List Int} {xs : List V}, DpAll K H xs (r.map .int) → xs = rowV r
  | [], _, h => by
    cases h
    rfl
  | x :: r, _, h => by
    cases h with
    | cons h1 h2 =>
      cases h1
      rw [dpa_ints_inv h2]
      rfl
theorem dp_row {a : Addr} {r : List Int} (h : SqL K H a (rowV r)) : Dp K H (.ref a) (rowD r) := .lst h (dpa_ints r)
theorem dp_row_inv {v : V} {r : List Int} (h : Dp K H v (rowD r)) : ∃ a, v = .ref a ∧ SqL K H a (rowV r) := by
  cases h with
  | lst h1 h2 =>
    rename_i a xs
    have e := dpa_ints_inv h2
    rw [e] at h1
    exact ⟨a, rfl, h1⟩
theorem dp_pic_inv {v : V} {p : Pic} (h : Dp K H v (picD p)) : ∃ a ts, v = .ref a ∧ SqL K H a ts ∧ DpAll K H ts (p.map rowD) := by
  cases h with
  | lst h1 h2 => exact ⟨_, _, rfl, h1, h2⟩
theorem dp_col {a : Addr} {c : Col} (h : SqT K H a (colV c)) : Dp K H (.ref a) (colD c) := .tup h (.cons (.int _) (.cons (.int _) (.cons (.int _) .nil)))
theorem dp_col_inv {v : V} {c : Col} (h : Dp K H v (colD c)) : ∃ a, v = .ref a ∧ SqT K H a (colV c) := by
  cases h with
  | tup h1 h2 =>
    rename_i a xs
    cases h2 with
    | cons x1 h2 =>
      cases x1
      cases h2 with
      | cons x2 h2 =>
        cases x2
        cases h2 with
        | cons x3 h2 =>
          cases x3
          cases h2
          exact ⟨a, rfl, h1⟩
theorem dp_cols_inv {v : V} {cs : List Col} (h : Dp K H v (colsD cs)) : ∃ a ts, v = .ref a ∧ SqL K H a ts ∧ DpAll K H ts (cs.map colD) := by
  cases h with
  | lst h1 h2 => exact ⟨_, _, rfl, h1, h2⟩
theorem dpa_rows {ps : List Addr} {rows : Pic} (hl : ps.length = rows.length) (h : ∀ (k : Nat) t r, ps[k]? = some t → rows[k]? = some r → H t = some (.lst (rowV r))) : DpAll K H (ps.map V.ref) (rows.map rowD) := by
  induction ps generalizing rows with
  | nil =>
    cases rows with
    | nil => exact .nil
    | cons r l => simp at hl
  | cons t ps ih =>
    cases rows with
    | nil => simp at hl
    | cons r l => exact .cons (dp_row (sq_of (h 0 t r rfl rfl))) (ih (by simpa using hl) fun k t' r' h1 h2 => h (k + 1) t' r' h1 h2)
/-- a new picture at p: its rows new too, each its own -/
def NewP (H0 H : Hp) (p : Addr) (rows : Pic) : Prop := H0 p = none ∧ ∃ ps, Kids HO.lst H0 H p ps (rows.map rowV)
theorem NewP.dp {p : Addr} {rows : Pic} (h : NewP H0 H p rows) : Dp K H (.ref p) (picD rows) := by
  obtain ⟨_, ps, k⟩ := h
  refine .lst (sq_of k.lst) (dpa_rows (by rw [k.len, List.length_map]) fun i t r h1 h2 => k.at_ i t (rowV r) h1 (by rw [List.getElem?_map, h2]; rfl))
theorem kids_ex {mk : List V → HO} {p : Addr} {ps : List Addr} {xss : List (List V)} (k : Kids mk H0 H p ps xss) (e0 : Ex H' H0) (e : Ex H H1) : Kids mk H' H1 p ps xss :=
  ⟨e _ _ k.lst, k.len, fun i t xs h1 h2 => e _ _ (k.at_ i t xs h1 h2), fun t ht => fresh_back e0 (k.new t ht), k.nd, k.out⟩
theorem NewP.ex {p : Addr} {rows : Pic} (h : NewP H0 H p rows) (e0 : Ex H' H0) (e : Ex H H1) : NewP H' H1 p rows := by
  obtain ⟨h0, ps, k⟩ := h
  exact ⟨fresh_back e0 h0, ps, kids_ex k e0 e⟩
/-- what evaluates to a new picture -/
def EvP (te : TE) (σ : L2.St) (H : Hp) (rows : Pic) : Prop := ∀ H1, Ex H H1 → ∀ Q : VK, (∀ p H2, Ex H1 H2 → NewP H1 H2 p rows → Q (.ref p) H2) → te σ H1 Q
theorem evp_of {te : TE} {σ : L2.St} {rows : Pic} (h : EvN HO.lst te σ H (rows.map rowV)) : EvP te σ H rows := fun H1 e Q q => h H1 e Q fun p ps H2 hp e2 k => q p H2 e2 ⟨hp, ps, k⟩
theorem EvP.mono {te : TE} {σ : L2.St} {rows : Pic} (e : Ex H H') (h : EvP te σ H rows) : EvP te σ H' rows := fun H1 a Q q => h H1 (e.trans a) Q q
def RetP (rows : Pic) (H : Hp) (Q : VK) : Prop := ∀ p H2, Ex H H2 → NewP H H2 p rows → Q (.ref p) H2
theorem RetP.go {rows : Pic} {Q : VK} (k : RetP rows H Q) (e : Ex H H1) {p : Addr} (e2 : Ex H1 H2) (h : NewP H1 H2 p rows) : Q (.ref p) H2 := k p H2 (e.trans e2) (h.ex e (Ex.refl _))
theorem s_retPic {te : TE} {σ : L2.St} {rows : Pic} {D : Ends} (h : EvP te σ H rows) (k : RetP rows H D.rt) : tRet te D σ H := h H (Ex.refl H) _ fun p H2 e n => k p H2 e n
theorem q_setPic {te : TE} {σ : L2.St} {rows : Pic} {D : Ends} {i : Nat} {tz : TS} (h : EvP te σ H rows) (k : ∀ p H1, Ex H H1 → NewP H H1 p rows → tz D (σ.set i (some (.ref p))) H1) : tSeq (tAsg te (gName i)) tz D σ H := h H (Ex.refl H) _ k
/-- a palette at v -/
def PalAt (C : Addr) (H : Hp) (K : PySem.W.Frag) (v : V) (cols : List Col) : Prop := ∃ p dx l xs, v = .ref p ∧ H p = some (.ins C dx [("shades", .ref l)]) ∧ H l = some (.lst xs) ∧ DpAll K H xs (cols.map colD)
theorem PalAt.ex {C : Addr} {v : V} {cols : List Col} (h : PalAt C H K v cols) (e : Ex H H') : PalAt C H' K v cols := by
  obtain ⟨p, dx, l, xs, h1, h2, h3, h4⟩ := h
  exact ⟨p, dx, l, xs, h1, e _ _ h2, e _ _ h3, dpax h4 e⟩
/-- a share, a colour -/
def ValidC (c : Col) : Prop := (0 ≤ c.1 ∧ c.1 ≤ 255) ∧ (0 ≤ c.2.1 ∧ c.2.1 ≤ 255) ∧ (0 ≤ c.2.2 ∧ c.2.2 ≤ 255)
structure GoodC (cols : List Col) : Prop where
  len : 1 ≤ cols.length ∧ cols.length ≤ 16
  val : ∀ c ∈ cols, ValidC c
  nd : cols.Nodup
theorem dpa_at {f : Col → PyData} {cols : List Col} {xs : List V} (h : DpAll K H xs (cols.map f)) {i : Nat} {c : Col} (hc : cols[i]? = some c) : ∃ x, xs[i]? = some x ∧ Dp K H x (f c) := by
  induction cols generalizing xs i with
  | nil => simp at hc
  | cons y l ih =>
    cases h with
    | cons h1 h2 =>
      cases i with
      | zero =>
        simp at hc
        subst hc
        exact ⟨_, rfl, h1⟩
      | succ i => exact ih (i := i) h2 (by simpa using hc)
theorem dpa_atG {α : Type} {f : α → PyData} {cols : List α} {xs : List V} (h : DpAll K H xs (cols.map f)) {i : Nat} {x : V} (hx : xs[i]? = some x) : ∃ c, cols[i]? = some c ∧ Dp K H x (f c) := by
  obtain ⟨d, h1, h2⟩ := dp_at h hx
  rw [List.getElem?_map] at h1
  obtain ⟨c, h3, rfl⟩ := Option.map_eq_some_iff.mp h1
  exact ⟨c, h3, h2⟩
theorem dpa_atH {α : Type} {f : α → PyData} {cols : List α} {xs : List V} (h : DpAll K H xs (cols.map f)) {i : Nat} {c : α} (hc : cols[i]? = some c) : ∃ x, xs[i]? = some x ∧ Dp K H x (f c) := by
  have hl := dp_len h
  rw [List.length_map] at hl
  have hi := (List.getElem?_eq_some_iff.mp hc).1
  have hx : xs[i]? = some xs[i] := List.getElem?_eq_getElem (by omega)
  obtain ⟨c', h1, h2⟩ := dpa_atG h hx
  rw [hc] at h1
  cases h1
  exact ⟨_, hx, h2⟩
theorem colAt_of {cols : List Col} {c : Int} (h : 0 ≤ c) (hl : c < cols.length) : cols[c.toNat]? = some (colAt cols c) := by
  unfold colAt
  rw [List.getD_eq_getElem?_getD, List.getElem?_eq_getElem (by omega)]
  rfl
end
end C19
set_option Elab.async false
set_option linter.all false
set_option maxRecDepth 100000
set_option maxHeartbeats 4000000
/-! comprehensions over lists of data, over enumerate, zip, range; loops over enumerate -/
namespace C19
open PySem PySem.Spec PyProof.Rows L2 Evl
section
variable {α : Type}
theorem list_rng (items : List α) (d : α) : items = (List.range items.length).map fun i => items.getD i d := by
  refine List.ext_getElem (by simp) fun i h1 h2 => ?_
  rw [List.getElem_map, List.getElem_range, List.getD_eq_getElem?_getD, List.getElem?_eq_getElem h1, Option.getD_some]
theorem filt_rng {β : Type} {items : List α} {p : α → Bool} {v : α → β} {d : α} : ((List.range items.length).filter fun i => p (items.getD i d)).map (fun i => v (items.getD i d)) = (items.filter p).map v := by
  conv => rhs; rw [list_rng items d]
  rw [List.filter_map, List.map_map]
  rfl
theorem getD_at {items : List α} {i : Nat} {x d : α} (h : items[i]? = some x) : items.getD i d = x := by
  rw [List.getD_eq_getElem?_getD, h, Option.getD_some]
end
section
variable {K : PySem.W.Frag} {σ : L2.St} {H H1 : Hp} {te tl : TE} {tt : TT} {ta : TA} {vs : List Nat} {a a2 : Addr} {xs ys : List V} {j i1 i2 : Nat}
/-! ### over a list of data -/
theorem el_data {α : Type} {f : α → PyData} {items : List α} {b : α → Bool} {v : α → V} (h : Ev tl σ H (.ref a)) (hx : SqL K H a xs) (hd : DpAll K H xs (items.map f)) (hz : items.length ≤ 40000) (hw : ∀ x, wipe ((wipe σ vs).set j (some x)) vs = wipe σ vs)
    (ht : ∀ x c H1, c ∈ items → Dp K H1 x (f c) → Ex H H1 → EvT tt ((wipe σ vs).set j (some x)) H1 (b c))
    (he : ∀ x c H1, c ∈ items → b c = true → Dp K H1 x (f c) → Ex H H1 → Ev te ((wipe σ vs).set j (some x)) H1 (v c)) : EvL (tLc (iList K tl) (gName j) tt te vs) σ H ((items.filter b).map v) := by
  have hl : xs.length = items.length := by
    have := dp_len hd
    rwa [List.length_map] at this
  cases hi0 : items with
  | nil =>
    rw [hi0] at hl
    have hl : xs.length = 0 := hl
    exact fun H0 e Q q => h H0 e _ fun H1 e1 => ⟨a, rfl, ⟨xs, ex_l (e.trans e1) hx⟩,
      lc_det_core (τ := stL σ vs j xs) (b := fun _ => true) walk_list (by omega) (fun i => .non) (fun H2 e2 => ex_l ((e.trans e1).trans e2) hx) (aims_list fun i x hi => stL_at hi) (fun i hi => by omega) (fun i _ hi => by omega) (fun i _ hi => by omega)
        fun p H2 hp e2 h2 => q p H2 (fresh_back e1 hp) (e1.trans e2) (by rw [h2, hl]; rfl)⟩
  | cons d0 _ =>
    rw [← hi0]
    exact fun H0 e Q q => h H0 e _ fun H1 e1 => ⟨a, rfl, ⟨xs, ex_l (e.trans e1) hx⟩,
      lc_det_core (τ := stL σ vs j xs) (b := fun i => b (items.getD i d0)) walk_list (by omega) (fun i => v (items.getD i d0)) (fun H2 e2 => ex_l ((e.trans e1).trans e2) hx) (aims_list fun i x hi => stL_at hi) (fun i hi => by
        obtain ⟨x, h1, _⟩ := at_lt hi
        rw [stL_at h1]
        exact hw x) (fun i H2 hi e2 => by
        obtain ⟨x, h1, h2⟩ := at_lt hi
        obtain ⟨c, h3, h4⟩ := dpa_atG hd h1
        rw [stL_at h1, getD_at h3]
        exact ht x c H2 (List.mem_of_getElem? h3) (dpx h4 ((e.trans e1).trans e2)) ((e.trans e1).trans e2)) (fun i H2 hi hb e2 => by
        obtain ⟨x, h1, h2⟩ := at_lt hi
        obtain ⟨c, h3, h4⟩ := dpa_atG hd h1
        rw [getD_at h3] at hb
        rw [stL_at h1, getD_at h3]
        exact he x c H2 (List.mem_of_getElem? h3) hb (dpx h4 ((e.trans e1).trans e2)) ((e.trans e1).trans e2)) fun p H2 hp e2 h2 => q p H2 (fresh_back e1 hp) (e1.trans e2) (by
          rw [h2, hl]
          unfold given
          rw [filt_rng])⟩
theorem et_yes {σ : L2.St} {H : Hp} : EvT tYes σ H true := fun H1 _ Q q => q H1 (Ex.refl _)
theorem filt_all {α : Type} (items : List α) : items.filter (fun _ => true) = items := List.filter_eq_self.mpr fun _ _ => rfl
theorem el_dataM {α : Type} {f : α → PyData} {items : List α} {v : α → V} (h : Ev tl σ H (.ref a)) (hx : SqL K H a xs) (hd : DpAll K H xs (items.map f)) (hz : items.length ≤ 40000) (hw : ∀ x, wipe ((wipe σ vs).set j (some x)) vs = wipe σ vs)
    (he : ∀ x c H1, c ∈ items → Dp K H1 x (f c) → Ex H H1 → Ev te ((wipe σ vs).set j (some x)) H1 (v c)) : EvL (tLc (iList K tl) (gName j) tYes te vs) σ H (items.map v) := by
  have k := el_data (b := fun _ => true) (v := v) (tt := tYes) h hx hd hz hw (fun _ _ _ _ _ _ => et_yes) fun x c H1 hc _ hd e => he x c H1 hc hd e
  rwa [filt_all] at k
theorem en_data {α : Type} {mk : List V → HO} {f : α → PyData} {items : List α} {b : α → Bool} {F : α → List V} (h : Ev tl σ H (.ref a)) (hx : SqL K H a xs) (hd : DpAll K H xs (items.map f)) (hz : items.length ≤ 40000) (hw : ∀ x, wipe ((wipe σ vs).set j (some x)) vs = wipe σ vs)
    (ht : ∀ x c H1, c ∈ items → Dp K H1 x (f c) → Ex H H1 → EvT tt ((wipe σ vs).set j (some x)) H1 (b c))
    (he : ∀ x c H1, c ∈ items → b c = true → Dp K H1 x (f c) → Ex H H1 → EvO1 mk te ((wipe σ vs).set j (some x)) H1 (F c)) : EvN mk (tLc (iList K tl) (gName j) tt te vs) σ H ((items.filter b).map F) := by
  have hl : xs.length = items.length := by
    have := dp_len hd
    rwa [List.length_map] at this
  cases hi0 : items with
  | nil =>
    rw [hi0] at hl
    have hl : xs.length = 0 := hl
    exact fun H0 e Q q => h H0 e _ fun H1 e1 => ⟨a, rfl, ⟨xs, ex_l (e.trans e1) hx⟩,
      lc_new_core (τ := stL σ vs j xs) (b := fun _ => true) mk walk_list (by omega) (fun i => []) (fun H2 e2 => ex_l ((e.trans e1).trans e2) hx) (aims_list fun i x hi => stL_at hi) (fun i hi => by omega) (fun i _ hi => by omega) (fun i _ hi => by omega)
        fun p ps H2 hp e2 k => q p ps H2 (fresh_back e1 hp) (e1.trans e2) (by
          rw [hl] at k
          exact kids_ex k e1 (Ex.refl _))⟩
  | cons d0 _ =>
    rw [← hi0]
    exact fun H0 e Q q => h H0 e _ fun H1 e1 => ⟨a, rfl, ⟨xs, ex_l (e.trans e1) hx⟩,
      lc_new_core (τ := stL σ vs j xs) (b := fun i => b (items.getD i d0)) mk walk_list (by omega) (fun i => F (items.getD i d0)) (fun H2 e2 => ex_l ((e.trans e1).trans e2) hx) (aims_list fun i x hi => stL_at hi) (fun i hi => by
        obtain ⟨x, h1, _⟩ := at_lt hi
        rw [stL_at h1]
        exact hw x) (fun i H2 hi e2 => by
        obtain ⟨x, h1, h2⟩ := at_lt hi
        obtain ⟨c, h3, h4⟩ := dpa_atG hd h1
        rw [stL_at h1, getD_at h3]
        exact ht x c H2 (List.mem_of_getElem? h3) (dpx h4 ((e.trans e1).trans e2)) ((e.trans e1).trans e2)) (fun i H2 hi hb e2 => by
        obtain ⟨x, h1, h2⟩ := at_lt hi
        obtain ⟨c, h3, h4⟩ := dpa_atG hd h1
        rw [getD_at h3] at hb
        rw [stL_at h1, getD_at h3]
        exact he x c H2 (List.mem_of_getElem? h3) hb (dpx h4 ((e.trans e1).trans e2)) ((e.trans e1).trans e2)) fun p ps H2 hp e2 k => q p ps H2 (fresh_back e1 hp) (e1.trans e2) (by
          rw [hl] at k
          unfold givenL at k
          rw [filt_rng] at k
          exact kids_ex k e1 (Ex.refl _))⟩
theorem en_dataM {α : Type} {mk : List V → HO} {f : α → PyData} {items : List α} {F : α → List V} (h : Ev tl σ H (.ref a)) (hx : SqL K H a xs) (hd : DpAll K H xs (items.map f)) (hz : items.length ≤ 40000) (hw : ∀ x, wipe ((wipe σ vs).set j (some x)) vs = wipe σ vs)
    (he : ∀ x c H1, c ∈ items → Dp K H1 x (f c) → Ex H H1 → EvO1 mk te ((wipe σ vs).set j (some x)) H1 (F c)) : EvN mk (tLc (iList K tl) (gName j) tYes te vs) σ H (items.map F) := by
  have k := en_data (b := fun _ => true) (F := F) (tt := tYes) h hx hd hz hw (fun _ _ _ _ _ _ => et_yes) fun x c H1 hc _ hd e => he x c H1 hc hd e
  rwa [filt_all] at k
/-! ### over enumerate -/
def stE (σ : L2.St) (vs : List Nat) (i1 i2 : Nat) (xs : List V) (i : Nat) : L2.St := ((wipe σ vs).set i1 (some (.int ((i : Nat) : Int)))).set i2 xs[i]?
theorem stE_at {i : Nat} {x : V} (h : xs[i]? = some x) : stE σ vs i1 i2 xs i = ((wipe σ vs).set i1 (some (.int ((i : Nat) : Int)))).set i2 (some x) := by
  unfold stE
  rw [h]
theorem el_enum {b : Nat → Bool} {v : Nat → V} (h : EvA ta σ H [.ref a]) (hx : SqL K H a xs) (hz : xs.length ≤ 40000) (hw : ∀ x y, wipe (((wipe σ vs).set i1 (some x)).set i2 (some y)) vs = wipe σ vs)
    (ht : ∀ i y H1, xs[i]? = some y → Ex H H1 → EvT tt (((wipe σ vs).set i1 (some (.int ((i : Nat) : Int)))).set i2 (some y)) H1 (b i))
    (he : ∀ i y H1, xs[i]? = some y → b i = true → Ex H H1 → Ev te (((wipe σ vs).set i1 (some (.int ((i : Nat) : Int)))).set i2 (some y)) H1 (v i)) :
    EvL (tLc (iEnum K ta) (gTup K 2 (gCons (gName i1) (gCons (gName i2) gNil))) tt te vs) σ H (given xs.length b v) := fun H0 e Q q => h H0 e _ fun H1 e1 => ⟨a, xs, rfl, ex_l (e.trans e1) hx,
  lc_det_core (τ := stE σ vs i1 i2 xs) (b := b) walk_enum hz v (fun H2 e2 => ex_l ((e.trans e1).trans e2) hx) (aims_pair fun i x y h1 h2 => by
      cases h1
      exact stE_at h2) (fun i hi => by
      obtain ⟨x, h1, _⟩ := at_lt hi
      rw [stE_at h1]
      exact hw _ x) (fun i H2 hi e2 => by
      obtain ⟨x, h1, _⟩ := at_lt hi
      rw [stE_at h1]
      exact ht i x H2 h1 ((e.trans e1).trans e2)) (fun i H2 hi hb e2 => by
      obtain ⟨x, h1, _⟩ := at_lt hi
      rw [stE_at h1]
      exact he i x H2 h1 hb ((e.trans e1).trans e2)) fun p H2 hp e2 h2 => q p H2 (fresh_back e1 hp) (e1.trans e2) h2⟩
theorem en_enum {mk : List V → HO} {b : Nat → Bool} {F : Nat → List V} (h : EvA ta σ H [.ref a]) (hx : SqL K H a xs) (hz : xs.length ≤ 40000) (hw : ∀ x y, wipe (((wipe σ vs).set i1 (some x)).set i2 (some y)) vs = wipe σ vs)
    (ht : ∀ i y H1, xs[i]? = some y → Ex H H1 → EvT tt (((wipe σ vs).set i1 (some (.int ((i : Nat) : Int)))).set i2 (some y)) H1 (b i))
    (he : ∀ i y H1, xs[i]? = some y → b i = true → Ex H H1 → EvO1 mk te (((wipe σ vs).set i1 (some (.int ((i : Nat) : Int)))).set i2 (some y)) H1 (F i)) :
    EvN mk (tLc (iEnum K ta) (gTup K 2 (gCons (gName i1) (gCons (gName i2) gNil))) tt te vs) σ H (givenL xs.length b F) := fun H0 e Q q => h H0 e _ fun H1 e1 => ⟨a, xs, rfl, ex_l (e.trans e1) hx,
  lc_new_core (τ := stE σ vs i1 i2 xs) (b := b) mk walk_enum hz F (fun H2 e2 => ex_l ((e.trans e1).trans e2) hx) (aims_pair fun i x y h1 h2 => by
      cases h1
      exact stE_at h2) (fun i hi => by
      obtain ⟨x, h1, _⟩ := at_lt hi
      rw [stE_at h1]
      exact hw _ x) (fun i H2 hi e2 => by
      obtain ⟨x, h1, _⟩ := at_lt hi
      rw [stE_at h1]
      exact ht i x H2 h1 ((e.trans e1).trans e2)) (fun i H2 hi hb e2 => by
      obtain ⟨x, h1, _⟩ := at_lt hi
      rw [stE_at h1]
      exact he i x H2 h1 hb ((e.trans e1).trans e2)) fun p ps H2 hp e2 k => q p ps H2 (fresh_back e1 hp) (e1.trans e2) (kids_ex k e1 (Ex.refl _))⟩
/-! ### over zip of two tuples -/
theorem walk_zipT {n : Nat} (hn : n = min xs.length ys.length) : Walk (RZ.ItzT K a a2) n (fun H => SqT K H a xs ∧ SqT K H a2 ys) (YPair (fun i => xs[i]?) (fun i => ys[i]?)) := by
  subst hn
  refine ⟨fun i _ hi q => ?_, fun _ q => ⟨xs, ys, q.1, q.2, by omega⟩, fun i H v H' _ q y => ?_⟩
  · have h1 : i < xs.length := by omega
    have h2 : i < ys.length := by omega
    exact ⟨xs, ys, xs[i], ys[i], q.1, q.2, by simp [h1], by simp [h2]⟩
  · obtain ⟨T, x, z, h1, h2, h3, h4, h5⟩ := y
    exact ⟨T, x, z, h1, h2, h3, h4 xs q.1, h5 ys q.2⟩
def stZ (σ : L2.St) (vs : List Nat) (i1 i2 : Nat) (xs ys : List V) (i : Nat) : L2.St := ((wipe σ vs).set i1 xs[i]?).set i2 ys[i]?
theorem stZ_at {i : Nat} {x y : V} (h : xs[i]? = some x) (h2 : ys[i]? = some y) : stZ σ vs i1 i2 xs ys i = ((wipe σ vs).set i1 (some x)).set i2 (some y) := by
  unfold stZ
  rw [h, h2]
theorem el_zipT {v : Nat → V} (h : EvA ta σ H [.ref a, .ref a2]) (hx : SqT K H a xs) (hy : SqT K H a2 ys) (hxy : xs.length = ys.length) (hz : xs.length ≤ 40000) (hw : ∀ x y, wipe (((wipe σ vs).set i1 (some x)).set i2 (some y)) vs = wipe σ vs)
    (he : ∀ i x y H1, xs[i]? = some x → ys[i]? = some y → Ex H H1 → Ev te (((wipe σ vs).set i1 (some x)).set i2 (some y)) H1 (v i)) :
    EvL (tLc (RZ.iZipA K ta) (gTup K 2 (gCons (gName i1) (gCons (gName i2) gNil))) tYes te vs) σ H (given xs.length (fun _ => true) v) := fun H0 e Q q => h H0 e _ fun H1 e1 => ⟨a, a2, xs, ys, rfl, .inr ⟨ex_t (e.trans e1) hx, ex_t (e.trans e1) hy,
  lc_det_core (τ := stZ σ vs i1 i2 xs ys) (b := fun _ => true) (walk_zipT (n := xs.length) (by omega)) hz v (fun H2 e2 => ⟨ex_t ((e.trans e1).trans e2) hx, ex_t ((e.trans e1).trans e2) hy⟩) (aims_pair fun i x y h1 h2 => stZ_at h1 h2) (fun i hi => by
      obtain ⟨x, h1, _⟩ := at_lt hi
      obtain ⟨y, h2, _⟩ := at_lt (xs := ys) (i := i) (by omega)
      rw [stZ_at h1 h2]
      exact hw x y) (fun _ H2 _ _ => et_yes) (fun i H2 hi hb e2 => by
      obtain ⟨x, h1, _⟩ := at_lt hi
      obtain ⟨y, h2, _⟩ := at_lt (xs := ys) (i := i) (by omega)
      rw [stZ_at h1 h2]
      exact he i x y H2 h1 h2 ((e.trans e1).trans e2)) fun p H2 hp e2 h2 => q p H2 (fresh_back e1 hp) (e1.trans e2) h2⟩⟩
/-! ### over a range, new things -/
theorem en_rng {mk : List V → HO} {n : Int} {b : Nat → Bool} {F : Nat → List V} (h : EvA ta σ H [.int n]) (hn : 0 ≤ n ∧ n ≤ 40000) (hw : ∀ x, wipe ((wipe σ vs).set j (some x)) vs = wipe σ vs)
    (ht : ∀ (i : Nat) H1, (i : Int) < n → Ex H H1 → EvT tt ((wipe σ vs).set j (some (.int ((i : Nat) : Int)))) H1 (b i))
    (he : ∀ (i : Nat) H1, (i : Int) < n → b i = true → Ex H H1 → EvO1 mk te ((wipe σ vs).set j (some (.int ((i : Nat) : Int)))) H1 (F i)) :
    EvN mk (tLc (iRng1 ta) (gName j) tt te vs) σ H (givenL n.toNat b F) := fun H0 e Q q => h H0 e _ fun H1 e1 => ⟨n, rfl, by omega, by omega,
  lc_new_core (b := b) mk (walk_range (lo := 0) (n := n.toNat)) (by omega) F (fun _ _ => True.intro) aims_range (fun i _ => hw _) (fun i H2 hi e2 => ht i H2 (by omega) ((e.trans e1).trans e2)) (fun i H2 hi hb e2 => he i H2 (by omega) hb ((e.trans e1).trans e2))
    fun p ps H2 hp e2 k => q p ps H2 (fresh_back e1 hp) (e1.trans e2) (kids_ex k e1 (Ex.refl _))⟩
/-- over a range, known values -/
theorem el_rng {n : Int} {b : Nat → Bool} {v : Nat → V} (h : EvA ta σ H [.int n]) (hn : 0 ≤ n ∧ n ≤ 40000) (hw : ∀ x, wipe ((wipe σ vs).set j (some x)) vs = wipe σ vs)
    (ht : ∀ (i : Nat) H1, (i : Int) < n → Ex H H1 → EvT tt ((wipe σ vs).set j (some (.int ((i : Nat) : Int)))) H1 (b i))
    (he : ∀ (i : Nat) H1, (i : Int) < n → b i = true → Ex H H1 → Ev te ((wipe σ vs).set j (some (.int ((i : Nat) : Int)))) H1 (v i)) :
    EvL (tLc (iRng1 ta) (gName j) tt te vs) σ H (given n.toNat b v) := fun H0 e Q q => h H0 e _ fun H1 e1 => ⟨n, rfl, by omega, by omega,
  lc_det_core (b := b) (walk_range (lo := 0) (n := n.toNat)) (by omega) v (fun _ _ => True.intro) aims_range (fun i _ => hw _) (fun i H2 hi e2 => ht i H2 (by omega) ((e.trans e1).trans e2)) (fun i H2 hi hb e2 => he i H2 (by omega) hb ((e.trans e1).trans e2))
    fun p H2 hp e2 h2 => q p H2 (fresh_back e1 hp) (e1.trans e2) h2⟩
/-! ### loops over enumerate -/
theorem s_forE {tu : TS} {D : Ends} (h : EvA ta σ H [.ref a]) (hx : SqL K H a xs) (Pv : Nat → L2.St → Hp → Prop) (h0 : ∀ H1, Ex H H1 → Pv 0 σ H1) (hl : ∀ i σ' H', i ≤ xs.length → Pv i σ' H' → SqL K H' a xs)
    (hs : ∀ i x σ' H' T, xs[i]? = some x → Pv i σ' H' → H' T = none → tu { D with nx := Pv (i + 1), ct := Pv (i + 1), bk := D.nx } ((σ'.set i1 (some (.int ((i : Nat) : Int)))).set i2 (some x)) (upd H' T (.tup [.int ((i : Nat) : Int), x])))
    (hd : ∀ σ' H', Pv xs.length σ' H' → D.nx σ' H') : tFor (iEnum K ta) (gTup K 2 (gCons (gName i1) (gCons (gName i2) gNil))) tu D σ H :=
  h H (Ex.refl H) _ fun H1 e => ⟨a, xs, rfl, ex_l e hx, for_it walk_enum Pv (h0 H1 e) hl (fun i v σ' H2 H3 hi p y => by
    obtain ⟨T, x, z, rfl, hT, rfl, h1, h2⟩ := y
    cases h1
    exact ⟨T, [.int ((i : Nat) : Int), z], rfl, st_of upd_same, rfl, _, [z], rfl, z, [], rfl, rfl, hs i z σ' H2 T h2 p hT⟩) hd⟩
theorem q_forE {tu tz : TS} {D : Ends} (h : EvA ta σ H [.ref a]) (hx : SqL K H a xs) (Pv : Nat → L2.St → Hp → Prop) (h0 : ∀ H1, Ex H H1 → Pv 0 σ H1) (hl : ∀ i σ' H', i ≤ xs.length → Pv i σ' H' → SqL K H' a xs)
    (hs : ∀ i x σ' H' T, xs[i]? = some x → Pv i σ' H' → H' T = none → tu { D with nx := Pv (i + 1), ct := Pv (i + 1), bk := tz D } ((σ'.set i1 (some (.int ((i : Nat) : Int)))).set i2 (some x)) (upd H' T (.tup [.int ((i : Nat) : Int), x])))
    (hd : ∀ σ' H', Pv xs.length σ' H' → tz D σ' H') : tSeq (tFor (iEnum K ta) (gTup K 2 (gCons (gName i1) (gCons (gName i2) gNil))) tu) tz D σ H :=
  s_forE (D := { D with nx := tz D }) h hx Pv h0 hl hs hd
end
end C19
set_option Elab.async false
set_option linter.all false
set_option maxRecDepth 100000
set_option maxHeartbeats 4000000
namespace C19
open PySem PySem.Spec PyProof.Rows L2 Evl
section
variable {P : Program} {w : World} {K : PySem.W.Frag} {mg : Str → Option Value} {base : Heap} {a : Ad}
/-! ### is_colour, need_colour -/
theorem el_mapT {σ : L2.St} {H : Hp} {tl te : TE} {vs : List Nat} {q : Addr} {xs : List V} {j : Nat} {f : V → V} (h : Ev tl σ H (.ref q)) (hx : SqT K H q xs) (hz : xs.length ≤ 40000) (hw : ∀ x, wipe ((wipe σ vs).set j (some x)) vs = wipe σ vs)
    (he : ∀ x H1, x ∈ xs → Ex H H1 → Ev te ((wipe σ vs).set j (some x)) H1 (f x)) : EvL (tLc (iTup K tl) (gName j) tYes te vs) σ H (xs.map f) := fun H0 e Q q' => h H0 e _ fun H1 e1 => ⟨q, rfl, ⟨xs, ex_t (e.trans e1) hx⟩,
  lc_det_core (τ := stL σ vs j xs) (b := fun _ => true) walk_tup hz (fun i => f (xs.getD i .non)) (fun H2 e2 => ex_t ((e.trans e1).trans e2) hx) (aims_list fun i x hi => stL_at hi) (fun i hi => by
      obtain ⟨x, h1, _⟩ := at_lt hi
      rw [stL_at h1]
      exact hw x) (fun _ H2 _ _ => et_yes) (fun i H2 hi _ e2 => by
      obtain ⟨x, h1, h2⟩ := at_lt hi
      rw [stL_at h1, getD_of h1]
      exact he x H2 h2 ((e.trans e1).trans e2)) fun p H2 hp e2 h2 => q' p H2 (fresh_back e1 hp) (e1.trans e2) (by rw [h2, given_map])⟩
def spIsCol (K : PySem.W.Frag) : Sp := fun vs H Q _ => ∃ (x : V) (c : Col), vs = [x] ∧ Dp K H x (colD c) ∧ ValidC c ∧ ∀ H', Ex H H' → Q (.bl true) H'
theorem ok_is_colour (T : Txt K mg a) (D : DefAt K mg "is_colour" s_is_colour) (c_is_among : Cal P w K mg base CX0 1 "is_among" ["thing", "least", "most"] (spAmong K)) : Cal P w K mg base CX0 2 "is_colour" ["thing"] (spIsCol K) := by
  refine cal_of D bd_is_colour sc_is_colour (fun vs H Q E h => ?_) (fun f cdv A outer s H vs Q E hr h => ?_)
  · obtain ⟨x, c, rfl, _⟩ := h
    rfl
  · obtain ⟨x, c, rfl, hd, hv, q⟩ := h
    obtain ⟨p, rfl, hp⟩ := dp_col_inv hd
    refine ⟨_, (pss_cons (ps_if (PW.pt (pw_or (pt_not (pt_val (pe_callB (id := "isinstance") (call_isiK K) (by rfl) T.b_isinstance (by decide +kernel) (pa_cons (pv 0) (pa_cons (pe_bltn (v := .ty "tuple") (by rfl) T.b_tuple (by decide +kernel) rfl) pa_nil))))) (pw_or1 (pt_cmpR op_ne (pe_callB (id := "len") (call_lenK K) (by rfl) T.b_len (by decide +kernel) (pa_cons (pv 0) pa_nil)) pe_int (nomark _))))) (pss_one (ps_ret pe_bl)) pss_nil)
      (pss_one (ps_ret (pe_callB (id := "all") (cr_allK K rfl) (by rfl) T.b_all (by decide +kernel) (pa_cons (pe_lc (own := [("share", 1)]) (g := (gName 1)) rfl sc_is_colour.nd (pi_tupK K (pv 0)) (blkOk_by (by kernel_rfl)) (fun _ _ _ _ _ => (pg_name (i := 1) sc_is_colour.nd rfl (by first | exact Or.inl rfl | exact Or.inr rfl))) (fun _ _ _ _ _ => pts_nil) (fun _ _ _ _ _ => (pf_c c_is_among hr (by rfl) pass0 (pa_cons (pv 1) (pa_cons pe_int (pa_cons (pe_k T.k_MOST_SHARE) pa_nil)))))) pa_nil))))), ?_⟩
    refine q_when (b := false) (et_at (et_or (a := false) (b := false) (et_at (et_not (et_B (ev_isTup (ev_var rfl) hd))) rfl) fun _ => et_at (et_test (ev_op (ev_lenA (ev_var rfl) (.inr hp)) ev_c (rv_ne rfl))) rfl) rfl) (fun hb => nomatch hb) (fun _ H1 e1 => ?_)
    have hp1 := ex_t e1 hp
    refine s_ret (v := .bl ([true, true, true].all id)) (ev_allL (bs := [true, true, true]) (el_mapT (f := fun _ => .bl true) (ev_var rfl) hp1 (show 3 ≤ 40000 by decide) (fun _ => rfl) fun x H2 hx e2 => ?_)) fun H2 e2 => q H2 (e1.trans e2)
    obtain ⟨i, rfl, hi⟩ : ∃ i : Int, x = .int i ∧ (0 ≤ i ∧ i ≤ 255) := by
      obtain ⟨v1, v2, v3⟩ := hv
      simp only [colV, List.mem_cons, List.not_mem_nil, or_false] at hx
      rcases hx with e | e | e
      · exact ⟨_, e, v1⟩
      · exact ⟨_, e, v2⟩
      · exact ⟨_, e, v3⟩
    refine ev_at (ev_among (d := .int i) (ev_var rfl) ev_c ev_c (.int i)) ?_
    show V.bl (decide (0 ≤ i) && decide (i ≤ 255)) = _
    rw [decide_eq_true hi.1, decide_eq_true hi.2]
    rfl
theorem ev_isCol {σ : L2.St} {H : Hp} {tx : TE} {E : XK} {x : V} {c : Col} (h : Ev tx σ H x) (hd : Dp K H x (colD c)) (hv : ValidC c) : Ev (tCall (spIsCol K) [] E (tCons tx tNil)) σ H (.bl true) :=
  ev_callV (ea_cons h ea_nil) fun H1 e1 Q q => ⟨x, c, rfl, dpx hd e1, hv, q⟩
def spNeedCol (K : PySem.W.Frag) : Sp := fun vs H Q _ => ∃ (x : V) (c : Col), vs = [x] ∧ Dp K H x (colD c) ∧ ValidC c ∧ ∀ H', Ex H H' → Q .non H'
theorem ok_need_colour (T : Txt K mg a) (D : DefAt K mg "need_colour" s_need_colour) (c_is_colour : Cal P w K mg base CX0 2 "is_colour" ["thing"] (spIsCol K)) : Cal P w K mg base CX0 3 "need_colour" ["thing"] (spNeedCol K) := by
  refine cal_of D bd_need_colour sc_need_colour (fun vs H Q E h => ?_) (fun f cdv A outer s H vs Q E hr h => ?_)
  · obtain ⟨x, c, rfl, _⟩ := h
    rfl
  · obtain ⟨x, c, rfl, hd, hv, q⟩ := h
    refine ⟨_, (pss_one (ps_if (pt_not (pt_val (pf_c c_is_colour hr (by rfl) pass0 (pa_cons (pv 0) pa_nil)))) (pss_one ps_never) pss_nil)), ?_⟩
    exact s_when (b := false) (et_at (et_not (et_B (ev_isCol (ev_var rfl) hd hv))) rfl) (fun hb => nomatch hb) fun _ H1 e1 => q H1 e1
theorem ev_needCol {σ : L2.St} {H : Hp} {tx : TE} {E : XK} {x : V} {c : Col} (h : Ev tx σ H x) (hd : Dp K H x (colD c)) (hv : ValidC c) : Ev (tCall (spNeedCol K) [] E (tCons tx tNil)) σ H .non :=
  ev_callV (ea_cons h ea_nil) fun H1 e1 Q q => ⟨x, c, rfl, dpx hd e1, hv, q⟩
/-! ### apart -/
def spApart (K : PySem.W.Frag) : Sp := fun vs H Q _ => ∃ (x y : V) (c d : Col), vs = [x, y] ∧ Dp K H x (colD c) ∧ Dp K H y (colD d) ∧ ValidC c ∧ ValidC d ∧ ∀ H', Ex H H' → Q (.int (dist c d)) H'
theorem ok_apart (T : Txt K mg a) (D : DefAt K mg "apart" s_apart) (c_need_colour : Cal P w K mg base CX0 3 "need_colour" ["thing"] (spNeedCol K)) : Cal P w K mg base CX0 4 "apart" ["one", "other"] (spApart K) := by
  refine cal_of D bd_apart sc_apart (fun vs H Q E h => ?_) (fun f cdv A outer s H vs Q E hr h => ?_)
  · obtain ⟨x, y, c, d, rfl, _⟩ := h
    rfl
  · obtain ⟨x, y, c, d, rfl, hc, hd, vc, vd, q⟩ := h
    refine ⟨_, (pss_cons (ps_expr (pf_c c_need_colour hr (by rfl) pass0 (pa_cons (pv 0) pa_nil)))
      (pss_cons (ps_expr (pf_c c_need_colour hr (by rfl) pass0 (pa_cons (pv 1) pa_nil)))
      (pss_one (ps_ret (pe_callB (id := "sum") (cr_sumK K rfl) (by rfl) T.b_sum (by decide +kernel) (pa_cons (pe_lc (own := [("left", 2), ("right", 3)]) rfl sc_apart.nd (pi_zipK K (by rfl) T.b_zip (pa_cons (pv 0) (pa_cons (pv 1) pa_nil))) (blkOk_by (by kernel_rfl)) (fun _ _ _ _ _ => (pg_tupK K (n := 2) rfl (pgs_cons (pg_name (i := 2) sc_apart.nd rfl (by first | exact Or.inl rfl | exact Or.inr rfl)) (pgs_cons (pg_name (i := 3) sc_apart.nd rfl (by first | exact Or.inl rfl | exact Or.inr rfl)) pgs_nil)))) (fun _ _ _ _ _ => pts_nil) (fun _ _ _ _ _ => (pe_op op_mul (pe_op op_sub (pv 2) (pv 3)) (pe_op op_sub (pv 2) (pv 3))))) pa_nil)))))), ?_⟩
    obtain ⟨c1, c2, c3⟩ := vc
    obtain ⟨d1, d2, d3⟩ := vd
    refine q_drop (ev_needCol (ev_var rfl) hc ⟨c1, c2, c3⟩) fun H1 e1 => q_drop (ev_needCol (ev_var rfl) (dpx hd e1) ⟨d1, d2, d3⟩) fun H2 e2 => ?_
    obtain ⟨p1, rfl, hp1⟩ := dp_col_inv (dpx hc (e1.trans e2))
    obtain ⟨p2, rfl, hp2⟩ := dp_col_inv (dpx hd (e1.trans e2))
    let ns : List Int := [(c.1 - d.1) * (c.1 - d.1), (c.2.1 - d.2.1) * (c.2.1 - d.2.1), (c.2.2 - d.2.2) * (c.2.2 - d.2.2)]
    refine s_ret (v := .int ns.sum) (ev_sumL (ns := ns) (fun H0 e Q q => el_zipT (v := fun i => .int (ns.getD i 0)) (ea_cons (ev_var rfl) (ea_cons (ev_var rfl) ea_nil)) hp1 hp2 rfl (show 3 ≤ 40000 by decide) (fun _ _ => rfl) (fun i x y H3 hx hy e3 => ?_) H0 e Q q)) fun H3 e3 => ?_
    · match i, hx, hy with
      | 0, hx, hy =>
        cases hx
        cases hy
        exact ev_op (ev_op (ev_var rfl) (ev_var rfl) rv_I0) (ev_op (ev_var rfl) (ev_var rfl) rv_I0) (rv_I (Or.inr (by omega)))
      | 1, hx, hy =>
        cases hx
        cases hy
        exact ev_op (ev_op (ev_var rfl) (ev_var rfl) rv_I0) (ev_op (ev_var rfl) (ev_var rfl) rv_I0) (rv_I (Or.inr (by omega)))
      | 2, hx, hy =>
        cases hx
        cases hy
        exact ev_op (ev_op (ev_var rfl) (ev_var rfl) rv_I0) (ev_op (ev_var rfl) (ev_var rfl) rv_I0) (rv_I (Or.inr (by omega)))
      | n + 3, hx, hy => simp [colV] at hx
    · have e : ns.sum = dist c d := by
        simp only [ns, dist, List.sum_cons, List.sum_nil]
        omega
      rw [e]
      exact q H3 ((e1.trans e2).trans e3)
theorem ev_apart {σ : L2.St} {H : Hp} {tx ty : TE} {E : XK} {x y : V} {c d : Col} (h : Ev tx σ H x) (h2 : Ev ty σ H y) (hc : Dp K H x (colD c)) (hd : Dp K H y (colD d)) (vc : ValidC c) (vd : ValidC d) : Ev (tCall (spApart K) [] E (tCons tx (tCons ty tNil))) σ H (.int (dist c d)) :=
  ev_callV (ea_cons h (ea_cons h2 ea_nil)) fun H1 e1 Q q => ⟨x, y, c, d, rfl, dpx hc e1, dpx hd e1, vc, vd, q⟩
end
end C19
set_option Elab.async false
set_option linter.all false
set_option maxRecDepth 100000
set_option maxHeartbeats 4000000
namespace C19
open PySem PySem.Spec PyProof.Rows L2 Evl
section
variable {P : Program} {w : World} {K : PySem.W.Frag} {mg : Str → Option Value} {base : Heap} {a : Ad}
/-! ### reading a palette's list -/
theorem ev_fld {σ : L2.St} {H : Hp} {ta : TE} {p C dx : Addr} {fs : List (Str × V)} {f : Str} {v : V} (h : Ev ta σ H (.ref p)) (hp : H p = some (.ins C dx fs)) (c : Cls K C) (n : NoAttr K C f) (l : fs.lookup f = some v) : Ev (tFld K ta f) σ H v := fun H1 e Q q =>
  h H1 e _ fun H2 e2 => ⟨p, C, dx, fs, v, rfl, e2 _ _ (e _ _ hp), c, n, l, q H2 e2⟩
structure PalX (C : Addr) (H : Hp) (p dx l : Addr) (xs : List V) : Prop where
  ins : H p = some (.ins C dx [("shades", .ref l)])
  lst : H l = some (.lst xs)
theorem PalX.ex {C p dx l : Addr} {H H' : Hp} {xs : List V} (h : PalX C H p dx l xs) (e : Ex H H') : PalX C H' p dx l xs := ⟨e _ _ h.ins, e _ _ h.lst⟩
theorem ev_shades (T : Txt K mg a) {σ : L2.St} {H : Hp} {ta : TE} {p dx l : Addr} {xs : List V} (h : Ev ta σ H (.ref p)) (hp : PalX a.pal H p dx l xs) : Ev (tFld K ta "shades") σ H (.ref l) :=
  ev_fld h hp.ins T.cl T.nS rfl
theorem el_listC {σ : L2.St} {H : Hp} {ta : TE} {p : Addr} {xs : List V} (ha : Ev ta σ H (.ref p)) (h : SqL K H p xs ∨ SqT K H p xs) :
    EvL (tCB (fun xs H Q => ∃ p ys, xs = [V.ref p] ∧ (SqL K H p ys ∨ SqT K H p ys) ∧ ∀ l, H l = none → Q (.ref l) (upd H l (.lst ys))) (tCons ta tNil)) σ H xs := fun H1 e Q q =>
  ha H1 e _ fun H2 e2 => ⟨p, xs, rfl, h.imp (ex_l (e.trans e2)) (ex_t (e.trans e2)), fun l hl => q l _ (fresh_back e2 hl) (e2.trans (Ex.new hl)) upd_same⟩
theorem dpa_take {H : Hp} {f : Col → PyData} : ∀ {cols : List Col} {xs : List V} (_ : DpAll K H xs (cols.map f)) (i : Nat), DpAll K H (xs.take i) ((cols.map f).take i)
  | _, _, _, 0 => by
    rw [List.take_zero, List.take_zero]
    exact .nil
  | [], _, h, i + 1 => by
    cases h
    exact .nil
  | c :: cols, _, h, i + 1 => by
    cases h with
    | cons h1 h2 => exact .cons h1 (dpa_take h2 i)
theorem ep_meth {C : Addr} {m : Str} {σ : L2.St} {H : Hp} {ta : TE} {tA : TA} {sp : Sp} {E : XK} {vs : List V} {p dx : Addr} {fs : List (Str × V)} {P : V → Hp → Prop} (h : Ev ta σ H (.ref p)) (hp : H p = some (.ins C dx fs)) (hl : fs.lookup m = none) (ha : EvA tA σ H vs)
    (hs : ∀ H1, Ex H H1 → ∀ Q : VK, (∀ v H2, Ex H1 H2 → P v H2 → Q v H2) → sp (.ref p :: vs) H1 Q E) : Ep (tMeth C m sp [] E ta tA) σ H P := fun H1 e Q q =>
  h H1 e _ fun H2 e2 => ⟨p, dx, fs, rfl, e2 _ _ (e _ _ hp), hl, ha H2 (e.trans e2) _ fun H3 e3 => by
    rw [List.append_nil]
    exact hs H3 ((e.trans e2).trans e3) Q fun v H4 e4 k => q v H4 ((e2.trans e3).trans e4) k⟩
theorem ev_meth {C : Addr} {m : Str} {σ : L2.St} {H : Hp} {ta : TE} {tA : TA} {sp : Sp} {E : XK} {vs : List V} {p dx : Addr} {fs : List (Str × V)} {v : V} (h : Ev ta σ H (.ref p)) (hp : H p = some (.ins C dx fs)) (hl : fs.lookup m = none) (ha : EvA tA σ H vs)
    (hs : ∀ H1, Ex H H1 → ∀ Q : VK, (∀ H2, Ex H1 H2 → Q v H2) → sp (.ref p :: vs) H1 Q E) : Ev (tMeth C m sp [] E ta tA) σ H v := fun H1 e Q q =>
  ep_meth (P := fun u _ => u = v) h hp hl ha (fun H2 e2 Q2 q2 => hs H2 e2 Q2 fun H3 e3 => q2 v H3 e3 rfl) H1 e Q fun u H2 e2 k => by
    rw [k]
    exact q H2 e2
theorem el_meth {C : Addr} {m : Str} {σ : L2.St} {H : Hp} {ta : TE} {tA : TA} {sp : Sp} {E : XK} {vs xs : List V} {p dx : Addr} {fs : List (Str × V)} (h : Ev ta σ H (.ref p)) (hp : H p = some (.ins C dx fs)) (hl : fs.lookup m = none) (ha : EvA tA σ H vs)
    (hs : ∀ H1, Ex H H1 → ∀ Q : VK, RetL xs H1 Q → sp (.ref p :: vs) H1 Q E) : EvL (tMeth C m sp [] E ta tA) σ H xs := fun H1 e Q q =>
  h H1 e _ fun H2 e2 => ⟨p, dx, fs, rfl, e2 _ _ (e _ _ hp), hl, ha H2 (e.trans e2) _ fun H3 e3 => by
    rw [List.append_nil]
    exact hs H3 ((e.trans e2).trans e3) Q fun r H4 hr e4 hl4 => q r H4 (fresh_back (e2.trans e3) hr) ((e2.trans e3).trans e4) hl4⟩
/-! ### the methods -/
def spCols (a : Ad) : Sp := fun vs H Q _ => ∃ p dx l xs, vs = [.ref p] ∧ PalX a.pal H p dx l xs ∧ RetL xs H Q
theorem ok_colours (T : Txt K mg a) (D : MethAt K a.pal "colours" "Palette.colours" s_Palette_colours) : Mth P w K mg base a.pal 1 "colours" ["self"] (spCols a) := by
  refine mth_of T.cl D bd_Palette_colours sc_Palette_colours (fun vs H Q E h => ?_) (fun f cdv A outer s H vs Q E hr h => ?_)
  · obtain ⟨p, dx, l, xs, rfl, _⟩ := h
    rfl
  · obtain ⟨p, dx, l, xs, rfl, hp, q⟩ := h
    refine ⟨_, (pss_one (ps_ret (pe_callTy (T := "list") (call_listK K) (by rfl) T.b_list (by decide +kernel) (pa_cons (pe_fldK K (pv 0) rfl) pa_nil)))), ?_⟩
    exact s_retL (el_listC (ev_shades T (ev_var rfl) hp) (.inl (sq_of hp.lst))) fun r H1 hr e hl => q r H1 hr e hl
def spMany (a : Ad) : Sp := fun vs H Q _ => ∃ p dx l xs, vs = [.ref p] ∧ PalX a.pal H p dx l xs ∧ RetV (.int ((xs.length : Nat) : Int)) H Q
theorem ok_many (T : Txt K mg a) (D : MethAt K a.pal "many" "Palette.many" s_Palette_many) : Mth P w K mg base a.pal 1 "many" ["self"] (spMany a) := by
  refine mth_of T.cl D bd_Palette_many sc_Palette_many (fun vs H Q E h => ?_) (fun f cdv A outer s H vs Q E hr h => ?_)
  · obtain ⟨p, dx, l, xs, rfl, _⟩ := h
    rfl
  · obtain ⟨p, dx, l, xs, rfl, hp, q⟩ := h
    refine ⟨_, (pss_one (ps_ret (pe_callB (id := "len") (call_lenK K) (by rfl) T.b_len (by decide +kernel) (pa_cons (pe_fldK K (pv 0) rfl) pa_nil)))), ?_⟩
    exact s_ret (ev_lenA (ev_shades T (ev_var rfl) hp) (.inl (sq_of hp.lst))) fun H1 e => q H1 e
def spColOf (a : Ad) : Sp := fun vs H Q _ => ∃ p dx l xs c v, vs = [.ref p, .int c] ∧ PalX a.pal H p dx l xs ∧ 0 ≤ c ∧ xs[c.toNat]? = some v ∧ RetV v H Q
theorem ok_colour_of (T : Txt K mg a) (D : MethAt K a.pal "colour_of" "Palette.colour_of" s_Palette_colour_of) (c_is_among : Cal P w K mg base CX0 1 "is_among" ["thing", "least", "most"] (spAmong K)) : Mth P w K mg base a.pal 2 "colour_of" ["self", "cell"] (spColOf a) := by
  refine mth_of T.cl D bd_Palette_colour_of sc_Palette_colour_of (fun vs H Q E h => ?_) (fun f cdv A outer s H vs Q E hr h => ?_)
  · obtain ⟨p, dx, l, xs, c, v, rfl, _⟩ := h
    rfl
  · obtain ⟨p, dx, l, xs, c, v, rfl, hp, h0, hv, q⟩ := h
    have hlt := (List.getElem?_eq_some_iff.mp hv).1
    refine ⟨_, (pss_cons (ps_if (pt_not (pt_val (pf_c c_is_among hr (by rfl) pass0 (pa_cons (pv 1) (pa_cons pe_int (pa_cons (pe_op op_sub (pe_callB (id := "len") (call_lenK K) (by rfl) T.b_len (by decide +kernel) (pa_cons (pe_fldK K (pv 0) rfl) pa_nil)) pe_int) pa_nil)))))) (pss_one ps_never) pss_nil)
      (pss_one (ps_ret (pe_ix (ix_listK K) (pe_fldK K (pv 0) rfl) (pv 1) (fun _ _ => rfl))))), ?_⟩
    refine q_when (b := false) (et_at (et_not (et_B (ev_among (d := .int c) (ev_var rfl) ev_c (ev_op (ev_lenA (ev_shades T (ev_var rfl) hp) (.inl (sq_of hp.lst))) ev_c rv_I0) (.int c)))) ?_) (fun hb => nomatch hb) fun _ H1 e1 => ?_
    · show (!(decide (0 ≤ c) && decide (c ≤ ((xs.length : Nat) : Int) - 1))) = false
      rw [decide_eq_true h0, decide_eq_true (by omega)]
      rfl
    · refine s_ret (ev_op (ev_shades T (ev_var rfl) (hp.ex e1)) (ev_var rfl) (rv_ixL (sq_of (e1 _ _ hp.lst)) ?_)) fun H2 e2 => q H2 (e1.trans e2)
      have e : c = ((c.toNat : Nat) : Int) := by omega
      rw [e]
      exact atI_nat hv
/-- a colour that is not yet there -/
def spCellOf (K : PySem.W.Frag) (a : Ad) : Sp := fun vs H Q _ => ∃ (p dx l : Addr) (xs : List V) (cols : List Col) (x : V) (c : Col), vs = [.ref p, x] ∧ PalX a.pal H p dx l xs ∧ DpAll K H xs (cols.map colD) ∧ Dp K H x (colD c) ∧ ValidC c ∧ c ∉ cols ∧ RetV .non H Q
theorem any_col (cols : List Col) (c : Col) : ((cols.map colD).any fun z => PyData.eqv z (colD c)) = decide (c ∈ cols) := by
  rw [List.any_map]
  have e : ((fun z => PyData.eqv z (colD c)) ∘ colD) = fun z => decide (z = c) := funext fun z => eqv_col z c
  rw [e]
  refine Bool.eq_iff_iff.mpr ?_
  rw [List.any_eq_true, decide_eq_true_eq]
  exact ⟨fun ⟨x, h1, h2⟩ => of_decide_eq_true h2 ▸ h1, fun h => ⟨c, h, decide_eq_true rfl⟩⟩
theorem ok_cell_of (T : Txt K mg a) (D : MethAt K a.pal "cell_of" "Palette.cell_of" s_Palette_cell_of) (c_need_colour : Cal P w K mg base CX0 3 "need_colour" ["thing"] (spNeedCol K)) : Mth P w K mg base a.pal 4 "cell_of" ["self", "colour"] (spCellOf K a) := by
  refine mth_of T.cl D bd_Palette_cell_of sc_Palette_cell_of (fun vs H Q E h => ?_) (fun f cdv A outer s H vs Q E hr h => ?_)
  · obtain ⟨p, dx, l, xs, cols, x, c, rfl, _⟩ := h
    rfl
  · obtain ⟨p, dx, l, xs, cols, x, c, rfl, hp, hx, hd, hv, hn, q⟩ := h
    refine ⟨_, (pss_cons (ps_expr (pf_c c_need_colour hr (by rfl) pass0 (pa_cons (pv 1) pa_nil)))
      (pss_cons (ps_if (pt_cmpR (op_notInDK K (u65 hr)) (pv 1) (pe_fldK K (pv 0) rfl) rfl) (pss_one (ps_ret pe_non)) pss_nil)
      (pss_one (ps_ret (pe_bmK K PySem.F.plainAttrs_list PySem.F.slot_list_index PySem.F.type_list_index (mt_indexDK K (u65 hr)) (pe_fldK K (pv 0) rfl) (pa_cons (pv 1) pa_nil)))))), ?_⟩
    refine q_drop (ev_needCol (ev_var rfl) hd hv) fun H1 e1 => ?_
    have hp1 := hp.ex e1
    refine q_when (b := true) (et_test (ev_op (ev_var rfl) (ev_shades T (ev_var rfl) hp1) fun H2 e2 Q q => ⟨_, _, dpx hd (e1.trans e2), .lst (sq_of (e2 _ _ hp1.lst)) (dpax hx (e1.trans e2)), shaped_col c, shaped_cols cols, by
      rw [any_col, decide_eq_false hn]
      exact q H2 (Ex.refl _)⟩)) (fun _ H2 e2 => ?_) (fun hb => nomatch hb)
    exact s_ret ev_c fun H3 e3 => q H3 ((e1.trans e2).trans e3)
def spAdd (K : PySem.W.Frag) (a : Ad) : Sp := fun vs H Q _ => ∃ (p dx l : Addr) (xs : List V) (cols : List Col) (x : V) (c : Col), vs = [.ref p, x] ∧ PalX a.pal H p dx l xs ∧ DpAll K H xs (cols.map colD) ∧ Dp K H x (colD c) ∧ ValidC c ∧ c ∉ cols ∧ cols.length < 16 ∧
  ∀ H', Ex H H' → ∀ H2, Ex (upd H' l (.lst (xs ++ [x]))) H2 → Q (.int ((xs.length : Nat) : Int)) H2
theorem ok_add_colour (T : Txt K mg a) (D : MethAt K a.pal "add_colour" "Palette.add_colour" s_Palette_add_colour) (c_cell_of : Mth P w K mg base a.pal 4 "cell_of" ["self", "colour"] (spCellOf K a)) : Mth P w K mg base a.pal 5 "add_colour" ["self", "colour"] (spAdd K a) := by
  refine mth_of T.cl D bd_Palette_add_colour sc_Palette_add_colour (fun vs H Q E h => ?_) (fun f cdv A outer s H vs Q E hr h => ?_)
  · obtain ⟨p, dx, l, xs, cols, x, c, rfl, _⟩ := h
    rfl
  · obtain ⟨p, dx, l, xs, cols, x, c, rfl, hp, hx, hd, hv, hn, hl, q⟩ := h
    have hlen : xs.length = cols.length := by
      have := dp_len hx
      rwa [List.length_map] at this
    refine ⟨_, (pss_cons (ps_set (i := 2) sc_Palette_add_colour.nd rfl (by first | exact Or.inl rfl | exact Or.inr rfl) (pm_c (pv 0) c_cell_of hr pass0 (pa_cons (pv 1) pa_nil)))
      (pss_cons (ps_if (pt_cmpR op_notN (pv 2) pe_non (nomark _)) (pss_one (ps_ret (pv 2))) pss_nil)
      (pss_cons (ps_if (pt_cmpR op_eq (pe_callB (id := "len") (call_lenK K) (by rfl) T.b_len (by decide +kernel) (pa_cons (pe_fldK K (pv 0) rfl) pa_nil)) (pe_k T.k_MOST_COLOURS) (nomark _)) (pss_one ps_never) pss_nil)
      (pss_cons (ps_expr (pe_bmK K PySem.F.plainAttrs_list PySem.F.slot_list_append PySem.F.type_list_append mt_append (pe_fldK K (pv 0) rfl) (pa_cons (pv 1) pa_nil)))
      (pss_one (ps_ret (pe_op op_sub (pe_callB (id := "len") (call_lenK K) (by rfl) T.b_len (by decide +kernel) (pa_cons (pe_fldK K (pv 0) rfl) pa_nil)) pe_int))))))), ?_⟩
    refine q_asg (v := .non) (ev_meth (ev_var rfl) hp.ins rfl (ea_cons (ev_var rfl) ea_nil) fun H1 e1 Q q => ⟨p, dx, l, xs, cols, x, c, rfl, hp.ex e1, dpax hx e1, dpx hd e1, hv, hn, q⟩) fun H1 e1 => ?_
    · have hp1 := hp.ex e1
      refine q_when (b := false) (et_test (ev_op (x := .non) (y := .non) (ev_var rfl) ev_c fun H2 e2 Q q => ⟨rfl, q H2 (Ex.refl _)⟩)) (fun hb => nomatch hb) fun _ H2 e2 => ?_
      have hp2 := hp1.ex e2
      refine q_when (b := false) (et_at (et_test (ev_op (ev_lenA (ev_shades T (ev_var rfl) hp2) (.inl (sq_of hp2.lst))) ev_c (rv_eq rfl))) (decide_eq_false fun e => by
        have := V.int.inj e
        omega)) (fun hb => nomatch hb) fun _ H3 e3 => ?_
      have hp3 := hp2.ex e3
      refine q_app hp3.lst (ev_shades T (ev_var rfl) hp3) (ev_var rfl) (by omega) fun H4 e4 => ?_
      have hp4 := hp3.ex e4
      have hne : p ≠ l := fun e => by
        have h1 := hp4.ins
        rw [e, hp4.lst] at h1
        cases h1
      have hp5 : PalX a.pal (upd H4 l (.lst (xs ++ [x]))) p dx l (xs ++ [x]) := ⟨by rw [upd_ne hne]; exact hp4.ins, upd_same⟩
      refine s_ret (v := .int ((xs.length : Nat) : Int)) (ev_at (ev_op (ev_lenA (ev_shades T (ev_var rfl) hp5) (.inl (sq_of hp5.lst))) ev_c rv_I0) ?_) fun H5 e5 => ?_
      · rw [List.length_append, List.length_singleton]
        congr 1
        omega
      · exact q H4 (((e1.trans e2).trans e3).trans e4) H5 e5
/-! ### making one -/
/-- made since H0: at p, its list at l -/
structure PalN (C : Addr) (H0 H : Hp) (K : PySem.W.Frag) (p l : Addr) (cols : List Col) : Prop where
  p0 : H0 p = none
  l0 : H0 l = none
  ne : l ≠ p
  is : ∃ dx xs, PalX C H p dx l xs ∧ DpAll K H xs (cols.map colD)
theorem PalN.ex {C p l : Addr} {H0 H H0' H' : Hp} {cols : List Col} (h : PalN C H0 H K p l cols) (e0 : Ex H0' H0) (e : Ex H H') : PalN C H0' H' K p l cols := by
  obtain ⟨dx, xs, h1, h2⟩ := h.is
  exact ⟨fresh_back e0 h.p0, fresh_back e0 h.l0, h.ne, dx, xs, h1.ex e, dpax h2 e⟩
theorem PalN.at_ {C p l : Addr} {H0 H : Hp} {cols : List Col} (h : PalN C H0 H K p l cols) : PalAt C H K (.ref p) cols := by
  obtain ⟨dx, xs, h1, h2⟩ := h.is
  exact ⟨p, dx, l, xs, rfl, h1.ins, h1.lst, h2⟩
def spInit (K : PySem.W.Frag) (a : Ad) : Sp := fun vs H Q _ => ∃ (H0 : Hp) (p dx : Addr) (x : V) (cols : List Col), vs = [.ref p, x] ∧ Ex H0 H ∧ H0 p = none ∧ H p = some (.ins a.pal dx []) ∧ Dp K H0 x (colsD cols) ∧ GoodC cols ∧
  ∀ l H2, Ex H0 H2 → PalN a.pal H0 H2 K p l cols → Q .non H2
theorem ok_Palette (T : Txt K mg a) (D : ∃ f fd, FunD K "__init__" "Palette.__init__" (defArgs s_Palette_init) (defBody s_Palette_init) (defScope s_Palette_init) [] [] f fd ∧ Mk K a.pal f) (c_is_colour : Cal P w K mg base CX0 2 "is_colour" ["thing"] (spIsCol K)) :
    Mkr P w K mg base a.pal 3 "Palette" ["self", "colours"] (spInit K a) := by
  obtain ⟨f, fd, F, M⟩ := D
  refine ⟨f, fd, M, F.ok sc_Palette_init (fun vs H Q E h => ?_) (fun cdv A outer s H vs Q E hr h => ?_), T.g_Palette, bd_Palette_init F⟩
  · obtain ⟨H0, p, dx, x, cols, rfl, _⟩ := h
    rfl
  · obtain ⟨H0, p, dx, x, cols, rfl, e0, hp0, hp, hd, hg, q⟩ := h
    obtain ⟨z, xs, rfl, hz, hx⟩ := dp_cols_inv hd
    have hlen : xs.length = cols.length := by
      have := dp_len hx
      rwa [List.length_map] at this
    obtain ⟨hl1, hl2⟩ := hg.len
    refine ⟨_, (pss_cons (ps_if (PW.pt (pw_or (pt_not (pt_val (pe_callB (id := "isinstance") (call_isiK K) (by rfl) T.b_isinstance (by decide +kernel) (pa_cons (pv 1) (pa_cons (pe_bltn (v := .ty "list") (by rfl) T.b_list (by decide +kernel) rfl) pa_nil))))) (pw_or1 (pt_not (pt_chain op_le op_le pe_int (pe_callB (id := "len") (call_lenK K) (by rfl) T.b_len (by decide +kernel) (pa_cons (pv 1) pa_nil)) (pe_k T.k_MOST_COLOURS)))))) (pss_one ps_never) pss_nil)
      (pss_cons (ps_for (L2.passes_of rfl) rfl (pi_enumK K (by rfl) T.b_enumerate (pa_cons (pv 1) pa_nil)) (pg_tupK K (n := 2) rfl (pgs_cons (pg_name (i := 2) sc_Palette_init.nd rfl (by first | exact Or.inl rfl | exact Or.inr rfl)) (pgs_cons (pg_name (i := 3) sc_Palette_init.nd rfl (by first | exact Or.inl rfl | exact Or.inr rfl)) pgs_nil))) (pss_one (ps_if (PW.pt (pw_or (pt_not (pt_val (pf_c c_is_colour hr (by rfl) pass0 (pa_cons (pv 3) pa_nil)))) (pw_or1 (pt_cmpR (op_inDK K (u65 hr)) (pv 3) (pe_slice (sl_listK K) (pv 1) po_none (po_some (pv 2))) rfl)))) (pss_one ps_never) pss_nil)))
      (pss_one (ps_fld (pv 0) (pe_callTy (T := "list") (call_listK K) (by rfl) T.b_list (by decide +kernel) (pa_cons (pv 1) pa_nil)) rfl)))), ?_⟩
    refine q_when (b := false) (et_at (et_or (a := false) (b := false) (et_at (et_not (et_B (ev_isList (ev_var rfl) (dpx hd e0)))) rfl) fun _ => et_at (et_not (et_chainLe ev_c (ev_lenA (ev_var rfl) (.inl (ex_l e0 hz))) ev_c)) (by
      rw [decide_eq_true (by omega), decide_eq_true (by omega)]
      rfl)) rfl) (fun hb => nomatch hb) fun _ H1 e1 => ?_
    have e01 := e0.trans e1
    have hp1 := e1 _ _ hp
    refine q_forE (xs := xs) (ea_cons (ev_var rfl) ea_nil) (ex_l e01 hz) (fun i σ' H' => Ex H1 H' ∧ σ'[0]? = some (some (.ref p)) ∧ σ'[1]? = some (some (.ref z)) ∧ σ'.length = 4) (fun H2 e2 => ⟨e2, rfl, rfl, rfl⟩) (fun i σ' H' _ h => ex_l (e01.trans h.1) hz) (fun i x σ' H' T' hx' h hT => ?_) (fun σ' H' h => ?_)
    · obtain ⟨h1, h2, h3, h4⟩ := h
      obtain ⟨c, hc, hcd⟩ := dpa_atG hx hx'
      have eT : Ex H' (upd H' T' (.tup [.int ((i : Nat) : Int), x])) := Ex.new hT
      have eA := e01.trans (h1.trans eT)
      match σ', h4, h2, h3 with
      | [_, _, _, _], _, h2, h3 =>
        cases h2
        cases h3
        have hil := (List.getElem?_eq_some_iff.mp hc).1
        refine s_when (b := false) (et_at (et_or (a := false) (b := false) (et_at (et_not (et_B (ev_isCol (ev_var rfl) (dpx hcd eA) (hg.val c (List.mem_of_getElem? hc))))) rfl) fun _ => et_test (ev_opL (xs := cutV xs none (some ((i : Nat) : Int))) (ev_var rfl) (el_sl (ev_var rfl) eo_none (eo_some (ev_var rfl)) (ex_l eA hz)) fun r H2 hr e2 H3 e3 Q q => ?_)) rfl) (fun hb => nomatch hb) fun _ H2 e2 => ⟨(h1.trans eT).trans e2, rfl, rfl, rfl⟩
        have ecut : cutV xs none (some ((i : Nat) : Int)) = xs.take i := by
          have h1 : HT.sIx xs.length 0 none = 0 := rfl
          have h2 : HT.sIx xs.length xs.length (some ((i : Nat) : Int)) = i := by
            simp only [HT.sIx]
            rw [if_neg (by omega)]
            omega
          unfold cutV
          rw [h1, h2]
          rfl
        have hxa : DpAll K H3 (xs.take i) ((cols.take i).map colD) := by
          rw [List.map_take]
          exact dpa_take (dpax hx ((eA.trans e2).trans e3)) i
        refine ⟨_, _, dpx hcd ((eA.trans e2).trans e3), .lst (sq_of (e3 _ _ hr)) (by rw [ecut]; exact hxa), shaped_col c, shaped_cols _, ?_⟩
        rw [any_col, decide_eq_false]
        · exact q H3 (Ex.refl _)
        · intro hm
          obtain ⟨j, hj, ej⟩ := List.getElem_of_mem hm
          rw [List.length_take] at hj
          rw [List.getElem_take] at ej
          obtain ⟨_, ec⟩ := List.getElem?_eq_some_iff.mp hc
          have := (List.pairwise_iff_getElem.mp hg.nd) j i (by omega) hil (by omega)
          exact this (ej.trans ec.symm)
    · obtain ⟨h1, h2, h3, h4⟩ := h
      have eA := e01.trans h1
      have hp2 := h1 _ _ hp1
      refine (show EvL _ σ' H' xs from el_listC (ev_var h3) (.inl (ex_l eA hz))) H' (Ex.refl _) _ fun l H2 hl e2 hl2 => ?_
      refine (ev_var h2 : Ev (tVar 0) σ' H2 (.ref p)) H2 (Ex.refl _) _ fun H3 e3 => ?_
      have hne : l ≠ p := fun e => by
        rw [e, hp2] at hl
        cases hl
      refine ⟨p, a.pal, dx, [], rfl, e3 _ _ (e2 _ _ hp2), T.cl, T.nS, by decide, ?_⟩
      refine q l _ (Ex.mut (eA.trans (e2.trans e3)) hp0) ⟨hp0, fresh_back eA hl, hne, dx, xs, ⟨upd_same, by rw [upd_ne hne]; exact e3 _ _ hl2⟩, dpax hx (Ex.mut (eA.trans (e2.trans e3)) hp0)⟩
end
end C19
set_option Elab.async false
set_option linter.all false
set_option maxRecDepth 100000
set_option maxHeartbeats 4000000
namespace C19
open PySem PySem.Spec PyProof.Rows L2 Evl
/-! ### the greatest of a list -/
def maxL : List Int → Int
  | [] => 0
  | x :: l => l.foldl max x
theorem foldl_max : ∀ (l : List Int) (b : Int), l.foldl max b ∈ b :: l ∧ ∀ y ∈ b :: l, y ≤ l.foldl max b
  | [], b => ⟨List.mem_cons_self, fun y hy => by
    have e : y = b := by simpa using hy
    rw [e]
    exact Int.le_refl _⟩
  | x :: l, b => by
    rw [List.foldl_cons]
    obtain ⟨h1, h2⟩ := foldl_max l (max b x)
    have h3 := h2 _ List.mem_cons_self
    refine ⟨?_, fun y hy => ?_⟩
    · rcases List.mem_cons.mp h1 with e | e
      · rw [e]
        by_cases c : b ≤ x
        · rw [Int.max_eq_right c]
          exact List.mem_cons_of_mem _ List.mem_cons_self
        · rw [Int.max_eq_left (by omega)]
          exact List.mem_cons_self
      · exact List.mem_cons_of_mem _ (List.mem_cons_of_mem _ e)
    · rcases List.mem_cons.mp hy with e | hy
      · rw [e]
        omega
      · rcases List.mem_cons.mp hy with e | hy
        · rw [e]
          omega
        · exact h2 y (List.mem_cons_of_mem _ hy)
theorem maxL_is {l : List Int} (h : 0 < l.length) : maxL l ∈ l ∧ ∀ y ∈ l, y ≤ maxL l := by
  cases l with
  | nil => simp at h
  | cons x l => exact foldl_max l x
theorem maxL_one {l : List Int} (h : 0 < l.length) {m : Int} (h1 : m ∈ l) (h2 : ∀ y, y ∈ l → y ≤ m) : m = maxL l := by
  obtain ⟨k1, k2⟩ := maxL_is h
  have := k2 m h1
  have := h2 _ k1
  omega
section
variable {K : PySem.W.Frag} {σ : L2.St} {H : Hp} {ta te tb ti to : TE} {D : Ends}
theorem el_callV {sp : Sp} {E : XK} {tA : TA} {vs xs : List V} (h : EvA tA σ H vs) (hs : ∀ H1, Ex H H1 → ∀ Q : VK, RetL xs H1 Q → sp vs H1 Q E) : EvL (tCall sp [] E tA) σ H xs := fun H1 e Q q =>
  h H1 e _ fun H2 e2 => by
    show sp (vs ++ []) H2 Q E
    rw [List.append_nil]
    exact hs H2 (e.trans e2) Q fun p H3 hp e3 h3 => q p H3 (fresh_back e2 hp) (e2.trans e3) h3
theorem evp_call {sp : Sp} {E : XK} {tA : TA} {vs : List V} {rows : Pic} (h : EvA tA σ H vs) (hs : ∀ H1, Ex H H1 → ∀ Q : VK, RetP rows H1 Q → sp vs H1 Q E) : EvP (tCall sp [] E tA) σ H rows := fun H1 e Q q =>
  h H1 e _ fun H2 e2 => by
    show sp (vs ++ []) H2 Q E
    rw [List.append_nil]
    exact hs H2 (e.trans e2) Q fun p H3 e3 n3 => q p H3 (e2.trans e3) (n3.ex e2 (Ex.refl _))
theorem ev_maxA {p : Addr} {ns : List Int} (ha : Ev ta σ H (.ref p)) (h : SqL K H p (rowV ns)) (hl : 0 < ns.length) : Ev (tCB (rMax K) (tCons ta tNil)) σ H (.int (maxL ns)) := fun H1 e Q q =>
  ha H1 e _ fun H2 e2 => ⟨p, ns, rfl, ex_l (e.trans e2) h, hl, fun m h1 h2 => by
    rw [maxL_one hl h1 h2]
    exact q H2 e2⟩
theorem ev_maxN {ns : List Int} (ha : EvL ta σ H (rowV ns)) (hl : 0 < ns.length) : Ev (tCB (rMax K) (tCons ta tNil)) σ H (.int (maxL ns)) := fun H1 e Q q =>
  ha H1 e _ fun p H2 _ e2 h2 => ⟨p, ns, rfl, sq_of h2, hl, fun m h1 h3 => by
    rw [maxL_one hl h1 h3]
    exact q H2 e2⟩
theorem el_rep {xs : List V} {k : Int} (ha : EvL ta σ H xs) (hb : ∀ H1, Ex H H1 → Ev tb σ H1 (.int k)) (hk : 0 ≤ k ∧ k ≤ 1000) (hx : xs.length ≤ 1000) : EvL (tOp rRep ta tb) σ H (List.replicate k.toNat xs).flatten := fun H1 e Q q =>
  ha H1 e _ fun p H2 hp e2 h2 => hb H2 (e.trans e2) H2 (Ex.refl _) _ fun H3 e3 => ⟨p, k, xs, rfl, rfl, e3 _ _ h2, by omega, by omega, by
    have h1 : xs.length * k.toNat ≤ 1000 * 1000 := Nat.mul_le_mul hx (by omega)
    have := sizeLine_eq
    omega, fun r hr => q r _ (fresh_back (e2.trans e3) hr) ((e2.trans e3).trans (Ex.new hr)) upd_same⟩
theorem s_augL {l : Addr} {ns : List Int} {c n e : Int} (hl : H l = some (.lst (rowV ns))) (ho : Ev to σ H (.ref l)) (hi : Ev ti σ H (.int c)) (h0 : 0 ≤ c) (hc : ns[c.toNat]? = some n) (he : Ev te σ H (.int e)) (k : ∀ H1, Ex H H1 → D.nx σ (upd H1 l (.lst (rowV (ns.set c.toNat (n + e)))))) :
    tAugS to ti te (rGetL K) (ipI fun i j => i + j) rSetL D σ H := ho H (Ex.refl _) _ fun H1 e1 => hi H1 e1 _ fun H2 e2 => by
  have e0 : c = ((c.toNat : Nat) : Int) := by omega
  have hlt := (List.getElem?_eq_some_iff.mp hc).1
  have e12 := e1.trans e2
  refine ⟨l, rowV ns, c.toNat, .int n, rfl, by rw [← e0], sq_of (e12 _ _ hl), by rw [rowV, List.getElem?_map, hc]; rfl, ?_⟩
  refine he H2 e12 _ fun H3 e3 => ⟨n, e, rfl, rfl, l, rowV ns, c, c.toNat, rfl, rfl, e3 _ _ (e12 _ _ hl), ?_, ?_⟩
  · rw [rowV, List.length_map]
    conv => lhs; rw [e0]
    exact ixN_nat hlt
  · have := k H3 (e12.trans e3)
    rw [rowV, List.map_set] at this
    exact this
theorem q_augL {tz : TS} {l : Addr} {ns : List Int} {c n e : Int} (hl : H l = some (.lst (rowV ns))) (ho : Ev to σ H (.ref l)) (hi : Ev ti σ H (.int c)) (h0 : 0 ≤ c) (hc : ns[c.toNat]? = some n) (he : Ev te σ H (.int e)) (k : ∀ H1, Ex H H1 → tz D σ (upd H1 l (.lst (rowV (ns.set c.toNat (n + e)))))) :
    tSeq (tAugS to ti te (rGetL K) (ipI fun i j => i + j) rSetL) tz D σ H := s_augL (D := { D with nx := tz D }) hl ho hi h0 hc he k
theorem ixl_int {p : Addr} {ns : List Int} {c n : Int} (h : SqL K H p (rowV ns)) (h0 : 0 ≤ c) (hc : ns[c.toNat]? = some n) : RV (rIxL K) (.ref p) (.int c) H (.int n) := rv_ixL h (by
  have e0 : c = ((c.toNat : Nat) : Int) := by omega
  rw [e0]
  refine atI_nat ?_
  rw [rowV, List.getElem?_map, hc]
  rfl)
end
section
variable {P : Program} {w : World} {K : PySem.W.Frag} {mg : Str → Option Value} {base : Heap} {a : Ad}
theorem ev_needPic {σ : L2.St} {H : Hp} {tx : TE} {E : XK} {x : V} {C : Addr} (h : Ev tx σ H x) (hd : ThP K H x true) : Ev (tCall (spNeed K C) [] E (tCons tx tNil)) σ H .non :=
  ev_callV (ea_cons h ea_nil) fun H1 e1 Q q => ⟨x, true, rfl, thp_ex hd e1, fun _ => q, fun h => nomatch h⟩
theorem cells_of {ns : List Int} (h : ∀ n ∈ ns, 0 ≤ n ∧ n ≤ 15) : cellsB (rowD ns) = true := by
  show (ns.map PyData.int).all cellB = true
  rw [all_map, List.all_eq_true]
  intro c hc
  have := h c hc
  show (decide (0 ≤ c) && decide (c ≤ 15)) = true
  rw [decide_eq_true this.1, decide_eq_true this.2]
  rfl
/-! ### recoloured -/
def spRecol (K : PySem.W.Frag) : Sp := fun vs H Q _ => ∃ (x y : V) (p : Pic) (ns : List Int), vs = [x, y] ∧ Dp K H x (picD p) ∧ Good p ∧ Dp K H y (rowD ns) ∧ ns.length = 16 ∧ (∀ n ∈ ns, 0 ≤ n ∧ n ≤ 15) ∧ RetP (app ns p) H Q
theorem ok_recoloured (T : Txt K mg a) (D : DefAt K mg "recoloured" s_recoloured) (c_need_picture : Cal P w K mg base (L2N.CX P w) 5 "need_picture" ["picture"] (spNeed K a.pic)) (c_are_cells : Cal P w K mg base CX0 3 "are_cells" ["thing"] (spCells K)) :
    Cal P w K mg base CX0 6 "recoloured" ["picture", "numbers"] (spRecol K) := by
  refine cal_of D bd_recoloured sc_recoloured (fun vs H Q E h => ?_) (fun f cdv A outer s H vs Q E hr h => ?_)
  · obtain ⟨x, y, p, ns, rfl, _⟩ := h
    rfl
  · obtain ⟨x, y, p, ns, rfl, hx, hg, hy, hl, hn, q⟩ := h
    refine ⟨_, (pss_cons (ps_expr (pf_c c_need_picture hr (by rfl) passLN (pa_cons (pv 0) pa_nil)))
      (pss_cons (ps_if (PW.pt (pw_or (pt_not (pt_val (pf_c c_are_cells hr (by rfl) pass0 (pa_cons (pv 1) pa_nil)))) (pw_or1 (pt_cmpR op_gt (pe_callB (id := "len") (call_lenK K) (by rfl) T.b_len (by decide +kernel) (pa_cons (pv 1) pa_nil)) (pe_k T.k_MOST_COLOURS) (nomark _))))) (pss_one ps_never) pss_nil)
      (pss_cons (ps_if (pt_cmpR op_ge (pe_callB (id := "max") (cr_maxK K rfl) (by rfl) T.b_max (by decide +kernel) (pa_cons (pe_lc (own := [("row", 2)]) (g := (gName 2)) rfl sc_recoloured.nd (pi_listK K (pv 0)) (blkOk_by (by kernel_rfl)) (fun _ _ _ _ _ => (pg_name (i := 2) sc_recoloured.nd rfl (by first | exact Or.inl rfl | exact Or.inr rfl))) (fun _ _ _ _ _ => pts_nil) (fun _ _ _ _ _ => (pe_callB (id := "max") (cr_maxK K rfl) (by rfl) T.b_max (by decide +kernel) (pa_cons (pv 2) pa_nil)))) pa_nil)) (pe_callB (id := "len") (call_lenK K) (by rfl) T.b_len (by decide +kernel) (pa_cons (pv 1) pa_nil)) (nomark _)) (pss_one ps_never) pss_nil)
      (pss_one (ps_ret (pe_lc (own := [("row", 2)]) (g := (gName 2)) rfl sc_recoloured.nd (pi_listK K (pv 0)) (blkOk_by (by kernel_rfl)) (fun _ _ _ _ _ => (pg_name (i := 2) sc_recoloured.nd rfl (by first | exact Or.inl rfl | exact Or.inr rfl))) (fun _ _ _ _ _ => pts_nil) (fun _ _ _ _ _ => (pe_lc (own := [("cell", 3)]) (g := (gName 3)) rfl sc_recoloured.nd (pi_listK K (pv 2)) (blkOk_by (by kernel_rfl)) (fun _ _ _ _ _ => (pg_name (i := 3) sc_recoloured.nd rfl (by first | exact Or.inl rfl | exact Or.inr rfl))) (fun _ _ _ _ _ => pts_nil) (fun _ _ _ _ _ => (pe_ix (ix_listK K) (pv 1) (pv 3) (fun _ _ => rfl))))))))))), ?_⟩
    refine q_drop (ev_needPic (ev_var rfl) (hg.thp hx)) fun H1 e1 => ?_
    have hx1 := dpx hx e1
    have hy1 := dpx hy e1
    obtain ⟨z, rfl, hz⟩ := dp_row_inv hy1
    have hzl : (rowV ns).length = 16 := by rw [rowV, List.length_map, hl]
    refine q_when (b := false) (et_at (et_or (a := false) (b := false) (et_at (et_not (et_B (ev_cells (ev_var rfl) hy1 fun ds e => by
      have e := PyData.list.inj e
      rw [← e, List.length_map]
      omega))) (by rw [cells_of hn]; rfl)) fun _ => et_at (et_test (ev_op (ev_lenA (ev_var rfl) (.inl hz)) ev_c rv_I0)) (decide_eq_false (by rw [hzl]; omega))) rfl) (fun hb => nomatch hb) fun _ H2 e2 => ?_
    have hx2 := dpx hx1 e2
    have hz2 := ex_l e2 hz
    obtain ⟨q0, ts, rfl, ht, hts⟩ := dp_pic_inv hx2
    have hhi := hg.high
    refine q_when (b := false) (et_at (et_test (ev_op (ev_maxN (ns := p.map maxL) (fun H0 e Q q => by
        have k := el_dataM (te := tCB (rMax K) (tCons (tVar 2) tNil)) (vs := [2]) (j := 2) (σ := start ["picture", "numbers", "row", "cell"] [.ref q0, .ref z]) (tl := tVar 0) (v := fun r => V.int (maxL r)) (ev_var rfl) ht hts (by omega) (fun _ => rfl) (fun x r H3 hr hd e3 => by
          obtain ⟨t, rfl, ht2⟩ := dp_row_inv hd
          exact ev_maxA (ev_var rfl) ht2 (by have := hg.row hr; omega))
        have e0 : (p.map fun r => V.int (maxL r)) = rowV (p.map maxL) := by
          rw [rowV, List.map_map]
          rfl
        rw [e0] at k
        exact k H0 e Q q) (by rw [List.length_map]; omega)) (ev_lenA (ev_var rfl) (.inl hz2)) rv_I0)) (decide_eq_false (by
        rw [hzl]
        obtain ⟨k1, _⟩ := maxL_is (l := p.map maxL) (by rw [List.length_map]; omega)
        obtain ⟨r, hr, er⟩ := List.mem_map.mp k1
        obtain ⟨k2, _⟩ := maxL_is (l := r) (by have := hg.row hr; omega)
        have := hg.cell r hr _ k2
        omega))) (fun hb => nomatch hb) fun _ H3 e3 => ?_
    have ht3 := ex_l e3 ht
    have hz3 := ex_l e3 hz2
    have eF : (app ns p).map rowV = p.map fun r => r.map fun c => V.int (ns.getD c.toNat 0) := by
      unfold app rowV
      rw [List.map_map]
      refine List.map_congr_left fun r _ => ?_
      show (r.map _).map _ = _
      rw [List.map_map]
      rfl
    refine s_retPic (rows := app ns p) (evp_of ?_) fun r H4 e4 n4 => q r H4 (((e1.trans e2).trans e3).trans e4) (n4.ex ((e1.trans e2).trans e3) (Ex.refl _))
    rw [eF]
    refine en_dataM (ev_var rfl) ht3 (dpax hts e3) (by omega) (fun _ => rfl) fun x r H4 hr hd e4 => ?_
    obtain ⟨t, rfl, ht4⟩ := dp_row_inv hd
    have hrl := hg.row hr
    refine eo_l (el_dataM (f := PyData.int) (ev_var rfl) ht4 (dpa_ints r) (by omega) (fun _ => rfl) fun x c H5 hc hd5 e5 => ?_)
    cases hd5
    have hcc := hg.cell r hr c hc
    refine ev_op (ev_var rfl) (ev_var rfl) (ixl_int (ex_l (e4.trans e5) hz3) hcc.1 ?_)
    rw [List.getD_eq_getElem?_getD, List.getElem?_eq_getElem (show c.toNat < ns.length by omega)]
    rfl
/-! ### cell_counts -/
def spCounts (K : PySem.W.Frag) (a : Ad) : Sp := fun vs H Q E => ∃ x : V, vs = [x] ∧ ((∃ p, Dp K H x (picD p) ∧ Good p ∧ RetL (rowV (counts p)) H Q) ∨ (ThP K H x false ∧ ∀ H', Ex H H' → E (.ref a.pic) none H'))
theorem ok_cell_counts (T : Txt K mg a) (D : DefAt K mg "cell_counts" s_cell_counts) (c_need_picture : Cal P w K mg base (L2N.CX P w) 5 "need_picture" ["picture"] (spNeed K a.pic)) :
    Cal P w K mg base (L2N.CX P w) 6 "cell_counts" ["picture"] (spCounts K a) := by
  refine cal_of D bd_cell_counts sc_cell_counts (fun vs H Q E h => ?_) (fun f cdv A outer s H vs Q E hr h => ?_)
  · obtain ⟨x, rfl, _⟩ := h
    rfl
  · obtain ⟨x, rfl, h⟩ := h
    refine ⟨_, (pss_cons (ps_expr (pf_c c_need_picture hr (by rfl) (L2N.passes_call (L2N.takes_of rfl rfl rfl rfl) fun _ _ _ _ h => h) (pa_cons (pv 0) pa_nil)))
      (pss_cons (ps_set (i := 1) sc_cell_counts.nd rfl (by first | exact Or.inl rfl | exact Or.inr rfl) (pe_op op_rep (pe_lst (pa_cons pe_int pa_nil)) (pe_k T.k_MOST_COLOURS)))
      (pss_cons (ps_for (L2.passes_of rfl) rfl (pi_listK K (pv 0)) (pg_name (i := 2) sc_cell_counts.nd rfl (by first | exact Or.inl rfl | exact Or.inr rfl)) (pss_one (ps_for (L2.passes_of rfl) rfl (pi_listK K (pv 2)) (pg_name (i := 3) sc_cell_counts.nd rfl (by first | exact Or.inl rfl | exact Or.inr rfl)) (pss_one (ps_augS (pv 1) (pv 3) (pget_listK K) pe_int ip_add set_list)))))
      (pss_one (ps_ret (pv 1)))))), ?_⟩
    rcases h with ⟨p, hx, hg, q⟩ | ⟨hx, q⟩
    · refine q_drop (ev_needPic (ev_var rfl) (hg.thp hx)) fun H1 e1 => ?_
      refine q_asgL (xs := rowV (cntL [])) (by
        rw [cntL_nil]
        exact el_rep (k := 16) (xs := [.int 0]) (el_lst (ea_cons ev_c ea_nil) (by decide)) (fun _ _ => ev_c) (by omega) (by decide)) fun l H2 hl e2 hl2 => ?_
      obtain ⟨q0, ts, rfl, ht, hts⟩ := dp_pic_inv (dpx hx e1)
      have htl := dp_len hts
      rw [List.length_map] at htl
      have hhi := hg.high
      refine q_forL (a := q0) (xs := ts) (ev_var rfl) (ex_l e2 ht) (fun i σ' H' => Ex H1 H' ∧ H' l = some (.lst (rowV (cntL (p.take i).flatten))) ∧ σ'[1]? = some (some (.ref l)) ∧ σ'.length = 4) (fun H3 e3 => ⟨e2.trans e3, e3 _ _ hl2, rfl, rfl⟩) (fun i σ' H' _ h => ex_l h.1 ht) (fun i x σ' H' hx' h => ?_) (fun σ' H' h => ?_)
      · obtain ⟨h1, h2, h3, h4⟩ := h
        obtain ⟨r, hr, hrd⟩ := dpa_atG hts hx'
        obtain ⟨t, rfl, ht2⟩ := dp_row_inv hrd
        have hrm := List.mem_of_getElem? hr
        have hrl := hg.row hrm
        match σ', h3, h4 with
        | [s0, s1, s2, s3], h3, _ =>
          cases h3
          refine s_forL (a := t) (xs := rowV r) (ev_var rfl) (ex_l h1 ht2) (fun j σ' H' => Ex H1 H' ∧ H' l = some (.lst (rowV (cntL ((p.take i).flatten ++ r.take j)))) ∧ σ'[1]? = some (some (.ref l)) ∧ σ'.length = 4) (fun H3 e3 => ⟨h1.trans e3, by
            rw [List.take_zero, List.append_nil]
            exact e3 _ _ h2, rfl, rfl⟩) (fun j σ' H' _ h => ex_l h.1 ht2) (fun j x σ' H' hx2 h => ?_) (fun σ' H' h => ?_)
          · obtain ⟨k1, k2, k3, k4⟩ := h
            rw [rowV, List.getElem?_map] at hx2
            obtain ⟨c, hc, rfl⟩ := Option.map_eq_some_iff.mp hx2
            have hcc := hg.cell r hrm c (List.mem_of_getElem? hc)
            match σ', k3, k4 with
            | [s0, s1, s2, s3], k3, _ =>
              cases k3
              have e0 : ((c.toNat : Nat) : Int) = c := by omega
              refine s_augL (c := c) (e := 1) k2 (ev_var rfl) (ev_var rfl) hcc.1 (cntL_at _ (by omega)) ev_c fun H3 e3 => ⟨Ex.mut (k1.trans e3) hl, ?_, rfl, rfl⟩
              rw [upd_same, e0, cntL_step _ hcc.1 hcc.2, List.append_assoc, List.take_add_one, hc]
              rfl
          · obtain ⟨k1, k2, k3, k4⟩ := h
            refine ⟨k1, ?_, k3, k4⟩
            have el : (rowV r).length = r.length := List.length_map _
            rw [k2, List.take_add_one, hr, el, List.take_length]
            simp
      · obtain ⟨h1, h2, h3, h4⟩ := h
        refine s_ret (ev_var h3) fun H3 e3 => q l H3 (fresh_back e1 hl) (e1.trans (h1.trans e3)) ?_
        have := e3 _ _ h2
        rw [htl, List.take_length] at this
        exact this
    · exact (ev_var rfl : Ev (tVar 0) (start ["picture", "found", "row", "cell"] [x]) H x) H (Ex.refl _) _ fun H1 e1 => ⟨x, false, rfl, thp_ex hx e1, (fun h => nomatch h), fun _ H2 e2 => q H2 (e1.trans e2)⟩
/-! ### used_counts -/
theorem drop_any {p : Pic} (g : Good p) (n : Nat) : (((counts p).drop n).map fun m => decide (m > 0)).any id = decide (∃ c ∈ p.flatten, (n : Int) ≤ c) := by
  refine Bool.eq_iff_iff.mpr ?_
  rw [List.any_eq_true, decide_eq_true_eq]
  constructor
  · rintro ⟨b, hb, e⟩
    obtain ⟨m, hm, rfl⟩ := List.mem_map.mp hb
    have hm0 : m > 0 := of_decide_eq_true e
    obtain ⟨i, hi⟩ := List.mem_iff_getElem?.mp hm
    rw [List.getElem?_drop] at hi
    have hlt := (List.getElem?_eq_some_iff.mp hi).1
    rw [counts_len] at hlt
    rw [counts_at p hlt] at hi
    cases hi
    exact ⟨((n + i : Nat) : Int), cnt_pos.mp (by omega), by omega⟩
  · rintro ⟨c, hc, hn⟩
    have hcc := g.flat hc
    have hp := cnt_pos.mpr hc
    refine ⟨true, List.mem_map.mpr ⟨((cnt p c : Nat) : Int), ?_, decide_eq_true (by omega)⟩, rfl⟩
    refine List.mem_iff_getElem?.mpr ⟨c.toNat - n, ?_⟩
    rw [List.getElem?_drop, show n + (c.toNat - n) = c.toNat by omega, counts_at p (by omega), show ((c.toNat : Nat) : Int) = c by omega]
theorem cut_from (xs : List V) (n : Nat) : cutV xs (some ((n : Nat) : Int)) none = xs.drop n := by
  unfold cutV
  have h1 : HT.sIx xs.length 0 (some ((n : Nat) : Int)) = min n xs.length := by
    simp only [HT.sIx]
    rw [if_neg (by omega)]
    omega
  have h2 : HT.sIx xs.length xs.length none = xs.length := rfl
  rw [h1, h2, List.take_of_length_le (by rw [List.length_drop]; omega)]
  by_cases c : n ≤ xs.length
  · rw [Nat.min_eq_left c]
  · rw [Nat.min_eq_right (by omega), List.drop_length, List.drop_of_length_le (by omega)]
theorem cut_to (xs : List V) (n : Nat) : cutV xs none (some ((n : Nat) : Int)) = xs.take n := by
  unfold cutV
  have h1 : HT.sIx xs.length 0 none = 0 := rfl
  have h2 : HT.sIx xs.length xs.length (some ((n : Nat) : Int)) = min n xs.length := by
    simp only [HT.sIx]
    rw [if_neg (by omega)]
    omega
  rw [h1, h2, List.drop_zero, Nat.sub_zero]
  by_cases c : n ≤ xs.length
  · rw [Nat.min_eq_left c]
  · rw [Nat.min_eq_right (by omega), List.take_length, List.take_of_length_le (by omega)]
def spUsed (K : PySem.W.Frag) (a : Ad) : Sp := fun vs H Q E => ∃ x v : V, vs = [x, v] ∧ ((∃ (p : Pic) (pl dx l : Addr) (xs : List V), v = .ref pl ∧ PalX a.pal H pl dx l xs ∧ Dp K H x (picD p) ∧ Good p ∧
  ((∀ c ∈ p.flatten, c < ((xs.length : Nat) : Int)) → RetL (rowV (counts p)) H Q) ∧ ((∃ c ∈ p.flatten, ((xs.length : Nat) : Int) ≤ c) → ∀ H', Ex H H' → E (.ref a.noc) none H')) ∨ (ThP K H x false ∧ ∀ H', Ex H H' → E (.ref a.pic) none H'))
theorem ok_used_counts (T : Txt K mg a) (D : DefAt K mg "used_counts" s_used_counts) (c_cell_counts : Cal P w K mg base (L2N.CX P w) 6 "cell_counts" ["picture"] (spCounts K a)) (c_many : Mth P w K mg base a.pal 1 "many" ["self"] (spMany a)) :
    Cal P w K mg base (L2N.CX P w) 7 "used_counts" ["picture", "palette"] (spUsed K a) := by
  refine cal_of D bd_used_counts sc_used_counts (fun vs H Q E h => ?_) (fun f cdv A outer s H vs Q E hr h => ?_)
  · obtain ⟨x, v, rfl, _⟩ := h
    rfl
  · obtain ⟨x, v, rfl, h⟩ := h
    refine ⟨_, (pss_cons (ps_set (i := 2) sc_used_counts.nd rfl (by first | exact Or.inl rfl | exact Or.inr rfl) (pf_c c_cell_counts hr (by rfl) (L2N.passes_call (L2N.takes_of rfl rfl rfl rfl) fun _ _ _ _ h => h) (pa_cons (pv 0) pa_nil)))
      (pss_cons (ps_if (pt_val (pe_callB (id := "any") (cr_anyK K rfl) (by rfl) T.b_any (by decide +kernel) (pa_cons (pe_lc (own := [("number", 3)]) (g := (gName 3)) rfl sc_used_counts.nd (pi_listK K (pe_slice (sl_listK K) (pv 2) (po_some (pm_c0 (pv 1) c_many hr pass0)) po_none)) (blkOk_by (by kernel_rfl)) (fun _ _ _ _ _ => (pg_name (i := 3) sc_used_counts.nd rfl (by first | exact Or.inl rfl | exact Or.inr rfl))) (fun _ _ _ _ _ => pts_nil) (fun _ _ _ _ _ => (pe_cmpR op_gt (pv 3) pe_int (nomark _)))) pa_nil))) (pss_one (L2N.ps_raise rfl (L2N.takes_of rfl rfl rfl rfl) (L2N.pmk_own PySem.F.excBase_ValueError T.x_NoColour.x T.g_NoColour T.x_NoColour.k (raises_own T.x_NoColour.b T.x_NoColour.t) rfl))) pss_nil)
      (pss_one (ps_ret (pv 2))))), ?_⟩
    rcases h with ⟨p, pl, dx, l, xs, rfl, hp, hx, hg, q1, q2⟩ | ⟨hx, q⟩
    · refine q_asgL (el_callV (ea_cons (ev_var rfl) ea_nil) fun H1 e1 Q q => ⟨x, rfl, .inl ⟨p, dpx hx e1, hg, q⟩⟩) fun r H2 hr e12 hr2 => ?_
      have hp2 := hp.ex e12
      have hb := drop_any hg xs.length
      have hev : EvT (tB (tCB (rAny K) (tCons (tLc (iList K (tSl (rSlL K) (tVar 2) (tPart (tMeth a.pal "many" (spMany a) [] E0 (tVar 1) tNil)) tNoPart)) (gName 3) tYes (tOp (rI0 fun i j => .bl (decide (i > j))) (tVar 3) (tC (.int 0))) [3]) tNil)))
          ((start ["picture", "palette", "counts", "number"] [x, .ref pl]).set 2 (some (.ref r))) H2 (decide (∃ c ∈ p.flatten, ((xs.length : Nat) : Int) ≤ c)) := by
        rw [← hb]
        refine et_B (ev_anyL (el_overL (el_sl (ev_var rfl) (eo_some (i := ((xs.length : Nat) : Int)) (ev_meth (ev_var rfl) hp2.ins rfl ea_nil fun H3 e3 Q q => ⟨pl, dx, l, xs, rfl, hp2.ex e3, q⟩)) eo_none (sq_of hr2)) fun p3 H3 e3 h3 => ?_))
        rw [cut_from, rowV, ← List.map_drop] at h3
        rw [List.map_map]
        refine el_dataM (f := PyData.int) ev_c (sq_of h3) (dpa_ints _) (by rw [List.length_drop, counts_len]; omega) (fun _ => rfl) fun y m H4 hm hd e4 => ?_
        cases hd
        exact ev_op (ev_var rfl) ev_c rv_I0
      refine q_when hev (fun hc H3 e3 => ?_) (fun hc H3 e3 => ?_)
      · exact q2 (of_decide_eq_true hc) H3 (e12.trans e3)
      · exact s_ret (ev_var rfl) fun H4 e4 => q1 (fun c hcm => by
          have := of_decide_eq_false hc
          exact Int.not_le.mp fun hle => this ⟨c, hcm, hle⟩) r H4 hr (e12.trans (e3.trans e4)) (e4 _ _ (e3 _ _ hr2))
    · exact (ev_var rfl : Ev (tVar 0) (start ["picture", "palette", "counts", "number"] [x, v]) H x) H (Ex.refl _) _ fun H1 e1 => ⟨x, rfl, .inr ⟨thp_ex hx e1, fun H2 e2 => q H2 (e1.trans e2)⟩⟩
end
end C19
set_option Elab.async false
set_option linter.all false
set_option maxRecDepth 100000
set_option maxHeartbeats 4000000
namespace C19
open PySem PySem.Spec PyProof.Rows L2 Evl
/-! ### an order there is -/
theorem part_run {p : Pic} : ∀ (n : Nat) {found left : List Int}, left.length ≤ n → Part p found left → ∃ l, IsOrder p l
  | 0, found, left, h, k => by
    have e : left = [] := List.length_eq_zero_iff.mp (by omega)
    subst e
    exact ⟨_, k.done⟩
  | n + 1, found, [], _, k => ⟨_, k.done⟩
  | n + 1, found, u :: l, h, k => part_run n (by
    have h1 := (bestF_is (p := p) k.lt).1
    rw [List.length_erase_of_mem h1]
    simp only [List.length_cons] at h ⊢
    omega) k.step
theorem exists_order (p : Pic) : ∃ l, IsOrder p l := part_run _ (Nat.le_refl _) (Part.start p)
noncomputable def orderF (p : Pic) : List Int := Classical.choose (exists_order p)
theorem orderF_is (p : Pic) : IsOrder p (orderF p) := Classical.choose_spec (exists_order p)
theorem order_eq {p : Pic} {l : List Int} (h : IsOrder p l) : l = orderF p := isOrder_one h (orderF_is p)
theorem order_cell {p : Pic} (g : Good p) : ∀ c ∈ orderF p, (0 ≤ c ∧ c ≤ 15) ∧ c ∈ p.flatten := fun c hc => by
  have := ((orderF_is p).mem c).mp hc
  exact ⟨(mem_used.mp this).1, g.mem_used.mp this⟩
theorem order_len {p : Pic} (g : Good p) : 1 ≤ (orderF p).length ∧ (orderF p).length ≤ 16 := by
  rw [(orderF_is p).len]
  exact ⟨List.length_pos_iff.mpr g.used_ne, used_len p⟩
theorem colAt_inj {cols : List Col} (nd : cols.Nodup) {c d : Int} (hc : 0 ≤ c ∧ c < cols.length) (hd : 0 ≤ d ∧ d < cols.length) (e : colAt cols c = colAt cols d) : c = d := by
  have h1 := colAt_of hc.1 hc.2
  have h2 := colAt_of hd.1 hd.2
  rw [e, ← h2] at h1
  have h3 := (List.getElem?_inj (by omega) nd).mp h1
  omega
theorem goodC_sub {cols : List Col} (g : GoodC cols) {l : List Int} (nd : l.Nodup) (h : ∀ c ∈ l, 0 ≤ c ∧ c < cols.length) (hl : 1 ≤ l.length ∧ l.length ≤ 16) : GoodC (l.map (colAt cols)) := by
  refine ⟨by rw [List.length_map]; exact hl, fun c hc => ?_, ?_⟩
  · obtain ⟨i, hi, rfl⟩ := List.mem_map.mp hc
    exact g.val _ (List.mem_of_getElem? (colAt_of (h i hi).1 (h i hi).2))
  · refine List.pairwise_map.mpr (nd.imp_of_mem fun {x y} hx hy hne e => hne (colAt_inj g.nd (h x hx) (h y hy) e))
theorem goodC_order {cols : List Col} (g : GoodC cols) {p : Pic} (k : Good p) (h : ∀ c ∈ p.flatten, c < cols.length) : GoodC ((orderF p).map (colAt cols)) :=
  goodC_sub g (orderF_is p).nodup (fun c hc => ⟨(order_cell k c hc).1.1, h c (order_cell k c hc).2⟩) (order_len k)
section
variable {K : PySem.W.Frag} {σ : L2.St} {H : Hp} {ta te tb ti to tl : TE} {tt : TT} {g : TG} {vs : List Nat} {D : Ends} {tz : TS}
/-! ### over a list of which something is known -/
theorem el_overP {Pr : List V → Hp → Prop} {vsx : List V} (h : ∀ H1, Ex H H1 → ∀ Q : VK, (∀ p xs H2, H1 p = none → Ex H1 H2 → H2 p = some (.lst xs) → Pr xs H2 → Q (.ref p) H2) → tl σ H1 Q)
    (k : ∀ p xs H1, Ex H H1 → H1 p = some (.lst xs) → Pr xs H1 → EvL (tLc (iList K (tC (.ref p))) g tt te vs) σ H1 vsx) : EvL (tLc (iList K tl) g tt te vs) σ H vsx := fun H0 e Q q =>
  h H0 e _ fun p xs H1 _ e1 hp hq => k p xs H1 (e.trans e1) hp hq H1 (Ex.refl H1) Q fun r H2 hr e2 h2 => q r H2 (fresh_back e1 hr) (e1.trans e2) h2
/-! ### xs.remove(x) -/
theorem idx_first : ∀ (l : List Int) (x : Int) (m : Nat), m < l.idxOf x → l[m]? ≠ some x
  | [], _, _, _, e => by simp at e
  | y :: l, x, m, h, e => by
    rw [List.idxOf_cons] at h
    by_cases c : y = x
    · rw [c, beq_self_eq_true] at h
      exact absurd h (Nat.not_lt_zero m)
    · have c2 : (y == x) = false := by
        rw [beq_eq_false_iff_ne]
        exact c
      rw [c2] at h
      cases m with
      | zero =>
        simp at e
        exact c e
      | succ m =>
        have h : m + 1 < l.idxOf x + 1 := h
        exact idx_first l x m (by omega) (by simpa using e)
theorem s_remI {l : Addr} {ns : List Int} {x : Int} (hl : H l = some (.lst (rowV ns))) (ha : Ev ta σ H (.ref l)) (h : Ev te σ H (.int x)) (hx : x ∈ ns) (k : ∀ H1, Ex H H1 → D.nx σ (upd H1 l (.lst (rowV (ns.erase x))))) :
    tDrop (tBM K "list" rRemI ta (tCons te tNil)) D σ H := ha H (Ex.refl H) _ fun H1 e1 =>
  ⟨Or.inl ⟨rfl, _, sq_of (e1 l _ hl)⟩, h H1 e1 _ fun H2 e2 => by
    have hi := List.idxOf_lt_length_iff.mpr hx
    refine ⟨l, ns, x, ns.idxOf x, rfl, rfl, e2 l _ (e1 l _ hl), by rw [List.getElem?_eq_getElem hi, List.getElem_idxOf], fun m hm e => ?_, ?_⟩
    · exact idx_first ns x m hm e
    · rw [← List.erase_eq_eraseIdx_of_idxOf rfl]
      exact k H2 (e1.trans e2)⟩
theorem q_remI {l : Addr} {ns : List Int} {x : Int} (hl : H l = some (.lst (rowV ns))) (ha : Ev ta σ H (.ref l)) (h : Ev te σ H (.int x)) (hx : x ∈ ns) (k : ∀ H1, Ex H H1 → tz D σ (upd H1 l (.lst (rowV (ns.erase x))))) :
    tSeq (tDrop (tBM K "list" rRemI ta (tCons te tNil))) tz D σ H := s_remI (D := { D with nx := tz D }) hl ha h hx k
/-! ### the least of new pairs -/
theorem kids_prs {H0 : Hp} {p : Addr} {ps : List Addr} {zs : List (Int × Int)} (k : Kids HO.tup H0 H p ps (zs.map fun z => [V.int z.1, V.int z.2])) : DpAll K H (ps.map V.ref) (zs.map prD) := by
  have hl := k.len
  rw [List.length_map] at hl
  have hat : ∀ (i : Nat) t z, ps[i]? = some t → zs[i]? = some z → H t = some (.tup [V.int z.1, V.int z.2]) := fun i t z h1 h2 => k.at_ i t _ h1 (by rw [List.getElem?_map, h2]; rfl)
  clear k
  induction ps generalizing zs with
  | nil =>
    cases zs with
    | nil => exact .nil
    | cons z l => simp at hl
  | cons t ps ih =>
    cases zs with
    | nil => simp at hl
    | cons z l => exact .cons (.tup (st_of (hat 0 t z rfl rfl)) (.cons (.int _) (.cons (.int _) .nil))) (ih (by simpa using hl) fun i t' z' h1 h2 => hat (i + 1) t' z' h1 h2)
theorem ev_min1 {z : Int × Int} {zs : List (Int × Int)} (h : EvN HO.tup tl σ H ((z :: zs).map fun z => [V.int z.1, V.int z.2])) : Ev (tOp (rIxT K) (tCB (rMinP K) (tCons tl tNil)) (tC (.int 1))) σ H (.int (PySem.W.minOf z zs).2) := fun H1 e Q q =>
  h H1 e _ fun p ps H2 hp e2 k => ⟨p, ps.map V.ref, z, zs, rfl, sq_of k.lst, kids_prs k, fun v hv => by
    cases hv with
    | tup hs ha =>
      rename_i t xs
      cases ha with
      | cons h1 ha =>
        cases h1
        cases ha with
        | cons h2 ha =>
          cases h2
          cases ha
          exact ⟨t, _, 1, _, rfl, rfl, hs, rfl, q H2 e2⟩⟩
/-! ### sorted of new pairs -/
def rdPair (H : Hp) : V → Int × Int
  | .ref t => match H t with
    | some (.tup [.int i, .int j]) => (i, j)
    | _ => (0, 0)
  | _ => (0, 0)
theorem rd_kids {H0 : Hp} {p : Addr} {ps : List Addr} {zs : List (Int × Int)} (k : Kids HO.tup H0 H p ps (zs.map fun z => [V.int z.1, V.int z.2])) : (ps.map V.ref).map (rdPair H) = zs ∧ ∀ x ∈ ps.map V.ref, ∃ t, x = .ref t ∧ H t = some (.tup [.int (rdPair H x).1, .int (rdPair H x).2]) := by
  have hl := k.len
  rw [List.length_map] at hl
  have hat : ∀ (i : Nat) t z, ps[i]? = some t → zs[i]? = some z → H t = some (.tup [V.int z.1, V.int z.2]) := fun i t z h1 h2 => k.at_ i t _ h1 (by rw [List.getElem?_map, h2]; rfl)
  clear k
  induction ps generalizing zs with
  | nil =>
    cases zs with
    | nil => exact ⟨rfl, fun x hx => nomatch hx⟩
    | cons z l => simp at hl
  | cons t ps ih =>
    cases zs with
    | nil => simp at hl
    | cons z l =>
      have h0 := hat 0 t z rfl rfl
      obtain ⟨h1, h2⟩ := ih (by simpa using hl) fun i t' z' h1 h2 => hat (i + 1) t' z' h1 h2
      have e0 : rdPair H (.ref t) = z := by
        show (match H t with
          | some (.tup [.int i, .int j]) => (i, j)
          | _ => (0, 0)) = z
        rw [h0]
      refine ⟨?_, fun x hx => ?_⟩
      · rw [List.map_cons, List.map_cons, h1, e0]
      · rcases List.mem_cons.mp hx with e | hx
        · subst e
          exact ⟨t, rfl, by rw [e0]; exact h0⟩
        · exact h2 x hx
/-- what sorted leaves -/
def SrtP (zs : List (Int × Int)) (ys : List V) (H : Hp) : Prop := ∃ k : V → Int × Int, (∀ y ∈ ys, ∃ t, y = .ref t ∧ H t = some (.tup [.int (k y).1, .int (k y).2])) ∧ (ys.map k).Perm zs ∧ (ys.map k).Pairwise fun x y => SrtO.lexB y x = false
theorem ep_sorted {zs : List (Int × Int)} (h : EvN HO.tup tl σ H (zs.map fun z => [V.int z.1, V.int z.2])) : ∀ H1, Ex H H1 → ∀ Q : VK, (∀ p xs H2, H1 p = none → Ex H1 H2 → H2 p = some (.lst xs) → SrtP zs xs H2 → Q (.ref p) H2) → (tCB (rSortedPO K) (tCons tl tNil)) σ H1 Q := fun H1 e Q q =>
  h H1 e _ fun p ps H2 hp e2 k => by
    obtain ⟨h1, h2⟩ := rd_kids k
    refine ⟨p, ps.map V.ref, rdPair H2, rfl, sq_of k.lst, h2, fun ys p2 hs hb hp2 => q p2 ys _ (fresh_back e2 hp2) (e2.trans (Ex.new hp2)) upd_same ⟨rdPair H2, fun y hy => ?_, ?_, ?_⟩⟩
    · obtain ⟨t, e1, e3⟩ := h2 y (hb.perm.mem_iff.mp hy)
      exact ⟨t, e1, Ex.new hp2 _ _ e3⟩
    · have := hb.perm.map (rdPair H2)
      rw [h1] at this
      exact this
    · exact List.pairwise_map.mpr hs
end
section
variable {P : Program} {w : World} {K : PySem.W.Frag} {mg : Str → Option Value} {base : Heap} {a : Ad}
/-! ### a palette made -/
def EvPal (a : Ad) (K : PySem.W.Frag) (te : TE) (σ : L2.St) (H : Hp) (cols : List Col) : Prop := ∀ H1, Ex H H1 → ∀ Q : VK, (∀ p l H2, Ex H1 H2 → PalN a.pal H1 H2 K p l cols → Q (.ref p) H2) → te σ H1 Q
theorem evpal_make {σ : L2.St} {H : Hp} {tl : TE} {E : XK} {cols : List Col} (h : Ep tl σ H fun v H2 => Dp K H2 v (colsD cols)) (hg : GoodC cols) : EvPal a K (tMake a.pal (spInit K a) [] E (tCons tl tNil)) σ H cols := fun H1 e Q q =>
  h H1 e _ fun v H2 e2 hd => fun x dx hx hdx hne => ⟨H2, x, dx, v, cols, rfl, fun b o hb => by
    rw [upd_ne (ne_of_none hb hx), upd_ne (ne_of_none hb hdx)]
    exact hb, hx, upd_same, hd, hg, fun l H3 e3 n => ⟨rfl, q x l H3 (e2.trans e3) (n.ex e2 (Ex.refl _))⟩⟩
theorem ep_newCols {σ : L2.St} {H : Hp} {tl : TE} {xs : List V} {cols : List Col} (h : EvL tl σ H xs) (hd : DpAll K H xs (cols.map colD)) : Ep tl σ H fun v H2 => Dp K H2 v (colsD cols) := fun H1 e Q q =>
  h H1 e _ fun p H2 hp e2 h2 => q _ H2 e2 (.lst (sq_of h2) (dpax hd (e.trans e2)))
theorem dpa_sub {H : Hp} {cols : List Col} {xs : List V} (hd : DpAll K H xs (cols.map colD)) : ∀ {l : List Int}, (∀ c ∈ l, 0 ≤ c ∧ c < cols.length) → DpAll K H (l.map fun c => xs.getD c.toNat .non) ((l.map (colAt cols)).map colD)
  | [], _ => .nil
  | c :: l, h => by
    obtain ⟨h0, h1⟩ := h c List.mem_cons_self
    obtain ⟨x, h2, h3⟩ := dpa_atH hd (colAt_of h0 h1)
    refine .cons ?_ (dpa_sub hd fun c hc => h c (List.mem_cons_of_mem _ hc))
    show Dp K H (xs.getD c.toNat .non) _
    rw [getD_of h2]
    exact h3
theorem ev_colOf {σ : L2.St} {H : Hp} {tp tc : TE} {E : XK} {p dx l : Addr} {xs : List V} {c : Int} (h1 : Ev tp σ H (.ref p)) (h2 : Ev tc σ H (.int c)) (hp : PalX a.pal H p dx l xs) (h0 : 0 ≤ c) (hl : c < xs.length) :
    Ev (tMeth a.pal "colour_of" (spColOf a) [] E tp (tCons tc tNil)) σ H (xs.getD c.toNat .non) := ev_meth h1 hp.ins rfl (ea_cons h2 ea_nil) fun H1 e1 Q q =>
  ⟨p, dx, l, xs, c, _, rfl, hp.ex e1, h0, by rw [List.getD_eq_getElem?_getD, List.getElem?_eq_getElem (show c.toNat < xs.length by omega)]; rfl, q⟩
/-! ### heir_of -/
theorem used_pairs {α : Type} {us : List Int} (f : Int → Int × Int) : (us.map fun c => [V.int (f c).1, V.int (f c).2]) = (us.map f).map fun z => [V.int z.1, V.int z.2] := by
  rw [List.map_map]
  rfl
def spHeir (K : PySem.W.Frag) (a : Ad) : Sp := fun vs H Q _ => ∃ (gn hr : Int) (us : List Int) (z pl dx l : Addr) (xs : List V) (cols : List Col), vs = [.int gn, .ref z, .ref pl] ∧ SqL K H z (rowV us) ∧ us.length ≤ 16 ∧ PalX a.pal H pl dx l xs ∧ DpAll K H xs (cols.map colD) ∧ GoodC cols ∧
  (∀ c ∈ us, 0 ≤ c ∧ c < cols.length) ∧ gn ∈ us ∧ IsHeir (apF cols gn) us gn hr ∧ RetV (.int hr) H Q
theorem ok_heir_of (T : Txt K mg a) (D : DefAt K mg "heir_of" s_heir_of) (c_colour_of : Mth P w K mg base a.pal 2 "colour_of" ["self", "cell"] (spColOf a)) (c_apart : Cal P w K mg base CX0 4 "apart" ["one", "other"] (spApart K)) :
    Cal P w K mg base CX0 5 "heir_of" ["cell", "used", "palette"] (spHeir K a) := by
  refine cal_of D bd_heir_of sc_heir_of (fun vs H Q E h => ?_) (fun f cdv A outer s H vs Q E hr h => ?_)
  · obtain ⟨gn, hr, us, z, pl, dx, l, xs, cols, rfl, _⟩ := h
    rfl
  · obtain ⟨gn, hh, us, z, pl, dx, l, xs, cols, rfl, hz, hul, hp, hx, hg, hus, hgn, hhr, q⟩ := h
    have hlen : xs.length = cols.length := by
      have := dp_len hx
      rwa [List.length_map] at this
    have hc0 := hus gn hgn
    have hval : ∀ c ∈ us, ValidC (colAt cols c) := fun c hc => hg.val _ (List.mem_of_getElem? (colAt_of (hus c hc).1 (hus c hc).2))
    have hdp : ∀ c ∈ us, Dp K H (xs.getD c.toNat .non) (colD (colAt cols c)) := fun c hc => by
      obtain ⟨x, h2, h3⟩ := dpa_atH hx (colAt_of (hus c hc).1 (hus c hc).2)
      rw [getD_of h2]
      exact h3
    refine ⟨_, (pss_cons (ps_set (i := 3) sc_heir_of.nd rfl (by first | exact Or.inl rfl | exact Or.inr rfl) (pm_c (pv 2) c_colour_of hr pass0 (pa_cons (pv 0) pa_nil)))
      (pss_one (ps_ret (pe_ix (ix_tupK K) (pe_callB (id := "min") (cr_minPK K rfl (u65 hr)) (by rfl) T.b_min (by decide +kernel) (pa_cons (pe_lc (own := [("other", 4)]) (g := (gName 4)) rfl sc_heir_of.nd (pi_listK K (pv 1)) (blkOk_by (by kernel_rfl)) (fun _ _ _ _ _ => (pg_name (i := 4) sc_heir_of.nd rfl (by first | exact Or.inl rfl | exact Or.inr rfl))) (fun _ _ _ _ _ => (pts_one (pt_cmpR op_ne (pv 4) (pv 0) (nomark _)))) (fun _ _ _ _ _ => (pe_tup (pa_cons (pf_c c_apart hr (by rfl) pass0 (pa_cons (pm_c (pv 2) c_colour_of hr pass0 (pa_cons (pv 4) pa_nil)) (pa_cons (pv 3) pa_nil))) (pa_cons (pv 4) pa_nil))))) pa_nil)) pe_int (fun _ _ => rfl))))), ?_⟩
    refine q_asg (ev_colOf (ev_var rfl) (ev_var rfl) hp hc0.1 (by omega)) fun H1 e1 => ?_
    cases hzs : (us.filter fun o => decide (o ≠ gn)).map fun o => (apF cols gn o, o) with
    | nil =>
      have hm : hh ∈ us.filter fun o => decide (o ≠ gn) := List.mem_filter.mpr ⟨hhr.1.1, decide_eq_true hhr.1.2⟩
      rw [List.map_eq_nil_iff.mp hzs] at hm
      cases hm
    | cons z0 zs =>
      refine s_ret (v := .int hh) (ev_at (ev_min1 (z := z0) (zs := zs) ?_) (by rw [min_heir hhr hzs.symm])) fun H2 e2 => q H2 (e1.trans e2)
      rw [← hzs, ← used_pairs (α := Int)]
      refine en_data (f := PyData.int) (b := fun o => decide (o ≠ gn)) (ev_var rfl) (ex_l e1 hz) (dpa_ints us) (by omega) (fun _ => rfl) (fun x o H2 ho hd e2 => ?_) (fun x o H2 ho hb hd e2 => ?_)
      · cases hd
        refine et_at (et_test (ev_op (ev_var rfl) (ev_var rfl) (rv_ne rfl))) ?_
        simp
      · cases hd
        have hp2 := hp.ex (e1.trans e2)
        exact eo_u (eu_tup (ea_cons (ev_apart (ev_colOf (ev_var rfl) (ev_var rfl) hp2 (hus o ho).1 (by have := (hus o ho).2; omega)) (ev_var rfl) (dpx (hdp o ho) (e1.trans e2)) (dpx (hdp gn hgn) (e1.trans e2)) (hval o ho) (hval gn hgn)) (ea_cons (ev_var rfl) ea_nil)) (show 2 ≤ 100000 by decide))
end
end C19
set_option Elab.async false
set_option linter.all false
set_option maxRecDepth 100000
set_option maxHeartbeats 4000000
namespace C19
open PySem PySem.Spec PyProof.Rows L2 Evl
section
variable {P : Program} {w : World} {K : PySem.W.Frag} {mg : Str → Option Value} {base : Heap} {a : Ad}
/-! ### a palette that is given -/
structure PalG (K : PySem.W.Frag) (a : Ad) (H : Hp) (v : V) (pl dx l : Addr) (xs : List V) (cols : List Col) : Prop where
  eq : v = .ref pl
  at_ : PalX a.pal H pl dx l xs
  dp : DpAll K H xs (cols.map colD)
  good : GoodC cols
theorem PalG.ex {H H' : Hp} {v : V} {pl dx l : Addr} {xs : List V} {cols : List Col} (h : PalG K a H v pl dx l xs cols) (e : Ex H H') : PalG K a H' v pl dx l xs cols := ⟨h.eq, h.at_.ex e, dpax h.dp e, h.good⟩
theorem PalG.len {H : Hp} {v : V} {pl dx l : Addr} {xs : List V} {cols : List Col} (h : PalG K a H v pl dx l xs cols) : xs.length = cols.length := by
  have := dp_len h.dp
  rwa [List.length_map] at this
/-! ### calls that raise; pairs returned -/
section
variable {σ : L2.St} {H : Hp} {sp : Sp} {E : XK} {tA : TA} {vs : List V} {D : Ends} {tz : TS} {g : TG}
theorem q_callX (h : EvA tA σ H vs) (k : ∀ H1, Ex H H1 → ∀ Q : VK, sp vs H1 Q E) : tSeq (tAsg (tCall sp [] E tA) g) tz D σ H := h H (Ex.refl _) _ fun H1 e1 => by
  show sp (vs ++ []) H1 _ E
  rw [List.append_nil]
  exact k H1 e1 _
theorem s_retT2 {t1 t2 : TE} (h : t1 σ H fun v1 H1 => t2 σ H1 fun v2 H2 => ∀ t, H2 t = none → D.rt (.ref t) (upd H2 t (.tup [v1, v2]))) : tRet (tTup (tCons t1 (tCons t2 tNil))) D σ H := by
  have k : ∀ (v1 v2 : V) (H2 : Hp), (∀ t, H2 t = none → D.rt (.ref t) (upd H2 t (.tup [v1, v2]))) → ([v1, v2].length ≤ sizeLine ∧ ∀ t, H2 t = none → D.rt (.ref t) (upd H2 t (.tup [v1, v2]))) := fun v1 v2 H2 q => ⟨by
    have := sizeLine_eq
    show 2 ≤ sizeLine
    omega, q⟩
  have e : (fun v1 v2 H2 => ([v1, v2].length ≤ sizeLine ∧ ∀ t, H2 t = none → D.rt (.ref t) (upd H2 t (.tup [v1, v2])))) = fun v1 v2 H2 => ∀ t, H2 t = none → D.rt (.ref t) (upd H2 t (.tup [v1, v2])) := by
    funext v1 v2 H2
    exact propext ⟨fun h => h.2, k v1 v2 H2⟩
  show t1 σ H fun v1 H1 => t2 σ H1 fun v2 H2 => (fun v1 v2 H2 => ([v1, v2].length ≤ sizeLine ∧ ∀ t, H2 t = none → D.rt (.ref t) (upd H2 t (.tup [v1, v2])))) v1 v2 H2
  rw [e]
  exact h
end
/-! ### the counts, item by item -/
theorem givenL_counts {p : Pic} : givenL 16 (fun i => decide (0 < cnt p ((i : Nat) : Int))) (fun i => [V.int (0 - ((cnt p ((i : Nat) : Int) : Nat) : Int)), V.int ((i : Nat) : Int)]) = (used p).map fun c => [V.int (0 - ((cnt p c : Nat) : Int)), V.int c] := by
  unfold givenL used
  rw [List.map_map]
  rfl
theorem given_counts {p : Pic} : given 16 (fun i => decide (0 < cnt p ((i : Nat) : Int))) (fun i => V.int ((i : Nat) : Int)) = rowV (used p) := by
  unfold given used rowV
  rw [List.map_map]
  rfl
theorem row_at {ns : List Int} {i : Nat} {y : V} (h : (rowV ns)[i]? = some y) : ∃ n, ns[i]? = some n ∧ y = .int n := by
  rw [rowV, List.getElem?_map] at h
  obtain ⟨n, h1, h2⟩ := Option.map_eq_some_iff.mp h
  exact ⟨n, h1, h2.symm⟩
theorem counts_row_at {p : Pic} {i : Nat} {y : V} (h : (rowV (counts p))[i]? = some y) : y = .int ((cnt p ((i : Nat) : Int) : Nat) : Int) ∧ i < 16 := by
  obtain ⟨n, h1, rfl⟩ := row_at h
  have hlt := (List.getElem?_eq_some_iff.mp h1).1
  rw [counts_len] at hlt
  rw [counts_at p hlt] at h1
  exact ⟨by rw [Option.some.inj h1], hlt⟩
theorem row_len (ns : List Int) : (rowV ns).length = ns.length := List.length_map _
/-! ### ordered_picture -/
/-- what it answers -/
def RetOrd (K : PySem.W.Frag) (a : Ad) (cols : List Col) (p : Pic) (H : Hp) (Q : VK) : Prop := ∀ t q lq r H2, Ex H H2 → H t = none → H2 t = some (.tup [.ref q, .ref r]) → PalN a.pal H H2 K q lq ((orderF p).map (colAt cols)) → NewP H H2 r (ranked (orderF p) p) → Q (.ref t) H2
def spOrd (K : PySem.W.Frag) (a : Ad) : Sp := fun vs H Q E => ∃ x v : V, vs = [x, v] ∧ ((∃ (p : Pic) (pl dx l : Addr) (xs : List V) (cols : List Col), PalG K a H v pl dx l xs cols ∧ Dp K H x (picD p) ∧ Good p ∧
  (((∀ c ∈ p.flatten, c < ((cols.length : Nat) : Int)) ∧ RetOrd K a cols p H Q) ∨ ((∃ c ∈ p.flatten, ((cols.length : Nat) : Int) ≤ c) ∧ ∀ H', Ex H H' → E (.ref a.noc) none H'))) ∨ (ThP K H x false ∧ ∀ H', Ex H H' → E (.ref a.pic) none H'))
theorem ok_ordered_picture (T : Txt K mg a) (D : DefAt K mg "ordered_picture" s_ordered_picture) (c_used_counts : Cal P w K mg base (L2N.CX P w) 7 "used_counts" ["picture", "palette"] (spUsed K a)) (c_colour_of : Mth P w K mg base a.pal 2 "colour_of" ["self", "cell"] (spColOf a))
    (c_Palette : Mkr P w K mg base a.pal 3 "Palette" ["self", "colours"] (spInit K a)) (c_recoloured : Cal P w K mg base CX0 6 "recoloured" ["picture", "numbers"] (spRecol K)) :
    Cal P w K mg base (L2N.CX P w) 8 "ordered_picture" ["picture", "palette"] (spOrd K a) := by
  refine cal_of D bd_ordered_picture sc_ordered_picture (fun vs H Q E h => ?_) (fun f cdv A outer s H vs Q E hr h => ?_)
  · obtain ⟨x, v, rfl, _⟩ := h
    rfl
  · obtain ⟨x, v, rfl, h⟩ := h
    refine ⟨_, (pss_cons (ps_set (i := 2) sc_ordered_picture.nd rfl (by first | exact Or.inl rfl | exact Or.inr rfl) (pf_c c_used_counts hr (by rfl) (L2N.passes_call (L2N.takes_of rfl rfl rfl rfl) fun _ _ _ _ h => h) (pa_cons (pv 0) (pa_cons (pv 1) pa_nil))))
      (pss_cons (ps_setLc (i := 3) (own := [("pair", 4)]) (g := (gName 4)) rfl sc_ordered_picture.nd rfl rfl (sw_true rfl rfl rfl (by decide +kernel)) (pi_listK K (pe_callB (id := "sorted") (cr_sortK K) (by rfl) T.b_sorted (by decide +kernel) (pa_cons (pe_lc (own := [("cell", 5), ("number", 6)]) rfl sc_ordered_picture.nd (pi_enumK K (by rfl) T.b_enumerate (pa_cons (pv 2) pa_nil)) (blkOk_by (by kernel_rfl)) (fun _ _ _ _ _ => (pg_tupK K (n := 2) rfl (pgs_cons (pg_name (i := 5) sc_ordered_picture.nd rfl (by first | exact Or.inl rfl | exact Or.inr rfl)) (pgs_cons (pg_name (i := 6) sc_ordered_picture.nd rfl (by first | exact Or.inl rfl | exact Or.inr rfl)) pgs_nil)))) (fun _ _ _ _ _ => (pts_one (pt_cmpR op_gt (pv 6) pe_int (nomark _)))) (fun _ _ _ _ _ => (pe_tup (pa_cons (pe_op op_sub pe_int (pv 6)) (pa_cons (pv 5) pa_nil))))) pa_nil))) (blkOk_by (by kernel_rfl)) (fun _ _ _ _ _ => (pg_name (i := 4) sc_ordered_picture.nd rfl (by first | exact Or.inl rfl | exact Or.inr rfl))) (fun _ _ _ _ _ => pts_nil) (fun _ _ _ _ _ => (pe_ix (ix_tupK K) (pv 4) pe_int (fun _ _ => rfl))))
      (pss_cons (ps_set (i := 7) sc_ordered_picture.nd rfl (by first | exact Or.inl rfl | exact Or.inr rfl) (pe_op op_rep (pe_lst (pa_cons pe_int pa_nil)) (pe_k T.k_MOST_COLOURS)))
      (pss_cons (ps_for (L2.passes_of rfl) rfl (pi_enumK K (by rfl) T.b_enumerate (pa_cons (pv 3) pa_nil)) (pg_tupK K (n := 2) rfl (pgs_cons (pg_name (i := 8) sc_ordered_picture.nd rfl (by first | exact Or.inl rfl | exact Or.inr rfl)) (pgs_cons (pg_name (i := 5) sc_ordered_picture.nd rfl (by first | exact Or.inl rfl | exact Or.inr rfl)) pgs_nil))) (pss_one (ps_asg (pv 8) (pg_sub (pv 7) (pv 5) set_list))))
      (pss_one (ps_ret (pe_tup (pa_cons (pk_c c_Palette hr (by rfl) pass0 (pa_cons (pe_lc (own := [("cell", 5)]) (g := (gName 5)) rfl sc_ordered_picture.nd (pi_listK K (pv 3)) (blkOk_by (by kernel_rfl)) (fun _ _ _ _ _ => (pg_name (i := 5) sc_ordered_picture.nd rfl (by first | exact Or.inl rfl | exact Or.inr rfl))) (fun _ _ _ _ _ => pts_nil) (fun _ _ _ _ _ => (pm_c (pv 1) c_colour_of hr pass0 (pa_cons (pv 5) pa_nil)))) pa_nil)) (pa_cons (pf_c c_recoloured hr (by rfl) pass0 (pa_cons (pv 0) (pa_cons (pv 7) pa_nil))) pa_nil))))))))), ?_⟩
    have hv0 : Ev (tVar 0) (start ["picture", "palette", "counts", "order", "pair", "cell", "number", "numbers", "place"] [x, v]) H x := ev_var rfl
    have hv1 : Ev (tVar 1) (start ["picture", "palette", "counts", "order", "pair", "cell", "number", "numbers", "place"] [x, v]) H v := ev_var rfl
    rcases h with ⟨p, pl, dx, l, xs, cols, hp, hx, hg, ⟨hall, q⟩ | ⟨hsome, q⟩⟩ | ⟨hx, q⟩
    · have hlen := hp.len
      have hpv := hp.eq
      subst hpv
      refine q_asgL (el_callV (ea_cons hv0 (ea_cons hv1 ea_nil)) fun H1 e1 Q q => ⟨x, .ref pl, rfl, .inl ⟨p, pl, dx, l, xs, rfl, hp.at_.ex e1, dpx hx e1, hg, fun _ => q, fun ⟨c, hc, hle⟩ => by
        have := hall c hc
        omega⟩⟩) fun r1 H1 hr1 e1 hr1v => ?_
      have hord := orderF_is p
      have holen := order_len hg
      refine q_asgL (xs := rowV (orderF p)) (el_overP (ep_sorted (zs := (used p).map fun c => (0 - ((cnt p c : Nat) : Int), c)) ?_) fun p2 ys H2 e2 h2 hs => ?_) fun r2 H2 hr2 e2 hr2v => ?_
      · rw [← used_pairs (α := Int), ← givenL_counts]
        have hl16 : (rowV (counts p)).length = 16 := by rw [row_len, counts_len]
        rw [← hl16]
        refine en_enum (ea_cons (ev_var rfl) ea_nil) (sq_of hr1v) (by omega) (fun _ _ => rfl) (fun i y H2 hy e2 => ?_) (fun i y H2 hy hb e2 => ?_)
        · obtain ⟨rfl, _⟩ := counts_row_at hy
          refine et_at (et_test (ev_op (ev_var rfl) ev_c rv_I0)) (decide_eq_decide.mpr (by omega))
        · obtain ⟨rfl, _⟩ := counts_row_at hy
          exact eo_u (eu_tup (ea_cons (ev_op ev_c (ev_var rfl) rv_I0) (ea_cons (ev_var rfl) ea_nil)) (show 2 ≤ 100000 by decide))
      · obtain ⟨k, k1, k2, k3⟩ := hs
        have ho : IsOrder p (ys.map fun y => (k y).2) := by
          have := order_of_sorted k2 k3
          rw [List.map_map] at this
          exact this
        have eo : rowV (orderF p) = ys.map fun y => V.int (k y).2 := by
          rw [← order_eq ho, rowV, List.map_map]
          rfl
        have hyl : ys.length ≤ 16 := by
          have := order_eq ho
          have h3 : (ys.map fun y => (k y).2).length = (orderF p).length := by rw [this]
          rw [List.length_map] at h3
          omega
        rw [eo]
        refine el_map (f := fun y => V.int (k y).2) ev_c (sq_of h2) (by omega) (fun _ => rfl) fun y H3 hy e3 => ?_
        obtain ⟨t, rfl, ht⟩ := k1 y hy
        exact ev_op (ev_var rfl) ev_c (rv_ixT (st_of (e3 _ _ ht)) rfl)
      refine q_asgL (xs := rowV (rankN (orderF p) 0)) (by
        rw [rankN_zero]
        exact el_rep (k := 16) (xs := [.int 0]) (el_lst (ea_cons ev_c ea_nil) (by decide)) (fun _ _ => ev_c) (by omega) (by decide)) fun r3 H3 hr3 e3 hr3v => ?_
      have e12 := e1.trans e2
      refine q_forE (a := r2) (xs := rowV (orderF p)) (ea_cons (ev_var rfl) ea_nil) (sq_of (e3 _ _ hr2v)) (fun i σ' H' => Ex H2 H' ∧ H' r3 = some (.lst (rowV (rankN (orderF p) i))) ∧ ∃ s4 s5 s6 s8, σ' = [some x, some (.ref pl), some (.ref r1), some (.ref r2), s4, s5, s6, some (.ref r3), s8])
        (fun H4 e4 => ⟨e3.trans e4, e4 _ _ hr3v, _, _, _, _, rfl⟩) (fun i σ' H' _ h => sq_of (h.1 _ _ hr2v)) (fun i y σ' H' T' hy h hT => ?_) (fun σ' H' h => ?_)
      · obtain ⟨h1, h2, s4, s5, s6, s8, rfl⟩ := h
        obtain ⟨c, hc, rfl⟩ := row_at hy
        have hcc := (order_cell hg c (List.mem_of_getElem? hc)).1
        have e0 : c = ((c.toNat : Nat) : Int) := by omega
        have eT : Ex H' (upd H' T' (.tup [.int ((i : Nat) : Int), .int c])) := Ex.new hT
        refine s_setL (j := c.toNat) (eT _ _ h2) (ev_var rfl) (ev_var rfl) (ev_at (ev_var rfl) (by rw [← e0])) (by rw [row_len, rankN_len]; omega) fun H5 e5 => ⟨Ex.mut ((h1.trans eT).trans e5) hr3, ?_, _, _, _, _, rfl⟩
        rw [upd_same, ← rankN_step hord.nodup hc hcc, rowV, rowV, List.map_set]
      · obtain ⟨h1, h2, s4, s5, s6, s8, rfl⟩ := h
        rw [row_len] at h2
        have hpH := hp.ex (e12.trans h1)
        have hsub : ∀ c ∈ orderF p, 0 ≤ c ∧ c < ((cols.length : Nat) : Int) := fun c hc => ⟨(order_cell hg c hc).1.1, hall c (order_cell hg c hc).2⟩
        have hcomp : ∀ {H5 : Hp}, Ex H' H5 → EvL _ _ H5 ((orderF p).map fun c => xs.getD c.toNat .non) := fun {H5} e5 => el_dataM (te := tMeth a.pal "colour_of" (spColOf a) [] E0 (tVar 1) (tCons (tVar 5) tNil)) (vs := [5]) (j := 5) (σ := [some x, some (.ref pl), some (.ref r1), some (.ref r2), s4, s5, s6, some (.ref r3), s8]) (tl := tVar 3) (K := K) (f := PyData.int) (items := orderF p)
          (v := fun c => xs.getD c.toNat .non) (ev_var rfl) (sq_of (e5 _ _ (h1 _ _ hr2v))) (dpa_ints _) (by omega) (fun _ => rfl) fun y c H6 hc hd e6 => by
            cases hd
            have := hsub c hc
            exact ev_colOf (ev_var rfl) (ev_var rfl) (hpH.at_.ex (e5.trans e6)) this.1 (by omega)
        refine s_retT2 (evpal_make (ep_newCols (hcomp (Ex.refl _)) (dpa_sub hpH.dp hsub)) (goodC_order hp.good hg hall) H' (Ex.refl _) _ fun q0 l0 H5 e5 n5 => ?_)
        refine evp_call (rows := ranked (orderF p) p) (ea_cons (ev_var rfl) (ea_cons (ev_var rfl) ea_nil)) (fun H6 e6 Q q => ⟨x, .ref r3, p, rankN (orderF p) (orderF p).length, rfl, dpx hx ((e12.trans h1).trans (e5.trans e6)), hg, dp_row (sq_of (e6 _ _ (e5 _ _ h2))), rankN_len _ _, rankN_range holen.2, by
          rw [app_rank hg hord]
          exact q⟩) H5 (Ex.refl _) _ fun r0 H6 e6 n6 t ht => ?_
        have eA := e12.trans h1
        exact q t q0 l0 r0 _ ((eA.trans (e5.trans e6)).trans (Ex.new ht)) (fresh_back (eA.trans (e5.trans e6)) ht) upd_same (n5.ex eA (e6.trans (Ex.new ht))) (n6.ex (eA.trans e5) (Ex.new ht))
    · have hlen := hp.len
      have hpv := hp.eq
      subst hpv
      exact q_callX (ea_cons hv0 (ea_cons hv1 ea_nil)) fun H1 e1 Q => ⟨x, .ref pl, rfl, .inl ⟨p, pl, dx, l, xs, rfl, hp.at_.ex e1, dpx hx e1, hg, fun hall => by
        obtain ⟨c, hc, hle⟩ := hsome
        have := hall c hc
        omega, fun _ H2 e2 => q H2 (e1.trans e2)⟩⟩
    · exact q_callX (ea_cons hv0 (ea_cons hv1 ea_nil)) fun H1 e1 Q => ⟨x, v, rfl, .inr ⟨thp_ex hx e1, fun H2 e2 => q H2 (e1.trans e2)⟩⟩
end
end C19
set_option Elab.async false
set_option linter.all false
set_option maxRecDepth 100000
set_option maxHeartbeats 4000000
namespace C19
open PySem PySem.Spec PyProof.Rows L2 Evl
section
variable {P : Program} {w : World} {K : PySem.W.Frag} {mg : Str → Option Value} {base : Heap} {a : Ad}
/-! ### fewer_cells -/
def spFew (K : PySem.W.Frag) (a : Ad) : Sp := fun vs H Q E => ∃ x v m : V, vs = [x, v, m] ∧ ((∃ (p : Pic) (pl dx l : Addr) (xs : List V) (cols : List Col), PalG K a H v pl dx l xs cols ∧ Dp K H x (picD p) ∧ Good p ∧
  (((∀ c ∈ p.flatten, c < ((cols.length : Nat) : Int)) ∧ ((∃ k : Nat, m = .int ((k : Nat) : Int) ∧ 1 ≤ k ∧ k ≤ 16 ∧ RetP (fewM cols k p) H Q) ∨ (∃ d, Dp K H m d ∧ amB d 1 16 = false ∧ ∀ H', Ex H H' → E (.ref a.siz) none H'))) ∨
    ((∃ c ∈ p.flatten, ((cols.length : Nat) : Int) ≤ c) ∧ ∀ H', Ex H H' → E (.ref a.noc) none H'))) ∨ (ThP K H x false ∧ ∀ H', Ex H H' → E (.ref a.pic) none H'))
theorem rgV_ns0 : rgV 0 16 = rowV ns0 := by
  unfold rgV rowV ns0
  rw [List.map_map]
  refine List.map_congr_left fun i _ => ?_
  show V.int (0 + ((i : Nat) : Int)) = V.int ((i : Nat) : Int)
  rw [Int.zero_add]
theorem el_listRg {σ : L2.St} {H : Hp} {tb : TE} (h : Ev tb σ H (.int 16)) : EvL (tLstRg (tRg1 tb)) σ H (rowV ns0) := fun H1 e Q q => h H1 e _ fun H2 e2 => ⟨16, rfl, RgOk.of_le (by omega) (by omega) (by omega) (by omega), fun r hr => by
  rw [rgV_ns0]
  exact q r _ (fresh_back e2 hr) (e2.trans (Ex.new hr)) upd_same⟩
/-- while there are more than k -/
structure WS (cols : List Col) (p : Pic) (k : Nat) (x m : V) (pl : Addr) (H1 : Hp) (n : Nat) (σ' : L2.St) (H' : Hp) (lc ln lu : Addr) (cs ns : List Int) : Prop where
  st : ∃ s6 s7 s8 s9, σ' = [some x, some (.ref pl), some m, some (.ref lc), some (.ref ln), some (.ref lu), s6, s7, s8, s9]
  ex : Ex H1 H'
  f1 : H1 lc = none
  f2 : H1 lu = none
  n1 : lc ≠ ln
  n2 : lc ≠ lu
  n3 : ln ≠ lu
  hc : H' lc = some (.lst (rowV cs))
  hn : H' ln = some (.lst (rowV ns))
  hu : H' lu = some (.lst (rowV (used (iter cols n p))))
  cl : cs.length = 16
  ca : ∀ c ∈ used (iter cols n p), cs[c.toNat]? = some ((cnt (iter cols n p) c : Nat) : Int)
  nl : ns.length = 16
  nr : ∀ i ∈ ns, 0 ≤ i ∧ i ≤ 15
  na : app ns p = iter cols n p
  lt : n < (used p).length ∧ n ≤ (used p).length - k
theorem ok_fewer_cells (T : Txt K mg a) (D : DefAt K mg "fewer_cells" s_fewer_cells) (c_used_counts : Cal P w K mg base (L2N.CX P w) 7 "used_counts" ["picture", "palette"] (spUsed K a)) (c_is_among : Cal P w K mg base CX0 1 "is_among" ["thing", "least", "most"] (spAmong K))
    (c_heir_of : Cal P w K mg base CX0 5 "heir_of" ["cell", "used", "palette"] (spHeir K a)) (c_recoloured : Cal P w K mg base CX0 6 "recoloured" ["picture", "numbers"] (spRecol K)) :
    Cal P w K mg base (L2N.CX P w) 8 "fewer_cells" ["picture", "palette", "many"] (spFew K a) := by
  refine cal_of D bd_fewer_cells sc_fewer_cells (fun vs H Q E h => ?_) (fun f cdv A outer s H vs Q E hr h => ?_)
  · obtain ⟨x, v, m, rfl, _⟩ := h
    rfl
  · obtain ⟨x, v, m, rfl, h⟩ := h
    refine ⟨_, (pss_cons (ps_set (i := 3) sc_fewer_cells.nd rfl (by first | exact Or.inl rfl | exact Or.inr rfl) (pf_c c_used_counts hr (by rfl) (L2N.passes_call (L2N.takes_of rfl rfl rfl rfl) fun _ _ _ _ h => h) (pa_cons (pv 0) (pa_cons (pv 1) pa_nil))))
      (pss_cons (ps_if (pt_not (pt_val (pf_c c_is_among hr (by rfl) pass0 (pa_cons (pv 2) (pa_cons pe_int (pa_cons (pe_k T.k_MOST_COLOURS) pa_nil)))))) (pss_one (L2N.ps_raise rfl (L2N.takes_of rfl rfl rfl rfl) (L2N.pmk_own PySem.F.excBase_ValueError T.x_BadSize.x T.g_BadSize T.x_BadSize.k (raises_own T.x_BadSize.b T.x_BadSize.t) rfl))) pss_nil)
      (pss_cons (ps_set (i := 4) sc_fewer_cells.nd rfl (by first | exact Or.inl rfl | exact Or.inr rfl) (pe_listRg rfl (by rfl) T.b_list (prg_1 (by rfl) T.b_range (pe_k T.k_MOST_COLOURS))))
      (pss_cons (ps_setLc (i := 5) (own := [("cell", 6), ("number", 7)]) rfl sc_fewer_cells.nd rfl rfl (sw_true rfl rfl rfl (by decide +kernel)) (pi_enumK K (by rfl) T.b_enumerate (pa_cons (pv 3) pa_nil)) (blkOk_by (by kernel_rfl)) (fun _ _ _ _ _ => (pg_tupK K (n := 2) rfl (pgs_cons (pg_name (i := 6) sc_fewer_cells.nd rfl (by first | exact Or.inl rfl | exact Or.inr rfl)) (pgs_cons (pg_name (i := 7) sc_fewer_cells.nd rfl (by first | exact Or.inl rfl | exact Or.inr rfl)) pgs_nil)))) (fun _ _ _ _ _ => (pts_one (pt_cmpR op_gt (pv 7) pe_int (nomark _)))) (fun _ _ _ _ _ => (pv 6)))
      (pss_cons (ps_while (L2.passes_of rfl) (pt_cmpR op_gt (pe_callB (id := "len") (call_lenK K) (by rfl) T.b_len (by decide +kernel) (pa_cons (pv 5) pa_nil)) (pv 2) (nomark _)) (pss_cons (ps_set (i := 8) sc_fewer_cells.nd rfl (by first | exact Or.inl rfl | exact Or.inr rfl) (pe_op op_sub pe_int (pe_ix (ix_tupK K) (pe_callB (id := "min") (cr_minPK K rfl (u65 hr)) (by rfl) T.b_min (by decide +kernel) (pa_cons (pe_lc (own := [("cell", 6)]) (g := (gName 6)) rfl sc_fewer_cells.nd (pi_listK K (pv 5)) (blkOk_by (by kernel_rfl)) (fun _ _ _ _ _ => (pg_name (i := 6) sc_fewer_cells.nd rfl (by first | exact Or.inl rfl | exact Or.inr rfl))) (fun _ _ _ _ _ => pts_nil) (fun _ _ _ _ _ => (pe_tup (pa_cons (pe_ix (ix_listK K) (pv 3) (pv 6) (fun _ _ => rfl)) (pa_cons (pe_op op_sub pe_int (pv 6)) pa_nil))))) pa_nil)) pe_int (fun _ _ => rfl))))
      (pss_cons (ps_set (i := 9) sc_fewer_cells.nd rfl (by first | exact Or.inl rfl | exact Or.inr rfl) (pf_c c_heir_of hr (by rfl) pass0 (pa_cons (pv 8) (pa_cons (pv 5) (pa_cons (pv 1) pa_nil)))))
      (pss_cons (ps_augS (pv 3) (pv 9) (pget_listK K) (pe_ix (ix_listK K) (pv 3) (pv 8) (fun _ _ => rfl)) ip_add set_list)
      (pss_cons (ps_setLc (i := 4) (own := [("cell", 6)]) (g := (gName 6)) rfl sc_fewer_cells.nd rfl rfl (sw_true rfl rfl rfl (by decide +kernel)) (pi_listK K (pv 4)) (blkOk_by (by kernel_rfl)) (fun _ _ _ _ _ => (pg_name (i := 6) sc_fewer_cells.nd rfl (by first | exact Or.inl rfl | exact Or.inr rfl))) (fun _ _ _ _ _ => pts_nil) (fun _ _ _ _ _ => (pe_ifExp (pt_cmpR op_eq (pv 6) (pv 8) (nomark _)) (pv 9) (pv 6))))
      (pss_one (ps_expr (pe_bmK K PySem.F.plainAttrs_list PySem.F.slot_list_remove PySem.F.type_list_remove mt_remove (pv 5) (pa_cons (pv 8) pa_nil)))))))))
      (pss_one (ps_ret (pf_c c_recoloured hr (by rfl) pass0 (pa_cons (pv 0) (pa_cons (pv 4) pa_nil)))))))))), ?_⟩
    have hv0 : Ev (tVar 0) (start ["picture", "palette", "many", "counts", "numbers", "used", "cell", "number", "gone", "heir"] [x, v, m]) H x := ev_var rfl
    have hv1 : Ev (tVar 1) (start ["picture", "palette", "many", "counts", "numbers", "used", "cell", "number", "gone", "heir"] [x, v, m]) H v := ev_var rfl
    rcases h with ⟨p, pl, dx, l, xs, cols, hp, hx, hg, ⟨hall, h⟩ | ⟨hsome, q⟩⟩ | ⟨hx, q⟩
    · have hlen := hp.len
      have hpv := hp.eq
      subst hpv
      refine q_asgL (el_callV (ea_cons hv0 (ea_cons hv1 ea_nil)) fun H1 e1 Q q => ⟨x, .ref pl, rfl, .inl ⟨p, pl, dx, l, xs, rfl, hp.at_.ex e1, dpx hx e1, hg, fun _ => q, fun ⟨c, hc, hle⟩ => by
        have := hall c hc
        omega⟩⟩) fun r1 H1 hr1 e1 hr1v => ?_
      rcases h with ⟨k, rfl, hk1, hk2, q⟩ | ⟨d, hd, hda, q⟩
      · refine q_when (b := false) (et_at (et_not (et_B (ev_among (d := .int ((k : Nat) : Int)) (ev_var rfl) ev_c ev_c (.int _)))) (by
          show (!(decide ((1 : Int) ≤ ((k : Nat) : Int)) && decide (((k : Nat) : Int) ≤ 16))) = false
          rw [decide_eq_true (by omega), decide_eq_true (by omega)]
          rfl)) (fun hb => nomatch hb) fun _ H2 e2 => ?_
        refine q_asgL (el_listRg ev_c) fun r2 H3 hr2 e3 hr2v => ?_
        have hl16 : (rowV (counts p)).length = 16 := by rw [row_len, counts_len]
        refine q_asgL (xs := rowV (used p)) (by
          rw [← given_counts, ← hl16]
          refine el_enum (ea_cons (ev_var rfl) ea_nil) (sq_of (e3 _ _ (e2 _ _ hr1v))) (by omega) (fun _ _ => rfl) (fun i y H4 hy e4 => ?_) (fun i y H4 hy hb e4 => ?_)
          · obtain ⟨rfl, _⟩ := counts_row_at hy
            refine et_at (et_test (ev_op (ev_var rfl) ev_c rv_I0)) (decide_eq_decide.mpr (by omega))
          · exact ev_var rfl) fun r3 H4 hr3 e4 hr3v => ?_
        have hU : 0 < (used p).length := List.length_pos_iff.mpr hg.used_ne
        have e14 := e1.trans (e2.trans (e3.trans e4))
        have ne12 : r1 ≠ r2 := fun e => by
          have := e2 _ _ hr1v
          rw [e, hr2] at this
          cases this
        have ne13 : r1 ≠ r3 := fun e => by
          have := e3 _ _ (e2 _ _ hr1v)
          rw [e, hr3] at this
          cases this
        have ne23 : r2 ≠ r3 := fun e => by
          rw [e, hr3] at hr2v
          cases hr2v
        have hsub : ∀ c ∈ used p, 0 ≤ c ∧ c < ((cols.length : Nat) : Int) := fun c hc => ⟨(mem_used.mp hc).1.1, hall c (hg.mem_used.mp hc)⟩
        refine q_while (fun mm σ' H' => ∃ n lc ln lu cs ns, mm = (used p).length - n ∧ WS cols p k x (.int ((k : Nat) : Int)) pl H n σ' H' lc ln lu cs ns) (used p).length ⟨0, r1, r2, r3, counts p, ns0, rfl, ⟨⟨_, _, _, _, rfl⟩, e14, hr1, fresh_back (e1.trans (e2.trans e3)) hr3, ne12, ne13, ne23, e4 _ _ (e3 _ _ (e2 _ _ hr1v)), e4 _ _ hr2v, hr3v, counts_len p,
            fun c hc => by
              have hcc := (mem_used.mp hc).1
              rw [counts_at p (by omega), show ((c.toNat : Nat) : Int) = c by omega]
              rfl, by simp [ns0], fun i hi => by
              obtain ⟨j, hj, rfl⟩ := List.mem_map.mp hi
              have := List.mem_range.mp hj
              omega, app_ns0 hg, hU, Nat.zero_le _⟩⟩ (fun mm σ' H' h => ?_)
        obtain ⟨n, lc, ln, lu, cs, ns, rfl, W⟩ := h
        obtain ⟨s6, s7, s8, s9, rfl⟩ := W.st
        obtain ⟨hq1, hq2, hq3⟩ := iter_good (cols := cols) hg W.lt.1
        have hW := W.lt
        generalize hqe : iter cols n p = qq at hq1 hq2 hq3
        have hwc := W.hc
        have hwn := W.hn
        have hwu := W.hu
        have hwca := W.ca
        have hwna := W.na
        rw [hqe] at hwu hwca hwna
        refine ⟨decide (((used qq).length : Int) > ((k : Nat) : Int)), et_test (ev_at (ev_op (ev_lenA (xs := rowV (used qq)) (ev_var rfl) (.inl (sq_of hwu))) (ev_var rfl) rv_I0) (by rw [row_len])), fun hb H5 e5 => ?_, fun hb H5 e5 => ?_⟩
        · have hb := of_decide_eq_true hb
          have h2 : 2 ≤ (used qq).length := by omega
          have hgo := goneF_is (p := qq) (fun e => by rw [e] at h2; simp at h2)
          have hhe := heirOf_is (cols := cols) h2
          have hqs : ∀ c ∈ used qq, (0 ≤ c ∧ c ≤ 15) ∧ c ∈ used p := fun c hc => ⟨(mem_used.mp hc).1, hq3 c hc⟩
          refine ⟨fun σ2 H2 => ∃ lc ln lu cs ns, WS cols p k x (.int ((k : Nat) : Int)) pl H (n + 1) σ2 H2 lc ln lu cs ns, fun σ2 H2 ⟨lc, ln, lu, cs, ns, W2⟩ => ⟨(used p).length - (n + 1), by omega, n + 1, lc, ln, lu, cs, ns, rfl, W2⟩, ?_⟩
          cases hzs : (used qq).map fun c => (((cnt qq c : Nat) : Int), 0 - c) with
          | nil =>
            rw [List.map_eq_nil_iff.mp hzs] at h2
            simp at h2
          | cons z0 zs =>
            refine q_asg (v := .int (goneF qq)) (ev_at (ev_op ev_c (ev_min1 (z := z0) (zs := zs) ?_) rv_I0) (by rw [min_gone hzs.symm])) fun H6 e6 => ?_
            · rw [← hzs, ← used_pairs (α := Int)]
              refine en_dataM (f := PyData.int) (ev_var rfl) (sq_of (e5 _ _ hwu)) (dpa_ints _) (by have := used_len qq; omega) (fun _ => rfl) fun y c H7 hc hd e7 => ?_
              cases hd
              exact eo_u (eu_tup (ea_cons (ev_op (ev_var rfl) (ev_var rfl) (ixl_int (sq_of (e7 _ _ (e5 _ _ hwc))) (hqs c hc).1.1 (hwca c hc))) (ea_cons (ev_op ev_c (ev_var rfl) rv_I0) ea_nil)) (show 2 ≤ 100000 by decide))
            have e56 := e5.trans e6
            have hp6 := hp.ex (W.ex.trans e56)
            refine q_asg (v := .int (heirOf cols qq)) (ev_callV (ea_cons (ev_var rfl) (ea_cons (ev_var rfl) (ea_cons (ev_var rfl) ea_nil))) fun H7 e7 Q q => ⟨goneF qq, heirOf cols qq, used qq, lu, pl, dx, l, xs, cols, rfl, sq_of (e7 _ _ (e56 _ _ hwu)), used_len qq, hp6.at_.ex e7, dpax hp6.dp e7, hp6.good, fun c hc => hsub c (hqs c hc).2, hgo.1, hhe, q⟩) fun H7 e7 => ?_
            have e57 := e56.trans e7
            have hgc := hqs _ hgo.1
            have hhc := hqs _ hhe.1.1
            refine q_augL (c := heirOf cols qq) (n := ((cnt qq (heirOf cols qq) : Nat) : Int)) (e := ((cnt qq (goneF qq) : Nat) : Int)) (e57 _ _ hwc) (ev_var rfl) (ev_var rfl) hhc.1.1 (hwca _ hhe.1.1) (ev_op (ev_var rfl) (ev_var rfl) (ixl_int (sq_of (e57 _ _ hwc)) hgc.1.1 (hwca _ hgo.1))) fun H8 e8 => ?_
            have e58 := e57.trans e8
            have hwn8 := e58 _ _ hwn
            have hwu8 := e58 _ _ hwu
            refine q_asgL (xs := rowV (ns.map fun c => if c = goneF qq then heirOf cols qq else c)) (by
              have eF : rowV (ns.map fun c => if c = goneF qq then heirOf cols qq else c) = ns.map fun c => V.int (if c = goneF qq then heirOf cols qq else c) := by
                rw [rowV, List.map_map]
                rfl
              rw [eF]
              refine el_dataM (a := ln) (xs := rowV ns) (f := PyData.int) (ev_var rfl) (sq_of (by rw [upd_ne (Ne.symm W.n1)]; exact hwn8)) (dpa_ints ns) (by have := W.nl; omega) (fun _ => rfl) fun y c H9 hc hd e9 => ?_
              cases hd
              refine ev_if (b := decide (c = goneF qq)) (et_at (et_test (ev_op (ev_var rfl) (ev_var rfl) (rv_eq rfl))) ?_) (fun hb => ?_) (fun hb => ?_)
              · exact decide_eq_decide.mpr ⟨fun e => V.int.inj e, fun e => by rw [e]⟩
              · rw [if_pos (of_decide_eq_true hb)]
                exact ev_var rfl
              · rw [if_neg (of_decide_eq_false hb)]
                exact ev_var rfl) fun r9 H9 hr9 e9 hr9v => ?_
            have hu9 : H9 lu = some (.lst (rowV (used qq))) := e9 _ _ (by rw [upd_ne (Ne.symm W.n2)]; exact hwu8)
            have hc9 := e9 _ _ (upd_same (H := H8) (a := lc) (o := .lst (rowV (cs.set (heirOf cols qq).toNat (((cnt qq (heirOf cols qq) : Nat) : Int) + ((cnt qq (goneF qq) : Nat) : Int))))))
            have ex9 : Ex H H9 := (Ex.mut (W.ex.trans e58) W.f1).trans e9
            refine s_remI hu9 (ev_var rfl) (ev_var rfl) hgo.1 fun H10 e10 => ?_
            have ne1 : lc ≠ r9 := fun e => by
              rw [← e, upd_same] at hr9
              cases hr9
            have ne3 : r9 ≠ lu := fun e => by
              rw [e, upd_ne (Ne.symm W.n2), hwu8] at hr9
              cases hr9
            have eit : iter cols (n + 1) p = oneLess cols qq := by
              show oneLess cols (iter cols n p) = _
              rw [hqe]
            have hcl := W.cl
            refine ⟨lc, r9, lu, _, _, ⟨⟨_, _, _, _, rfl⟩, Ex.mut (ex9.trans e10) W.f2, W.f1, W.f2, ne1, W.n2, ne3, by rw [upd_ne W.n2]; exact e10 _ _ hc9, by rw [upd_ne ne3]; exact e10 _ _ hr9v, by rw [upd_same, eit, used_oneLess h2], by rw [List.length_set]; exact W.cl, fun c hc => ?_, by rw [List.length_map]; exact W.nl, fun i hi => ?_, ?_, by omega, by omega⟩⟩
            · rw [eit] at hc ⊢
              rw [used_oneLess h2] at hc
              obtain ⟨hcg, hcu⟩ := (used_nodup qq).mem_erase_iff.mp hc
              unfold oneLess
              rw [cnt_merge (Ne.symm hhe.1.2), if_neg hcg, List.getElem?_set]
              have hcc := hqs c hcu
              by_cases ec : c = heirOf cols qq
              · rw [if_pos ec, ec, if_pos rfl, if_pos (by omega)]
                congr 1
              · rw [if_neg ec, if_neg (by omega)]
                exact hwca c hcu
            · obtain ⟨c, hc, rfl⟩ := List.mem_map.mp hi
              split
              · exact hhc.1
              · exact W.nr c hc
            · rw [app_merge hg W.nl, hwna, eit]
              rfl
        · have hb := of_decide_eq_false hb
          have hn : n = (used p).length - k := by omega
          refine s_retPic (rows := fewM cols k p) (evp_call (ea_cons (ev_var rfl) (ea_cons (ev_var rfl) ea_nil)) fun H6 e6 Q q => ⟨x, .ref ln, p, ns, rfl, dpx hx (W.ex.trans (e5.trans e6)), hg, dp_row (sq_of (e6 _ _ (e5 _ _ hwn))), W.nl, W.nr, ?_⟩) fun r H6 e6 n6 => q r H6 (W.ex.trans (e5.trans e6)) (n6.ex (W.ex.trans e5) (Ex.refl _))
          have e : app ns p = fewM cols k p := by
            rw [hwna, ← hqe, hn]
            rfl
          rw [e]
          exact q
      · refine q_when (b := true) (et_at (et_not (et_B (ev_among (ev_var rfl) ev_c ev_c (dpx hd e1)))) (by rw [hda]; rfl)) (fun _ H2 e2 => q H2 (e1.trans e2)) (fun hb => nomatch hb)
    · have hlen := hp.len
      have hpv := hp.eq
      subst hpv
      exact q_callX (ea_cons hv0 (ea_cons hv1 ea_nil)) fun H1 e1 Q => ⟨x, .ref pl, rfl, .inl ⟨p, pl, dx, l, xs, rfl, hp.at_.ex e1, dpx hx e1, hg, fun hall => by
        obtain ⟨c, hc, hle⟩ := hsome
        have := hall c hc
        omega, fun _ H2 e2 => q H2 (e1.trans e2)⟩⟩
    · exact q_callX (ea_cons hv0 (ea_cons hv1 ea_nil)) fun H1 e1 Q => ⟨x, v, rfl, .inr ⟨thp_ex hx e1, fun H2 e2 => q H2 (e1.trans e2)⟩⟩
end
end C19
set_option Elab.async false
set_option linter.all false
set_option maxRecDepth 100000
set_option maxHeartbeats 4000000
namespace C19
open PySem PySem.Spec PyProof.Rows L2 Evl
section
variable {K : PySem.W.Frag} {σ : L2.St} {H : Hp} {ta tb te : TE} {t : TT} {D : Ends} {tz : TS}
/-! ### deep comparisons -/
theorem ep_dp {v : V} {d : PyData} (h : Ev te σ H v) (hd : Dp K H v d) : Ep te σ H fun u H' => Dp K H' u d := fun H1 e Q q => h H1 e _ fun H2 e2 => q v H2 e2 (dpx hd (e.trans e2))
theorem ep_row {r : List Int} (h : EvL te σ H (rowV r)) : Ep te σ H fun u H' => Dp K H' u (rowD r) := fun H1 e Q q => h H1 e _ fun p H2 hp e2 h2 => q _ H2 e2 (dp_row (sq_of h2))
theorem ep_pic {rows : Pic} (h : EvP te σ H rows) : Ep te σ H fun u H' => Dp K H' u (picD rows) := fun H1 e Q q => h H1 e _ fun p H2 e2 n => q _ H2 e2 n.dp
theorem ev_eqP {d e : PyData} (h1 : Ep ta σ H fun u H' => Dp K H' u d) (h2 : ∀ H1, Ex H H1 → Ep tb σ H1 fun u H' => Dp K H' u e) (sd : SeqAt.shaped d = true) (se : SeqAt.shaped e = true) : Ev (tOp (rEqD K) ta tb) σ H (.bl (PyData.eqv d e)) := fun H1 e1 Q q =>
  h1 H1 e1 _ fun v H2 e2 hv => h2 H2 (e1.trans e2) H2 (Ex.refl _) _ fun u H3 e3 hu => ⟨d, e, dpx hv e3, hu, sd, se, q H3 (e2.trans e3)⟩
theorem ev_neP {d e : PyData} (h1 : Ep ta σ H fun u H' => Dp K H' u d) (h2 : ∀ H1, Ex H H1 → Ep tb σ H1 fun u H' => Dp K H' u e) (sd : SeqAt.shaped d = true) (se : SeqAt.shaped e = true) : Ev (tOp (rNeD K) ta tb) σ H (.bl (!PyData.eqv d e)) := fun H1 e1 Q q =>
  h1 H1 e1 _ fun v H2 e2 hv => h2 H2 (e1.trans e2) H2 (Ex.refl _) _ fun u H3 e3 hu => ⟨d, e, dpx hv e3, hu, sd, se, q H3 (e2.trans e3)⟩
/-- if c: x = e, told by what is known of x behind it -/
theorem q_ifP {P : V → Hp → Prop} {b : Bool} {i : Nat} (h : EvT t σ H b) (h1 : b = true → Ep te σ H P) (h2 : b = false → ∃ v, σ.set i (some v) = σ ∧ ∀ H1, Ex H H1 → P v H1) (k : ∀ v H1, Ex H H1 → P v H1 → tz D (σ.set i (some v)) H1) :
    tSeq (tIfS t (tAsg te (gName i)) tNext) tz D σ H :=
  q_when h (fun hb H1 e1 => s_set (D := { D with nx := tz D }) ((h1 hb).mono e1) fun v H2 e2 p => k v H2 (e1.trans e2) p) (fun hb H1 e1 => by
    obtain ⟨v, e, p⟩ := h2 hb
    have g := k v H1 e1 (p H1 e1)
    rw [e] at g
    exact g)
theorem rv_mod {i j : Int} (h : 0 < j) : RV (rI (fun _ j => 0 < j) fun i j => .int (i % j)) (.int i) (.int j) H (.int (i % j)) := rv_I h
theorem rv_div {i j : Int} (h : 0 < j ∧ j < 1073741824) : RV (rI CDiv fun i j => .int (i / j)) (.int i) (.int j) H (.int (i / j)) := rv_I h
theorem rv_mul {i j : Int} (h : (-(2 ^ 64) < i ∧ i < 2 ^ 64) ∨ (-(2 ^ 64) < j ∧ j < 2 ^ 64)) : RV (rI CMul fun i j => .int (i * j)) (.int i) (.int j) H (.int (i * j)) := rv_I h
end
section
variable {P : Program} {w : World} {K : PySem.W.Frag} {mg : Str → Option Value} {base : Heap} {a : Ad}
/-! ### _law_draw -/
def drawF (cells : List Int) (k : Int) : Int := (((if cells = [] then 0 else cells.getD (k % ((cells.length : Nat) : Int)).toNat 0) + 1009 * k * k + 31 * k + 11) * 1103515245 % 2147483647) * (48271 + k * k) % 2147483647
theorem drawF_range (cells : List Int) (k : Int) : 0 ≤ drawF cells k ∧ drawF cells k < 2147483647 := ⟨Int.emod_nonneg _ (by decide), Int.emod_lt_of_pos _ (by decide)⟩
def spDraw (K : PySem.W.Frag) : Sp := fun vs H Q _ => ∃ (q : Addr) (cells : List Int) (k : Int), vs = [.ref q, .int k] ∧ SqL K H q (rowV cells) ∧ (0 ≤ k ∧ k ≤ 100000) ∧ RetV (.int (drawF cells k)) H Q
theorem ok_lw_draw (T : Txt K mg a) (D : DefAt K mg "_law_draw" s_lw_draw) : Cal P w K mg base CX0 1 "_law_draw" ["_law_script", "_law_k"] (spDraw K) := by
  refine cal_of D bd_lw_draw sc_lw_draw (fun vs H Q E h => ?_) (fun f cdv A outer s H vs Q E hr h => ?_)
  · obtain ⟨q, cells, k, rfl, _⟩ := h
    rfl
  · obtain ⟨q, cells, k, rfl, hq, hk, q0⟩ := h
    refine ⟨_, (pss_cons (ps_set (i := 2) sc_lw_draw.nd rfl (by first | exact Or.inl rfl | exact Or.inr rfl) pe_int)
      (pss_cons (ps_if (pt_cmpR (op_neDK K hr.units) (pv 0) (pe_lst pa_nil) (nomark _)) (pss_one (ps_set (i := 2) sc_lw_draw.nd rfl (by first | exact Or.inl rfl | exact Or.inr rfl) (pe_ix (ix_listK K) (pv 0) (pe_op op_mod (pv 1) (pe_callB (id := "len") (call_lenK K) (by rfl) T.b_len (by decide +kernel) (pa_cons (pv 0) pa_nil))) (fun _ _ => rfl)))) pss_nil)
      (pss_cons (ps_set (i := 3) sc_lw_draw.nd rfl (by first | exact Or.inl rfl | exact Or.inr rfl) (pe_op op_mod (pe_op op_mul (pe_op op_add (pe_op op_add (pe_op op_add (pv 2) (pe_op op_mul (pe_op op_mul pe_int (pv 1)) (pv 1))) (pe_op op_mul pe_int (pv 1))) pe_int) pe_int) pe_int))
      (pss_one (ps_ret (pe_op op_mod (pe_op op_mul (pv 3) (pe_op op_add pe_int (pe_op op_mul (pv 1) (pv 1)))) pe_int)))))), ?_⟩
    refine q_asg ev_c fun H1 e1 => ?_
    have hq1 := ex_l e1 hq
    refine q_ifP (b := !decide (cells = [])) (P := fun v _ => v = .int (if cells = [] then 0 else cells.getD (k % ((cells.length : Nat) : Int)).toNat 0)) (et_at (et_test (ev_neP (d := rowD cells) (e := rowD []) (ep_dp (ev_var rfl) (dp_row hq1)) (fun H2 e2 => ep_row (r := []) (el_lst ea_nil (by decide))) (shaped_row _) (shaped_row _))) (by rw [eqv_row])) (fun hb => ?_) (fun hb => ⟨.int 0, rfl, fun _ _ => ?_⟩) fun v H2 e2 hv => ?_
    · have hne : cells ≠ [] := by simpa using hb
      have hpos : 0 < cells.length := List.length_pos_iff.mpr hne
      rw [if_neg hne]
      have h1 := Int.emod_nonneg k (b := ((cells.length : Nat) : Int)) (by omega)
      have h2 := Int.emod_lt_of_pos k (b := ((cells.length : Nat) : Int)) (by omega)
      refine ep_ev (ev_op (ev_var rfl) (ev_op (ev_var rfl) (ev_at (ev_lenA (ev_var rfl) (.inl hq1)) (by rw [row_len])) (rv_mod (by omega))) (ixl_int hq1 h1 ?_))
      rw [List.getD_eq_getElem?_getD, List.getElem?_eq_getElem (by omega)]
      rfl
    · have he : cells = [] := by simpa using hb
      rw [if_pos he]
    · subst hv
      have hp := Int.mul_le_mul hk.2 hk.2 hk.1 (show (0 : Int) ≤ 100000 by decide)
      have hp0 := Int.mul_nonneg hk.1 hk.1
      refine q_asg (ev_op (ev_op (ev_op (ev_op (ev_op (ev_var rfl) (ev_op (ev_op ev_c (ev_var rfl) (rv_mul (.inl (by omega)))) (ev_var rfl) (rv_mul (.inr (by omega)))) rv_I0) (ev_op ev_c (ev_var rfl) (rv_mul (.inl (by omega)))) rv_I0) ev_c rv_I0) ev_c (rv_mul (.inr (by omega)))) ev_c (rv_mod (by decide))) fun H3 e3 => ?_
      refine s_ret (ev_op (ev_op (ev_var rfl) (ev_op ev_c (ev_op (ev_var rfl) (ev_var rfl) (rv_mul (.inr (by omega)))) rv_I0) (rv_mul (.inr ?_))) ev_c (rv_mod (by decide))) fun H4 e4 => q0 H4 (e1.trans (e2.trans (e3.trans e4)))
      constructor <;> omega
theorem ev_draw {σ : L2.St} {H : Hp} {t1 t2 : TE} {E : XK} {q : Addr} {cells : List Int} {k : Int} (h1 : Ev t1 σ H (.ref q)) (h2 : Ev t2 σ H (.int k)) (hq : SqL K H q (rowV cells)) (hk : 0 ≤ k ∧ k ≤ 100000) : Ev (tCall (spDraw K) [] E (tCons t1 (tCons t2 tNil))) σ H (.int (drawF cells k)) :=
  ev_callV (ea_cons h1 (ea_cons h2 ea_nil)) fun H1 e1 Q q0 => ⟨q, cells, k, rfl, ex_l e1 hq, hk, q0⟩
/-! ### _law_whole -/
def spWhole (K : PySem.W.Frag) : Sp := fun vs H Q _ => ∃ (x : V) (d : PyData), vs = [x] ∧ Dp K H x d ∧ RetV (.bl (isIntB d && !isBoolB d)) H Q
theorem ok_lw_whole (T : Txt K mg a) (D : DefAt K mg "_law_whole" s_lw_whole) : Cal P w K mg base CX0 1 "_law_whole" ["_law_found"] (spWhole K) := by
  refine cal_of D bd_lw_whole sc_lw_whole (fun vs H Q E h => ?_) (fun f cdv A outer s H vs Q E hr h => ?_)
  · obtain ⟨x, d, rfl, _⟩ := h
    rfl
  · obtain ⟨x, d, rfl, hd, q0⟩ := h
    refine ⟨_, (pss_one (ps_ret (pe_and (pe_callB (id := "isinstance") (call_isiK K) (by rfl) T.b_isinstance (by decide +kernel) (pa_cons (pv 0) (pa_cons (pe_bltn (v := .ty "int") (by rfl) T.b_int (by decide +kernel) rfl) pa_nil))) (pe_one (pe_not (pe_callB (id := "isinstance") (call_isiK K) (by rfl) T.b_isinstance (by decide +kernel) (pa_cons (pv 0) (pa_cons (pe_bltn (v := .ty "bool") (by rfl) T.b_bool (by decide +kernel) rfl) pa_nil)))))))), ?_⟩
    exact s_ret (ev_andV (ev_isInt (ev_var rfl) hd) fun _ => ev_notV (ev_isBool (ev_var rfl) hd)) fun H1 e1 => q0 H1 e1
theorem ev_whole {σ : L2.St} {H : Hp} {t1 : TE} {E : XK} {i : Int} (h1 : Ev t1 σ H (.int i)) : Ev (tCall (spWhole K) [] E (tCons t1 tNil)) σ H (.bl true) :=
  ev_callV (ea_cons h1 ea_nil) fun H1 e1 Q q0 => ⟨_, .int i, rfl, .int i, q0⟩
/-! ### _law_colour -/
def RetC (H : Hp) (Q : VK) : Prop := ∀ p c H', ValidC c → Ex H H' → H p = none → H' p = some (.tup (colV c)) → Q (.ref p) H'
def spLwCol : Sp := fun vs H Q _ => ∃ n : Int, vs = [.int n] ∧ 0 ≤ n ∧ RetC H Q
def Sh3 (H0 : Hp) (v : V) (H : Hp) : Prop := ∃ (l : Addr) (c : Col), v = .ref l ∧ ValidC c ∧ H l = some (.lst (colV c))
theorem mod256 (n : Int) : 0 ≤ n % 256 ∧ n % 256 ≤ 255 := by
  have h1 := Int.emod_nonneg n (b := 256) (by decide)
  have h2 := Int.emod_lt_of_pos n (b := 256) (by decide)
  omega
theorem ep_lst {σ : L2.St} {H : Hp} {te : TE} {c : Col} (H0 : Hp) (h : EvL te σ H (colV c)) (hv : ValidC c) : Ep te σ H (Sh3 H0) := fun H1 e Q q => h H1 e _ fun p H2 hp e2 h2 => q _ H2 e2 ⟨p, c, rfl, hv, h2⟩
theorem colV_mem {c : Col} (h : ValidC c) {x : V} (hx : x ∈ colV c) : ∃ i : Int, x = .int i ∧ 0 ≤ i ∧ i ≤ 255 := by
  obtain ⟨v1, v2, v3⟩ := h
  simp only [colV, List.mem_cons, List.not_mem_nil, or_false] at hx
  rcases hx with e | e | e
  · exact ⟨_, e, v1⟩
  · exact ⟨_, e, v2⟩
  · exact ⟨_, e, v3⟩
def edge4 (i : Int) : Int := if i % 4 = 0 then 0 else if i % 4 = 1 then 255 else if i % 4 = 2 then 1 else 254
theorem edge4_range (i : Int) : 0 ≤ edge4 i ∧ edge4 i ≤ 255 := by
  unfold edge4
  split
  · omega
  · split
    · omega
    · split <;> omega
theorem ok_lw_colour (T : Txt K mg a) (D : DefAt K mg "_law_colour" s_lw_colour) : Cal P w K mg base CX0 1 "_law_colour" ["_law_number"] spLwCol := by
  refine cal_of D bd_lw_colour sc_lw_colour (fun vs H Q E h => ?_) (fun f cdv A outer s H vs Q E hr h => ?_)
  · obtain ⟨n, rfl, _⟩ := h
    rfl
  · obtain ⟨n, rfl, hn, q0⟩ := h
    refine ⟨_, (pss_cons (ps_set (i := 1) sc_lw_colour.nd rfl (by first | exact Or.inl rfl | exact Or.inr rfl) (pe_lst (pa_cons (pe_op op_mod (pv 0) pe_int) (pa_cons (pe_op op_mod (pe_op op_fdiv (pv 0) pe_int) pe_int) (pa_cons (pe_op op_mod (pe_op op_fdiv (pv 0) pe_int) pe_int) pa_nil)))))
      (pss_cons (ps_set (i := 2) sc_lw_colour.nd rfl (by first | exact Or.inl rfl | exact Or.inr rfl) (pe_op op_mod (pe_op op_fdiv (pv 0) pe_int) pe_int))
      (pss_cons (ps_if (pt_cmpR op_lt (pv 2) pe_int (nomark _)) (pss_one (ps_setLc (i := 1) (own := [("_law_share", 3)]) (g := (gName 3)) rfl sc_lw_colour.nd rfl rfl (sw_true rfl rfl rfl (by decide +kernel)) (pi_listK K (pv 1)) (blkOk_by (by kernel_rfl)) (fun _ _ _ _ _ => (pg_name (i := 3) sc_lw_colour.nd rfl (by first | exact Or.inl rfl | exact Or.inr rfl))) (fun _ _ _ _ _ => pts_nil) (fun _ _ _ _ _ => (pe_ix (ix_listK K) (pe_lst (pa_cons pe_int (pa_cons pe_int (pa_cons pe_int (pa_cons pe_int pa_nil))))) (pe_op op_mod (pv 3) pe_int) (fun _ _ => rfl))))) pss_nil)
      (pss_cons (ps_if (pt_cmpR op_eq (pv 2) pe_int (nomark _)) (pss_one (ps_set (i := 1) sc_lw_colour.nd rfl (by first | exact Or.inl rfl | exact Or.inr rfl) (pe_lst (pa_cons (pe_ix (ix_listK K) (pv 1) pe_int (fun _ _ => rfl)) (pa_cons (pe_ix (ix_listK K) (pv 1) pe_int (fun _ _ => rfl)) (pa_cons (pe_ix (ix_listK K) (pv 1) pe_int (fun _ _ => rfl)) pa_nil)))))) pss_nil)
      (pss_one (ps_ret (pe_callTy (T := "tuple") (call_tupleK K) (by rfl) T.b_tuple (by decide +kernel) (pa_cons (pv 1) pa_nil)))))))), ?_⟩
    refine q_set (ep_lst (c := (n % 256, n / 256 % 256, n / 65536 % 256)) H (el_lst (ea_cons (ev_op (ev_var rfl) ev_c (rv_mod (by decide))) (ea_cons (ev_op (ev_op (ev_var rfl) ev_c (rv_div (by decide))) ev_c (rv_mod (by decide))) (ea_cons (ev_op (ev_op (ev_var rfl) ev_c (rv_div (by decide))) ev_c (rv_mod (by decide))) ea_nil))) (show 3 ≤ 100000 by decide)) ⟨mod256 _, mod256 _, mod256 _⟩) fun v1 H1 e1 h1 => ?_
    refine q_asg (ev_op (ev_op (ev_var rfl) ev_c (rv_div (by decide))) ev_c (rv_mod (by decide))) fun H2 e2 => ?_
    obtain ⟨l1, c1, rfl, hc1, hl1⟩ := h1
    refine q_ifP (P := Sh3 H) (et_test (ev_op (ev_var rfl) ev_c rv_I0)) (fun hb => ?_) (fun hb => ⟨.ref l1, rfl, fun H3 e3 => ⟨l1, c1, rfl, hc1, e3 _ _ (e2 _ _ hl1)⟩⟩) fun v2 H3 e3 h2 => ?_
    · refine ep_lst (c := (edge4 c1.1, edge4 c1.2.1, edge4 c1.2.2)) H (el_map (f := fun x => match x with
        | .int i => .int (edge4 i)
        | _ => .non) (ev_var rfl) (sq_of (e2 _ _ hl1)) (show 3 ≤ 40000 by decide) (fun _ => rfl) fun x H3 hx e3 => ?_) ⟨edge4_range _, edge4_range _, edge4_range _⟩
      obtain ⟨i, rfl, hi⟩ := colV_mem hc1 hx
      have m1 := Int.emod_nonneg i (b := 4) (by decide)
      have m2 := Int.emod_lt_of_pos i (b := 4) (by decide)
      refine ev_opL1 (xs := [.int 0, .int 255, .int 1, .int 254]) (el_lst (ea_cons ev_c (ea_cons ev_c (ea_cons ev_c (ea_cons ev_c ea_nil)))) (show 4 ≤ 100000 by decide)) (fun H4 e4 => ev_op (ev_var rfl) ev_c (rv_mod (by decide))) fun p H4 hp e4 => ixl_int (ns := [0, 255, 1, 254]) (sq_of hp) m1 ?_
      have h4 : i % 4 = 0 ∨ i % 4 = 1 ∨ i % 4 = 2 ∨ i % 4 = 3 := by omega
      unfold edge4
      rcases h4 with e | e | e | e <;> rw [e] <;> rfl
    · obtain ⟨l2, c2, rfl, hc2, hl2⟩ := h2
      refine q_ifP (P := Sh3 H) (et_test (ev_op (ev_var rfl) ev_c (rv_eq rfl))) (fun hb => ?_) (fun hb => ⟨.ref l2, rfl, fun H4 e4 => ⟨l2, c2, rfl, hc2, e4 _ _ hl2⟩⟩) fun v3 H4 e4 h3 => ?_
      · have hix : ∀ {H4 : Hp}, Ex H3 H4 → Ev (tOp (rIxL K) (tVar 1) (tC (.int 0))) _ H4 (.int c2.1) := fun {H4} e4 => ev_op (σ := [some (.int n), some (.ref l2), some (.int (n / 16777216 % 9)), none]) (ev_var rfl) ev_c (rv_ixL (sq_of (e4 _ _ hl2)) rfl)
        exact ep_lst (c := (c2.1, c2.1, c2.1)) H (el_lst (ea_cons (hix (Ex.refl _)) (ea_cons (hix (Ex.refl _)) (ea_cons (hix (Ex.refl _)) ea_nil))) (show 3 ≤ 100000 by decide)) ⟨hc2.1, hc2.1, hc2.1⟩
      · obtain ⟨l3, c3, rfl, hc3, hl3⟩ := h3
        refine (ev_var rfl : Ev (tVar 1) _ H4 (.ref l3)) H4 (Ex.refl _) _ fun H5 e5 => ⟨l3, _, rfl, .inl ⟨sq_of (e5 _ _ hl3), fun p hp => q0 p c3 _ hc3 ((e1.trans (e2.trans (e3.trans (e4.trans e5)))).trans (Ex.new hp)) (fresh_back (e1.trans (e2.trans (e3.trans (e4.trans e5)))) hp) upd_same⟩⟩
/-! ### _law_apart -/
theorem ok_lw_apart (T : Txt K mg a) (D : DefAt K mg "_law_apart" s_lw_apart) : Cal P w K mg base CX0 1 "_law_apart" ["_law_one", "_law_other"] (spApart K) := by
  refine cal_of D bd_lw_apart sc_lw_apart (fun vs H Q E h => ?_) (fun f cdv A outer s H vs Q E hr h => ?_)
  · obtain ⟨x, y, c, d, rfl, _⟩ := h
    rfl
  · obtain ⟨x, y, c, d, rfl, hc, hd, vc, vd, q⟩ := h
    obtain ⟨c1, c2, c3⟩ := vc
    obtain ⟨d1, d2, d3⟩ := vd
    obtain ⟨p1, rfl, hp1⟩ := dp_col_inv hc
    obtain ⟨p2, rfl, hp2⟩ := dp_col_inv hd
    refine ⟨_, (pss_cons (ps_set (i := 2) sc_lw_apart.nd rfl (by first | exact Or.inl rfl | exact Or.inr rfl) pe_int)
      (pss_cons (ps_for (L2.passes_of rfl) rfl (pi_range1 rfl T.b_range (pa_cons pe_int pa_nil)) (pg_name (i := 3) sc_lw_apart.nd rfl (by first | exact Or.inl rfl | exact Or.inr rfl)) (pss_one (ps_set (i := 2) sc_lw_apart.nd rfl (by first | exact Or.inl rfl | exact Or.inr rfl) (pe_op op_add (pv 2) (pe_op op_pow (pe_op op_sub (pe_ix (ix_tupK K) (pv 0) (pv 3) (fun _ _ => rfl)) (pe_ix (ix_tupK K) (pv 1) (pv 3) (fun _ _ => rfl))) pe_int)))))
      (pss_one (ps_ret (pv 2))))), ?_⟩
    let ns : List Int := [(c.1 - d.1) * (c.1 - d.1), (c.2.1 - d.2.1) * (c.2.1 - d.2.1), (c.2.2 - d.2.2) * (c.2.2 - d.2.2)]
    refine q_asg ev_c fun H1 e1 => ?_
    refine q_forR1 (ea_cons ev_c ea_nil) (by decide) (fun i σ' H' => Ex H H' ∧ ∃ s3, σ' = [some (.ref p1), some (.ref p2), some (.int (ns.take i).sum), s3]) (fun H2 e2 => ⟨e1.trans e2, _, rfl⟩) (fun i σ' H' hi h => ?_) (fun σ' H' h => ?_)
    · obtain ⟨h1, s3, rfl⟩ := h
      have ha := ex_t h1 hp1
      have hb := ex_t h1 hp2
      have pw : ∀ z : Int, z ^ (2 : Int).toNat = z * z := fun z => by
        show z ^ 2 = z * z
        rw [Int.pow_succ, Int.pow_succ, Int.pow_zero, Int.one_mul]
      have hi3 : i < 3 := by omega
      match i, hi3 with
      | 0, _ =>
        refine s_asg (v := .int (ns.take 1).sum) (ev_at (ev_op (ev_var rfl) (ev_op (ev_op (ev_op (ev_var rfl) (ev_var rfl) (rv_ixT ha rfl)) (ev_op (ev_var rfl) (ev_var rfl) (rv_ixT hb rfl)) rv_I0) ev_c (rv_I (C := CPow) (by unfold CPow; omega))) rv_I0) (by
          rw [pw]
          simp only [ns, List.take_zero, List.take_succ_cons, List.sum_cons, List.sum_nil]
          congr 1 <;> omega)) fun H2 e2 => ⟨h1.trans e2, _, rfl⟩
      | 1, _ =>
        refine s_asg (v := .int (ns.take 2).sum) (ev_at (ev_op (ev_var rfl) (ev_op (ev_op (ev_op (ev_var rfl) (ev_var rfl) (rv_ixT ha rfl)) (ev_op (ev_var rfl) (ev_var rfl) (rv_ixT hb rfl)) rv_I0) ev_c (rv_I (C := CPow) (by unfold CPow; omega))) rv_I0) (by
          rw [pw]
          simp only [ns, List.take_zero, List.take_succ_cons, List.sum_cons, List.sum_nil]
          congr 1 <;> omega)) fun H2 e2 => ⟨h1.trans e2, _, rfl⟩
      | 2, _ =>
        refine s_asg (v := .int (ns.take 3).sum) (ev_at (ev_op (ev_var rfl) (ev_op (ev_op (ev_op (ev_var rfl) (ev_var rfl) (rv_ixT ha rfl)) (ev_op (ev_var rfl) (ev_var rfl) (rv_ixT hb rfl)) rv_I0) ev_c (rv_I (C := CPow) (by unfold CPow; omega))) rv_I0) (by
          rw [pw]
          simp only [ns, List.take_zero, List.take_succ_cons, List.sum_cons, List.sum_nil]
          congr 1 <;> omega)) fun H2 e2 => ⟨h1.trans e2, _, rfl⟩
    · obtain ⟨h1, s3, rfl⟩ := h
      refine s_ret (ev_var rfl) fun H2 e2 => ?_
      have e : (ns.take (3 : Int).toNat).sum = dist c d := by
        show (c.1 - d.1) * (c.1 - d.1) + ((c.2.1 - d.2.1) * (c.2.1 - d.2.1) + ((c.2.2 - d.2.2) * (c.2.2 - d.2.2) + 0)) = dist c d
        unfold dist
        omega
      rw [e]
      exact q H2 (h1.trans e2)
/-! ### _law_size -/
def spSize : Sp := fun vs H Q _ => ∃ n : Int, vs = [.int n] ∧ 0 ≤ n ∧ ∀ t i j H', Ex H H' → H' t = some (.tup [.int i, .int j]) → (1 ≤ i ∧ i ≤ 24) → (1 ≤ j ∧ j ≤ 24) → Q (.ref t) H'
theorem mod_rng (n : Int) {m : Int} (h : 0 < m) : 0 ≤ n % m ∧ n % m < m := ⟨Int.emod_nonneg n (by omega), Int.emod_lt_of_pos n h⟩
theorem ok_lw_size (T : Txt K mg a) (D : DefAt K mg "_law_size" s_lw_size) : Cal P w K mg base CX0 1 "_law_size" ["_law_number"] spSize := by
  refine cal_of D bd_lw_size sc_lw_size (fun vs H Q E h => ?_) (fun f cdv A outer s H vs Q E hr h => ?_)
  · obtain ⟨n, rfl, _⟩ := h
    rfl
  · obtain ⟨n, rfl, hn, q0⟩ := h
    have h1 := mod_rng (n / 288) (m := 24) (by decide)
    have h2 := mod_rng n (m := 2) (by decide)
    have h3 := mod_rng n (m := 6) (by decide)
    have h4 := mod_rng (n / 6) (m := 6) (by decide)
    refine ⟨_, (pss_cons (ps_if (pt_cmpR op_eq (pe_op op_mod (pe_op op_fdiv (pv 0) pe_int) pe_int) pe_int (nomark _)) (pss_one (ps_ret (pe_tup (pa_cons (pe_op op_add pe_int (pe_op op_mod (pe_op op_fdiv (pv 0) pe_int) pe_int)) (pa_cons (pe_op op_add pe_int (pe_op op_mod (pv 0) pe_int)) pa_nil))))) pss_nil)
      (pss_cons (ps_if (pt_cmpR op_eq (pe_op op_mod (pe_op op_fdiv (pv 0) pe_int) pe_int) pe_int (nomark _)) (pss_one (ps_ret (pe_tup (pa_cons (pe_op op_add pe_int (pe_op op_mod (pv 0) pe_int)) (pa_cons (pe_op op_add pe_int (pe_op op_mod (pe_op op_fdiv (pv 0) pe_int) pe_int)) pa_nil))))) pss_nil)
      (pss_one (ps_ret (pe_tup (pa_cons (pe_op op_add pe_int (pe_op op_mod (pv 0) pe_int)) (pa_cons (pe_op op_add pe_int (pe_op op_mod (pe_op op_fdiv (pv 0) pe_int) pe_int)) pa_nil))))))), ?_⟩
    refine q_when (et_test (ev_op (ev_op (ev_op (ev_var rfl) ev_c (rv_div (by decide))) ev_c (rv_mod (by decide))) ev_c (rv_eq rfl))) (fun hb H1 e1 => ?_) (fun hb H1 e1 => ?_)
    · exact s_retU (eu_tup (ea_cons (ev_op ev_c (ev_op (ev_op (ev_var rfl) ev_c (rv_div (by decide))) ev_c (rv_mod (by decide))) rv_I0) (ea_cons (ev_op ev_c (ev_op (ev_var rfl) ev_c (rv_mod (by decide))) rv_I0) ea_nil)) (show 2 ≤ 100000 by decide)) fun t H2 ht e2 h => q0 t _ _ H2 (e1.trans e2) h (by omega) (by omega)
    · refine q_when (et_test (ev_op (ev_op (ev_op (ev_var rfl) ev_c (rv_div (by decide))) ev_c (rv_mod (by decide))) ev_c (rv_eq rfl))) (fun hb H2 e2 => ?_) (fun hb H2 e2 => ?_)
      · exact s_retU (eu_tup (ea_cons (ev_op ev_c (ev_op (ev_var rfl) ev_c (rv_mod (by decide))) rv_I0) (ea_cons (ev_op ev_c (ev_op (ev_op (ev_var rfl) ev_c (rv_div (by decide))) ev_c (rv_mod (by decide))) rv_I0) ea_nil)) (show 2 ≤ 100000 by decide)) fun t H3 ht e3 h => q0 t _ _ H3 ((e1.trans e2).trans e3) h (by omega) (by omega)
      · exact s_retU (eu_tup (ea_cons (ev_op ev_c (ev_op (ev_var rfl) ev_c (rv_mod (by decide))) rv_I0) (ea_cons (ev_op ev_c (ev_op (ev_op (ev_var rfl) ev_c (rv_div (by decide))) ev_c (rv_mod (by decide))) rv_I0) ea_nil)) (show 2 ≤ 100000 by decide)) fun t H3 ht e3 h => q0 t _ _ H3 ((e1.trans e2).trans e3) h (by omega) (by omega)
end
end C19
set_option Elab.async false
set_option linter.all false
set_option maxRecDepth 100000
set_option maxHeartbeats 4000000
namespace C19
open PySem PySem.Spec PyProof.Rows L2 Evl
/-! ### a picture whose lists may change -/
structure PicL (H : Hp) (q : Addr) (ts : List Addr) (p : Pic) : Prop where
  lst : H q = some (.lst (ts.map V.ref))
  len : ts.length = p.length
  at_ : ∀ (i : Nat) t r, ts[i]? = some t → p[i]? = some r → H t = some (.lst (rowV r))
theorem PicL.ex {H H' : Hp} {q : Addr} {ts : List Addr} {p : Pic} (h : PicL H q ts p) (e : Ex H H') : PicL H' q ts p := ⟨e _ _ h.lst, h.len, fun i t r h1 h2 => e _ _ (h.at_ i t r h1 h2)⟩
theorem PicL.rows {K : PySem.W.Frag} {H : Hp} {q : Addr} {ts : List Addr} {p : Pic} (h : PicL H q ts p) : DpAll K H (ts.map V.ref) (p.map rowD) := dpa_rows h.len h.at_
theorem PicL.dp {K : PySem.W.Frag} {H : Hp} {q : Addr} {ts : List Addr} {p : Pic} (h : PicL H q ts p) : Dp K H (.ref q) (picD p) := .lst (sq_of h.lst) h.rows
theorem kids_pic {H0 H : Hp} {q : Addr} {ts : List Addr} {p : Pic} (k : Kids HO.lst H0 H q ts (p.map rowV)) : PicL H q ts p := ⟨k.lst, by rw [k.len, List.length_map], fun i t r h1 h2 => k.at_ i t _ h1 (by rw [List.getElem?_map, h2]; rfl)⟩
theorem NewP.pic {H0 H : Hp} {q : Addr} {p : Pic} (h : NewP H0 H q p) : ∃ ts, PicL H q ts p := by
  obtain ⟨_, ts, k⟩ := h
  exact ⟨ts, kids_pic k⟩
/-- over a picture whose rows are lists that may change -/
theorem en_rowsL {K : PySem.W.Frag} {σ : L2.St} {H : Hp} {tl te : TE} {vs : List Nat} {j : Nat} {mk : List V → HO} {q : Addr} {ts : List Addr} {p : Pic} {F : List Int → List V} (h : Ev tl σ H (.ref q)) (hp : PicL H q ts p) (hz : p.length ≤ 40000) (hw : ∀ x, wipe ((wipe σ vs).set j (some x)) vs = wipe σ vs)
    (he : ∀ t r H1, r ∈ p → H1 t = some (.lst (rowV r)) → Ex H H1 → EvO1 mk te ((wipe σ vs).set j (some (.ref t))) H1 (F r)) : EvN mk (tLc (iList K tl) (gName j) tYes te vs) σ H (p.map F) := fun H0 e Q q' => h H0 e _ fun H1 e1 => ⟨q, rfl, ⟨_, sq_of (e1 _ _ (e _ _ hp.lst))⟩, by
  have hl : (ts.map V.ref).length = p.length := by rw [List.length_map, hp.len]
  have hat : ∀ i, i < (ts.map V.ref).length → ∃ t r, ts[i]? = some t ∧ p[i]? = some r ∧ (ts.map V.ref)[i]? = some (.ref t) := fun i hi => by
    rw [List.length_map] at hi
    exact ⟨ts[i], p[i]'(by have := hp.len; omega), List.getElem?_eq_getElem hi, List.getElem?_eq_getElem _, by rw [List.getElem?_map, List.getElem?_eq_getElem hi]; rfl⟩
  exact lc_new_core (τ := stL σ vs j (ts.map V.ref)) (b := fun _ => true) mk walk_list (by omega) (fun i => F (p.getD i [])) (fun H2 e2 => sq_of (e2 _ _ (e1 _ _ (e _ _ hp.lst)))) (aims_list fun i x hi => stL_at hi) (fun i hi => by
    obtain ⟨t, r, _, _, h3⟩ := hat i hi
    rw [stL_at h3]
    exact hw _) (fun i H2 _ _ => et_yes) (fun i H2 hi _ e2 => by
    obtain ⟨t, r, h1, h2, h3⟩ := hat i hi
    rw [stL_at h3, getD_at h2]
    exact he t r H2 (List.mem_of_getElem? h2) (e2 _ _ (e1 _ _ (e _ _ (hp.at_ i t r h1 h2)))) ((e.trans e1).trans e2)) fun z zs H2 hz2 e2 k => q' z zs H2 (fresh_back e1 hz2) (e1.trans e2) (by
      rw [hl] at k
      unfold givenL at k
      rw [filt_rng (p := fun _ => true), filt_all] at k
      exact kids_ex k e1 (Ex.refl _))⟩
section
variable {P : Program} {w : World} {K : PySem.W.Frag} {mg : Str → Option Value} {base : Heap} {a : Ad}
/-! ### _law_copied -/
def spCopied (K : PySem.W.Frag) : Sp := fun vs H Q _ => ∃ (x : V) (p : Pic), vs = [x] ∧ Dp K H x (picD p) ∧ p.length ≤ 40000 ∧ RetP p H Q
theorem ok_lw_copied (T : Txt K mg a) (D : DefAt K mg "_law_copied" s_lw_copied) : Cal P w K mg base CX0 1 "_law_copied" ["_law_rows"] (spCopied K) := by
  refine cal_of D bd_lw_copied sc_lw_copied (fun vs H Q E h => ?_) (fun f cdv A outer s H vs Q E hr h => ?_)
  · obtain ⟨x, p, rfl, _⟩ := h
    rfl
  · obtain ⟨x, p, rfl, hx, hz, q⟩ := h
    obtain ⟨q0, ts, rfl, ht, hts⟩ := dp_pic_inv hx
    refine ⟨_, (pss_one (ps_ret (pe_lc (own := [("_law_row", 1)]) (g := (gName 1)) rfl sc_lw_copied.nd (pi_listK K (pv 0)) (blkOk_by (by kernel_rfl)) (fun _ _ _ _ _ => (pg_name (i := 1) sc_lw_copied.nd rfl (by first | exact Or.inl rfl | exact Or.inr rfl))) (fun _ _ _ _ _ => pts_nil) (fun _ _ _ _ _ => (pe_callTy (T := "list") (call_listK K) (by rfl) T.b_list (by decide +kernel) (pa_cons (pv 1) pa_nil)))))), ?_⟩
    refine s_retPic (rows := p) (evp_of (en_dataM (ev_var rfl) ht hts hz (fun _ => rfl) fun x r H1 hr hd e1 => ?_)) q
    obtain ⟨t, rfl, ht⟩ := dp_row_inv hd
    exact eo_l (el_listC (ev_var rfl) (.inl ht))
theorem evp_copied {σ : L2.St} {H : Hp} {t1 : TE} {E : XK} {x : V} {p : Pic} (h : Ev t1 σ H x) (hx : Dp K H x (picD p)) (hz : p.length ≤ 40000) : EvP (tCall (spCopied K) [] E (tCons t1 tNil)) σ H p :=
  evp_call (ea_cons h ea_nil) fun H1 e1 Q q => ⟨x, p, rfl, dpx hx e1, hz, q⟩
/-! ### _law_rows_good -/
def spRowsGood (K : PySem.W.Frag) : Sp := fun vs H Q _ => ∃ (x y : V) (p d : Pic), vs = [x, y] ∧ Dp K H x (picD p) ∧ Dp K H y (picD d) ∧ p.length ≤ 40000 ∧ RetV (.bl (decide (p = d))) H Q
theorem ok_lw_rows_good (T : Txt K mg a) (D : DefAt K mg "_law_rows_good" s_lw_rows_good) : Cal P w K mg base CX0 1 "_law_rows_good" ["_law_found", "_law_due"] (spRowsGood K) := by
  refine cal_of D bd_lw_rows_good sc_lw_rows_good (fun vs H Q E h => ?_) (fun f cdv A outer s H vs Q E hr h => ?_)
  · obtain ⟨x, y, p, d, rfl, _⟩ := h
    rfl
  · obtain ⟨x, y, p, d, rfl, hx, hy, hz, q⟩ := h
    obtain ⟨q0, ts, rfl, ht, hts⟩ := dp_pic_inv hx
    have hl := dp_len hts
    rw [List.length_map] at hl
    refine ⟨_, (pss_cons (ps_if (PW.pt (pw_or (pt_not (pt_val (pe_callB (id := "isinstance") (call_isiK K) (by rfl) T.b_isinstance (by decide +kernel) (pa_cons (pv 0) (pa_cons (pe_bltn (v := .ty "list") (by rfl) T.b_list (by decide +kernel) rfl) pa_nil))))) (pw_or1 (pt_not (pt_val (pe_callB (id := "all") (cr_allK K rfl) (by rfl) T.b_all (by decide +kernel) (pa_cons (pe_lc (own := [("_law_row", 2)]) (g := (gName 2)) rfl sc_lw_rows_good.nd (pi_listK K (pv 0)) (blkOk_by (by kernel_rfl)) (fun _ _ _ _ _ => (pg_name (i := 2) sc_lw_rows_good.nd rfl (by first | exact Or.inl rfl | exact Or.inr rfl))) (fun _ _ _ _ _ => pts_nil) (fun _ _ _ _ _ => (pe_callB (id := "isinstance") (call_isiK K) (by rfl) T.b_isinstance (by decide +kernel) (pa_cons (pv 2) (pa_cons (pe_bltn (v := .ty "list") (by rfl) T.b_list (by decide +kernel) rfl) pa_nil))))) pa_nil))))))) (pss_one (ps_ret pe_bl)) pss_nil)
      (pss_one (ps_ret (pe_cmpR (op_eqDK K hr.units) (pv 0) (pv 1) (nomark _))))), ?_⟩
    refine q_when (b := false) (et_at (et_or (a := false) (b := false) (et_at (et_not (et_B (ev_isList (ev_var rfl) hx))) rfl) fun _ => et_at (et_not (et_B (ev_allL (bs := p.map fun _ => true) ?_))) ?_) rfl) (fun hb => nomatch hb) fun _ H1 e1 => ?_
    · rw [List.map_map]
      exact el_dataM (ev_var rfl) ht hts hz (fun _ => rfl) fun x r H1 hr hd e1 => ev_isList (ev_var rfl) hd
    · have : (p.map fun _ => true).all id = true := by
        rw [List.all_map]
        exact List.all_eq_true.mpr fun _ _ => rfl
      rw [this]
      rfl
    · refine s_ret (ev_at (ev_eqP (ep_dp (ev_var rfl) (dpx hx e1)) (fun H2 e2 => ep_dp (ev_var rfl) (dpx hy (e1.trans e2))) (shaped_pic p) (shaped_pic d)) (by rw [eqv_pic])) fun H2 e2 => q H2 (e1.trans e2)
theorem ev_rowsGood {σ : L2.St} {H : Hp} {t1 t2 : TE} {E : XK} {x y : V} {p d : Pic} (h : Ev t1 σ H x) (h2 : Ev t2 σ H y) (hx : Dp K H x (picD p)) (hy : Dp K H y (picD d)) (hz : p.length ≤ 40000) : Ev (tCall (spRowsGood K) [] E (tCons t1 (tCons t2 tNil))) σ H (.bl (decide (p = d))) :=
  ev_callV (ea_cons h (ea_cons h2 ea_nil)) fun H1 e1 Q q => ⟨x, y, p, d, rfl, dpx hx e1, dpx hy e1, hz, q⟩
/-! ### _law_own: found is new since H0, it changes -/
def spOwn : Sp := fun vs H Q _ => ∃ (H0 : Hp) (p dq : Addr) (rows due : Pic) (dts : List Addr), vs = [.ref p, .ref dq] ∧ Ex H0 H ∧ NewP H0 H p rows ∧ PicL H0 dq dts due ∧ due.length ≤ 40000 ∧ (∀ r ∈ rows, r.length ≤ 1000) ∧ (∀ r ∈ due, r.length ≤ 1000) ∧ ∀ H', Ex H0 H' → Q (.bl (decide (rows = due))) H'
theorem app_inj {x : Int} : ∀ {p d : Pic}, (p.map fun r => r ++ [x]) = (d.map fun r => r ++ [x]) ↔ p = d := fun {p d} => ⟨fun h => (List.map_inj_right fun a b e => List.append_cancel_right e).mp h, fun h => by rw [h]⟩
theorem ok_lw_own (T : Txt K mg a) (D : DefAt K mg "_law_own" s_lw_own) : Cal P w K mg base CX0 1 "_law_own" ["_law_found", "_law_due"] spOwn := by
  refine cal_of D bd_lw_own sc_lw_own (fun vs H Q E h => ?_) (fun f cdv A outer s H vs Q E hr h => ?_)
  · obtain ⟨H0, p, dq, rows, due, dts, rfl, _⟩ := h
    rfl
  · obtain ⟨H0, p, dq, rows, due, dts, rfl, e0, ⟨hp0, ps, hk⟩, hd, hdl, hr1, hr2, q⟩ := h
    have hk' := hk
    have hkl := hk.len
    rw [List.length_map] at hkl
    refine ⟨_, (pss_cons (ps_for (L2.passes_of rfl) rfl (pi_listK K (pv 0)) (pg_name (i := 2) sc_lw_own.nd rfl (by first | exact Or.inl rfl | exact Or.inr rfl)) (pss_one (ps_expr (pe_bmK K PySem.F.plainAttrs_list PySem.F.slot_list_append PySem.F.type_list_append mt_append (pv 2) (pa_cons pe_int pa_nil)))))
      (pss_one (ps_ret (pe_cmpR (op_eqDK K hr.units) (pv 0) (pe_lc (own := [("_law_row", 2)]) (g := (gName 2)) rfl sc_lw_own.nd (pi_listK K (pv 1)) (blkOk_by (by kernel_rfl)) (fun _ _ _ _ _ => (pg_name (i := 2) sc_lw_own.nd rfl (by first | exact Or.inl rfl | exact Or.inr rfl))) (fun _ _ _ _ _ => pts_nil) (fun _ _ _ _ _ => (pe_op op_cat (pv 2) (pe_lst (pa_cons pe_int pa_nil))))) (nomark _))))), ?_⟩
    refine q_forL (a := p) (xs := ps.map V.ref) (ev_var rfl) (sq_of hk.lst) (fun i σ' H' => Ex H0 H' ∧ H' p = some (.lst (ps.map V.ref)) ∧ (∀ (k : Nat) t r, ps[k]? = some t → rows[k]? = some r → H' t = some (.lst (rowV (if k < i then r ++ [99] else r)))) ∧ ∃ s2, σ' = [some (.ref p), some (.ref dq), s2])
      (fun H1 e1 => ⟨e0.trans e1, e1 _ _ hk.lst, fun k t r h1 h2 => by
        rw [if_neg (Nat.not_lt_zero k)]
        exact e1 _ _ (hk.at_ k t _ h1 (by rw [List.getElem?_map, h2]; rfl)), _, rfl⟩) (fun i σ' H' _ h => sq_of h.2.1) (fun i x σ' H' hx h => ?_) (fun σ' H' h => ?_)
    · obtain ⟨h1, h2, h3, s2, rfl⟩ := h
      rw [List.getElem?_map] at hx
      obtain ⟨t, ht, rfl⟩ := Option.map_eq_some_iff.mp hx
      have hti := (List.getElem?_eq_some_iff.mp ht).1
      have hr : rows[i]? = some rows[i] := List.getElem?_eq_getElem (by omega)
      have htr := h3 i t _ ht hr
      rw [if_neg (Nat.lt_irrefl i)] at htr
      have htn := hk.new t (List.mem_of_getElem? ht)
      have htp : p ≠ t := fun e => hk.out (e ▸ List.mem_of_getElem? ht)
      refine s_app (xs := rowV rows[i]) htr (ev_var rfl) ev_c (by rw [row_len]; have := hr1 _ (List.mem_of_getElem? hr); omega) fun H1 e1 => ⟨Ex.mut (h1.trans e1) htn, by rw [upd_ne htp]; exact e1 _ _ h2, fun k t' r hk1 hk2 => ?_, _, rfl⟩
      by_cases e : k = i
      · subst e
        rw [ht] at hk1
        rw [hr] at hk2
        cases hk1
        cases hk2
        rw [upd_same, if_pos (by omega)]
        simp [rowV]
      · have hne : t' ≠ t := fun e2 => e (by
          subst e2
          exact (List.getElem?_inj (by have := (List.getElem?_eq_some_iff.mp hk1).1; omega) hk.nd).mp (hk1.trans ht.symm))
        rw [upd_ne hne]
        have := e1 _ _ (h3 k t' r hk1 hk2)
        rw [this]
        by_cases c : k < i
        · rw [if_pos c, if_pos (by omega)]
        · rw [if_neg c, if_neg (by omega)]
    · obtain ⟨h1, h2, h3, s2, rfl⟩ := h
      rw [List.length_map] at h3
      have hf : PicL H' p ps (rows.map fun r => r ++ [99]) := ⟨h2, by rw [List.length_map]; omega, fun i t r hi hr => by
        rw [List.getElem?_map] at hr
        obtain ⟨r0, hr0, rfl⟩ := Option.map_eq_some_iff.mp hr
        have := h3 i t r0 hi hr0
        rw [if_pos (List.getElem?_eq_some_iff.mp hi).1] at this
        exact this⟩
      have hd' := hd.ex h1
      refine s_ret (v := .bl (decide (rows = due))) (ev_at (ev_eqP (d := picD (rows.map fun r => r ++ [99])) (e := picD (due.map fun r => r ++ [99])) (ep_dp (ev_var rfl) hf.dp) (fun H2 e2 => ep_pic (evp_of ?_)) (shaped_pic _) (shaped_pic _)) ?_) fun H2 e2 => q H2 (h1.trans e2)
      · have eF : (due.map fun r => r ++ [99]).map rowV = due.map fun r => rowV r ++ [.int 99] := by
          rw [List.map_map]
          refine List.map_congr_left fun r _ => ?_
          simp [rowV]
        rw [eF]
        have hd2 := hd'.ex e2
        have key : ∀ x ∈ dts.map V.ref, ∃ t, x = .ref t := fun x hx => by
          obtain ⟨t, _, rfl⟩ := List.mem_map.mp hx
          exact ⟨t, rfl⟩
        refine en_rowsL (ev_var rfl) hd2 hdl (fun _ => rfl) fun t r H3 hr h3 e3 => ?_
        refine eo_l (fun H4 e4 Q q => (ev_var rfl : Ev (tVar 2) _ H4 (.ref t)) H4 (Ex.refl _) _ fun H5 e5 => (show EvL (tLst (tCons (tC (.int 99)) tNil)) _ H5 [.int 99] from el_lst (ea_cons ev_c ea_nil) (show 1 ≤ 100000 by decide)) H5 (Ex.refl _) _ fun z H6 hz e6 hz6 => ⟨t, z, _, _, rfl, rfl, e6 _ _ (e5 _ _ (e4 _ _ h3)), hz6, ?_, fun y hy => q y _ (fresh_back (e5.trans e6) hy) ((e5.trans e6).trans (Ex.new hy)) upd_same⟩)
        have := hr2 r hr
        have hs := sizeLine_eq
        rw [row_len]
        show r.length + 1 ≤ sizeLine
        omega
      · rw [eqv_pic]
        exact congrArg V.bl (decide_eq_decide.mpr app_inj)
end
end C19
set_option Elab.async false
set_option linter.all false
set_option maxRecDepth 100000
set_option maxHeartbeats 4000000
namespace C19
open PySem PySem.Spec PyProof.Rows L2 Evl
section
variable {P : Program} {w : World} {K : PySem.W.Frag} {mg : Str → Option Value} {base : Heap} {a : Ad}
/-! ### _law_pool -/
structure Pool (cols : List Col) : Prop where
  len : 1 ≤ cols.length ∧ cols.length ≤ 24
  val : ∀ c ∈ cols, ValidC c
  nd : cols.Nodup
def spPool (K : PySem.W.Frag) : Sp := fun vs H Q _ => ∃ (q : Addr) (cells : List Int) (first : Int) (near : Bool), vs = [.ref q, .int first, .bl near] ∧ SqL K H q (rowV cells) ∧ (0 ≤ first ∧ first ≤ 1000) ∧
  ∀ l xs cols H', Ex H H' → H l = none → H' l = some (.lst xs) → DpAll K H' xs (cols.map colD) → Pool cols → Q (.ref l) H'
theorem ep_lwCol {σ : L2.St} {H : Hp} {t1 : TE} {E : XK} {n : Int} (h1 : Ev t1 σ H (.int n)) (hn : 0 ≤ n) : Ep (tCall spLwCol [] E (tCons t1 tNil)) σ H fun v H' => ∃ p c, v = .ref p ∧ ValidC c ∧ H' p = some (.tup (colV c)) :=
  ep_call (ea_cons h1 ea_nil) fun H1 e1 Q q => ⟨n, rfl, hn, fun p c H2 hv e2 hp h2 => q _ H2 e2 ⟨p, c, rfl, hv, h2⟩⟩
theorem dpa_snoc {H : Hp} {x : V} {d : PyData} (hx : Dp K H x d) : ∀ {xs : List V} {ds : List PyData}, DpAll K H xs ds → DpAll K H (xs ++ [x]) (ds ++ [d])
  | _, _, .nil => .cons hx .nil
  | _, _, .cons h t => .cons h (dpa_snoc hx t)
theorem ep_tupL {σ : L2.St} {H : Hp} {tl : TE} {c : Col} (h : EvL tl σ H (colV c)) (hv : ValidC c) :
    Ep (tCB (fun xs H Q => ∃ p ys, xs = [V.ref p] ∧ ((SqL K H p ys ∧ ∀ l, H l = none → Q (.ref l) (upd H l (.tup ys))) ∨ (SqT K H p ys ∧ Q (.ref p) H))) (tCons tl tNil)) σ H fun v H' => ∃ p c, v = .ref p ∧ ValidC c ∧ H' p = some (.tup (colV c)) := fun H1 e Q q =>
  h H1 e _ fun r H2 hr e2 h2 => ⟨r, _, rfl, .inl ⟨sq_of h2, fun y hy => q _ _ (e2.trans (Ex.new hy)) ⟨y, c, rfl, hv, upd_same⟩⟩⟩
/-- colours stand though a list changes -/
theorem dp_col_upd {H : Hp} {x : V} {c : Col} {l : Addr} {xs ys : List V} (hd : Dp K H x (colD c)) (hl : H l = some (.lst xs)) : Dp K (upd H l (.lst ys)) x (colD c) := by
  obtain ⟨p, rfl, hp⟩ := dp_col_inv hd
  refine dp_col ?_
  rcases hp with (h | ⟨o, h⟩) | h
  · refine .inl (.inl ?_)
    rw [upd_ne fun e => by
      rw [e, hl] at h
      cases h]
    exact h
  · refine .inl (.inr ⟨o, ?_⟩)
    rw [upd_ne fun e => by
      rw [e, hl] at h
      cases h]
    exact h
  · exact .inr h
theorem dpa_col_upd {H : Hp} {l : Addr} {xs ys : List V} (hl : H l = some (.lst xs)) : ∀ {cols : List Col} {zs : List V}, DpAll K H zs (cols.map colD) → DpAll K (upd H l (.lst ys)) zs (cols.map colD)
  | [], _, h => by
    cases h
    exact .nil
  | c :: cols, _, h => by
    cases h with
    | cons h1 h2 => exact .cons (dp_col_upd h1 hl) (dpa_col_upd hl h2)
theorem ok_lw_pool (T : Txt K mg a) (D : DefAt K mg "_law_pool" s_lw_pool) (c_lw_draw : Cal P w K mg base CX0 1 "_law_draw" ["_law_script", "_law_k"] (spDraw K)) (c_lw_colour : Cal P w K mg base CX0 1 "_law_colour" ["_law_number"] spLwCol) :
    Cal P w K mg base CX0 2 "_law_pool" ["_law_script", "_law_first", "_law_near"] (spPool K) := by
  refine cal_of D bd_lw_pool sc_lw_pool (fun vs H Q E h => ?_) (fun f cdv A outer s H vs Q E hr h => ?_)
  · obtain ⟨q, cells, first, near, rfl, _⟩ := h
    rfl
  · obtain ⟨q, cells, first, near, rfl, hq, hf, q0⟩ := h
    refine ⟨_, (pss_cons (ps_set (i := 3) sc_lw_pool.nd rfl (by first | exact Or.inl rfl | exact Or.inr rfl) (pf_c c_lw_colour hr (by rfl) pass0 (pa_cons (pf_c c_lw_draw hr (by rfl) pass0 (pa_cons (pv 0) (pa_cons (pv 1) pa_nil))) pa_nil)))
      (pss_cons (ps_set (i := 4) sc_lw_pool.nd rfl (by first | exact Or.inl rfl | exact Or.inr rfl) (pe_lst pa_nil))
      (pss_cons (ps_for (L2.passes_of rfl) rfl (pi_range1 rfl T.b_range (pa_cons pe_int pa_nil)) (pg_name (i := 5) sc_lw_pool.nd rfl (by first | exact Or.inl rfl | exact Or.inr rfl)) (pss_cons (ps_set (i := 6) sc_lw_pool.nd rfl (by first | exact Or.inl rfl | exact Or.inr rfl) (pf_c c_lw_draw hr (by rfl) pass0 (pa_cons (pv 0) (pa_cons (pe_op op_add (pe_op op_add (pv 1) pe_int) (pv 5)) pa_nil))))
      (pss_cons (ps_set (i := 7) sc_lw_pool.nd rfl (by first | exact Or.inl rfl | exact Or.inr rfl) (pf_c c_lw_colour hr (by rfl) pass0 (pa_cons (pv 6) pa_nil)))
      (pss_cons (ps_if (pt_val (pv 2)) (pss_one (ps_set (i := 7) sc_lw_pool.nd rfl (by first | exact Or.inl rfl | exact Or.inr rfl) (pe_callTy (T := "tuple") (call_tupleK K) (by rfl) T.b_tuple (by decide +kernel) (pa_cons (pe_lc (own := [("_law_j", 8)]) (g := (gName 8)) rfl sc_lw_pool.nd (pi_range1 rfl T.b_range (pa_cons pe_int pa_nil)) (blkOk_by (by kernel_rfl)) (fun _ _ _ _ _ => (pg_name (i := 8) sc_lw_pool.nd rfl (by first | exact Or.inl rfl | exact Or.inr rfl))) (fun _ _ _ _ _ => pts_nil) (fun _ _ _ _ _ => (pe_op op_add (pe_callB (id := "min") (call_min2 rfl) (by rfl) T.b_min (by decide +kernel) (pa_cons (pe_ix (ix_tupK K) (pv 3) (pv 8) (fun _ _ => rfl)) (pa_cons pe_int pa_nil))) (pe_op op_mod (pe_op op_fdiv (pv 6) (pe_ix (ix_listK K) (pe_lst (pa_cons pe_int (pa_cons pe_int (pa_cons pe_int pa_nil)))) (pv 8) (fun _ _ => rfl))) pe_int)))) pa_nil)))) pss_nil)
      (pss_one (ps_if (pt_cmpR (op_notInDK K (u65 hr)) (pv 7) (pv 4) rfl) (pss_one (ps_expr (pe_bmK K PySem.F.plainAttrs_list PySem.F.slot_list_append PySem.F.type_list_append mt_append (pv 4) (pa_cons (pv 7) pa_nil)))) pss_nil))))))
      (pss_one (ps_ret (pv 4)))))), ?_⟩
    refine q_set (ep_lwCol (ev_draw (ev_var rfl) (ev_var rfl) hq ⟨hf.1, by omega⟩) (drawF_range _ _).1) fun vb H1 e1 hb => ?_
    obtain ⟨pb, cb, rfl, hvb, hpb⟩ := hb
    refine q_asgL (xs := []) (el_lst ea_nil (by decide)) fun l H2 hl e2 hl2 => ?_
    refine q_forR1 (n := 24) (ea_cons ev_c ea_nil) (by decide) (fun i σ' H' => Ex H1 H' ∧ (∃ xs cols, H' l = some (.lst xs) ∧ DpAll K H' xs (cols.map colD) ∧ cols.length ≤ i ∧ (1 ≤ i → 1 ≤ cols.length) ∧ (∀ c ∈ cols, ValidC c) ∧ cols.Nodup) ∧ ∃ s5 s6 s7 s8, σ' = [some (.ref q), some (.int first), some (.bl near), some (.ref pb), some (.ref l), s5, s6, s7, s8])
      (fun H3 e3 => ⟨e2.trans e3, ⟨[], [], e3 _ _ hl2, .nil, Nat.le_refl _, (fun h => absurd h (by decide)), (fun _ h => nomatch h), List.nodup_nil⟩, _, _, _, _, rfl⟩) (fun i σ' H' hi h => ?_) (fun σ' H' h => ?_)
    · obtain ⟨h1, ⟨xs, cols, h2, h3, h4, h5, h6, h7⟩, s5, s6, s7, s8, rfl⟩ := h
      have hqx := ex_l (e1.trans h1) hq
      refine q_asg (ev_draw (k := first + 1 + ((i : Nat) : Int)) (ev_var rfl) (ev_op (ev_op (ev_var rfl) ev_c rv_I0) (ev_var rfl) rv_I0) hqx (by omega)) fun H3 e3 => ?_
      have hdr := drawF_range cells (first + 1 + ((i : Nat) : Int))
      generalize drawF cells (first + 1 + ((i : Nat) : Int)) = nn at hdr
      refine q_set (ep_lwCol (ev_var rfl) hdr.1) fun v7 H4 e4 hv7 => ?_
      refine q_ifP (P := fun v H' => ∃ p c, v = .ref p ∧ ValidC c ∧ H' p = some (.tup (colV c))) (et_B (ev_var rfl)) (fun hb => ?_) (fun hb => ⟨v7, rfl, fun H5 e5 => by
        obtain ⟨p, c, h1, h2, h3⟩ := hv7
        exact ⟨p, c, h1, h2, e5 _ _ h3⟩⟩) fun v8 H5 e5 hv8 => ?_
      · have hpb4 := e4 _ _ (e3 _ _ (h1 _ _ hpb))
        let f3 : Int → Int → Int := fun b m => (if 252 < b then 252 else b) + nn / m % 4
        have hf3 : ∀ b m : Int, 0 ≤ b ∧ b ≤ 255 → 0 ≤ f3 b m ∧ f3 b m ≤ 255 := fun b m hb => by
          have := mod_rng (nn / m) (m := 4) (by decide)
          show 0 ≤ (if 252 < b then 252 else b) + nn / m % 4 ∧ (if 252 < b then 252 else b) + nn / m % 4 ≤ 255
          split <;> omega
        obtain ⟨vb1, vb2, vb3⟩ := hvb
        let cn : Col := (f3 cb.1 1, f3 cb.2.1 4, f3 cb.2.2 16)
        have hcn : ValidC cn := ⟨hf3 _ _ vb1, hf3 _ _ vb2, hf3 _ _ vb3⟩
        refine ep_tupL (c := cn) (show EvL _ _ _ (given (3 : Int).toNat (fun _ => true) fun i => (colV cn).getD i .non) from el_rng (n := 3) (ea_cons ev_c ea_nil) (by decide) (fun _ => rfl) (fun _ _ _ _ => et_yes) (fun j H6 hj _ e6 => ?_)) hcn
        have hpb6 := st_of (K := K) (e6 _ _ hpb4)
        have hL : ∀ {σ : L2.St} {j : Nat} {m : Int}, Ev (tVar 8) σ H6 (.int ((j : Nat) : Int)) → [(1 : Int), 4, 16][j]? = some m → Ev (tOp (rIxL K) (tLst (tCons (tC (.int 1)) (tCons (tC (.int 4)) (tCons (tC (.int 16)) tNil)))) (tVar 8)) σ H6 (.int m) := fun {σ j m} hv hm =>
          ev_opL1 (xs := [.int 1, .int 4, .int 16]) (el_lst (ea_cons ev_c (ea_cons ev_c (ea_cons ev_c ea_nil))) (show 3 ≤ 100000 by decide)) (fun H7 e7 => hv.mono e7) fun p H7 hp e7 => ixl_int (ns := [1, 4, 16]) (sq_of hp) (by omega) (by rw [Int.toNat_natCast]; exact hm)
        have hM : ∀ {σ : L2.St} {j : Nat} {b m : Int}, Ev (tVar 8) σ H6 (.int ((j : Nat) : Int)) → Ev (tVar 3) σ H6 (.ref pb) → Ev (tVar 6) σ H6 (.int nn) → (colV cb)[j]? = some (.int b) → [(1 : Int), 4, 16][j]? = some m → (0 < m ∧ m < 1073741824) →
            Ev (tOp (rI0 fun i j => .int (i + j)) (tCB (fun xs H Q => ∃ i j, xs = [.int i, .int j] ∧ Q (.int (if j < i then j else i)) H) (tCons (tOp (rIxT K) (tVar 3) (tVar 8)) (tCons (tC (.int 252)) tNil))) (tOp (rI (fun _ j => 0 < j) fun i j => .int (i % j)) (tOp (rI CDiv fun i j => .int (i / j)) (tVar 6) (tOp (rIxL K) (tLst (tCons (tC (.int 1)) (tCons (tC (.int 4)) (tCons (tC (.int 16)) tNil)))) (tVar 8))) (tC (.int 4)))) σ H6 (.int (f3 b m)) := fun {σ j b m} hv8 hv3 hv6 hb hm hm0 =>
          ev_op (ev_cb (ea_cons (ev_op hv3 hv8 (rv_ixT hpb6 (atI_nat hb))) (ea_cons ev_c ea_nil)) fun H7 e7 Q q => ⟨b, 252, rfl, q H7 (Ex.refl _)⟩) (ev_op (ev_op hv6 (hL hv8 hm) (rv_div hm0)) ev_c (rv_mod (by decide))) rv_I0
        have hj3 : j < 3 := by omega
        match j, hj3 with
        | 0, _ => exact hM (ev_var rfl) (ev_var rfl) (ev_var rfl) rfl rfl (by decide)
        | 1, _ => exact hM (ev_var rfl) (ev_var rfl) (ev_var rfl) rfl rfl (by decide)
        | 2, _ => exact hM (ev_var rfl) (ev_var rfl) (ev_var rfl) rfl rfl (by decide)
      · obtain ⟨p8, c8, rfl, hc8, hp8⟩ := hv8
        have e35 := (e3.trans e4).trans e5
        have hd8 : Dp K H5 (.ref p8) (colD c8) := dp_col (st_of hp8)
        have h2' := e35 _ _ h2
        have h3' := dpax h3 e35
        refine s_when (b := !decide (c8 ∈ cols)) (et_test (ev_op (ev_var rfl) (ev_var rfl) fun H6 e6 Q q => ⟨_, _, dpx hd8 e6, .lst (sq_of (e6 _ _ h2')) (dpax h3' e6), shaped_col c8, shaped_cols cols, by
          rw [any_col]
          exact q H6 (Ex.refl _)⟩)) (fun hb H6 e6 => ?_) (fun hb H6 e6 => ?_)
        · have hn : c8 ∉ cols := by simpa using hb
          have hlen := dp_len h3'
          rw [List.length_map] at hlen
          have h16 := e6 _ _ h2'
          refine s_app h16 (ev_var rfl) (ev_var rfl) (by omega) fun H7 e7 => ?_
          have hne : p8 ≠ l := fun e => by
            have := e6 _ _ hp8
            rw [e, h16] at this
            cases this
          have eA : Ex H1 (upd H7 l (.lst (xs ++ [.ref p8]))) := Ex.mut (h1.trans (e35.trans (e6.trans e7))) hl
          have hkeep : ∀ {x : V} {c : Col}, Dp K H7 x (colD c) → Dp K (upd H7 l (.lst (xs ++ [.ref p8]))) x (colD c) := fun {x c} hd => dp_col_upd hd (e7 _ _ h16)
          refine ⟨eA, ⟨xs ++ [.ref p8], cols ++ [c8], upd_same, ?_, by rw [List.length_append, List.length_singleton]; omega, fun _ => by rw [List.length_append, List.length_singleton]; omega, fun c hc => ?_, ?_⟩, _, _, _, _, rfl⟩
          · rw [List.map_append]
            exact dpa_snoc (hkeep (dpx hd8 (e6.trans e7))) (dpa_col_upd (e7 _ _ h16) (dpax h3' (e6.trans e7)))
          · rcases List.mem_append.mp hc with hc | hc
            · exact h6 c hc
            · rw [List.mem_singleton.mp hc]
              exact hc8
          · exact List.nodup_append.mpr ⟨h7, by simp, fun x hx y hy => by
              rw [List.mem_singleton.mp hy]
              exact fun e => hn (e ▸ hx)⟩
        · have hm : c8 ∈ cols := by simpa using hb
          refine ⟨h1.trans (e35.trans e6), ⟨xs, cols, e6 _ _ h2', dpax h3' e6, by omega, (fun _ => List.length_pos_iff.mpr fun e => by rw [e] at hm; cases hm), h6, h7⟩, _, _, _, _, rfl⟩
    · obtain ⟨h1, ⟨xs, cols, h2, h3, h4, h5, h6, h7⟩, s5, s6, s7, s8, rfl⟩ := h
      exact s_ret (ev_var rfl) fun H3 e3 => q0 l xs cols H3 (e1.trans (h1.trans e3)) (fresh_back e1 hl) (e3 _ _ h2) (dpax h3 e3) ⟨⟨h5 (by decide), h4⟩, h6, h7⟩
end
end C19
set_option Elab.async false
set_option linter.all false
set_option maxRecDepth 100000
set_option maxHeartbeats 4000000
namespace C19
open PySem PySem.Spec PyProof.Rows L2 Evl
section
variable {P : Program} {w : World} {K : PySem.W.Frag} {mg : Str → Option Value} {base : Heap} {a : Ad}
/-! ### _law_picture -/
theorem kids_snoc {mk : List V → HO} {H0 H : Hp} {f t : Addr} {ps : List Addr} {xss : List (List V)} {xs : List V} (k : Kids mk H0 H f ps xss) (ht : H t = some (mk xs)) (h0 : H0 t = none) (h1 : t ∉ ps) (h2 : f ≠ t) : Kids mk H0 (upd H f (.lst (ps.map V.ref ++ [.ref t]))) f (ps ++ [t]) (xss ++ [xs]) := by
  refine ⟨by rw [upd_same, List.map_append]; rfl, by rw [List.length_append, List.length_append, k.len]; rfl, fun i s ys hs hy => ?_, fun s hs => ?_, ?_, fun hm => ?_⟩
  · by_cases c : i < ps.length
    · rw [List.getElem?_append_left c] at hs
      rw [List.getElem?_append_left (by rw [← k.len]; exact c)] at hy
      have hne : s ≠ f := fun e => k.out (e ▸ List.mem_of_getElem? hs)
      rw [upd_ne hne]
      exact k.at_ i s ys hs hy
    · have e : i = ps.length := by
        have := (List.getElem?_eq_some_iff.mp hs).1
        rw [List.length_append, List.length_singleton] at this
        omega
      subst e
      rw [List.getElem?_concat_length] at hs
      rw [k.len, List.getElem?_concat_length] at hy
      cases hs
      cases hy
      rw [upd_ne (Ne.symm h2)]
      exact ht
  · rcases List.mem_append.mp hs with hs | hs
    · exact k.new s hs
    · rw [List.mem_singleton.mp hs]
      exact h0
  · exact List.nodup_append.mpr ⟨k.nd, by simp, fun x hx y hy => by
      rw [List.mem_singleton.mp hy]
      exact fun e => h1 (e ▸ hx)⟩
  · rcases List.mem_append.mp hm with hm | hm
    · exact k.out hm
    · exact h2 (List.mem_singleton.mp hm)
def spPicture (K : PySem.W.Frag) : Sp := fun vs H Q _ => ∃ (q : Addr) (cells : List Int) (first m : Int), vs = [.ref q, .int first, .int m] ∧ SqL K H q (rowV cells) ∧ (0 ≤ first ∧ first ≤ 1000) ∧ (1 ≤ m ∧ m ≤ 16) ∧
  ∀ r p H', Ex H H' → NewP H H' r p → Good p → (∀ c ∈ p.flatten, c < m) → Q (.ref r) H'
theorem ok_lw_picture (T : Txt K mg a) (D : DefAt K mg "_law_picture" s_lw_picture) (c_lw_draw : Cal P w K mg base CX0 1 "_law_draw" ["_law_script", "_law_k"] (spDraw K)) (c_lw_size : Cal P w K mg base CX0 1 "_law_size" ["_law_number"] spSize) :
    Cal P w K mg base CX0 2 "_law_picture" ["_law_script", "_law_first", "_law_many"] (spPicture K) := by
  refine cal_of D bd_lw_picture sc_lw_picture (fun vs H Q E h => ?_) (fun f cdv A outer s H vs Q E hr h => ?_)
  · obtain ⟨q, cells, first, m, rfl, _⟩ := h
    rfl
  · obtain ⟨q, cells, first, m, rfl, hq, hf, hm, q0⟩ := h
    refine ⟨_, (pss_cons (ps_set (i := 3) sc_lw_picture.nd rfl (by first | exact Or.inl rfl | exact Or.inr rfl) (pf_c c_lw_draw hr (by rfl) pass0 (pa_cons (pv 0) (pa_cons (pv 1) pa_nil))))
      (pss_cons (ps_asg (pf_c c_lw_size hr (by rfl) pass0 (pa_cons (pe_op op_fdiv (pv 3) pe_int) pa_nil)) (pg_tupK K (n := 2) rfl (pgs_cons (pg_name (i := 4) sc_lw_picture.nd rfl (by first | exact Or.inl rfl | exact Or.inr rfl)) (pgs_cons (pg_name (i := 5) sc_lw_picture.nd rfl (by first | exact Or.inl rfl | exact Or.inr rfl)) pgs_nil))))
      (pss_cons (ps_set (i := 6) sc_lw_picture.nd rfl (by first | exact Or.inl rfl | exact Or.inr rfl) (pe_lst pa_nil))
      (pss_cons (ps_for (L2.passes_of rfl) rfl (pi_range1 rfl T.b_range (pa_cons (pv 5) pa_nil)) (pg_name (i := 7) sc_lw_picture.nd rfl (by first | exact Or.inl rfl | exact Or.inr rfl)) (pss_cons (ps_set (i := 8) sc_lw_picture.nd rfl (by first | exact Or.inl rfl | exact Or.inr rfl) (pe_lst pa_nil))
      (pss_cons (ps_for (L2.passes_of rfl) rfl (pi_range1 rfl T.b_range (pa_cons (pv 4) pa_nil)) (pg_name (i := 9) sc_lw_picture.nd rfl (by first | exact Or.inl rfl | exact Or.inr rfl)) (pss_cons (ps_set (i := 10) sc_lw_picture.nd rfl (by first | exact Or.inl rfl | exact Or.inr rfl) (pf_c c_lw_draw hr (by rfl) pass0 (pa_cons (pv 0) (pa_cons (pe_op op_add (pe_op op_add (pe_op op_add (pv 1) pe_int) (pe_op op_mul (pv 7) (pv 4))) (pv 9)) pa_nil))))
      (pss_cons (ps_set (i := 11) sc_lw_picture.nd rfl (by first | exact Or.inl rfl | exact Or.inr rfl) (pe_op op_mod (pe_op op_fdiv (pv 10) pe_int) (pv 2)))
      (pss_cons (ps_if (PW.pt (pw_and (pt_cmpR op_eq (pe_op op_mod (pv 3) pe_int) pe_int (nomark _)) (pw_and1 (pt_cmpR op_gt (pe_op op_mod (pv 10) pe_int) pe_int (nomark _))))) (pss_one (ps_set (i := 11) sc_lw_picture.nd rfl (by first | exact Or.inl rfl | exact Or.inr rfl) (pe_ix (ix_listK K) (pe_lst (pa_cons (pe_op op_mod (pe_op op_fdiv (pv 3) pe_int) (pv 2)) (pa_cons (pe_op op_mod (pe_op op_fdiv (pv 3) pe_int) (pv 2)) pa_nil))) (pe_op op_mod (pv 10) pe_int) (fun _ _ => rfl)))) pss_nil)
      (pss_one (ps_expr (pe_bmK K PySem.F.plainAttrs_list PySem.F.slot_list_append PySem.F.type_list_append mt_append (pv 8) (pa_cons (pv 11) pa_nil))))))))
      (pss_one (ps_expr (pe_bmK K PySem.F.plainAttrs_list PySem.F.slot_list_append PySem.F.type_list_append mt_append (pv 6) (pa_cons (pv 8) pa_nil)))))))
      (pss_one (ps_ret (pv 6))))))), ?_⟩
    refine q_asg (ev_draw (ev_var rfl) (ev_var rfl) hq ⟨hf.1, by omega⟩) fun H1 e1 => ?_
    have hd0 := drawF_range cells first
    generalize drawF cells first = num at hd0
    refine (show Ep (tCall spSize [] E0 (tCons (tOp (rI CDiv fun i j => .int (i / j)) (tVar 3) (tC (.int 2))) tNil)) _ H1 (fun v H' => ∃ t i j, v = .ref t ∧ H' t = some (.tup [.int i, .int j]) ∧ (1 ≤ i ∧ i ≤ 24) ∧ (1 ≤ j ∧ j ≤ 24)) from
      ep_call (ea_cons (ev_op (ev_var rfl) ev_c (rv_div (by decide))) ea_nil) fun H2 e2 Q q => ⟨num / 2, rfl, by omega, fun t i j H3 e3 h3 hi hj => q _ H3 e3 ⟨t, i, j, rfl, h3, hi, hj⟩⟩) H1 (Ex.refl _) _ fun v H2 e2 hv => ?_
    obtain ⟨t, wd, hg, rfl, ht, hwd, hhg⟩ := hv
    refine ⟨t, [.int wd, .int hg], rfl, st_of ht, rfl, _, [.int hg], rfl, _, [], rfl, rfl, ?_⟩
    refine q_asgL (xs := []) (el_lst ea_nil (by decide)) fun f H3 hf3 e3 hf3v => ?_
    have e13 := e1.trans (e2.trans e3)
    refine q_forR1 (n := hg) (ea_cons (ev_var rfl) ea_nil) (by omega) (fun i σ' H' => (Ex H H' ∧ ∃ ps rows, Kids HO.lst H H' f ps (rows.map rowV) ∧ rows.length = i ∧ ∀ r ∈ rows, (r.length : Int) = wd ∧ ∀ c ∈ r, 0 ≤ c ∧ c < m) ∧ ∃ s7 s8 s9 s10 s11, σ' = [some (.ref q), some (.int first), some (.int m), some (.int num), some (.int wd), some (.int hg), some (.ref f), s7, s8, s9, s10, s11])
      (fun H4 e4 => ⟨⟨e13.trans e4, [], [], ⟨e4 _ _ hf3v, rfl, fun _ _ _ h _ => (by simp at h), (fun _ h => nomatch h), List.nodup_nil, (fun h => nomatch h)⟩, rfl, fun _ h => nomatch h⟩, _, _, _, _, _, rfl⟩) (fun i σ' H' hi h => ?_) (fun σ' H' h => ?_)
    · obtain ⟨⟨h1, ps, rows, hk, hl, hc⟩, s7, s8, s9, s10, s11, rfl⟩ := h
      refine q_asgL (xs := []) (el_lst ea_nil (by decide)) fun l H4 hl4 e4 hl4v => ?_
      have hk4 := kids_ex hk (Ex.refl _) e4
      have hlps : l ∉ ps := fun hm => by
        obtain ⟨j, hj, e⟩ := List.getElem_of_mem hm
        have hj2 : j < (rows.map rowV).length := by rw [← hk.len]; exact hj
        have := hk.at_ j l _ (by rw [List.getElem?_eq_getElem hj, e]) (List.getElem?_eq_getElem hj2)
        rw [hl4] at this
        cases this
      have hlf : f ≠ l := fun e => by
        have := hk.lst
        rw [e, hl4] at this
        cases this
      refine q_forR1 (n := wd) (ea_cons (ev_var rfl) ea_nil) (by omega) (fun j σ' H' => (Ex H H' ∧ Kids HO.lst H H' f ps (rows.map rowV) ∧ ∃ r, H' l = some (.lst (rowV r)) ∧ r.length = j ∧ ∀ c ∈ r, 0 ≤ c ∧ c < m) ∧ ∃ s9 s10 s11, σ' = [some (.ref q), some (.int first), some (.int m), some (.int num), some (.int wd), some (.int hg), some (.ref f), some (.int ((i : Nat) : Int)), some (.ref l), s9, s10, s11])
        (fun H5 e5 => ⟨⟨(h1.trans e4).trans e5, kids_ex hk4 (Ex.refl _) e5, [], e5 _ _ hl4v, rfl, fun _ h => nomatch h⟩, _, _, _, rfl⟩) (fun j σ' H' hj h => ?_) (fun σ' H' h => ?_)
      · obtain ⟨⟨k1, hk5, r, hr, hrl, hrc⟩, s9, s10, s11, rfl⟩ := h
        have hmul0 := Int.mul_nonneg (show (0 : Int) ≤ ((i : Nat) : Int) by omega) (show 0 ≤ wd by omega)
        have hmul := Int.mul_le_mul (show ((i : Nat) : Int) ≤ 24 by omega) hwd.2 (show 0 ≤ wd by omega) (show (0 : Int) ≤ 24 by decide)
        refine q_asg (ev_draw (ev_var rfl) (ev_op (ev_op (ev_op (ev_var rfl) ev_c rv_I0) (ev_op (ev_var rfl) (ev_var rfl) (rv_mul (.inr (by omega)))) rv_I0) (ev_var rfl) rv_I0) (ex_l k1 hq) (by omega)) fun H6 e6 => ?_
        have hd1 := drawF_range cells (first + 1 + ((i : Nat) : Int) * wd + ((j : Nat) : Int))
        generalize drawF cells (first + 1 + ((i : Nat) : Int) * wd + ((j : Nat) : Int)) = more at hd1
        have hmr := fun z : Int => mod_rng z (m := m) (by omega)
        refine q_asg (ev_op (ev_op (ev_var rfl) ev_c (rv_div (by decide))) (ev_var rfl) (rv_mod (by omega))) fun H7 e7 => ?_
        refine q_ifP (P := fun v _ => ∃ c, v = .int c ∧ 0 ≤ c ∧ c < m) (et_and (et_test (ev_op (ev_op (ev_var rfl) ev_c (rv_mod (by decide))) ev_c (rv_eq rfl))) fun _ => et_test (ev_op (ev_op (ev_var rfl) ev_c (rv_mod (by decide))) ev_c rv_I0)) (fun hb => ?_) (fun hb => ⟨_, rfl, fun _ _ => ⟨_, rfl, hmr _⟩⟩) fun v H8 e8 hv => ?_
        · have m2 := mod_rng more (m := 2) (by decide)
          have h2 : more % 2 = 0 ∨ more % 2 = 1 := by omega
          refine (fun H9 e9 Q q => (ev_opL1 (z := .int (if more % 2 = 0 then num / 4096 % m else num / 65536 % m)) (xs := [.int (num / 4096 % m), .int (num / 65536 % m)]) (el_lst (ea_cons (ev_op (ev_op (ev_var rfl) ev_c (rv_div (by decide))) (ev_var rfl) (rv_mod (by omega))) (ea_cons (ev_op (ev_op (ev_var rfl) ev_c (rv_div (by decide))) (ev_var rfl) (rv_mod (by omega))) ea_nil)) (show 2 ≤ 100000 by decide)) (fun H10 e10 => ev_op (ev_var rfl) ev_c (rv_mod (by decide))) fun p H10 hp e10 => ixl_int (ns := [num / 4096 % m, num / 65536 % m]) (sq_of hp) m2.1 ?_) H9 e9 Q fun H10 e10 => q _ H10 e10 ⟨_, rfl, ?_⟩)
          · rcases h2 with e | e <;> rw [e] <;> rfl
          · split
            · exact hmr _
            · exact hmr _
        · obtain ⟨c, rfl, hc0⟩ := hv
          have e68 := e6.trans (e7.trans e8)
          refine s_app (xs := rowV r) (e68 _ _ hr) (ev_var rfl) (ev_var rfl) (by rw [row_len]; omega) fun H9 e9 => ⟨⟨Ex.mut (k1.trans (e68.trans e9)) (fresh_back h1 hl4), ?_, r ++ [c], ?_, ?_, fun c' hc' => ?_⟩, _, _, _, rfl⟩
          · have hk9 := kids_ex hk5 (Ex.refl _) (e68.trans e9)
            exact ⟨by rw [upd_ne hlf]; exact hk9.lst, hk9.len, fun i' t' xs' h1' h2' => by
              have hne : t' ≠ l := fun e => hlps (e ▸ List.mem_of_getElem? h1')
              rw [upd_ne hne]
              exact hk9.at_ i' t' xs' h1' h2', hk9.new, hk9.nd, hk9.out⟩
          · rw [upd_same]
            simp [rowV]
          · rw [List.length_append, hrl, List.length_singleton]
          · rcases List.mem_append.mp hc' with h | h
            · exact hrc c' h
            · rw [List.mem_singleton.mp h]
              exact hc0
      · obtain ⟨⟨k1, hk5, r, hr, hrl, hrc⟩, s9, s10, s11, rfl⟩ := h
        refine s_app (xs := ps.map V.ref) hk5.lst (ev_var rfl) (ev_var rfl) (by
          have := hk.len
          rw [List.length_map] at this ⊢
          omega) fun H6 e6 => ⟨⟨Ex.mut (k1.trans e6) (fresh_back e1 (fresh_back e2 hf3)), ps ++ [l], rows ++ [r], ?_, by rw [List.length_append, hl, List.length_singleton], fun r' hr' => ?_⟩, _, _, _, _, _, rfl⟩
        · rw [List.map_append]
          exact kids_snoc (kids_ex hk5 (Ex.refl _) e6) (e6 _ _ hr) (fresh_back h1 hl4) hlps hlf
        · rcases List.mem_append.mp hr' with h | h
          · exact hc r' h
          · rw [List.mem_singleton.mp h]
            exact ⟨by rw [hrl]; omega, hrc⟩
    · obtain ⟨⟨h1, ps, rows, hk, hl, hc⟩, s7, s8, s9, s10, s11, rfl⟩ := h
      refine s_ret (ev_var rfl) fun H4 e4 => q0 f rows H4 (h1.trans e4) ⟨fresh_back e1 (fresh_back e2 hf3), ps, kids_ex hk (Ex.refl _) e4⟩ ⟨by omega, ⟨wd.toNat, by omega, by omega, fun r hr => by have := (hc r hr).1; omega⟩, fun r hr c hcc => by have := (hc r hr).2 c hcc; omega⟩ fun c hcc => ?_
      obtain ⟨r, hr, hcr⟩ := List.mem_flatten.mp hcc
      exact ((hc r hr).2 c hcr).2
/-! ### _law_counts, _law_used -/
def spLwCounts (K : PySem.W.Frag) : Sp := fun vs H Q _ => ∃ (x : V) (p : Pic), vs = [x] ∧ Dp K H x (picD p) ∧ Good p ∧ RetL (rowV (counts p)) H Q
theorem ok_lw_counts (T : Txt K mg a) (D : DefAt K mg "_law_counts" s_lw_counts) : Cal P w K mg base CX0 1 "_law_counts" ["_law_picture_here"] (spLwCounts K) := by
  refine cal_of D bd_lw_counts sc_lw_counts (fun vs H Q E h => ?_) (fun f cdv A outer s H vs Q E hr h => ?_)
  · obtain ⟨x, p, rfl, _⟩ := h
    rfl
  · obtain ⟨x, p, rfl, hx, hg, q⟩ := h
    refine ⟨_, (pss_cons (ps_set (i := 1) sc_lw_counts.nd rfl (by first | exact Or.inl rfl | exact Or.inr rfl) (pe_op op_rep (pe_lst (pa_cons pe_int pa_nil)) pe_int))
      (pss_cons (ps_for (L2.passes_of rfl) rfl (pi_listK K (pv 0)) (pg_name (i := 2) sc_lw_counts.nd rfl (by first | exact Or.inl rfl | exact Or.inr rfl)) (pss_one (ps_for (L2.passes_of rfl) rfl (pi_listK K (pv 2)) (pg_name (i := 3) sc_lw_counts.nd rfl (by first | exact Or.inl rfl | exact Or.inr rfl)) (pss_one (ps_asg (pe_op op_add (pe_ix (ix_listK K) (pv 1) (pv 3) (fun _ _ => rfl)) pe_int) (pg_sub (pv 1) (pv 3) set_list))))))
      (pss_one (ps_ret (pv 1))))), ?_⟩
    refine q_asgL (xs := rowV (cntL [])) (by
      rw [cntL_nil]
      exact el_rep (k := 16) (xs := [.int 0]) (el_lst (ea_cons ev_c ea_nil) (by decide)) (fun _ _ => ev_c) (by omega) (by decide)) fun l H2 hl e2 hl2 => ?_
    obtain ⟨q0, ts, rfl, ht, hts⟩ := dp_pic_inv hx
    have htl := dp_len hts
    rw [List.length_map] at htl
    have hhi := hg.high
    refine q_forL (a := q0) (xs := ts) (ev_var rfl) (ex_l e2 ht) (fun i σ' H' => Ex H H' ∧ H' l = some (.lst (rowV (cntL (p.take i).flatten))) ∧ σ'[1]? = some (some (.ref l)) ∧ σ'.length = 4) (fun H3 e3 => ⟨e2.trans e3, e3 _ _ hl2, rfl, rfl⟩) (fun i σ' H' _ h => ex_l h.1 ht) (fun i x σ' H' hx' h => ?_) (fun σ' H' h => ?_)
    · obtain ⟨h1, h2, h3, h4⟩ := h
      obtain ⟨r, hr, hrd⟩ := dpa_atG hts hx'
      obtain ⟨t, rfl, ht2⟩ := dp_row_inv hrd
      have hrm := List.mem_of_getElem? hr
      have hrl := hg.row hrm
      match σ', h3, h4 with
      | [s0, s1, s2, s3], h3, _ =>
        cases h3
        refine s_forL (a := t) (xs := rowV r) (ev_var rfl) (ex_l h1 ht2) (fun j σ' H' => Ex H H' ∧ H' l = some (.lst (rowV (cntL ((p.take i).flatten ++ r.take j)))) ∧ σ'[1]? = some (some (.ref l)) ∧ σ'.length = 4) (fun H3 e3 => ⟨h1.trans e3, by
          rw [List.take_zero, List.append_nil]
          exact e3 _ _ h2, rfl, rfl⟩) (fun j σ' H' _ h => ex_l h.1 ht2) (fun j x σ' H' hx2 h => ?_) (fun σ' H' h => ?_)
        · obtain ⟨k1, k2, k3, k4⟩ := h
          rw [rowV, List.getElem?_map] at hx2
          obtain ⟨c, hc, rfl⟩ := Option.map_eq_some_iff.mp hx2
          have hcc := hg.cell r hrm c (List.mem_of_getElem? hc)
          match σ', k3, k4 with
          | [s0, s1, s2, s3], k3, _ =>
            cases k3
            have e0 : ((c.toNat : Nat) : Int) = c := by omega
            refine s_setL (j := c.toNat) k2 (ev_op (ev_op (ev_var rfl) (ev_var rfl) (ixl_int (sq_of k2) hcc.1 (cntL_at _ (by omega)))) ev_c rv_I0) (ev_var rfl) (ev_at (ev_var rfl) (by rw [e0])) (by rw [row_len, cntL_len]; omega) fun H3 e3 => ⟨Ex.mut (k1.trans e3) hl, ?_, rfl, rfl⟩
            rw [upd_same, e0, rowV, ← List.map_set, cntL_step _ hcc.1 hcc.2, List.append_assoc, List.take_add_one, hc]
            rfl
        · obtain ⟨k1, k2, k3, k4⟩ := h
          refine ⟨k1, ?_, k3, k4⟩
          have el : (rowV r).length = r.length := List.length_map _
          rw [k2, List.take_add_one, hr, el, List.take_length]
          simp
    · obtain ⟨h1, h2, h3, h4⟩ := h
      refine s_ret (ev_var h3) fun H3 e3 => q l H3 hl (h1.trans e3) ?_
      have := e3 _ _ h2
      rw [htl, List.take_length] at this
      exact this
theorem el_lwCounts {σ : L2.St} {H : Hp} {t1 : TE} {E : XK} {x : V} {p : Pic} (h : Ev t1 σ H x) (hx : Dp K H x (picD p)) (hg : Good p) : EvL (tCall (spLwCounts K) [] E (tCons t1 tNil)) σ H (rowV (counts p)) :=
  el_callV (ea_cons h ea_nil) fun H1 e1 Q q => ⟨x, p, rfl, dpx hx e1, hg, q⟩
def spLwUsed (K : PySem.W.Frag) : Sp := fun vs H Q _ => ∃ (x : V) (p : Pic), vs = [x] ∧ Dp K H x (picD p) ∧ Good p ∧ RetL (rowV (used p)) H Q
theorem ok_lw_used (T : Txt K mg a) (D : DefAt K mg "_law_used" s_lw_used) (c_lw_counts : Cal P w K mg base CX0 1 "_law_counts" ["_law_picture_here"] (spLwCounts K)) : Cal P w K mg base CX0 2 "_law_used" ["_law_picture_here"] (spLwUsed K) := by
  refine cal_of D bd_lw_used sc_lw_used (fun vs H Q E h => ?_) (fun f cdv A outer s H vs Q E hr h => ?_)
  · obtain ⟨x, p, rfl, _⟩ := h
    rfl
  · obtain ⟨x, p, rfl, hx, hg, q⟩ := h
    refine ⟨_, (pss_one (ps_ret (pe_lc (own := [("_law_cell", 1)]) (g := (gName 1)) rfl sc_lw_used.nd (pi_range1 rfl T.b_range (pa_cons pe_int pa_nil)) (blkOk_by (by kernel_rfl)) (fun _ _ _ _ _ => (pg_name (i := 1) sc_lw_used.nd rfl (by first | exact Or.inl rfl | exact Or.inr rfl))) (fun _ _ _ _ _ => (pts_one (pt_cmpR op_gt (pe_ix (ix_listK K) (pf_c c_lw_counts hr (by rfl) pass0 (pa_cons (pv 0) pa_nil)) (pv 1) (fun _ _ => rfl)) pe_int (nomark _)))) (fun _ _ _ _ _ => (pv 1))))), ?_⟩
    refine s_retL (xs := rowV (used p)) ?_ q
    rw [← given_counts]
    refine el_rng (n := 16) (ea_cons ev_c ea_nil) (by decide) (fun _ => rfl) (fun i H1 hi e1 => ?_) (fun i H1 hi hb e1 => ev_var rfl)
    refine et_at (et_test (ev_op (ev_opL1 (el_lwCounts (ev_var rfl) (dpx hx e1) hg) (fun H2 e2 => ev_var rfl) fun r H2 hr2 e2 => ixl_int (sq_of hr2) (by omega) (counts_at p (i := ((i : Nat) : Int).toNat) (by omega))) ev_c rv_I0)) ?_
    rw [Int.toNat_natCast]
    exact decide_eq_decide.mpr (by omega)
end
end C19
set_option Elab.async false
set_option linter.all false
set_option maxRecDepth 100000
set_option maxHeartbeats 4000000
namespace C19
open PySem PySem.Spec PyProof.Rows L2 Evl
theorem leastBy_snoc (f : Int → Int → Bool) : ∀ (l : List Int) (b x : Int), leastBy f b (l ++ [x]) = if f x (leastBy f b l) then x else leastBy f b l
  | [], b, x => rfl
  | y :: l, b, x => by
    show leastBy f (if f y b then y else b) (l ++ [x]) = if f x (leastBy f (if f y b then y else b) l) then x else leastBy f (if f y b then y else b) l
    exact leastBy_snoc f l _ x
theorem leastBy_take (f : Int → Int → Bool) {l : List Int} {b x : Int} {i : Nat} (h : l[i]? = some x) : leastBy f b (l.take (i + 1)) = if f x (leastBy f b (l.take i)) then x else leastBy f b (l.take i) := by
  rw [List.take_add_one, h]
  exact leastBy_snoc f _ b x
/-- the least of a list of ints -/
def IsMin (l : List Int) (m : Int) : Prop := m ∈ l ∧ ∀ y, y ∈ l → m ≤ y
theorem heir_index {ap : Int → Int} {us : List Int} {g m : Int} (hs : us.Pairwise (· < ·)) (hm : IsMin ((us.filter fun o => decide (o ≠ g)).map ap) m) : ∃ (j : Nat) (h : Int), ((us.filter fun o => decide (o ≠ g)).map ap)[j]? = some m ∧ (∀ (k : Nat) z, k < j → ((us.filter fun o => decide (o ≠ g)).map ap)[k]? = some z → z ≠ m) ∧
    (us.filter fun o => decide (o ≠ g))[j]? = some h ∧ IsHeir ap us g h := by
  have hsf : (us.filter fun o => decide (o ≠ g)).Pairwise (· < ·) := hs.filter _
  have hmem : ∀ o, o ∈ us.filter (fun o => decide (o ≠ g)) ↔ o ∈ us ∧ o ≠ g := fun o => by
    rw [List.mem_filter, decide_eq_true_eq]
  generalize us.filter (fun o => decide (o ≠ g)) = l at hm hsf hmem
  have hi := List.idxOf_lt_length_iff.mpr hm.1
  have hil : (l.map ap).idxOf m < l.length := by rwa [List.length_map] at hi
  have hj : (l.map ap)[(l.map ap).idxOf m]? = some m := by rw [List.getElem?_eq_getElem hi, List.getElem_idxOf]
  have hap : ap l[(l.map ap).idxOf m] = m := by
    have := List.getElem_idxOf hi
    rwa [List.getElem_map] at this
  refine ⟨(l.map ap).idxOf m, l[(l.map ap).idxOf m], hj, fun k z hk hz e => ?_, List.getElem?_eq_getElem hil, (hmem _).mp (List.getElem_mem hil), fun o ho hg => ?_⟩
  · rw [e] at hz
    exact idx_first _ _ _ hk hz
  · have ho' := (hmem o).mpr ⟨ho, hg⟩
    have h1 := hm.2 _ (List.mem_map_of_mem ho')
    rw [hap]
    by_cases c : m = ap o
    · refine .inr ⟨c, ?_⟩
      obtain ⟨k, hk, ek⟩ := List.getElem_of_mem ho'
      by_cases ck : k < (l.map ap).idxOf m
      · refine absurd ?_ (idx_first (l.map ap) m k ck)
        rw [List.getElem?_map, List.getElem?_eq_getElem hk, ek, c]
        rfl
      · by_cases ce : k = (l.map ap).idxOf m
        · have : l[(l.map ap).idxOf m] = o := by
            rw [← ek]
            congr 1
            exact ce.symm
          rw [this]
          exact Int.le_refl _
        · have := (List.pairwise_iff_getElem.mp hsf) _ _ hil hk (by omega)
          rw [ek] at this
          omega
    · exact .inl (by omega)
section
variable {P : Program} {w : World} {K : PySem.W.Frag} {mg : Str → Option Value} {base : Heap} {a : Ad}
theorem eqV_int (i j : Int) : eqV (.int i) (.int j) = decide (i = j) := by
  show (i == j) = _
  by_cases c : i = j
  · rw [c, beq_self_eq_true, decide_eq_true rfl]
  · rw [beq_eq_false_iff_ne.mpr c, decide_eq_false c]
theorem row_flat (ns : List Int) : (rowV ns).all flatV = true := by
  rw [List.all_eq_true]
  intro x hx
  obtain ⟨i, _, rfl⟩ := List.mem_map.mp hx
  rfl
/-- xs.index(x), x there -/
theorem ev_index {σ : L2.St} {H : Hp} {ta te : TE} {l : Addr} {ns : List Int} {x : Int} {j : Nat} (ha : Ev ta σ H (.ref l)) (he : Ev te σ H (.int x)) (hl : SqL K H l (rowV ns)) (hj : ns[j]? = some x) (hno : ∀ (k : Nat) z, k < j → ns[k]? = some z → z ≠ x) :
    Ev (tBM K "list" (rIndex K) ta (tCons te tNil)) σ H (.int ((j : Nat) : Int)) := fun H1 e Q q => ha H1 e _ fun H2 e2 => ⟨Or.inl ⟨rfl, _, ex_l (e.trans e2) hl⟩, he H2 (e.trans e2) _ fun H3 e3 =>
  ⟨l, rowV ns, .int x, j, .int x, rfl, rfl, ex_l ((e.trans e2).trans e3) hl, rfl, row_flat ns, by rw [rowV, List.getElem?_map, hj]; rfl, by rw [eqV_int, decide_eq_true rfl], fun k z hk hz => by
    obtain ⟨n, hn, rfl⟩ := row_at hz
    rw [eqV_int]
    exact decide_eq_false (hno k n hk hn), q H3 (e2.trans e3)⟩⟩
theorem ev_indexOf {σ : L2.St} {H : Hp} {ta te : TE} {l : Addr} {ns : List Int} {x : Int} (ha : Ev ta σ H (.ref l)) (he : Ev te σ H (.int x)) (hl : SqL K H l (rowV ns)) (hx : x ∈ ns) :
    Ev (tBM K "list" (rIndex K) ta (tCons te tNil)) σ H (.int ((ns.idxOf x : Nat) : Int)) := by
  have hi := List.idxOf_lt_length_iff.mpr hx
  refine ev_index ha he hl (by rw [List.getElem?_eq_getElem hi, List.getElem_idxOf]) fun k z hk hz e => ?_
  rw [e] at hz
  exact idx_first _ _ _ hk hz
theorem count_at {p : Pic} {c : Int} (h : 0 ≤ c ∧ c ≤ 15) : (counts p)[c.toNat]? = some ((cnt p c : Nat) : Int) := by
  rw [counts_at p (by omega), show ((c.toNat : Nat) : Int) = c by omega]
/-! ### _law_order -/
def spLwOrder (K : PySem.W.Frag) : Sp := fun vs H Q _ => ∃ (x : V) (p : Pic), vs = [x] ∧ Dp K H x (picD p) ∧ Good p ∧ RetL (rowV (orderF p)) H Q
theorem ok_lw_order (T : Txt K mg a) (D : DefAt K mg "_law_order" s_lw_order) (c_lw_counts : Cal P w K mg base CX0 1 "_law_counts" ["_law_picture_here"] (spLwCounts K)) : Cal P w K mg base CX0 2 "_law_order" ["_law_picture_here"] (spLwOrder K) := by
  refine cal_of D bd_lw_order sc_lw_order (fun vs H Q E h => ?_) (fun f cdv A outer s H vs Q E hr h => ?_)
  · obtain ⟨x, p, rfl, _⟩ := h
    rfl
  · obtain ⟨x, p, rfl, hx, hg, q⟩ := h
    refine ⟨_, (pss_cons (ps_set (i := 1) sc_lw_order.nd rfl (by first | exact Or.inl rfl | exact Or.inr rfl) (pf_c c_lw_counts hr (by rfl) pass0 (pa_cons (pv 0) pa_nil)))
      (pss_cons (ps_setLc (i := 2) (own := [("_law_cell", 3)]) (g := (gName 3)) rfl sc_lw_order.nd rfl rfl (sw_true rfl rfl rfl (by decide +kernel)) (pi_range1 rfl T.b_range (pa_cons pe_int pa_nil)) (blkOk_by (by kernel_rfl)) (fun _ _ _ _ _ => (pg_name (i := 3) sc_lw_order.nd rfl (by first | exact Or.inl rfl | exact Or.inr rfl))) (fun _ _ _ _ _ => (pts_one (pt_cmpR op_gt (pe_ix (ix_listK K) (pv 1) (pv 3) (fun _ _ => rfl)) pe_int (nomark _)))) (fun _ _ _ _ _ => (pv 3)))
      (pss_cons (ps_set (i := 4) sc_lw_order.nd rfl (by first | exact Or.inl rfl | exact Or.inr rfl) (pe_lst pa_nil))
      (pss_cons (ps_while (L2.passes_of rfl) (pt_cmpR (op_neDK K hr.units) (pv 2) (pe_lst pa_nil) (nomark _)) (pss_cons (ps_set (i := 5) sc_lw_order.nd rfl (by first | exact Or.inl rfl | exact Or.inr rfl) (pe_ix (ix_listK K) (pv 2) pe_int (fun _ _ => rfl)))
      (pss_cons (ps_for (L2.passes_of rfl) rfl (pi_listK K (pv 2)) (pg_name (i := 3) sc_lw_order.nd rfl (by first | exact Or.inl rfl | exact Or.inr rfl)) (pss_one (ps_if (pt_cmpR op_gt (pe_ix (ix_listK K) (pv 1) (pv 3) (fun _ _ => rfl)) (pe_ix (ix_listK K) (pv 1) (pv 5) (fun _ _ => rfl)) (nomark _)) (pss_one (ps_set (i := 5) sc_lw_order.nd rfl (by first | exact Or.inl rfl | exact Or.inr rfl) (pv 3))) pss_nil)))
      (pss_cons (ps_expr (pe_bmK K PySem.F.plainAttrs_list PySem.F.slot_list_append PySem.F.type_list_append mt_append (pv 4) (pa_cons (pv 5) pa_nil)))
      (pss_one (ps_expr (pe_bmK K PySem.F.plainAttrs_list PySem.F.slot_list_remove PySem.F.type_list_remove mt_remove (pv 2) (pa_cons (pv 5) pa_nil))))))))
      (pss_one (ps_ret (pv 4))))))), ?_⟩
    refine q_asgL (el_lwCounts (ev_var rfl) hx hg) fun lc H1 hlc e1 hlcv => ?_
    refine q_asgL (xs := rowV (used p)) (by
      rw [← given_counts]
      refine el_rng (n := 16) (ea_cons ev_c ea_nil) (by decide) (fun _ => rfl) (fun i H2 hi e2 => ?_) (fun i H2 hi hb e2 => ev_var rfl)
      refine et_at (et_test (ev_op (ev_op (ev_var rfl) (ev_var rfl) (ixl_int (sq_of (e2 _ _ hlcv)) (by omega) (counts_at p (i := ((i : Nat) : Int).toNat) (by omega)))) ev_c rv_I0)) ?_
      rw [Int.toNat_natCast]
      exact decide_eq_decide.mpr (by omega)) fun ll H2 hll e2 hllv => ?_
    refine q_asgL (xs := []) (el_lst ea_nil (by decide)) fun lf H3 hlf e3 hlfv => ?_
    have ne1 : ll ≠ lf := fun e => by
      rw [e, hlf] at hllv
      cases hllv
    refine q_while (fun mm σ' H' => ∃ found left s3 s5, mm = left.length ∧ (found.length + left.length ≤ 16 ∧ Part p found left) ∧ Ex H1 H' ∧ H' ll = some (.lst (rowV left)) ∧ H' lf = some (.lst (rowV found)) ∧ σ' = [some x, some (.ref lc), some (.ref ll), s3, some (.ref lf), s5])
      (used p).length ⟨[], used p, _, _, rfl, ⟨by have := used_len p; simp only [List.length_nil]; omega, Part.start p⟩, e2.trans e3, e3 _ _ hllv, hlfv, rfl⟩ (fun mm σ' H' h => ?_)
    obtain ⟨found, left, s3, s5, rfl, ⟨hfl, k⟩, h1, h2, h3, rfl⟩ := h
    refine ⟨!decide (left = []), et_at (et_test (ev_neP (d := rowD left) (e := rowD []) (ep_dp (ev_var rfl) (dp_row (sq_of h2))) (fun H2 e2 => ep_row (r := []) (el_lst ea_nil (by decide))) (shaped_row _) (shaped_row _))) (by rw [eqv_row]), fun hb H4 e4 => ?_, fun hb H4 e4 => ?_⟩
    · have hne : left ≠ [] := by simpa using hb
      cases left with
      | nil => exact absurd rfl hne
      | cons u l =>
        obtain ⟨hb1, hb2⟩ := bestF_is (p := p) k.lt
        have hin : ∀ c ∈ u :: l, 0 ≤ c ∧ c ≤ 15 := fun c hc => (mem_used.mp ((k.mem c).mpr (.inr hc))).1
        have h24 := e4 _ _ h2
        refine ⟨fun σ2 H2 => ∃ found' s3 s5, (found'.length + ((u :: l).erase (bestF p u (u :: l))).length ≤ 16 ∧ Part p found' ((u :: l).erase (bestF p u (u :: l)))) ∧ Ex H1 H2 ∧ H2 ll = some (.lst (rowV ((u :: l).erase (bestF p u (u :: l))))) ∧ H2 lf = some (.lst (rowV found')) ∧ σ2 = [some x, some (.ref lc), some (.ref ll), s3, some (.ref lf), s5],
          fun σ2 H2 ⟨found', s3, s5, k1, k2, k3, k4, k5⟩ => ⟨_, by rw [List.length_erase_of_mem hb1]; simp only [List.length_cons]; omega, found', _, s3, s5, rfl, k1, k2, k3, k4, k5⟩, ?_⟩
        refine q_asg (v := .int u) (ev_op (ev_var rfl) ev_c (ixl_int (ns := u :: l) (sq_of h24) (by decide) rfl)) fun H5 e5 => ?_
        have e45 := e4.trans e5
        refine q_forL (a := ll) (xs := rowV (u :: l)) (ev_var rfl) (sq_of (e45 _ _ h2)) (fun i σ' H' => Ex H5 H' ∧ ∃ s3, σ' = [some x, some (.ref lc), some (.ref ll), s3, some (.ref lf), some (.int (leastBy (fun x b => decide (cnt p x > cnt p b)) u ((u :: l).take i)))]) (fun H6 e6 => ⟨e6, _, rfl⟩) (fun i σ' H' _ h => sq_of (h.1 _ _ (e45 _ _ h2))) (fun i y σ' H' hy h => ?_) (fun σ' H' h => ?_)
        · obtain ⟨k1, s3, rfl⟩ := h
          obtain ⟨c, hc, rfl⟩ := row_at hy
          have hcc := hin c (List.mem_of_getElem? hc)
          have hbm : leastBy (fun x b => decide (cnt p x > cnt p b)) u ((u :: l).take i) ∈ u :: l := by
            rcases List.mem_cons.mp (leastBy_mem (fun x b => decide (cnt p x > cnt p b)) ((u :: l).take i) u) with e | e
            · rw [e]
              exact List.mem_cons_self
            · exact List.mem_of_mem_take e
          have htk := leastBy_take (fun x b => decide (cnt p x > cnt p b)) (b := u) hc
          have hcv := k1 _ _ (e5 _ _ (e4 _ _ (h1 _ _ hlcv)))
          generalize leastBy (fun x b => decide (cnt p x > cnt p b)) u ((u :: l).take i) = b at hbm htk
          have hbb := hin b hbm
          refine s_ifAsg (b := decide (cnt p c > cnt p b)) (v := .int (leastBy (fun x b => decide (cnt p x > cnt p b)) u ((u :: l).take (i + 1)))) (et_at (et_test (ev_op (ev_op (ev_var rfl) (ev_var rfl) (ixl_int (sq_of hcv) hcc.1 (count_at hcc))) (ev_op (ev_var rfl) (ev_var rfl) (ixl_int (sq_of hcv) hbb.1 (count_at hbb))) rv_I0)) (decide_eq_decide.mpr (by omega))) (fun hb => ?_) (fun hb => ?_) fun H6 e6 => ⟨k1.trans e6, _, rfl⟩
          · rw [htk, if_pos hb]
            exact ev_var rfl
          · rw [htk, if_neg (by rw [hb]; decide)]
            rfl
        · obtain ⟨k1, s3, rfl⟩ := h
          rw [row_len, List.take_length]
          have e46 := e45.trans k1
          refine q_app (xs := rowV found) (e46 _ _ h3) (ev_var rfl) (ev_var rfl) (by rw [row_len]; simp only [List.length_cons] at hfl; omega) fun H6 e6 => ?_
          refine s_remI (x := bestF p u (u :: l)) (ns := u :: l) (by rw [upd_ne ne1]; exact e6 _ _ (e46 _ _ h2)) (ev_var rfl) (ev_var rfl) hb1 fun H7 e7 => ⟨found ++ [bestF p u (u :: l)], _, _, ⟨by rw [List.length_erase_of_mem hb1, List.length_append, List.length_singleton]; simp only [List.length_cons] at hfl ⊢; omega, k.step⟩, Ex.mut ((Ex.mut (h1.trans (e46.trans e6)) (fresh_back e2 hlf)).trans e7) hll, upd_same, ?_, rfl⟩
          rw [upd_ne (Ne.symm ne1)]
          refine (e7 _ _ upd_same).trans ?_
          simp [rowV]
          rfl
    · have he : left = [] := by simpa using hb
      subst he
      have ho := order_eq k.done
      rw [ho] at h3
      exact s_ret (ev_var rfl) fun H5 e5 => q lf H5 (fresh_back (e1.trans e2) hlf) (((e1.trans h1).trans e4).trans e5) (e5 _ _ (e4 _ _ h3))
/-! ### _law_one_less -/
def spOneLess (K : PySem.W.Frag) : Sp := fun vs H Q _ => ∃ (x y : V) (p : Pic) (cols : List Col), vs = [x, y] ∧ Dp K H x (picD p) ∧ Good p ∧ Dp K H y (colsD cols) ∧ (∀ c ∈ cols, ValidC c) ∧ 2 ≤ (used p).length ∧ (∀ c ∈ used p, c < ((cols.length : Nat) : Int)) ∧ RetP (oneLess cols p) H Q
theorem ok_lw_one_less (T : Txt K mg a) (D : DefAt K mg "_law_one_less" s_lw_one_less) (c_lw_counts : Cal P w K mg base CX0 1 "_law_counts" ["_law_picture_here"] (spLwCounts K)) (c_lw_apart : Cal P w K mg base CX0 1 "_law_apart" ["_law_one", "_law_other"] (spApart K)) :
    Cal P w K mg base CX0 2 "_law_one_less" ["_law_picture_here", "_law_colours"] (spOneLess K) := by
  refine cal_of D bd_lw_one_less sc_lw_one_less (fun vs H Q E h => ?_) (fun f cdv A outer s H vs Q E hr h => ?_)
  · obtain ⟨x, y, p, cols, rfl, _⟩ := h
    rfl
  · obtain ⟨x, y, p, cols, rfl, hx, hg, hy, hval, h2, hall, q⟩ := h
    obtain ⟨z, xs, rfl, hz, hxs⟩ := dp_cols_inv hy
    have hlen : xs.length = cols.length := by
      have := dp_len hxs
      rwa [List.length_map] at this
    refine ⟨_, (pss_cons (ps_set (i := 2) sc_lw_one_less.nd rfl (by first | exact Or.inl rfl | exact Or.inr rfl) (pf_c c_lw_counts hr (by rfl) pass0 (pa_cons (pv 0) pa_nil)))
      (pss_cons (ps_setLc (i := 3) (own := [("_law_cell", 4)]) (g := (gName 4)) rfl sc_lw_one_less.nd rfl rfl (sw_true rfl rfl rfl (by decide +kernel)) (pi_range1 rfl T.b_range (pa_cons pe_int pa_nil)) (blkOk_by (by kernel_rfl)) (fun _ _ _ _ _ => (pg_name (i := 4) sc_lw_one_less.nd rfl (by first | exact Or.inl rfl | exact Or.inr rfl))) (fun _ _ _ _ _ => (pts_one (pt_cmpR op_gt (pe_ix (ix_listK K) (pv 2) (pv 4) (fun _ _ => rfl)) pe_int (nomark _)))) (fun _ _ _ _ _ => (pv 4)))
      (pss_cons (ps_set (i := 5) sc_lw_one_less.nd rfl (by first | exact Or.inl rfl | exact Or.inr rfl) (pe_ix (ix_listK K) (pv 3) pe_int (fun _ _ => rfl)))
      (pss_cons (ps_for (L2.passes_of rfl) rfl (pi_listK K (pv 3)) (pg_name (i := 4) sc_lw_one_less.nd rfl (by first | exact Or.inl rfl | exact Or.inr rfl)) (pss_one (ps_if (pt_cmpR op_le (pe_ix (ix_listK K) (pv 2) (pv 4) (fun _ _ => rfl)) (pe_ix (ix_listK K) (pv 2) (pv 5) (fun _ _ => rfl)) (nomark _)) (pss_one (ps_set (i := 5) sc_lw_one_less.nd rfl (by first | exact Or.inl rfl | exact Or.inr rfl) (pv 4))) pss_nil)))
      (pss_cons (ps_setLc (i := 6) (own := [("_law_cell", 4)]) (g := (gName 4)) rfl sc_lw_one_less.nd rfl rfl (sw_true rfl rfl rfl (by decide +kernel)) (pi_listK K (pv 3)) (blkOk_by (by kernel_rfl)) (fun _ _ _ _ _ => (pg_name (i := 4) sc_lw_one_less.nd rfl (by first | exact Or.inl rfl | exact Or.inr rfl))) (fun _ _ _ _ _ => (pts_one (pt_cmpR op_ne (pv 4) (pv 5) (nomark _)))) (fun _ _ _ _ _ => (pv 4)))
      (pss_cons (ps_setLc (i := 7) (own := [("_law_cell", 4)]) (g := (gName 4)) rfl sc_lw_one_less.nd rfl rfl (sw_true rfl rfl rfl (by decide +kernel)) (pi_listK K (pv 6)) (blkOk_by (by kernel_rfl)) (fun _ _ _ _ _ => (pg_name (i := 4) sc_lw_one_less.nd rfl (by first | exact Or.inl rfl | exact Or.inr rfl))) (fun _ _ _ _ _ => pts_nil) (fun _ _ _ _ _ => (pf_c c_lw_apart hr (by rfl) pass0 (pa_cons (pe_ix (ix_listK K) (pv 1) (pv 4) (fun _ _ => rfl)) (pa_cons (pe_ix (ix_listK K) (pv 1) (pv 5) (fun _ _ => rfl)) pa_nil)))))
      (pss_cons (ps_set (i := 8) sc_lw_one_less.nd rfl (by first | exact Or.inl rfl | exact Or.inr rfl) (pe_ix (ix_listK K) (pv 6) (pe_bmK K PySem.F.plainAttrs_list PySem.F.slot_list_index PySem.F.type_list_index (mt_indexK K) (pv 7) (pa_cons (pe_callB (id := "min") (cr_minK K rfl) (by rfl) T.b_min (by decide +kernel) (pa_cons (pv 7) pa_nil)) pa_nil)) (fun _ _ => rfl)))
      (pss_one (ps_ret (pe_lc (own := [("_law_row", 9)]) (g := (gName 9)) rfl sc_lw_one_less.nd (pi_listK K (pv 0)) (blkOk_by (by kernel_rfl)) (fun _ _ _ _ _ => (pg_name (i := 9) sc_lw_one_less.nd rfl (by first | exact Or.inl rfl | exact Or.inr rfl))) (fun _ _ _ _ _ => pts_nil) (fun _ _ _ _ _ => (pe_lc (own := [("_law_cell", 4)]) (g := (gName 4)) rfl sc_lw_one_less.nd (pi_listK K (pv 9)) (blkOk_by (by kernel_rfl)) (fun _ _ _ _ _ => (pg_name (i := 4) sc_lw_one_less.nd rfl (by first | exact Or.inl rfl | exact Or.inr rfl))) (fun _ _ _ _ _ => pts_nil) (fun _ _ _ _ _ => (pe_ifExp (pt_cmpR op_eq (pv 4) (pv 5) (nomark _)) (pv 8) (pv 4))))))))))))))), ?_⟩
    refine q_asgL (el_lwCounts (ev_var rfl) hx hg) fun lc H1 hlc e1 hlcv => ?_
    refine q_asgL (xs := rowV (used p)) (by
      rw [← given_counts]
      refine el_rng (n := 16) (ea_cons ev_c ea_nil) (by decide) (fun _ => rfl) (fun i H2 hi e2 => ?_) (fun i H2 hi hb e2 => ev_var rfl)
      refine et_at (et_test (ev_op (ev_op (ev_var rfl) (ev_var rfl) (ixl_int (sq_of (e2 _ _ hlcv)) (by omega) (counts_at p (i := ((i : Nat) : Int).toNat) (by omega)))) ev_c rv_I0)) ?_
      rw [Int.toNat_natCast]
      exact decide_eq_decide.mpr (by omega)) fun lu H2 hlu e2 hluv => ?_
    have hin : ∀ c ∈ used p, (0 ≤ c ∧ c ≤ 15) := fun c hc => (mem_used.mp hc).1
    have hgo := goneF_is (p := p) (fun e => by rw [e] at h2; simp at h2)
    have hhe := heirOf_is (cols := cols) h2
    have e12 := e1.trans e2
    have hul := used_len p
    have hgF : ∃ u l, used p = u :: l ∧ goneF p = leastBy (fun x b => decide (cnt p x ≤ cnt p b)) u (u :: l) := by
      unfold goneF
      cases e : used p with
      | nil => rw [e] at h2; simp at h2
      | cons u l => exact ⟨u, l, rfl, rfl⟩
    obtain ⟨u, l, hu, hgF⟩ := hgF
    refine q_asg (v := .int u) (ev_op (ev_var rfl) ev_c (ixl_int (ns := used p) (sq_of hluv) (by decide) (by rw [hu]; rfl))) fun H3 e3 => ?_
    refine q_forL (a := lu) (xs := rowV (used p)) (ev_var rfl) (sq_of (e3 _ _ hluv)) (fun i σ' H' => Ex H3 H' ∧ ∃ s4, σ' = [some x, some (.ref z), some (.ref lc), some (.ref lu), s4, some (.int (leastBy (fun x b => decide (cnt p x ≤ cnt p b)) u ((used p).take i))), none, none, none, none]) (fun H4 e4 => ⟨e4, _, rfl⟩) (fun i σ' H' _ h => sq_of (h.1 _ _ (e3 _ _ hluv))) (fun i y σ' H' hy h => ?_) (fun σ' H' h => ?_)
    · obtain ⟨k1, s4, rfl⟩ := h
      obtain ⟨c, hc, rfl⟩ := row_at hy
      have hcc := hin c (List.mem_of_getElem? hc)
      have hbm : leastBy (fun x b => decide (cnt p x ≤ cnt p b)) u ((used p).take i) ∈ used p := by
        rcases List.mem_cons.mp (leastBy_mem (fun x b => decide (cnt p x ≤ cnt p b)) ((used p).take i) u) with e | e
        · rw [e, hu]
          exact List.mem_cons_self
        · exact List.mem_of_mem_take e
      have htk := leastBy_take (fun x b => decide (cnt p x ≤ cnt p b)) (b := u) hc
      have hcv := k1 _ _ (e3 _ _ (e2 _ _ hlcv))
      generalize leastBy (fun x b => decide (cnt p x ≤ cnt p b)) u ((used p).take i) = b at hbm htk
      have hbb := hin b hbm
      refine s_ifAsg (b := decide (cnt p c ≤ cnt p b)) (v := .int (leastBy (fun x b => decide (cnt p x ≤ cnt p b)) u ((used p).take (i + 1)))) (et_at (et_test (ev_op (ev_op (ev_var rfl) (ev_var rfl) (ixl_int (sq_of hcv) hcc.1 (count_at hcc))) (ev_op (ev_var rfl) (ev_var rfl) (ixl_int (sq_of hcv) hbb.1 (count_at hbb))) rv_I0)) (decide_eq_decide.mpr (by omega))) (fun hb => ?_) (fun hb => ?_) fun H6 e6 => ⟨k1.trans e6, _, rfl⟩
      · rw [htk, if_pos hb]
        exact ev_var rfl
      · rw [htk, if_neg (by rw [hb]; decide)]
        rfl
    · obtain ⟨k1, s4, rfl⟩ := h
      have egone : leastBy (fun x b => decide (cnt p x ≤ cnt p b)) u ((used p).take (rowV (used p)).length) = goneF p := by
        rw [row_len, List.take_length, hgF, hu]
      rw [egone]
      have e3k := e3.trans k1
      refine q_asgL (xs := rowV ((used p).filter fun o => decide (o ≠ goneF p))) (by
        refine el_data (a := lu) (f := PyData.int) (items := used p) (v := V.int) (ev_var rfl) (sq_of (e3k _ _ hluv)) (dpa_ints _) (by omega) (fun _ => rfl) (fun y c H6 hc hd e6 => ?_) (fun y c H6 hc hb hd e6 => ?_)
        · cases hd
          refine et_at (et_test (ev_op (ev_var rfl) (ev_var rfl) (rv_ne rfl))) ?_
          simp
        · cases hd
          exact ev_var rfl) fun lo H6 hlo e6 hlov => ?_
      have hof : ∀ c ∈ (used p).filter (fun o => decide (o ≠ goneF p)), c ∈ used p := fun c hc => (List.mem_filter.mp hc).1
      have hfl : ((used p).filter fun o => decide (o ≠ goneF p)).length ≤ 16 := Nat.le_trans (List.length_filter_le _ _) hul
      have eH6 : Ex H H6 := e12.trans (e3k.trans e6)
      have hcell : ∀ c ∈ used p, ∃ v, xs[c.toNat]? = some v ∧ Dp K H v (colD (colAt cols c)) ∧ ValidC (colAt cols c) := fun c hc => by
        have hcl := colAt_of (cols := cols) (hin c hc).1 (hall c hc)
        obtain ⟨v, h1, h2⟩ := dpa_atH hxs hcl
        exact ⟨v, h1, h2, hval _ (List.mem_of_getElem? hcl)⟩
      have hix : ∀ {σ : L2.St} {H' : Hp} {t : TE} {c : Int} {v : V}, Ev (tVar 1) σ H' (.ref z) → Ev t σ H' (.int c) → Ex H H' → c ∈ used p → xs[c.toNat]? = some v → Ev (tOp (rIxL K) (tVar 1) t) σ H' v := fun {σ H' t c v} h1 h2 he hc hv => ev_op h1 h2 (rv_ixL (ex_l he hz) (by
        have := hin c hc
        rw [show c = ((c.toNat : Nat) : Int) by omega]
        exact atI_nat hv))
      refine q_asgL (xs := rowV (((used p).filter fun o => decide (o ≠ goneF p)).map fun o => apF cols (goneF p) o)) (by
        have eF : rowV (((used p).filter fun o => decide (o ≠ goneF p)).map fun o => apF cols (goneF p) o) = ((used p).filter fun o => decide (o ≠ goneF p)).map fun o => V.int (apF cols (goneF p) o) := by
          rw [rowV, List.map_map]
          rfl
        rw [eF]
        refine el_dataM (a := lo) (f := PyData.int) (ev_var rfl) (sq_of hlov) (dpa_ints _) (by omega) (fun _ => rfl) fun y c H7 hc hd e7 => ?_
        cases hd
        obtain ⟨v1, k1', k2', k3'⟩ := hcell c (hof c hc)
        obtain ⟨v2, k4', k5', k6'⟩ := hcell _ hgo.1
        exact ev_apart (hix (ev_var rfl) (ev_var rfl) (eH6.trans e7) (hof c hc) k1') (hix (ev_var rfl) (ev_var rfl) (eH6.trans e7) hgo.1 k4') (dpx k2' (eH6.trans e7)) (dpx k5' (eH6.trans e7)) k3' k6') fun lw H7 hlw e7 hlwv => ?_
      have hne : 0 < (((used p).filter fun o => decide (o ≠ goneF p)).map fun o => apF cols (goneF p) o).length := by
        rw [List.length_map]
        exact List.length_pos_iff.mpr fun e => by
          have : heirOf cols p ∈ (used p).filter fun o => decide (o ≠ goneF p) := List.mem_filter.mpr ⟨hhe.1.1, decide_eq_true hhe.1.2⟩
          rw [e] at this
          cases this
      refine q_asg (v := .int (heirOf cols p)) (fun H8 e8 Q q => (ev_var rfl : Ev (tVar 6) _ H7 (.ref lo)) H8 e8 _ fun H9 e9 => (ev_var rfl : Ev (tVar 7) _ H7 (.ref lw)) H9 (e8.trans e9) _ fun H10 e10 => ⟨Or.inl ⟨rfl, _, sq_of (e10 _ _ (e9 _ _ (e8 _ _ hlwv)))⟩, ?_⟩) fun H8 e8 => ?_
      · refine (ev_var rfl : Ev (tVar 7) _ H7 (.ref lw)) H10 ((e8.trans e9).trans e10) _ fun H11 e11 => ⟨lw, _, rfl, sq_of (e11 _ _ (e10 _ _ (e9 _ _ (e8 _ _ hlwv)))), hne, fun m hm1 hm2 => ?_⟩
        obtain ⟨j, hh, j1, j2, j3, j4⟩ := heir_index (ap := apF cols (goneF p)) (us := used p) (g := goneF p) (m := m) (used_lt p) ⟨hm1, hm2⟩
        have ehh := isHeir_one j4 hhe
        have hlw11 := e11 _ _ (e10 _ _ (e9 _ _ (e8 _ _ hlwv)))
        refine ⟨lw, _, .int m, j, .int m, rfl, rfl, sq_of hlw11, rfl, row_flat _, by rw [rowV, List.getElem?_map, j1]; rfl, by rw [eqV_int, decide_eq_true rfl], fun k z' hk hz' => ?_, ?_⟩
        · obtain ⟨n, hn, rfl⟩ := row_at hz'
          rw [eqV_int]
          exact decide_eq_false (j2 k n hk hn)
        · rw [ehh] at j3
          exact ⟨lo, _, ((j : Nat) : Int), _, rfl, rfl, sq_of (e11 _ _ (e10 _ _ (e9 _ _ (e8 _ _ (e7 _ _ hlov))))), atI_nat (by rw [rowV, List.getElem?_map, j3]; rfl), q _ ((e9.trans e10).trans e11)⟩
      · have eH8 : Ex H H8 := eH6.trans (e7.trans e8)
        obtain ⟨q0, ts, rfl, ht, hts⟩ := dp_pic_inv (dpx hx eH8)
        have hhi := hg.high
        refine s_retPic (rows := oneLess cols p) (evp_of ?_) fun r H9 e9 n9 => q r H9 (eH8.trans e9) (n9.ex eH8 (Ex.refl _))
        have eF : (oneLess cols p).map rowV = p.map fun r => r.map fun c => V.int (if c = goneF p then heirOf cols p else c) := by
          unfold oneLess merge
          rw [List.map_map]
          refine List.map_congr_left fun r _ => ?_
          show (r.map _).map _ = _
          rw [List.map_map]
          rfl
        rw [eF]
        refine en_dataM (ev_var rfl) ht hts (by omega) (fun _ => rfl) fun y r H9 hrm hd e9 => ?_
        obtain ⟨t, rfl, ht9⟩ := dp_row_inv hd
        have hrl := hg.row hrm
        refine eo_l (el_dataM (f := PyData.int) (ev_var rfl) ht9 (dpa_ints r) (by omega) (fun _ => rfl) fun y c H10 hc hd10 e10 => ?_)
        cases hd10
        refine ev_if (b := decide (c = goneF p)) (et_at (et_test (ev_op (ev_var rfl) (ev_var rfl) (rv_eq rfl))) ?_) (fun hb => ?_) (fun hb => ?_)
        · exact decide_eq_decide.mpr ⟨fun e => V.int.inj e, fun e => by rw [e]⟩
        · rw [if_pos (of_decide_eq_true hb)]
          exact ev_var rfl
        · rw [if_neg (of_decide_eq_false hb)]
          exact ev_var rfl
end
end C19
set_option Elab.async false
set_option linter.all false
set_option maxRecDepth 100000
set_option maxHeartbeats 4000000
namespace C19
open PySem PySem.Spec PyProof.Rows L2 Evl
section
variable {K : PySem.W.Frag} {σ : L2.St} {H : Hp} {ta tb te t1 t2 : TE} {tt2 : TT} {tu : TS} {D : Ends} {E : XK}
theorem ev_isiX {n : String} {x : V} {ty : Value} {b : Bool} (h : Ev ta σ H x) (hd : ∀ H1, Ex H H1 → TyX K H1 x ty) (hk : PySem.W.kitOne K ty (.type n) = some b) : Ev (tCB (rIsi K) (tCons ta (tCons (tC (.ty n)) tNil))) σ H (.bl b) := fun H1 e Q q =>
  h H1 e _ fun H2 e2 => ⟨x, .ty n, _, _, b, rfl, .ty n, hd H2 (e.trans e2), hk, q H2 e2⟩
theorem ev_isTupX {p : Addr} {xs : List V} (h : Ev ta σ H (.ref p)) (hp : H p = some (.tup xs)) : Ev (tCB (rIsi K) (tCons ta (tCons (tC (.ty "tuple")) tNil))) σ H (.bl true) :=
  ev_isiX h (fun H1 e => .base (.tup (e _ _ hp))) (kit_ty (a := "tuple") (b := "tuple") (r := true) (by decide +kernel))
theorem ev_isPal {p C dx : Addr} {fs : List (Str × V)} (c : C8.InsC K C) (h : Ev ta σ H (.ref p)) (hp : H p = some (.ins C dx fs)) : Ev (tCB (rIsi K) (tCons ta (tCons (tC (.ref C)) tNil))) σ H (.bl true) := fun H1 e Q q =>
  h H1 e _ fun H2 e2 => ⟨.ref p, .ref C, _, _, true, rfl, .own C, .base (.ins (e2 _ _ (e _ _ hp)) c.cl c.ha c.hn c.htk c.hm), c.me, q H2 e2⟩
/-- _law_own, that changes what is found -/
theorem own_raw {Q : VK} {H0 : Hp} {p dq : Addr} {rows : Pic} {dts : List Addr} (h1 : Ev t1 σ H (.ref p)) (h2 : Ev t2 σ H (.ref dq)) (e0 : Ex H0 H) (n : NewP H0 H p rows) (hd : PicL H0 dq dts rows) (g : Good rows) (k : ∀ H', Ex H0 H' → Q (.bl true) H') :
    tCall spOwn [] E (tCons t1 (tCons t2 tNil)) σ H Q := (ea_cons h1 (ea_cons h2 ea_nil)) H (Ex.refl _) _ fun H1 e1 => ⟨H0, p, dq, rows, rows, dts, rfl, e0.trans e1, n.ex (Ex.refl _) e1, hd, by have := g.high; omega, fun r hr => by have := g.row hr; omega, fun r hr => by have := g.row hr; omega, fun H' e' => by
      rw [decide_eq_true rfl]
      exact k H' e'⟩
theorem s_orOwn {H0 : Hp} {p dq : Addr} {rows : Pic} {dts : List Addr} (h1 : Ev t1 σ H (.ref p)) (h2 : Ev t2 σ H (.ref dq)) (e0 : Ex H0 H) (n : NewP H0 H p rows) (hd : PicL H0 dq dts rows) (g : Good rows) (k : ∀ H', Ex H0 H' → EvT tt2 σ H' false) (k2 : ∀ H', Ex H0 H' → D.nx σ H') :
    tIfS (tOr (tNot (tB (tCall spOwn [] E (tCons t1 (tCons t2 tNil))))) tt2) tu tNext D σ H :=
  own_raw h1 h2 e0 n hd g fun H' e' => ⟨true, rfl, (k H' e') H' (Ex.refl _) _ fun H2 e2 => k2 H2 (e'.trans e2)⟩
end
section
variable {P : Program} {w : World} {K : PySem.W.Frag} {mg : Str → Option Value} {base : Heap} {a : Ad}
/-! ### _law_counts_good -/
theorem el_cellCounts {σ : L2.St} {H : Hp} {t1 : TE} {E : XK} {x : V} {p : Pic} (h : Ev t1 σ H x) (hx : Dp K H x (picD p)) (hg : Good p) : EvL (tCall (spCounts K a) [] E (tCons t1 tNil)) σ H (rowV (counts p)) :=
  el_callV (ea_cons h ea_nil) fun H1 e1 Q q => ⟨x, rfl, .inl ⟨p, dpx hx e1, hg, q⟩⟩
theorem all_true {α : Type} (l : List α) : (l.map fun _ => true).all id = true := by
  rw [List.all_map]
  exact List.all_eq_true.mpr fun _ _ => rfl
def spCountsGood (K : PySem.W.Frag) : Sp := fun vs H Q _ => ∃ (x : V) (p : Pic), vs = [x] ∧ Dp K H x (picD p) ∧ Good p ∧ RetV (.bl true) H Q
theorem ok_lw_counts_good (T : Txt K mg a) (D : DefAt K mg "_law_counts_good" s_lw_counts_good) (c_cell_counts : Cal P w K mg base (L2N.CX P w) 6 "cell_counts" ["picture"] (spCounts K a)) (c_lw_whole : Cal P w K mg base CX0 1 "_law_whole" ["_law_found"] (spWhole K)) (c_lw_counts : Cal P w K mg base CX0 1 "_law_counts" ["_law_picture_here"] (spLwCounts K)) :
    Cal P w K mg base CX0 7 "_law_counts_good" ["_law_picture_here"] (spCountsGood K) := by
  refine cal_of D bd_lw_counts_good sc_lw_counts_good (fun vs H Q E h => ?_) (fun f cdv A outer s H vs Q E hr h => ?_)
  · obtain ⟨x, p, rfl, _⟩ := h
    rfl
  · obtain ⟨x, p, rfl, hx, hg, q⟩ := h
    refine ⟨_, (pss_cons (ps_set (i := 1) sc_lw_counts_good.nd rfl (by first | exact Or.inl rfl | exact Or.inr rfl) (pf_c c_cell_counts hr (by rfl) passLN (pa_cons (pv 0) pa_nil)))
      (pss_cons (ps_if (PW.pt (pw_or (pt_not (pt_val (pe_callB (id := "isinstance") (call_isiK K) (by rfl) T.b_isinstance (by decide +kernel) (pa_cons (pv 1) (pa_cons (pe_bltn (v := .ty "list") (by rfl) T.b_list (by decide +kernel) rfl) pa_nil))))) (pw_or1 (pt_not (pt_val (pe_callB (id := "all") (cr_allK K rfl) (by rfl) T.b_all (by decide +kernel) (pa_cons (pe_lc (own := [("_law_number", 2)]) (g := (gName 2)) rfl sc_lw_counts_good.nd (pi_listK K (pv 1)) (blkOk_by (by kernel_rfl)) (fun _ _ _ _ _ => (pg_name (i := 2) sc_lw_counts_good.nd rfl (by first | exact Or.inl rfl | exact Or.inr rfl))) (fun _ _ _ _ _ => pts_nil) (fun _ _ _ _ _ => (pf_c c_lw_whole hr (by rfl) pass0 (pa_cons (pv 2) pa_nil)))) pa_nil))))))) (pss_one (ps_ret pe_bl)) pss_nil)
      (pss_cons (ps_if (pt_cmpR (op_neDK K hr.units) (pv 1) (pf_c c_lw_counts hr (by rfl) pass0 (pa_cons (pv 0) pa_nil)) (nomark _)) (pss_one (ps_ret pe_bl)) pss_nil)
      (pss_cons (ps_expr (pe_bmK K PySem.F.plainAttrs_list PySem.F.slot_list_append PySem.F.type_list_append mt_append (pv 1) (pa_cons pe_int pa_nil)))
      (pss_one (ps_ret (pe_cmpR (op_eqDK K hr.units) (pf_c c_cell_counts hr (by rfl) passLN (pa_cons (pv 0) pa_nil)) (pf_c c_lw_counts hr (by rfl) pass0 (pa_cons (pv 0) pa_nil)) (nomark _)))))))), ?_⟩
    refine q_asgL (el_cellCounts (ev_var rfl) hx hg) fun l H1 hl e1 hlv => ?_
    have hd1 : Dp K H1 (.ref l) (rowD (counts p)) := dp_row (sq_of hlv)
    have hcl := counts_len p
    refine q_when (b := false) (et_at (et_or (a := false) (b := false) (et_at (et_not (et_B (ev_isList (ev_var rfl) hd1))) rfl) fun _ => et_at (et_not (et_B (ev_allL (bs := (counts p).map fun _ => true) (by
      rw [List.map_map]
      exact el_dataM (f := PyData.int) (ev_var rfl) (sq_of hlv) (dpa_ints _) (by omega) (fun _ => rfl) fun y c H2 hc hd e2 => by
        cases hd
        exact ev_whole (ev_var rfl))))) (by rw [all_true]; rfl)) rfl) (fun hb => nomatch hb) fun _ H2 e2 => ?_
    have e12 := e1.trans e2
    refine q_when (b := false) (et_at (et_test (ev_neP (ep_dp (ev_var rfl) (dpx hd1 e2)) (fun H3 e3 => ep_row (el_lwCounts (ev_var rfl) (dpx hx (e12.trans e3)) hg)) (shaped_row _) (shaped_row _))) (by
      rw [eqv_row, decide_eq_true rfl]
      rfl)) (fun hb => nomatch hb) fun _ H3 e3 => ?_
    refine q_app (xs := rowV (counts p)) (e3 _ _ (e2 _ _ hlv)) (ev_var rfl) ev_c (by rw [row_len]; omega) fun H4 e4 => ?_
    have eA : Ex H (upd H4 l (.lst (rowV (counts p) ++ [.int 0]))) := Ex.mut (e12.trans (e3.trans e4)) hl
    refine s_ret (v := .bl true) (ev_at (ev_eqP (ep_row (el_cellCounts (ev_var rfl) (dpx hx eA) hg)) (fun H5 e5 => ep_row (el_lwCounts (ev_var rfl) (dpx hx (eA.trans e5)) hg)) (shaped_row _) (shaped_row _)) (by
      rw [eqv_row, decide_eq_true rfl])) fun H5 e5 => q H5 (eA.trans e5)
/-! ### _law_ordered_good -/
theorem ep_ordered {σ : L2.St} {H : Hp} {t1 t2 : TE} {E : XK} {x v : V} {p : Pic} {pl dx l : Addr} {xs : List V} {cols : List Col} (h1 : Ev t1 σ H x) (h2 : Ev t2 σ H v) (hp : PalG K a H v pl dx l xs cols) (hx : Dp K H x (picD p)) (hg : Good p) (hall : ∀ c ∈ p.flatten, c < ((cols.length : Nat) : Int)) :
    Ep (tCall (spOrd K a) [] E (tCons t1 (tCons t2 tNil))) σ H fun u H2 => ∃ t q lq r, u = .ref t ∧ H t = none ∧ H2 t = some (.tup [.ref q, .ref r]) ∧ PalN a.pal H H2 K q lq ((orderF p).map (colAt cols)) ∧ NewP H H2 r (ranked (orderF p) p) := fun H0 e0 Q0 q0 =>
  ep_call (ea_cons h1 (ea_cons h2 ea_nil)) (fun H1 e1 Q q => ⟨x, v, rfl, .inl ⟨p, pl, dx, l, xs, cols, hp.ex e1, dpx hx e1, hg, .inl ⟨hall, fun t z lq r H2 e2 ht h2 n1 n2 => q _ H2 e2 ⟨t, z, lq, r, rfl, fresh_back e1 ht, h2, n1.ex e1 (Ex.refl _), n2.ex e1 (Ex.refl _)⟩⟩⟩⟩) H0 e0 Q0 q0
theorem ep_colours {σ : L2.St} {H : Hp} {t1 : TE} {E : XK} {pl dx l : Addr} {xs : List V} {cols : List Col} (h1 : Ev t1 σ H (.ref pl)) (hp : PalX a.pal H pl dx l xs) (hd : DpAll K H xs (cols.map colD)) : Ep (tMeth a.pal "colours" (spCols a) [] E t1 tNil) σ H fun u H' => Dp K H' u (colsD cols) :=
  ep_newCols (el_meth h1 hp.ins rfl ea_nil fun H1 e1 Q q => ⟨pl, dx, l, xs, rfl, hp.ex e1, q⟩) hd
/-- colours by their cells, of a list of colours -/
theorem ep_pick {σ : L2.St} {H : Hp} {tl te : TE} {vs : List Nat} {j : Nat} {lo : Addr} {ord : List Int} {ys : List V} {cols : List Col} (h : Ev tl σ H (.ref lo)) (ho : SqL K H lo (rowV ord)) (hz : ord.length ≤ 40000) (hw : ∀ x, wipe ((wipe σ vs).set j (some x)) vs = wipe σ vs) (hd : DpAll K H ys (cols.map colD))
    (hs : ∀ c ∈ ord, 0 ≤ c ∧ c < ((cols.length : Nat) : Int)) (he : ∀ c H1, c ∈ ord → Ex H H1 → Ev te ((wipe σ vs).set j (some (.int c))) H1 (ys.getD c.toNat .non)) : Ep (tLc (iList K tl) (gName j) tYes te vs) σ H fun u H' => Dp K H' u (colsD (ord.map (colAt cols))) :=
  ep_newCols (el_dataM (f := PyData.int) (v := fun c => ys.getD c.toNat .non) h ho (dpa_ints _) hz hw fun y c H1 hc hd e1 => by
    cases hd
    exact he c H1 hc e1) (dpa_sub hd hs)
theorem ev_pickAt {σ : L2.St} {H : Hp} {t1 t2 : TE} {z : Addr} {ys : List V} {c : Int} (h1 : Ev t1 σ H (.ref z)) (h2 : Ev t2 σ H (.int c)) (hz : SqL K H z ys) (h : 0 ≤ c ∧ c < ((ys.length : Nat) : Int)) : Ev (tOp (rIxL K) t1 t2) σ H (ys.getD c.toNat .non) := ev_op h1 h2 (rv_ixL hz (by
  have e : c = ((c.toNat : Nat) : Int) := by omega
  have e2 : ys.getD c.toNat .non = ys[c.toNat]'(by omega) := by
    rw [List.getD_eq_getElem?_getD, List.getElem?_eq_getElem (by omega)]
    rfl
  rw [e2]
  conv => lhs; rw [e]
  exact atI_nat (List.getElem?_eq_getElem _)))
def spOrdGood (K : PySem.W.Frag) (a : Ad) : Sp := fun vs H Q _ => ∃ (x y v : V) (p : Pic) (pl dx l : Addr) (xs : List V) (cols : List Col), vs = [x, y, v] ∧ Dp K H x (picD p) ∧ Good p ∧ Dp K H y (colsD cols) ∧ PalG K a H v pl dx l xs cols ∧ (∀ c ∈ p.flatten, c < ((cols.length : Nat) : Int)) ∧ RetV (.bl true) H Q
theorem ok_lw_ordered_good (T : Txt K mg a) (D : DefAt K mg "_law_ordered_good" s_lw_ordered_good) (c_lw_order : Cal P w K mg base CX0 2 "_law_order" ["_law_picture_here"] (spLwOrder K)) (c_ordered_picture : Cal P w K mg base (L2N.CX P w) 8 "ordered_picture" ["picture", "palette"] (spOrd K a))
    (c_colours : Mth P w K mg base a.pal 1 "colours" ["self"] (spCols a)) (c_lw_rows_good : Cal P w K mg base CX0 1 "_law_rows_good" ["_law_found", "_law_due"] (spRowsGood K)) (c_lw_whole : Cal P w K mg base CX0 1 "_law_whole" ["_law_found"] (spWhole K)) (c_lw_own : Cal P w K mg base CX0 1 "_law_own" ["_law_found", "_law_due"] spOwn) :
    Cal P w K mg base CX0 9 "_law_ordered_good" ["_law_picture_here", "_law_colours", "_law_palette"] (spOrdGood K a) := by
  refine cal_of D bd_lw_ordered_good sc_lw_ordered_good (fun vs H Q E h => ?_) (fun f cdv A outer s H vs Q E hr h => ?_)
  · obtain ⟨x, y, v, p, pl, dx, l, xs, cols, rfl, _⟩ := h
    rfl
  · obtain ⟨x, y, v, p, pl, dx, l, xs, cols, rfl, hx, hg, hy, hp, hall, q⟩ := h
    have hlen := hp.len
    have hpv := hp.eq
    subst hpv
    have hord := orderF_is p
    have holen := order_len hg
    have hgr := ranked_good hg hord
    have hhi := hg.high
    refine ⟨_, (pss_cons (ps_set (i := 3) sc_lw_ordered_good.nd rfl (by first | exact Or.inl rfl | exact Or.inr rfl) (pf_c c_lw_order hr (by rfl) pass0 (pa_cons (pv 0) pa_nil)))
      (pss_cons (ps_setLc (i := 4) (own := [("_law_row", 6)]) (g := (gName 6)) rfl sc_lw_ordered_good.nd rfl rfl (sw_true rfl rfl rfl (by decide +kernel)) (pi_listK K (pv 0)) (blkOk_by (by kernel_rfl)) (fun _ _ _ _ _ => (pg_name (i := 6) sc_lw_ordered_good.nd rfl (by first | exact Or.inl rfl | exact Or.inr rfl))) (fun _ _ _ _ _ => pts_nil) (fun _ _ _ _ _ => (pe_lc (own := [("_law_cell", 5)]) (g := (gName 5)) rfl sc_lw_ordered_good.nd (pi_listK K (pv 6)) (blkOk_by (by kernel_rfl)) (fun _ _ _ _ _ => (pg_name (i := 5) sc_lw_ordered_good.nd rfl (by first | exact Or.inl rfl | exact Or.inr rfl))) (fun _ _ _ _ _ => pts_nil) (fun _ _ _ _ _ => (pe_bmK K PySem.F.plainAttrs_list PySem.F.slot_list_index PySem.F.type_list_index (mt_indexK K) (pv 3) (pa_cons (pv 5) pa_nil))))))
      (pss_cons (ps_set (i := 7) sc_lw_ordered_good.nd rfl (by first | exact Or.inl rfl | exact Or.inr rfl) (pf_c c_ordered_picture hr (by rfl) passLN (pa_cons (pv 0) (pa_cons (pv 2) pa_nil))))
      (pss_cons (ps_if (PW.pt (pw_or (pt_not (pt_val (pe_callB (id := "isinstance") (call_isiK K) (by rfl) T.b_isinstance (by decide +kernel) (pa_cons (pv 7) (pa_cons (pe_bltn (v := .ty "tuple") (by rfl) T.b_tuple (by decide +kernel) rfl) pa_nil))))) (pw_or (pt_cmpR op_ne (pe_callB (id := "len") (call_lenK K) (by rfl) T.b_len (by decide +kernel) (pa_cons (pv 7) pa_nil)) pe_int (nomark _)) (pw_or1 (pt_not (pt_val (pe_callB (id := "isinstance") (call_isiK K) (by rfl) T.b_isinstance (by decide +kernel) (pa_cons (pe_ix (ix_tupK K) (pv 7) pe_int (fun _ _ => rfl)) (pa_cons (pe_glob (v := .ref _) rfl T.g_Palette rfl) pa_nil))))))))) (pss_one (ps_ret pe_bl)) pss_nil)
      (pss_cons (ps_if (PW.pt (pw_or (pt_cmpR (op_neDK K hr.units) (pm_c0 (pe_ix (ix_tupK K) (pv 7) pe_int (fun _ _ => rfl)) c_colours hr pass0) (pe_lc (own := [("_law_cell", 5)]) (g := (gName 5)) rfl sc_lw_ordered_good.nd (pi_listK K (pv 3)) (blkOk_by (by kernel_rfl)) (fun _ _ _ _ _ => (pg_name (i := 5) sc_lw_ordered_good.nd rfl (by first | exact Or.inl rfl | exact Or.inr rfl))) (fun _ _ _ _ _ => pts_nil) (fun _ _ _ _ _ => (pe_ix (ix_listK K) (pv 1) (pv 5) (fun _ _ => rfl)))) (nomark _)) (pw_or1 (pt_not (pt_val (pf_c c_lw_rows_good hr (by rfl) pass0 (pa_cons (pe_ix (ix_tupK K) (pv 7) pe_int (fun _ _ => rfl)) (pa_cons (pv 4) pa_nil)))))))) (pss_one (ps_ret pe_bl)) pss_nil)
      (pss_cons (ps_if (pt_not (pt_val (pe_callB (id := "all") (cr_allK K rfl) (by rfl) T.b_all (by decide +kernel) (pa_cons (pe_lc (own := [("_law_row", 6)]) (g := (gName 6)) rfl sc_lw_ordered_good.nd (pi_listK K (pe_ix (ix_tupK K) (pv 7) pe_int (fun _ _ => rfl))) (blkOk_by (by kernel_rfl)) (fun _ _ _ _ _ => (pg_name (i := 6) sc_lw_ordered_good.nd rfl (by first | exact Or.inl rfl | exact Or.inr rfl))) (fun _ _ _ _ _ => pts_nil) (fun _ _ _ _ _ => (pe_callB (id := "all") (cr_allK K rfl) (by rfl) T.b_all (by decide +kernel) (pa_cons (pe_lc (own := [("_law_cell", 5)]) (g := (gName 5)) rfl sc_lw_ordered_good.nd (pi_listK K (pv 6)) (blkOk_by (by kernel_rfl)) (fun _ _ _ _ _ => (pg_name (i := 5) sc_lw_ordered_good.nd rfl (by first | exact Or.inl rfl | exact Or.inr rfl))) (fun _ _ _ _ _ => pts_nil) (fun _ _ _ _ _ => (pf_c c_lw_whole hr (by rfl) pass0 (pa_cons (pv 5) pa_nil)))) pa_nil)))) pa_nil)))) (pss_one (ps_ret pe_bl)) pss_nil)
      (pss_one (ps_ret (pe_and (pf_c c_lw_own hr (by rfl) pass0 (pa_cons (pe_ix (ix_tupK K) (pv 7) pe_int (fun _ _ => rfl)) (pa_cons (pv 4) pa_nil))) (pe_one (pe_cmpR (op_eqDK K hr.units) (pm_c0 (pv 2) c_colours hr pass0) (pv 1) (nomark _)))))))))))), ?_⟩
    refine q_asgL (xs := rowV (orderF p)) (el_callV (ea_cons (ev_var rfl) ea_nil) fun H1 e1 Q q => ⟨x, p, rfl, dpx hx e1, hg, q⟩) fun lo H1 hlo e1 hlov => ?_
    obtain ⟨q0, ts, rfl, ht, hts⟩ := dp_pic_inv (dpx hx e1)
    refine q_setPic (rows := ranked (orderF p) p) (evp_of (by
      have eF : (ranked (orderF p) p).map rowV = p.map fun r => r.map fun c => V.int (((orderF p).idxOf c : Nat) : Int) := by
        unfold ranked
        rw [List.map_map]
        refine List.map_congr_left fun r _ => ?_
        show (r.map _).map _ = _
        rw [List.map_map]
        rfl
      rw [eF]
      refine en_dataM (ev_var rfl) ht hts (by omega) (fun _ => rfl) fun y r H2 hrm hd e2 => ?_
      obtain ⟨t, rfl, ht2⟩ := dp_row_inv hd
      have hrl := hg.row hrm
      refine eo_l (el_dataM (f := PyData.int) (ev_var rfl) ht2 (dpa_ints r) (by omega) (fun _ => rfl) fun y c H3 hc hd3 e3 => ?_)
      cases hd3
      exact ev_indexOf (ev_var rfl) (ev_var rfl) (sq_of (e3 _ _ (e2 _ _ hlov))) ((hord.mem c).mpr (hg.mem_used.mpr (List.mem_flatten.mpr ⟨r, hrm, hc⟩))))) fun dq H2 e2 n2 => ?_
    obtain ⟨dts, hdL⟩ := n2.pic
    have e12 := e1.trans e2
    refine q_set (ep_ordered (ev_var rfl) (ev_var rfl) (hp.ex e12) (dpx hx e12) hg hall) fun v7 H3 e3 h7 => ?_
    obtain ⟨t, zq, lq, r, rfl, ht0, ht7, n1, n3⟩ := h7
    obtain ⟨dxq, ys, hpq, hys⟩ := n1.is
    have hf0 : ∀ {σ : L2.St} {H' : Hp}, Ev (tVar 7) σ H' (.ref t) → Ex H3 H' → Ev (tOp (rIxT K) (tVar 7) (tC (.int 0))) σ H' (.ref zq) := fun hv he => ev_op hv ev_c (rv_ixT (st_of (he _ _ ht7)) rfl)
    have hf1 : ∀ {σ : L2.St} {H' : Hp}, Ev (tVar 7) σ H' (.ref t) → Ex H3 H' → Ev (tOp (rIxT K) (tVar 7) (tC (.int 1))) σ H' (.ref r) := fun hv he => ev_op hv ev_c (rv_ixT (st_of (he _ _ ht7)) rfl)
    refine q_when (b := false) (et_at (et_or (a := false) (b := false) (et_at (et_not (et_B (ev_isTupX (ev_var rfl) ht7))) rfl) fun _ => et_at (et_or (a := false) (b := false) (et_test (ev_op (ev_lenA (ev_var rfl) (.inr (st_of ht7))) ev_c (rv_ne rfl))) fun _ => et_at (et_not (et_B (ev_isPal T.ins (hf0 (ev_var rfl) (Ex.refl _)) hpq.ins))) rfl) rfl) rfl) (fun hb => nomatch hb) fun _ H4 e4 => ?_
    have e14 := e12.trans (e3.trans e4)
    have hall' : ∀ c ∈ orderF p, 0 ≤ c ∧ c < ((cols.length : Nat) : Int) := fun c hc => ⟨(order_cell hg c hc).1.1, hall c (order_cell hg c hc).2⟩
    obtain ⟨zy, zs, rfl, hzy, hzs⟩ := dp_cols_inv (dpx hy e14)
    have hzl : zs.length = cols.length := by
      have := dp_len hzs
      rwa [List.length_map] at this
    refine q_when (b := false) (et_at (et_or (a := false) (b := false) (et_at (et_test (ev_neP (ep_colours (hf0 (ev_var rfl) e4) (hpq.ex e4) (dpax hys e4)) (fun H5 e5 => ep_pick (ord := orderF p) (ys := zs) (cols := cols) (ev_var rfl) (sq_of (e5 _ _ (e4 _ _ (e3 _ _ (e2 _ _ hlov))))) (by omega) (fun _ => rfl) (dpax hzs e5) hall' fun c H6 hc e6 => ev_pickAt (ev_var rfl) (ev_var rfl) (ex_l (e5.trans e6) hzy) (by rw [hzl]; exact hall' c hc)) (shaped_cols _) (shaped_cols _))) (by
      rw [eqv_cols, decide_eq_true rfl]
      rfl)) fun _ => et_at (et_not (et_B (ev_rowsGood (hf1 (ev_var rfl) e4) (ev_var rfl) (n3.ex (Ex.refl _) e4).dp (hdL.ex (e3.trans e4)).dp (by have := hgr.high; omega)))) (by
      rw [decide_eq_true rfl]
      rfl)) rfl) (fun hb => nomatch hb) fun _ H5 e5 => ?_
    obtain ⟨rts, hrL⟩ := (n3.ex (Ex.refl _) (e4.trans e5)).pic
    have hgrh := hgr.high
    refine q_when (b := false) (et_at (et_not (et_B (ev_allL (bs := (ranked (orderF p) p).map fun _ => true) (by
      rw [List.map_map]
      refine el_dataM (hf1 (ev_var rfl) (e4.trans e5)) (sq_of hrL.lst) hrL.rows (by omega) (fun _ => rfl) fun y rr H6 hrm hd e6 => ?_
      obtain ⟨t6, rfl, ht6⟩ := dp_row_inv hd
      have hrl := hgr.row hrm
      refine ev_at (ev_allL (bs := rr.map fun _ => true) (by
        rw [List.map_map]
        exact el_dataM (f := PyData.int) (ev_var rfl) ht6 (dpa_ints rr) (by omega) (fun _ => rfl) fun y c H7 hc hd7 e7 => by
          cases hd7
          exact ev_whole (ev_var rfl))) ?_
      rw [all_true]
      rfl)))) (by rw [all_true]; rfl)) (fun hb => nomatch hb) fun _ H6 e6 => ?_
    have e36 := e3.trans (e4.trans (e5.trans e6))
    refine own_raw (hf1 (ev_var rfl) (e4.trans (e5.trans e6))) (ev_var rfl) e36 (n3.ex (Ex.refl _) (e4.trans (e5.trans e6))) hdL hgr fun H7 e7 => ⟨true, rfl, ?_⟩
    have eH7 : Ex H H7 := e12.trans e7
    exact (ev_eqP (K := K) (d := colsD cols) (e := colsD cols) (ep_colours (ev_var rfl) (hp.ex eH7).at_ (hp.ex eH7).dp) (fun H8 e8 => ep_dp (ev_var rfl) (dpx hy (eH7.trans e8))) (shaped_cols _) (shaped_cols _)) H7 (Ex.refl _) _ fun H8 e8 => by
      rw [eqv_cols, decide_eq_true rfl]
      exact q H8 (eH7.trans e8)
end
end C19
set_option Elab.async false
set_option linter.all false
set_option maxRecDepth 100000
set_option maxHeartbeats 4000000
namespace C19
open PySem PySem.Spec PyProof.Rows L2 Evl
/-- for over range(n, 0, -1) -/
theorem q_forDown {σ : L2.St} {H : Hp} {D : Ends} {tu tz : TS} {ta : TA} {j n : Nat} (h : EvA ta σ H [.int ((n : Nat) : Int), .int 0, .int (-1)]) (hn : n ≤ 100000) (Pv : Nat → L2.St → Hp → Prop) (h0 : ∀ H1, Ex H H1 → Pv 0 σ H1)
    (hs : ∀ (i : Nat) σ' H', i < n → Pv i σ' H' → tu { D with nx := Pv (i + 1), ct := Pv (i + 1), bk := tz D } (σ'.set j (some (.int (((n - i : Nat) : Nat) : Int)))) H') (hd : ∀ σ' H', Pv n σ' H' → tz D σ' H') : tSeq (tFor (iRng3 ta) (gName j) tu) tz D σ H :=
  h H (Ex.refl _) _ fun H1 e1 => ⟨_, _, _, ((n : Nat) : Int).toNat, rfl, by
    have := RgC.neg (i := ((n : Nat) : Int)) (j := 0) (by omega) (by omega) (by decide) (by decide)
    rw [Int.sub_zero] at this
    exact this, by
    rw [Int.toNat_natCast]
    exact for_it (D := { D with nx := tz D }) walk_rangeC Pv (h0 H1 e1) (fun _ _ _ _ _ => True.intro) (fun i x σ' H2 H3 hi p y => by
      obtain ⟨rfl, rfl⟩ := y
      have e : ((n : Nat) : Int) + ((i : Nat) : Int) * (-1) = (((n - i : Nat) : Nat) : Int) := by omega
      have k := hs i σ' H3 hi p
      rw [← e] at k
      exact k) hd⟩
section
variable {P : Program} {w : World} {K : PySem.W.Frag} {mg : Str → Option Value} {base : Heap} {a : Ad}
/-- fewer_cells of what reads as a picture -/
theorem evp_few {σ : L2.St} {H : Hp} {t1 t2 t3 : TE} {E : XK} {v : V} {p : Pic} {k : Nat} {pl dx l : Addr} {xs : List V} {cols : List Col} (h1 : Ep t1 σ H fun u H' => Dp K H' u (picD p)) (h2 : ∀ H1, Ex H H1 → Ev t2 σ H1 v) (h3 : ∀ H1, Ex H H1 → Ev t3 σ H1 (.int ((k : Nat) : Int)))
    (hp : PalG K a H v pl dx l xs cols) (hg : Good p) (hall : ∀ c ∈ p.flatten, c < ((cols.length : Nat) : Int)) (hk : 1 ≤ k ∧ k ≤ 16) : EvP (tCall (spFew K a) [] E (tCons t1 (tCons t2 (tCons t3 tNil)))) σ H (fewM cols k p) := fun H1 e1 Q q =>
  h1 H1 e1 _ fun x H2 e2 hx => (ea_cons (h2 H2 (e1.trans e2)) (ea_cons (h3 H2 (e1.trans e2)) ea_nil)) H2 (Ex.refl _) _ fun H3 e3 => by
    have hx3 := dpx hx e3
    have hp3 := hp.ex (e1.trans (e2.trans e3))
    exact ⟨x, v, _, rfl, .inl ⟨p, pl, dx, l, xs, cols, hp3, hx3, hg, .inl ⟨hall, .inl ⟨k, rfl, hk.1, hk.2, fun r H4 e4 n4 => q r H4 ((e2.trans e3).trans e4) (n4.ex (e2.trans e3) (Ex.refl _))⟩⟩⟩⟩
/-! ### _law_all_fewer -/
def spAllFew (K : PySem.W.Frag) (a : Ad) : Sp := fun vs H Q _ => ∃ (pq : Addr) (ts : List Addr) (y v : V) (turn : Int) (p : Pic) (pl dx l : Addr) (xs : List V) (cols : List Col), vs = [.ref pq, y, v, .int turn] ∧ PicL H pq ts p ∧ Good p ∧ Dp K H y (colsD cols) ∧ PalG K a H v pl dx l xs cols ∧ (∀ c ∈ p.flatten, c < ((cols.length : Nat) : Int)) ∧ RetV (.bl true) H Q
theorem ok_lw_all_fewer (T : Txt K mg a) (D : DefAt K mg "_law_all_fewer" s_lw_all_fewer) (c_lw_used : Cal P w K mg base CX0 2 "_law_used" ["_law_picture_here"] (spLwUsed K)) (c_lw_one_less : Cal P w K mg base CX0 2 "_law_one_less" ["_law_picture_here", "_law_colours"] (spOneLess K))
    (c_lw_copied : Cal P w K mg base CX0 1 "_law_copied" ["_law_rows"] (spCopied K)) (c_fewer_cells : Cal P w K mg base (L2N.CX P w) 8 "fewer_cells" ["picture", "palette", "many"] (spFew K a)) (c_lw_rows_good : Cal P w K mg base CX0 1 "_law_rows_good" ["_law_found", "_law_due"] (spRowsGood K))
    (c_colours : Mth P w K mg base a.pal 1 "colours" ["self"] (spCols a)) (c_lw_own : Cal P w K mg base CX0 1 "_law_own" ["_law_found", "_law_due"] spOwn) :
    Cal P w K mg base CX0 9 "_law_all_fewer" ["_law_picture_here", "_law_colours", "_law_palette", "_law_turn"] (spAllFew K a) := by
  refine cal_of D bd_lw_all_fewer sc_lw_all_fewer (fun vs H Q E h => ?_) (fun f cdv A outer s H vs Q E hr h => ?_)
  · obtain ⟨pq, ts, y, v, turn, p, pl, dx, l, xs, cols, rfl, _⟩ := h
    rfl
  · obtain ⟨pq, ts, y, v, turn, p, pl, dx, l, xs, cols, rfl, hpq, hg, hy, hp, hall, q⟩ := h
    have hlen := hp.len
    have hpv := hp.eq
    subst hpv
    have hhi := hg.high
    refine ⟨_, (pss_cons (ps_set (i := 4) sc_lw_all_fewer.nd rfl (by first | exact Or.inl rfl | exact Or.inr rfl) (pv 0))
      (pss_cons (ps_for (L2.passes_of rfl) rfl (pi_range3 rfl T.b_range (pa_cons pe_int (pa_cons pe_int (pa_cons (pe_un un_neg pe_int) pa_nil)))) (pg_name (i := 5) sc_lw_all_fewer.nd rfl (by first | exact Or.inl rfl | exact Or.inr rfl)) (pss_cons (ps_set (i := 6) sc_lw_all_fewer.nd rfl (by first | exact Or.inl rfl | exact Or.inr rfl) (pv 4))
      (pss_cons (ps_if (pt_cmpR op_gt (pe_callB (id := "len") (call_lenK K) (by rfl) T.b_len (by decide +kernel) (pa_cons (pf_c c_lw_used hr (by rfl) pass0 (pa_cons (pv 4) pa_nil)) pa_nil)) (pv 5) (nomark _)) (pss_one (ps_set (i := 4) sc_lw_all_fewer.nd rfl (by first | exact Or.inl rfl | exact Or.inr rfl) (pf_c c_lw_one_less hr (by rfl) pass0 (pa_cons (pv 4) (pa_cons (pv 1) pa_nil))))) pss_nil)
      (pss_cons (ps_set (i := 7) sc_lw_all_fewer.nd rfl (by first | exact Or.inl rfl | exact Or.inr rfl) (pf_c c_lw_copied hr (by rfl) pass0 (pa_cons (pv 0) pa_nil)))
      (pss_cons (ps_set (i := 8) sc_lw_all_fewer.nd rfl (by first | exact Or.inl rfl | exact Or.inr rfl) (pf_c c_fewer_cells hr (by rfl) passLN (pa_cons (pv 7) (pa_cons (pv 2) (pa_cons (pv 5) pa_nil)))))
      (pss_cons (ps_if (PW.pt (pw_or (pt_not (pt_val (pf_c c_lw_rows_good hr (by rfl) pass0 (pa_cons (pv 8) (pa_cons (pv 4) pa_nil))))) (pw_or (pt_cmpR (op_neDK K hr.units) (pv 7) (pv 0) (nomark _)) (pw_or1 (pt_cmpR (op_neDK K hr.units) (pm_c0 (pv 2) c_colours hr pass0) (pv 1) (nomark _)))))) (pss_one (ps_ret pe_bl)) pss_nil)
      (pss_cons (ps_if (PW.pt (pw_and (pt_cmpR op_eq (pe_op op_mod (pv 5) pe_int) (pv 3) (nomark _)) (pw_and1 (pt_cmpR (op_neDK K hr.units) (pf_c c_fewer_cells hr (by rfl) passLN (pa_cons (pf_c c_lw_copied hr (by rfl) pass0 (pa_cons (pv 6) pa_nil)) (pa_cons (pv 2) (pa_cons (pv 5) pa_nil)))) (pv 4) (nomark _))))) (pss_one (ps_ret pe_bl)) pss_nil)
      (pss_one (ps_if (PW.pt (pw_or (pt_not (pt_val (pf_c c_lw_own hr (by rfl) pass0 (pa_cons (pv 8) (pa_cons (pv 4) pa_nil))))) (pw_or1 (pt_cmpR (op_neDK K hr.units) (pv 7) (pv 0) (nomark _))))) (pss_one (ps_ret pe_bl)) pss_nil)))))))))
      (pss_one (ps_ret pe_bl)))), ?_⟩
    refine q_asg (ev_var rfl) fun H1 e1 => ?_
    refine q_forDown (n := 16) (ea_cons ev_c (ea_cons ev_c (ea_cons (ev_un ev_c ru_neg) ea_nil))) (by decide) (fun i σ' H' => Ex H H' ∧ ∃ dq dts s5 s6 s7 s8, PicL H' dq dts (fewM cols (17 - i) p) ∧ σ' = [some (.ref pq), some y, some (.ref pl), some (.int turn), some (.ref dq), s5, s6, s7, s8])
      (fun H2 e2 => ⟨e1.trans e2, pq, ts, _, _, _, _, by rw [fewM_all (by omega)]; exact hpq.ex (e1.trans e2), rfl⟩) (fun i σ' H3 hi h => ?_) (fun σ' H3 h => ?_)
    · obtain ⟨h1, dq, dts, s5, s6, s7, s8, hdq, rfl⟩ := h
      obtain ⟨k, hk, hk1, hk2⟩ : ∃ k : Nat, 16 - i = k ∧ 17 - i = k + 1 ∧ 1 ≤ k ∧ k ≤ 16 := ⟨16 - i, rfl, by omega, by omega, by omega⟩
      rw [hk, show 17 - (i + 1) = k by omega]
      rw [hk1] at hdq
      obtain ⟨ga, la, ua⟩ := fewM_good (cols := cols) hg (m := k + 1) (by omega)
      obtain ⟨gd, ld, ud⟩ := fewM_good (cols := cols) hg (m := k) hk2.1
      have hstep := fewM_step (cols := cols) hg (m := k) hk2.1
      have hahead := fewM_ahead (cols := cols) hg (m := k) hk2.1
      have halla : ∀ c ∈ used (fewM cols (k + 1) p), c < ((cols.length : Nat) : Int) := fun c hc => hall c (hg.mem_used.mp (ua c hc))
      refine q_asg (ev_var rfl) fun H4 e4 => ?_
      have hdq4 := hdq.ex e4
      have e04 := h1.trans e4
      refine q_ifP (b := decide ((((used (fewM cols (k + 1) p)).length : Nat) : Int) > ((k : Nat) : Int))) (P := fun v H' => ∃ eq ets, v = .ref eq ∧ PicL H' eq ets (fewM cols k p)) (et_test (ev_op (ev_at (ev_lenL (xs := rowV (used (fewM cols (k + 1) p))) (el_callV (ea_cons (ev_var rfl) ea_nil) fun H5 e5 Q q => ⟨_, _, rfl, (hdq4.ex e5).dp, ga, q⟩)) (by rw [row_len])) (ev_var rfl) rv_I0)) (fun hb => ?_) (fun hb => ?_) fun v H5 e5 hv => ?_
      · have hb := of_decide_eq_true hb
        have e : fewM cols k p = oneLess cols (fewM cols (k + 1) p) := by
          rw [hstep, if_pos (by omega)]
        rw [e]
        intro H5 e5 Q q
        exact (evp_call (σ := [some (.ref pq), some y, some (.ref pl), some (.int turn), some (.ref dq), some (.int ((k : Nat) : Int)), some (.ref dq), s7, s8]) (sp := spOneLess K) (E := E0) (ea_cons (ev_var rfl) (ea_cons (ev_var rfl) ea_nil)) fun H6 e6 Q q => ⟨.ref dq, y, _, cols, rfl, (hdq4.ex e6).dp, ga, dpx hy (e04.trans e6), hp.good.val, by omega, halla, q⟩) H5 e5 Q fun r H6 e6 n6 => by
          obtain ⟨ets, h⟩ := n6.pic
          exact q _ H6 e6 ⟨r, ets, rfl, h⟩
      · have hb := of_decide_eq_false hb
        have e : fewM cols k p = fewM cols (k + 1) p := by
          rw [hstep, if_neg (by omega)]
        exact ⟨.ref dq, rfl, fun H5 e5 => ⟨dq, dts, rfl, by rw [e]; exact hdq4.ex e5⟩⟩
      · obtain ⟨eq, ets, rfl, heq⟩ := hv
        have e05 := e04.trans e5
        refine q_setPic (rows := p) (evp_copied (ev_var rfl) (hpq.ex e05).dp (by omega)) fun hq H6 e6 n6 => ?_
        obtain ⟨hts, hhq⟩ := n6.pic
        have e06 := e05.trans e6
        refine q_setPic (rows := fewM cols k p) (evp_few (v := .ref pl) (ep_dp (ev_var rfl) hhq.dp) (fun H7 e7 => ev_var rfl) (fun H7 e7 => ev_var rfl) (hp.ex e06) hg hall hk2) fun fq H7 e7 n7 => ?_
        obtain ⟨fts, hfq⟩ := n7.pic
        have e07 := e06.trans e7
        have hgdh := gd.high
        have hne1 : ∀ {σ : L2.St} {H' : Hp}, Ex H6 H' → Ev (tVar 7) σ H' (.ref hq) → Ev (tVar 0) σ H' (.ref pq) → EvT (tTest (tOp (rNeD K) (tVar 7) (tVar 0))) σ H' false := fun {σ H'} he h1 h2 => et_at (et_test (ev_neP (ep_dp h1 (hhq.ex he).dp) (fun H8 e8 => ep_dp (h2.mono e8) (hpq.ex (e06.trans (he.trans e8))).dp) (shaped_pic _) (shaped_pic _))) (by
          rw [eqv_pic, decide_eq_true rfl]
          rfl)
        refine q_when (b := false) (et_at (et_or (a := false) (b := false) (et_at (et_not (et_B (ev_rowsGood (ev_var rfl) (ev_var rfl) hfq.dp (heq.ex (e6.trans e7)).dp (by omega)))) (by
          rw [decide_eq_true rfl]
          rfl)) fun _ => et_at (et_or (a := false) (b := false) (hne1 e7 (ev_var rfl) (ev_var rfl)) fun _ => et_at (et_test (ev_neP (ep_colours (ev_var rfl) (hp.ex e07).at_ (hp.ex e07).dp) (fun H8 e8 => ep_dp (ev_var rfl) (dpx hy (e07.trans e8))) (shaped_cols _) (shaped_cols _))) (by
          rw [eqv_cols, decide_eq_true rfl]
          rfl)) rfl) rfl) (fun hb => nomatch hb) fun _ H8 e8 => ?_
        have e08 := e07.trans e8
        refine q_when (b := false) (fun H9 e9 Q qq => ?_) (fun hb => nomatch hb) fun _ H9 e9 => ?_
        · refine (et_and (a := decide (((k : Nat) : Int) % 3 = turn)) (b := false) (et_at (et_test (ev_op (ev_op (ev_var rfl) ev_c (rv_mod (by decide))) (ev_var rfl) (rv_eq rfl))) ?_) fun _ => ?_) H9 e9 Q fun H10 e10 => ?_
          · exact decide_eq_decide.mpr ⟨fun e => V.int.inj e, fun e => by rw [e]⟩
          · have e := evp_few (a := a) (K := K) (E := E0) (σ := [some (.ref pq), some y, some (.ref pl), some (.int turn), some (.ref eq), some (.int ((k : Nat) : Int)), some (.ref dq), some (.ref hq), some (.ref fq)]) (H := H8) (t2 := tVar 2) (t3 := tVar 5) (k := k) (p := fewM cols (k + 1) p) (v := .ref pl) (ep_pic (evp_copied (K := K) (E := E0) (t1 := tVar 6) (x := .ref dq) (p := fewM cols (k + 1) p) (ev_var rfl) (hdq4.ex (e5.trans (e6.trans (e7.trans e8)))).dp (by have := ga.high; omega))) (fun H10 e10 => ev_var rfl) (fun H10 e10 => ev_var rfl) (hp.ex e08) ga (fun c hc => halla c (ga.mem_used.mpr hc)) hk2
            rw [hahead] at e
            refine et_at (et_test (ev_neP (ep_pic e) (fun H10 e10 => ep_dp (ev_var rfl) (heq.ex (e6.trans (e7.trans (e8.trans e10)))).dp) (shaped_pic _) (shaped_pic _))) ?_
            rw [eqv_pic, decide_eq_true rfl]
            rfl
          · rw [Bool.and_false]
            exact qq H10 e10
        · refine s_orOwn (H0 := H6) (ev_var rfl) (ev_var rfl) (e7.trans (e8.trans e9)) (n7.ex (Ex.refl _) (e8.trans e9)) (heq.ex e6) gd (fun H10 e10 => hne1 e10 (ev_var rfl) (ev_var rfl)) fun H10 e10 => ⟨e06.trans e10, eq, ets, _, _, _, _, heq.ex (e6.trans e10), rfl⟩
    · obtain ⟨h1, dq, dts, s5, s6, s7, s8, hdq, rfl⟩ := h
      exact s_ret ev_c fun H4 e4 => q H4 (h1.trans e4)
end
end C19
set_option Elab.async false
set_option linter.all false
set_option maxRecDepth 100000
set_option maxHeartbeats 4000000
namespace C19
open PySem PySem.Spec PyProof.Rows L2 Evl
/-! ### what is no picture -/
def smD (ds : List PyData) : Prop := ds.length ≤ 100 ∧ ∀ e ∈ ds, lenD e ≤ 100
section
variable {K : PySem.W.Frag} {σ : L2.St} {H H' : Hp} {ta tb te t1 t2 tl : TE} {tA : TA} {tlo thi : TO} {D : Ends} {tz : TS} {E : XK}
theorem th_list {v : V} {ds : List PyData} (h : Dp K H v (.list ds)) (hs : smD ds) (hb : picB (.list ds) = false) : ThP K H v false := .inl ⟨_, h, by
  show (decide (ds.length ≤ 40000) && ds.all fun e => match e with
    | .list es => decide (es.length ≤ 40000)
    | _ => true) = true
  rw [decide_eq_true (by have := hs.1; omega), Bool.true_and, List.all_eq_true]
  intro e he
  have := hs.2 e he
  cases e with
  | list es =>
    have h3 : es.length ≤ 100 := this
    exact decide_eq_true (by omega)
  | _ => rfl, hb⟩
theorem th_other {v : V} {d : PyData} (h : Dp K H v d) (hd : isListB d = false) : ThP K H v false := .inl ⟨d, h, by cases d <;> first | rfl | (cases hd; done), by cases d <;> first | rfl | (cases hd; done)⟩
theorem pic_bad {ds : List PyData} (h : ∃ e ∈ ds, cellsB e = false) : picB (.list ds) = false := by
  obtain ⟨e, he, hc⟩ := h
  have : ds.all cellsB = false := by
    rw [List.all_eq_false]
    exact ⟨e, he, by rw [hc]; decide⟩
  simp only [picB]
  rw [this, Bool.false_and, Bool.and_false, Bool.and_false]
theorem pic_long {ds : List PyData} (h : 24 < ds.length) : picB (.list ds) = false := by
  simp only [picB]
  rw [show decide (ds.length ≤ 24) = false from decide_eq_false (by omega), Bool.false_and, Bool.and_false]
theorem pic_nil : picB (.list []) = false := rfl
theorem pic_lens {ds : List PyData} (h : ∃ d ∈ ds, lenD d ≠ lenD (headD ds)) : picB (.list ds) = false := by
  obtain ⟨d, hd, hne⟩ := h
  have : (ds.all fun d => decide (lenD d = lenD (headD ds))) = false := by
    rw [List.all_eq_false]
    exact ⟨d, hd, by rw [decide_eq_false hne]; decide⟩
  simp only [picB]
  rw [this, Bool.and_false, Bool.and_false, Bool.and_false, Bool.and_false, Bool.and_false]
theorem pic_head {ds : List PyData} (h : ¬ (1 ≤ lenD (headD ds) ∧ lenD (headD ds) ≤ 24)) : picB (.list ds) = false := by
  simp only [picB]
  by_cases c : 1 ≤ lenD (headD ds)
  · rw [show decide (lenD (headD ds) ≤ 24) = false from decide_eq_false (by omega), Bool.false_and, Bool.and_false, Bool.and_false, Bool.and_false, Bool.and_false]
  · rw [decide_eq_false c, Bool.false_and, Bool.and_false, Bool.and_false, Bool.and_false]
/-! ### data of lists -/
theorem dpa_set {x : V} {d : PyData} (hx : Dp K H x d) : ∀ {xs : List V} {ds : List PyData} (_ : DpAll K H xs ds) (i : Nat), DpAll K H (xs.set i x) (ds.set i d)
  | _, _, .nil, _ => .nil
  | _, _, .cons h t, 0 => .cons hx t
  | _, _, .cons h t, i + 1 => .cons h (dpa_set hx t i)
theorem dpa_app : ∀ {xs ys : List V} {ds es : List PyData} (_ : DpAll K H xs ds) (_ : DpAll K H ys es), DpAll K H (xs ++ ys) (ds ++ es)
  | _, _, _, _, .nil, h => h
  | _, _, _, _, .cons h t, k => .cons h (dpa_app t k)
theorem dpa_takeG : ∀ {xs : List V} {ds : List PyData} (_ : DpAll K H xs ds) (i : Nat), DpAll K H (xs.take i) (ds.take i)
  | _, _, _, 0 => by
    rw [List.take_zero, List.take_zero]
    exact .nil
  | _, _, .nil, i + 1 => .nil
  | _, _, .cons h t, i + 1 => .cons h (dpa_takeG t i)
theorem dpa_dropG : ∀ {xs : List V} {ds : List PyData} (_ : DpAll K H xs ds) (i : Nat), DpAll K H (xs.drop i) (ds.drop i)
  | _, _, h, 0 => h
  | _, _, .nil, i + 1 => .nil
  | _, _, .cons h t, i + 1 => dpa_dropG t i
theorem dpa_repl {x : V} {d : PyData} (hx : Dp K H x d) : ∀ n : Nat, DpAll K H (List.replicate n x) (List.replicate n d)
  | 0 => .nil
  | n + 1 => .cons hx (dpa_repl hx n)
/-! ### new lists -/
theorem el_cat {xs ys : List V} (ha : EvL ta σ H xs) (hb : ∀ H1, Ex H H1 → EvL tb σ H1 ys) (hz : xs.length + ys.length ≤ 100000) : EvL (tOp rCat ta tb) σ H (xs ++ ys) := fun H1 e Q q =>
  ha H1 e _ fun p H2 hp e2 h2 => hb H2 (e.trans e2) H2 (Ex.refl _) _ fun r H3 hr e3 h3 => ⟨p, r, xs, ys, rfl, rfl, e3 _ _ h2, h3, sz_of hz, fun z hz => q z _ (fresh_back (e2.trans e3) hz) ((e2.trans e3).trans (Ex.new hz)) upd_same⟩
theorem s_setNew {l : Addr} {xs ys : List V} {j : Nat} (hl : H l = some (.lst xs)) (h : EvL te σ H ys) (ho : Ev ta σ H (.ref l)) (hi : Ev tb σ H (.int (j : Int))) (hj : j < xs.length) (k : ∀ p H1, H p = none → Ex H H1 → H1 p = some (.lst ys) → D.nx σ (upd H1 l (.lst (xs.set j (.ref p))))) :
    tAsg te (gSub ta tb rSetL) D σ H := h H (Ex.refl H) _ fun p H1 hp e1 hp1 => ho H1 e1 _ fun H2 e2 => hi H2 (e1.trans e2) _ fun H3 e3 =>
  ⟨l, xs, (j : Int), j, rfl, rfl, ((e1.trans e2).trans e3) l _ hl, ixN_nat hj, k p H3 hp ((e1.trans e2).trans e3) (e3 _ _ (e2 _ _ hp1))⟩
theorem q_setNew {l : Addr} {xs ys : List V} {j : Nat} (hl : H l = some (.lst xs)) (h : EvL te σ H ys) (ho : Ev ta σ H (.ref l)) (hi : Ev tb σ H (.int (j : Int))) (hj : j < xs.length) (k : ∀ p H1, H p = none → Ex H H1 → H1 p = some (.lst ys) → tz D σ (upd H1 l (.lst (xs.set j (.ref p))))) :
    tSeq (tAsg te (gSub ta tb rSetL)) tz D σ H := s_setNew (D := { D with nx := tz D }) hl h ho hi hj k
theorem cut_take (xs : List V) {i : Int} (h : 0 ≤ i) : cutV xs none (some i) = xs.take i.toNat := by
  rw [show i = ((i.toNat : Nat) : Int) by omega, cut_to, Int.toNat_natCast]
theorem cut_drop (xs : List V) {i : Int} (h : 0 ≤ i) : cutV xs (some i) none = xs.drop i.toNat := by
  rw [show i = ((i.toNat : Nat) : Int) by omega, cut_from, Int.toNat_natCast]
/-! ### a row of things that are no pictures -/
def EaTh (K : PySem.W.Frag) (tA : TA) (σ : L2.St) (H : Hp) (n : Nat) : Prop := ∀ H1, Ex H H1 → ∀ Q : List V → Hp → Prop, (∀ vs H2, Ex H1 H2 → vs.length = n → (∀ v ∈ vs, ThP K H2 v false) → Q vs H2) → tA σ H1 Q
def EpTh (K : PySem.W.Frag) (te : TE) (σ : L2.St) (H : Hp) : Prop := Ep te σ H fun v H' => ThP K H' v false
theorem eath_nil : EaTh K tNil σ H 0 := fun H1 e Q q => q [] H1 (Ex.refl _) rfl fun _ h => nomatch h
theorem eath_cons {n : Nat} (h : EpTh K te σ H) (hr : EaTh K tA σ H n) : EaTh K (tCons te tA) σ H (n + 1) := fun H1 e Q q =>
  h H1 e _ fun v H2 e2 hv => hr H2 (e.trans e2) _ fun vs H3 e3 hl hvs => q (v :: vs) H3 (e2.trans e3) (by rw [List.length_cons, hl]) fun u hu => by
    rcases List.mem_cons.mp hu with rfl | hu
    · exact thp_ex hv e3
    · exact hvs u hu
/-- a new list of n things that are no pictures -/
def LsTh (K : PySem.W.Frag) (H0 : Hp) (n : Nat) (v : V) (H : Hp) : Prop := ∃ l vs, v = .ref l ∧ H l = some (.lst vs) ∧ vs.length = n ∧ ∀ u ∈ vs, ThP K H u false
theorem lsth_ex {n : Nat} {H0 : Hp} {v : V} (h : LsTh K H0 n v H) (e : Ex H H') : LsTh K H0 n v H' := by
  obtain ⟨l, vs, rfl, h1, h2, h3⟩ := h
  exact ⟨l, vs, rfl, e _ _ h1, h2, fun u hu => thp_ex (h3 u hu) e⟩
theorem lsth_lst {n : Nat} (h : EaTh K tA σ H n) (hn : n ≤ 100000) : Ep (tLst tA) σ H (LsTh K H n) := fun H1 e Q q => h H1 e _ fun vs H2 e2 hl hv => ⟨sz_of (by omega), fun p hp => q _ _ (e2.trans (Ex.new hp)) ⟨p, vs, rfl, upd_same, hl, fun u hu => thp_ex (hv u hu) (Ex.new hp)⟩⟩
theorem lsth_cat {n m : Nat} {H0 : Hp} (h1 : Ep ta σ H (LsTh K H0 n)) (h2 : ∀ H1, Ex H H1 → Ep tb σ H1 (LsTh K H0 m)) (hn : n + m ≤ 100000) : Ep (tOp rCat ta tb) σ H (LsTh K H0 (n + m)) := fun H1 e Q q =>
  h1 H1 e _ fun v H2 e2 ⟨l, vs, hv, hl, hn1, hvs⟩ => h2 H2 (e.trans e2) H2 (Ex.refl _) _ fun u H3 e3 ⟨l2, us, hu, hl2, hn2, hus⟩ => by
    subst hv
    subst hu
    refine ⟨l, l2, vs, us, rfl, rfl, e3 _ _ hl, hl2, sz_of (by omega), fun z hz => q _ _ ((e2.trans e3).trans (Ex.new hz)) ⟨z, vs ++ us, rfl, upd_same, by rw [List.length_append, hn1, hn2], fun x hx => ?_⟩⟩
    rcases List.mem_append.mp hx with hx | hx
    · exact thp_ex (thp_ex (hvs x hx) e3) (Ex.new hz)
    · exact thp_ex (hus x hx) (Ex.new hz)
theorem th_ev {v : V} (h : Ev te σ H v) (hv : ThP K H v false) : EpTh K te σ H := fun H1 e Q q => h H1 e _ fun H2 e2 => q v H2 e2 (thp_ex hv (e.trans e2))
theorem th_new {xs : List V} {ds : List PyData} (h : EvL te σ H xs) (hd : ∀ H1, Ex H H1 → DpAll K H1 xs ds) (hs : smD ds) (hb : picB (.list ds) = false) : EpTh K te σ H := fun H1 e Q q => h H1 e _ fun p H2 hp e2 h2 => q _ H2 e2 (th_list (.lst (sq_of h2) (hd H2 (e.trans e2))) hs hb)
end
end C19
set_option Elab.async false
set_option linter.all false
set_option maxRecDepth 100000
set_option maxHeartbeats 4000000
namespace C19
open PySem PySem.Spec PyProof.Rows L2 Evl
section
variable {K : PySem.W.Frag} {σ : L2.St} {H H' : Hp} {ta tb te t1 t2 tl : TE} {tA : TA} {tlo thi : TO} {D : Ends} {tz : TS} {E : XK}
/-! ### new lists of data -/
def LsDp (K : PySem.W.Frag) (ds : List PyData) (v : V) (H : Hp) : Prop := ∃ l xs, v = .ref l ∧ H l = some (.lst xs) ∧ DpAll K H xs ds
theorem LsDp.dp {ds : List PyData} {v : V} (h : LsDp K ds v H) : Dp K H v (.list ds) := by
  obtain ⟨l, xs, rfl, h1, h2⟩ := h
  exact .lst (sq_of h1) h2
theorem LsDp.ex {ds : List PyData} {v : V} (h : LsDp K ds v H) (e : Ex H H') : LsDp K ds v H' := by
  obtain ⟨l, xs, rfl, h1, h2⟩ := h
  exact ⟨l, xs, rfl, e _ _ h1, dpax h2 e⟩
theorem Ep.imp {P Q : V → Hp → Prop} (h : Ep te σ H P) (k : ∀ v H', P v H' → Q v H') : Ep te σ H Q := fun H1 e R r => h H1 e R fun v H2 e2 p => r v H2 e2 (k v H2 p)
theorem ls_dp {ds : List PyData} (h : Ep te σ H (LsDp K ds)) : Ep te σ H fun v H' => Dp K H' v (.list ds) := h.imp fun _ _ k => k.dp
theorem ls_var {ds : List PyData} {v : V} (h : Ev te σ H v) (hv : LsDp K ds v H) : Ep te σ H (LsDp K ds) := fun H1 e Q q => h H1 e _ fun H2 e2 => q v H2 e2 (hv.ex (e.trans e2))
theorem ls_pic {rows : Pic} (h : EvP te σ H rows) : Ep te σ H (LsDp K (rows.map rowD)) := fun H1 e Q q => h H1 e _ fun p H2 e2 n => by
  obtain ⟨ts, k⟩ := n.pic
  exact q _ H2 e2 ⟨p, _, rfl, k.lst, k.rows⟩
theorem ls_nil : Ep (tLst tNil) σ H (LsDp K []) := fun H1 e Q q => (show EvL (tLst tNil) σ H [] from el_lst ea_nil (by decide)) H1 e _ fun p H2 hp e2 h2 => q _ H2 e2 ⟨p, [], rfl, h2, .nil⟩
theorem ls_one {d : PyData} (h : Ep te σ H fun v H' => Dp K H' v d) : Ep (tLst (tCons te tNil)) σ H (LsDp K [d]) := fun H1 e Q q => h H1 e _ fun v H2 e2 hv => ⟨sz_of (show 1 ≤ 100000 by decide), fun p hp => q _ _ (e2.trans (Ex.new hp)) ⟨p, [v], rfl, upd_same, .cons (dpx hv (Ex.new hp)) .nil⟩⟩
theorem ls_cat {ds es : List PyData} (h1 : Ep ta σ H (LsDp K ds)) (h2 : ∀ H1, Ex H H1 → Ep tb σ H1 (LsDp K es)) (hz : ds.length + es.length ≤ 100000) : Ep (tOp rCat ta tb) σ H (LsDp K (ds ++ es)) := fun H1 e Q q =>
  h1 H1 e _ fun v H2 e2 ⟨l, xs, hv, hl, hx⟩ => h2 H2 (e.trans e2) H2 (Ex.refl _) _ fun u H3 e3 ⟨l2, ys, hu, hl2, hy⟩ => by
    subst hv
    subst hu
    exact ⟨l, l2, xs, ys, rfl, rfl, e3 _ _ hl, hl2, sz_of (by have := dp_len hx; have := dp_len hy; omega), fun z hz => q _ _ ((e2.trans e3).trans (Ex.new hz)) ⟨z, xs ++ ys, rfl, upd_same, dpa_app (dpax (dpax hx e3) (Ex.new hz)) (dpax hy (Ex.new hz))⟩⟩
theorem ls_to {ds : List PyData} {i : Int} (h : Ep te σ H fun v H' => Dp K H' v (.list ds)) (hi : ∀ H1, Ex H H1 → EvO thi σ H1 (some i)) (h0 : 0 ≤ i) : Ep (tSl (rSlL K) te tNoPart thi) σ H (LsDp K (ds.take i.toNat)) := fun H1 e Q q =>
  h H1 e _ fun v H2 e2 hv => by
    cases hv with
    | lst hs ha =>
      rename_i a xs
      exact hi H2 (e.trans e2) H2 (Ex.refl _) _ fun H3 e3 => ⟨a, xs, rfl, ex_l e3 hs, fun p hp => q _ _ ((e2.trans e3).trans (Ex.new hp)) ⟨p, _, rfl, upd_same, by rw [cut_take _ h0]; exact dpa_takeG (dpax ha (e3.trans (Ex.new hp))) _⟩⟩
theorem ls_from {ds : List PyData} {i : Int} (h : Ep te σ H fun v H' => Dp K H' v (.list ds)) (hi : ∀ H1, Ex H H1 → EvO tlo σ H1 (some i)) (h0 : 0 ≤ i) : Ep (tSl (rSlL K) te tlo tNoPart) σ H (LsDp K (ds.drop i.toNat)) := fun H1 e Q q =>
  h H1 e _ fun v H2 e2 hv => by
    cases hv with
    | lst hs ha =>
      rename_i a xs
      exact hi H2 (e.trans e2) H2 (Ex.refl _) _ fun H3 e3 => ⟨a, xs, rfl, ex_l e3 hs, fun p hp => q _ _ ((e2.trans e3).trans (Ex.new hp)) ⟨p, _, rfl, upd_same, by rw [cut_drop _ h0]; exact dpa_dropG (dpax ha (e3.trans (Ex.new hp))) _⟩⟩
theorem dpa_flat {xs : List V} {ds : List PyData} (h : DpAll K H xs ds) : ∀ n : Nat, DpAll K H (List.replicate n xs).flatten (List.replicate n ds).flatten
  | 0 => .nil
  | n + 1 => by
    rw [List.replicate_succ, List.replicate_succ, List.flatten_cons, List.flatten_cons]
    exact dpa_app h (dpa_flat h n)
theorem ls_rep {ds : List PyData} {k : Int} (h : Ep ta σ H (LsDp K ds)) (hb : ∀ H1, Ex H H1 → Ev tb σ H1 (.int k)) (hk : 0 ≤ k ∧ k ≤ 1000) (hz : ds.length ≤ 1000) : Ep (tOp rRep ta tb) σ H (LsDp K (List.replicate k.toNat ds).flatten) := fun H1 e Q q =>
  h H1 e _ fun v H2 e2 ⟨l, xs, hv, hl, hx⟩ => hb H2 (e.trans e2) H2 (Ex.refl _) _ fun H3 e3 => by
    subst hv
    exact ⟨l, k, xs, rfl, rfl, e3 _ _ hl, by omega, by omega, by
      have hxl := dp_len hx
      have h1 : xs.length * k.toNat ≤ 1000 * 1000 := Nat.mul_le_mul (by omega) (by omega)
      have := sizeLine_eq
      omega, fun z hz => q _ _ ((e2.trans e3).trans (Ex.new hz)) ⟨z, _, rfl, upd_same, dpa_flat (dpax hx (e3.trans (Ex.new hz))) _⟩⟩
theorem ls_list {ds : List PyData} (h : Ep te σ H fun v H' => Dp K H' v (.list ds)) : Ep (tCB (fun xs H Q => ∃ p ys, xs = [V.ref p] ∧ (SqL K H p ys ∨ SqT K H p ys) ∧ ∀ l, H l = none → Q (.ref l) (upd H l (.lst ys))) (tCons te tNil)) σ H (LsDp K ds) := fun H1 e Q q =>
  h H1 e _ fun v H2 e2 hv => by
    cases hv with
    | lst hs ha => exact ⟨_, _, rfl, .inl hs, fun l hl => q _ _ (e2.trans (Ex.new hl)) ⟨l, _, rfl, upd_same, dpax ha (Ex.new hl)⟩⟩
theorem ep_tuple {ds : List PyData} (h : Ep te σ H fun v H' => Dp K H' v (.list ds)) : Ep (tCB (fun xs H Q => ∃ p ys, xs = [V.ref p] ∧ ((SqL K H p ys ∧ ∀ l, H l = none → Q (.ref l) (upd H l (.tup ys))) ∨ (SqT K H p ys ∧ Q (.ref p) H))) (tCons te tNil)) σ H fun v H' => Dp K H' v (.tuple ds) := fun H1 e Q q =>
  h H1 e _ fun v H2 e2 hv => by
    cases hv with
    | lst hs ha => exact ⟨_, _, rfl, .inl ⟨hs, fun l hl => q _ _ (e2.trans (Ex.new hl)) (.tup (st_of upd_same) (dpax ha (Ex.new hl)))⟩⟩
theorem th_ls {ds : List PyData} (h : Ep te σ H (LsDp K ds)) (hs : smD ds) (hb : picB (.list ds) = false) : EpTh K te σ H := h.imp fun _ _ k => th_list k.dp hs hb
theorem evp_copiedP {p : Pic} (h : Ep t1 σ H fun v H' => Dp K H' v (picD p)) (hz : p.length ≤ 40000) : EvP (tCall (spCopied K) [] E (tCons t1 tNil)) σ H p := fun H1 e Q q =>
  h H1 e _ fun v H2 e2 hv => ⟨v, p, rfl, hv, hz, fun r H3 e3 n3 => q r H3 (e2.trans e3) (n3.ex e2 (Ex.refl _))⟩
end
/-! ### the sizes and faults -/
theorem smD_one {d : PyData} (h : lenD d ≤ 100) : smD [d] := ⟨by simp, fun e he => by rw [List.mem_singleton.mp he]; exact h⟩
theorem smD_app {ds es : List PyData} (h1 : smD ds) (h2 : smD es) (h : ds.length + es.length ≤ 100) : smD (ds ++ es) := ⟨by rw [List.length_append]; exact h, fun e he => by
  rcases List.mem_append.mp he with he | he
  · exact h1.2 e he
  · exact h2.2 e he⟩
theorem smD_rows {p : Pic} (h : p.length ≤ 50) (hr : ∀ r ∈ p, r.length ≤ 100) : smD (p.map rowD) := ⟨by rw [List.length_map]; omega, fun e he => by
  obtain ⟨r, h1, rfl⟩ := List.mem_map.mp he
  show (r.map PyData.int).length ≤ 100
  rw [List.length_map]
  exact hr r h1⟩
theorem smD_sub {ds es : List PyData} (h : smD ds) (hs : es.Sublist ds) : smD es := ⟨Nat.le_trans hs.length_le h.1, fun e he => h.2 e (hs.subset he)⟩
section
variable {P : Program} {w : World} {K : PySem.W.Frag} {mg : Str → Option Value} {base : Heap} {a : Ad}
def spNoPic (K : PySem.W.Frag) : Sp := fun vs H Q _ => ∃ (q : Addr) (ts : List Addr) (p : Pic) (odd : V) (d : PyData) (n : Int), vs = [.ref q, odd, .int n] ∧ PicL H q ts p ∧ Good p ∧ Dp K H odd d ∧ cellB d = false ∧ 0 ≤ n ∧ ∀ v H', Ex H H' → ThP K H' v false → Q v H'
theorem ok_lw_no_picture (T : Txt K mg a) (D : DefAt K mg "_law_no_picture" s_lw_no_picture) (c_lw_copied : Cal P w K mg base CX0 1 "_law_copied" ["_law_rows"] (spCopied K)) : Cal P w K mg base CX0 2 "_law_no_picture" ["_law_rows", "_law_odd", "_law_number"] (spNoPic K) := by
  refine cal_of D bd_lw_no_picture sc_lw_no_picture (fun vs H Q E h => ?_) (fun f cdv A outer s H vs Q E hr h => ?_)
  · obtain ⟨q, ts, p, odd, d, n, rfl, _⟩ := h
    rfl
  · obtain ⟨q, ts, p, odd, d, n, rfl, hp, hg, hd, hdc, hn, q0⟩ := h
    have hhi := hg.high
    have hlt := hp.len
    obtain ⟨wd, hw1, hw2, hw⟩ := hg.wide
    refine ⟨_, (pss_cons (ps_set (i := 3) sc_lw_no_picture.nd rfl (by first | exact Or.inl rfl | exact Or.inr rfl) (pe_op op_mod (pe_op op_fdiv (pv 2) pe_int) (pe_callB (id := "len") (call_lenK K) (by rfl) T.b_len (by decide +kernel) (pa_cons (pv 0) pa_nil))))
      (pss_cons (ps_set (i := 4) sc_lw_no_picture.nd rfl (by first | exact Or.inl rfl | exact Or.inr rfl) (pe_op op_mod (pe_op op_fdiv (pv 2) pe_int) (pe_op op_add (pe_callB (id := "len") (call_lenK K) (by rfl) T.b_len (by decide +kernel) (pa_cons (pe_ix (ix_listK K) (pv 0) (pv 3) (fun _ _ => rfl)) pa_nil)) pe_int)))
      (pss_cons (ps_set (i := 5) sc_lw_no_picture.nd rfl (by first | exact Or.inl rfl | exact Or.inr rfl) (pf_c c_lw_copied hr (by rfl) pass0 (pa_cons (pv 0) pa_nil)))
      (pss_cons (ps_asg (pe_op op_cat (pe_op op_cat (pe_slice (sl_listK K) (pe_ix (ix_listK K) (pv 5) (pv 3) (fun _ _ => rfl)) po_none (po_some (pv 4))) (pe_lst (pa_cons (pv 1) pa_nil))) (pe_slice (sl_listK K) (pe_ix (ix_listK K) (pv 5) (pv 3) (fun _ _ => rfl)) (po_some (pe_op op_add (pv 4) pe_int)) po_none)) (pg_sub (pv 5) (pv 3) set_list))
      (pss_cons (ps_set (i := 6) sc_lw_no_picture.nd rfl (by first | exact Or.inl rfl | exact Or.inr rfl) (pf_c c_lw_copied hr (by rfl) pass0 (pa_cons (pv 0) pa_nil)))
      (pss_cons (ps_expr (pe_bmK K PySem.F.plainAttrs_list PySem.F.slot_list_append PySem.F.type_list_append mt_append (pe_ix (ix_listK K) (pv 6) (pv 3) (fun _ _ => rfl)) (pa_cons (pe_ix (ix_listK K) (pe_ix (ix_listK K) (pv 0) pe_int (fun _ _ => rfl)) pe_int (fun _ _ => rfl)) pa_nil)))
      (pss_cons (ps_set (i := 7) sc_lw_no_picture.nd rfl (by first | exact Or.inl rfl | exact Or.inr rfl) (pe_lst (pa_cons (pv 5) (pa_cons (pv 5) (pa_cons (pv 5) (pa_cons (pe_op op_cat (pv 6) (pe_slice (sl_listK K) (pf_c c_lw_copied hr (by rfl) pass0 (pa_cons (pv 0) pa_nil)) po_none (po_some pe_int))) (pa_cons (pe_lst pa_nil) (pa_cons pe_non (pa_cons (pe_callTy (T := "tuple") (call_tupleK K) (by rfl) T.b_tuple (by decide +kernel) (pa_cons (pv 0) pa_nil)) (pa_cons (pe_lst (pa_cons (pe_tup pa_nil) pa_nil)) (pa_cons (pe_lst (pa_cons (pe_lst pa_nil) pa_nil)) (pa_cons (pe_ix (ix_listK K) (pv 0) pe_int (fun _ _ => rfl)) (pa_cons pe_dnewK pa_nil)))))))))))))
      (pss_cons (ps_set (i := 7) sc_lw_no_picture.nd rfl (by first | exact Or.inl rfl | exact Or.inr rfl) (pe_op op_cat (pv 7) (pe_lst (pa_cons (pe_op op_rep (pf_c c_lw_copied hr (by rfl) pass0 (pa_cons (pe_slice (sl_listK K) (pv 0) po_none (po_some pe_int)) pa_nil)) pe_int) (pa_cons (pe_lst (pa_cons (pe_op op_rep (pe_callTy (T := "list") (call_listK K) (by rfl) T.b_list (by decide +kernel) (pa_cons (pe_slice (sl_listK K) (pe_ix (ix_listK K) (pv 0) pe_int (fun _ _ => rfl)) po_none (po_some pe_int)) pa_nil)) pe_int) pa_nil)) (pa_cons (pe_op op_cat (pe_op op_cat (pe_slice (sl_listK K) (pv 5) po_none (po_some (pv 3))) (pe_lst (pa_cons (pe_callTy (T := "tuple") (call_tupleK K) (by rfl) T.b_tuple (by decide +kernel) (pa_cons (pe_ix (ix_listK K) (pv 0) (pv 3) (fun _ _ => rfl)) pa_nil)) pa_nil))) (pe_slice (sl_listK K) (pv 5) (po_some (pe_op op_add (pv 3) pe_int)) po_none)) pa_nil))))))
      (pss_one (ps_ret (pe_ix (ix_listK K) (pv 7) (pe_op op_mod (pv 2) pe_int) (fun _ _ => rfl)))))))))))), ?_⟩
    have htl : (ts.map V.ref).length = p.length := by rw [List.length_map, hlt]
    refine q_asg (ev_op (ev_op (ev_var rfl) ev_c (rv_div (by decide))) (ev_at (ev_lenA (ev_var rfl) (.inl (sq_of hp.lst))) (by rw [htl])) (rv_mod (by omega))) fun H1 e1 => ?_
    have hyr := mod_rng (n / 16) (m := ((p.length : Nat) : Int)) (by omega)
    generalize n / 16 % ((p.length : Nat) : Int) = y at hyr
    obtain ⟨Y, rfl⟩ : ∃ Y : Nat, y = ((Y : Nat) : Int) := ⟨y.toNat, by omega⟩
    have hY : Y < p.length := by omega
    obtain ⟨row, hrow⟩ : ∃ row, p[Y]? = some row := ⟨_, List.getElem?_eq_getElem hY⟩
    obtain ⟨t, ht⟩ : ∃ t, ts[Y]? = some t := ⟨_, List.getElem?_eq_getElem (by omega)⟩
    obtain ⟨row0, hrow0⟩ : ∃ row0, p[0]? = some row0 := ⟨_, List.getElem?_eq_getElem (by omega)⟩
    obtain ⟨t0, ht0⟩ : ∃ t0, ts[0]? = some t0 := ⟨_, List.getElem?_eq_getElem (by omega)⟩
    have hrm := List.mem_of_getElem? hrow
    have hrm0 := List.mem_of_getElem? hrow0
    have hrl := hw row hrm
    have hrl0 := hw row0 hrm0
    have htr := hp.at_ Y t row ht hrow
    have htr0 := hp.at_ 0 t0 row0 ht0 hrow0
    have hevY : ∀ {σ : L2.St} {H' : Hp}, Ev (tVar 0) σ H' (.ref q) → Ev (tVar 3) σ H' (.int ((Y : Nat) : Int)) → Ex H H' → Ev (tOp (rIxL K) (tVar 0) (tVar 3)) σ H' (.ref t) := fun h1 h2 he => ev_op h1 h2 (rv_ixL (sq_of (he _ _ hp.lst)) (atI_nat (by rw [List.getElem?_map, ht]; rfl)))
    have hev0 : ∀ {σ : L2.St} {H' : Hp}, Ev (tVar 0) σ H' (.ref q) → Ex H H' → Ev (tOp (rIxL K) (tVar 0) (tC (.int 0))) σ H' (.ref t0) := fun h1 he => ev_op h1 ev_c (rv_ixL (sq_of (he _ _ hp.lst)) (atI_nat (j := 0) (by rw [List.getElem?_map, ht0]; rfl)))
    refine q_asg (ev_op (ev_op (ev_var rfl) ev_c (rv_div (by decide))) (ev_op (ev_at (ev_lenA (hevY (ev_var rfl) (ev_var rfl) e1) (.inl (sq_of (e1 _ _ htr)))) (by rw [row_len])) ev_c rv_I0) (rv_mod (by omega))) fun H2 e2 => ?_
    have hxr := mod_rng (n / 512) (m := ((row.length : Nat) : Int) + 1) (by omega)
    generalize n / 512 % (((row.length : Nat) : Int) + 1) = x at hxr
    obtain ⟨X, rfl⟩ : ∃ X : Nat, x = ((X : Nat) : Int) := ⟨x.toNat, by omega⟩
    have e02 := e1.trans e2
    refine q_setPic (rows := p) (evp_copied (ev_var rfl) (hp.ex e02).dp (by omega)) fun sq H3 e3 n3 => ?_
    obtain ⟨sts, ks⟩ := n3.2
    have hs := kids_pic ks
    obtain ⟨st, hst⟩ : ∃ t, sts[Y]? = some t := ⟨_, List.getElem?_eq_getElem (by have := hs.len; omega)⟩
    have hstr := hs.at_ Y st row hst hrow
    have e03 := e02.trans e3
    have hevS : ∀ {σ : L2.St} {H' : Hp}, Ev (tVar 5) σ H' (.ref sq) → Ev (tVar 3) σ H' (.int ((Y : Nat) : Int)) → Ex H3 H' → Ev (tOp (rIxL K) (tVar 5) (tVar 3)) σ H' (.ref st) := fun h1 h2 he => ev_op h1 h2 (rv_ixL (sq_of (he _ _ hs.lst)) (atI_nat (by rw [List.getElem?_map, hst]; rfl)))
    refine q_setNew (xs := sts.map V.ref) (ys := (rowV row).take X ++ [odd] ++ (rowV row).drop (X + 1)) (j := Y) hs.lst (el_cat (el_cat (fun H4 e4 Q qq => ?_) (fun H4 e4 => el_lst (ea_cons (ev_var rfl) ea_nil) (show 1 ≤ 100000 by decide)) ?_) (fun H4 e4 H5 e5 Q qq => ?_) ?_) (ev_var rfl) (ev_var rfl) (by have := hs.len; rw [List.length_map]; omega) fun r H4 hr e4 hr4 => ?_
    · refine (el_sl (hevS (ev_var rfl) (ev_var rfl) (Ex.refl _)) eo_none (eo_some (ev_var rfl)) (sq_of hstr)) H4 e4 Q ?_
      rw [cut_to]
      exact qq
    · have h1 := List.length_take_le X (rowV row)
      have h2 := row_len row
      simp only [List.length_singleton]
      rw [List.length_take]
      omega
    · refine (el_sl (hevS (ev_var rfl) (ev_var rfl) e4) (eo_some (i := ((X : Nat) : Int) + 1) (ev_op (ev_var rfl) ev_c rv_I0)) eo_none (sq_of (e4 _ _ hstr))) H5 e5 Q ?_
      rw [cut_drop _ (by omega), show (((X : Nat) : Int) + 1).toNat = X + 1 by omega]
      exact qq
    · have h2 := row_len row
      rw [List.length_append, List.length_take, List.length_drop, List.length_singleton]
      omega
    · -- the spoilt picture
      have hsqr : sq ≠ r := fun e => by
        have := hs.lst
        rw [e, hr] at this
        cases this
      have e05 : Ex H (upd H4 sq (.lst ((sts.map V.ref).set Y (.ref r)))) := Ex.mut (e03.trans e4) (fresh_back e02 n3.1)
      have hsA : DpAll K (upd H4 sq (.lst ((sts.map V.ref).set Y (.ref r)))) ((sts.map V.ref).set Y (.ref r)) ((p.map rowD).set Y (.list ((row.take X).map .int ++ [d] ++ (row.drop (X + 1)).map .int))) := by
        refine dpa_set (.lst (sq_of (by rw [upd_ne (Ne.symm hsqr)]; exact hr4)) ?_) (dpa_rows hs.len fun i t r h1 h2 => ?_) Y
        · refine dpa_app (dpa_app ?_ (.cons (dpx hd e05) .nil)) ?_
          · rw [rowV, ← List.map_take]
            exact dpa_ints _
          · rw [rowV, ← List.map_drop]
            exact dpa_ints _
        · have hne : t ≠ sq := fun e => ks.out (e ▸ List.mem_of_getElem? h1)
          rw [upd_ne hne]
          exact e4 _ _ (hs.at_ i t r h1 h2)
      have hsq5 : (upd H4 sq (.lst ((sts.map V.ref).set Y (.ref r)))) sq = some (.lst ((sts.map V.ref).set Y (.ref r))) := upd_same
      generalize upd H4 sq (.lst ((sts.map V.ref).set Y (.ref r))) = H5 at e05 hsA hsq5
      have hod : ((row.take X).map PyData.int ++ [d] ++ (row.drop (X + 1)).map PyData.int).length ≤ 100 := by
        rw [List.length_append, List.length_append, List.length_map, List.length_map, List.length_take, List.length_drop, List.length_singleton]
        omega
      have hodb : cellsB (.list ((row.take X).map PyData.int ++ [d] ++ (row.drop (X + 1)).map PyData.int)) = false := by
        show List.all _ cellB = false
        rw [List.all_eq_false]
        exact ⟨d, by simp, by rw [hdc]; decide⟩
      have hodl : lenD (.list ((row.take X).map PyData.int ++ [d] ++ (row.drop (X + 1)).map PyData.int)) ≤ 100 := hod
      generalize PyData.list ((row.take X).map .int ++ [d] ++ (row.drop (X + 1)).map .int) = od at hsA hodb hodl
      have hsp : LsDp K ((p.map rowD).set Y od) (.ref sq) H5 := ⟨sq, _, rfl, hsq5, hsA⟩
      have hsmP : smD (p.map rowD) := smD_rows (by omega) fun r hr => by have := hg.row hr; omega
      have hAm : ∀ e ∈ (p.map rowD).set Y od, lenD e ≤ 100 := fun e he => by
        rcases List.mem_or_eq_of_mem_set he with h | h
        · exact hsmP.2 e h
        · rw [h]
          exact hodl
      have hAs : smD ((p.map rowD).set Y od) := ⟨by rw [List.length_set]; exact hsmP.1, hAm⟩
      have hAin : od ∈ (p.map rowD).set Y od := List.mem_iff_getElem?.mpr ⟨Y, by rw [List.getElem?_set_self (by rw [List.length_map]; exact hY)]⟩
      -- the longer picture
      refine q_setPic (rows := p) (evp_copied (ev_var rfl) (hp.ex e05).dp (by omega)) fun lq H6 e6 n6 => ?_
      obtain ⟨lts, kl⟩ := n6.2
      have hl := kids_pic kl
      obtain ⟨lt, hlt2⟩ : ∃ t, lts[Y]? = some t := ⟨_, List.getElem?_eq_getElem (by have := hl.len; omega)⟩
      have hltr := hl.at_ Y lt row hlt2 hrow
      have hlnew := kl.new lt (List.mem_of_getElem? hlt2)
      have e06 := e05.trans e6
      obtain ⟨c0, hc0⟩ : ∃ c0, row0[0]? = some c0 := ⟨_, List.getElem?_eq_getElem (by omega)⟩
      refine q_app (xs := rowV row) (v := .int c0) hltr (ev_op (ev_var rfl) (ev_var rfl) (rv_ixL (sq_of hl.lst) (atI_nat (by rw [List.getElem?_map, hlt2]; rfl)))) (ev_op (hev0 (ev_var rfl) e06) ev_c (ixl_int (sq_of (e06 _ _ htr0)) (by decide) hc0)) (by rw [row_len]; omega) fun H7 e7 => ?_
      have e08 : Ex H5 (upd H7 lt (.lst (rowV row ++ [.int c0]))) := Ex.mut (e6.trans e7) hlnew
      have hlL : PicL (upd H7 lt (.lst (rowV row ++ [.int c0]))) lq lts (p.set Y (row ++ [c0])) := by
        refine ⟨?_, by rw [List.length_set]; exact hl.len, fun i t' r' h1 h2 => ?_⟩
        · have hne : lq ≠ lt := fun e => kl.out (by
            rw [e]
            exact List.mem_of_getElem? hlt2)
          rw [upd_ne hne]
          exact e7 _ _ hl.lst
        · by_cases ei : i = Y
          · subst ei
            rw [hlt2] at h1
            cases h1
            rw [List.getElem?_set_self hY] at h2
            cases h2
            rw [upd_same]
            simp [rowV]
          · rw [List.getElem?_set_ne (Ne.symm ei)] at h2
            have hne : t' ≠ lt := fun e => ei (by
              subst e
              exact (List.getElem?_inj (by have := (List.getElem?_eq_some_iff.mp h1).1; omega) kl.nd).mp (h1.trans hlt2.symm))
            rw [upd_ne hne]
            exact e7 _ _ (hl.at_ i t' r' h1 h2)
      generalize upd H7 lt (.lst (rowV row ++ [.int c0])) = H8 at e08 hlL
      have e0 : Ex H H8 := e05.trans e08
      have hp8 := hp.ex e0
      have hsp8 := hsp.ex e08
      have hlo : LsDp K ((p.set Y (row ++ [c0])).map rowD) (.ref lq) H8 := ⟨lq, _, rfl, hlL.lst, hlL.rows⟩
      have hthS : ThP K H8 (.ref sq) false := th_list hsp8.dp hAs (pic_bad ⟨od, hAin, hodb⟩)
      have hrows8 : ∀ {σ : L2.St} {H' : Hp}, Ev (tVar 0) σ H' (.ref q) → Ex H8 H' → Ep (tVar 0) σ H' fun v H'' => Dp K H'' v (.list (p.map rowD)) := fun h he => ep_dp h (hp8.ex he).dp
      have hr0 : Dp K H8 (.ref t0) (rowD row0) := dp_row (sq_of (e0 _ _ htr0))
      have hst1 : ((p.map rowD).take (1 : Int).toNat).length ≤ 1 := List.length_take_le _ _
      have hsub1 : ((p.map rowD).take (1 : Int).toNat).Sublist (p.map rowD) := List.take_sublist _ _
      have hcop : ∀ {σ : L2.St} {H' : Hp}, Ev (tVar 0) σ H' (.ref q) → Ex H8 H' → Ep (tCall (spCopied K) [] E0 (tCons (tVar 0) tNil)) σ H' fun v H'' => Dp K H'' v (.list (p.map rowD)) := fun h he => ep_pic (evp_copied h (hp8.ex he).dp (by omega))
      have eTk : (p.map rowD).take (1 : Int).toNat = [rowD row0] := by
        show (p.map rowD).take 1 = _
        cases p with
        | nil => simp at hrow0
        | cons z l =>
          simp at hrow0
          rw [hrow0]
          rfl
      refine q_set (i := 7) (P := LsTh K H8 11) (lsth_lst (eath_cons (th_ev (ev_var rfl) hthS) (eath_cons (th_ev (ev_var rfl) hthS) (eath_cons (th_ev (ev_var rfl) hthS) (eath_cons ?_ (eath_cons ?_ (eath_cons (th_ev ev_c (th_other .non rfl)) (eath_cons ?_ (eath_cons ?_ (eath_cons ?_ (eath_cons ?_ (eath_cons ?_ eath_nil))))))))))) (by decide)) fun v1 H9 e9 h9 => ?_
      · refine th_ls (ls_cat (ls_var (ev_var rfl) hlo) (fun H9 e9 => ls_to (i := 1) (hcop (ev_var rfl) e9) (fun H10 e10 => eo_some ev_c) (by decide)) ?_) (smD_app (smD_rows (by rw [List.length_set]; omega) fun r hr => ?_) (smD_sub hsmP hsub1) ?_) (pic_lens ?_)
        · rw [List.length_map, List.length_set]
          omega
        · rcases List.mem_or_eq_of_mem_set hr with h | h
          · have := hg.row h
            omega
          · rw [h, List.length_append, List.length_singleton]
            omega
        · rw [List.length_map, List.length_set]
          omega
        · rw [eTk]
          have m1 : rowD row0 ∈ (p.set Y (row ++ [c0])).map rowD ++ [rowD row0] := by simp
          have m2 : rowD (row ++ [c0]) ∈ (p.set Y (row ++ [c0])).map rowD ++ [rowD row0] := List.mem_append_left _ (List.mem_map_of_mem (List.mem_iff_getElem?.mpr ⟨Y, by rw [List.getElem?_set_self hY]⟩))
          have l1 : lenD (rowD row0) = wd := by
            show (row0.map PyData.int).length = wd
            rw [List.length_map, hrl0]
          have l2 : lenD (rowD (row ++ [c0])) = wd + 1 := by
            show ((row ++ [c0]).map PyData.int).length = wd + 1
            rw [List.length_map, List.length_append, hrl]
            rfl
          by_cases c : lenD (headD ((p.set Y (row ++ [c0])).map rowD ++ [rowD row0])) = wd
          · exact ⟨_, m2, by omega⟩
          · exact ⟨_, m1, by omega⟩
      · exact th_ls ls_nil ⟨by decide, fun _ h => nomatch h⟩ pic_nil
      · exact (ep_tuple (hrows8 (ev_var rfl) (Ex.refl _))).imp fun v H' k => th_other k rfl
      · exact th_ls (ls_one (d := .tuple []) (fun H9 e9 Q qq => (show EvU (tTup tNil) _ H9 [] from eu_tup ea_nil (by decide)) H9 (Ex.refl _) _ fun z H10 hz e10 h10 => qq _ H10 e10 (.tup (st_of h10) .nil))) (smD_one (by decide)) (pic_bad ⟨_, List.mem_singleton_self _, rfl⟩)
      · exact th_ls (ls_one (ls_dp ls_nil)) (smD_one (by decide)) (pic_head (by decide))
      · refine th_ev (hev0 (ev_var rfl) e0) (th_list (ds := row0.map PyData.int) hr0 ⟨by rw [List.length_map]; omega, fun e he => ?_⟩ (pic_bad ⟨.int c0, List.mem_map_of_mem (List.mem_of_getElem? hc0), rfl⟩))
        obtain ⟨i, _, rfl⟩ := List.mem_map.mp he
        exact Nat.zero_le _
      · exact fun H9 e9 Q qq => fun z hz => qq _ _ (Ex.new hz) (.inr ⟨z, rfl, upd_same, rfl⟩)
      have e89 := e0.trans e9
      refine q_set (i := 7) (P := LsTh K H8 (11 + 3)) (lsth_cat (K := K) (H0 := H8) (n := 11) (m := 3) (fun H10 e10 Q qq => (ev_var rfl : Ev (tVar 7) _ H9 v1) H10 e10 _ fun H11 e11 => qq _ H11 e11 (lsth_ex h9 (e10.trans e11))) (fun H10 e10 => (lsth_lst (eath_cons ?_ (eath_cons ?_ (eath_cons ?_ eath_nil))) (by decide)).imp fun _ _ k => k) (by decide)) fun v2 H10 e10 h10 => ?_
      · have hpt : picD (p.take 1) = .list ((p.map rowD).take (1 : Int).toNat) := by
          show PyData.list ((p.take 1).map rowD) = .list ((p.map rowD).take 1)
          rw [List.map_take]
        refine th_ls (ls_rep (k := 25) (ls_pic (evp_copiedP (p := p.take 1) (by
          rw [hpt]
          exact ls_dp (ls_to (i := 1) (hrows8 (ev_var rfl) (e9.trans e10)) (fun H10 e10 => eo_some ev_c) (by decide))) (by rw [List.length_take]; omega))) (fun H11 e11 => ev_c) (by decide) (by rw [List.length_map, List.length_take]; omega)) ?_ (pic_long ?_)
        · have e1 : (p.take 1).map rowD = [rowD row0] := by
            rw [List.map_take]
            exact eTk
          rw [e1]
          refine ⟨show 25 ≤ 100 by decide, fun e he => ?_⟩
          have : e = rowD row0 := by
            obtain ⟨l, hl1, hl2⟩ := List.mem_flatten.mp he
            rw [List.eq_of_mem_replicate hl1] at hl2
            exact List.mem_singleton.mp hl2
          rw [this]
          show (row0.map PyData.int).length ≤ 100
          rw [List.length_map]
          omega
        · have e1 : (p.take 1).map rowD = [rowD row0] := by
            rw [List.map_take]
            exact eTk
          rw [e1]
          show 24 < 25
          decide
      · have e1 : ((row0.map PyData.int).take (1 : Int).toNat) = [.int c0] := by
          show (row0.map PyData.int).take 1 = _
          cases row0 with
          | nil => simp at hc0
          | cons z l =>
            simp at hc0
            rw [hc0]
            rfl
        have k := ls_rep (K := K) (k := 25) (tb := tC (.int 25)) (ls_list (ls_dp (ls_to (K := K) (te := tOp (rIxL K) (tVar 0) (tC (.int 0))) (thi := tPart (tC (.int 1))) (H := H10) (ds := row0.map PyData.int) (σ := [some (.ref q), some odd, some (.int n), some (.int ((Y : Nat) : Int)), some (.int ((X : Nat) : Int)), some (.ref sq), some (.ref lq), some v1]) (i := 1) (ep_dp (hev0 (ev_var rfl) (e89.trans e10)) (dpx hr0 (e9.trans e10))) (fun H11 e11 => eo_some ev_c) (by decide)))) (fun H11 e11 => ev_c) (by decide) (Nat.le_trans (List.length_take_le _ _) (by decide))
        rw [e1] at k
        exact th_ls (ls_one (ls_dp k)) (smD_one (show 25 ≤ 100 by decide)) (pic_head (show ¬ (1 ≤ 25 ∧ 25 ≤ 24) by decide))
      · have hsS := hsp8.ex (e9.trans e10)
        have k := ls_cat (K := K) (ls_cat (ls_to (te := tVar 5) (thi := tPart (tVar 3)) (H := H10) (σ := [some (.ref q), some odd, some (.int n), some (.int ((Y : Nat) : Int)), some (.int ((X : Nat) : Int)), some (.ref sq), some (.ref lq), some v1]) (i := ((Y : Nat) : Int)) (ls_dp (ls_var (ev_var rfl) hsS)) (fun H11 e11 => eo_some (ev_var rfl)) (by omega))
          (fun H11 e11 => ls_one (ep_tuple (te := tOp (rIxL K) (tVar 0) (tVar 3)) (ep_dp (d := rowD row) (hevY (ev_var rfl) (ev_var rfl) (e89.trans (e10.trans e11))) (dp_row (sq_of ((e89.trans (e10.trans e11)) _ _ htr)))))) (by have := hAs.1; rw [List.length_take, List.length_singleton]; omega))
          (fun H11 e11 => ls_from (te := tVar 5) (tlo := tPart (tOp (rI0 fun i j => .int (i + j)) (tVar 3) (tC (.int 1)))) (i := ((Y : Nat) : Int) + 1) (ls_dp (ls_var (ev_var rfl) (hsS.ex e11))) (fun H12 e12 => eo_some (ev_op (ev_var rfl) ev_c rv_I0)) (by omega)) (by have := hAs.1; rw [List.length_append, List.length_take, List.length_drop, List.length_singleton]; omega)
        refine th_ls k (smD_app (smD_app (smD_sub hAs (List.take_sublist _ _)) (smD_one ?_) ?_) (smD_sub hAs (List.drop_sublist _ _)) ?_) (pic_bad ⟨.tuple (row.map PyData.int), by simp, rfl⟩)
        · show (row.map PyData.int).length ≤ 100
          rw [List.length_map]
          omega
        · have h1 := hAs.1
          rw [List.length_set, List.length_map] at h1
          rw [List.length_take, List.length_set, List.length_map, List.length_singleton]
          omega
        · rw [List.length_append, List.length_take, List.length_drop, List.length_set, List.length_map, List.length_singleton]
          omega
      · obtain ⟨l2, vs, rfl, hl2, hvl, hvs⟩ := h10
        have hm := mod_rng n (m := 14) (by decide)
        have hlt14 : (n % 14).toNat < vs.length := by omega
        refine s_ret (v := vs[(n % 14).toNat]) (ev_op (ev_var rfl) (ev_op (ev_var rfl) ev_c (rv_mod (by decide))) (rv_ixL (sq_of hl2) ?_)) fun H11 e11 => q0 _ H11 (e89.trans (e10.trans e11)) (thp_ex (hvs _ (List.getElem_mem hlt14)) e11)
        have e14 : n % 14 = (((n % 14).toNat : Nat) : Int) := by omega
        have k := atI_nat (List.getElem?_eq_getElem hlt14)
        rw [← e14] at k
        exact k
end
end C19
set_option Elab.async false
set_option linter.all false
set_option maxRecDepth 100000
set_option maxHeartbeats 4000000
namespace C19
open PySem PySem.Spec PyProof.Rows L2 Evl
/-! ### a heap without some places -/
def remL (H : Hp) (L : List Addr) : Hp := fun a => if a ∈ L then none else H a
theorem remL_none {H : Hp} {L : List Addr} {a : Addr} (h : a ∈ L) : remL H L a = none := if_pos h
theorem remL_at {H : Hp} {L : List Addr} {a : Addr} {o : HO} (h : H a = some o) (hn : a ∉ L) : remL H L a = some o := by
  unfold remL
  rw [if_neg hn]
  exact h
theorem remL_ex (H : Hp) (L : List Addr) : Ex (remL H L) H := fun a o h => by
  unfold remL at h
  by_cases c : a ∈ L
  · rw [if_pos c] at h
    cases h
  · rw [if_neg c] at h
    exact h
theorem ex_remL {H0 H : Hp} {L : List Addr} (e : Ex H0 H) (h : ∀ a ∈ L, H0 a = none) : Ex H0 (remL H L) := fun a o ho => remL_at (e a o ho) fun hm => by
  rw [h a hm] at ho
  cases ho
theorem atI_last {α : Type} (xs : List α) (y : α) : atI (xs ++ [y]) (-1) = some y := by
  unfold atI ixN
  rw [if_neg (by decide), if_pos (by rw [List.length_append, List.length_singleton]; omega)]
  show (xs ++ [y])[((-1 : Int) + ((xs ++ [y]).length : Nat)).toNat]? = some y
  rw [List.length_append, List.length_singleton, show ((-1 : Int) + ((xs.length + 1 : Nat) : Int)).toNat = xs.length by omega]
  simp
section
variable {K : PySem.W.Frag} {a : Ad} {H H' : Hp}
/-! ### a palette and the list told of it; the fresh colours -/
structure Side (K : PySem.W.Frag) (a : Ad) (H : Hp) (pq pl own : Addr) (cs : List Col) : Prop where
  pal : ∃ dx xs, PalX a.pal H pq dx pl xs ∧ DpAll K H xs (cs.map colD)
  own : ∃ ys, H own = some (.lst ys) ∧ DpAll K H ys (cs.map colD)
theorem Side.ex {pq pl own : Addr} {cs : List Col} (s : Side K a H pq pl own cs) (e : Ex H H') : Side K a H' pq pl own cs := by
  obtain ⟨⟨dx, xs, h1, h2⟩, ys, h3, h4⟩ := s
  exact ⟨⟨dx, xs, h1.ex e, dpax h2 e⟩, ys, e _ _ h3, dpax h4 e⟩
theorem Side.upd {pq pl own l : Addr} {cs : List Col} {zs zs' : List V} (s : Side K a H pq pl own cs) (hl : H l = some (.lst zs)) (n1 : pl ≠ l) (n2 : own ≠ l) : Side K a (L2.upd H l (.lst zs')) pq pl own cs := by
  obtain ⟨⟨dx, xs, h1, h2⟩, ys, h3, h4⟩ := s
  have n0 : pq ≠ l := fun e => by
    have := h1.ins
    rw [e, hl] at this
    cases this
  exact ⟨⟨dx, xs, ⟨by rw [upd_ne n0]; exact h1.ins, by rw [upd_ne n1]; exact h1.lst⟩, dpa_col_upd hl h2⟩, ys, by rw [upd_ne n2]; exact h3, dpa_col_upd hl h4⟩
def FrP (K : PySem.W.Frag) (H : Hp) (F : Addr) (fcs : List Col) : Prop := ∃ zs, H F = some (.lst zs) ∧ DpAll K H zs (fcs.map colD)
theorem FrP.ex {F : Addr} {fcs : List Col} (s : FrP K H F fcs) (e : Ex H H') : FrP K H' F fcs := by
  obtain ⟨zs, h1, h2⟩ := s
  exact ⟨zs, e _ _ h1, dpax h2 e⟩
theorem FrP.upd {F l : Addr} {fcs : List Col} {zs zs' : List V} (s : FrP K H F fcs) (hl : H l = some (.lst zs)) (n : F ≠ l) : FrP K (L2.upd H l (.lst zs')) F fcs := by
  obtain ⟨ws, h1, h2⟩ := s
  exact ⟨ws, by rw [upd_ne n]; exact h1, dpa_col_upd hl h2⟩
theorem s_orRaw {σ : L2.St} {D : Ends} {ta tb : TE} {r : R2} {u : TT} {s1 : TS} (h : ta σ H fun x H1 => tb σ H1 fun y H2 => r x y H2 fun v H3 => ∃ k, v = .bl k ∧ (if k = true then (if true = true then s1 D σ H3 else D.nx σ H3) else u σ H3 fun c H4 => if c = true then s1 D σ H4 else D.nx σ H4)) :
    tIfS (tOr (tTest (tOp r ta tb)) u) s1 tNext D σ H := by
  refine (show ta σ H fun x H1 => tb σ H1 fun y H2 => r x y H2 fun v H3 => ∃ k, v = .bl k ∧ (fun c H4 => if c = true then (fun b H5 => if b = true then s1 D σ H5 else tNext D σ H5) true H4 else u σ H4 fun b H5 => if b = true then s1 D σ H5 else tNext D σ H5) k H3 from ?_)
  exact h
theorem meth_raw {σ : L2.St} {C : Addr} {m : Str} {ta te : TE} {sp : Sp} {E : XK} {p dx : Addr} {fs : List (Str × V)} {v : V} {Q : VK} (h1 : Ev ta σ H (.ref p)) (hp : H p = some (.ins C dx fs)) (hl : fs.lookup m = none) (ha : Ev te σ H v) (k : ∀ H1, Ex H H1 → sp [.ref p, v] H1 Q E) : tMeth C m sp [] E ta (tCons te tNil) σ H Q :=
  h1 H (Ex.refl _) _ fun H2 e2 => ⟨p, dx, fs, rfl, e2 _ _ hp, hl, ha H2 e2 _ fun H3 e3 => k H3 (e2.trans e3)⟩
/-- one turn: the palette and its list take a fresh colour, those beside stay -/
theorem beside_step {σ : L2.St} {D : Ends} {E1 E2 : XK} {Hg : Hp} {F pq pl own bq bl bo : Addr} {cs csB fcs : List Col} (e0 : Ex Hg H) (sP : Side K a H pq pl own cs) (sB : Side K a H bq bl bo csB) (hF : FrP K H F fcs) (hne : fcs ≠ []) (hv : ∀ c ∈ fcs, ValidC c ∧ c ∉ cs)
    (s7 : σ[7]? = some (some (.ref F))) (s10 : σ[10]? = some (some (.ref pq))) (s11 : σ[11]? = some (some (.ref own))) (s12 : σ[12]? = some (some (.ref bq))) (s13 : σ[13]? = some (some (.ref bo)))
    (g1 : Hg F = none) (g2 : Hg own = none) (g3 : Hg pl = none) (n1 : own ≠ F) (n2 : pl ≠ F) (n3 : pl ≠ own) (n4 : bl ≠ F) (n5 : bo ≠ F) (n6 : bl ≠ own) (n7 : bo ≠ own) (n8 : bl ≠ pl) (n9 : bo ≠ pl)
    (k : ∀ H' cs' fcs', Ex Hg H' → Side K a H' pq pl own cs' → Side K a H' bq bl bo csB → FrP K H' F fcs' → fcs.length ≤ fcs'.length + 1 → (∀ c ∈ fcs', c ∈ fcs) → D.nx σ H') :
    tIfS (tTest (tOp (rI0 fun i j => .bl (decide (i < j))) (tCB (fun vs H Q => ∃ p ys, vs = [V.ref p] ∧ (SqL K H p ys ∨ SqT K H p ys) ∧ Q (.int ys.length) H) (tCons (tVar 11) tNil)) (tC (.int 16))))
      (tSeq (tDrop (tBM K "list" rAppend (tVar 11) (tCons (tBM0 K "list" rPop (tVar 7)) tNil)))
        (tIfS (tOr (tTest (tOp rNe (tMeth a.pal "add_colour" (spAdd K a) [] E1 (tVar 10) (tCons (tOp (rIxL K) (tVar 11) (tUn (rU fun i => .int (-i)) (tC (.int 1)))) tNil)) (tOp (rI0 fun i j => .int (i - j)) (tCB (fun vs H Q => ∃ p ys, vs = [V.ref p] ∧ (SqL K H p ys ∨ SqT K H p ys) ∧ Q (.int ys.length) H) (tCons (tVar 11) tNil)) (tC (.int 1)))))
          (tTest (tOp (rNeD K) (tMeth a.pal "colours" (spCols a) [] E2 (tVar 12) tNil) (tVar 13)))) (tRet (tC (.bl false))) tNext)) tNext D σ H := by
  obtain ⟨⟨dx, xs, hp, hx⟩, ys, ho, hy⟩ := id sP
  have hxl := dp_len hx
  have hyl := dp_len hy
  rw [List.length_map] at hxl hyl
  refine s_when (b := decide (((ys.length : Nat) : Int) < 16)) (et_test (ev_op (ev_lenA (ev_var s11) (.inl (sq_of ho))) ev_c rv_I0)) (fun hb H1 e1 => ?_) (fun hb H1 e1 => k H1 cs fcs (e0.trans e1) (sP.ex e1) (sB.ex e1) (hF.ex e1) (by omega) fun _ h => h)
  have hlt := of_decide_eq_true hb
  have e01 := e0.trans e1
  obtain ⟨zs, hz1, hz2⟩ := hF.ex e1
  have hzl := dp_len hz2
  rw [List.length_map] at hzl
  have hpos : 0 < fcs.length := List.length_pos_iff.mpr hne
  obtain ⟨z, hz⟩ : ∃ z, zs[zs.length - 1]? = some z := ⟨_, List.getElem?_eq_getElem (by omega)⟩
  obtain ⟨c, hc, hzc⟩ := dpa_atG hz2 hz
  have hcm := List.mem_of_getElem? hc
  obtain ⟨hcv, hcn⟩ := hv c hcm
  have ho1 := e1 _ _ ho
  -- the pop, the append
  refine ⟨_, s11, Or.inl ⟨rfl, _, sq_of ho1⟩, _, s7, Or.inl ⟨rfl, _, sq_of hz1⟩, F, zs, z, rfl, rfl, hz1, hz, own, ys, z, rfl, rfl, by rw [upd_ne n1]; exact ho1, sz_lt (by omega), ?_⟩
  have e2 : Ex Hg (L2.upd (L2.upd H1 F (.lst zs.dropLast)) own (.lst (ys ++ [z]))) := Ex.mut (Ex.mut e01 g1) g2
  have hz1' : (L2.upd H1 F (.lst zs.dropLast)) own = some (.lst ys) := by
    rw [upd_ne n1]
    exact ho1
  have sB2 : Side K a (L2.upd (L2.upd H1 F (.lst zs.dropLast)) own (.lst (ys ++ [z]))) bq bl bo csB := ((sB.ex e1).upd hz1 n4 n5).upd hz1' n6 n7
  have hzc2 : Dp K (L2.upd (L2.upd H1 F (.lst zs.dropLast)) own (.lst (ys ++ [z]))) z (colD c) := dp_col_upd (dp_col_upd hzc hz1) hz1'
  have hx2 : DpAll K (L2.upd (L2.upd H1 F (.lst zs.dropLast)) own (.lst (ys ++ [z]))) xs (cs.map colD) := dpa_col_upd hz1' (dpa_col_upd hz1 (dpax hx e1))
  have hy2 : DpAll K (L2.upd (L2.upd H1 F (.lst zs.dropLast)) own (.lst (ys ++ [z]))) (ys ++ [z]) ((cs ++ [c]).map colD) := by
    rw [List.map_append]
    exact dpa_snoc hzc2 (dpa_col_upd hz1' (dpa_col_upd hz1 (dpax hy e1)))
  have hp1 := hp.ex e1
  have npF : pq ≠ F := fun e => by
    have := hp1.ins
    rw [e, hz1] at this
    cases this
  have npo : pq ≠ own := fun e => by
    have := hp1.ins
    rw [e, ho1] at this
    cases this
  have npl : pq ≠ pl := fun e => by
    have := hp1.ins
    rw [e, hp1.lst] at this
    cases this
  have hp2 : PalX a.pal (L2.upd (L2.upd H1 F (.lst zs.dropLast)) own (.lst (ys ++ [z]))) pq dx pl xs := ⟨by rw [upd_ne npo, upd_ne npF]; exact hp1.ins, by rw [upd_ne n3, upd_ne n2]; exact hp1.lst⟩
  have hF2 : FrP K (L2.upd (L2.upd H1 F (.lst zs.dropLast)) own (.lst (ys ++ [z]))) F fcs.dropLast := ⟨zs.dropLast, by rw [upd_ne (Ne.symm n1), upd_same], by
    refine dpa_col_upd hz1' (dpa_col_upd hz1 ?_)
    rw [List.dropLast_eq_take, List.dropLast_eq_take, hzl]
    have := dpa_takeG hz2 (fcs.length - 1)
    rw [← List.map_take] at this
    exact this⟩
  have ho2 : (L2.upd (L2.upd H1 F (.lst zs.dropLast)) own (.lst (ys ++ [z]))) own = some (.lst (ys ++ [z])) := upd_same
  generalize L2.upd (L2.upd H1 F (.lst zs.dropLast)) own (.lst (ys ++ [z])) = H2 at e2 sB2 hzc2 hx2 hy2 hp2 hF2 ho2
  -- the palette takes it
  refine s_orRaw (meth_raw (ev_var s10) hp2.ins rfl (ev_op (ev_var s11) (ev_un ev_c ru_neg) (rv_ixL (sq_of ho2) (atI_last ys z))) fun H4 e24 => ?_)
  refine ⟨pq, dx, pl, xs, cs, z, c, rfl, hp2.ex e24, dpax hx2 e24, dpx hzc2 e24, hcv, hcn, by omega, fun H5 e5 H6 e6 => ?_⟩
  have e25 := e24.trans e5
  have hpl5 := (hp2.ex e25).lst
  have sB6 := ((sB2.ex e25).upd hpl5 n8 n9 (zs' := xs ++ [z])).ex e6
  have hF6 := ((hF2.ex e25).upd hpl5 (Ne.symm n2) (zs' := xs ++ [z])).ex e6
  have e06 : Ex Hg H6 := (Ex.mut (e2.trans e25) g3).trans e6
  have ho6 : H6 own = some (.lst (ys ++ [z])) := e6 _ _ (by rw [upd_ne (Ne.symm n3)]; exact e25 _ _ ho2)
  have sP6 : Side K a H6 pq pl own (cs ++ [c]) := ⟨⟨dx, xs ++ [z], PalX.ex ⟨by rw [upd_ne npl]; exact (hp2.ex e25).ins, upd_same⟩ e6, by
    rw [List.map_append]
    exact dpax (dpa_snoc (dp_col_upd (dpx hzc2 e25) hpl5) (dpa_col_upd hpl5 (dpax hx2 e25))) e6⟩, ys ++ [z], ho6, dpax (dpa_col_upd hpl5 (dpax hy2 e25)) e6⟩
  refine (ev_op (ev_lenA (ev_var s11) (.inl (sq_of ho6))) ev_c rv_I0 : Ev (tOp (rI0 fun i j => .int (i - j)) (tCB (fun vs H Q => ∃ p ys, vs = [V.ref p] ∧ (SqL K H p ys ∨ SqT K H p ys) ∧ Q (.int ys.length) H) (tCons (tVar 11) tNil)) (tC (.int 1))) σ H6 (.int ((((ys ++ [z]).length : Nat) : Int) - 1))) H6 (Ex.refl _) _ fun H7 e7 => ⟨rfl, _, rfl, ?_⟩
  have ed : (!decide (V.int ((xs.length : Nat) : Int) = V.int ((((ys ++ [z]).length : Nat) : Int) - 1))) = false := by
    have : V.int ((xs.length : Nat) : Int) = V.int ((((ys ++ [z]).length : Nat) : Int) - 1) := by
      rw [List.length_append, List.length_singleton]
      congr 1
      omega
    rw [decide_eq_true this]
    rfl
  rw [ed]
  obtain ⟨⟨dxb, xsb, hb1, hb2⟩, ysb, hb3, hb4⟩ := sB6.ex e7
  refine (et_test (ev_neP (K := K) (d := colsD csB) (e := colsD csB) (ep_colours (ev_var s12) hb1 hb2) (fun H8 e8 => ep_dp (ev_var s13) (.lst (sq_of (e8 _ _ hb3)) (dpax hb4 e8))) (shaped_cols _) (shaped_cols _)) : EvT (tTest (tOp (rNeD K) (tMeth a.pal "colours" (spCols a) [] E2 (tVar 12) tNil) (tVar 13))) σ H7 _) H7 (Ex.refl _) _ fun H8 e8 => ?_
  rw [eqv_cols, decide_eq_true rfl]
  exact k H8 (cs ++ [c]) fcs.dropLast (e06.trans (e7.trans e8)) (sP6.ex (e7.trans e8)) (sB6.ex (e7.trans e8)) (hF6.ex (e7.trans e8)) (by rw [List.length_dropLast]; omega) fun d hd => (List.dropLast_sublist fcs).subset hd
end
end C19
set_option Elab.async false
set_option linter.all false
set_option maxRecDepth 100000
set_option maxHeartbeats 4000000
namespace C19
open PySem PySem.Spec PyProof.Rows L2 Evl
section
variable {K : PySem.W.Frag} {a : Ad} {σ : L2.St} {H : Hp} {ta tb te tl : TE} {tt : TT} {tu tz : TS} {D : Ends} {g : TG} {tlo thi : TO}
/-! ### tuples of tuples -/
def Mo (P : V → Hp → Prop) : Prop := ∀ v H H', Ex H H' → P v H → P v H'
theorem ep_tup2 {PA PB : V → Hp → Prop} (mA : Mo PA) (mB : Mo PB) (hA : Ep ta σ H PA) (hB : ∀ H1, Ex H H1 → Ep tb σ H1 PB) : Ep (tTup (tCons ta (tCons tb tNil))) σ H fun v H' => ∃ t u w, v = .ref t ∧ H' t = some (.tup [u, w]) ∧ PA u H' ∧ PB w H' := fun H1 e Q q =>
  hA H1 e _ fun u H2 e2 hu => hB H2 (e.trans e2) H2 (Ex.refl _) _ fun w H3 e3 hw => ⟨by
    have := sizeLine_eq
    show 2 ≤ sizeLine
    omega, fun t ht => q _ _ ((e2.trans e3).trans (Ex.new ht)) ⟨t, u, w, rfl, upd_same, mA _ _ _ (e3.trans (Ex.new ht)) hu, mB _ _ _ (Ex.new ht) hw⟩⟩
theorem mo_tup {PA PB : V → Hp → Prop} (mA : Mo PA) (mB : Mo PB) : Mo fun v H' => ∃ t u w, v = .ref t ∧ H' t = some (.tup [u, w]) ∧ PA u H' ∧ PB w H' := fun v H H' e ⟨t, u, w, h1, h2, h3, h4⟩ => ⟨t, u, w, h1, e _ _ h2, mA _ _ _ e h3, mB _ _ _ e h4⟩
theorem mo_eq (x : V) : Mo fun v _ => v = x := fun _ _ _ _ h => h
theorem ep_eq {v : V} (h : Ev te σ H v) : Ep te σ H fun u _ => u = v := ep_ev h
theorem eu_ep {xs : List V} (h : EvU te σ H xs) : Ep te σ H fun v H' => ∃ t, v = .ref t ∧ H' t = some (.tup xs) := fun H1 e Q q => h H1 e _ fun p H2 _ e2 h2 => q _ H2 e2 ⟨p, rfl, h2⟩
theorem mo_tupV (xs : List V) : Mo fun v H' => ∃ t, v = .ref t ∧ H' t = some (.tup xs) := fun v H H' e ⟨t, h1, h2⟩ => ⟨t, h1, e _ _ h2⟩
/-- loops over a tuple made on the way -/
theorem s_forTP {P : V → Hp → Prop} (h : Ep tl σ H P) (k : ∀ v H1, Ex H H1 → P v H1 → ∃ (q : Addr) (xs : List V), v = .ref q ∧ H1 q = some (.tup xs) ∧ ∃ Pv : Nat → L2.St → Hp → Prop, Pv 0 σ H1 ∧ (∀ i σ' H', i ≤ xs.length → Pv i σ' H' → H' q = some (.tup xs)) ∧
    (∀ i x σ' H', xs[i]? = some x → Pv i σ' H' → g x σ' H' fun σ2 H2 => tu { D with nx := Pv (i + 1), ct := Pv (i + 1), bk := D.nx } σ2 H2) ∧ ∀ σ' H', Pv xs.length σ' H' → D.nx σ' H') : tFor (iTup K tl) g tu D σ H :=
  h H (Ex.refl _) _ fun v H1 e p => by
    obtain ⟨q, xs, rfl, hq, Pv, h0, hl, hs, hd⟩ := k v H1 e p
    exact ⟨q, rfl, ⟨xs, st_of hq⟩, for_tup Pv h0 (fun i σ' H' hi hp => st_of (hl i σ' H' hi hp)) hs hd⟩
theorem q_forTP {P : V → Hp → Prop} (h : Ep tl σ H P) (k : ∀ v H1, Ex H H1 → P v H1 → ∃ (q : Addr) (xs : List V), v = .ref q ∧ H1 q = some (.tup xs) ∧ ∃ Pv : Nat → L2.St → Hp → Prop, Pv 0 σ H1 ∧ (∀ i σ' H', i ≤ xs.length → Pv i σ' H' → H' q = some (.tup xs)) ∧
    (∀ i x σ' H', xs[i]? = some x → Pv i σ' H' → g x σ' H' fun σ2 H2 => tu { D with nx := Pv (i + 1), ct := Pv (i + 1), bk := tz D } σ2 H2) ∧ ∀ σ' H', Pv xs.length σ' H' → tz D σ' H') : tSeq (tFor (iTup K tl) g tu) tz D σ H :=
  s_forTP (D := { D with nx := tz D }) h k
/-! ### lists -/
theorem ep_lst1L {xs : List V} (h : EvL te σ H xs) : Ep (tLst (tCons te tNil)) σ H fun v H' => ∃ S c, v = .ref S ∧ H S = none ∧ H c = none ∧ S ≠ c ∧ H' S = some (.lst [.ref c]) ∧ H' c = some (.lst xs) := fun H1 e Q q =>
  h H1 e _ fun c H2 hc e2 h2 => ⟨sz_of (show 1 ≤ 100000 by decide), fun p hp => q _ _ (e2.trans (Ex.new hp)) ⟨p, c, rfl, fresh_back (e.trans e2) hp, fresh_back e hc, (fun e3 => by
    rw [e3, h2] at hp
    cases hp), upd_same, Ex.new hp _ _ h2⟩⟩
def LsNew (K : PySem.W.Frag) (H0 : Hp) (ds : List PyData) (v : V) (H : Hp) : Prop := ∃ l xs, v = .ref l ∧ H0 l = none ∧ H l = some (.lst xs) ∧ DpAll K H xs ds
theorem lsn_to {ds : List PyData} {i : Int} (h : Ep te σ H fun v H' => Dp K H' v (.list ds)) (hi : ∀ H1, Ex H H1 → EvO thi σ H1 (some i)) (h0 : 0 ≤ i) : Ep (tSl (rSlL K) te tNoPart thi) σ H (LsNew K H (ds.take i.toNat)) := fun H1 e Q q =>
  h H1 e _ fun v H2 e2 hv => by
    cases hv with
    | lst hs ha =>
      rename_i a xs
      exact hi H2 (e.trans e2) H2 (Ex.refl _) _ fun H3 e3 => ⟨a, xs, rfl, ex_l e3 hs, fun p hp => q _ _ ((e2.trans e3).trans (Ex.new hp)) ⟨p, _, rfl, fresh_back (e.trans (e2.trans e3)) hp, upd_same, by rw [cut_take _ h0]; exact dpa_takeG (dpax ha (e3.trans (Ex.new hp))) _⟩⟩
theorem dpa_maps {β : Type} {f : β → V} {h : β → PyData} : ∀ {l : List β}, (∀ i ∈ l, Dp K H (f i) (h i)) → DpAll K H (l.map f) (l.map h)
  | [], _ => .nil
  | i :: l, k => .cons (k i List.mem_cons_self) (dpa_maps fun j hj => k j (List.mem_cons_of_mem _ hj))
/-- [x for x in xs if ..]: what is kept, by the data -/
theorem ls_keep {α : Type} {f : α → PyData} {items : List α} {b : α → Bool} {xs : List V} {q : Addr} {vs : List Nat} {j : Nat} (h : Ev tl σ H (.ref q)) (hx : SqL K H q xs) (hd : DpAll K H xs (items.map f)) (hz : items.length ≤ 40000) (hi0 : items ≠ []) (hw : ∀ x, wipe ((wipe σ vs).set j (some x)) vs = wipe σ vs)
    (ht : ∀ x c H1, c ∈ items → Dp K H1 x (f c) → Ex H H1 → EvT tt ((wipe σ vs).set j (some x)) H1 (b c)) (he : ∀ x H1, Ex H H1 → Ev te ((wipe σ vs).set j (some x)) H1 x) : Ep (tLc (iList K tl) (gName j) tt te vs) σ H (LsDp K ((items.filter b).map f)) := by
  have hl : xs.length = items.length := by
    have := dp_len hd
    rwa [List.length_map] at this
  obtain ⟨d0, _⟩ : ∃ d0, d0 ∈ items := by
    cases items with
    | nil => exact absurd rfl hi0
    | cons d0 l => exact ⟨d0, List.mem_cons_self⟩
  exact fun H0 e Q q' => h H0 e _ fun H1 e1 => ⟨q, rfl, ⟨xs, ex_l (e.trans e1) hx⟩,
    lc_det_core (τ := stL σ vs j xs) (b := fun i => b (items.getD i d0)) walk_list (by omega) (fun i => xs.getD i .non) (fun H2 e2 => ex_l ((e.trans e1).trans e2) hx) (aims_list fun i x hi => stL_at hi) (fun i hi => by
      obtain ⟨x, h1, _⟩ := at_lt hi
      rw [stL_at h1]
      exact hw x) (fun i H2 hi e2 => by
      obtain ⟨x, h1, h2⟩ := at_lt hi
      obtain ⟨c, h3, h4⟩ := dpa_atG hd h1
      rw [stL_at h1, getD_at h3]
      exact ht x c H2 (List.mem_of_getElem? h3) (dpx h4 ((e.trans e1).trans e2)) ((e.trans e1).trans e2)) (fun i H2 hi hb e2 => by
      obtain ⟨x, h1, h2⟩ := at_lt hi
      rw [stL_at h1, getD_of h1]
      exact he x H2 ((e.trans e1).trans e2)) fun p H2 hp e2 h2 => q' _ H2 (e1.trans e2) ⟨p, _, rfl, h2, by
        have ef := filt_rng (items := items) (p := b) (v := f) (d := d0)
        rw [← ef]
        unfold given
        rw [hl]
        refine dpa_maps fun i hi => ?_
        have hlt := List.mem_range.mp (List.mem_filter.mp hi).1
        have h1 : xs[i]? = some xs[i] := List.getElem?_eq_getElem (by omega)
        obtain ⟨c, h3, h4⟩ := dpa_atG hd h1
        rw [getD_of h1, getD_at h3]
        exact dpx h4 ((e.trans e1).trans e2)⟩⟩
theorem kids_cols {H0 : Hp} {p : Addr} {ps : List Addr} {cs : List Col} (k : Kids HO.tup H0 H p ps (cs.map colV)) : DpAll K H (ps.map V.ref) (cs.map colD) := by
  have hl := k.len
  rw [List.length_map] at hl
  have hat : ∀ (i : Nat) t z, ps[i]? = some t → cs[i]? = some z → H t = some (.tup (colV z)) := fun i t z h1 h2 => k.at_ i t _ h1 (by rw [List.getElem?_map, h2]; rfl)
  clear k
  induction ps generalizing cs with
  | nil =>
    cases cs with
    | nil => exact .nil
    | cons z l => simp at hl
  | cons t ps ih =>
    cases cs with
    | nil => simp at hl
    | cons z l => exact .cons (dp_col (st_of (hat 0 t z rfl rfl))) (ih (by simpa using hl) fun i t' z' h1 h2 => hat (i + 1) t' z' h1 h2)
/-- ordered_picture with a palette made on the way -/
theorem ep_orderedN {t1 t2 : TE} {E : XK} {x : V} {p : Pic} {cols : List Col} (h1 : Ev t1 σ H x) (h2 : EvPal a K t2 σ H cols) (hc : GoodC cols) (hx : Dp K H x (picD p)) (hg : Good p) (hall : ∀ c ∈ p.flatten, c < ((cols.length : Nat) : Int)) :
    Ep (tCall (spOrd K a) [] E (tCons t1 (tCons t2 tNil))) σ H fun u H2 => ∃ t q lq r, u = .ref t ∧ H2 t = some (.tup [.ref q, .ref r]) ∧ PalN a.pal H H2 K q lq ((orderF p).map (colAt cols)) ∧ NewP H H2 r (ranked (orderF p) p) := fun H0 e0 Q0 q0 =>
  h1 H0 e0 _ fun H1 e1 => h2 H1 (e0.trans e1) _ fun q l H2 e2 n2 => by
    obtain ⟨dx, xs, k1, k2⟩ := n2.is
    have e02 := e0.trans (e1.trans e2)
    exact ⟨x, .ref q, rfl, .inl ⟨p, q, dx, l, xs, cols, ⟨rfl, k1, k2, hc⟩, dpx hx e02, hg, .inl ⟨hall, fun t z lq r H3 e3 ht h3 n1 n3 => q0 _ H3 ((e1.trans e2).trans e3) ⟨t, z, lq, r, rfl, h3, n1.ex e02 (Ex.refl _), n3.ex e02 (Ex.refl _)⟩⟩⟩⟩
theorem PalN.pg {H0 : Hp} {q l : Addr} {cols : List Col} (n : PalN a.pal H0 H K q l cols) (hc : GoodC cols) : ∃ dx xs, PalG K a H (.ref q) q dx l xs cols := by
  obtain ⟨dx, xs, h1, h2⟩ := n.is
  exact ⟨dx, xs, rfl, h1, h2, hc⟩
end
/-! ### fresh colours -/
def freshAll : List Col := (List.range 34).map fun k => (((k : Nat) : Int), 1, 250 - ((k : Nat) : Int))
theorem fresh_valid : ∀ c ∈ freshAll, ValidC c := fun c hc => by
  obtain ⟨k, hk, rfl⟩ := List.mem_map.mp hc
  have := List.mem_range.mp hk
  exact ⟨by show 0 ≤ ((k : Nat) : Int) ∧ ((k : Nat) : Int) ≤ 255; omega, by show (0 : Int) ≤ 1 ∧ (1 : Int) ≤ 255; omega, by show 0 ≤ 250 - ((k : Nat) : Int) ∧ 250 - ((k : Nat) : Int) ≤ 255; omega⟩
theorem fresh_nodup : freshAll.Nodup := List.Pairwise.map _ (fun a b (h : a ≠ b) e => h (by
  have := congrArg Prod.fst e
  simp only at this
  omega)) List.nodup_range
theorem nodup_len {α : Type} [DecidableEq α] : ∀ {l m : List α}, l.Nodup → (∀ c ∈ l, c ∈ m) → l.length ≤ m.length
  | [], _, _, _ => Nat.zero_le _
  | x :: l, m, nd, h => by
    obtain ⟨h1, h2⟩ := List.nodup_cons.mp nd
    have hx := h x List.mem_cons_self
    have := nodup_len (m := m.erase x) h2 fun c hc => (List.mem_erase_of_ne fun e => h1 (by rw [← e]; exact hc)).mpr (h c (List.mem_cons_of_mem _ hc))
    rw [List.length_erase_of_mem hx] at this
    have : 0 < m.length := List.length_pos_of_mem hx
    simp only [List.length_cons]
    omega
theorem count_out {l cols : List Col} (nd : l.Nodup) : l.length ≤ (l.filter fun c => !decide (c ∈ cols)).length + cols.length := by
  have h1 : l.length = (l.filter fun c => decide (c ∈ cols)).length + (l.filter fun c => !decide (c ∈ cols)).length := by
    induction l with
    | nil => rfl
    | cons x l ih =>
      have := ih (List.nodup_cons.mp nd).2
      by_cases c : x ∈ cols
      · rw [List.filter_cons_of_pos (by simp [c]), List.filter_cons_of_neg (by simp [c])]
        simp only [List.length_cons]
        omega
      · rw [List.filter_cons_of_neg (by simp [c]), List.filter_cons_of_pos (by simp [c])]
        simp only [List.length_cons]
        omega
  have h2 : (l.filter fun c => decide (c ∈ cols)).length ≤ cols.length := by
    have hnd : (l.filter fun c => decide (c ∈ cols)).Nodup := nd.filter _
    exact nodup_len hnd fun c hc => of_decide_eq_true (List.mem_filter.mp hc).2
  omega
end C19
set_option Elab.async false
set_option linter.all false
set_option maxRecDepth 100000
set_option maxHeartbeats 4000000
namespace C19
open PySem PySem.Spec PyProof.Rows L2 Evl
section
variable {P : Program} {w : World} {K : PySem.W.Frag} {mg : Str → Option Value} {base : Heap} {a : Ad}
def spBeside (K : PySem.W.Frag) : Sp := fun vs H Q _ => ∃ (x y : V) (p : Pic) (cols : List Col), vs = [x, y] ∧ Dp K H x (picD p) ∧ Good p ∧ Dp K H y (colsD cols) ∧ GoodC cols ∧ (∀ c ∈ p.flatten, c < ((cols.length : Nat) : Int)) ∧ RetV (.bl true) H Q
/-- the slots in the outer loop -/
def ShB (x y : V) (t1 : Addr) (σ : L2.St) : Prop := ∃ s3 s4 s5 s6 s7 s8 s9 s10 s11 s12 s13, σ = [some x, some y, some (.ref t1), s3, s4, s5, s6, s7, s8, s9, s10, s11, s12, s13]
theorem order_sub {p : Pic} (g : Good p) {cols : List Col} (hall : ∀ c ∈ p.flatten, c < ((cols.length : Nat) : Int)) : ∀ c ∈ (orderF p).map (colAt cols), c ∈ cols := fun c hc => by
  obtain ⟨i, hi, rfl⟩ := List.mem_map.mp hc
  exact List.mem_of_getElem? (colAt_of (order_cell g i hi).1.1 (hall i (order_cell g i hi).2))
theorem ok_lw_beside_good (T : Txt K mg a) (D : DefAt K mg "_law_beside_good" s_lw_beside_good) (c_ordered_picture : Cal P w K mg base (L2N.CX P w) 8 "ordered_picture" ["picture", "palette"] (spOrd K a)) (c_Palette : Mkr P w K mg base a.pal 3 "Palette" ["self", "colours"] (spInit K a))
    (c_colours : Mth P w K mg base a.pal 1 "colours" ["self"] (spCols a)) (c_add_colour : Mth P w K mg base a.pal 5 "add_colour" ["self", "colour"] (spAdd K a)) : Cal P w K mg base CX0 9 "_law_beside_good" ["_law_picture_here", "_law_colours"] (spBeside K) := by
  refine cal_of D bd_lw_beside_good sc_lw_beside_good (fun vs H Q E h => ?_) (fun f cdv A outer s H vs Q E hr h => ?_)
  · obtain ⟨x, y, p, cols, rfl, _⟩ := h
    rfl
  · obtain ⟨x, y, p, cols, rfl, hx, hg, hy, hc, hall, q⟩ := h
    obtain ⟨zy, ys, rfl, hzy, hys⟩ := dp_cols_inv hy
    refine ⟨_, (pss_cons (ps_set (i := 2) sc_lw_beside_good.nd rfl (by first | exact Or.inl rfl | exact Or.inr rfl) (pf_c c_ordered_picture hr (by rfl) passLN (pa_cons (pv 0) (pa_cons (pk_c c_Palette hr (by rfl) pass0 (pa_cons (pe_callTy (T := "list") (call_listK K) (by rfl) T.b_list (by decide +kernel) (pa_cons (pv 1) pa_nil)) pa_nil)) pa_nil))))
      (pss_cons (ps_for (L2.passes_of rfl) rfl (pi_tupK K (pe_tup (pa_cons (pe_tup (pa_cons (pk_c c_Palette hr (by rfl) pass0 (pa_cons (pe_callTy (T := "list") (call_listK K) (by rfl) T.b_list (by decide +kernel) (pa_cons (pv 1) pa_nil)) pa_nil)) (pa_cons (pv 0) pa_nil))) (pa_cons (pe_tup (pa_cons (pe_ix (ix_tupK K) (pv 2) pe_int (fun _ _ => rfl)) (pa_cons (pe_ix (ix_tupK K) (pv 2) pe_int (fun _ _ => rfl)) pa_nil))) pa_nil)))) (pg_tupK K (n := 2) rfl (pgs_cons (pg_name (i := 3) sc_lw_beside_good.nd rfl (by first | exact Or.inl rfl | exact Or.inr rfl)) (pgs_cons (pg_name (i := 4) sc_lw_beside_good.nd rfl (by first | exact Or.inl rfl | exact Or.inr rfl)) pgs_nil))) (pss_cons (ps_set (i := 5) sc_lw_beside_good.nd rfl (by first | exact Or.inl rfl | exact Or.inr rfl) (pe_lst (pa_cons (pm_c0 (pv 3) c_colours hr pass0) pa_nil)))
      (pss_cons (ps_set (i := 6) sc_lw_beside_good.nd rfl (by first | exact Or.inl rfl | exact Or.inr rfl) (pe_ix (ix_tupK K) (pf_c c_ordered_picture hr (by rfl) passLN (pa_cons (pv 4) (pa_cons (pv 3) pa_nil))) pe_int (fun _ _ => rfl)))
      (pss_cons (ps_expr (pe_bmK K PySem.F.plainAttrs_list PySem.F.slot_list_append PySem.F.type_list_append mt_append (pv 5) (pa_cons (pm_c0 (pv 6) c_colours hr pass0) pa_nil)))
      (pss_cons (ps_setLc (i := 7) (own := [("_law_k", 8)]) (g := (gName 8)) rfl sc_lw_beside_good.nd rfl rfl (sw_true rfl rfl rfl (by decide +kernel)) (pi_range1 rfl T.b_range (pa_cons pe_int pa_nil)) (blkOk_by (by kernel_rfl)) (fun _ _ _ _ _ => (pg_name (i := 8) sc_lw_beside_good.nd rfl (by first | exact Or.inl rfl | exact Or.inr rfl))) (fun _ _ _ _ _ => pts_nil) (fun _ _ _ _ _ => (pe_tup (pa_cons (pv 8) (pa_cons pe_int (pa_cons (pe_op op_sub pe_int (pv 8)) pa_nil))))))
      (pss_cons (ps_set (i := 7) sc_lw_beside_good.nd rfl (by first | exact Or.inl rfl | exact Or.inr rfl) (pe_slice (sl_listK K) (pe_lc (own := [("_law_colour_here", 9)]) (g := (gName 9)) rfl sc_lw_beside_good.nd (pi_listK K (pv 7)) (blkOk_by (by kernel_rfl)) (fun _ _ _ _ _ => (pg_name (i := 9) sc_lw_beside_good.nd rfl (by first | exact Or.inl rfl | exact Or.inr rfl))) (fun _ _ _ _ _ => (pts_one (pt_cmpR (op_notInDK K (u65 hr)) (pv 9) (pv 1) rfl))) (fun _ _ _ _ _ => (pv 9))) po_none (po_some pe_int)))
      (pss_one (ps_for (L2.passes_of rfl) rfl (pi_tupK K (pe_tup (pa_cons (pe_tup (pa_cons (pv 6) (pa_cons (pe_ix (ix_listK K) (pv 5) pe_int (fun _ _ => rfl)) (pa_cons (pv 3) (pa_cons (pe_ix (ix_listK K) (pv 5) pe_int (fun _ _ => rfl)) pa_nil))))) (pa_cons (pe_tup (pa_cons (pv 3) (pa_cons (pe_ix (ix_listK K) (pv 5) pe_int (fun _ _ => rfl)) (pa_cons (pv 6) (pa_cons (pe_ix (ix_listK K) (pv 5) pe_int (fun _ _ => rfl)) pa_nil))))) pa_nil)))) (pg_tupK K (n := 4) rfl (pgs_cons (pg_name (i := 10) sc_lw_beside_good.nd rfl (by first | exact Or.inl rfl | exact Or.inr rfl)) (pgs_cons (pg_name (i := 11) sc_lw_beside_good.nd rfl (by first | exact Or.inl rfl | exact Or.inr rfl)) (pgs_cons (pg_name (i := 12) sc_lw_beside_good.nd rfl (by first | exact Or.inl rfl | exact Or.inr rfl)) (pgs_cons (pg_name (i := 13) sc_lw_beside_good.nd rfl (by first | exact Or.inl rfl | exact Or.inr rfl)) pgs_nil))))) (pss_one (ps_if (pt_cmpR op_lt (pe_callB (id := "len") (call_lenK K) (by rfl) T.b_len (by decide +kernel) (pa_cons (pv 11) pa_nil)) pe_int (nomark _)) (pss_cons (ps_expr (pe_bmK K PySem.F.plainAttrs_list PySem.F.slot_list_append PySem.F.type_list_append mt_append (pv 11) (pa_cons (pe_bm0K K PySem.F.plainAttrs_list PySem.F.slot_list_pop PySem.F.type_list_pop mt_pop (pv 7)) pa_nil)))
      (pss_one (ps_if (PW.pt (pw_or (pt_cmpR op_ne (pm_c (pv 10) c_add_colour hr pass0 (pa_cons (pe_ix (ix_listK K) (pv 11) (pe_un un_neg pe_int) (fun _ _ => rfl)) pa_nil)) (pe_op op_sub (pe_callB (id := "len") (call_lenK K) (by rfl) T.b_len (by decide +kernel) (pa_cons (pv 11) pa_nil)) pe_int) (nomark _)) (pw_or1 (pt_cmpR (op_neDK K hr.units) (pm_c0 (pv 12) c_colours hr pass0) (pv 13) (nomark _))))) (pss_one (ps_ret pe_bl)) pss_nil))) pss_nil))))))))))
      (pss_one (ps_ret pe_bl)))), ?_⟩
    refine q_set (ep_orderedN (ev_var rfl) (evpal_make (ep_newCols (el_listC (ev_var rfl) (.inl hzy)) hys) hc) hc hx hg hall) fun v1 H1 e1 h1 => ?_
    obtain ⟨t1, q1, l1, r1, rfl, ht1, n1, n2⟩ := h1
    have hgr := ranked_good hg (orderF_is p)
    have hc1 := goodC_order hc hg hall
    have hsub1 := order_sub hg hall
    have hlt1 : ∀ c ∈ (ranked (orderF p) p).flatten, c < (((((orderF p).map (colAt cols)).length : Nat)) : Int) := by
      rw [List.length_map]
      exact ranked_lt hg (orderF_is p)
    have hf0 : ∀ {σ : L2.St} {H' : Hp}, Ev (tVar 2) σ H' (.ref t1) → Ex H1 H' → Ev (tOp (rIxT K) (tVar 2) (tC (.int 0))) σ H' (.ref q1) := fun hv he => ev_op hv ev_c (rv_ixT (st_of (he _ _ ht1)) rfl)
    have hf1 : ∀ {σ : L2.St} {H' : Hp}, Ev (tVar 2) σ H' (.ref t1) → Ex H1 H' → Ev (tOp (rIxT K) (tVar 2) (tC (.int 1))) σ H' (.ref r1) := fun hv he => ev_op hv ev_c (rv_ixT (st_of (he _ _ ht1)) rfl)
    have moP : Mo fun v H' => ∃ q2 l2, v = .ref q2 ∧ PalN a.pal H1 H' K q2 l2 cols := fun v H H' e ⟨q2, l2, h1, h2⟩ => ⟨q2, l2, h1, h2.ex (Ex.refl _) e⟩
    refine q_forTP (ep_tup2 (mo_tup moP (mo_eq x)) (mo_tup (mo_eq (.ref q1)) (mo_eq (.ref r1))) (ep_tup2 moP (mo_eq x) (fun H2 e2 Q q => evpal_make (ep_newCols (el_listC (ev_var rfl) (.inl (ex_l e1 hzy))) (dpax hys e1)) hc H2 e2 Q fun q2 l2 H3 e3 n3 => q _ H3 e3 ⟨q2, l2, rfl, n3.ex e2 (Ex.refl _)⟩) fun H2 e2 => ep_eq (ev_var rfl))
      (fun H2 e2 => ep_tup2 (mo_eq (.ref q1)) (mo_eq (.ref r1)) (ep_eq (hf0 (ev_var rfl) e2)) fun H3 e3 => ep_eq (hf1 (ev_var rfl) (e2.trans e3)))) fun v H2 e2 hv => ?_
    obtain ⟨tt, ta, tb, rfl, htt, ⟨tav, qv, xv, rfl, hta, ⟨q2, l2, rfl, n3⟩, rfl⟩, tbv, qv, rv, rfl, htb, rfl, rfl⟩ := hv
    have e12 := e1.trans e2
    obtain ⟨dx1, xs1, p1, d1⟩ := n1.is
    obtain ⟨dx2, xs2, p2, d2⟩ := n3.is
    have hl2 : H1 l2 = none := n3.l0
    have ne_tt : tt ≠ l2 := fun e => by
      rw [e, p2.lst] at htt
      cases htt
    have ne_tb : tbv ≠ l2 := fun e => by
      rw [e, p2.lst] at htb
      cases htb
    have ne_tt1 : tt ≠ l1 := fun e => by
      rw [e, e2 _ _ p1.lst] at htt
      cases htt
    have er : Ex H1 (remL H2 [l2]) := ex_remL e2 fun b hb => by
      rw [List.mem_singleton.mp hb]
      exact hl2
    refine ⟨tt, _, rfl, htt, fun i σ' H' => ShB xv (.ref zy) t1 σ' ∧ Ex H H' ∧ H' tt = some (.tup [.ref tav, .ref tbv]) ∧ (i = 0 → Ex H2 H') ∧ (i = 1 → Ex (remL H2 [l2]) H'), ⟨⟨_, _, _, _, _, _, _, _, _, _, _, rfl⟩, e12, htt, fun _ => Ex.refl _, fun h => nomatch h⟩, fun i σ' H' _ h => h.2.2.1, fun i u σ' H' hu h => ?_, fun σ' H' h => ?_⟩
    · obtain ⟨hsh, g1, g2, g3, g4⟩ := h
      have key : ∃ (ti hq hl dxh : Addr) (rv : V) (xsH : List V) (colsH : List Col) (pr : Pic), u = .ref ti ∧ H' ti = some (.tup [.ref hq, rv]) ∧ PalX a.pal H' hq dxh hl xsH ∧ DpAll K H' xsH (colsH.map colD) ∧ GoodC colsH ∧ (∀ c ∈ colsH, c ∈ cols) ∧ Dp K H' rv (picD pr) ∧ Good pr ∧ (∀ c ∈ pr.flatten, c < ((colsH.length : Nat) : Int)) ∧
          ∀ H'', Ex (remL H' [hl]) H'' → Ex H H'' ∧ H'' tt = some (.tup [.ref tav, .ref tbv]) ∧ (i + 1 = 0 → Ex H2 H'') ∧ (i + 1 = 1 → Ex (remL H2 [l2]) H'') := by
        match i, hu with
        | 0, hu =>
          cases hu
          have k := g3 rfl
          refine ⟨tav, q2, l2, dx2, xv, xs2, cols, p, rfl, k _ _ hta, p2.ex k, dpax d2 k, hc, fun _ h => h, dpx hx g1, hg, hall, fun H'' e'' => ⟨(ex_remL g1 fun b hb => ?_).trans e'', e'' _ _ (remL_at g2 (by simpa using ne_tt)), (fun h => nomatch h), fun _ => ?_⟩⟩
          · rw [List.mem_singleton.mp hb]
            exact fresh_back e1 hl2
          · refine (ex_remL ((remL_ex _ _).trans k) fun b hb => remL_none hb).trans e''
        | 1, hu =>
          cases hu
          have k := g4 rfl
          have k1 : Ex H1 H' := er.trans k
          refine ⟨tbv, q1, l1, dx1, .ref r1, xs1, (orderF p).map (colAt cols), ranked (orderF p) p, rfl, k _ _ (remL_at htb (by simpa using ne_tb)), p1.ex k1, dpax d1 k1, hc1, hsub1, (n2.ex (Ex.refl _) k1).dp, hgr, hlt1, fun H'' e'' => ⟨(ex_remL g1 fun b hb => ?_).trans e'', e'' _ _ (remL_at g2 (by simpa using ne_tt1)), (fun h => nomatch h), (fun h => nomatch h)⟩⟩
          rw [List.mem_singleton.mp hb]
          exact n1.l0
        | i + 2, hu => simp at hu
      obtain ⟨ti, hq, hl, dxh, rv, xsH, colsH, pr, rfl, hti, hpH, hdH, hcH, hsH, hxr, hgr2, hallr, next⟩ := key
      obtain ⟨s3, s4, s5, s6, s7, s8, s9, s10, s11, s12, s13, rfl⟩ := hsh
      refine ⟨ti, [.ref hq, rv], rfl, st_of hti, rfl, _, [rv], rfl, rv, [], rfl, rfl, ?_⟩
      -- some = [handed.colours()]
      refine q_set (ep_lst1L (el_meth (ev_var rfl) hpH.ins rfl ea_nil fun B1 e1 Q q => ⟨hq, dxh, hl, xsH, rfl, hpH.ex e1, q⟩)) fun v5 B1 b1 h5 => ?_
      obtain ⟨S, c1, rfl, hS0, hc10, nSc, hSv, hc1v⟩ := h5
      -- told
      refine q_set (P := fun v B => ∃ tq tl, v = .ref tq ∧ PalN a.pal B1 B K tq tl ((orderF pr).map (colAt colsH))) (fun B2 b2 Q q => (ep_ordered (a := a) (K := K) (E := E0) (σ := [some xv, some (.ref zy), some (.ref t1), some (.ref hq), some rv, some (.ref S), s6, s7, s8, s9, s10, s11, s12, s13]) (t1 := tVar 4) (t2 := tVar 3) (v := .ref hq) (x := rv) (ev_var rfl) (ev_var rfl) (⟨rfl, hpH.ex b1, dpax hdH b1, hcH⟩ : PalG K a B1 (.ref hq) hq dxh hl xsH colsH) (dpx hxr b1) hgr2 hallr) B2 b2 _ fun v B3 b3 hv => by
        obtain ⟨t, tq, tl, r, rfl, _, ht, n, _⟩ := hv
        exact ⟨t, _, 0, _, rfl, rfl, st_of ht, rfl, q _ B3 b3 ⟨tq, tl, rfl, n⟩⟩) fun v6 B2 b2 h6 => ?_
      obtain ⟨tq, tl, rfl, nT⟩ := h6
      obtain ⟨dxt, xsT, pT, dT⟩ := nT.is
      have hcT := goodC_order hcH hgr2 hallr
      have hsT : ∀ c ∈ (orderF pr).map (colAt colsH), c ∈ cols := fun c hc => hsH c (order_sub hgr2 hallr c hc)
      generalize (orderF pr).map (colAt colsH) = colsT at nT dT hcT hsT
      -- some.append(told.colours())
      refine q_appL (l := S) (xs := [.ref c1]) (ys := xsT) (b2 _ _ hSv) (ev_var rfl) (el_meth (ev_var rfl) pT.ins rfl ea_nil fun B3 b3 Q q => ⟨tq, dxt, tl, xsT, rfl, pT.ex b3, q⟩) (show 1 < 100000 by decide) fun c2 B3 hc20 b3 hc2v => ?_
      have b13 := b1.trans (b2.trans b3)
      have hc1_3 := b3 _ _ (b2 _ _ hc1v)
      have hhl0 : H' hl = some (.lst xsH) := hpH.lst
      have nhl_c1 : hl ≠ c1 := ne_of_none hhl0 hc10
      have nhl_S : hl ≠ S := ne_of_none hhl0 hS0
      have ntl_hl : hl ≠ tl := ne_of_none (b1 _ _ hhl0) nT.l0
      have ntl_c1 : c1 ≠ tl := ne_of_none hc1v nT.l0
      have ntl_S : S ≠ tl := ne_of_none hSv nT.l0
      have nc2_hl : hl ≠ c2 := ne_of_none ((b1.trans b2) _ _ hhl0) hc20
      have nc2_c1 : c1 ≠ c2 := ne_of_none (b2 _ _ hc1v) hc20
      have nc2_tl : tl ≠ c2 := ne_of_none pT.lst hc20
      have nc2_S : S ≠ c2 := ne_of_none (b2 _ _ hSv) hc20
      have hSB3 : B3 S = some (.lst [.ref c1]) := b3 _ _ (b2 _ _ hSv)
      have E4 : Ex H' (upd B3 S (.lst ([.ref c1] ++ [.ref c2]))) := Ex.mut b13 hS0
      have sA4 : Side K a (upd B3 S (.lst ([.ref c1] ++ [.ref c2]))) hq hl c1 colsH := Side.upd (l := S) ⟨⟨dxh, xsH, hpH.ex b13, dpax hdH b13⟩, xsH, hc1_3, dpax hdH b13⟩ hSB3 nhl_S (Ne.symm nSc)
      have sB4 : Side K a (upd B3 S (.lst ([.ref c1] ++ [.ref c2]))) tq tl c2 colsT := Side.upd (l := S) ⟨⟨dxt, xsT, pT.ex b3, dpax dT b3⟩, xsT, hc2v, dpax dT b3⟩ hSB3 (Ne.symm ntl_S) (Ne.symm nc2_S)
      have hS4 : (upd B3 S (.lst ([.ref c1] ++ [.ref c2]))) S = some (.lst [.ref c1, .ref c2]) := upd_same
      generalize upd B3 S (.lst ([.ref c1] ++ [.ref c2])) = B4 at E4 sA4 sB4 hS4
      -- fresh
      refine q_set (P := fun v B => ∃ F0, v = .ref F0 ∧ ∃ zs, B F0 = some (.lst zs) ∧ DpAll K B zs (freshAll.map colD)) (fun B5 b5 Q q => (en_rng (mk := HO.tup) (n := 34) (b := fun _ => true) (F := fun k => [.int ((k : Nat) : Int), .int 1, .int (250 - ((k : Nat) : Int))]) (σ := [some xv, some (.ref zy), some (.ref t1), some (.ref hq), some rv, some (.ref S), some (.ref tq), s7, s8, s9, s10, s11, s12, s13]) (ea_cons ev_c ea_nil) (by decide) (fun _ => rfl) (fun _ _ _ _ => et_yes) (fun k B6 hk _ b6 => eo_u (eu_tup (ea_cons (ev_var rfl) (ea_cons ev_c (ea_cons (ev_op ev_c (ev_var rfl) rv_I0) ea_nil))) (show 3 ≤ 100000 by decide)))) B5 b5 _ fun F0 ps B6 hF0 b6 k6 => q _ B6 b6 ⟨F0, rfl, _, k6.lst, kids_cols (cs := freshAll) k6⟩) fun v7 B5 b5 h7 => ?_
      obtain ⟨F0, rfl, zs0, hF0v, hF0d⟩ := h7
      have E5 := E4.trans b5
      have hy5 : SqL K B5 zy ys := ex_l (g1.trans E5) hzy
      have hyd5 : DpAll K B5 ys (cols.map colD) := dpax hys (g1.trans E5)
      have hfl : freshAll.length = 34 := by simp [freshAll]
      refine q_set (P := LsNew K B5 ((freshAll.filter fun c => !decide (c ∈ cols)).map colD |>.take (2 : Int).toNat)) (lsn_to (i := 2) (ls_dp (ls_keep (f := colD) (b := fun c => !decide (c ∈ cols)) (ev_var rfl) (sq_of hF0v) hF0d (by omega) (by intro e; rw [e] at hfl; cases hfl) (fun _ => rfl) (fun z c B6 hc hd b6 => et_test (ev_op (ev_var rfl) (ev_var rfl) fun B7 b7 Q q => ⟨_, _, dpx hd b7, .lst (ex_l (b6.trans b7) hy5) (dpax hyd5 (b6.trans b7)), shaped_col c, shaped_cols cols, by
        rw [any_col]
        exact q B7 (Ex.refl _)⟩)) (fun z B6 b6 => ev_var rfl))) (fun B6 b6 => eo_some ev_c) (by decide)) fun v8 B6 b6 h8 => ?_
      obtain ⟨F, zs, rfl, hF0, hFv, hFd⟩ := h8
      have efl : ((freshAll.filter fun c => !decide (c ∈ cols)).map colD).take (2 : Int).toNat = ((freshAll.filter fun c => !decide (c ∈ cols)).take 2).map colD := by
        rw [List.map_take]
        rfl
      rw [efl] at hFd
      have hf2 : 2 ≤ ((freshAll.filter fun c => !decide (c ∈ cols)).take 2).length := by
        have h1 := count_out (cols := cols) fresh_nodup
        have h2 := hc.len
        rw [hfl] at h1
        rw [List.length_take]
        omega
      have hfin : ∀ c ∈ (freshAll.filter fun c => !decide (c ∈ cols)).take 2, ValidC c ∧ c ∉ cols := fun c hc => by
        obtain ⟨k1, k2⟩ := List.mem_filter.mp (List.mem_of_mem_take hc)
        exact ⟨fresh_valid c k1, by simpa using k2⟩
      generalize (freshAll.filter fun c => !decide (c ∈ cols)).take 2 = fcs at hFd hf2 hfin
      have b56 := b5.trans b6
      have sA6 := sA4.ex b56
      have sB6 := sB4.ex b56
      have hS6 := b56 _ _ hS4
      have E6 := E5.trans b6
      obtain ⟨⟨_, _, pA, _⟩, _, hA1, _⟩ := id (sA4.ex b5)
      obtain ⟨⟨_, _, pB, _⟩, _, hB1, _⟩ := id (sB4.ex b5)
      have nF1 : hl ≠ F := ne_of_none pA.lst hF0
      have nF2 : c1 ≠ F := ne_of_none hA1 hF0
      have nF3 : tl ≠ F := ne_of_none pB.lst hF0
      have nF4 : c2 ≠ F := ne_of_none hB1 hF0
      -- the two turns
      have hs0 : ∀ {σ : L2.St} {B : Hp}, Ev (tVar 5) σ B (.ref S) → Ex B6 B → Ev (tOp (rIxL K) (tVar 5) (tC (.int 0))) σ B (.ref c1) := fun hv he => ev_op hv ev_c (rv_ixL (sq_of (he _ _ hS6)) rfl)
      have hs1 : ∀ {σ : L2.St} {B : Hp}, Ev (tVar 5) σ B (.ref S) → Ex B6 B → Ev (tOp (rIxL K) (tVar 5) (tC (.int 1))) σ B (.ref c2) := fun hv he => ev_op hv ev_c (rv_ixL (sq_of (he _ _ hS6)) rfl)
      refine s_forTP (ep_tup2 (mo_tupV [.ref tq, .ref c2, .ref hq, .ref c1]) (mo_tupV [.ref hq, .ref c1, .ref tq, .ref c2]) (eu_ep (eu_tup (ea_cons (ev_var rfl) (ea_cons (hs1 (ev_var rfl) (Ex.refl _)) (ea_cons (ev_var rfl) (ea_cons (hs0 (ev_var rfl) (Ex.refl _)) ea_nil)))) (show 4 ≤ 100000 by decide)))
        (fun B7 b7 => eu_ep (eu_tup (ea_cons (ev_var rfl) (ea_cons (hs0 (ev_var rfl) b7) (ea_cons (ev_var rfl) (ea_cons (hs1 (ev_var rfl) b7) ea_nil)))) (show 4 ≤ 100000 by decide)))) fun v9 B7 b7 h9 => ?_
      obtain ⟨TT, u0v, u1v, rfl, hTT, ⟨u0, rfl, hu0⟩, u1, rfl, hu1⟩ := h9
      have sA7 := sA6.ex b7
      have sB7 := sB6.ex b7
      have hF7 : FrP K B7 F fcs := ⟨zs, b7 _ _ hFv, dpax hFd b7⟩
      have notL : ∀ {b : Addr} {us : List V}, B7 b = some (.tup us) → b ∉ [hl, c1, tl, c2, F] := fun {b us} hb hm => by
        obtain ⟨⟨_, _, pA, _⟩, _, hA1, _⟩ := id sA7
        obtain ⟨⟨_, _, pB, _⟩, _, hB1, _⟩ := id sB7
        obtain ⟨_, hF1, _⟩ := id hF7
        simp only [List.mem_cons, List.not_mem_nil, or_false] at hm
        rcases hm with e | e | e | e | e <;> rw [e] at hb
        · rw [pA.lst] at hb; cases hb
        · rw [hA1] at hb; cases hb
        · rw [pB.lst] at hb; cases hb
        · rw [hB1] at hb; cases hb
        · rw [hF1] at hb; cases hb
      have E7 := E6.trans b7
      have eg : Ex (remL H' [hl]) (remL B7 [hl, c1, tl, c2, F]) := ex_remL ((remL_ex _ _).trans E7) fun b hb => by
        simp only [List.mem_cons, List.not_mem_nil, or_false] at hb
        have hh : ∀ {b}, H' b = none → (remL H' [hl]) b = none := fun {b} h => by
          unfold remL
          split
          · rfl
          · exact h
        rcases hb with e | e | e | e | e <;> rw [e]
        · exact remL_none (List.mem_singleton_self _)
        · exact hh hc10
        · exact hh (fresh_back b1 nT.l0)
        · exact hh (fresh_back (b1.trans b2) hc20)
        · exact hh (fresh_back E5 hF0)
      refine ⟨TT, _, rfl, hTT, fun j σ' B => Ex (remL B7 [hl, c1, tl, c2, F]) B ∧ (∃ s8 s9 s10 s11 s12 s13, σ' = [some xv, some (.ref zy), some (.ref t1), some (.ref hq), some rv, some (.ref S), some (.ref tq), some (.ref F), s8, s9, s10, s11, s12, s13]) ∧
        ∃ csA csB fcs', Side K a B hq hl c1 csA ∧ Side K a B tq tl c2 csB ∧ FrP K B F fcs' ∧ (j ≤ 1 → csA = colsH) ∧ (j = 0 → csB = colsT) ∧ 2 ≤ fcs'.length + j ∧ ∀ c ∈ fcs', c ∈ fcs,
        ⟨remL_ex _ _, ⟨_, _, _, _, _, _, rfl⟩, colsH, colsT, fcs, sA7, sB7, hF7, (fun _ => rfl), (fun _ => rfl), hf2, fun _ h => h⟩, fun j σ' B _ h => h.1 _ _ (remL_at hTT (notL hTT)), fun j u σ' B hu h => ?_, fun σ' B h => ?_⟩
      · obtain ⟨k1, ⟨s8, s9, s10, s11, s12, s13, rfl⟩, csA, csB, fcs', sA, sB, hF, k2, k3, k4, k5⟩ := h
        match j, hu with
        | 0, hu =>
          cases hu
          have ea := k2 (by decide)
          have eb := k3 rfl
          subst ea
          subst eb
          refine ⟨u0, [.ref tq, .ref c2, .ref hq, .ref c1], rfl, st_of (k1 _ _ (remL_at hu0 (notL hu0))), rfl, _, [.ref c2, .ref hq, .ref c1], rfl, _, [.ref hq, .ref c1], rfl, _, [.ref c1], rfl, _, [], rfl, rfl, ?_⟩
          exact beside_step k1 sB sA hF (fun e => by rw [e] at k4; simp at k4) (fun c hc => ⟨(hfin c (k5 c hc)).1, fun hm => (hfin c (k5 c hc)).2 (hsT c hm)⟩) rfl rfl rfl rfl rfl (remL_none (by simp)) (remL_none (by simp)) (remL_none (by simp)) nF4 nF3 nc2_tl nF1 nF2 nc2_hl nc2_c1 ntl_hl ntl_c1
            fun B' cs' fcs'' m1 m2 m3 m4 m5 m6 => ⟨m1, ⟨_, _, _, _, _, _, rfl⟩, _, cs', fcs'', m3, m2, m4, (fun _ => rfl), (fun h => nomatch h), by omega, fun c hc => k5 c (m6 c hc)⟩
        | 1, hu =>
          cases hu
          have ea := k2 (by decide)
          subst ea
          refine ⟨u1, [.ref hq, .ref c1, .ref tq, .ref c2], rfl, st_of (k1 _ _ (remL_at hu1 (notL hu1))), rfl, _, [.ref c1, .ref tq, .ref c2], rfl, _, [.ref tq, .ref c2], rfl, _, [.ref c2], rfl, _, [], rfl, rfl, ?_⟩
          exact beside_step k1 sA sB hF (fun e => by rw [e] at k4; simp at k4) (fun c hc => ⟨(hfin c (k5 c hc)).1, fun hm => (hfin c (k5 c hc)).2 (hsH c hm)⟩) rfl rfl rfl rfl rfl (remL_none (by simp)) (remL_none (by simp)) (remL_none (by simp)) nF2 nF1 nhl_c1 nF3 nF4 (Ne.symm ntl_c1) (Ne.symm nc2_c1) (Ne.symm ntl_hl) (Ne.symm nc2_hl)
            fun B' cs' fcs'' m1 m2 m3 m4 m5 m6 => ⟨m1, ⟨_, _, _, _, _, _, rfl⟩, cs', _, fcs'', m2, m3, m4, (fun h => absurd h (by decide)), (fun h => nomatch h), by omega, fun c hc => k5 c (m6 c hc)⟩
        | j + 2, hu => simp at hu
      · obtain ⟨k1, ⟨s8, s9, s10, s11, s12, s13, rfl⟩, _⟩ := h
        exact ⟨⟨_, _, _, _, _, _, _, _, _, _, _, rfl⟩, next B (eg.trans k1)⟩
    · obtain ⟨hsh, g1, _⟩ := h
      obtain ⟨s3, s4, s5, s6, s7, s8, s9, s10, s11, s12, s13, rfl⟩ := hsh
      exact s_ret ev_c fun H'' e'' => q H'' (g1.trans e'')
end
end C19
set_option Elab.async false
set_option linter.all false
set_option maxRecDepth 100000
set_option maxHeartbeats 4000000
/-! while an exception is handled: the ends of iterations, unpacking, a comprehension over a list, a def that knows the exception -/
namespace C19
open PySem PySem.Spec PyProof.Rows L2 HotX L2H
section
variable {prog : Program} {w : World} {A : Around} {E : Value → Shared → Prop} {s : Shared}
theorem next_list_end_hot {it l x1 : Addr} {i : Nat} {items} {Q : Option Value → Shared → Prop} (hot : HotAt A x1 s.heap) (hne : x1 ≠ it) (hit : s.heap.IsListIter it l i) (hl : s.heap.IsList l items) (hx : items[i]? = none)
    (hQ : ∀ h', Heap.ExtBut it s.heap h' → Q none { s with heap := h' }) : wpAny (model prog w) A (pyNext (.ref it)) Q E s := by
  obtain ⟨o, ho, hc, hd⟩ := id hit
  obtain ⟨ol, hol, _, nl, hdl⟩ := hl
  obtain ⟨hh, o1, vs1, h1, d1, c1⟩ := hot
  unfold pyNext
  refine wpAny_bind (wpAny_attempt (wpAny_callSpecial?_slot (name := Str.ofString "__next__") hit.typeIs slot_listiter_next
    (wpAny_call_entry slot_listiter_next hit.typeIs entry_listiter_next ?_ (args_listiter_next _))))
  show wpAny _ _ (field (.ref it) 0 >>= _) _ _ s
  refine wpAny_bind (wpAny_field ho hd (x := .ref l) rfl ?_)
  show wpAny _ _ (if (Value.ref l == Value.none) = true then _ else _) _ _ s
  rw [if_neg (show ¬ ((Value.ref l == Value.none) = true) from Bool.false_ne_true)]
  show wpAny _ _ (field (.ref it) 1 >>= _) _ _ s
  refine wpAny_bind (wpAny_field ho hd (x := .int i 0) rfl ?_)
  show wpAny _ _ (seqItems? (.ref l) >>= _) _ _ s
  refine wpAny_bind (wpAny_seqItems hol hdl ?_)
  simp only [Int.toNat_natCast, hx]
  refine wpAny_bind (wpAny_rule (wpAny_bind (wpAny_setField ho hd (by simp) ?_)))
  show wpAny _ _ (newExc (.type "StopIteration") [] >>= _) _ _ _
  refine wpAny_bind ?_
  simp only [newExc, newTuple]
  refine wpAny_bind (wpAny_newObj_type ?_ (by size_fits))
  refine wpAny_bind (m := firstArgMember _ _) (wpAny_of_eq (a := Value.none) (by first | rfl | (simp only [firstArgMember]; rfl)) ?_)
  refine wpAny_newObj_type ?_ (by size_fits)
  have k1 : ∀ b o', b ≠ it → s.heap.get? b = some o' → (s.heap.update it (Obj.mapFields (·.setIfInBounds 0 Value.none))).get? b = some o' := fun b o' hb e => (Heap.get?_update_other _ _ (Ne.symm hb)).trans e
  refine raiseNew_hot ⟨hh, o1, vs1, Heap.get?_push_of_some _ (Heap.get?_push_of_some _ (k1 _ _ hne h1)), d1, c1⟩ (Nat.ne_of_lt (Heap.lt_size (Heap.get?_push_of_some _ (k1 _ _ hne h1)))) (Heap.get?_push_size _ rfl) rfl (by first | (simp; done) | (simp; omega) | (simp only [Array.size_append]; simp; omega)) ?_
  refine wpAny_bind (wpAny_isInstance (T := "StopIteration") (b := true) ⟨_, Heap.get?_update_self _ (Heap.get?_push_size _ rfl) rfl, rfl⟩ isSubtype_stop ?_)
  refine wpAny_pure (hQ _ fun b o' hb e => ?_)
  rw [Heap.get?_update_other _ _ (Nat.ne_of_gt (Heap.lt_size (Heap.get?_push_of_some _ (k1 _ _ hb e))))]
  exact Heap.get?_push_of_some _ (Heap.get?_push_of_some _ (k1 _ _ hb e))
theorem next_tuple_end_hot {it t x1 : Addr} {i : Nat} {items} {Q : Option Value → Shared → Prop} (hot : HotAt A x1 s.heap) (hne : x1 ≠ it)
    (hit : IsTupIter s.heap it t i) (ht : IsTup s.heap t items) (hx : items[i]? = none)
    (hQ : ∀ h', Heap.ExtBut it s.heap h' → Q none { s with heap := h' }) : wpAny (model prog w) A (pyNext (.ref it)) Q E s := by
  obtain ⟨o, ho, hc, hd⟩ := id hit
  obtain ⟨ol, hol, _, nl, hdl⟩ := ht
  obtain ⟨hh, o1, vs1, h1, d1, c1⟩ := hot
  unfold pyNext
  refine wpAny_bind (wpAny_attempt (wpAny_callSpecial?_slot (name := Str.ofString "__next__") hit.typeIs slot_tupleiter_next
    (wpAny_call_entry slot_tupleiter_next hit.typeIs entry_tupleiter_next ?_ (args_tupleiter_next _))))
  show wpAny _ _ (field (.ref it) 0 >>= _) _ _ s
  refine wpAny_bind (wpAny_field ho hd (x := .ref t) rfl ?_)
  show wpAny _ _ (if (Value.ref t == Value.none) = true then _ else _) _ _ s
  rw [if_neg (show ¬ ((Value.ref t == Value.none) = true) from Bool.false_ne_true)]
  show wpAny _ _ (field (.ref it) 1 >>= _) _ _ s
  refine wpAny_bind (wpAny_field ho hd (x := .int i 0) rfl ?_)
  show wpAny _ _ (seqItems? (.ref t) >>= _) _ _ s
  refine wpAny_bind (wpAny_seqItems hol hdl ?_)
  simp only [Int.toNat_natCast, hx]
  refine wpAny_bind (wpAny_rule (wpAny_bind (wpAny_setField ho hd (by simp) ?_)))
  show wpAny _ _ (newExc (.type "StopIteration") [] >>= _) _ _ _
  refine wpAny_bind ?_
  simp only [newExc, newTuple]
  refine wpAny_bind (wpAny_newObj_type ?_ (by size_fits))
  refine wpAny_bind (m := firstArgMember _ _) (wpAny_of_eq (a := Value.none) (by first | rfl | (simp only [firstArgMember]; rfl)) ?_)
  refine wpAny_newObj_type ?_ (by size_fits)
  have k1 : ∀ b o', b ≠ it → s.heap.get? b = some o' → (s.heap.update it (Obj.mapFields (·.setIfInBounds 0 Value.none))).get? b = some o' := fun b o' hb e => (Heap.get?_update_other _ _ (Ne.symm hb)).trans e
  refine raiseNew_hot ⟨hh, o1, vs1, Heap.get?_push_of_some _ (Heap.get?_push_of_some _ (k1 _ _ hne h1)), d1, c1⟩ (Nat.ne_of_lt (Heap.lt_size (Heap.get?_push_of_some _ (k1 _ _ hne h1)))) (Heap.get?_push_size _ rfl) rfl (by first | (simp; done) | (simp; omega) | (simp only [Array.size_append]; simp; omega)) ?_
  refine wpAny_bind (wpAny_isInstance (T := "StopIteration") (b := true) ⟨_, Heap.get?_update_self _ (Heap.get?_push_size _ rfl) rfl, rfl⟩ isSubtype_stop ?_)
  refine wpAny_pure (hQ _ fun b o' hb e => ?_)
  rw [Heap.get?_update_other _ _ (Nat.ne_of_gt (Heap.lt_size (Heap.get?_push_of_some _ (k1 _ _ hb e))))]
  exact Heap.get?_push_of_some _ (Heap.get?_push_of_some _ (k1 _ _ hb e))
theorem HotAt.ext {x1 it : Addr} {h h' : Heap} (hot : HotAt A x1 h) (e : Heap.ExtBut it h h') (hne : x1 ≠ it) : HotAt A x1 h' := by
  obtain ⟨hh, o1, vs1, h1, d1, c1⟩ := hot
  exact ⟨hh, o1, vs1, e x1 o1 hne h1, d1, c1⟩
theorem unpackItems_hot {t x1 : Addr} {items : Array Value} {Q : List Value → Shared → Prop} (hot : HotAt A x1 s.heap) (ht : IsTup s.heap t items)
    (hQ : ∀ h', Heap.ExtBut s.heap.objs.size s.heap h' → Q items.toList { s with heap := h' }) : wpAny (model prog w) A (unpackItems (.ref t) items.size none) Q E s := by
  have hlt : t ≠ s.heap.objs.size := by obtain ⟨o, ho, _⟩ := ht; exact Nat.ne_of_lt (Heap.lt_size ho)
  have hx1 : x1 ≠ s.heap.objs.size := by obtain ⟨_, o, _, ho, _⟩ := hot; exact Nat.ne_of_lt (Heap.lt_size ho)
  unfold unpackItems
  refine wpAny_bind ?_
  unfold notIterableAtAll
  refine wpAny_bind (wpAny_specialOf ht.typeIs slot_tuple_iter.lookup ?_)
  refine wpAny_pure ?_
  simp only [Bool.false_eq_true, if_false]
  refine wpAny_bind (wpAny_holding (iter_tuple ht ?_))
  refine wpAny_bind (wpAny_holding (draw_tuple hlt items.size 0 _ _ ⟨_, Heap.get?_push_size _ rfl, rfl, rfl⟩ (ht.push _) (by omega) fun h₁ hit₁ hs₁ => ?_))
  have hall : List.take items.size (List.drop 0 items.toList) = items.toList := by
    rw [List.drop_zero]; exact List.take_of_length_le (by simp)
  rw [hall]
  rw [if_neg (by simp)]
  have ht₁ : IsTup h₁ t items := (ht.push _).extBut hs₁.extBut hlt
  have hot1 : HotAt A x1 h₁ := by
    obtain ⟨hh, o1, vs1, h1, d1, c1⟩ := hot
    exact ⟨hh, o1, vs1, hs₁.extBut _ _ hx1 (Heap.get?_push_of_some _ h1), d1, c1⟩
  refine wpAny_bind (wpAny_holding (next_tuple_end_hot hot1 hx1 hit₁ ht₁ (by simp) fun h₂ he₂ => ?_))
  simp only [Option.isSome_none, Bool.false_eq_true, if_false]
  refine wpAny_pure (hQ h₂ fun b o hb e => he₂ b o hb (hs₁.extBut b o hb (Heap.get?_push_of_some _ e)))
theorem assign_Tuple_hot {env : Env} {elts : List Expr} {k} {pos : Pos} {t x1 : Addr} {items : Array Value} {Q : Unit → Shared → Prop} (hot : HotAt A x1 s.heap) (ht : IsTup s.heap t items)
    (hn : (assignEach elts env).length = items.size) (hstar : (assignEach elts env).findIdx? (·.1) = none)
    (h : ∀ h', Heap.ExtBut s.heap.objs.size s.heap h' → wpAny (model prog w) A (assignInOrder ((assignEach elts env).map (·.2)) items.toList) Q E { s with heap := h' }) :
    wpAny (model prog w) A (assign (.Tuple elts k pos) env (.ref t)) Q E s := by
  rw [assign_Tuple]
  refine wpAny_bind (wpAny_standAt ?_)
  unfold unpack
  rw [hn, hstar]
  exact wpAny_bind (wpAny_holding (unpackItems_hot hot ht h))
end
/-! ### contexts that bear the handled exception -/
def HotB (X : Cx) (x1 : Addr) : Prop := ∀ pins σ H s, Inv X pins σ H s → HotAt X.A x1 s.heap
theorem hotB_pin {X : Cx} {p : Addr × Obj} (hot : Hot1 X.A p) (hp : p ∈ X.pn) : HotB X p.1 := fun pins σ H s I => by
  obtain ⟨hh, v1, e1, c1⟩ := hot
  exact ⟨hh, p.2, v1, (I.pin p (List.mem_append_left _ hp)).1, e1, c1⟩
theorem hotB_blk {X : Cx} {p : Addr × Obj} {pins : List (Addr × Obj)} {σ : L2.St} {H : Hp} {s : Shared} {scope : Scope} {ce : Env} {fp : List Addr} (hot : Hot1 X.A p) (hp : p ∈ X.pn) (I : Inv X pins σ H s) (hf : ∀ b ∈ fp, p.1 ≠ b) : HotB (X.blk s H scope ce fp) p.1 := fun pins' σ' H' s' I' => by
  obtain ⟨hh, v1, e1, c1⟩ := hot
  have P1 := I.pin p (List.mem_append_left _ hp)
  have nf : p.1 ∉ (X.blk s H scope ce fp).fs := fun hm => (List.mem_cons.mp (I.stkSub p.1 hm)).elim P1.2.2.1 P1.2.2.2.1
  exact ⟨hh, p.2, v1, I'.base.keep p.1 p.2 P1.1 P1.2.1 nf fun hm => hf p.1 hm rfl, e1, c1⟩
theorem pg_tupH {X : Cx} {es : List Expr} {k : Nat} {t : TGs} {n : Nat} {pos : Pos} {x1 : Addr} (K : PySem.W.Frag) (hc : HotB X x1) (h : PGs X es t)
    (hn : (assignEach es X.env).length = n := by rfl) (hst : (assignEach es X.env).findIdx? (·.1) = none := by rfl) (hK : X.K = K := by rfl) : PG X (.Tuple es k pos) (gTup K n t) := by
  subst hK
  refine ⟨fun pins s σ H v u Q I r hw => ?_⟩
  obtain ⟨a, xs, e1, hq, hl, hw⟩ := hw
  subst e1
  cases r
  obtain ⟨its, rv, ht, hz⟩ := I.tuple hq
  refine assign_Tuple_hot (hc pins σ H s I) ht (by simp [hn, ← hl, rv.length]) hst fun h' hx => ?_
  have I1 : Inv X pins σ H { s with heap := h' } := I.kept (t' := s.toks) fun b o e => hx b o (Nat.ne_of_lt (Heap.lt_size e)) e
  exact h.run pins _ σ H xs _ Q I1 (by simpa using rv) hw
end C19
set_option Elab.async false
set_option linter.all false
set_option maxRecDepth 100000
set_option maxHeartbeats 4000000
namespace C19
open PySem PySem.Spec PyProof.Rows L2 HotX L2H
/-! ### y = [elt for tg in l if ..] over a list, while an exception is handled -/
section
variable {X : Cx}
theorem list_turn {P : Program} {w : World} {K : PySem.W.Frag} {tg : Expr} (a it : Addr) {A : Around} {pins : List (Addr × Obj)} {s : Shared} {σ : L2.St} {H : Hp} {E : Value → Shared → Prop} {i : Nat} (hP : X.prog = P) (hw : X.w = w) (hK : X.K = K) (hA : X.A = A) (I : Inv X pins σ H s) (hf : FpOk X pins H it) (st : s.heap.IsListIter it a i) (hg : (Itl K a).go i H) :
    wpAny (model P w) A (pyNext (.ref it)) (fun r s1 => ∃ u, r = some u ∧
      wpAny (model P w) A (letOwnedTupleGo tg (.ref it) u) (fun _ s2 => ∃ x H', Inv X pins σ H' s2 ∧ RelV x u ∧ (Itl K a).yld i H x H' ∧ s2.heap.IsListIter it a (i + 1) ∧ H' it = none) E s1) E s := by
  subst hP hw hK hA
  obtain ⟨xs, x, hq, hx⟩ := hg
  obtain ⟨its, rv, p, hz⟩ := I.list hq
  obtain ⟨u, hu, ru⟩ := rv.get hx
  obtain ⟨f0, f1, f2, f3, f4, f5⟩ := hf
  refine wpAny_pyNext_list_item st p.isList (x := u) (by simpa using hu) fun h' st' sb => ?_
  have I1 : Inv X pins σ H { s with heap := h' } := I.turned (t' := s.toks) (fun b o hb e => (sb.2 b hb).trans e) f0 f1 f3 f4 f5
  obtain ⟨o, e, c, d⟩ := id st'
  exact ⟨u, rfl, go_of (s := { s with heap := h' }) e c d (by decide) ⟨x, H, I1, ru, ⟨rfl, fun ys hy => by rw [I.list_inj hy hq]; exact hx⟩, st', f0⟩⟩
theorem list_done (a it : Addr) {x1 : Addr} {pins : List (Addr × Obj)} {s : Shared} {σ : L2.St} {H : Hp} {E : Value → Shared → Prop} {i : Nat} (hot : HotAt X.A x1 s.heap) (hne : x1 ≠ it) (I : Inv X pins σ H s) (hf : FpOk X pins H it) (st : s.heap.IsListIter it a i) (hg : (Itl X.K a).stop i H) :
    wpAny (model X.prog X.w) X.A (pyNext (.ref it)) (fun r s1 => r = none ∧ Inv X pins σ H s1) E s := by
  obtain ⟨xs, hq, hx⟩ := hg
  obtain ⟨its, rv, p, hz⟩ := I.list hq
  obtain ⟨f0, f1, f2, f3, f4, f5⟩ := hf
  have hl := rv.length
  exact next_list_end_hot hot hne st p.isList (by simp; omega) fun h' eb => ⟨rfl, I.turned (t' := s.toks) (fun b o hb e => eb b o hb e) f0 f1 f3 f4 f5⟩
theorem keep_iter {h h' : Heap} {it a : Addr} {i : Nat} (st : h.IsListIter it a i) (k : ∀ o, h.get? it = some o → h'.get? it = some o) : h'.IsListIter it a i := st.at fun o e => k o e
theorem iter_obj {h : Heap} {it a : Addr} {i : Nat} (st : h.IsListIter it a i) : ∀ b ∈ [it], ∃ o, h.get? b = some o ∧ ∀ v, o.data ≠ .cell v := fun b hb => by
  have e : b = it := by simpa using hb
  subst e
  obtain ⟨o, e, c, d⟩ := st
  exact ⟨o, e, fun v z => by rw [d] at z; cases z⟩
theorem lc_hot {pins : List (Addr × Obj)} {s : Shared} {σ : L2.St} {H : Hp} {Q : VK} {elt tg iter : Expr} {ifs : List Expr} {scope : Scope} {own : List (Str × Nat)} {pos pos' : Pos} {tl : TE} {g : TG} {tt : TT} {te : TE} {use : Option (Value → Sem Unit)} {Qf : Value → Shared → Prop} {p : Addr × Obj}
    (hot : Hot1 X.A p) (hp : p ∈ X.pn) (hN : X.N.Nodup) (I : Inv X pins σ H s) (hi : PE X iter tl) (ok : BlkOk X.N X.env.scope scope own)
    (hg : ∀ (s : Shared) (H : Hp) (C : Addr) (cl : List (Str × Addr)) (fp : List Addr), HotB (X.blk s H scope (compEnvC scope cl C X.env) fp) p.1 → PG (X.blk s H scope (compEnvC scope cl C X.env) fp) tg g) (ht : ∀ (s : Shared) (H : Hp) (C : Addr) (cl : List (Str × Addr)) (fp : List Addr), PTs (X.blk s H scope (compEnvC scope cl C X.env) fp) ifs tt)
    (he : ∀ (s : Shared) (H : Hp) (C : Addr) (cl : List (Str × Addr)) (fp : List Addr), PE (X.blk s H scope (compEnvC scope cl C X.env) fp) elt te) (hs : ∀ x, foldedSetIterable iter X.env x = pure x)
    (h : tLc (iList X.K tl) g tt te (own.map (·.2)) σ H Q)
    (hRR : ∀ D C s' m H', Inv X pins σ H' s' → Q (.ref D) H' → s'.heap.Ns C m → FpOk X pins H' C → compPost (model X.prog X.w) X.A X.xe use Qf (.ref D) C (.ok .next) s') :
    wpAny (model X.prog X.w) X.A (comprehension (.ListComp elt [⟨tg, iter, ifs, 0⟩] scope pos) scope X.env pos' (newList []) false (eval iter X.env) use) Qf X.xe s := by
  have hfree : ∀ y ∈ scope.names, y.2 = .free → ∃ c, X.env.cells.lookup y.1 = some c := fun y hy e => by
    rcases ok.free y hy e with k | k
    · exact I.ok.has _ (.inl k)
    · exact I.ok.has _ (.inr k)
  refine wpAny_comprehension_free (use := use) rfl hs (closure_ok hfree) ok.kind (fun y hy e => by rw [ok.uniq y hy, e])
    (thn (hi.run pins s σ H _ I h) fun xv s1 hx => ?_)
  obtain ⟨xV, H2, I1, r1, a, e, ⟨xs0, hq0⟩, q⟩ := hx
  subst e
  cases r1
  obtain ⟨its, rv, pl, hz⟩ := I1.list hq0
  refine wpAny_pyIter_list pl.isList ?_
  -- the iterator stands
  generalize hit : s1.heap.objs.size = it
  have st2 : (s1.heap.push { cls := .type "list_iterator", data := .fields #[.ref a, .int 0 0] }).IsListIter it a 0 := by
    rw [← hit]
    exact ⟨_, Heap.get?_push_size _ rfl, rfl, rfl⟩
  have I2 : Inv X pins σ H2 { s1 with heap := s1.heap.push { cls := .type "list_iterator", data := .fields #[.ref a, .int 0 0] } } := I1.kept (t' := s1.toks) fun b o e => Heap.get?_push_of_some _ e
  have f2 : FpOk X pins H2 it := by
    rw [← hit]
    exact I1.fpOk (Nat.le_refl _) (I1.hok.fresh (Nat.le_refl _))
  generalize hs2 : ({ s1 with heap := s1.heap.push { cls := .type "list_iterator", data := .fields #[.ref a, .int 0 0] } } : Shared) = s2 at I2
  have st2 : s2.heap.IsListIter it a 0 := by
    rw [← hs2]
    exact st2
  refine wpAny_newObj_type (newEnv_comp ?_) (by show 0 ≤ sizeLine; decide)
  generalize hD : s2.heap.objs.size = D
  have hDn : H2 D = none := I2.hok.fresh (Nat.le_of_eq hD)
  obtain ⟨W, ⟨m0, w0⟩, turn⟩ := q D hDn
  generalize hs3 : ({ s2 with heap := s2.heap.push { cls := .type "list", data := .seq ([] : List Value).toArray } } : Shared) = s3
  have I3 : Inv X pins σ (upd H2 D (.lst [])) s3 := by
    rw [← hs3]
    refine I2.laid (t' := s2.toks) (fun b o e => Heap.get?_push_of_some _ e) (Nat.le_of_eq hD) ⟨Nat.zero_le _, [], 0, .nil, ?_⟩
    rw [← hD]
    exact Heap.get?_push_size _ rfl
  have h3 : s3.heap = s2.heap.push { cls := .type "list", data := .seq ([] : List Value).toArray } := by rw [← hs3]
  have hlt : it < s2.heap.objs.size := by
    obtain ⟨o, e, _⟩ := st2
    exact Heap.lt_size e
  have f3 : ∀ b ∈ [it], FpOk X pins (upd H2 D (.lst [])) b ∧ b < s3.heap.objs.size := fun b hb => by
    have e : b = it := by simpa using hb
    subst e
    refine ⟨⟨?_, f2.2⟩, by rw [h3, Heap.size_push]; exact Nat.lt_succ_of_lt hlt⟩
    rw [upd_ne (by rw [← hD]; exact Nat.ne_of_lt hlt)]
    exact f2.1
  have st3 : s3.heap.IsListIter it a 0 := keep_iter st2 fun o e => by rw [h3]; exact Heap.get?_push_of_some _ e
  have I4 := block_start I3 ok hN f3
  have nit : p.1 ≠ it := f2.2.2.2.2.2 p (List.mem_append_left _ hp)
  have hB := hotB_blk (scope := scope) (ce := compEnvC scope (cellsFrom (s3.heap.objs.size + 1) scope.names (cloFrom X.env.cells scope.names [])) s3.heap.objs.size X.env) (fp := [it]) hot hp I3 fun b hb => by
    have e : b = it := by simpa using hb
    subst e
    exact nit
  have pg := hg s3 (upd H2 D (.lst [])) s3.heap.objs.size (cellsFrom (s3.heap.objs.size + 1) scope.names (cloFrom X.env.cells scope.names [])) [it] hB
  have pt := ht s3 (upd H2 D (.lst [])) s3.heap.objs.size (cellsFrom (s3.heap.objs.size + 1) scope.names (cloFrom X.env.cells scope.names [])) [it]
  have pe := he s3 (upd H2 D (.lst [])) s3.heap.objs.size (cellsFrom (s3.heap.objs.size + 1) scope.names (cloFrom X.env.cells scope.names [])) [it]
  show codeAny _ _ (.compStart (.ListComp elt [⟨tg, iter, ifs, 0⟩] scope pos) 0 (.ref it) (.ref D) (compEnvC scope (cellsFrom (s3.heap.objs.size + 1) scope.names (cloFrom X.env.cells scope.names [])) s3.heap.objs.size X.env)) (compPost (model X.prog X.w) X.A X.xe use Qf (.ref D) s3.heap.objs.size) { s3 with heap := pushCells (s3.heap.push { cls := .type "dict", data := .dict #[] }) scope.names }
  have nfp : (upd H2 D (.lst [])) it = none := (f3 it (by simp)).1.1
  generalize hce : compEnvC scope (cellsFrom (s3.heap.objs.size + 1) scope.names (cloFrom X.env.cells scope.names [])) s3.heap.objs.size X.env = ce at I4 pg pt pe hB ⊢
  have cL : ce.locals = s3.heap.objs.size := by subst hce; rfl
  generalize hH3 : upd H2 D (.lst []) = H3 at I3 I4 pg pt pe hB w0 nfp f3
  generalize hs4 : ({ s3 with heap := pushCells (s3.heap.push { cls := .type "dict", data := .dict #[] }) scope.names } : Shared) = s4 at I4 ⊢
  have st4 : s4.heap.IsListIter it a 0 := keep_iter st3 fun o e => by rw [← hs4]; exact pushCells_keeps _ _ _ _ (Heap.get?_push_of_some _ e)
  have stat : ∀ {σ' : L2.St} {H' : Hp} {s' : Shared}, Inv (X.blk s3 H3 scope ce [it]) [] σ' H' s' → H' it = none → FpOk (X.blk s3 H3 scope ce [it]) [] H' it := fun {σ' H' s'} I' hn =>
    ⟨hn, (I'.ok.exf it (by simp)).1, I'.ok.exfs it (by simp), .inl (by simp), fun x c e => (I'.ok.exf it (by simp)).2 x c e, fun p hp => absurd (show p ∈ ([] : List (Addr × Obj)) ++ [] from hp) (by simp)⟩
  have loop : codeAny (model X.prog X.w) X.A (.compLoop (.ListComp elt [⟨tg, iter, ifs, 0⟩] scope pos) 0 (.ref it) (.ref D) ce) (compPost (model X.prog X.w) X.A X.xe use Qf (.ref D) s3.heap.objs.size) s4 := by
    refine compLoop_any (fun n s' => ∃ i H', Inv (X.blk s3 H3 scope ce [it]) [] (wipe σ (own.map (·.2))) H' s' ∧ s'.heap.IsListIter it a i ∧ H' it = none ∧ W i n H') ?_ m0 ⟨0, H3, I4, st4, nfp, w0⟩
    rintro n s5 ⟨i, H5, I5, st5, n5, w5⟩
    rcases turn i n H5 w5 with ⟨stop, qq⟩ | ⟨go, Nx, hNx, step⟩
    · have td := list_done (X := X.blk s3 H3 scope ce [it]) (E := fun _ _ => False) a it (hB _ _ _ _ I5) nit I5 (stat I5 n5) st5 stop
      refine thnF td fun r s6 ⟨hr, I6⟩ => ?_
      subst hr
      have I7 : Inv X pins σ H5 s6 := I3.call' (ch := [it]) I6.os I6.base I6.hok I6.bare fun b hb => ⟨(f3 b hb).1.2.2.2.1, (f3 b hb).1.2.1, (f3 b hb).1.2.2.2.2.1, (f3 b hb).1.2.2.2.2.2⟩
      have nC : H5 s3.heap.objs.size = none := by
        have z : H5 ce.locals = none := I6.free
        rw [cL] at z
        exact z
      obtain ⟨m, hn, _⟩ := I6.loc
      have hn : s6.heap.Ns ce.locals m := hn
      rw [cL] at hn
      exact hRR D s3.heap.objs.size s6 m H5 I7 qq hn (I3.fpOk (Nat.le_refl _) nC)
    · have ti := list_turn (X := X.blk s3 H3 scope ce [it]) (E := fun _ _ => False) (tg := tg) a it rfl rfl rfl rfl I5 (stat I5 n5) st5 go
      refine thnF ti fun r s6 ⟨u, hr, h6⟩ => ?_
      subst hr
      refine thnF h6 fun _ s7 ⟨x, H7, I7, r7, y7, st7, n7⟩ => ?_
      have I7' := I7.pinned (fp := [it]) (fun b hb => by
        have e : b = it := by simpa using hb
        subst e
        exact stat I7 n7) (iter_obj st7)
      refine thnF (pg.run _ s7 _ H7 x u _ I7' r7 (step x H7 y7)) fun _ s8 ⟨σ8, H8, I8, hw8, q8⟩ => ?_
      refine thnF (pt.run _ s8 σ8 H8 _ I8 q8) fun b s9 ⟨H9, I9, q9⟩ => ?_
      have fin : ∀ {s' : Shared} {H' : Hp}, Inv (X.blk s3 H3 scope ce [it]) ([] ++ pinsAt [it] s7.heap) σ8 H' s' → Nx H' → ∃ m, m < n ∧ ∃ i H', Inv (X.blk s3 H3 scope ce [it]) [] (wipe σ (own.map (·.2))) H' s' ∧ s'.heap.IsListIter it a i ∧ H' it = none ∧ W i m H' := fun {s' H'} I' nx => by
        obtain ⟨m', hm, w'⟩ := hNx H' nx
        have pin' : ∀ o, s7.heap.get? it = some o → s'.heap.get? it = some o ∧ H' it = none := fun o e =>
          let z := I'.pin (it, o) (List.mem_append_right _ (List.mem_append_right _ (mem_pinsAt (by simp) e)))
          ⟨z.1, z.2.1⟩
        have hl : (wipe σ (own.map (·.2))).length = σ8.length := by rw [← hw8, wipe_length]
        refine ⟨m', hm, i + 1, H', (I'.unpinned (pins := [])).weak hl (fun j v e => ?_), keep_iter st7 fun o e => (pin' o e).1, ?_, w'⟩
        · rw [← hw8] at e
          exact (wipe_some e).1
        · obtain ⟨o, e, _⟩ := id st7
          exact (pin' o e).2
      cases b with
      | false =>
        simp only [Bool.false_eq_true, if_false] at q9 ⊢
        exact fin I9 q9
      | true =>
        simp only [if_true] at q9 ⊢
        refine thnF (pe.run _ s9 σ8 H9 _ I9 q9) fun z s10 ⟨yv, H10, I10, r10, acc, hD10, hz10, nx⟩ => ?_
        exact app_ok (X := X.blk s3 H3 scope ce [it]) I10 hD10 hz10 r10 fun s11 I11 => fin I11 nx
  exact codeAny_compStart_list loop (wpAny_pyIter_listiter st4 loop)
theorem ps_setLcH {i : Nat} {y : Str} {py : Pos} {elt tg iter : Expr} {ifs : List Expr} {scope : Scope} {own : List (Str × Nat)} {pos spos : Pos} {tl : TE} {g : TG} {tt : TT} {te : TE} {p : Addr × Obj} (K : PySem.W.Frag) (hot : Hot1 X.A p) (hp : p ∈ X.pn) (hN : X.N.Nodup) (hy : X.N[i]? = some y) (hyl : X.env.scope.names.lookup y = some .local)
    (hsw : swapsWith (.ListComp elt [⟨tg, iter, ifs, 0⟩] scope pos) (some (.Name y py)) spos.line X.env = pure true) (hi : PE X iter tl) (ok : BlkOk X.N X.env.scope scope own)
    (hg : ∀ (s : Shared) (H : Hp) (C : Addr) (cl : List (Str × Addr)) (fp : List Addr), HotB (X.blk s H scope (compEnvC scope cl C X.env) fp) p.1 → PG (X.blk s H scope (compEnvC scope cl C X.env) fp) tg g) (ht : ∀ (s : Shared) (H : Hp) (C : Addr) (cl : List (Str × Addr)) (fp : List Addr), PTs (X.blk s H scope (compEnvC scope cl C X.env) fp) ifs tt)
    (he : ∀ (s : Shared) (H : Hp) (C : Addr) (cl : List (Str × Addr)) (fp : List Addr), PE (X.blk s H scope (compEnvC scope cl C X.env) fp) elt te) (hs : ∀ x, foldedSetIterable iter X.env x = pure x := by intro _; rfl) (hK : X.K = K := by rfl) :
    PS X (.Assign [.Name y py] (.ListComp elt [⟨tg, iter, ifs, 0⟩] scope pos) spos) (tAsg (tLc (iList K tl) g tt te (own.map (·.2))) (gName i)) := by
  subst hK
  refine ⟨fun pins s σ H D I h => ?_⟩
  rw [exec_Assign_Name_used _ _ _ _ hsw]
  refine wpAny_bind (wpAny_standAt (wpAny_bind ?_))
  show wpAny _ X.A (do let _ ← comprehension (.ListComp elt [⟨tg, iter, ifs, 0⟩] scope pos) scope X.env (firstIterPos [⟨tg, iter, ifs, 0⟩] pos) (newList []) false (eval iter X.env) (some (assign (.Name y py) X.env))) _ _ s
  have h : tLc (iList X.K tl) g tt te (own.map (·.2)) σ H (fun x H1 => gName i x σ H1 D.nx) := h
  refine wpAny_bind (thn (lc_hot (Qf := fun _ s' => SP X pins D .next s') hot hp hN I hi ok hg ht he hs h fun L C s' m H' I' q hn f => ?_) fun _ s' hq => wpAny_pure (wpAny_pure hq))
  show wpAny _ _ (assign (.Name y py) X.env (.ref L)) _ _ _
  refine wpAny_assign_Name (store_ok2 (v := V.ref L) I' hN hy (.inl hyl) rfl (fun s2 I2 ⟨a, sb, ha⟩ => ?_) (.inr hyl))
  obtain ⟨f0, f1, f2, f3, f4, f5⟩ := f
  have haC : C ≠ a := by
    rcases ha with z | z
    · rw [z]; exact f1
    · exact fun e => f4 y a z e.symm
  refine ⟨m, hn.sameBut sb haC, fun h3 sb3 => ?_⟩
  exact ⟨_, H', I2.turned (t' := s2.toks) (fun b o hb e => (sb3.2 b hb).trans e) f0 f1 f3 f4 f5, q⟩
end
/-! ### a def that is told which exception is handled -/
structure FnHp (P : Program) (w : World) (K : PySem.W.Frag) (mg : Str → Option Value) (base : Heap) (k : Nat) (f : Addr) (fd : FuncData) (ps : List Str) (sp : Addr × Obj → Sp) : Prop where
  len : ∀ p vs H Q E, sp p vs H Q E → vs.length = ps.length
  run : ∀ (A : Around) (outer : List Env) (s : Shared) (H : Hp) (args : Args) (us : List Value) (vs : List V) (Q : VK) (E : XK) (p : Addr × Obj), RoomH k A → Hot1 A p → PinOk outer H s p → Env0 P w K mg base A outer s H → BindsTo s fd args (ps.zip us) → Vals vs us → sp p vs H Q E →
    codeAny (model P w) A (.call (.ref f) args) (CR CX0 outer P w H s Q E) s
theorem fn_ofHp {P : Program} {w : World} {K : PySem.W.Frag} {mg : Str → Option Value} {base : Heap} {k : Nat} {f : Addr} {name qual : Str} {params : Arguments} {body : List Stmt} {scope : Scope} {fd : FuncData} {N ps : List Str} {sp : Addr × Obj → Sp}
    (F : FunD K name qual params body scope [] [] f fd) (S : FnScope N ps scope) (len : ∀ p vs H Q E, sp p vs H Q E → vs.length = ps.length)
    (hbody : ∀ (cdv : Value) (A : Around) (outer : List Env) (s : Shared) (H : Hp) (vs : List V) (Q : VK) (E : XK) (p : Addr × Obj), Hot1 A p → RoomH k (A.deeper (envOfC qual scope s.heap.objs.size f cdv)) → sp p vs H Q E →
      ∃ t, PSs (cxH CX0 P w K mg base N qual scope f cdv A outer s H E p) body t ∧ t { nx := fun _ H' => Q .non H', rt := Q } (L2.start N vs) H) :
    FnHp P w K mg base (k + 1) f fd ps sp := by
  obtain ⟨oc, od, dV, kV, doc, pm, an, cdv, ct, osl, rfl, lk, hcd, _, _⟩ := F.ex
  refine ⟨len, fun A outer s H args us vs Q E p hr hot hpin e0 hb r hsp => ?_⟩
  have hl := len _ _ _ _ _ hsp
  have KX : K.In s.heap := e0.mod.kin.keeps fun b o e => (e0.bs b o e).1
  have lim : s.heap.NoLimit := e0.mod.nolimit.keeps fun b o e => (e0.bs b o e).1
  have hkind : ∀ y ∈ ps.zip us, scope.names.lookup y.1 = some .local ∨ (scope.names.lookup y.1 = some .cell ∧ ((cellsFrom (s.heap.objs.size + 1) scope.names []).lookup y.1).isSome = true) := fun ⟨n, v⟩ hy => by
    rcases S.par n (List.of_mem_zip hy).1 with q | q
    · exact .inl q
    · exact .inr ⟨q, PySem.W.cellsFrom_some _ _ _ (.inl q)⟩
  refine codeAny_call_function hr.depth (KX _ _ lk) rfl S.co S.gen rfl (PySem.W.codeRec_of KX hcd) (hb _ _ _ _ ?_)
  refine wpAny_newFunctionEnv_cells S.kind hkind fun env he s1 x => ?_
  subst he
  refine ⟨lim.keeps x.toInCall.keep, codeAny_func ?_⟩
  obtain ⟨t, ht, hq⟩ := hbody cdv A outer s H vs Q E p hot (hr.deeper _) hsp
  have I : Inv (cxH CX0 P w K mg base N qual scope f cdv A outer s H E p) [] (L2.start N vs) H s1 := inv_startH S hpin e0 hl r x
  refine wpAny_mono (ht.run [] s1 (L2.start N vs) H _ I hq) (fun fl s' hs => ?_) fun e s' hs => hs
  have fin : ∀ {σ' : L2.St} {H' : Hp} {v : V} {u : Value}, Inv (cxH CX0 P w K mg base N qual scope f cdv A outer s H E p) [] σ' H' s' → RelV v u → Q v H' → CE outer P w H s Q u s' :=
    fun {σ' H' v u} J rv q => ⟨v, H', J.os, J.bare, J.base, J.hok, rv, q⟩
  cases fl with
  | ret u =>
    obtain ⟨v, σ', H', J, rv, q⟩ := hs
    exact fin J rv q
  | next =>
    obtain ⟨σ', H', J, q⟩ := hs
    exact fin (v := V.non) (u := Value.none) J rfl q
  | brk =>
    obtain ⟨_, _, _, q⟩ := hs
    exact False.elim q
  | cont =>
    obtain ⟨_, _, _, q⟩ := hs
    exact False.elim q
section
variable {X : Cx} {k : Nat} {f : Addr} {fd : FuncData} {ps : List Str} {sp : Addr × Obj → Sp} {x : Str} {q pos : Pos} {e : Expr} {es : List Expr} {t : TA}
/-- such a call, in a suite that holds the exception -/
theorem pe_callHp {p : Addr × Obj} (F : FnHp X.prog X.w X.K X.mg X.base k f fd ps sp) (hr : RoomH k X.A) (hot : Hot1 X.A p) (hp : p ∈ X.pn) (hg : Gl X x) (hm : X.mg x = some (.ref f)) (hk : PySem.W.keepIn X.K (.ref f) = true) (hb : Binds X.K fd ps [])
    (ha : PA X (e :: es) t) (hdb : (x == ("__debug__" : Str)) = false := by decide) (he : starEach (e :: es) X.env = (false, eval e X.env) :: starEach es X.env := by rfl) (hpl : (backTo pos (starEach es X.env)).any (·.1) = false := by rfl) :
    PE X (.Call (.Name x q) (e :: es) [] pos) (fun σ H Q => t σ H fun vs H1 => sp p vs H1 Q fun _ _ _ => False) := by
  refine ⟨fun pins s σ H Q I h => ?_⟩
  refine wpAny_Call_Name_kw (ld_glob I hg hm ?_ hdb)
  refine PySem.W.callWith_K (h₀ := X.base) I.ok.mod.kin hk (thn (ha.run pos pins s σ H _ I h) fun us s1 ⟨vs, H1, I1, r, q1⟩ => ⟨I1.kIn, ?_⟩) he hpl
  have hl : us.length = ps.length := by rw [← r.length]; exact F.len _ _ _ _ _ q1
  have b := hb s1 us I1.kIn (by rw [List.append_nil]; exact hl)
  rw [List.append_nil] at b
  have P1 := I1.pin p (List.mem_append_left _ hp)
  have hpin : PinOk X.stack H1 s1 p := ⟨P1.1, P1.2.1, fun hm => (List.mem_cons.mp (I1.stkSub p.1 hm)).elim P1.2.2.1 P1.2.2.2.1, P1.2.2.2.2⟩
  refine wpAny_call (codeAny_mono (F.run X.A X.stack s1 H1 ⟨us, []⟩ us vs Q _ p hr hot hpin I1.env0 b r q1) fun r s' hq => ?_)
  cases r with
  | error e => exact False.elim hq
  | ok fl =>
    cases fl with
    | ret u => exact I1.after hq
    | next => exact False.elim hq
    | brk => exact False.elim hq
    | cont => exact False.elim hq
/-! ### isinstance of the exception that is handled -/
theorem inst_pin {X : Cx} {p : Addr × Obj} {D : Addr} (hp : p ∈ X.pn) (hz : Zc (.ref D) none p.2) (hf : ∃ vs, p.2.data = .fields vs) {pins : List (Addr × Obj)} {σ : L2.St} {H : Hp} {s : Shared} (I : Inv X pins σ H s) : PySem.W.InstAt s.heap p.1 p.2 D none := by
  obtain ⟨hget, _⟩ := I.pin p (List.mem_append_left _ hp)
  obtain ⟨pa, oe⟩ := p
  obtain ⟨vs, hv⟩ := hf
  obtain ⟨oc, od, oda, osl⟩ := oe
  obtain ⟨h1, h2⟩ := hz
  dsimp only at h1 h2 hv
  subst h1 h2 hv
  exact ⟨hget, rfl, rfl, trivial⟩
theorem call_isEp {X : Cx} {p : Addr × Obj} {D : Addr} (C : ExcC X.K D) (hp : p ∈ X.pn) (hz : Zc (.ref D) none p.2) (hf : ∃ vs, p.2.data = .fields vs) : CallR X (.builtin "isinstance") (rIsE X.K D p.1) := by
  intro pins s σ H xs us Q I r h
  obtain ⟨c, cv, b, rfl, hcv, e, q⟩ := h
  cases r with
  | cons rx rr =>
    cases rr with
    | cons rt rr =>
      cases rr
      cases rx
      have ec := hcv _ rt
      subst ec
      exact PySem.W.kia_one (PySem.W.handS_kitx_exc C.hg C.hk C.hs C.hd C.ha C.hn C.ht C.hm) I.kIn (inst_pin hp hz hf I) e (fun z => nomatch z) fun tk => ⟨.bl b, H, I.kept (t' := tk) fun _ _ z => z, rfl, q⟩
def rIsET (K : PySem.W.Frag) (D a : Addr) : List V → Hp → VK → Prop := fun xs H Q => ∃ (tp : Addr) (cs : List V) (us : List Value) (b : Bool), xs = [.ref a, .ref tp] ∧ H tp = some (.tup cs) ∧ Paired ClsV cs us ∧ PySem.W.kitAny K (.ref D) us = some b ∧ Q (.bl b) H
theorem call_isETp {X : Cx} {p : Addr × Obj} {D : Addr} (C : ExcC X.K D) (hp : p ∈ X.pn) (hz : Zc (.ref D) none p.2) (hf : ∃ vs, p.2.data = .fields vs) : CallR X (.builtin "isinstance") (rIsET X.K D p.1) := by
  intro pins s σ H xs us Q I r h
  obtain ⟨tp, cs, ws, b, rfl, hT, k, e, q⟩ := h
  obtain ⟨u1, u2, rfl, r1, r2⟩ := vals2 r
  cases (show u2 = Value.ref tp from r2)
  cases (show u1 = Value.ref p.1 from r1)
  obtain ⟨_, its, rv, o, h1, h2, n, h3⟩ := (show ObjOk X.prog X.w H s.heap tp (.tup cs) from I.hok tp _ hT)
  have e3 := ClsV.all k rv
  subst e3
  obtain ⟨oc, od, dt, sl⟩ := o
  simp only at h2 h3
  subst h2 h3
  exact PySem.W.kia_tup (PySem.W.handS_kitx_exc C.hg C.hk C.hs C.hd C.ha C.hn C.ht C.hm) I.kIn (inst_pin hp hz hf I) h1 e (fun z => nomatch z) fun tk => ⟨.bl b, H, I.tok tk, rfl, q⟩
end
end C19
set_option Elab.async false
set_option linter.all false
set_option maxRecDepth 100000
set_option maxHeartbeats 4000000
namespace C19
open PySem PySem.Spec PyProof.Rows L2 Evl HotX L2H
def excN : List Str := ["FolioError", "BadPicture", "BadCell", "BadSize", "OutOfPlace", "BadText", "BadMask", "BadColour", "BadPalette", "NoColour", "TooMany", "BadRuns", "BadPack", "BadRule", "BadEdge", "BadPart", "BadHead", "BadCheck", "NoPart", "Twice", "BadName", "BadDeed", "NoPicture", "NothingDone"]
def isB (nm y : Str) : Bool := decide (y = "FolioError") || decide (y = nm)
/-- the error D of the name nm, asked against every error of the text -/
structure ExW (K : PySem.W.Frag) (mg : Str → Option Value) (nm : Str) (D : Addr) : Prop where
  c : ExcC K D
  k : ∀ y ∈ excN, ∃ C, mg y = some (.ref C) ∧ PySem.W.kitOne K (.ref D) (.ref C) = some (isB nm y)
  v : PySem.W.kitOne K (.ref D) (.type "ValueError") = some true
def WordOf (nm word : Str) : Prop := (nm = "BadPicture" ∧ word = "picture") ∨ (nm = "BadSize" ∧ word = "size") ∨ (nm = "NoColour" ∧ word = "none")
def items9 (nm : Str) : List (Str × Bool) := ([("cell", isB nm "BadCell"), ("colour", isB nm "BadColour"), ("pack", isB nm "BadPack")] : List (Str × Bool)) ++ ([("palette", isB nm "BadPalette"), ("picture", isB nm "BadPicture")] : List (Str × Bool)) ++ ([("size", isB nm "BadSize"), ("none", isB nm "NoColour")] : List (Str × Bool)) ++ ([("many", isB nm "TooMany"), ("runs", isB nm "BadRuns")] : List (Str × Bool))
theorem items_word {nm word : Str} (h : WordOf nm word) : ((items9 nm).filter fun c => c.2).map (fun c => V.str c.1) = [V.str word] := by
  rcases h with ⟨rfl, rfl⟩ | ⟨rfl, rfl⟩ | ⟨rfl, rfl⟩ <;> decide +kernel
theorem isB_no {nm word : Str} (h : WordOf nm word) : ∀ y ∈ (["BadCheck", "BadDeed", "BadEdge", "BadHead", "BadMask", "BadName", "BadPart", "BadRule", "BadText", "NoPart", "NoPicture", "NothingDone", "OutOfPlace", "Twice"] : List Str), isB nm y = false := by
  rcases h with ⟨rfl, rfl⟩ | ⟨rfl, rfl⟩ | ⟨rfl, rfl⟩ <;> decide +kernel
def wD (c : Str × Bool) : PyData := .tuple [.str c.1, .bool c.2]
section
variable {K : PySem.W.Frag} {σ : L2.St} {H : Hp} {ta tb te tl : TE} {tt : TT} {tA : TA} {vs : List Nat}
def EaDp (K : PySem.W.Frag) (tA : TA) (σ : L2.St) (H : Hp) (ds : List PyData) : Prop := ∀ H1, Ex H H1 → ∀ Q : List V → Hp → Prop, (∀ vs H2, Ex H1 H2 → DpAll K H2 vs ds → Q vs H2) → tA σ H1 Q
theorem eadp_nil : EaDp K tNil σ H [] := fun H1 e Q q => q [] H1 (Ex.refl _) .nil
theorem eadp_cons {d : PyData} {ds : List PyData} (h : Ep te σ H fun v H' => Dp K H' v d) (hr : EaDp K tA σ H ds) : EaDp K (tCons te tA) σ H (d :: ds) := fun H1 e Q q =>
  h H1 e _ fun v H2 e2 hv => hr H2 (e.trans e2) _ fun vs H3 e3 hvs => q (v :: vs) H3 (e2.trans e3) (.cons (dpx hv e3) hvs)
theorem ls_lst {ds : List PyData} (h : EaDp K tA σ H ds) (hz : ds.length ≤ 100000) : Ep (tLst tA) σ H (LsDp K ds) := fun H1 e Q q => h H1 e _ fun vs H2 e2 hvs => ⟨sz_of (by rw [dp_len hvs]; exact hz), fun p hp => q _ _ (e2.trans (Ex.new hp)) ⟨p, vs, rfl, upd_same, dpax hvs (Ex.new hp)⟩⟩
theorem ev_isE {D a C : Addr} {b : Bool} (h1 : Ev ta σ H (.ref a)) (h2 : Ev tb σ H (.ref C)) (hk : PySem.W.kitOne K (.ref D) (.ref C) = some b) : Ev (tCB (rIsE K D a) (tCons ta (tCons tb tNil))) σ H (.bl b) := fun H1 e Q q =>
  h1 H1 e _ fun H2 e2 => h2 H2 (e.trans e2) _ fun H3 e3 => ⟨.ref C, .ref C, b, rfl, fun u h => h, hk, q H3 (e2.trans e3)⟩
theorem ev_isEV {D a : Addr} {b : Bool} (h1 : Ev ta σ H (.ref a)) (hk : PySem.W.kitOne K (.ref D) (.type "ValueError") = some b) : Ev (tCB (rIsE K D a) (tCons ta (tCons (tC (.ty "ValueError")) tNil))) σ H (.bl b) := fun H1 e Q q =>
  h1 H1 e _ fun H2 e2 => ⟨.ty "ValueError", .type "ValueError", b, rfl, fun u h => h, hk, q H2 e2⟩
theorem ev_isET {D a : Addr} {cs : List V} {us : List Value} {b : Bool} (h1 : Ev ta σ H (.ref a)) (h2 : EvA tA σ H cs) (hl : cs.length ≤ 1000) (hc : Paired ClsV cs us) (hk : PySem.W.kitAny K (.ref D) us = some b) : Ev (tCB (rIsET K D a) (tCons ta (tCons (tTup tA) tNil))) σ H (.bl b) := fun H1 e Q q =>
  h1 H1 e _ fun H2 e2 => (eu_tup h2 (by omega)) H2 (e.trans e2) _ fun p H3 hp e3 h3 => ⟨p, cs, us, b, rfl, h3, hc, hk, q H3 (e2.trans e3)⟩
theorem ep_wd {c : Str × Bool} (h : EvU te σ H [.str c.1, .bl c.2]) : Ep te σ H fun v H' => Dp K H' v (wD c) := fun H1 e Q q => h H1 e _ fun p H2 hp e2 h2 => q _ H2 e2 (.tup (st_of h2) (.cons (.str _) (.cons (.bl _) .nil)))
theorem wd_inv {v : V} {c : Str × Bool} (h : Dp K H v (wD c)) : ∃ t, v = .ref t ∧ SqT K H t [.str c.1, .bl c.2] := by
  cases h with
  | tup h1 h2 =>
    cases h2 with
    | cons x1 h2 =>
      cases x1
      cases h2 with
      | cons x2 h2 =>
        cases x2
        cases h2
        exact ⟨_, rfl, h1⟩
/-- over a list of pairs -/
theorem el_pairs {items : List (Str × Bool)} {b : Str × Bool → Bool} {v : Str × Bool → V} {q : Addr} {xs : List V} {i1 i2 : Nat} (h : Ev tl σ H (.ref q)) (hx : SqL K H q xs) (hd : DpAll K H xs (items.map wD)) (hz : items.length ≤ 40000) (hw : ∀ x y, wipe (((wipe σ vs).set i1 (some x)).set i2 (some y)) vs = wipe σ vs)
    (ht : ∀ c H1, c ∈ items → Ex H H1 → EvT tt (((wipe σ vs).set i1 (some (.str c.1))).set i2 (some (.bl c.2))) H1 (b c))
    (he : ∀ c H1, c ∈ items → b c = true → Ex H H1 → Ev te (((wipe σ vs).set i1 (some (.str c.1))).set i2 (some (.bl c.2))) H1 (v c)) :
    EvL (tLc (iList K tl) (gTup K 2 (gCons (gName i1) (gCons (gName i2) gNil))) tt te vs) σ H ((items.filter b).map v) := by
  have hl : xs.length = items.length := by
    have := dp_len hd
    rwa [List.length_map] at this
  have d0 : Str × Bool := ("", false)
  exact fun H0 e Q q' => h H0 e _ fun H1 e1 => ⟨q, rfl, ⟨xs, ex_l (e.trans e1) hx⟩,
    lc_det_core (τ := fun i => ((wipe σ vs).set i1 (some (.str (items.getD i d0).1))).set i2 (some (.bl (items.getD i d0).2))) (b := fun i => b (items.getD i d0)) walk_list (by omega) (fun i => v (items.getD i d0)) (fun H2 e2 => ex_l ((e.trans e1).trans e2) hx)
      (fun i x H2 H3 hi e2 y => by
        obtain ⟨rfl, hxi⟩ := y
        obtain ⟨c, h3, h4⟩ := dpa_atG hd hxi
        obtain ⟨t, rfl, ht⟩ := wd_inv (dpx h4 ((e.trans e1).trans e2))
        refine ⟨Ex.refl _, fun Kn k => ⟨t, [.str c.1, .bl c.2], rfl, ht, rfl, _, [.bl c.2], rfl, _, [], rfl, rfl, ?_⟩⟩
        simp only [getD_at h3] at k
        exact k) (fun i hi => hw _ _) (fun i H2 hi e2 => by
        have hi2 : i < items.length := by omega
        have h3 : items[i]? = some items[i] := List.getElem?_eq_getElem hi2
        rw [getD_at h3]
        exact ht _ H2 (List.mem_of_getElem? h3) ((e.trans e1).trans e2)) (fun i H2 hi hb e2 => by
        have hi2 : i < items.length := by omega
        have h3 : items[i]? = some items[i] := List.getElem?_eq_getElem hi2
        rw [getD_at h3] at hb ⊢
        exact he _ H2 (List.mem_of_getElem? h3) hb ((e.trans e1).trans e2)) fun p H2 hp e2 h2 => q' p H2 (fresh_back e1 hp) (e1.trans e2) (by
          rw [h2, hl]
          unfold given
          rw [filt_rng])⟩
end
/-- what _law_word promises of the exception at a -/
def SpWA (K : PySem.W.Frag) (mg : Str → Option Value) (a : Addr) (cls : Value) (d : Option Addr) : Sp := fun vs H Q _ => vs = [.ref a] ∧ d = none ∧ ∃ (D : Addr) (nm word : Str), cls = .ref D ∧ ExW K mg nm D ∧ WordOf nm word ∧ ∀ t H', Ex H H' → H' t = some (.tup [.str word]) → Q (.ref t) H'
def spWord (K : PySem.W.Frag) (mg : Str → Option Value) (p : Addr × Obj) : Sp := fun vs H Q E => ∃ cls d, Zc cls d p.2 ∧ (∃ us, p.2.data = .fields us) ∧ SpWA K mg p.1 cls d vs H Q E
theorem paired_own : ∀ {Cs : List Addr}, Paired ClsV (Cs.map V.ref) (Cs.map Value.ref)
  | [] => .nil
  | C :: Cs => .cons (.own C) paired_own
theorem kitAny_no {K : PySem.W.Frag} {D : Addr} : ∀ {Cs : List Addr}, (∀ C ∈ Cs, PySem.W.kitOne K (.ref D) (.ref C) = some false) → PySem.W.kitAny K (.ref D) (Cs.map Value.ref) = some false
  | [], _ => rfl
  | C :: Cs, h => kitAny_cons (h C List.mem_cons_self) (fun _ => kitAny_no fun C' h' => h C' (List.mem_cons_of_mem _ h')) fun z => nomatch z
section
variable {P : Program} {w : World} {K : PySem.W.Frag} {mg : Str → Option Value} {base : Heap} {a : Ad}
theorem ok_lw_word (T : Txt K mg a) {f : Addr} {fd : FuncData} (F : FunD K "_law_word" "_law_word" (defArgs s_lw_word) (defBody s_lw_word) (defScope s_lw_word) [] [] f fd) : FnHp P w K mg base 1 f fd ["_law_e"] (spWord K mg) := by
  refine fn_ofHp F sc_lw_word (fun p vs H Q E h => ?_) (fun cdv A outer s H vs Q E p hot hr h => ?_)
  · obtain ⟨_, _, _, _, rfl, _⟩ := h
    rfl
  · obtain ⟨_, _, hz, hf, rfl, rfl, D, nm, word, rfl, hW, hwo, q⟩ := h
    have hc := hW.c
    have hno := isB_no hwo
    have g : ∀ y, y ∈ excN → ∃ C, mg y = some (.ref C) ∧ PySem.W.kitOne K (.ref D) (.ref C) = some (isB nm y) := hW.k
    have gn : ∀ y, y ∈ excN → isB nm y = false → ∃ C, mg y = some (.ref C) ∧ PySem.W.kitOne K (.ref D) (.ref C) = some false := fun y hy hb => by
      obtain ⟨C, h1, h2⟩ := hW.k y hy
      rw [hb] at h2
      exact ⟨C, h1, h2⟩
    obtain ⟨C1, h_BadCell, k1⟩ := g "BadCell" (by decide +kernel)
    obtain ⟨C2, h_BadColour, k2⟩ := g "BadColour" (by decide +kernel)
    obtain ⟨C3, h_BadPack, k3⟩ := g "BadPack" (by decide +kernel)
    obtain ⟨C4, h_BadPalette, k4⟩ := g "BadPalette" (by decide +kernel)
    obtain ⟨C5, h_BadPicture, k5⟩ := g "BadPicture" (by decide +kernel)
    obtain ⟨C6, h_BadSize, k6⟩ := g "BadSize" (by decide +kernel)
    obtain ⟨C7, h_NoColour, k7⟩ := g "NoColour" (by decide +kernel)
    obtain ⟨C8, h_TooMany, k8⟩ := g "TooMany" (by decide +kernel)
    obtain ⟨C9, h_BadRuns, k9⟩ := g "BadRuns" (by decide +kernel)
    obtain ⟨D1, h_BadCheck, l1⟩ := gn "BadCheck" (by decide +kernel) (hno _ (by decide +kernel))
    obtain ⟨D2, h_BadDeed, l2⟩ := gn "BadDeed" (by decide +kernel) (hno _ (by decide +kernel))
    obtain ⟨D3, h_BadEdge, l3⟩ := gn "BadEdge" (by decide +kernel) (hno _ (by decide +kernel))
    obtain ⟨D4, h_BadHead, l4⟩ := gn "BadHead" (by decide +kernel) (hno _ (by decide +kernel))
    obtain ⟨D5, h_BadMask, l5⟩ := gn "BadMask" (by decide +kernel) (hno _ (by decide +kernel))
    obtain ⟨D6, h_BadName, l6⟩ := gn "BadName" (by decide +kernel) (hno _ (by decide +kernel))
    obtain ⟨D7, h_BadPart, l7⟩ := gn "BadPart" (by decide +kernel) (hno _ (by decide +kernel))
    obtain ⟨D8, h_BadRule, l8⟩ := gn "BadRule" (by decide +kernel) (hno _ (by decide +kernel))
    obtain ⟨D9, h_BadText, l9⟩ := gn "BadText" (by decide +kernel) (hno _ (by decide +kernel))
    obtain ⟨E1, h_NoPart, m1⟩ := gn "NoPart" (by decide +kernel) (hno _ (by decide +kernel))
    obtain ⟨E2, h_NoPicture, m2⟩ := gn "NoPicture" (by decide +kernel) (hno _ (by decide +kernel))
    obtain ⟨E3, h_NothingDone, m3⟩ := gn "NothingDone" (by decide +kernel) (hno _ (by decide +kernel))
    obtain ⟨E4, h_OutOfPlace, m4⟩ := gn "OutOfPlace" (by decide +kernel) (hno _ (by decide +kernel))
    obtain ⟨E5, h_Twice, m5⟩ := gn "Twice" (by decide +kernel) (hno _ (by decide +kernel))
    have hp : p ∈ (cxH CX0 P w K mg base ["_law_e", "_law_some", "_law_found", "_law_word_here", "_law_fits"] "_law_word" (defScope s_lw_word) f cdv A outer s H E p).pn := List.mem_singleton_self p
    refine ⟨_, (pss_cons (ps_set (i := 1) sc_lw_word.nd rfl (by first | exact Or.inl rfl | exact Or.inr rfl) (pe_lst (pa_cons (pe_tup (pa_cons pe_str (pa_cons (pe_callB (id := "isinstance") (call_isEp hc hp hz hf) (by rfl) T.b_isinstance (by decide +kernel) (pa_cons (pv 0) (pa_cons (pe_glob (v := .ref _) rfl h_BadCell rfl) pa_nil))) pa_nil))) (pa_cons (pe_tup (pa_cons pe_str (pa_cons (pe_callB (id := "isinstance") (call_isEp hc hp hz hf) (by rfl) T.b_isinstance (by decide +kernel) (pa_cons (pv 0) (pa_cons (pe_glob (v := .ref _) rfl h_BadColour rfl) pa_nil))) pa_nil))) (pa_cons (pe_tup (pa_cons pe_str (pa_cons (pe_callB (id := "isinstance") (call_isEp hc hp hz hf) (by rfl) T.b_isinstance (by decide +kernel) (pa_cons (pv 0) (pa_cons (pe_glob (v := .ref _) rfl h_BadPack rfl) pa_nil))) pa_nil))) pa_nil)))))
      (pss_cons (ps_set (i := 1) sc_lw_word.nd rfl (by first | exact Or.inl rfl | exact Or.inr rfl) (pe_op op_cat (pv 1) (pe_lst (pa_cons (pe_tup (pa_cons pe_str (pa_cons (pe_callB (id := "isinstance") (call_isEp hc hp hz hf) (by rfl) T.b_isinstance (by decide +kernel) (pa_cons (pv 0) (pa_cons (pe_glob (v := .ref _) rfl h_BadPalette rfl) pa_nil))) pa_nil))) (pa_cons (pe_tup (pa_cons pe_str (pa_cons (pe_callB (id := "isinstance") (call_isEp hc hp hz hf) (by rfl) T.b_isinstance (by decide +kernel) (pa_cons (pv 0) (pa_cons (pe_glob (v := .ref _) rfl h_BadPicture rfl) pa_nil))) pa_nil))) pa_nil)))))
      (pss_cons (ps_set (i := 1) sc_lw_word.nd rfl (by first | exact Or.inl rfl | exact Or.inr rfl) (pe_op op_cat (pv 1) (pe_lst (pa_cons (pe_tup (pa_cons pe_str (pa_cons (pe_callB (id := "isinstance") (call_isEp hc hp hz hf) (by rfl) T.b_isinstance (by decide +kernel) (pa_cons (pv 0) (pa_cons (pe_glob (v := .ref _) rfl h_BadSize rfl) pa_nil))) pa_nil))) (pa_cons (pe_tup (pa_cons pe_str (pa_cons (pe_callB (id := "isinstance") (call_isEp hc hp hz hf) (by rfl) T.b_isinstance (by decide +kernel) (pa_cons (pv 0) (pa_cons (pe_glob (v := .ref _) rfl h_NoColour rfl) pa_nil))) pa_nil))) pa_nil)))))
      (pss_cons (ps_set (i := 1) sc_lw_word.nd rfl (by first | exact Or.inl rfl | exact Or.inr rfl) (pe_op op_cat (pv 1) (pe_lst (pa_cons (pe_tup (pa_cons pe_str (pa_cons (pe_callB (id := "isinstance") (call_isEp hc hp hz hf) (by rfl) T.b_isinstance (by decide +kernel) (pa_cons (pv 0) (pa_cons (pe_glob (v := .ref _) rfl h_TooMany rfl) pa_nil))) pa_nil))) (pa_cons (pe_tup (pa_cons pe_str (pa_cons (pe_callB (id := "isinstance") (call_isEp hc hp hz hf) (by rfl) T.b_isinstance (by decide +kernel) (pa_cons (pv 0) (pa_cons (pe_glob (v := .ref _) rfl h_BadRuns rfl) pa_nil))) pa_nil))) pa_nil)))))
      (pss_cons (ps_setLcH (i := 2) (own := [("_law_word_here", 3), ("_law_fits", 4)]) K hot hp sc_lw_word.nd rfl rfl (sw_true rfl rfl rfl (by decide +kernel)) (pv 1) (blkOk_by (by kernel_rfl)) (fun _ _ _ _ _ hB => pg_tupH (n := 2) K hB (pgs_cons (pg_name (i := 3) sc_lw_word.nd rfl (by first | exact Or.inl rfl | exact Or.inr rfl)) (pgs_cons (pg_name (i := 4) sc_lw_word.nd rfl (by first | exact Or.inl rfl | exact Or.inr rfl)) pgs_nil))) (fun _ _ _ _ _ => pts_one (pt_val (pv 4))) (fun _ _ _ _ _ => (pv 3)))
      (pss_cons (ps_if (pt_val (pe_callB (id := "isinstance") (call_isETp hc hp hz hf) (by rfl) T.b_isinstance (by decide +kernel) (pa_cons (pv 0) (pa_cons (pe_tup (pa_cons (pe_glob (v := .ref _) rfl h_BadCheck rfl) (pa_cons (pe_glob (v := .ref _) rfl h_BadDeed rfl) (pa_cons (pe_glob (v := .ref _) rfl h_BadEdge rfl) (pa_cons (pe_glob (v := .ref _) rfl h_BadHead rfl) (pa_cons (pe_glob (v := .ref _) rfl h_BadMask rfl) (pa_cons (pe_glob (v := .ref _) rfl h_BadName rfl) (pa_cons (pe_glob (v := .ref _) rfl h_BadPart rfl) (pa_cons (pe_glob (v := .ref _) rfl h_BadRule rfl) (pa_cons (pe_glob (v := .ref _) rfl h_BadText rfl) pa_nil)))))))))) pa_nil)))) (pss_one ps_never) pss_nil)
      (pss_cons (ps_if (PW.pt (pw_or (pt_val (pe_callB (id := "isinstance") (call_isETp hc hp hz hf) (by rfl) T.b_isinstance (by decide +kernel) (pa_cons (pv 0) (pa_cons (pe_tup (pa_cons (pe_glob (v := .ref _) rfl h_NoPart rfl) (pa_cons (pe_glob (v := .ref _) rfl h_NoPicture rfl) (pa_cons (pe_glob (v := .ref _) rfl h_NothingDone rfl) (pa_cons (pe_glob (v := .ref _) rfl h_OutOfPlace rfl) (pa_cons (pe_glob (v := .ref _) rfl h_Twice rfl) pa_nil)))))) pa_nil)))) (pw_or1 (pt_not (pt_val (pe_callB (id := "isinstance") (call_isEp hc hp hz hf) (by rfl) T.b_isinstance (by decide +kernel) (pa_cons (pv 0) (pa_cons (pe_bltn (v := .ty "ValueError") (by rfl) T.b_ValueError (by decide +kernel) rfl) pa_nil)))))))) (pss_one ps_never) pss_nil)
      (pss_one (ps_ret (pe_callTy (T := "tuple") (call_tupleK K) (by rfl) T.b_tuple (by decide +kernel) (pa_cons (pv 2) pa_nil))))))))))), ?_⟩
    have hu : ∀ {σ : L2.St} {H' : Hp} {C : Addr} {b : Bool} (wd : Str), Ev (tVar 0) σ H' (.ref p.1) → PySem.W.kitOne K (.ref D) (.ref C) = some b → Ep (tTup (tCons (tC (.str wd)) (tCons (tCB (rIsE K D p.1) (tCons (tVar 0) (tCons (tC (.ref C)) tNil))) tNil))) σ H' fun v H'' => Dp K H'' v (wD (wd, b)) := fun wd hv hk =>
      ep_wd (eu_tup (ea_cons ev_c (ea_cons (ev_isE hv ev_c hk) ea_nil)) (show 2 ≤ 100000 by decide))
    refine q_set (P := LsDp K [wD ("cell", isB nm "BadCell"), wD ("colour", isB nm "BadColour"), wD ("pack", isB nm "BadPack")]) (ls_lst (eadp_cons (hu _ (ev_var rfl) k1) (eadp_cons (hu _ (ev_var rfl) k2) (eadp_cons (hu _ (ev_var rfl) k3) eadp_nil))) (show 3 ≤ 100000 by decide)) fun v1 H1 e1 h1 => ?_
    refine q_set (P := LsDp K ([wD ("cell", isB nm "BadCell"), wD ("colour", isB nm "BadColour"), wD ("pack", isB nm "BadPack")] ++ [wD ("palette", isB nm "BadPalette"), wD ("picture", isB nm "BadPicture")])) (ls_cat (ls_var (ev_var rfl) h1) (fun H2 e2 => ls_lst (eadp_cons (hu _ (ev_var rfl) k4) (eadp_cons (hu _ (ev_var rfl) k5) eadp_nil)) (show 2 ≤ 100000 by decide)) (show 5 ≤ 100000 by decide)) fun v2 H2 e2 h2 => ?_
    refine q_set (P := LsDp K ([wD ("cell", isB nm "BadCell"), wD ("colour", isB nm "BadColour"), wD ("pack", isB nm "BadPack")] ++ [wD ("palette", isB nm "BadPalette"), wD ("picture", isB nm "BadPicture")] ++ [wD ("size", isB nm "BadSize"), wD ("none", isB nm "NoColour")])) (ls_cat (ls_var (ev_var rfl) h2) (fun H3 e3 => ls_lst (eadp_cons (hu _ (ev_var rfl) k6) (eadp_cons (hu _ (ev_var rfl) k7) eadp_nil)) (show 2 ≤ 100000 by decide)) (show 7 ≤ 100000 by decide)) fun v3 H3 e3 h3 => ?_
    refine q_set (P := LsDp K ((items9 nm).map wD)) (ls_cat (ls_var (ev_var rfl) h3) (fun H4 e4 => ls_lst (eadp_cons (hu _ (ev_var rfl) k8) (eadp_cons (hu _ (ev_var rfl) k9) eadp_nil)) (show 2 ≤ 100000 by decide)) (show 9 ≤ 100000 by decide)) fun v4 H4 e4 h4 => ?_
    obtain ⟨l, xs, rfl, hl, hx⟩ := h4
    refine q_asgL (xs := [.str word]) (by
      rw [← items_word hwo]
      exact el_pairs (b := fun c => c.2) (v := fun c => .str c.1) (ev_var rfl) (sq_of hl) hx (show 9 ≤ 40000 by decide) (fun _ _ => rfl) (fun c H5 hc e5 => et_B (ev_var rfl)) (fun c H5 hc hb e5 => ev_var rfl)) fun lf H5 hlf e5 hlfv => ?_
    have c9 : ∀ C ∈ [D1, D2, D3, D4, D5, D6, D7, D8, D9], PySem.W.kitOne K (.ref D) (.ref C) = some false := fun C hC => by
      simp only [List.mem_cons, List.not_mem_nil, or_false] at hC
      rcases hC with e | e | e | e | e | e | e | e | e <;> rw [e] <;> assumption
    have c5 : ∀ C ∈ [E1, E2, E3, E4, E5], PySem.W.kitOne K (.ref D) (.ref C) = some false := fun C hC => by
      simp only [List.mem_cons, List.not_mem_nil, or_false] at hC
      rcases hC with e | e | e | e | e <;> rw [e] <;> assumption
    refine q_when (b := false) (et_B (ev_isET (cs := [D1, D2, D3, D4, D5, D6, D7, D8, D9].map V.ref) (ev_var rfl) (ea_cons ev_c (ea_cons ev_c (ea_cons ev_c (ea_cons ev_c (ea_cons ev_c (ea_cons ev_c (ea_cons ev_c (ea_cons ev_c (ea_cons ev_c ea_nil))))))))) (show 9 ≤ 1000 by decide) paired_own (kitAny_no c9))) (fun hb => nomatch hb) fun _ H6 e6 => ?_
    refine q_when (b := false) (et_at (et_or (a := false) (b := false) (et_B (ev_isET (cs := [E1, E2, E3, E4, E5].map V.ref) (ev_var rfl) (ea_cons ev_c (ea_cons ev_c (ea_cons ev_c (ea_cons ev_c (ea_cons ev_c ea_nil))))) (show 5 ≤ 1000 by decide) paired_own (kitAny_no c5))) fun _ => et_at (et_not (et_B (ev_isEV (ev_var rfl) hW.v))) rfl) rfl) (fun hb => nomatch hb) fun _ H7 e7 => ?_
    have e07 := (e1.trans (e2.trans (e3.trans e4))).trans (e5.trans (e6.trans e7))
    refine (ev_var rfl : Ev (tVar 2) _ H7 (.ref lf)) H7 (Ex.refl _) _ fun H8 e8 => ⟨lf, _, rfl, .inl ⟨sq_of (e8 _ _ (e7 _ _ (e6 _ _ hlfv))), fun t ht => q t _ (e07.trans (e8.trans (Ex.new ht))) upd_same⟩⟩
end
end C19
set_option Elab.async false
set_option linter.all false
set_option maxRecDepth 100000
set_option maxHeartbeats 4000000
namespace C19
open PySem PySem.Spec PyProof.Rows L2 Evl HotX L2H
section
variable {P : Program} {w : World} {K : PySem.W.Frag} {mg : Str → Option Value} {base : Heap} {a : Ad}
/-- _law_word as it is called -/
def CalW (P : Program) (w : World) (K : PySem.W.Frag) (mg : Str → Option Value) (base : Heap) : Prop := ∃ (f : Addr) (fd : FuncData), FnHp P w K mg base 1 f fd ["_law_e"] (spWord K mg) ∧ mg "_law_word" = some (.ref f) ∧ PySem.W.keepIn K (.ref f) = true ∧ Binds K fd ["_law_e"] []
theorem calW (T : Txt K mg a) (D : DefAt K mg "_law_word" s_lw_word) : CalW P w K mg base := by
  obtain ⟨f, fd, F, g⟩ := D
  exact ⟨f, fd, ok_lw_word T F, g, F.kp, bd_lw_word F⟩
/-- how the call raises -/
def RefR (K : PySem.W.Frag) (a : Ad) (H : Hp) (way : Int) (x v m : V) (D : Addr) : Prop :=
  ((way = 0 ∨ way = 1 ∨ way = 2) ∧ D = a.pic ∧ ThP K H x false) ∨
  ((way = 1 ∨ way = 2) ∧ D = a.noc ∧ ∃ (p : Pic) (pl dx l : Addr) (xs : List V) (cols : List Col), PalG K a H v pl dx l xs cols ∧ Dp K H x (picD p) ∧ Good p ∧ ∃ c ∈ p.flatten, ((cols.length : Nat) : Int) ≤ c) ∨
  (way = 2 ∧ D = a.siz ∧ ∃ (p : Pic) (pl dx l : Addr) (xs : List V) (cols : List Col), PalG K a H v pl dx l xs cols ∧ Dp K H x (picD p) ∧ Good p ∧ (∀ c ∈ p.flatten, c < ((cols.length : Nat) : Int)) ∧ ∃ d, Dp K H m d ∧ amB d 1 16 = false)
def spRefused (K : PySem.W.Frag) (mg : Str → Option Value) (a : Ad) : Sp := fun vs H Q _ => ∃ (way : Int) (x v m : V) (D : Addr) (nm word : Str), vs = [.int way, x, v, m] ∧ RefR K a H way x v m D ∧ ExW K mg nm D ∧ WordOf nm word ∧ ∀ t H', Ex H H' → H' t = some (.tup [.str word]) → Q (.ref t) H'
def tWord (K : PySem.W.Frag) (mg : Str → Option Value) (a : Addr) (cls : Value) (d : Option Addr) : TS := tRet fun σ H Q => (tCons (tVar 4) tNil) σ H fun vs H1 => SpWA K mg a cls d vs H1 Q E0
theorem dropS {σ : L2.St} {H : Hp} {D : Ends} {sp : Sp} {E : L2.St → XK} {tA : TA} {vs : List V} (h : EvA tA σ H vs) (k : ∀ H1, Ex H H1 → ∀ Q : VK, sp vs H1 Q (E σ)) : tDrop (tCallS sp E tA) D σ H := h H (Ex.refl _) _ fun H1 e1 => k H1 e1 _
theorem ok_lw_refused (T : Txt K mg a) (D : DefAt K mg "_law_refused" s_lw_refused) (cw : CalW P w K mg base) (c_cell_counts : Cal P w K mg base (L2N.CX P w) 6 "cell_counts" ["picture"] (spCounts K a))
    (c_ordered_picture : Cal P w K mg base (L2N.CX P w) 8 "ordered_picture" ["picture", "palette"] (spOrd K a)) (c_fewer_cells : Cal P w K mg base (L2N.CX P w) 8 "fewer_cells" ["picture", "palette", "many"] (spFew K a)) :
    Cal P w K mg base CX0 9 "_law_refused" ["_law_way", "_law_picture_here", "_law_palette", "_law_many"] (spRefused K mg a) := by
  refine cal_of D bd_lw_refused sc_lw_refused (fun vs H Q E h => ?_) (fun f cdv A outer s H vs Q E hr h => ?_)
  · obtain ⟨way, x, v, m, D, nm, word, rfl, _⟩ := h
    rfl
  · obtain ⟨way, x, v, m, D, nm, word, rfl, hR, hW, hwo, q⟩ := h
    obtain ⟨fw, fdw, Fw, gw, kw, bw⟩ := cw
    have hm : PySem.W.exmOne K (.ref D) (.ref a.fol) = some true := by
      rcases hR with ⟨_, rfl, _⟩ | ⟨_, rfl, _⟩ | ⟨_, rfl, _⟩
      · exact T.m_BadPicture
      · exact T.m_NoColour
      · exact T.m_BadSize
    refine ⟨_, pss_cons (L2N.ps_try_as (i := 4) (n := "_law_e") (x := "FolioError") (c := .ref a.fol) (Wout := fun _ _ _ _ => False) (ts := tWord K mg) rfl rfl sc_lw_refused.nd rfl rfl ⟨rfl, by decide, .inl T.g_FolioError⟩ (fun u s' xx => ?_)
      (fun W pn xe tk hpo => pss_one (ps_if (pt_cmpR op_eq (pv 0) pe_int (nomark _)) (pss_one (ps_expr (pf_cS c_cell_counts hr (by rfl) (fun σ => L2N.passAt tk σ) (pa_cons (pv 1) pa_nil))))
        (pss_one (ps_if (pt_cmpR op_eq (pv 0) pe_int (nomark _)) (pss_one (ps_expr (pf_cS c_ordered_picture hr (by rfl) (fun σ => L2N.passAt tk σ) (pa_cons (pv 1) (pa_cons (pv 2) pa_nil)))))
          (pss_one (ps_expr (pf_cS c_fewer_cells hr (by rfl) (fun σ => L2N.passAt tk σ) (pa_cons (pv 1) (pa_cons (pv 2) (pa_cons (pv 3) pa_nil)))))))))) 
      (fun ea oe cls d pn hz hf => pss_one (ps_ret ⟨fun pins s1 σ1 H1 Q1 I h1 => ?_⟩))) (pss_one (ps_ret (pe_tup pa_nil))), ?_⟩
    · obtain ⟨_, _, _, _, _, _, _, _, _, _, _, _, _, _, _, _, z⟩ := xx
      exact z.elim
    · obtain ⟨us, hd⟩ := hf
      refine (pe_callHp (p := (ea, oe)) Fw (show RoomH 1 _ from ⟨(hr.mono (by decide : 1 ≤ 8)).dp, (hr.mono (by decide : 1 ≤ 8)).un⟩) ⟨rfl, us, hd, hz.2.2 us hd⟩ List.mem_cons_self (by rfl) gw kw bw (pa_cons (pv 4) pa_nil)).run pins s1 σ1 H1 Q1 I ?_
      obtain ⟨v4, hv4, r4⟩ := h1
      exact ⟨v4, hv4, cls, d, hz.zc, ⟨us, hd⟩, r4⟩
    · -- the walk
      have hE : ∀ {D0 : Ends} {σ1 : L2.St} {H1 : Hp}, σ1.length = 5 → Ex H H1 → (∀ v H', Q v H' → D0.rt v H') → wAs K (.ref a.fol) 4 (tWord K mg) (fun _ _ _ _ => False) D0 (.ref D) none σ1 H1 := fun {D0 σ1 H1} hl e1 hrt => ⟨true, hm, fun _ ea hea => ⟨.ref ea, by rw [List.getElem?_set_self (by omega)], rfl, rfl, D, nm, word, rfl, hW, hwo, fun t H' e' ht => hrt _ _ (q t H' (e1.trans e') ht)⟩, fun z => nomatch z⟩
      refine (show tIfS _ _ _ _ _ _ from ?_)
      rcases hR with ⟨hway, rfl, hx⟩ | ⟨hway, rfl, p, pl, dx, l, xs, cols, hp, hx, hg, hc⟩ | ⟨hway, rfl, p, pl, dx, l, xs, cols, hp, hx, hg, hall, d, hd, hda⟩
      · refine s_if (et_test (ev_op (ev_var rfl) ev_c (rv_eq rfl))) (fun hb H1 e1 => dropS (ea_cons (ev_var rfl) ea_nil) fun H2 e2 Q2 => ⟨x, rfl, .inr ⟨thp_ex hx (e1.trans e2), fun H3 e3 => hE rfl ((e1.trans e2).trans e3) fun _ _ k => k⟩⟩) (fun hb H1 e1 => ?_)
        refine s_if (et_test (ev_op (ev_var rfl) ev_c (rv_eq rfl))) (fun hb H2 e2 => dropS (ea_cons (ev_var rfl) (ea_cons (ev_var rfl) ea_nil)) fun H3 e3 Q2 => ⟨x, v, rfl, .inr ⟨thp_ex hx (e1.trans (e2.trans e3)), fun H4 e4 => hE rfl ((e1.trans (e2.trans e3)).trans e4) fun _ _ k => k⟩⟩) (fun hb H2 e2 => ?_)
        exact dropS (ea_cons (ev_var rfl) (ea_cons (ev_var rfl) (ea_cons (ev_var rfl) ea_nil))) fun H3 e3 Q2 => ⟨x, v, m, rfl, .inr ⟨thp_ex hx (e1.trans (e2.trans e3)), fun H4 e4 => hE rfl ((e1.trans (e2.trans e3)).trans e4) fun _ _ k => k⟩⟩
      · refine s_if (b := false) (et_at (et_test (ev_op (ev_var rfl) ev_c (rv_eq rfl))) (decide_eq_false fun e => by
          have := V.int.inj e
          omega)) (fun hb => nomatch hb) (fun _ H1 e1 => ?_)
        refine s_if (et_test (ev_op (ev_var rfl) ev_c (rv_eq rfl))) (fun hb H2 e2 => dropS (ea_cons (ev_var rfl) (ea_cons (ev_var rfl) ea_nil)) fun H3 e3 Q2 => ⟨x, v, rfl, .inl ⟨p, pl, dx, l, xs, cols, hp.ex (e1.trans (e2.trans e3)), dpx hx (e1.trans (e2.trans e3)), hg, .inr ⟨hc, fun H4 e4 => hE rfl ((e1.trans (e2.trans e3)).trans e4) fun _ _ k => k⟩⟩⟩) (fun hb H2 e2 => ?_)
        exact dropS (ea_cons (ev_var rfl) (ea_cons (ev_var rfl) (ea_cons (ev_var rfl) ea_nil))) fun H3 e3 Q2 => ⟨x, v, m, rfl, .inl ⟨p, pl, dx, l, xs, cols, hp.ex (e1.trans (e2.trans e3)), dpx hx (e1.trans (e2.trans e3)), hg, .inr ⟨hc, fun H4 e4 => hE rfl ((e1.trans (e2.trans e3)).trans e4) fun _ _ k => k⟩⟩⟩
      · refine s_if (b := false) (et_at (et_test (ev_op (ev_var rfl) ev_c (rv_eq rfl))) (decide_eq_false fun e => by
          have := V.int.inj e
          omega)) (fun hb => nomatch hb) (fun _ H1 e1 => ?_)
        refine s_if (b := false) (et_at (et_test (ev_op (ev_var rfl) ev_c (rv_eq rfl))) (decide_eq_false fun e => by
          have := V.int.inj e
          omega)) (fun hb => nomatch hb) (fun _ H2 e2 => ?_)
        exact dropS (ea_cons (ev_var rfl) (ea_cons (ev_var rfl) (ea_cons (ev_var rfl) ea_nil))) fun H3 e3 Q2 => ⟨x, v, m, rfl, .inl ⟨p, pl, dx, l, xs, cols, hp.ex (e1.trans (e2.trans e3)), dpx hx (e1.trans (e2.trans e3)), hg, .inl ⟨hall, .inr ⟨d, dpx hd (e1.trans (e2.trans e3)), hda, fun H4 e4 => hE rfl ((e1.trans (e2.trans e3)).trans e4) fun _ _ k => k⟩⟩⟩⟩
end
end C19
set_option Elab.async false
set_option linter.all false
set_option maxRecDepth 100000
set_option maxHeartbeats 4000000
namespace C19
open PySem PySem.Spec PyProof.Rows L2 Evl
/-! ### a row reversed -/
theorem good_rev {p : Pic} (g : Good p) {r : List Int} (hr : p[0]? = some r) : Good (p.set 0 r.reverse) ∧ ∀ c ∈ (p.set 0 r.reverse).flatten, c ∈ p.flatten := by
  have hm := List.mem_of_getElem? hr
  have key : ∀ r' ∈ p.set 0 r.reverse, r' ∈ p ∨ r' = r.reverse := fun r' h => List.mem_or_eq_of_mem_set h
  refine ⟨⟨by rw [List.length_set]; exact g.high, ?_, fun r' h' c hc => ?_⟩, fun c hc => ?_⟩
  · obtain ⟨w, h1, h2, h3⟩ := g.wide
    refine ⟨w, h1, h2, fun r' h' => ?_⟩
    rcases key r' h' with h | rfl
    · exact h3 r' h
    · rw [List.length_reverse]
      exact h3 r hm
  · rcases key r' h' with h | rfl
    · exact g.cell r' h c hc
    · exact g.cell r hm c (List.mem_reverse.mp hc)
  · obtain ⟨r', h', hcr⟩ := List.mem_flatten.mp hc
    rcases key r' h' with h | rfl
    · exact List.mem_flatten.mpr ⟨r', h, hcr⟩
    · exact List.mem_flatten.mpr ⟨r, hm, List.mem_reverse.mp hcr⟩
theorem maxP_is {p : Pic} (g : Good p) : maxL (p.map maxL) ∈ p.flatten ∧ ∀ c ∈ p.flatten, c ≤ maxL (p.map maxL) := by
  have hh := g.high
  obtain ⟨k1, k2⟩ := maxL_is (l := p.map maxL) (by rw [List.length_map]; omega)
  refine ⟨?_, fun c hc => ?_⟩
  · obtain ⟨r, hr, er⟩ := List.mem_map.mp k1
    obtain ⟨k3, _⟩ := maxL_is (l := r) (by have := g.row hr; omega)
    rw [← er]
    exact List.mem_flatten.mpr ⟨r, hr, k3⟩
  · obtain ⟨r, hr, hcr⟩ := List.mem_flatten.mp hc
    obtain ⟨_, k4⟩ := maxL_is (l := r) (by have := g.row hr; omega)
    have h1 := k4 c hcr
    have h2 := k2 _ (List.mem_map_of_mem hr)
    omega
theorem goodC_take {cols : List Col} (hv : ∀ c ∈ cols, ValidC c) (nd : cols.Nodup) {n : Nat} (h1 : 1 ≤ n) (h2 : n ≤ cols.length) (h3 : n ≤ 16) : GoodC (cols.take n) :=
  ⟨by rw [List.length_take]; omega, fun c hc => hv c (List.mem_of_mem_take hc), nd.sublist (List.take_sublist _ _)⟩
section
variable {P : Program} {w : World} {K : PySem.W.Frag} {mg : Str → Option Value} {base : Heap} {a : Ad}
section
variable {σ : L2.St} {H : Hp} {ta tb te tl ti : TE} {tA : TA} {E : XK}
theorem ep_pickD {ds : List PyData} {i : Int} (h : Ep tl σ H (LsDp K ds)) (hi : ∀ H1, Ex H H1 → Ev ti σ H1 (.int i)) (h0 : 0 ≤ i ∧ i < ((ds.length : Nat) : Int)) : Ep (tOp (rIxL K) tl ti) σ H fun v H' => ∃ d, d ∈ ds ∧ Dp K H' v d := fun H1 e Q q =>
  h H1 e _ fun v H2 e2 ⟨l, xs, hv, hl, hx⟩ => hi H2 (e.trans e2) H2 (Ex.refl _) _ fun H3 e3 => by
    subst hv
    have hlen := dp_len hx
    have hlt : i.toNat < xs.length := by omega
    obtain ⟨d, h1, h2⟩ := dp_at hx (List.getElem?_eq_getElem hlt)
    have ei : i = ((i.toNat : Nat) : Int) := by omega
    refine ⟨l, xs, i, xs[i.toNat], rfl, rfl, sq_of (e3 _ _ hl), ?_, q _ H3 (e2.trans e3) ⟨d, List.mem_of_getElem? h1, dpx h2 e3⟩⟩
    have k := atI_nat (List.getElem?_eq_getElem hlt)
    rw [← ei] at k
    exact k
theorem shaped_word {nm wd : Str} (h : WordOf nm wd) : SeqAt.shaped (.tuple [.str wd]) = true := by
  rcases h with ⟨_, rfl⟩ | ⟨_, rfl⟩ | ⟨_, rfl⟩ <;> decide +kernel
theorem eqv_word (wd : Str) : PyData.eqv (.tuple [.str wd]) (.tuple [.str wd]) = true := by
  simp only [PyData.eqv, PyData.eqvAll]
  simp
/-- a refusal is the word that is due -/
theorem et_refused {way : Int} {x v m : V} {D : Addr} {nm word : Str} (h : EvA tA σ H [.int way, x, v, m]) (hR : RefR K a H way x v m D) (hW : ExW K mg nm D) (hwo : WordOf nm word) : EvT (tTest (tOp (rNeD K) (tCall (spRefused K mg a) [] E tA) (tTup (tCons (tC (.str word)) tNil)))) σ H false := by
  have hRx : ∀ H', Ex H H' → RefR K a H' way x v m D := fun H' e => by
    rcases hR with ⟨h1, h2, h3⟩ | ⟨h1, h2, p, pl, dx, l, xs, cols, h3, h4, h5, h6⟩ | ⟨h1, h2, p, pl, dx, l, xs, cols, h3, h4, h5, h6, d, h7, h8⟩
    · exact .inl ⟨h1, h2, thp_ex h3 e⟩
    · exact .inr (.inl ⟨h1, h2, p, pl, dx, l, xs, cols, h3.ex e, dpx h4 e, h5, h6⟩)
    · exact .inr (.inr ⟨h1, h2, p, pl, dx, l, xs, cols, h3.ex e, dpx h4 e, h5, h6, d, dpx h7 e, h8⟩)
  refine et_at (et_test (ev_neP (d := .tuple [.str word]) (e := .tuple [.str word]) (ep_call h fun H1 e1 Q q => ⟨way, x, v, m, D, nm, word, rfl, hRx H1 e1, hW, hwo, fun t H2 e2 ht => q _ H2 e2 (.tup (st_of ht) (.cons (.str _) .nil))⟩) (fun H1 e1 H2 e2 Q q => (show EvU (tTup (tCons (tC (.str word)) tNil)) σ H1 [.str word] from eu_tup (ea_cons ev_c ea_nil) (show 1 ≤ 100000 by decide)) H2 e2 Q fun t H3 ht e3 h3 => q _ H3 e3 (.tup (st_of h3) (.cons (.str _) .nil))) (shaped_word hwo) (shaped_word hwo))) ?_
  rw [eqv_word]
  rfl
end
/-- all that the law leans on -/
structure Lw (P : Program) (w : World) (K : PySem.W.Frag) (mg : Str → Option Value) (base : Heap) (a : Ad) : Prop where
  draw : Cal P w K mg base CX0 1 "_law_draw" ["_law_script", "_law_k"] (spDraw K)
  pool : Cal P w K mg base CX0 2 "_law_pool" ["_law_script", "_law_first", "_law_near"] (spPool K)
  pict : Cal P w K mg base CX0 2 "_law_picture" ["_law_script", "_law_first", "_law_many"] (spPicture K)
  make : Mkr P w K mg base a.pal 3 "Palette" ["self", "colours"] (spInit K a)
  copi : Cal P w K mg base CX0 1 "_law_copied" ["_law_rows"] (spCopied K)
  cgoo : Cal P w K mg base CX0 7 "_law_counts_good" ["_law_picture_here"] (spCountsGood K)
  ogoo : Cal P w K mg base CX0 9 "_law_ordered_good" ["_law_picture_here", "_law_colours", "_law_palette"] (spOrdGood K a)
  afew : Cal P w K mg base CX0 9 "_law_all_fewer" ["_law_picture_here", "_law_colours", "_law_palette", "_law_turn"] (spAllFew K a)
  besi : Cal P w K mg base CX0 9 "_law_beside_good" ["_law_picture_here", "_law_colours"] (spBeside K)
  nopi : Cal P w K mg base CX0 2 "_law_no_picture" ["_law_rows", "_law_odd", "_law_number"] (spNoPic K)
  refu : Cal P w K mg base CX0 9 "_law_refused" ["_law_way", "_law_picture_here", "_law_palette", "_law_many"] (spRefused K mg a)
  many : Mth P w K mg base a.pal 1 "many" ["self"] (spMany a)
  addc : Mth P w K mg base a.pal 5 "add_colour" ["self", "colour"] (spAdd K a)
  fewe : Cal P w K mg base (L2N.CX P w) 8 "fewer_cells" ["picture", "palette", "many"] (spFew K a)
  wpic : ExW K mg "BadPicture" a.pic
  wsiz : ExW K mg "BadSize" a.siz
  wnoc : ExW K mg "NoColour" a.noc
def spLaw (K : PySem.W.Frag) : Sp := fun vs H Q _ => ∃ (q : Addr) (cells : List Int), vs = [.ref q] ∧ SqL K H q (rowV cells) ∧ ∀ H', Q (.bl true) H'
def odd7 : List PyData := [.int 16, .int (-1), .bool true, .none, .str "0", .list [.int 0], .int (10 ^ 20)]
def size8 : List PyData := [.int 0, .int 17, .int (-1), .bool true, .none, .str "1", .list [.int 1], .int (10 ^ 20)]
theorem odd7_bad : ∀ d ∈ odd7, cellB d = false := by decide +kernel
theorem size8_bad : ∀ d ∈ size8, amB d 1 16 = false := by decide +kernel
end
end C19
set_option Elab.async false
set_option linter.all false
set_option maxRecDepth 100000
set_option maxHeartbeats 4000000
namespace C19
open PySem PySem.Spec PyProof.Rows L2 Evl
section
variable {P : Program} {w : World} {K : PySem.W.Frag} {mg : Str → Option Value} {base : Heap} {a : Ad}
theorem ev_countsGood {σ : L2.St} {H : Hp} {t1 : TE} {E : XK} {x : V} {p : Pic} (h1 : Ev t1 σ H x) (hx : Dp K H x (picD p)) (hg : Good p) : Ev (tCall (spCountsGood K) [] E (tCons t1 tNil)) σ H (.bl true) :=
  ev_callV (ea_cons h1 ea_nil) fun H1 e1 Q q => ⟨x, p, rfl, dpx hx e1, hg, q⟩
theorem ev_ordGood {σ : L2.St} {H : Hp} {t1 t2 t3 : TE} {E : XK} {x y v : V} {p : Pic} {pl dx l : Addr} {xs : List V} {cols : List Col} (h1 : Ev t1 σ H x) (h2 : Ev t2 σ H y) (h3 : Ev t3 σ H v) (hx : Dp K H x (picD p)) (hg : Good p) (hy : Dp K H y (colsD cols)) (hp : PalG K a H v pl dx l xs cols) (hall : ∀ c ∈ p.flatten, c < ((cols.length : Nat) : Int)) :
    Ev (tCall (spOrdGood K a) [] E (tCons t1 (tCons t2 (tCons t3 tNil)))) σ H (.bl true) :=
  ev_callV (ea_cons h1 (ea_cons h2 (ea_cons h3 ea_nil))) fun H1 e1 Q q => ⟨x, y, v, p, pl, dx, l, xs, cols, rfl, dpx hx e1, hg, dpx hy e1, hp.ex e1, hall, q⟩
theorem cols_ls {H : Hp} {z : Addr} {ys : List V} {cols : List Col} (hz : H z = some (.lst ys)) (hd : DpAll K H ys (cols.map colD)) : Dp K H (.ref z) (colsD cols) := .lst (sq_of hz) hd
theorem q_setPal {σ : L2.St} {H : Hp} {D : Ends} {te : TE} {tz : TS} {i : Nat} {cols : List Col} (h : EvPal a K te σ H cols) (k : ∀ p l H1, Ex H H1 → PalN a.pal H H1 K p l cols → tz D (σ.set i (some (.ref p))) H1) : tSeq (tAsg te (gName i)) tz D σ H := h H (Ex.refl _) _ k
theorem s_dropMeth {σ : L2.St} {H : Hp} {D : Ends} {C : Addr} {m : Str} {ta te : TE} {sp : Sp} {E : XK} {p dx : Addr} {fs : List (Str × V)} {v : V} (h1 : Ev ta σ H (.ref p)) (hp : H p = some (.ins C dx fs)) (hl : fs.lookup m = none) (ha : Ev te σ H v) (k : ∀ H1, Ex H H1 → sp [.ref p, v] H1 (fun _ H2 => D.nx σ H2) E) :
    tDrop (tMeth C m sp [] E ta (tCons te tNil)) D σ H := meth_raw (Q := fun _ H2 => D.nx σ H2) h1 hp hl ha k
/-- l.reverse() -/
theorem q_rev {σ : L2.St} {H : Hp} {D : Ends} {ta : TE} {tz : TS} {l : Addr} {xs : List V} (h1 : Ev ta σ H (.ref l)) (hl : H l = some (.lst xs)) (k : ∀ H1, Ex H H1 → tz D σ (upd H1 l (.lst xs.reverse))) : tSeq (tDrop (tBM0 K "list" rReverse ta)) tz D σ H :=
  h1 H (Ex.refl _) _ fun H1 e1 => ⟨Or.inl ⟨rfl, xs, sq_of (e1 _ _ hl)⟩, l, xs, rfl, rfl, e1 _ _ hl, k H1 e1⟩
set_option maxHeartbeats 8000000 in
theorem ok_law (T : Txt K mg a) {f : Addr} {fd : FuncData} (F : FunD K "law" "law" (defArgs s_law) (defBody s_law) (defScope s_law) [] [] f fd) (L : Lw P w K mg base a) : FnOk P w K mg base CX0 10 f fd ["_law_script"] (spLaw K) := by
  have c_lw_draw := L.draw
  have c_lw_pool := L.pool
  have c_lw_picture := L.pict
  have c_Palette := L.make
  have c_lw_copied := L.copi
  have c_lw_counts_good := L.cgoo
  have c_lw_ordered_good := L.ogoo
  have c_lw_all_fewer := L.afew
  have c_lw_beside_good := L.besi
  have c_lw_no_picture := L.nopi
  have c_lw_refused := L.refu
  have c_many := L.many
  have c_add_colour := L.addc
  have c_fewer_cells := L.fewe
  refine F.ok sc_law (fun vs H Q E h => ?_) (fun cdv A outer s H vs Q E hr h => ?_)
  · obtain ⟨q, cells, rfl, _⟩ := h
    rfl
  · obtain ⟨q, cells, rfl, hq, q0⟩ := h
    refine ⟨_, (pss_cons (ps_set (i := 1) sc_law.nd rfl (by first | exact Or.inl rfl | exact Or.inr rfl) (pf_c c_lw_draw hr (by rfl) pass0 (pa_cons (pv 0) (pa_cons pe_int pa_nil))))
      (pss_cons (ps_set (i := 2) sc_law.nd rfl (by first | exact Or.inl rfl | exact Or.inr rfl) (pf_c c_lw_pool hr (by rfl) pass0 (pa_cons (pv 0) (pa_cons pe_int (pa_cons (pe_cmpR op_eq (pe_op op_mod (pv 1) pe_int) pe_int (nomark _)) pa_nil)))))
      (pss_cons (ps_set (i := 3) sc_law.nd rfl (by first | exact Or.inl rfl | exact Or.inr rfl) (pe_op op_add pe_int (pe_op op_mod (pe_op op_fdiv (pv 1) pe_int) (pe_callB (id := "min") (call_min2 rfl) (by rfl) T.b_min (by decide +kernel) (pa_cons pe_int (pa_cons (pe_callB (id := "len") (call_lenK K) (by rfl) T.b_len (by decide +kernel) (pa_cons (pv 2) pa_nil)) pa_nil))))))
      (pss_cons (ps_set (i := 4) sc_law.nd rfl (by first | exact Or.inl rfl | exact Or.inr rfl) (pf_c c_lw_picture hr (by rfl) pass0 (pa_cons (pv 0) (pa_cons pe_int (pa_cons (pv 3) pa_nil)))))
      (pss_cons (ps_set (i := 5) sc_law.nd rfl (by first | exact Or.inl rfl | exact Or.inr rfl) (pe_slice (sl_listK K) (pv 2) po_none (po_some (pe_op op_add (pv 3) (pe_op op_mod (pe_op op_fdiv (pv 1) pe_int) (pe_op op_add (pe_op op_sub (pe_callB (id := "min") (call_min2 rfl) (by rfl) T.b_min (by decide +kernel) (pa_cons pe_int (pa_cons (pe_callB (id := "len") (call_lenK K) (by rfl) T.b_len (by decide +kernel) (pa_cons (pv 2) pa_nil)) pa_nil))) (pv 3)) pe_int))))))
      (pss_cons (ps_set (i := 6) sc_law.nd rfl (by first | exact Or.inl rfl | exact Or.inr rfl) (pk_c c_Palette hr (by rfl) pass0 (pa_cons (pe_callTy (T := "list") (call_listK K) (by rfl) T.b_list (by decide +kernel) (pa_cons (pv 5) pa_nil)) pa_nil)))
      (pss_cons (ps_set (i := 7) sc_law.nd rfl (by first | exact Or.inl rfl | exact Or.inr rfl) (pf_c c_lw_copied hr (by rfl) pass0 (pa_cons (pv 4) pa_nil)))
      (pss_cons (ps_if (PW.pt (pw_or (pt_not (pt_val (pf_c c_lw_counts_good hr (by rfl) pass0 (pa_cons (pv 7) pa_nil)))) (pw_or (pt_not (pt_val (pf_c c_lw_ordered_good hr (by rfl) pass0 (pa_cons (pv 7) (pa_cons (pv 5) (pa_cons (pv 6) pa_nil)))))) (pw_or1 (pt_cmpR (op_neDK K hr.units) (pv 7) (pv 4) (nomark _)))))) (pss_one (ps_ret pe_bl)) pss_nil)
      (pss_cons (ps_if (PW.pt (pw_or (pt_not (pt_val (pf_c c_lw_all_fewer hr (by rfl) pass0 (pa_cons (pv 4) (pa_cons (pv 5) (pa_cons (pv 6) (pa_cons (pe_op op_mod (pe_op op_fdiv (pv 1) pe_int) pe_int) pa_nil))))))) (pw_or1 (pt_not (pt_val (pf_c c_lw_beside_good hr (by rfl) pass0 (pa_cons (pv 4) (pa_cons (pv 5) pa_nil)))))))) (pss_one (ps_ret pe_bl)) pss_nil)
      (pss_cons (ps_set (i := 8) sc_law.nd rfl (by first | exact Or.inl rfl | exact Or.inr rfl) (pf_c c_lw_draw hr (by rfl) pass0 (pa_cons (pv 0) (pa_cons pe_int pa_nil))))
      (pss_cons (ps_set (i := 9) sc_law.nd rfl (by first | exact Or.inl rfl | exact Or.inr rfl) (pe_ix (ix_listK K) (pe_lst (pa_cons pe_int (pa_cons (pe_un un_neg pe_int) (pa_cons pe_bl (pa_cons pe_non (pa_cons pe_str (pa_cons (pe_lst (pa_cons pe_int pa_nil)) (pa_cons (pe_op op_pow pe_int pe_int) pa_nil)))))))) (pe_op op_mod (pv 8) pe_int) (fun _ _ => rfl)))
      (pss_cons (ps_set (i := 10) sc_law.nd rfl (by first | exact Or.inl rfl | exact Or.inr rfl) (pf_c c_lw_no_picture hr (by rfl) pass0 (pa_cons (pv 4) (pa_cons (pv 9) (pa_cons (pe_op op_fdiv (pv 8) pe_int) pa_nil)))))
      (pss_cons (ps_set (i := 11) sc_law.nd rfl (by first | exact Or.inl rfl | exact Or.inr rfl) (pe_ix (ix_listK K) (pe_lst (pa_cons pe_int (pa_cons pe_int (pa_cons (pe_un un_neg pe_int) (pa_cons pe_bl (pa_cons pe_non (pa_cons pe_str (pa_cons (pe_lst (pa_cons pe_int pa_nil)) (pa_cons (pe_op op_pow pe_int pe_int) pa_nil))))))))) (pe_op op_mod (pe_op op_fdiv (pv 8) pe_int) pe_int) (fun _ _ => rfl)))
      (pss_cons (ps_for (L2.passes_of rfl) rfl (pi_range1 rfl T.b_range (pa_cons pe_int pa_nil)) (pg_name (i := 12) sc_law.nd rfl (by first | exact Or.inl rfl | exact Or.inr rfl)) (pss_one (ps_if (pt_cmpR (op_neDK K hr.units) (pf_c c_lw_refused hr (by rfl) pass0 (pa_cons (pv 12) (pa_cons (pv 10) (pa_cons (pv 6) (pa_cons (pv 11) pa_nil))))) (pe_tup (pa_cons pe_str pa_nil)) (nomark _)) (pss_one (ps_ret pe_bl)) pss_nil)))
      (pss_cons (ps_if (pt_cmpR (op_neDK K hr.units) (pf_c c_lw_refused hr (by rfl) pass0 (pa_cons pe_int (pa_cons (pv 7) (pa_cons (pv 6) (pa_cons (pv 11) pa_nil))))) (pe_tup (pa_cons pe_str pa_nil)) (nomark _)) (pss_one (ps_ret pe_bl)) pss_nil)
      (pss_cons (ps_set (i := 13) sc_law.nd rfl (by first | exact Or.inl rfl | exact Or.inr rfl) (pe_callB (id := "max") (cr_maxK K rfl) (by rfl) T.b_max (by decide +kernel) (pa_cons (pe_lc (own := [("_law_row", 14)]) (g := (gName 14)) rfl sc_law.nd (pi_listK K (pv 4)) (blkOk_by (by kernel_rfl)) (fun _ _ _ _ _ => (pg_name (i := 14) sc_law.nd rfl (by first | exact Or.inl rfl | exact Or.inr rfl))) (fun _ _ _ _ _ => pts_nil) (fun _ _ _ _ _ => (pe_callB (id := "max") (cr_maxK K rfl) (by rfl) T.b_max (by decide +kernel) (pa_cons (pv 14) pa_nil)))) pa_nil)))
      (pss_cons (ps_set (i := 15) sc_law.nd rfl (by first | exact Or.inl rfl | exact Or.inr rfl) (pk_c c_Palette hr (by rfl) pass0 (pa_cons (pe_slice (sl_listK K) (pv 5) po_none (po_some (pe_callB (id := "max") (call_max2 rfl) (by rfl) T.b_max (by decide +kernel) (pa_cons pe_int (pa_cons (pv 13) pa_nil))))) pa_nil)))
      (pss_cons (ps_for (L2.passes_of rfl) rfl (pi_tupK K (pe_tup (pa_cons pe_int (pa_cons pe_int pa_nil)))) (pg_name (i := 12) sc_law.nd rfl (by first | exact Or.inl rfl | exact Or.inr rfl)) (pss_one (ps_if (PW.pt (pw_and (pt_cmpR op_gt (pv 13) pe_int (nomark _)) (pw_and1 (pt_cmpR (op_neDK K hr.units) (pf_c c_lw_refused hr (by rfl) pass0 (pa_cons (pv 12) (pa_cons (pv 7) (pa_cons (pv 15) (pa_cons (pv 11) pa_nil))))) (pe_tup (pa_cons pe_str pa_nil)) (nomark _))))) (pss_one (ps_ret pe_bl)) pss_nil)))
      (pss_cons (ps_for (L2.passes_of rfl) rfl (pi_listK K (pe_slice (sl_listK K) (pv 5) (po_some (pm_c0 (pv 15) c_many hr pass0)) po_none)) (pg_name (i := 16) sc_law.nd rfl (by first | exact Or.inl rfl | exact Or.inr rfl)) (pss_one (ps_expr (pm_c (pv 15) c_add_colour hr pass0 (pa_cons (pv 16) pa_nil)))))
      (pss_cons (ps_if (pt_not (pt_val (pf_c c_lw_ordered_good hr (by rfl) pass0 (pa_cons (pv 4) (pa_cons (pv 5) (pa_cons (pv 15) pa_nil)))))) (pss_one (ps_ret pe_bl)) pss_nil)
      (pss_cons (ps_expr (pe_bm0K K PySem.F.plainAttrs_list PySem.F.slot_list_reverse PySem.F.type_list_reverse mt_reverse (pe_ix (ix_listK K) (pv 7) pe_int (fun _ _ => rfl))))
      (pss_cons (ps_set (i := 17) sc_law.nd rfl (by first | exact Or.inl rfl | exact Or.inr rfl) (pf_c c_lw_copied hr (by rfl) pass0 (pa_cons (pv 7) pa_nil)))
      (pss_one (ps_ret (pe_and (pf_c c_lw_counts_good hr (by rfl) pass0 (pa_cons (pv 7) pa_nil)) (pe_one (pe_cmpR (op_eqDK K hr.units) (pf_c c_fewer_cells hr (by rfl) passLN (pa_cons (pv 7) (pa_cons (pv 6) (pa_cons pe_int pa_nil)))) (pv 17) (nomark _)))))))))))))))))))))))))))), ?_⟩
    -- the number, the pool
    refine q_asg (ev_draw (ev_var rfl) ev_c hq (by decide)) fun H1 e1 => ?_
    have hd0 := (drawF_range cells 0).1
    generalize drawF cells 0 = num at hd0
    refine q_set (P := fun v H' => ∃ l xs cols, v = .ref l ∧ H' l = some (.lst xs) ∧ DpAll K H' xs (cols.map colD) ∧ Pool cols) (ep_call (ea_cons (ev_var rfl) (ea_cons ev_c (ea_cons (ev_op (ev_op (ev_var rfl) ev_c (rv_mod (by decide))) ev_c (rv_eq rfl)) ea_nil))) fun H2 e2 Q q1 => ⟨q, cells, 60, _, rfl, ex_l (e1.trans e2) hq, by decide, fun l xs cols H3 e3 hl hl2 hx hp => q1 _ H3 e3 ⟨l, xs, cols, rfl, hl2, hx, hp⟩⟩) fun v2 H2 e2 h2 => ?_
    obtain ⟨lp, xs0, cols0, rfl, hlp, hx0, hpool⟩ := h2
    have hlen0 : xs0.length = cols0.length := by
      have := dp_len hx0
      rwa [List.length_map] at this
    have hpl := hpool.len
    -- how many
    obtain ⟨mm, hmm⟩ : ∃ mm : Int, mm = if ((xs0.length : Nat) : Int) < 16 then ((xs0.length : Nat) : Int) else 16 := ⟨_, rfl⟩
    have hmmr : 1 ≤ mm ∧ mm ≤ 16 ∧ mm ≤ ((cols0.length : Nat) : Int) := by
      rw [hmm]
      split <;> omega
    have hmin : ∀ {σ : L2.St} {H' : Hp}, Ev (tVar 2) σ H' (.ref lp) → Ex H2 H' → Ev (tCB (fun xs H Q => ∃ i j, xs = [.int i, .int j] ∧ Q (.int (if j < i then j else i)) H) (tCons (tC (.int 16)) (tCons (tCB (fun vs H Q => ∃ p ys, vs = [V.ref p] ∧ (SqL K H p ys ∨ SqT K H p ys) ∧ Q (.int ys.length) H) (tCons (tVar 2) tNil)) tNil))) σ H' (.int mm) := fun hv he => by
      rw [hmm]
      exact ev_cb (ea_cons ev_c (ea_cons (ev_lenA hv (.inl (sq_of (he _ _ hlp)))) ea_nil)) fun H7 e7 Q q => ⟨16, _, rfl, q H7 (Ex.refl _)⟩
    refine q_asg (ev_op ev_c (ev_op (ev_op (ev_var rfl) ev_c (rv_div (by decide))) (hmin (ev_var rfl) (Ex.refl _)) (rv_mod (by omega))) rv_I0) fun H3 e3 => ?_
    have hmr := mod_rng (num / 2) (m := mm) (by omega)
    obtain ⟨many, hmany⟩ : ∃ many : Int, many = 1 + num / 2 % mm := ⟨_, rfl⟩
    rw [← hmany]
    have hmy : 1 ≤ many ∧ many ≤ mm := by omega
    -- the picture
    refine q_set (P := fun v H' => ∃ r p, v = .ref r ∧ NewP H3 H' r p ∧ Good p ∧ ∀ c ∈ p.flatten, c < many) (ep_call (ea_cons (ev_var rfl) (ea_cons ev_c (ea_cons (ev_var rfl) ea_nil))) fun H4 e4 Q q1 => ⟨q, cells, 2, many, rfl, ex_l (e1.trans (e2.trans (e3.trans e4))) hq, by decide, by omega, fun r p H5 e5 n5 g5 c5 => q1 _ H5 e5 ⟨r, p, rfl, n5.ex e4 (Ex.refl _), g5, c5⟩⟩) fun v4 H4 e4 h4 => ?_
    obtain ⟨pq, p, rfl, n4, hg, hcm⟩ := h4
    obtain ⟨pts, hpL⟩ := n4.pic
    have hhi := hg.high
    -- the colours
    have hnr := mod_rng (num / 32) (m := mm - many + 1) (by omega)
    obtain ⟨n, hn⟩ : ∃ n : Int, n = many + num / 32 % (mm - many + 1) := ⟨_, rfl⟩
    have hnn : many ≤ n ∧ n ≤ mm := by omega
    refine q_asgL (xs := xs0.take n.toNat) (fun H5 e5 Q q1 => (el_sl (lo := none) (hi := some n) (ev_var rfl) eo_none (eo_some (by
        rw [hn]
        exact ev_op (ev_var rfl) (ev_op (ev_op (ev_var rfl) ev_c (rv_div (by decide))) (ev_op (ev_op (hmin (ev_var rfl) (e3.trans e4)) (ev_var rfl) rv_I0) ev_c rv_I0) (rv_mod (by omega))) rv_I0)) (sq_of (e4 _ _ (e3 _ _ hlp)))) H5 e5 Q (by rw [cut_take _ (by omega)]; exact q1)) fun zc H5 hzc e5 hzcv => ?_
    have e25 := e3.trans (e4.trans e5)
    have hxc : DpAll K H5 (xs0.take n.toNat) ((cols0.take n.toNat).map colD) := by
      rw [List.map_take]
      exact dpa_takeG (dpax hx0 e25) _
    have hgc : GoodC (cols0.take n.toNat) := goodC_take hpool.val hpool.nd (by omega) (by omega) (by omega)
    have hlc : (cols0.take n.toNat).length = n.toNat := by rw [List.length_take]; omega
    have hlx : (xs0.take n.toNat).length = n.toNat := by rw [List.length_take]; omega
    generalize cols0.take n.toNat = cols at hxc hgc hlc
    generalize xs0.take n.toNat = xs at hxc hzcv hlx
    have hall : ∀ c ∈ p.flatten, c < ((cols.length : Nat) : Int) := fun c hc => by
      have := hcm c hc
      omega
    have hyc := cols_ls hzcv hxc
    -- the palette
    refine q_setPal (evpal_make (ep_newCols (el_listC (ev_var rfl) (.inl (sq_of hzcv))) hxc) hgc) fun pl ll H6 e6 n6 => ?_
    obtain ⟨dxp, xsp, hpG⟩ := n6.pg hgc
    -- handed
    refine q_setPic (rows := p) (evp_copied (ev_var rfl) (hpL.ex (e5.trans e6)).dp (by omega)) fun hq7 H7 e7 n7 => ?_
    obtain ⟨hts, k7⟩ := n7.2
    have hhL := kids_pic k7
    have e57 := e6.trans e7
    have hne : ∀ {σ : L2.St} {H' : Hp}, Ex H7 H' → Ev (tVar 7) σ H' (.ref hq7) → Ev (tVar 4) σ H' (.ref pq) → EvT (tTest (tOp (rNeD K) (tVar 7) (tVar 4))) σ H' false := fun {σ H'} he h1 h2 => et_at (et_test (ev_neP (ep_dp h1 (hhL.ex he).dp) (fun H8 e8 => ep_dp (h2.mono e8) (hpL.ex (e5.trans (e57.trans (he.trans e8)))).dp) (shaped_pic _) (shaped_pic _))) (by
      rw [eqv_pic, decide_eq_true rfl]
      rfl)
    refine q_when (b := false) (et_at (et_or (a := false) (b := false) (et_at (et_not (et_B (ev_countsGood (ev_var rfl) hhL.dp hg))) rfl) fun _ => et_at (et_or (a := false) (b := false) (et_at (et_not (et_B (ev_ordGood (ev_var rfl) (ev_var rfl) (ev_var rfl) hhL.dp hg (dpx hyc e57) (hpG.ex e7) hall))) rfl) fun _ => hne (Ex.refl _) (ev_var rfl) (ev_var rfl)) rfl) rfl) (fun hb => nomatch hb) fun _ H8 e8 => ?_
    have e58 := e57.trans e8
    refine q_when (b := false) (et_at (et_or (a := false) (b := false) (et_at (et_not (et_B (ev_callV (v := .bl true) (ea_cons (ev_var rfl) (ea_cons (ev_var rfl) (ea_cons (ev_var rfl) (ea_cons (ev_op (ev_op (ev_var rfl) ev_c (rv_div (by decide))) ev_c (rv_mod (by decide))) ea_nil)))) fun H9 e9 Q q1 => ⟨pq, pts, .ref zc, .ref pl, _, p, pl, dxp, ll, xsp, cols, rfl, hpL.ex (e5.trans (e58.trans e9)), hg, dpx hyc (e58.trans e9), hpG.ex (e7.trans (e8.trans e9)), hall, q1⟩))) rfl) fun _ => et_at (et_not (et_B (ev_callV (v := .bl true) (ea_cons (ev_var rfl) (ea_cons (ev_var rfl) ea_nil)) fun H9 e9 Q q1 => ⟨.ref pq, .ref zc, p, cols, rfl, (hpL.ex (e5.trans (e58.trans e9))).dp, hg, dpx hyc (e58.trans e9), hgc, hall, q1⟩))) rfl) rfl) (fun hb => nomatch hb) fun _ H9 e9 => ?_
    have e19 := e1.trans (e2.trans (e25.trans (e58.trans e9)))
    have e59 := e58.trans e9
    -- what is odd
    refine q_asg (ev_draw (ev_var rfl) ev_c (ex_l e19 hq) (by decide)) fun H10 e10 => ?_
    have hd1 := (drawF_range cells 1).1
    generalize drawF cells 1 = more at hd1
    refine q_set (P := fun v H' => ∃ d, d ∈ odd7 ∧ Dp K H' v d) (ep_pickD (i := more % 7) (ls_lst (eadp_cons (ep_dp ev_c (.int _)) (eadp_cons (ep_dp (ev_un ev_c ru_neg) (.int _)) (eadp_cons (ep_dp ev_c (.bl _)) (eadp_cons (ep_dp ev_c .non) (eadp_cons (ep_dp ev_c (.str _)) (eadp_cons (ls_dp (ls_one (ep_dp ev_c (.int _)))) (eadp_cons (ep_dp (ev_op ev_c ev_c (rv_I (C := CPow) (show CPow 10 20 by unfold CPow; decide))) (.int _)) eadp_nil))))))) (show 7 ≤ 100000 by decide)) (fun H11 e11 => ev_op (ev_var rfl) ev_c (rv_mod (by decide))) (mod_rng _ (by decide))) fun vo H11 e11 h11 => ?_
    obtain ⟨dO, hdO, hodd⟩ := h11
    refine q_set (P := fun v H' => ThP K H' v false) (ep_call (ea_cons (ev_var rfl) (ea_cons (ev_var rfl) (ea_cons (ev_op (ev_var rfl) ev_c (rv_div (by decide))) ea_nil))) fun H12 e12 Q q1 => ⟨pq, pts, p, vo, dO, more / 7, rfl, hpL.ex (e5.trans (e59.trans (e10.trans (e11.trans e12)))), hg, dpx hodd e12, odd7_bad dO hdO, by omega, fun v H13 e13 hv => q1 v H13 e13 hv⟩) fun vb H12 e12 hbad => ?_
    refine q_set (P := fun v H' => ∃ d, d ∈ size8 ∧ Dp K H' v d) (ep_pickD (i := more / 64 % 8) (ls_lst (eadp_cons (ep_dp ev_c (.int _)) (eadp_cons (ep_dp ev_c (.int _)) (eadp_cons (ep_dp (ev_un ev_c ru_neg) (.int _)) (eadp_cons (ep_dp ev_c (.bl _)) (eadp_cons (ep_dp ev_c .non) (eadp_cons (ep_dp ev_c (.str _)) (eadp_cons (ls_dp (ls_one (ep_dp ev_c (.int _)))) (eadp_cons (ep_dp (ev_op ev_c ev_c (rv_I (C := CPow) (show CPow 10 20 by unfold CPow; decide))) (.int _)) eadp_nil)))))))) (show 8 ≤ 100000 by decide)) (fun H13 e13 => ev_op (ev_op (ev_var rfl) ev_c (rv_div (by decide))) ev_c (rv_mod (by decide))) (mod_rng _ (by decide))) fun vz H13 e13 h13 => ?_
    obtain ⟨dZ, hdZ, hsize⟩ := h13
    have hszb := size8_bad dZ hdZ
    have e9_13 := e10.trans (e11.trans (e12.trans e13))
    have e5_13 := e59.trans e9_13
    have e7_13 := e8.trans (e9.trans e9_13)
    -- no pictures are refused
    refine q_forR1 (n := 3) (ea_cons ev_c ea_nil) (by decide) (fun i σ' H' => Ex H13 H' ∧ ∃ s12, σ' = [some (.ref q), some (.int num), some (.ref lp), some (.int many), some (.ref pq), some (.ref zc), some (.ref pl), some (.ref hq7), some (.int more), some vo, some vb, some vz, s12, none, none, none, none, none]) (fun H14 e14 => ⟨e14, _, rfl⟩) (fun i σ' H' hi h => ?_) (fun σ' H14 h => ?_)
    · obtain ⟨k1, s12, rfl⟩ := h
      exact s_when (b := false) (et_refused (D := a.pic) (nm := "BadPicture") (word := "picture") (ea_cons (ev_var rfl) (ea_cons (ev_var rfl) (ea_cons (ev_var rfl) (ea_cons (ev_var rfl) ea_nil)))) (.inl ⟨by omega, rfl, thp_ex hbad (e13.trans k1)⟩) L.wpic (.inl ⟨rfl, rfl⟩)) (fun hb => nomatch hb) fun _ H15 e15 => ⟨k1.trans e15, _, rfl⟩
    · obtain ⟨e14, s12, rfl⟩ := h
      have e5_14 := e5_13.trans e14
      have e7_14 := e7_13.trans e14
      refine q_when (b := false) (et_refused (D := a.siz) (nm := "BadSize") (word := "size") (v := .ref pl) (ea_cons ev_c (ea_cons (ev_var rfl) (ea_cons (ev_var rfl) (ea_cons (ev_var rfl) ea_nil)))) (.inr (.inr ⟨rfl, rfl, p, pl, dxp, ll, xsp, cols, hpG.ex (e7.trans e7_14), (hhL.ex e7_14).dp, hg, hall, dZ, dpx hsize e14, hszb⟩)) L.wsiz (.inr (.inl ⟨rfl, rfl⟩))) (fun hb => nomatch hb) fun _ H15 e15 => ?_
      have e5_15 := e5_14.trans e15
      have hpL15 := hpL.ex (e5.trans e5_15)
      -- the greatest cell
      refine q_asg (v := .int (maxL (p.map maxL))) (ev_maxN (ns := p.map maxL) (by
        have e0 : rowV (p.map maxL) = p.map fun r => V.int (maxL r) := by
          rw [rowV, List.map_map]
          rfl
        rw [e0]
        refine el_dataM (ev_var rfl) (sq_of hpL15.lst) hpL15.rows (by omega) (fun _ => rfl) fun x r H16 hrm hd e16 => ?_
        obtain ⟨t, rfl, ht2⟩ := dp_row_inv hd
        exact ev_maxA (ev_var rfl) ht2 (by have := hg.row hrm; omega)) (by rw [List.length_map]; omega)) fun H16 e16 => ?_
      obtain ⟨hM1, hM2⟩ := maxP_is hg
      have hM3 := hg.flat hM1
      have hM4 := hcm _ hM1
      generalize maxL (p.map maxL) = M at hM1 hM2 hM3 hM4
      -- a few colours
      obtain ⟨k, hk⟩ : ∃ k : Int, k = if M > 1 then M else 1 := ⟨_, rfl⟩
      have hkr : 1 ≤ k ∧ k ≤ n ∧ (0 < M → k = M) := by
        rw [hk]
        split <;> omega
      have e5_16 := e5_15.trans e16
      have hzc16 := e5_16 _ _ hzcv
      have hxc16 := dpax hxc e5_16
      have hgk : GoodC (cols.take k.toNat) := goodC_take hgc.val hgc.nd (by omega) (by omega) (by omega)
      have hlk : (cols.take k.toNat).length = k.toNat := by rw [List.length_take]; omega
      refine q_setPal (evpal_make (ls_to (ds := cols.map colD) (i := k) (ep_dp (ev_var rfl) (cols_ls hzc16 hxc16)) (fun H17 e17 => eo_some (by
        rw [hk]
        exact ev_cb (ea_cons ev_c (ea_cons (ev_var rfl) ea_nil)) fun H18 e18 Q q => ⟨1, M, rfl, q H18 (Ex.refl _)⟩)) (by omega) |>.imp fun v H' hv => by
          have := hv.dp
          rw [← List.map_take] at this
          exact this) hgk) fun pf lf H17 e17 n17 => ?_
      obtain ⟨dxf, xsf, hpF⟩ := n17.pg hgk
      have hlfv := hpF.at_.lst
      have hlf16 := n17.l0
      have hflen := hpF.len
      have e7_17 := e7_14.trans (e15.trans (e16.trans e17))
      -- cells without a colour are refused
      refine q_forTP (eu_ep (eu_tup (vs := [.int 1, .int 2]) (ea_cons ev_c (ea_cons ev_c ea_nil)) (show 2 ≤ 100000 by decide))) fun v18 H18 e18 h18 => ?_
      obtain ⟨tt, rfl, htt⟩ := h18
      refine ⟨tt, [.int 1, .int 2], rfl, htt, fun i σ' H' => Ex H18 H' ∧ ∃ s12, σ' = [some (.ref q), some (.int num), some (.ref lp), some (.int many), some (.ref pq), some (.ref zc), some (.ref pl), some (.ref hq7), some (.int more), some vo, some vb, some vz, s12, some (.int M), none, some (.ref pf), none, none], ⟨Ex.refl _, _, rfl⟩, fun i σ' H' _ h => h.1 _ _ htt, fun i x σ' H' hx h => ?_, fun σ' H19 h => ?_⟩
      · obtain ⟨k1, s12, rfl⟩ := h
        obtain ⟨way, rfl, hway⟩ : ∃ way : Int, x = .int way ∧ (way = 1 ∨ way = 2) := by
          match i, hx with
          | 0, hx => cases hx; exact ⟨1, rfl, .inl rfl⟩
          | 1, hx => cases hx; exact ⟨2, rfl, .inr rfl⟩
          | i + 2, hx => simp at hx
        refine s_when (b := false) (fun H19 e19 Q q1 => (et_and (a := decide (M > 0)) (b := false) (et_test (ev_op (ev_var rfl) ev_c rv_I0)) fun hb => et_refused (D := a.noc) (nm := "NoColour") (word := "none") (v := .ref pf) (ea_cons (ev_var rfl) (ea_cons (ev_var rfl) (ea_cons (ev_var rfl) (ea_cons (ev_var rfl) ea_nil)))) (.inr (.inl ⟨hway, rfl, p, pf, dxf, lf, xsf, _, hpF.ex (e18.trans k1), (hhL.ex (e7_17.trans (e18.trans k1))).dp, hg, M, hM1, by
            have := of_decide_eq_true hb
            have := hkr.2.2 this
            omega⟩)) L.wnoc (.inr (.inr ⟨rfl, rfl⟩))) H19 e19 Q fun H20 e20 => by
              rw [Bool.and_false]
              exact q1 H20 e20) (fun hb => nomatch hb) fun _ H19 e19 => ⟨k1.trans e19, _, rfl⟩
      · obtain ⟨e19, s12, rfl⟩ := h
        have e17_19 := e18.trans e19
        have hpF19 := hpF.ex e17_19
        have e5_19 := e5_16.trans (e17.trans e17_19)
        have hzc19 := e5_19 _ _ hzcv
        have hxc19 := dpax hxc e5_19
        -- the other colours are added
        refine q_forNL (xs := xs.drop k.toNat) (fun H20 e20 Q q1 => (el_sl (lo := some k) (hi := none) (ev_var rfl) (eo_some (ev_at (ev_meth (ev_var rfl) hpF19.at_.ins rfl ea_nil fun H21 e21 Q q2 => ⟨pf, dxf, lf, xsf, rfl, hpF19.at_.ex e21, q2⟩) (by
            congr 1
            omega))) eo_none (sq_of hzc19)) H20 e20 Q (by rw [cut_drop _ (by omega)]; exact q1)) (fun z i σ' H' => H19 z = none ∧ Ex (remL H19 [lf]) H' ∧ H' z = some (.lst (xs.drop k.toNat)) ∧ (∃ ys, PalX a.pal H' pf dxf lf ys ∧ DpAll K H' ys ((cols.take (k.toNat + i)).map colD)) ∧ ∃ s12 s16, σ' = [some (.ref q), some (.int num), some (.ref lp), some (.int many), some (.ref pq), some (.ref zc), some (.ref pl), some (.ref hq7), some (.int more), some vo, some vb, some vz, s12, some (.int M), none, some (.ref pf), s16, none])
          (fun z H20 hz e20 hzv => ⟨hz, (remL_ex _ _).trans e20, hzv, ⟨xsf, hpF19.at_.ex e20, by rw [Nat.add_zero]; exact dpax hpF19.dp e20⟩, _, _, rfl⟩) (fun z i σ' H' _ h => sq_of h.2.2.1) (fun z i x σ' H' hx h => ?_) (fun z σ' H20 h => ?_)
        · obtain ⟨k1, k2, k3, ⟨ys, k4, k5⟩, s12, s16, rfl⟩ := h
          have hxi : xs[k.toNat + i]? = some x := by
            rw [List.getElem?_drop] at hx
            exact hx
          obtain ⟨c, hc, hxd⟩ := dpa_atG hxc19 hxi
          have hil := (List.getElem?_eq_some_iff.mp hc).1
          have nz : z ≠ lf := fun e => by
            have := hpF19.at_.lst
            rw [← e, k1] at this
            cases this
          have hxd' : Dp K H' x (colD c) := by
            obtain ⟨tc, rfl, htc⟩ := dp_col_inv hxd
            refine dp_col ?_
            rcases htc with (h | ⟨o, h⟩) | h
            · exact .inl (.inl (k2 _ _ (remL_at h fun hm => by
                rw [List.mem_singleton.mp hm, hpF19.at_.lst] at h
                cases h)))
            · exact .inl (.inr ⟨o, k2 _ _ (remL_at h fun hm => by
                rw [List.mem_singleton.mp hm, hpF19.at_.lst] at h
                cases h)⟩)
            · exact .inr h
          have hnin : c ∉ cols.take (k.toNat + i) := fun hm => by
            obtain ⟨j, hj, ej⟩ := List.getElem_of_mem hm
            rw [List.length_take] at hj
            rw [List.getElem_take] at ej
            obtain ⟨_, ec⟩ := List.getElem?_eq_some_iff.mp hc
            exact (List.pairwise_iff_getElem.mp hgc.nd) j (k.toNat + i) (by omega) hil (by omega) (ej.trans ec.symm)
          have npf : pf ≠ lf := fun e => by
            have := k4.ins
            rw [e, k4.lst] at this
            cases this
          refine s_dropMeth (ev_var rfl) k4.ins rfl (ev_var rfl) fun H21 e21 => ⟨pf, dxf, lf, ys, cols.take (k.toNat + i), x, c, rfl, k4.ex e21, dpax k5 e21, dpx hxd' e21, hgc.val c (List.mem_of_getElem? hc), hnin, by rw [List.length_take]; have := hgc.len; omega, fun H3 e3 H2 e2 => ⟨k1, (Ex.mut (k2.trans (e21.trans e3)) (remL_none (List.mem_singleton_self _))).trans e2, e2 _ _ (by rw [upd_ne nz]; exact e3 _ _ (e21 _ _ k3)), ⟨ys ++ [x], PalX.ex ⟨by rw [upd_ne npf]; exact e3 _ _ (e21 _ _ k4.ins), upd_same⟩ e2, ?_⟩, _, _, rfl⟩⟩
          have hl3 := e3 _ _ (e21 _ _ k4.lst)
          rw [show k.toNat + (i + 1) = k.toNat + i + 1 by omega, List.take_add_one, hc, List.map_append]
          exact dpax (dpa_snoc (dp_col_upd (dpx hxd' (e21.trans e3)) hl3) (dpa_col_upd hl3 (dpax k5 (e21.trans e3)))) e2
        · obtain ⟨k1, k2, k3, ⟨ys, k4, k5⟩, s12, s16, rfl⟩ := h
          have eall : cols.take (k.toNat + (xs.drop k.toNat).length) = cols := List.take_of_length_le (by rw [List.length_drop]; omega)
          rw [eall] at k5
          have e16_20 : Ex H16 H20 := (ex_remL (e17.trans e17_19) fun b hb => by
            rw [List.mem_singleton.mp hb]
            exact hlf16).trans k2
          have e5_20 := e5_16.trans e16_20
          have e7_20 := e7_14.trans (e15.trans (e16.trans e16_20))
          refine q_when (b := false) (et_at (et_not (et_B (ev_ordGood (ev_var rfl) (ev_var rfl) (ev_var rfl) (hpL.ex (e5.trans e5_20)).dp hg (dpx hyc e5_20) (⟨rfl, k4, k5, hgc⟩ : PalG K a H20 (.ref pf) pf dxf lf ys cols) hall))) rfl) (fun hb => nomatch hb) fun _ H21 e21 => ?_
          -- a row of handed is reversed
          have hh21 := hhL.ex (e7_20.trans e21)
          obtain ⟨r0, hr0⟩ : ∃ r0, p[0]? = some r0 := ⟨_, List.getElem?_eq_getElem (by omega)⟩
          obtain ⟨th, hth⟩ : ∃ th, hts[0]? = some th := ⟨_, List.getElem?_eq_getElem (by have := hhL.len; omega)⟩
          have hthr := hh21.at_ 0 th r0 hth hr0
          have hthm := List.mem_of_getElem? hth
          refine q_rev (ev_op (ev_var rfl) ev_c (rv_ixL (sq_of hh21.lst) (atI_nat (j := 0) (by rw [List.getElem?_map, hth]; rfl)))) hthr fun H22 e22 => ?_
          obtain ⟨hg', hsub'⟩ := good_rev hg hr0
          have e6_23 : Ex H6 (upd H22 th (.lst (rowV r0).reverse)) := Ex.mut (e7.trans (e7_20.trans (e21.trans e22))) (k7.new th hthm)
          have hh23 : PicL (upd H22 th (.lst (rowV r0).reverse)) hq7 hts (p.set 0 r0.reverse) := by
            have hne : hq7 ≠ th := fun e => k7.out (by
              rw [e]
              exact hthm)
            have hh22 := hh21.ex e22
            refine ⟨by rw [upd_ne hne]; exact hh22.lst, by rw [List.length_set]; exact hh22.len, fun i t r h1 h2 => ?_⟩
            by_cases ei : i = 0
            · subst ei
              rw [hth] at h1
              cases h1
              rw [List.getElem?_set_self (by omega)] at h2
              cases h2
              rw [upd_same, rowV, rowV, List.map_reverse]
            · rw [List.getElem?_set_ne (Ne.symm ei)] at h2
              have hnt : t ≠ th := fun e => ei (by
                subst e
                exact (List.getElem?_inj (by have := (List.getElem?_eq_some_iff.mp h1).1; omega) k7.nd).mp (h1.trans hth.symm))
              rw [upd_ne hnt]
              exact hh22.at_ i t r h1 h2
          generalize upd H22 th (.lst (rowV r0).reverse) = H23 at e6_23 hh23
          have hhi' := hg'.high
          have hall' : ∀ c ∈ (p.set 0 r0.reverse).flatten, c < ((cols.length : Nat) : Int) := fun c hc => hall c (hsub' c hc)
          generalize p.set 0 r0.reverse = p' at hg' hh23 hhi' hall'
          refine q_setPic (rows := p') (evp_copied (ev_var rfl) hh23.dp (by omega)) fun aq H24 e24 n24 => ?_
          have hfew : EvP (tCall (spFew K a) [] E0 (tCons (tVar 7) (tCons (tVar 6) (tCons (tC (.int 16)) tNil)))) _ H24 (fewM cols 16 p') := evp_few (k := 16) (σ := [some (.ref q), some (.int num), some (.ref lp), some (.int many), some (.ref pq), some (.ref zc), some (.ref pl), some (.ref hq7), some (.int more), some vo, some vb, some vz, s12, some (.int M), none, some (.ref pf), s16, some (.ref aq)]) (ep_dp (ev_var rfl) (hh23.ex e24).dp) (fun H25 e25 => ev_var rfl) (fun H25 e25 => ev_c) (hpG.ex (e6_23.trans e24)) hg' hall' (by decide)
          rw [fewM_all (by decide)] at hfew
          refine s_ret (v := .bl (true && true)) (ev_andV (ev_countsGood (ev_var rfl) (hh23.ex e24).dp hg') fun _ => ev_at (ev_eqP (ep_pic hfew) (fun H25 e25 => ep_dp (ev_var rfl) (n24.ex (Ex.refl _) e25).dp) (shaped_pic _) (shaped_pic _)) (by rw [eqv_pic, decide_eq_true rfl])) fun H25 e25 => q0 H25
end
end C19
set_option Elab.async false
set_option linter.all false
set_option maxRecDepth 100000
set_option maxHeartbeats 0
/-! the head by facts, and the law -/
namespace C19
open PySem PySem.Spec PyProof.Rows L2
/-- one def of the top -/
def dg (x : Str) (i : Nat) : He.DefD := ⟨(x, none), x, x, defArgs (top i), defBody (top i), defScope (top i), [], []⟩
def dm (m q : Str) (j : Nat) : He.DefD := ⟨("Palette", some m), m, q, defArgs (inClass (top 41) j), defBody (inClass (top 41) j), defScope (inClass (top 41) j), [], []⟩
def fnL : List He.DefD := [dg "is_among" 29, dg "is_cell" 30, dg "are_cells" 31, dg "is_picture" 32, dg "need_picture" 33, dg "is_colour" 36, dg "need_colour" 37, dg "apart" 38,
  dm "__init__" "Palette.__init__" 0, dm "colours" "Palette.colours" 1, dm "many" "Palette.many" 2, dm "colour_of" "Palette.colour_of" 3, dm "cell_of" "Palette.cell_of" 4, dm "add_colour" "Palette.add_colour" 5,
  dg "recoloured" 42, dg "cell_counts" 44, dg "used_counts" 45, dg "ordered_picture" 46, dg "heir_of" 47, dg "fewer_cells" 48,
  dg "_law_draw" 50, dg "_law_whole" 51, dg "_law_word" 52, dg "_law_colour" 53, dg "_law_apart" 54, dg "_law_pool" 55, dg "_law_size" 56, dg "_law_picture" 57, dg "_law_copied" 58, dg "_law_rows_good" 59, dg "_law_own" 60,
  dg "_law_no_picture" 61, dg "_law_counts" 62, dg "_law_used" 63, dg "_law_order" 64, dg "_law_one_less" 65, dg "_law_counts_good" 66, dg "_law_ordered_good" 67, dg "_law_beside_good" 68, dg "_law_all_fewer" 69, dg "_law_refused" 70, dg "law" 71]
def gloN : List Str := ["is_among", "is_cell", "are_cells", "is_picture", "need_picture", "is_colour", "need_colour", "apart", "Palette", "recoloured", "cell_counts", "used_counts", "ordered_picture", "heir_of", "fewer_cells",
  "_law_draw", "_law_whole", "_law_word", "_law_colour", "_law_apart", "_law_pool", "_law_size", "_law_picture", "_law_copied", "_law_rows_good", "_law_own"]
def gloM : List Str := ["_law_no_picture", "_law_counts", "_law_used", "_law_order", "_law_one_less", "_law_counts_good", "_law_ordered_good", "_law_beside_good", "_law_all_fewer", "_law_refused", "law"]
def freeN : List Str := ["isinstance", "int", "bool", "list", "tuple", "len", "all", "any", "sorted", "enumerate", "min", "max", "sum", "zip", "range", "ValueError"]
def fa : List He.Fa := (gloN ++ gloM ++ excN).map He.Fa.glo ++ freeN.map He.Fa.free ++ [.int "MOST_SIDE" 24, .int "MOST_CELL" 15, .int "MOST_SHARE" 255, .int "MOST_COLOURS" 16, .cls "Palette", .noat "Palette" "shades",
  .meth "Palette" "colours", .meth "Palette" "many", .meth "Palette" "colour_of", .meth "Palette" "cell_of", .meth "Palette" "add_colour", .mkr "Palette",
  .exc "BadPicture", .exc "BadSize", .exc "NoColour", .exm "BadPicture" "FolioError" true, .exm "BadSize" "FolioError" true, .exm "NoColour" "FolioError" true]
def eqOB (a b : Option Bool) : Bool := decide (a = b)
/-- the errors that are raised here -/
def excB (K : PySem.W.Frag) (x : Str) : Bool :=
  He.eqO (PySem.W.findIn K (.ref (He.ga K x)) "__getattribute__") (some (some (.builtin "BaseException.__getattribute__"))) && (He.eqO (PySem.W.findIn K (.ref (He.ga K x)) "__getattr__") (some none) && (eqOB (PySem.W.subIn K (.ref (He.ga K x)) (.type "BaseException")) (some true) && (PySem.W.hasDictIn K (He.ga K x) &&
    (He.eqO (PySem.W.findIn K (.ref (He.ga K x)) "__class__") (some (some (.builtin "object.__class__"))) && (eqOB (PySem.W.mroIn K (He.ga K x) (.type "object")) (some true) &&
      ((excN.all fun y => eqOB (PySem.W.kitOne K (.ref (He.ga K x)) (.ref (He.ga K y))) (some (decide (y = "FolioError") || decide (y = x)))) && eqOB (PySem.W.kitOne K (.ref (He.ga K x)) (.type "ValueError")) (some true)))))))
def exB (K : PySem.W.Frag) : Bool := He.eqO (PySem.W.specialIn K (.builtin "object.__class__") "__get__") (some (some (.builtin "getset_descriptor.__get__"))) && (eqOB (PySem.W.takesIn K (.builtin "object.__class__")) (some true) &&
  (excB K "BadPicture" && (excB K "BadSize" && (excB K "NoColour" &&
    (He.eqO (PySem.W.findIn K (.ref (He.ga K "Palette")) "__class__") (some (some (.builtin "object.__class__"))) && (eqOB (PySem.W.mroIn K (He.ga K "Palette") (.type "object")) (some true) && eqOB (PySem.W.kitOne K (.ref (He.ga K "Palette")) (.ref (He.ga K "Palette"))) (some true)))))))
/-! ### the Hook: the defs, the facts, one Bool more -/
def SaysM (K : PySem.W.Frag) : Prop := He.SaysD fa fnL K ∧ exB K = true
abbrev AlM : Type := He.AlD × Bool
def obsM (g : Addr → Option Obj) : AlM := (He.obsD fa fnL (He.frG g (He.asD g 4)), exB (He.frG g (He.asD g 4)))
def hkM : PySem.W.Hook where
  α := AlM
  obs := fun s => obsM s.heap.get?
  val := fun _ => (He.valD fnL, true)
  says := fun _ h => ∃ K : PySem.W.Frag, K.In h ∧ SaysM K
  of := fun _ _ e => ⟨_, He.frG_in, congrArg (fun z : AlM => z.1) e, congrArg (fun z : AlM => z.2) e⟩
  keeps := fun _ _ _ ⟨K, hK, c⟩ k => ⟨K, PySem.W.Frag.In.keeps hK k, c⟩
def obM (s : PySem.W.SharedT) : AlM := obsM (HandSHeadRun.getT s)
theorem obM_eq (s : PySem.W.SharedT) : obM s = hkM.obs s.abs := by
  have e : HandSHeadRun.getT s = s.abs.heap.get? := funext (HandSHeadRun.getT_eq s)
  unfold obM
  rw [e] <;> rfl
abbrev R : PySem.W.OpenRow := PySem.W.OpenLaw.row PySem.Challenge.rw_cellfolio_k19_whole_fewer_walked
def looseA : List Str := ["_wall", "FolioError", "BadPicture", "BadCell", "BadSize", "OutOfPlace", "BadText", "BadMask", "BadColour", "BadPalette", "NoColour", "TooMany", "BadRuns", "BadPack", "BadRule", "BadEdge", "BadPart", "BadHead", "BadCheck", "NoPart", "Twice", "BadName", "BadDeed", "NoPicture", "NothingDone"]
def looseB : List Str := ["__name__", "MOST_SIDE", "MOST_CELL", "is_among", "is_cell", "are_cells", "is_picture", "need_picture", "MOST_SHARE", "is_colour", "need_colour", "apart", "MOST_COLOURS", "Palette", "recoloured", "cell_counts", "used_counts", "ordered_picture", "heir_of", "fewer_cells"]
def looseC : List Str := ["_law_draw", "_law_whole", "_law_word", "_law_colour", "_law_apart", "_law_pool", "_law_size", "_law_picture", "_law_copied", "_law_rows_good", "_law_own", "_law_no_picture", "_law_counts", "_law_used", "_law_order", "_law_one_less", "_law_counts_good", "_law_ordered_good", "_law_beside_good", "_law_all_fewer", "_law_refused"]
def looseN : List Str := looseA ++ looseB ++ looseC
theorem run (w : World) : HandSHeadRun.RunEq R (PySem.W.view R.prog [71]) hkM obM 20000 looseN w := by
  intro os
  kernel_rfl
/-! ### what the head says, as the walks take it -/
section
variable {P : Program} {w : World} {K : PySem.W.Frag} {h : Heap} {mg : Str → Option Value} {base : Heap}
def adK (K : PySem.W.Frag) : Ad := ⟨He.ga K "Palette", He.ga K "BadPicture", He.ga K "BadSize", He.ga K "NoColour", He.ga K "FolioError"⟩
theorem b2 {a b : Bool} (h : (a && b) = true) : a = true ∧ b = true := Bool.and_eq_true_iff.mp h
theorem eqOB_ok {a b : Option Bool} (h : eqOB a b = true) : a = b := of_decide_eq_true h
theorem gloE (X : K.In h) (G : h.Ns mainGlobals mg) (c : SaysM K) {y : Str} (hy : y ∈ excN) : mg y = some (.ref (He.ga K y)) := by
  have hm : He.Fa.glo y ∈ fa := List.mem_append_left _ (List.mem_append_left _ (List.mem_map_of_mem (List.mem_append_right _ hy)))
  obtain ⟨i, hi, e⟩ := List.mem_iff_getElem.mp hm
  exact He.glo_ok X G (c.1.fact i (f := .glo y) (by rw [List.getElem?_eq_getElem hi, e]))
theorem exw_of (X : K.In h) (G : h.Ns mainGlobals mg) (c : SaysM K) {x : Str} (hn : PySem.W.specialIn K (.builtin "object.__class__") "__get__" = some (some (.builtin "getset_descriptor.__get__"))) (ht : PySem.W.takesIn K (.builtin "object.__class__") = some true) (e : excB K x = true) : ExW K mg x (He.ga K x) := by
  obtain ⟨h1, e⟩ := b2 e
  obtain ⟨h2, e⟩ := b2 e
  obtain ⟨h3, e⟩ := b2 e
  obtain ⟨h4, e⟩ := b2 e
  obtain ⟨h5, e⟩ := b2 e
  obtain ⟨h6, e⟩ := b2 e
  obtain ⟨h7, h8⟩ := b2 e
  exact ⟨⟨He.eqO_ok h1, He.eqO_ok h2, eqOB_ok h3, h4, He.eqO_ok h5, hn, ht, eqOB_ok h6⟩, fun y hy => ⟨_, gloE X G c hy, eqOB_ok (List.all_eq_true.mp h7 y hy)⟩, eqOB_ok h8⟩
structure ExA (K : PySem.W.Frag) (mg : Str → Option Value) : Prop where
  pic : ExW K mg "BadPicture" (He.ga K "BadPicture")
  siz : ExW K mg "BadSize" (He.ga K "BadSize")
  noc : ExW K mg "NoColour" (He.ga K "NoColour")
  ha : PySem.W.findIn K (.ref (He.ga K "Palette")) "__class__" = some (some (.builtin "object.__class__"))
  hn : PySem.W.specialIn K (.builtin "object.__class__") "__get__" = some (some (.builtin "getset_descriptor.__get__"))
  ht : PySem.W.takesIn K (.builtin "object.__class__") = some true
  hm : PySem.W.mroIn K (He.ga K "Palette") (.type "object") = some true
  me : PySem.W.kitOne K (.ref (He.ga K "Palette")) (.ref (He.ga K "Palette")) = some true
theorem exA_of (X : K.In h) (G : h.Ns mainGlobals mg) (c : SaysM K) : ExA K mg := by
  obtain ⟨h1, e⟩ := b2 (show exB K = true from c.2)
  obtain ⟨h2, e⟩ := b2 e
  obtain ⟨h3, e⟩ := b2 e
  obtain ⟨h4, e⟩ := b2 e
  obtain ⟨h5, e⟩ := b2 e
  obtain ⟨h6, e⟩ := b2 e
  obtain ⟨h7, h8⟩ := b2 e
  have hn := He.eqO_ok h1
  have ht := eqOB_ok h2
  exact ⟨exw_of X G c hn ht h3, exw_of X G c hn ht h4, exw_of X G c hn ht h5, He.eqO_ok h6, hn, ht, eqOB_ok h7, eqOB_ok h8⟩
theorem txt_of (X : K.In h) (G : h.Ns mainGlobals mg) (c : SaysM K) : Txt K mg (adK K) where
  b_isinstance := He.free_ok X G (c.1.fact 61 (f := .free "isinstance") rfl)
  b_int := He.free_ok X G (c.1.fact 62 (f := .free "int") rfl)
  b_bool := He.free_ok X G (c.1.fact 63 (f := .free "bool") rfl)
  b_list := He.free_ok X G (c.1.fact 64 (f := .free "list") rfl)
  b_tuple := He.free_ok X G (c.1.fact 65 (f := .free "tuple") rfl)
  b_len := He.free_ok X G (c.1.fact 66 (f := .free "len") rfl)
  b_all := He.free_ok X G (c.1.fact 67 (f := .free "all") rfl)
  b_any := He.free_ok X G (c.1.fact 68 (f := .free "any") rfl)
  b_sorted := He.free_ok X G (c.1.fact 69 (f := .free "sorted") rfl)
  b_enumerate := He.free_ok X G (c.1.fact 70 (f := .free "enumerate") rfl)
  b_min := He.free_ok X G (c.1.fact 71 (f := .free "min") rfl)
  b_max := He.free_ok X G (c.1.fact 72 (f := .free "max") rfl)
  b_sum := He.free_ok X G (c.1.fact 73 (f := .free "sum") rfl)
  b_zip := He.free_ok X G (c.1.fact 74 (f := .free "zip") rfl)
  b_range := He.free_ok X G (c.1.fact 75 (f := .free "range") rfl)
  b_ValueError := He.free_ok X G (c.1.fact 76 (f := .free "ValueError") rfl)
  k_MOST_SIDE := He.int_ok X G (c.1.fact 77 (f := .int "MOST_SIDE" 24) rfl)
  k_MOST_CELL := He.int_ok X G (c.1.fact 78 (f := .int "MOST_CELL" 15) rfl)
  k_MOST_SHARE := He.int_ok X G (c.1.fact 79 (f := .int "MOST_SHARE" 255) rfl)
  k_MOST_COLOURS := He.int_ok X G (c.1.fact 80 (f := .int "MOST_COLOURS" 16) rfl)
  g_Palette := He.glo_ok X G (c.1.fact 8 (f := .glo "Palette") rfl)
  g_BadPicture := He.glo_ok X G (c.1.fact 38 (f := .glo "BadPicture") rfl)
  g_BadSize := He.glo_ok X G (c.1.fact 40 (f := .glo "BadSize") rfl)
  g_NoColour := He.glo_ok X G (c.1.fact 46 (f := .glo "NoColour") rfl)
  g_FolioError := He.glo_ok X G (c.1.fact 37 (f := .glo "FolioError") rfl)
  x_BadPicture := by
    obtain ⟨h1, h2, h3, h4⟩ := He.exc_ok (c.1.fact 89 (f := .exc "BadPicture") rfl)
    exact ⟨h1, h2, h3, h4⟩
  x_BadSize := by
    obtain ⟨h1, h2, h3, h4⟩ := He.exc_ok (c.1.fact 90 (f := .exc "BadSize") rfl)
    exact ⟨h1, h2, h3, h4⟩
  x_NoColour := by
    obtain ⟨h1, h2, h3, h4⟩ := He.exc_ok (c.1.fact 91 (f := .exc "NoColour") rfl)
    exact ⟨h1, h2, h3, h4⟩
  m_BadPicture := He.exm_ok (c.1.fact 92 (f := .exm "BadPicture" "FolioError" true) rfl)
  m_BadSize := He.exm_ok (c.1.fact 93 (f := .exm "BadSize" "FolioError" true) rfl)
  m_NoColour := He.exm_ok (c.1.fact 94 (f := .exm "NoColour" "FolioError" true) rfl)
  cl := He.cls_ok (c.1.fact 81 (f := .cls "Palette") rfl)
  nS := He.noat_ok (c.1.fact 82 (f := .noat "Palette" "shades") rfl)
  ins := by
    have e := exA_of X G c
    exact ⟨He.cls_ok (c.1.fact 81 (f := .cls "Palette") rfl), e.ha, e.hn, e.ht, e.hm, e.me⟩
theorem d_is_among (X : K.In h) (G : h.Ns mainGlobals mg) (c : SaysM K) : DefAt K mg "is_among" s_is_among := by
  obtain ⟨fd, F⟩ := c.1.def_ 0 (d := dg "is_among" 29) rfl
  exact ⟨_, fd, F, He.glo_ok X G (c.1.fact 0 (f := .glo "is_among") rfl)⟩
theorem d_is_cell (X : K.In h) (G : h.Ns mainGlobals mg) (c : SaysM K) : DefAt K mg "is_cell" s_is_cell := by
  obtain ⟨fd, F⟩ := c.1.def_ 1 (d := dg "is_cell" 30) rfl
  exact ⟨_, fd, F, He.glo_ok X G (c.1.fact 1 (f := .glo "is_cell") rfl)⟩
theorem d_are_cells (X : K.In h) (G : h.Ns mainGlobals mg) (c : SaysM K) : DefAt K mg "are_cells" s_are_cells := by
  obtain ⟨fd, F⟩ := c.1.def_ 2 (d := dg "are_cells" 31) rfl
  exact ⟨_, fd, F, He.glo_ok X G (c.1.fact 2 (f := .glo "are_cells") rfl)⟩
theorem d_is_picture (X : K.In h) (G : h.Ns mainGlobals mg) (c : SaysM K) : DefAt K mg "is_picture" s_is_picture := by
  obtain ⟨fd, F⟩ := c.1.def_ 3 (d := dg "is_picture" 32) rfl
  exact ⟨_, fd, F, He.glo_ok X G (c.1.fact 3 (f := .glo "is_picture") rfl)⟩
theorem d_need_picture (X : K.In h) (G : h.Ns mainGlobals mg) (c : SaysM K) : DefAt K mg "need_picture" s_need_picture := by
  obtain ⟨fd, F⟩ := c.1.def_ 4 (d := dg "need_picture" 33) rfl
  exact ⟨_, fd, F, He.glo_ok X G (c.1.fact 4 (f := .glo "need_picture") rfl)⟩
theorem d_is_colour (X : K.In h) (G : h.Ns mainGlobals mg) (c : SaysM K) : DefAt K mg "is_colour" s_is_colour := by
  obtain ⟨fd, F⟩ := c.1.def_ 5 (d := dg "is_colour" 36) rfl
  exact ⟨_, fd, F, He.glo_ok X G (c.1.fact 5 (f := .glo "is_colour") rfl)⟩
theorem d_need_colour (X : K.In h) (G : h.Ns mainGlobals mg) (c : SaysM K) : DefAt K mg "need_colour" s_need_colour := by
  obtain ⟨fd, F⟩ := c.1.def_ 6 (d := dg "need_colour" 37) rfl
  exact ⟨_, fd, F, He.glo_ok X G (c.1.fact 6 (f := .glo "need_colour") rfl)⟩
theorem d_apart (X : K.In h) (G : h.Ns mainGlobals mg) (c : SaysM K) : DefAt K mg "apart" s_apart := by
  obtain ⟨fd, F⟩ := c.1.def_ 7 (d := dg "apart" 38) rfl
  exact ⟨_, fd, F, He.glo_ok X G (c.1.fact 7 (f := .glo "apart") rfl)⟩
theorem d_recoloured (X : K.In h) (G : h.Ns mainGlobals mg) (c : SaysM K) : DefAt K mg "recoloured" s_recoloured := by
  obtain ⟨fd, F⟩ := c.1.def_ 14 (d := dg "recoloured" 42) rfl
  exact ⟨_, fd, F, He.glo_ok X G (c.1.fact 9 (f := .glo "recoloured") rfl)⟩
theorem d_cell_counts (X : K.In h) (G : h.Ns mainGlobals mg) (c : SaysM K) : DefAt K mg "cell_counts" s_cell_counts := by
  obtain ⟨fd, F⟩ := c.1.def_ 15 (d := dg "cell_counts" 44) rfl
  exact ⟨_, fd, F, He.glo_ok X G (c.1.fact 10 (f := .glo "cell_counts") rfl)⟩
theorem d_used_counts (X : K.In h) (G : h.Ns mainGlobals mg) (c : SaysM K) : DefAt K mg "used_counts" s_used_counts := by
  obtain ⟨fd, F⟩ := c.1.def_ 16 (d := dg "used_counts" 45) rfl
  exact ⟨_, fd, F, He.glo_ok X G (c.1.fact 11 (f := .glo "used_counts") rfl)⟩
theorem d_ordered_picture (X : K.In h) (G : h.Ns mainGlobals mg) (c : SaysM K) : DefAt K mg "ordered_picture" s_ordered_picture := by
  obtain ⟨fd, F⟩ := c.1.def_ 17 (d := dg "ordered_picture" 46) rfl
  exact ⟨_, fd, F, He.glo_ok X G (c.1.fact 12 (f := .glo "ordered_picture") rfl)⟩
theorem d_heir_of (X : K.In h) (G : h.Ns mainGlobals mg) (c : SaysM K) : DefAt K mg "heir_of" s_heir_of := by
  obtain ⟨fd, F⟩ := c.1.def_ 18 (d := dg "heir_of" 47) rfl
  exact ⟨_, fd, F, He.glo_ok X G (c.1.fact 13 (f := .glo "heir_of") rfl)⟩
theorem d_fewer_cells (X : K.In h) (G : h.Ns mainGlobals mg) (c : SaysM K) : DefAt K mg "fewer_cells" s_fewer_cells := by
  obtain ⟨fd, F⟩ := c.1.def_ 19 (d := dg "fewer_cells" 48) rfl
  exact ⟨_, fd, F, He.glo_ok X G (c.1.fact 14 (f := .glo "fewer_cells") rfl)⟩
theorem d_lw_draw (X : K.In h) (G : h.Ns mainGlobals mg) (c : SaysM K) : DefAt K mg "_law_draw" s_lw_draw := by
  obtain ⟨fd, F⟩ := c.1.def_ 20 (d := dg "_law_draw" 50) rfl
  exact ⟨_, fd, F, He.glo_ok X G (c.1.fact 15 (f := .glo "_law_draw") rfl)⟩
theorem d_lw_whole (X : K.In h) (G : h.Ns mainGlobals mg) (c : SaysM K) : DefAt K mg "_law_whole" s_lw_whole := by
  obtain ⟨fd, F⟩ := c.1.def_ 21 (d := dg "_law_whole" 51) rfl
  exact ⟨_, fd, F, He.glo_ok X G (c.1.fact 16 (f := .glo "_law_whole") rfl)⟩
theorem d_lw_word (X : K.In h) (G : h.Ns mainGlobals mg) (c : SaysM K) : DefAt K mg "_law_word" s_lw_word := by
  obtain ⟨fd, F⟩ := c.1.def_ 22 (d := dg "_law_word" 52) rfl
  exact ⟨_, fd, F, He.glo_ok X G (c.1.fact 17 (f := .glo "_law_word") rfl)⟩
theorem d_lw_colour (X : K.In h) (G : h.Ns mainGlobals mg) (c : SaysM K) : DefAt K mg "_law_colour" s_lw_colour := by
  obtain ⟨fd, F⟩ := c.1.def_ 23 (d := dg "_law_colour" 53) rfl
  exact ⟨_, fd, F, He.glo_ok X G (c.1.fact 18 (f := .glo "_law_colour") rfl)⟩
theorem d_lw_apart (X : K.In h) (G : h.Ns mainGlobals mg) (c : SaysM K) : DefAt K mg "_law_apart" s_lw_apart := by
  obtain ⟨fd, F⟩ := c.1.def_ 24 (d := dg "_law_apart" 54) rfl
  exact ⟨_, fd, F, He.glo_ok X G (c.1.fact 19 (f := .glo "_law_apart") rfl)⟩
theorem d_lw_pool (X : K.In h) (G : h.Ns mainGlobals mg) (c : SaysM K) : DefAt K mg "_law_pool" s_lw_pool := by
  obtain ⟨fd, F⟩ := c.1.def_ 25 (d := dg "_law_pool" 55) rfl
  exact ⟨_, fd, F, He.glo_ok X G (c.1.fact 20 (f := .glo "_law_pool") rfl)⟩
theorem d_lw_size (X : K.In h) (G : h.Ns mainGlobals mg) (c : SaysM K) : DefAt K mg "_law_size" s_lw_size := by
  obtain ⟨fd, F⟩ := c.1.def_ 26 (d := dg "_law_size" 56) rfl
  exact ⟨_, fd, F, He.glo_ok X G (c.1.fact 21 (f := .glo "_law_size") rfl)⟩
theorem d_lw_picture (X : K.In h) (G : h.Ns mainGlobals mg) (c : SaysM K) : DefAt K mg "_law_picture" s_lw_picture := by
  obtain ⟨fd, F⟩ := c.1.def_ 27 (d := dg "_law_picture" 57) rfl
  exact ⟨_, fd, F, He.glo_ok X G (c.1.fact 22 (f := .glo "_law_picture") rfl)⟩
theorem d_lw_copied (X : K.In h) (G : h.Ns mainGlobals mg) (c : SaysM K) : DefAt K mg "_law_copied" s_lw_copied := by
  obtain ⟨fd, F⟩ := c.1.def_ 28 (d := dg "_law_copied" 58) rfl
  exact ⟨_, fd, F, He.glo_ok X G (c.1.fact 23 (f := .glo "_law_copied") rfl)⟩
theorem d_lw_rows_good (X : K.In h) (G : h.Ns mainGlobals mg) (c : SaysM K) : DefAt K mg "_law_rows_good" s_lw_rows_good := by
  obtain ⟨fd, F⟩ := c.1.def_ 29 (d := dg "_law_rows_good" 59) rfl
  exact ⟨_, fd, F, He.glo_ok X G (c.1.fact 24 (f := .glo "_law_rows_good") rfl)⟩
theorem d_lw_own (X : K.In h) (G : h.Ns mainGlobals mg) (c : SaysM K) : DefAt K mg "_law_own" s_lw_own := by
  obtain ⟨fd, F⟩ := c.1.def_ 30 (d := dg "_law_own" 60) rfl
  exact ⟨_, fd, F, He.glo_ok X G (c.1.fact 25 (f := .glo "_law_own") rfl)⟩
theorem d_lw_no_picture (X : K.In h) (G : h.Ns mainGlobals mg) (c : SaysM K) : DefAt K mg "_law_no_picture" s_lw_no_picture := by
  obtain ⟨fd, F⟩ := c.1.def_ 31 (d := dg "_law_no_picture" 61) rfl
  exact ⟨_, fd, F, He.glo_ok X G (c.1.fact 26 (f := .glo "_law_no_picture") rfl)⟩
theorem d_lw_counts (X : K.In h) (G : h.Ns mainGlobals mg) (c : SaysM K) : DefAt K mg "_law_counts" s_lw_counts := by
  obtain ⟨fd, F⟩ := c.1.def_ 32 (d := dg "_law_counts" 62) rfl
  exact ⟨_, fd, F, He.glo_ok X G (c.1.fact 27 (f := .glo "_law_counts") rfl)⟩
theorem d_lw_used (X : K.In h) (G : h.Ns mainGlobals mg) (c : SaysM K) : DefAt K mg "_law_used" s_lw_used := by
  obtain ⟨fd, F⟩ := c.1.def_ 33 (d := dg "_law_used" 63) rfl
  exact ⟨_, fd, F, He.glo_ok X G (c.1.fact 28 (f := .glo "_law_used") rfl)⟩
theorem d_lw_order (X : K.In h) (G : h.Ns mainGlobals mg) (c : SaysM K) : DefAt K mg "_law_order" s_lw_order := by
  obtain ⟨fd, F⟩ := c.1.def_ 34 (d := dg "_law_order" 64) rfl
  exact ⟨_, fd, F, He.glo_ok X G (c.1.fact 29 (f := .glo "_law_order") rfl)⟩
theorem d_lw_one_less (X : K.In h) (G : h.Ns mainGlobals mg) (c : SaysM K) : DefAt K mg "_law_one_less" s_lw_one_less := by
  obtain ⟨fd, F⟩ := c.1.def_ 35 (d := dg "_law_one_less" 65) rfl
  exact ⟨_, fd, F, He.glo_ok X G (c.1.fact 30 (f := .glo "_law_one_less") rfl)⟩
theorem d_lw_counts_good (X : K.In h) (G : h.Ns mainGlobals mg) (c : SaysM K) : DefAt K mg "_law_counts_good" s_lw_counts_good := by
  obtain ⟨fd, F⟩ := c.1.def_ 36 (d := dg "_law_counts_good" 66) rfl
  exact ⟨_, fd, F, He.glo_ok X G (c.1.fact 31 (f := .glo "_law_counts_good") rfl)⟩
theorem d_lw_ordered_good (X : K.In h) (G : h.Ns mainGlobals mg) (c : SaysM K) : DefAt K mg "_law_ordered_good" s_lw_ordered_good := by
  obtain ⟨fd, F⟩ := c.1.def_ 37 (d := dg "_law_ordered_good" 67) rfl
  exact ⟨_, fd, F, He.glo_ok X G (c.1.fact 32 (f := .glo "_law_ordered_good") rfl)⟩
theorem d_lw_beside_good (X : K.In h) (G : h.Ns mainGlobals mg) (c : SaysM K) : DefAt K mg "_law_beside_good" s_lw_beside_good := by
  obtain ⟨fd, F⟩ := c.1.def_ 38 (d := dg "_law_beside_good" 68) rfl
  exact ⟨_, fd, F, He.glo_ok X G (c.1.fact 33 (f := .glo "_law_beside_good") rfl)⟩
theorem d_lw_all_fewer (X : K.In h) (G : h.Ns mainGlobals mg) (c : SaysM K) : DefAt K mg "_law_all_fewer" s_lw_all_fewer := by
  obtain ⟨fd, F⟩ := c.1.def_ 39 (d := dg "_law_all_fewer" 69) rfl
  exact ⟨_, fd, F, He.glo_ok X G (c.1.fact 34 (f := .glo "_law_all_fewer") rfl)⟩
theorem d_lw_refused (X : K.In h) (G : h.Ns mainGlobals mg) (c : SaysM K) : DefAt K mg "_law_refused" s_lw_refused := by
  obtain ⟨fd, F⟩ := c.1.def_ 40 (d := dg "_law_refused" 70) rfl
  exact ⟨_, fd, F, He.glo_ok X G (c.1.fact 35 (f := .glo "_law_refused") rfl)⟩
theorem d_Palette_colours (c : SaysM K) : MethAt K (adK K).pal "colours" "Palette.colours" s_Palette_colours := by
  obtain ⟨fd, F⟩ := c.1.def_ 9 (d := dm "colours" "Palette.colours" 1) rfl
  exact ⟨_, fd, F, He.meth_ok (c.1.fact 83 (f := .meth "Palette" "colours") rfl)⟩
theorem d_Palette_many (c : SaysM K) : MethAt K (adK K).pal "many" "Palette.many" s_Palette_many := by
  obtain ⟨fd, F⟩ := c.1.def_ 10 (d := dm "many" "Palette.many" 2) rfl
  exact ⟨_, fd, F, He.meth_ok (c.1.fact 84 (f := .meth "Palette" "many") rfl)⟩
theorem d_Palette_colour_of (c : SaysM K) : MethAt K (adK K).pal "colour_of" "Palette.colour_of" s_Palette_colour_of := by
  obtain ⟨fd, F⟩ := c.1.def_ 11 (d := dm "colour_of" "Palette.colour_of" 3) rfl
  exact ⟨_, fd, F, He.meth_ok (c.1.fact 85 (f := .meth "Palette" "colour_of") rfl)⟩
theorem d_Palette_cell_of (c : SaysM K) : MethAt K (adK K).pal "cell_of" "Palette.cell_of" s_Palette_cell_of := by
  obtain ⟨fd, F⟩ := c.1.def_ 12 (d := dm "cell_of" "Palette.cell_of" 4) rfl
  exact ⟨_, fd, F, He.meth_ok (c.1.fact 86 (f := .meth "Palette" "cell_of") rfl)⟩
theorem d_Palette_add_colour (c : SaysM K) : MethAt K (adK K).pal "add_colour" "Palette.add_colour" s_Palette_add_colour := by
  obtain ⟨fd, F⟩ := c.1.def_ 13 (d := dm "add_colour" "Palette.add_colour" 5) rfl
  exact ⟨_, fd, F, He.meth_ok (c.1.fact 87 (f := .meth "Palette" "add_colour") rfl)⟩
theorem d_Palette_init (c : SaysM K) : ∃ f fd, FunD K "__init__" "Palette.__init__" (defArgs s_Palette_init) (defBody s_Palette_init) (defScope s_Palette_init) [] [] f fd ∧ Mk K (adK K).pal f := by
  obtain ⟨fd, F⟩ := c.1.def_ 8 (d := dm "__init__" "Palette.__init__" 0) rfl
  exact ⟨_, fd, F, He.mkr_ok (c.1.fact 88 (f := .mkr "Palette") rfl)⟩
theorem law_of (X : K.In h) (G : h.Ns mainGlobals mg) (c : SaysM K) : ∃ (f : Addr) (fd : FuncData), FunD K "law" "law" (defArgs s_law) (defBody s_law) (defScope s_law) [] [] f fd ∧ mg "law" = some (.ref f) ∧ ∀ base : Heap, FnOk P w K mg base CX0 10 f fd ["_law_script"] (spLaw K) := by
  obtain ⟨fd, F⟩ := c.1.def_ 41 (d := dg "law" 71) rfl
  refine ⟨_, fd, F, He.glo_ok X G (c.1.fact 36 (f := .glo "law") rfl), fun base => ?_⟩
  have T := txt_of X G c
  have e := exA_of X G c
  have among := ok_is_among (P := P) (w := w) (base := base) T (d_is_among X G c)
  have cell := ok_is_cell (P := P) (w := w) (base := base) T (d_is_cell X G c) among
  have cells := ok_are_cells (P := P) (w := w) (base := base) T (d_are_cells X G c) cell
  have ispic := ok_is_picture (P := P) (w := w) (base := base) T (d_is_picture X G c) cells
  have need := ok_need_picture (P := P) (w := w) (base := base) T (d_need_picture X G c) ispic
  have iscol := ok_is_colour (P := P) (w := w) (base := base) T (d_is_colour X G c) among
  have needc := ok_need_colour (P := P) (w := w) (base := base) T (d_need_colour X G c) iscol
  have aprt := ok_apart (P := P) (w := w) (base := base) T (d_apart X G c) needc
  have mcol := ok_colours (P := P) (w := w) (base := base) T (d_Palette_colours c)
  have mman := ok_many (P := P) (w := w) (base := base) T (d_Palette_many c)
  have mof := ok_colour_of (P := P) (w := w) (base := base) T (d_Palette_colour_of c) among
  have mcell := ok_cell_of (P := P) (w := w) (base := base) T (d_Palette_cell_of c) needc
  have madd := ok_add_colour (P := P) (w := w) (base := base) T (d_Palette_add_colour c) mcell
  have make := ok_Palette (P := P) (w := w) (base := base) T (d_Palette_init c) iscol
  have recol := ok_recoloured (P := P) (w := w) (base := base) T (d_recoloured X G c) need cells
  have ccnt := ok_cell_counts (P := P) (w := w) (base := base) T (d_cell_counts X G c) need
  have ucnt := ok_used_counts (P := P) (w := w) (base := base) T (d_used_counts X G c) ccnt mman
  have ordp := ok_ordered_picture (P := P) (w := w) (base := base) T (d_ordered_picture X G c) ucnt mof make recol
  have heir := ok_heir_of (P := P) (w := w) (base := base) T (d_heir_of X G c) mof aprt
  have few := ok_fewer_cells (P := P) (w := w) (base := base) T (d_fewer_cells X G c) ucnt among heir recol
  have ldraw := ok_lw_draw (P := P) (w := w) (base := base) T (d_lw_draw X G c)
  have lwhole := ok_lw_whole (P := P) (w := w) (base := base) T (d_lw_whole X G c)
  have lcol := ok_lw_colour (P := P) (w := w) (base := base) T (d_lw_colour X G c)
  have lapart := ok_lw_apart (P := P) (w := w) (base := base) T (d_lw_apart X G c)
  have lpool := ok_lw_pool (P := P) (w := w) (base := base) T (d_lw_pool X G c) ldraw lcol
  have lsize := ok_lw_size (P := P) (w := w) (base := base) T (d_lw_size X G c)
  have lpict := ok_lw_picture (P := P) (w := w) (base := base) T (d_lw_picture X G c) ldraw lsize
  have lcopied := ok_lw_copied (P := P) (w := w) (base := base) T (d_lw_copied X G c)
  have lrows := ok_lw_rows_good (P := P) (w := w) (base := base) T (d_lw_rows_good X G c)
  have lown := ok_lw_own (P := P) (w := w) (base := base) T (d_lw_own X G c)
  have lnop := ok_lw_no_picture (P := P) (w := w) (base := base) T (d_lw_no_picture X G c) lcopied
  have lcnt := ok_lw_counts (P := P) (w := w) (base := base) T (d_lw_counts X G c)
  have lused := ok_lw_used (P := P) (w := w) (base := base) T (d_lw_used X G c) lcnt
  have lord := ok_lw_order (P := P) (w := w) (base := base) T (d_lw_order X G c) lcnt
  have lone := ok_lw_one_less (P := P) (w := w) (base := base) T (d_lw_one_less X G c) lcnt lapart
  have lcg := ok_lw_counts_good (P := P) (w := w) (base := base) T (d_lw_counts_good X G c) ccnt lwhole lcnt
  have log := ok_lw_ordered_good (P := P) (w := w) (base := base) T (d_lw_ordered_good X G c) lord ordp mcol lrows lwhole lown
  have lbes := ok_lw_beside_good (P := P) (w := w) (base := base) T (d_lw_beside_good X G c) ordp make mcol madd
  have laf := ok_lw_all_fewer (P := P) (w := w) (base := base) T (d_lw_all_fewer X G c) lused lone lcopied few lrows mcol lown
  have lref := ok_lw_refused (P := P) (w := w) (base := base) T (d_lw_refused X G c) (calW (P := P) (w := w) (base := base) T (d_lw_word X G c)) ccnt ordp few
  exact ok_law T F ⟨ldraw, lpool, lpict, make, lcopied, lcg, log, laf, lbes, lnop, lref, mman, madd, few, e.pic, e.siz, e.noc⟩
end
end C19
open PySem PySem.W PySem.Calls PyProof.Rows
theorem PySem.Challenge.cw_cellfolio_k19_whole_fewer_walked_holds : PySem.Challenge.rw_cellfolio_k19_whole_fewer_walked.Holds := by
  w_on; o_law
  refine HandSHeadRun.head_any (r := OpenLaw.row PySem.Challenge.rw_cellfolio_k19_whole_fewer_walked) (q := view (OpenLaw.row PySem.Challenge.rw_cellfolio_k19_whole_fewer_walked).prog [71]) (H := C19.hkM) (ob := C19.obM) (M := 20000) (loose := C19.looseN) (d := HandSHeadRun.topDef (OpenLaw.row PySem.Challenge.rw_cellfolio_k19_whole_fewer_walked).prog 71) (kwd := []) C19.obM_eq
    (by kernel_rfl) (fun s => by kernel_rfl) C19.run (by kernel_rfl) (by kernel_rfl) (by kernel_rfl) (by rfl) (by first | assumption | decide +kernel) (by decide +kernel) ⟨rfl, rfl, rfl, rfl, rfl, by decide +kernel⟩ ?hw ?hc
  case hw => w_witness2
  case hc =>
    refine L2.walk_ofE (l := PySem.Challenge.rw_cellfolio_k19_whole_fewer_walked) (n := 63) (k := 10) (x := "_law_script") (CX := L2.CX0) rfl (by decide) (by kernel_rfl) ⟨rfl, by decide, by decide⟩ ?F (fun _ _ _ _ z => z)
    intro w mg fa h Y G hmg0
    obtain ⟨K, KX, c⟩ := Y
    have hmg : mg ("law" : PySem.Str) = some (.ref fa) := by
      have e : (HandSHeadRun.topDef (OpenLaw.row PySem.Challenge.rw_cellfolio_k19_whole_fewer_walked).prog 71).name = ("law" : PySem.Str) := by kernel_rfl
      rw [← e]
      exact hmg0
    obtain ⟨f, fd, F, hf, hF⟩ := C19.law_of (P := (PySem.Challenge.rw_cellfolio_k19_whole_fewer_walked).prog) (w := w) KX G c
    have ef : f = fa := by
      rw [hf] at hmg
      cases hmg
      rfl
    subst ef
    have b := L2.FunD.bindsA (ps := ["_law_script"]) F fun _ _ _ _ _ _ us hl => match us, hl with | [_], _ => rfl
    exact ⟨K, fd, C19.spLaw K, KX, fun s v => b s [v] rfl, fun H a ns hl _ hS => ⟨a, ns, rfl, hS, fun _ => rfl⟩, fun base _ _ => hF base⟩
