import PyProof.Rows.All
import Wide.All
import OpenK.AllK
import Wide.FinOn
import HandS.ForMost
import HandS.Wide
import HandS.Gcd
import HandS.Flow
import HandS.EndTab
import HandS.Comp
import HandS.Deep
import KE.DataFind
import KE.SortData
import HandS.Dict
import HandS.WordsDict
import HandS.IsInst
import HandS.Text
import HandS.More
import HandS.Lambda
import HandS.SortKw
import KE.SortKeyHeap
import PyProof.Rows.SeqMore
import PySem.Challenge.RW_samphire_k36_whole_optimal_estimates
set_option autoImplicit false
set_option linter.all false
/-! Sums of rationals over lists; the threshold; one drop. -/
namespace K36
universe u v
variable {α : Type u} {β : Type v}

def sm (l : List α) (f : α → Rat) : Rat := l.foldr (fun a s => f a + s) 0
theorem sm_nil (f : α → Rat) : sm [] f = 0 := rfl
theorem sm_cons (a : α) (l : List α) (f : α → Rat) : sm (a :: l) f = f a + sm l f := rfl
theorem sm_append (l m : List α) (f : α → Rat) : sm (l ++ m) f = sm l f + sm m f := by
  induction l with
  | nil => rw [List.nil_append, sm_nil]; grind
  | cons a l ih => rw [List.cons_append, sm_cons, sm_cons, ih]; grind
theorem sm_one (a : α) (f : α → Rat) : sm [a] f = f a := by rw [sm_cons, sm_nil]; grind
theorem sm_map (g : β → α) (l : List β) (f : α → Rat) : sm (l.map g) f = sm l (fun b => f (g b)) := by
  induction l with
  | nil => rfl
  | cons a l ih => rw [List.map_cons, sm_cons, sm_cons, ih]
theorem sm_add (l : List α) (f g : α → Rat) : sm l (fun a => f a + g a) = sm l f + sm l g := by
  induction l with
  | nil => simp only [sm_nil]; grind
  | cons a l ih => simp only [sm_cons, ih]; grind
theorem sm_sub (l : List α) (f g : α → Rat) : sm l (fun a => f a - g a) = sm l f - sm l g := by
  induction l with
  | nil => simp only [sm_nil]; grind
  | cons a l ih => simp only [sm_cons, ih]; grind
theorem sm_mul (c : Rat) (l : List α) (f : α → Rat) : sm l (fun a => c * f a) = c * sm l f := by
  induction l with
  | nil => simp only [sm_nil]; grind
  | cons a l ih => simp only [sm_cons, ih]; grind
theorem sm_mulr (c : Rat) (l : List α) (f : α → Rat) : sm l (fun a => f a * c) = sm l f * c := by
  induction l with
  | nil => simp only [sm_nil]; grind
  | cons a l ih => simp only [sm_cons, ih]; grind
theorem sm_congr {l : List α} {f g : α → Rat} (h : ∀ a ∈ l, f a = g a) : sm l f = sm l g := by
  induction l with
  | nil => rfl
  | cons a l ih => rw [sm_cons, sm_cons, h a (by simp), ih fun b hb => h b (by simp [hb])]
theorem sm_le {l : List α} {f g : α → Rat} (h : ∀ a ∈ l, f a ≤ g a) : sm l f ≤ sm l g := by
  induction l with
  | nil => rw [sm_nil, sm_nil]; grind
  | cons a l ih =>
    have h1 := h a (by simp)
    have h2 := ih fun b hb => h b (by simp [hb])
    rw [sm_cons, sm_cons]; grind
theorem sm_zero {l : List α} {f : α → Rat} (h : ∀ a ∈ l, f a = 0) : sm l f = 0 := by
  induction l with
  | nil => rfl
  | cons a l ih => rw [sm_cons, h a (by simp), ih fun b hb => h b (by simp [hb])]; grind
theorem sm_nonneg {l : List α} {f : α → Rat} (h : ∀ a ∈ l, 0 ≤ f a) : 0 ≤ sm l f := by
  have := sm_le (l := l) (f := fun _ => 0) (g := f) h
  rw [sm_zero (fun _ _ => rfl)] at this
  exact this
theorem sm_const (l : List α) (c : Rat) : sm l (fun _ => c) = (l.length : Rat) * c := by
  induction l with
  | nil => rw [sm_nil, List.length_nil]; grind
  | cons a l ih =>
    rw [sm_cons, ih, List.length_cons]
    have : ((l.length + 1 : Nat) : Rat) = (l.length : Rat) + 1 := by grind
    rw [this]; grind
theorem sm_perm {l m : List α} (h : l.Perm m) (f : α → Rat) : sm l f = sm m f := by
  induction h with
  | nil => rfl
  | cons a _ ih => rw [sm_cons, sm_cons, ih]
  | swap a b l => simp only [sm_cons]; grind
  | trans _ _ h1 h2 => exact h1.trans h2
theorem sm_reverse (l : List α) (f : α → Rat) : sm l.reverse f = sm l f := sm_perm (List.reverse_perm l) f
theorem sm_swap (l : List α) (m : List β) (f : α → β → Rat) : sm l (fun a => sm m fun b => f a b) = sm m (fun b => sm l fun a => f a b) := by
  induction l with
  | nil => rw [sm_nil, sm_zero]; intro b _; rfl
  | cons a l ih =>
    rw [sm_cons, ih, ← sm_add]
    exact sm_congr fun b _ => rfl
theorem foldl_sm (l : List α) (f : α → Rat) : ∀ z : Rat, l.foldl (fun t a => t + f a) z = z + sm l f := by
  induction l with
  | nil => intro z; rw [List.foldl_nil, sm_nil]; grind
  | cons a l ih => intro z; rw [List.foldl_cons, ih, sm_cons]; grind
theorem sm_all_zero {l : List α} {f : α → Rat} (h0 : ∀ a ∈ l, 0 ≤ f a) (h : sm l f = 0) : ∀ a ∈ l, f a = 0 := by
  induction l with
  | nil => intro a ha; exact absurd ha (by simp)
  | cons b l ih =>
    rw [sm_cons] at h
    have h1 := h0 b (by simp)
    have h2 : 0 ≤ sm l f := sm_nonneg fun a ha => h0 a (by simp [ha])
    intro a ha
    rcases List.mem_cons.mp ha with e | e
    · rw [e]; grind
    · exact ih (fun a ha => h0 a (by simp [ha])) (by grind) a e
theorem sm_filter (p : α → Bool) (l : List α) (f : α → Rat) : sm (l.filter p) f = sm l (fun a => if p a = true then f a else 0) := by
  induction l with
  | nil => rfl
  | cons a l ih =>
    rw [List.filter_cons, sm_cons]
    split
    · rw [sm_cons, ih]
    · rw [ih]; grind
/-- members of a list without doubles, one function that vanishes outside -/
theorem sm_subset [DecidableEq α] {K : List α} (hK : K.Nodup) : ∀ {W : List α}, W.Nodup → (∀ a ∈ K, a ∈ W) → ∀ f : α → Rat, (∀ a ∈ W, a ∉ K → f a = 0) → sm K f = sm W f := by
  induction K with
  | nil =>
    intro W _ _ f h
    rw [sm_nil, sm_zero fun a ha => h a ha (by simp)]
  | cons x K ih =>
    intro W hW hs f h
    have hx : x ∈ W := hs x (by simp)
    have hp := List.perm_cons_erase hx
    rw [sm_perm hp, sm_cons, sm_cons]
    rw [List.nodup_cons] at hK
    have hW' : (W.erase x).Nodup := hW.erase x
    rw [ih hK.2 hW' (fun a ha => ?_) f fun a ha hn => ?_]
    · have hne : a ≠ x := fun e => hK.1 (e ▸ ha)
      exact (List.mem_erase_of_ne hne).mpr (hs a (by simp [ha]))
    · have h1 := (List.Nodup.mem_erase_iff hW).mp ha
      exact h a h1.2 (by simp [h1.1, hn])

/-! ### the lesser, the greater -/
def mn (a t : Rat) : Rat := if a < t then a else t
def mx (a t : Rat) : Rat := if a < t then t else a
theorem mn_mx (a t : Rat) : mn a t + mx a t = a + t := by unfold mn mx; split <;> grind
theorem le_mx (a t : Rat) : a ≤ mx a t := by unfold mx; split <;> grind
theorem le_mx' (a t : Rat) : t ≤ mx a t := by unfold mx; split <;> grind
theorem mn_le (a t : Rat) : mn a t ≤ a := by unfold mn; split <;> grind
theorem mn_le' (a t : Rat) : mn a t ≤ t := by unfold mn; split <;> grind
theorem mx_mx {a t u : Rat} (h : t ≤ u) : mx (mx a t) u = mx a u := by unfold mx; (repeat' split) <;> grind

/-! ### thresholds -/
def Thr (k : Nat) (ws : List Rat) (t : Rat) : Prop := (ws.length ≤ k ∧ t = 0) ∨ (k < ws.length ∧ 0 < t ∧ sm ws (fun w => mn w t) = (k : Rat) * t)
theorem Thr.nonneg {k : Nat} {ws : List Rat} {t : Rat} (h : Thr k ws t) : 0 ≤ t := by
  rcases h with ⟨_, e⟩ | ⟨_, e, _⟩ <;> grind
theorem Thr.perm {k : Nat} {ws vs : List Rat} {t : Rat} (h : Thr k ws t) (p : ws.Perm vs) : Thr k vs t := by
  unfold Thr at *
  rw [← p.length_eq, ← sm_perm p]
  exact h
theorem thr_lt {k : Nat} {ws : List Rat} {s t : Rat} (hp : ∀ w ∈ ws, 0 < w) (hk : k < ws.length) (hs : 0 < s) (hst : s < t)
    (es : sm ws (fun w => mn w s) = (k : Rat) * s) (et : sm ws (fun w => mn w t) = (k : Rat) * t) : False := by
  have h0 : ∀ w ∈ ws, 0 ≤ mn w s * t - mn w t * s := by
    intro w hw
    have hw0 := hp w hw
    unfold mn
    by_cases h1 : w < s
    · have h2 : w < t := by grind
      rw [if_pos h1, if_pos h2]
      have : 0 ≤ w * (t - s) := Rat.mul_nonneg (by grind) (by grind)
      grind
    · rw [if_neg h1]
      by_cases h2 : w < t
      · rw [if_pos h2]
        have : 0 ≤ s * (t - w) := Rat.mul_nonneg (by grind) (by grind)
        grind
      · rw [if_neg h2]; grind
  have hsum : sm ws (fun w => mn w s * t - mn w t * s) = 0 := by
    rw [sm_sub, sm_mulr, sm_mulr, es, et]; grind
  have hz := sm_all_zero h0 hsum
  have hbig : ∀ w ∈ ws, mn w s = s := by
    intro w hw
    have hw0 := hp w hw
    have e := hz w hw
    unfold mn at e ⊢
    by_cases h1 : w < s
    · have h2 : w < t := by grind
      rw [if_pos h1, if_pos h2] at e
      have : 0 < w * (t - s) := Rat.mul_pos hw0 (by grind)
      grind
    · rw [if_neg h1]
  have : sm ws (fun w => mn w s) = (ws.length : Rat) * s := by rw [← sm_const]; exact sm_congr hbig
  rw [es] at this
  have hk' : (k : Rat) < (ws.length : Rat) := by exact_mod_cast hk
  have : 0 < ((ws.length : Rat) - k) * s := Rat.mul_pos (by grind) hs
  grind
theorem Thr.uniq {k : Nat} {ws : List Rat} {s t : Rat} (hp : ∀ w ∈ ws, 0 < w) (a : Thr k ws s) (b : Thr k ws t) : s = t := by
  rcases a with ⟨l1, e1⟩ | ⟨l1, p1, e1⟩
  · rcases b with ⟨l2, e2⟩ | ⟨l2, p2, e2⟩
    · rw [e1, e2]
    · omega
  · rcases b with ⟨l2, e2⟩ | ⟨l2, p2, e2⟩
    · omega
    · by_cases h : s < t
      · exact (thr_lt hp l1 p1 h e1 e2).elim
      · by_cases h' : t < s
        · exact (thr_lt hp l1 p2 h' e2 e1).elim
        · grind
end K36

set_option autoImplicit false
set_option linter.all false
/-! One drop: what it does to the outcomes. -/
namespace K36
universe u
variable {ι : Type u}

def splits {β : Type u} : List β → List (β × List β)
  | [] => []
  | x :: xs => (x, xs) :: (splits xs).map fun q => (q.1, x :: q.2)
theorem splits_len {β : Type u} : ∀ l : List β, (splits l).length = l.length
  | [] => rfl
  | x :: xs => by rw [splits, List.length_cons, List.length_map, splits_len xs, List.length_cons]
theorem splits_at {β : Type u} : ∀ (l : List β) (k : Nat) (x : β), l[k]? = some x → (splits l)[k]? = some (x, l.take k ++ l.drop (k + 1))
  | [], k, x, h => by simp at h
  | y :: ys, 0, x, h => by
    have : y = x := by simpa using h
    subst this
    simp [splits]
  | y :: ys, k + 1, x, h => by
    have h' : ys[k]? = some x := by simpa using h
    have := splits_at ys k x h'
    rw [splits, List.getElem?_cons_succ, List.getElem?_map, this]
    rfl
theorem splits_fst {β : Type u} : ∀ l : List β, (splits l).map (·.1) = l
  | [] => rfl
  | x :: xs => by
    rw [splits, List.map_cons, List.map_map]
    show x :: (splits xs).map (·.1) = _
    rw [splits_fst xs]
theorem splits_perm {β : Type u} : ∀ (l : List β) (q : β × List β), q ∈ splits l → l.Perm (q.1 :: q.2)
  | [], q, h => by simp [splits] at h
  | x :: xs, q, h => by
    rw [splits] at h
    rcases List.mem_cons.mp h with e | h
    · subst e; exact List.Perm.refl _
    · obtain ⟨q', hq, e⟩ := List.mem_map.mp h
      subst e
      exact ((splits_perm xs q' hq).cons x).trans (List.Perm.swap _ _ _)
theorem sm_splits {β : Type u} (l : List β) (f : β → Rat) : sm (splits l) (fun q => f q.1) = sm l f := by
  rw [← sm_map (fun q : β × List β => q.1) (splits l) f, splits_fst]

abbrev Parts (ι : Type u) := List (ι × Rat)
abbrev Outs (ι : Type u) := List (Rat × Parts ι)
def raise (u : Rat) (ps : Parts ι) : Parts ι := ps.map fun p => (p.1, mx p.2 u)
def gone (u a : Rat) : Rat := if a < u then 1 - a / u else 0
def dropOne (c u : Rat) (q : (ι × Rat) × Parts ι) : Option (Rat × Parts ι) := if gone u q.1.2 = 0 then none else some (c * gone u q.1.2, raise u q.2)
def drops (c u : Rat) (ps : Parts ι) : Outs ι := (splits ps).filterMap (dropOne c u)
theorem sm_filterMap (l : List ((ι × Rat) × Parts ι)) (c u : Rat) (F : Parts ι → Rat) : sm (l.filterMap (dropOne c u)) (fun r => r.1 * F r.2) = c * sm l (fun q => gone u q.1.2 * F (raise u q.2)) := by
  induction l with
  | nil => rw [List.filterMap_nil, sm_nil, sm_nil]; grind
  | cons q l ih =>
    rw [List.filterMap_cons, sm_cons]
    by_cases h : gone u q.1.2 = 0
    · have e : dropOne c u q = none := if_pos h
      rw [e]
      simp only
      rw [ih, h]; grind
    · have e : dropOne c u q = some (c * gone u q.1.2, raise u q.2) := if_neg h
      rw [e]
      simp only
      rw [sm_cons, ih]; grind
theorem sm_drops (c u : Rat) (ps : Parts ι) (F : Parts ι → Rat) : sm (drops c u ps) (fun r => r.1 * F r.2) = c * sm (splits ps) (fun q => gone u q.1.2 * F (raise u q.2)) := sm_filterMap _ c u F
theorem mem_drops {c u : Rat} {ps : Parts ι} {r : Rat × Parts ι} (h : r ∈ drops c u ps) : ∃ q ∈ splits ps, gone u q.1.2 ≠ 0 ∧ r = (c * gone u q.1.2, raise u q.2) := by
  obtain ⟨q, hq, e⟩ := List.mem_filterMap.mp h
  refine ⟨q, hq, ?_⟩
  unfold dropOne at e
  split at e
  · cases e
  · rename_i hn
    exact ⟨hn, (Option.some.inj e).symm⟩

section
variable [DecidableEq ι]
def adj (ps : Parts ι) (i : ι) : Rat := sm ps (fun p => if p.1 = i then p.2 else 0)
theorem adj_perm {ps qs : Parts ι} (h : ps.Perm qs) (i : ι) : adj ps i = adj qs i := sm_perm h _
theorem adj_cons (p : ι × Rat) (ps : Parts ι) (i : ι) : adj (p :: ps) i = (if p.1 = i then p.2 else 0) + adj ps i := sm_cons _ _ _
theorem adj_append (ps qs : Parts ι) (i : ι) : adj (ps ++ qs) i = adj ps i + adj qs i := sm_append _ _ _
theorem adj_none {ps : Parts ι} {i : ι} (h : i ∉ ps.map (·.1)) : adj ps i = 0 := sm_zero fun p hp => if_neg fun (e : p.1 = i) => h (e ▸ List.mem_map.mpr ⟨p, hp, rfl⟩)
/-- a sum that looks at one key alone -/
theorem sm_key {ps : Parts ι} (nd : (ps.map (·.1)).Nodup) {p : ι × Rat} (hp : p ∈ ps) (f : ι × Rat → Rat) : sm ps (fun q => if q.1 = p.1 then f q else 0) = f p := by
  induction ps with
  | nil => exact absurd hp (by simp)
  | cons q ps ih =>
    rw [List.map_cons, List.nodup_cons] at nd
    rw [sm_cons]
    rcases List.mem_cons.mp hp with e | e
    · subst e
      rw [if_pos rfl, sm_zero fun q' hq' => ?_]
      · grind
      · refine if_neg fun e => nd.1 ?_
        rw [← e]
        exact List.mem_map.mpr ⟨q', hq', rfl⟩
    · have hne : ¬ q.1 = p.1 := fun z => nd.1 (z ▸ List.mem_map.mpr ⟨p, e, rfl⟩)
      rw [if_neg hne, ih nd.2 e]; grind
theorem adj_mem {ps : Parts ι} (nd : (ps.map (·.1)).Nodup) {p : ι × Rat} (hp : p ∈ ps) : adj ps p.1 = p.2 := sm_key nd hp (·.2)
theorem adj_raise_split {u : Rat} {ps : Parts ι} {q : (ι × Rat) × Parts ι} (hq : q ∈ splits ps) (i : ι) : adj (raise u q.2) i = adj (raise u ps) i - (if q.1.1 = i then mx q.1.2 u else 0) := by
  have h := splits_perm ps q hq
  have h2 : (raise u ps).Perm (raise u (q.1 :: q.2)) := h.map _
  rw [adj_perm h2]
  show _ = adj ((q.1.1, mx q.1.2 u) :: raise u q.2) i - _
  rw [adj_cons]
  grind
theorem raise_keys (u : Rat) (ps : Parts ι) : (raise u ps).map (·.1) = ps.map (·.1) := by
  unfold raise
  rw [List.map_map]
  rfl

/-- what is known of the weights of a row that loses one: their drop chances sum to one -/
structure Full (u : Rat) (ps : Parts ι) : Prop where
  pos : 0 < u
  nd : (ps.map (·.1)).Nodup
  low : ∀ p ∈ ps, 0 < p.2
  one : sm ps (fun p => gone u p.2) = 1
theorem gone_nonneg {u a : Rat} (hu : 0 < u) (ha : 0 < a) : 0 ≤ gone u a := by
  unfold gone
  split
  · rename_i h
    have : a / u < 1 := by
      rw [Rat.div_lt_iff hu]; grind
    grind
  · grind
theorem gone_mul {u a : Rat} (hu : 0 < u) : (1 - gone u a) * mx a u = a := by
  unfold gone mx
  split
  · have : u ≠ 0 := by grind
    grind
  · grind
theorem full_of {k : Nat} {u : Rat} {ps : Parts ι} (h : Thr k (ps.map (·.2)) u) (hl : ps.length = k + 1) (nd : (ps.map (·.1)).Nodup) (low : ∀ p ∈ ps, 0 < p.2) : Full u ps := by
  rcases h with ⟨h, _⟩ | ⟨_, hu, he⟩
  · rw [List.length_map] at h; omega
  · refine ⟨hu, nd, low, ?_⟩
    rw [sm_map] at he
    have e : ∀ p ∈ ps, gone u p.2 = 1 - mn p.2 u * (1 / u) := by
      intro p _
      have hu' : u ≠ 0 := by grind
      unfold gone mn
      split <;> grind
    rw [sm_congr e, sm_sub, sm_const, sm_mulr, he, hl]
    have hu' : u ≠ 0 := by grind
    have : ((k + 1 : Nat) : Rat) = (k : Rat) + 1 := by grind
    rw [this]
    grind
section
variable {u c : Rat} {ps : Parts ι}
theorem drops_one (F : Full u ps) : sm (drops c u ps) (·.1) = c := by
  have h := sm_drops c u ps (fun _ => 1)
  have e : sm (drops c u ps) (fun r => r.1 * 1) = sm (drops c u ps) (·.1) := sm_congr fun r _ => by grind
  have e2 : sm (splits ps) (fun q => gone u q.1.2 * 1) = 1 := by
    have h1 := sm_splits ps (fun p => gone u p.2)
    rw [F.one] at h1
    refine Eq.trans (sm_congr fun q _ => ?_) h1
    grind
  rw [e, e2] at h
  grind
/-- Σ over the one that goes, of a function of its key's part -/
theorem sm_gone_key (F : Full u ps) (i : ι) : sm ps (fun p => gone u p.2 * (if p.1 = i then mx p.2 u else 0)) = adj (raise u ps) i - adj ps i := by
  by_cases h : i ∈ ps.map (·.1)
  · obtain ⟨p, hp, e⟩ := List.mem_map.mp h
    subst e
    have h1 : sm ps (fun q => gone u q.2 * (if q.1 = p.1 then mx q.2 u else 0)) = gone u p.2 * mx p.2 u := by
      rw [← sm_key F.nd hp (fun q => gone u q.2 * mx q.2 u)]
      exact sm_congr fun q _ => by split <;> grind
    have hp' : (p.1, mx p.2 u) ∈ raise u ps := List.mem_map.mpr ⟨p, hp, rfl⟩
    have h2 : adj (raise u ps) p.1 = mx p.2 u := adj_mem (p := (p.1, mx p.2 u)) (by rw [raise_keys]; exact F.nd) hp'
    have h3 := gone_mul (u := u) (a := p.2) F.pos
    rw [h1, h2, adj_mem F.nd hp]
    grind
  · rw [adj_none h, adj_none (by rw [raise_keys]; exact h), sm_zero fun p hp => ?_]
    · grind
    · rw [if_neg fun (e : p.1 = i) => h (e ▸ List.mem_map.mpr ⟨p, hp, rfl⟩)]; grind
theorem drops_mean (F : Full u ps) (i : ι) : sm (drops c u ps) (fun r => r.1 * adj r.2 i) = c * adj ps i := by
  rw [sm_drops c u ps (fun qs => adj qs i)]
  have e : sm (splits ps) (fun q => gone u q.1.2 * adj (raise u q.2) i) = sm ps (fun p => gone u p.2 * adj (raise u ps) i - gone u p.2 * (if p.1 = i then mx p.2 u else 0)) := by
    rw [← sm_splits ps]
    refine sm_congr fun q hq => ?_
    rw [adj_raise_split hq]
    grind
  rw [e, sm_sub, sm_mulr, F.one, sm_gone_key F]
  grind
theorem drops_cov (hc : 0 ≤ c) (F : Full u ps) {i j : ι} (hij : i ≠ j) : sm (drops c u ps) (fun r => r.1 * (adj r.2 i * adj r.2 j)) ≤ c * (adj ps i * adj ps j) := by
  rw [sm_drops c u ps (fun qs => adj qs i * adj qs j)]
  refine Rat.mul_le_mul_of_nonneg_left ?_ hc
  have e : sm (splits ps) (fun q => gone u q.1.2 * (adj (raise u q.2) i * adj (raise u q.2) j)) =
      sm ps (fun p => (gone u p.2 * (adj (raise u ps) i * adj (raise u ps) j) - (gone u p.2 * (if p.1 = i then mx p.2 u else 0)) * adj (raise u ps) j) - (gone u p.2 * (if p.1 = j then mx p.2 u else 0)) * adj (raise u ps) i) := by
    rw [← sm_splits ps]
    refine sm_congr fun q hq => ?_
    rw [adj_raise_split hq i, adj_raise_split hq j]
    by_cases h1 : q.1.1 = i
    · have h2 : ¬ q.1.1 = j := fun z => hij (h1.symm.trans z)
      rw [if_pos h1, if_neg h2]; grind
    · rw [if_neg h1]; grind
  rw [e, sm_sub, sm_sub, sm_mulr, sm_mulr, sm_mulr, F.one, sm_gone_key F, sm_gone_key F]
  -- A B - (A - a) B - (B - b) A ≤ a b
  have fact : ∀ k : ι, adj (raise u ps) k = adj ps k ∨ (adj (raise u ps) k = u ∧ adj ps k ≤ u) := by
    intro k
    by_cases h : k ∈ ps.map (·.1)
    · obtain ⟨p, hp, e⟩ := List.mem_map.mp h
      subst e
      have hp' : (p.1, mx p.2 u) ∈ raise u ps := List.mem_map.mpr ⟨p, hp, rfl⟩
      have h2 : adj (raise u ps) p.1 = mx p.2 u := adj_mem (p := (p.1, mx p.2 u)) (by rw [raise_keys]; exact F.nd) hp'
      rw [h2, adj_mem F.nd hp]
      unfold mx
      split
      · exact .inr ⟨rfl, by grind⟩
      · exact .inl rfl
    · exact .inl (by rw [adj_none h, adj_none (by rw [raise_keys]; exact h)])
  have hA : 0 ≤ (adj (raise u ps) i - adj ps i) * (adj (raise u ps) j - adj ps j) := by
    rcases fact i with e1 | ⟨e1, l1⟩
    · rw [e1]; grind
    · rcases fact j with e2 | ⟨e2, l2⟩
      · rw [e2]; grind
      · rw [e1, e2]; exact Rat.mul_nonneg (by grind) (by grind)
  grind
end
end
end K36

set_option autoImplicit false
set_option linter.all false
/-! The law of the last sample. -/
namespace K36
universe u
variable {ι : Type u} [DecidableEq ι]

structure Out (wt : ι → Rat) (k : Nat) (W : List ι) (t : Rat) (ps : Parts ι) : Prop where
  nd : (ps.map (·.1)).Nodup
  mem : ∀ p ∈ ps, p.1 ∈ W ∧ p.2 = mx (wt p.1) t
  big : ∀ i ∈ W, ¬ (wt i < t) → i ∈ ps.map (·.1)
  len : ps.length = min k W.length
  sum : sm ps (·.2) = sm W wt
structure Law (wt : ι → Rat) (k : Nat) (W : List ι) (t : Rat) (found : Outs ι) : Prop where
  out : ∀ r ∈ found, 0 < r.1 ∧ Out wt k W t r.2
  one : sm found (·.1) = 1
  mean : ∀ i ∈ W, sm found (fun r => r.1 * adj r.2 i) = wt i
  cov : ∀ i ∈ W, ∀ j ∈ W, i ≠ j → sm found (fun r => r.1 * (adj r.2 i * adj r.2 j)) ≤ wt i * wt j
/-- what one outcome becomes when the item x comes -/
def Step (wt : ι → Rat) (k : Nat) (x : ι) (r : Rat × Parts ι) (ds : Outs ι) : Prop :=
  ∃ qs : Parts ι, qs.Perm (r.2 ++ [(x, wt x)]) ∧ ((qs.length ≤ k ∧ ds = [(r.1, qs)]) ∨ (k < qs.length ∧ ∃ u, Thr (qs.length - 1) (qs.map (·.2)) u ∧ ds = (drops r.1 u qs).reverse))
inductive Steps (wt : ι → Rat) (k : Nat) (x : ι) : Outs ι → Outs ι → Prop
  | nil : Steps wt k x [] []
  | snoc {l m : Outs ι} {r : Rat × Parts ι} {ds : Outs ι} : Steps wt k x l m → Step wt k x r ds → Steps wt k x (l ++ [r]) (m ++ ds)
variable {wt : ι → Rat} {k : Nat} {x : ι} {W : List ι} {t : Rat}
theorem Steps.sm_eq {F : Rat × Parts ι → Rat} {G : Rat × Parts ι → Rat} {l m : Outs ι} (h : Steps wt k x l m) (hs : ∀ r ∈ l, ∀ ds, Step wt k x r ds → sm ds F = G r) : sm m F = sm l G := by
  induction h with
  | nil => rfl
  | snoc h s ih =>
    rw [sm_append, sm_append, sm_one, ih fun r hr => hs r (by simp [hr]), hs _ (by simp) _ s]
theorem Steps.sm_le {F : Rat × Parts ι → Rat} {G : Rat × Parts ι → Rat} {l m : Outs ι} (h : Steps wt k x l m) (hs : ∀ r ∈ l, ∀ ds, Step wt k x r ds → sm ds F ≤ G r) : sm m F ≤ sm l G := by
  induction h with
  | nil => rw [sm_nil, sm_nil]; grind
  | snoc h s ih =>
    have h1 := ih fun r hr => hs r (by simp [hr])
    have h2 := hs _ (by simp) _ s
    rw [sm_append, sm_append, sm_one]
    grind
theorem Steps.all {P : Rat × Parts ι → Prop} {l m : Outs ι} (h : Steps wt k x l m) (hs : ∀ r ∈ l, ∀ ds, Step wt k x r ds → ∀ d ∈ ds, P d) : ∀ d ∈ m, P d := by
  induction h with
  | nil => intro d hd; exact absurd hd (by simp)
  | snoc h s ih =>
    intro d hd
    rcases List.mem_append.mp hd with e | e
    · exact ih (fun r hr => hs r (by simp [hr])) d e
    · exact hs _ (by simp) _ s d e
theorem Steps.len {l m : Outs ι} (h : Steps wt k x l m) {B : Nat} (hs : ∀ r ∈ l, ∀ ds, Step wt k x r ds → ds.length ≤ B) : m.length ≤ l.length * B := by
  induction h with
  | nil => simp
  | snoc h s ih =>
    have h1 := ih fun r hr => hs r (by simp [hr])
    have h2 := hs _ (by simp) _ s
    simp only [List.length_append, List.length_cons, List.length_nil]
    have : (List.length ‹Outs ι› + (0 + 1)) * B = List.length ‹Outs ι› * B + B := by
      rw [Nat.zero_add, Nat.add_mul, Nat.one_mul]
    grind

/-- what is known where x comes to an outcome -/
structure Come (wt : ι → Rat) (k : Nat) (W : List ι) (t : Rat) (x : ι) (r : Rat × Parts ι) : Prop where
  kp : 1 ≤ k
  nW : W.Nodup
  xW : x ∉ W
  pos : ∀ i ∈ W, 0 < wt i
  posx : 0 < wt x
  t0 : 0 ≤ t
  tz : W.length < k → t = 0
  ch : 0 < r.1
  o : Out wt k W t r.2
section
variable {r : Rat × Parts ι} {qs : Parts ι}
theorem Come.xr (C : Come wt k W t x r) : x ∉ r.2.map (·.1) := fun h => by
  obtain ⟨p, hp, e⟩ := List.mem_map.mp h
  exact C.xW (e ▸ (C.o.mem p hp).1)
theorem Come.nd (C : Come wt k W t x r) (hq : qs.Perm (r.2 ++ [(x, wt x)])) : (qs.map (·.1)).Nodup := by
  have h := (hq.map (·.1)).nodup_iff
  rw [h, List.map_append]
  refine List.nodup_append.mpr ⟨C.o.nd, by simp, ?_⟩
  intro a ha b hb e
  have : b = x := by simpa using hb
  exact C.xr (by rw [← this, ← e]; exact ha)
theorem Come.low (C : Come wt k W t x r) (hq : qs.Perm (r.2 ++ [(x, wt x)])) : ∀ p ∈ qs, 0 < p.2 := by
  intro p hp
  rcases List.mem_append.mp (hq.mem_iff.mp hp) with e | e
  · obtain ⟨h1, h2⟩ := C.o.mem p e
    have h3 := le_mx (wt p.1) t
    have h4 := C.pos _ h1
    rw [h2]; grind
  · have : p = (x, wt x) := by simpa using e
    rw [this]; exact C.posx
theorem Come.adj_eq (C : Come wt k W t x r) (hq : qs.Perm (r.2 ++ [(x, wt x)])) (i : ι) : adj qs i = adj r.2 i + (if x = i then wt x else 0) := by
  rw [adj_perm hq, adj_append]
  show _ + sm [(x, wt x)] _ = _
  rw [sm_one]
theorem Come.len (C : Come wt k W t x r) (hq : qs.Perm (r.2 ++ [(x, wt x)])) : qs.length = min k W.length + 1 := by
  rw [hq.length_eq, List.length_append, C.o.len]; rfl
/-- the drop's facts -/
theorem Come.full (C : Come wt k W t x r) (hq : qs.Perm (r.2 ++ [(x, wt x)])) (hk : k < qs.length) {u : Rat} (hu : Thr (qs.length - 1) (qs.map (·.2)) u) : Full u qs := by
  refine full_of hu ?_ (C.nd hq) (C.low hq)
  omega
/-- the new threshold is above the old one -/
theorem Come.above (C : Come wt k W t x r) (hq : qs.Perm (r.2 ++ [(x, wt x)])) (hk : k < qs.length) {u : Rat} (hu : Thr (qs.length - 1) (qs.map (·.2)) u) : t < u := by
  have hl := C.len hq
  have hkW : k ≤ W.length := by omega
  have e1 : qs.length - 1 = k := by omega
  rw [e1] at hu
  rcases hu with ⟨h, _⟩ | ⟨_, hu0, he⟩
  · rw [List.length_map] at h; omega
  · by_cases h : t < u
    · exact h
    · exfalso
      have e2 := sm_map (fun p : ι × Rat => p.2) qs (fun w => mn w u)
      rw [he, sm_perm hq, sm_append, sm_one] at e2
      have e3 : sm r.2 (fun p => mn p.2 u) = (k : Rat) * u := by
        have h1 : ∀ p ∈ r.2, mn p.2 u = u := by
          intro p hp
          have h2 := (C.o.mem p hp).2
          have h3 := le_mx' (wt p.1) t
          unfold mn
          rw [if_neg]
          grind
        rw [sm_congr h1, sm_const, C.o.len, Nat.min_eq_left hkW]
      rw [e3] at e2
      have h4 : mn (wt x) u = 0 := by grind
      have := C.posx
      unfold mn at h4
      split at h4 <;> grind
theorem excess {a t : Rat} : a - mn a t = if t < a then a - t else 0 := by unfold mn; (repeat' split) <;> grind
/-- the threshold of the row is that of all weights -/
theorem Come.thr (C : Come wt k W t x r) (hq : qs.Perm (r.2 ++ [(x, wt x)])) (hk : k < qs.length) {u : Rat} (hu : Thr (qs.length - 1) (qs.map (·.2)) u) : Thr k ((W ++ [x]).map wt) u := by
  have hab := C.above hq hk hu
  have hl := C.len hq
  have hkW : k ≤ W.length := by omega
  have e1 : qs.length - 1 = k := by omega
  rw [e1] at hu
  rcases hu with ⟨h, _⟩ | ⟨_, hu0, he⟩
  · rw [List.length_map] at h; omega
  · refine .inr ⟨by rw [List.length_map, List.length_append]; simp; omega, hu0, ?_⟩
    rw [sm_map] at he ⊢
    rw [← he, sm_perm hq, sm_append, sm_append, sm_one, sm_one]
    have hW : sm W (fun i => wt i - mn (wt i) u) = sm r.2 (fun p => p.2 - mn p.2 u) := by
      have h1 : sm (r.2.map (·.1)) (fun i => wt i - mn (wt i) u) = sm W (fun i => wt i - mn (wt i) u) := by
        refine sm_subset C.o.nd C.nW (fun i hi => ?_) _ fun i hi hn => ?_
        · obtain ⟨p, hp, e⟩ := List.mem_map.mp hi
          exact e ▸ (C.o.mem p hp).1
        · have : wt i < t := by
            by_cases h : wt i < t
            · exact h
            · exact absurd (C.o.big i hi h) hn
          rw [excess, if_neg]; grind
      rw [← h1, sm_map]
      refine sm_congr fun p hp => ?_
      have h2 := (C.o.mem p hp).2
      show wt p.1 - mn (wt p.1) u = p.2 - mn p.2 u
      rw [excess, excess, h2]
      unfold mx
      (repeat' split) <;> grind
    have hS := C.o.sum
    rw [sm_sub, sm_sub] at hW
    grind
/-- the outcomes behind a drop -/
theorem Come.dropped (C : Come wt k W t x r) (hq : qs.Perm (r.2 ++ [(x, wt x)])) (hk : k < qs.length) {u : Rat} (hu : Thr (qs.length - 1) (qs.map (·.2)) u) : ∀ d ∈ (drops r.1 u qs).reverse, 0 < d.1 ∧ Out wt k (W ++ [x]) u d.2 := by
  intro d hd
  have F := C.full hq hk hu
  have hab := C.above hq hk hu
  have hl := C.len hq
  have hkW : k ≤ W.length := by omega
  obtain ⟨q, hqs, hg, e⟩ := mem_drops (List.mem_reverse.mp hd)
  subst e
  have hp := splits_perm qs q hqs
  have hq1 : q.1 ∈ qs := hp.mem_iff.mpr (by simp)
  have hlow := F.low _ hq1
  have hgn := gone_nonneg F.pos hlow
  have hlt : q.1.2 < u := by
    unfold gone at hg
    split at hg
    · assumption
    · exact absurd rfl hg
  have nd2 : (q.1.1 :: q.2.map (·.1)).Nodup := (hp.map (fun p : ι × Rat => p.1)).nodup_iff.mp F.nd
  have nd3 := (List.nodup_cons.mp nd2)
  have memq : ∀ p ∈ qs, p.1 ∈ W ++ [x] ∧ mx p.2 u = mx (wt p.1) u := by
    intro p hp'
    rcases List.mem_append.mp (hq.mem_iff.mp hp') with e | e
    · obtain ⟨h1, h2⟩ := C.o.mem p e
      exact ⟨List.mem_append.mpr (.inl h1), by rw [h2, mx_mx]; grind⟩
    · have : p = (x, wt x) := by simpa using e
      rw [this]; exact ⟨by simp, rfl⟩
  refine ⟨Rat.mul_pos C.ch (by grind), ?_, fun p hp' => ?_, fun i hi hb => ?_, ?_, ?_⟩
  · show ((raise u q.2).map (·.1)).Nodup
    rw [raise_keys]
    exact nd3.2
  · obtain ⟨p0, h0, e⟩ := List.mem_map.mp hp'
    have h1 := memq p0 (hp.mem_iff.mpr (by simp [h0]))
    rw [← e]
    exact h1
  · show i ∈ (raise u q.2).map (·.1)
    rw [raise_keys]
    have hiq : i ∈ qs.map (·.1) := by
      rw [(hq.map (·.1)).mem_iff, List.map_append]
      rcases List.mem_append.mp hi with e | e
      · exact List.mem_append.mpr (.inl (C.o.big i e (by grind)))
      · exact List.mem_append.mpr (.inr (by simpa using e))
    rw [(hp.map (·.1)).mem_iff] at hiq
    rcases List.mem_cons.mp hiq with e | e
    · exfalso
      have e : i = q.1.1 := e
      rcases List.mem_append.mp (hq.mem_iff.mp hq1) with e2 | e2
      · have h2 := (C.o.mem _ e2).2
        have h3 := le_mx (wt q.1.1) t
        rw [← e] at h2 h3
        grind
      · have h2 : q.1 = (x, wt x) := by simpa using e2
        have h3 : i = x := by rw [e, h2]
        have h4 : q.1.2 = wt x := by rw [h2]
        rw [h3] at hb
        grind
    · exact e
  · show (raise u q.2).length = _
    unfold raise
    have := hp.length_eq
    rw [List.length_map]
    simp only [List.length_cons, List.length_append, List.length_nil] at this ⊢
    omega
  · show sm (raise u q.2) (·.2) = _
    have e1 : qs.length - 1 = k := by omega
    rw [e1] at hu
    rcases hu with ⟨h, _⟩ | ⟨_, hu0, he⟩
    · rw [List.length_map] at h; omega
    · rw [sm_map, sm_perm hp, sm_cons] at he
      have hS := C.o.sum
      have hS2 : sm qs (·.2) = sm W wt + wt x := by rw [sm_perm hq, sm_append, sm_one, hS]
      rw [sm_perm hp, sm_cons] at hS2
      have hm : sm q.2 (fun p => mn p.2 u) + sm q.2 (fun p => mx p.2 u) = sm q.2 (·.2) + (q.2.length : Rat) * u := by
        rw [← sm_add, ← sm_const, ← sm_add]
        exact sm_congr fun p _ => mn_mx _ _
      have hl2 : q.2.length = k := by
        have := hp.length_eq
        simp only [List.length_cons] at this
        omega
      unfold raise
      rw [sm_map, sm_append, sm_one]
      have h5 : mn q.1.2 u = q.1.2 := if_pos hlt
      rw [hl2] at hm
      grind
theorem Come.kept (C : Come wt k W t x r) (hq : qs.Perm (r.2 ++ [(x, wt x)])) (hk : qs.length ≤ k) : Out wt k (W ++ [x]) t qs := by
  have hl := C.len hq
  have ht : t = 0 := C.tz (by omega)
  refine ⟨C.nd hq, fun p hp => ?_, fun i hi _ => ?_, ?_, ?_⟩
  · rcases List.mem_append.mp (hq.mem_iff.mp hp) with e | e
    · obtain ⟨h1, h2⟩ := C.o.mem p e
      exact ⟨List.mem_append.mpr (.inl h1), h2⟩
    · have : p = (x, wt x) := by simpa using e
      have hx := C.posx
      rw [this]
      refine ⟨by simp, ?_⟩
      show wt x = mx (wt x) t
      unfold mx
      rw [if_neg]; grind
  · rw [(hq.map (·.1)).mem_iff, List.map_append]
    rcases List.mem_append.mp hi with e | e
    · refine List.mem_append.mpr (.inl (C.o.big i e ?_))
      have := C.pos i e
      grind
    · exact List.mem_append.mpr (.inr (by simpa using e))
  · rw [hl, List.length_append]
    simp only [List.length_cons, List.length_nil]
    omega
  · rw [sm_perm hq, sm_append, sm_append, sm_one, sm_one, C.o.sum]
end
/-- the law behind one more item -/
theorem Law.step {found more : Outs ι} (L : Law wt k W t found) (hk : 1 ≤ k) (nW : W.Nodup) (xW : x ∉ W) (pos : ∀ i ∈ W, 0 < wt i) (posx : 0 < wt x) (hT : Thr k (W.map wt) t) (S : Steps wt k x found more) :
    ∃ t', Thr k ((W ++ [x]).map wt) t' ∧ Law wt k (W ++ [x]) t' more := by
  have come : ∀ r ∈ found, Come wt k W t x r := fun r hr => ⟨hk, nW, xW, pos, posx, hT.nonneg, fun h => by
    rcases hT with ⟨_, e⟩ | ⟨h2, _⟩
    · exact e
    · rw [List.length_map] at h2; omega, (L.out r hr).1, (L.out r hr).2⟩
  have pos' : ∀ i ∈ W ++ [x], 0 < wt i := by
    intro i hi
    rcases List.mem_append.mp hi with e | e
    · exact pos i e
    · have : i = x := by simpa using e
      rw [this]; exact posx
  have posL : ∀ w ∈ (W ++ [x]).map wt, 0 < w := by
    intro w hw
    obtain ⟨i, hi, e⟩ := List.mem_map.mp hw
    exact e ▸ pos' i hi
  -- one threshold for all
  have thr : ∃ t', Thr k ((W ++ [x]).map wt) t' ∧ ∀ d ∈ more, 0 < d.1 ∧ Out wt k (W ++ [x]) t' d.2 := by
    by_cases hW : W.length < k
    · refine ⟨t, .inl ⟨by rw [List.length_map, List.length_append]; simp; omega, ?_⟩, S.all fun r hr ds hs d hd => ?_⟩
      · rcases hT with ⟨_, e⟩ | ⟨h2, _⟩
        · exact e
        · rw [List.length_map] at h2; omega
      · have C := come r hr
        obtain ⟨qs, hq, ⟨h1, e⟩ | ⟨h1, _⟩⟩ := hs
        · rw [e] at hd
          have : d = (r.1, qs) := by simpa using hd
          rw [this]
          exact ⟨C.ch, C.kept hq h1⟩
        · have := C.len hq; omega
    · have key : ∀ r ∈ found, ∀ ds, Step wt k x r ds → ∃ u, Thr k ((W ++ [x]).map wt) u ∧ ∀ d ∈ ds, 0 < d.1 ∧ Out wt k (W ++ [x]) u d.2 := by
        intro r hr ds hs
        have C := come r hr
        obtain ⟨qs, hq, ⟨h1, e⟩ | ⟨h1, u, hu, e⟩⟩ := hs
        · have := C.len hq; omega
        · exact ⟨u, C.thr hq h1 hu, by rw [e]; exact C.dropped hq h1 hu⟩
      obtain ⟨u, hu⟩ : ∃ u, Thr k ((W ++ [x]).map wt) u := by
        cases S with
        | nil =>
          have := L.one
          rw [sm_nil] at this
          grind
        | snoc h s =>
          obtain ⟨u, hu, _⟩ := key _ (by simp) _ s
          exact ⟨u, hu⟩
      refine ⟨u, hu, S.all fun r hr ds hs d hd => ?_⟩
      obtain ⟨u', hu', h'⟩ := key r hr ds hs
      have : u' = u := hu'.uniq posL hu
      exact this ▸ h' d hd
  obtain ⟨t', ht', hout⟩ := thr
  -- the sums
  have s1 : ∀ r ∈ found, ∀ ds, Step wt k x r ds → sm ds (·.1) = r.1 := by
    intro r hr ds hs
    have C := come r hr
    obtain ⟨qs, hq, ⟨h1, e⟩ | ⟨h1, u, hu, e⟩⟩ := hs
    · rw [e, sm_one]
    · rw [e, sm_reverse, drops_one (C.full hq h1 hu)]
  have s2 : ∀ i, ∀ r ∈ found, ∀ ds, Step wt k x r ds → sm ds (fun d => d.1 * adj d.2 i) = r.1 * (adj r.2 i + (if x = i then wt x else 0)) := by
    intro i r hr ds hs
    have C := come r hr
    obtain ⟨qs, hq, ⟨h1, e⟩ | ⟨h1, u, hu, e⟩⟩ := hs
    · rw [e, sm_one, C.adj_eq hq]
    · rw [e, sm_reverse, drops_mean (C.full hq h1 hu), C.adj_eq hq]
  have s3 : ∀ i j, i ≠ j → ∀ r ∈ found, ∀ ds, Step wt k x r ds → sm ds (fun d => d.1 * (adj d.2 i * adj d.2 j)) ≤ r.1 * ((adj r.2 i + (if x = i then wt x else 0)) * (adj r.2 j + (if x = j then wt x else 0))) := by
    intro i j hij r hr ds hs
    have C := come r hr
    have hc := C.ch
    obtain ⟨qs, hq, ⟨h1, e⟩ | ⟨h1, u, hu, e⟩⟩ := hs
    · rw [e, sm_one, C.adj_eq hq, C.adj_eq hq]; grind
    · rw [e, sm_reverse, ← C.adj_eq hq, ← C.adj_eq hq]
      exact drops_cov (by grind) (C.full hq h1 hu) hij
  have zx : ∀ r ∈ found, adj r.2 x = 0 := fun r hr => adj_none (come r hr).xr
  refine ⟨t', ht', hout, ?_, fun i hi => ?_, fun i hi j hj hij => ?_⟩
  · rw [S.sm_eq s1]; exact L.one
  · rw [S.sm_eq (s2 i)]
    rcases List.mem_append.mp hi with e | e
    · have hne : ¬ x = i := fun z => xW (z ▸ e)
      rw [← L.mean i e]
      exact sm_congr fun r _ => by rw [if_neg hne]; grind
    · have e : i = x := by simpa using e
      subst e
      rw [sm_congr (g := fun r => r.1 * wt i) fun r hr => by rw [if_pos rfl, zx r hr]; grind]
      rw [sm_mulr, L.one]; grind
  · refine Rat.le_trans (S.sm_le (s3 i j hij)) ?_
    rcases List.mem_append.mp hi with e | e
    · have hne : ¬ x = i := fun z => xW (z ▸ e)
      rcases List.mem_append.mp hj with e2 | e2
      · have hne2 : ¬ x = j := fun z => xW (z ▸ e2)
        rw [sm_congr (g := fun r => r.1 * (adj r.2 i * adj r.2 j)) fun r hr => by rw [if_neg hne, if_neg hne2]; grind]
        exact L.cov i e j e2 hij
      · have e2 : j = x := by simpa using e2
        subst e2
        rw [sm_congr (g := fun r => (r.1 * adj r.2 i) * wt j) fun r hr => by rw [if_neg hne, if_pos rfl, zx r hr]; grind]
        rw [sm_mulr, L.mean i e]; grind
    · have e : i = x := by simpa using e
      subst e
      rcases List.mem_append.mp hj with e2 | e2
      · have hne2 : ¬ i = j := hij
        rw [sm_congr (g := fun r => (r.1 * adj r.2 j) * wt i) fun r hr => by rw [if_neg hne2, if_pos rfl, zx r hr]; grind]
        rw [sm_mulr, L.mean j e2]; grind
      · have e2 : j = i := by simpa using e2
        exact absurd e2.symm hij
theorem Law.start : Law wt k ([] : List ι) 0 [((1 : Rat), ([] : Parts ι))] where
  out := fun r hr => by
    have : r = ((1 : Rat), ([] : Parts ι)) := by simpa using hr
    rw [this]
    refine ⟨by show (0 : Rat) < 1; grind, List.Pairwise.nil, fun p hp => absurd hp (by simp), fun i hi => absurd hi (by simp), by simp, rfl⟩
  one := by rw [sm_one]
  mean := fun i hi => absurd hi (by simp)
  cov := fun i hi => absurd hi (by simp)
theorem thr_start : Thr k (([] : List ι).map wt) 0 := .inl ⟨Nat.zero_le _, rfl⟩
end K36

set_option autoImplicit false
set_option linter.all false
/-! The estimates over the law. -/
namespace K36
universe u
variable {ι : Type u} [DecidableEq ι]
def est (wt y : ι → Rat) (ps : Parts ι) : Rat := sm ps (fun p => y p.1 * (p.2 / wt p.1))
def told (wt y : ι → Rat) (ps : Parts ι) : Rat := sm ps (fun p => (y p.1 * y p.1) * ((p.2 / wt p.1) * ((p.2 - wt p.1) / wt p.1)))
def avg (rows : List (Rat × Rat)) : Rat := sm rows (fun r => r.1 * r.2)
def vari (rows : List (Rat × Rat)) : Rat := sm rows (fun r => r.2 * ((r.1 - avg rows) * (r.1 - avg rows)))
variable {wt y : ι → Rat} {k : Nat} {W : List ι} {t : Rat}
/-- a sum over the parts is a sum over all items -/
theorem Out.sum_adj {ps : Parts ι} (nW : W.Nodup) (O : Out wt k W t ps) (f : ι → Rat) : sm ps (fun p => f p.1 * p.2) = sm W (fun i => f i * adj ps i) := by
  have h1 : sm ps (fun p => f p.1 * p.2) = sm (ps.map (·.1)) (fun i => f i * adj ps i) := by
    rw [sm_map]
    exact sm_congr fun p hp => by rw [adj_mem O.nd hp]
  rw [h1]
  refine sm_subset O.nd nW (fun i hi => ?_) _ fun i _ hn => ?_
  · obtain ⟨p, hp, e⟩ := List.mem_map.mp hi
    exact e ▸ (O.mem p hp).1
  · rw [adj_none hn]; grind
theorem div_nn {a b : Rat} (ha : 0 ≤ a) (hb : 0 < b) : 0 ≤ a / b := by
  rw [Rat.div_def]
  exact Rat.mul_nonneg ha (Rat.le_of_lt (Rat.inv_pos.mpr hb))
theorem est_eq {ps : Parts ι} (nW : W.Nodup) (O : Out wt k W t ps) : est wt y ps = sm W (fun i => (y i / wt i) * adj ps i) := by
  rw [← O.sum_adj nW]
  exact sm_congr fun p _ => by grind
theorem adj_sq {ps : Parts ι} (O : Out wt k W t ps) {i : ι} (hi : i ∈ W) : adj ps i * adj ps i = mx (wt i) t * adj ps i := by
  by_cases h : i ∈ ps.map (·.1)
  · obtain ⟨p, hp, e⟩ := List.mem_map.mp h
    subst e
    rw [adj_mem O.nd hp, (O.mem p hp).2]
  · rw [adj_none h]; grind
theorem told_eq {ps : Parts ι} (nW : W.Nodup) (pos : ∀ i ∈ W, 0 < wt i) (O : Out wt k W t ps) : told wt y ps = sm W (fun i => ((y i * y i) * ((mx (wt i) t - wt i) / wt i) / wt i) * adj ps i) := by
  rw [← O.sum_adj nW]
  refine sm_congr fun p hp => ?_
  have h := O.mem p hp
  have := pos _ h.1
  rw [h.2]
  grind
/-- what single items add -/
def single (wt y : ι → Rat) (t : Rat) (i : ι) : Rat := (y i * y i) * ((mx (wt i) t - wt i) / wt i)
section
variable {found : Outs ι}
theorem Law.est_mean (L : Law wt k W t found) (nW : W.Nodup) (pos : ∀ i ∈ W, 0 < wt i) : avg (found.map fun r => (est wt y r.2, r.1)) = sm W y := by
  unfold avg
  rw [sm_map]
  have h : sm found (fun r => est wt y r.2 * r.1) = sm found (fun r => sm W fun i => (y i / wt i) * (r.1 * adj r.2 i)) := by
    refine sm_congr fun r hr => ?_
    rw [est_eq nW (L.out r hr).2, ← sm_mulr]
    exact sm_congr fun i _ => by grind
  rw [h, sm_swap]
  refine sm_congr fun i hi => ?_
  rw [sm_mul, L.mean i hi]
  have := pos i hi
  grind
theorem Law.told_mean (L : Law wt k W t found) (nW : W.Nodup) (pos : ∀ i ∈ W, 0 < wt i) : sm found (fun r => told wt y r.2 * r.1) = sm W (single wt y t) := by
  have h : sm found (fun r => told wt y r.2 * r.1) = sm found (fun r => sm W fun i => ((y i * y i) * ((mx (wt i) t - wt i) / wt i) / wt i) * (r.1 * adj r.2 i)) := by
    refine sm_congr fun r hr => ?_
    rw [told_eq nW pos (L.out r hr).2, ← sm_mulr]
    exact sm_congr fun i _ => by grind
  rw [h, sm_swap]
  refine sm_congr fun i hi => ?_
  rw [sm_mul, L.mean i hi]
  have := pos i hi
  unfold single
  grind
/-- the rows of a single item -/
def addeds (wt y : ι → Rat) (found : Outs ι) (i : ι) : List (Rat × Rat) := found.map fun r => (y i * (adj r.2 i / wt i), r.1)
theorem Law.added_mean (L : Law wt k W t found) (pos : ∀ i ∈ W, 0 < wt i) {i : ι} (hi : i ∈ W) : avg (addeds wt y found i) = y i := by
  unfold avg addeds
  rw [sm_map, sm_congr (g := fun r => (y i / wt i) * (r.1 * adj r.2 i)) fun r _ => by grind, sm_mul, L.mean i hi]
  have := pos i hi
  grind
theorem spread_eq (rows : List (Rat × Rat)) (h : sm rows (·.2) = 1) : vari rows = sm rows (fun r => r.2 * (r.1 * r.1)) - avg rows * avg rows := by
  unfold vari
  rw [sm_congr (g := fun r => (r.2 * (r.1 * r.1) - (2 * avg rows) * (r.1 * r.2)) + (avg rows * avg rows) * r.2) fun r _ => by grind]
  rw [sm_add, sm_sub, sm_mul, sm_mul, h]
  have : sm rows (fun r => r.1 * r.2) = avg rows := rfl
  rw [this]
  grind
theorem Law.added_spread (L : Law wt k W t found) (pos : ∀ i ∈ W, 0 < wt i) {i : ι} (hi : i ∈ W) : vari (addeds wt y found i) = single wt y t i := by
  rw [spread_eq, L.added_mean pos hi]
  · unfold addeds
    rw [sm_map, sm_congr (g := fun r => ((y i * y i) * mx (wt i) t / (wt i * wt i)) * (r.1 * adj r.2 i)) fun r hr => ?_, sm_mul, L.mean i hi]
    · have := pos i hi
      unfold single
      grind
    · have h := adj_sq (L.out r hr).2 hi
      have := pos i hi
      grind
  · unfold addeds
    rw [sm_map]
    exact L.one
theorem Law.singles (L : Law wt k W t found) (pos : ∀ i ∈ W, 0 < wt i) : sm W (fun i => vari (addeds wt y found i)) = sm W (single wt y t) :=
  sm_congr fun i hi => L.added_spread pos hi
/-- with amounts of at least 0 the told variances are at least the variance of the estimates -/
theorem Law.spread_le (L : Law wt k W t found) (nW : W.Nodup) (pos : ∀ i ∈ W, 0 < wt i) (hy : ∀ i ∈ W, 0 ≤ y i) : vari (found.map fun r => (est wt y r.2, r.1)) ≤ sm W (single wt y t) := by
  rw [spread_eq, L.est_mean nW pos, sm_map]
  · have h : sm found (fun r => r.1 * (est wt y r.2 * est wt y r.2)) = sm W (fun i => sm W fun j => (y i / wt i) * (y j / wt j) * sm found (fun r => r.1 * (adj r.2 i * adj r.2 j))) := by
      have h1 : sm found (fun r => r.1 * (est wt y r.2 * est wt y r.2)) = sm found (fun r => sm W fun i => sm W fun j => (y i / wt i) * (y j / wt j) * (r.1 * (adj r.2 i * adj r.2 j))) := by
        refine sm_congr fun r hr => ?_
        rw [est_eq nW (L.out r hr).2]
        have e : ∀ i ∈ W, (sm W fun j => (y i / wt i) * (y j / wt j) * (r.1 * (adj r.2 i * adj r.2 j))) = (r.1 * sm W (fun j => (y j / wt j) * adj r.2 j)) * ((y i / wt i) * adj r.2 i) := by
          intro i _
          have e1 : ∀ j ∈ W, (y i / wt i) * (y j / wt j) * (r.1 * (adj r.2 i * adj r.2 j)) = (r.1 * ((y i / wt i) * adj r.2 i)) * ((y j / wt j) * adj r.2 j) := fun j _ => by grind
          rw [sm_congr e1, sm_mul]
          grind
        rw [sm_congr e, sm_mul]
        grind
      rw [h1, sm_swap]
      refine sm_congr fun i _ => ?_
      rw [sm_swap]
      refine sm_congr fun j _ => ?_
      rw [sm_mul]
    have h2 : sm W y * sm W y = sm W (fun i => sm W fun j => y i * y j) := by
      rw [← sm_mulr]
      exact sm_congr fun i _ => by rw [sm_mul]
    rw [h, h2, ← sm_sub]
    refine sm_le fun i hi => ?_
    rw [← sm_sub]
    have hwi := pos i hi
    have hyi := hy i hi
    have h3 : sm W (fun j => (y i / wt i) * (y j / wt j) * sm found (fun r => r.1 * (adj r.2 i * adj r.2 j)) - y i * y j) ≤ sm W (fun j => if j = i then single wt y t i else 0) := by
      refine sm_le fun j hj => ?_
      have hwj := pos j hj
      have hyj := hy j hj
      by_cases hij : j = i
      · subst hij
        rw [if_pos rfl, sm_congr (g := fun r => mx (wt j) t * (r.1 * adj r.2 j)) fun r hr => by rw [adj_sq (L.out r hr).2 hj]; grind, sm_mul, L.mean j hj]
        unfold single
        have : y j / wt j * (y j / wt j) * (mx (wt j) t * wt j) - y j * y j = y j * y j * ((mx (wt j) t - wt j) / wt j) := by grind
        rw [this]
        grind
      · rw [if_neg hij]
        have hc := L.cov i hi j hj (fun e => hij e.symm)
        have hn : 0 ≤ (y i / wt i) * (y j / wt j) := Rat.mul_nonneg (div_nn hyi hwi) (div_nn hyj hwj)
        have h4 := Rat.mul_le_mul_of_nonneg_left hc hn
        have h5 : (y i / wt i) * (y j / wt j) * (wt i * wt j) = y i * y j := by grind
        grind
    refine Rat.le_trans h3 ?_
    have h6 : sm W (fun j => if j = i then single wt y t i else 0) = single wt y t i := by
      have := sm_subset (K := [i]) (by simp) nW (by simpa using hi) (fun j => if j = i then single wt y t i else 0) (fun a _ hn => if_neg (by simpa using hn))
      rw [← this, sm_one, if_pos rfl]
    rw [h6]
    grind
  · rw [sm_map]
    exact L.one
/-- a sample is whole where all items are kept -/
theorem Out.whole {ps : Parts ι} (O : Out wt k W t ps) (pos : ∀ i ∈ W, 0 < wt i) (ht : W.length ≤ k → t = 0) (h : W.length ≤ k) : ∀ p ∈ ps, p.2 = wt p.1 := by
  intro p hp
  have h1 := O.mem p hp
  have := pos _ h1.1
  rw [h1.2, ht h]
  unfold mx
  rw [if_neg]; grind
theorem Out.not_whole {ps : Parts ι} (O : Out wt k W t ps) (nW : W.Nodup) (pos : ∀ i ∈ W, 0 < wt i) (h : k < W.length) : ¬ ∀ p ∈ ps, p.2 = wt p.1 := by
  intro hall
  have hs := O.sum
  have h1 : sm ps (·.2) = sm (ps.map (·.1)) wt := by rw [sm_map]; exact sm_congr fun p hp => hall p hp
  -- an item that is not kept
  obtain ⟨i, hi, hn⟩ : ∃ i ∈ W, i ∉ ps.map (·.1) := by
    by_cases hh : ∃ i ∈ W, i ∉ ps.map (·.1)
    · exact hh
    · exfalso
      have hsub : ∀ i ∈ W, i ∈ ps.map (·.1) := fun i hi => by
        by_cases hm : i ∈ ps.map (·.1)
        · exact hm
        · exact absurd ⟨i, hi, hm⟩ hh
      have e := sm_subset nW O.nd hsub (fun _ => (1 : Rat)) fun a ha hn => absurd (by
        obtain ⟨p, hp, e⟩ := List.mem_map.mp ha
        exact e ▸ (O.mem p hp).1) hn
      rw [sm_const, sm_const, List.length_map, O.len, Nat.min_eq_left (Nat.le_of_lt h)] at e
      have : ((k : Nat) : Rat) < (W.length : Rat) := by exact_mod_cast h
      grind
  have h2 : sm (ps.map (·.1)) wt = sm W (fun i => if i ∈ ps.map (·.1) then wt i else 0) := by
    rw [← sm_subset O.nd nW (fun i hi => by
      obtain ⟨p, hp, e⟩ := List.mem_map.mp hi
      exact e ▸ (O.mem p hp).1) (fun i => if i ∈ ps.map (·.1) then wt i else 0) fun a _ hn => if_neg hn]
    exact sm_congr fun i hi => (if_pos hi).symm
  have h3 : sm W (fun i => wt i - (if i ∈ ps.map (·.1) then wt i else 0)) = 0 := by rw [sm_sub, ← h2, ← h1, hs]; grind
  have h4 := sm_all_zero (fun a ha => by
    have := pos a ha
    split <;> grind) h3 i hi
  rw [if_neg hn] at h4
  have := pos i hi
  grind
/-- the known variance -/
theorem known_eq (wt y : ι → Rat) (t : Rat) (W : List ι) : sm W (fun i => if wt i < t then (y i * y i) * ((t - wt i) / wt i) else 0) = sm W (single wt y t) := by
  refine sm_congr fun i _ => ?_
  unfold single mx
  split <;> grind
end
end K36

set_option autoImplicit false
set_option linter.all false
/-! Fractions in lowest terms as rationals; sizes; Euclid's turns. -/
namespace K36
universe u
/-! ### lowest terms -/
theorem low_num {p q : Int} (hq : 0 < q) : p / ((Nat.gcd p.natAbs q.natAbs : Nat) : Int) = (Rat.divInt p q).num := by
  rw [Rat.num_divInt, Int.sign_eq_one_of_pos hq, Int.one_mul]
  show _ = p / ((Nat.gcd q.natAbs p.natAbs : Nat) : Int)
  rw [Nat.gcd_comm]
theorem low_den {p q : Int} (hq : 0 < q) : q / ((Nat.gcd p.natAbs q.natAbs : Nat) : Int) = ((Rat.divInt p q).den : Int) := by
  have h0 : q ≠ 0 := by omega
  rw [Rat.den_divInt, if_neg h0]
  show _ = ((q.natAbs / (Nat.gcd q.natAbs p.natAbs) : Nat) : Int)
  rw [Nat.gcd_comm, Int.natCast_ediv]
  have : ((q.natAbs : Nat) : Int) = q := by omega
  rw [this]
theorem den_pos (x : Rat) : 0 < (x.den : Int) := by
  have := x.den_nz
  omega
theorem den_mul_pos (x y : Rat) : 0 < (x.den : Int) * (y.den : Int) := Int.mul_pos (den_pos x) (den_pos y)
theorem rat_eq (x : Rat) : x = (x.num : Rat) / (x.den : Rat) := by
  have h := Rat.num_divInt_den x
  rw [Rat.divInt_eq_div] at h
  exact h.symm
theorem den_ne (x : Rat) : (x.den : Rat) ≠ 0 := by
  have := x.den_nz
  intro h
  exact this (by exact_mod_cast h)
theorem plus_val (x y : Rat) : Rat.divInt (x.num * y.den + y.num * x.den) (x.den * y.den) = x + y := by
  have h1 : (x.den : Int) ≠ 0 := by have := den_pos x; omega
  have h2 : (y.den : Int) ≠ 0 := by have := den_pos y; omega
  rw [← Rat.divInt_add_divInt _ _ h1 h2, Rat.num_divInt_den, Rat.num_divInt_den]
theorem minus_val (x y : Rat) : Rat.divInt (x.num * y.den - y.num * x.den) (x.den * y.den) = x - y := by
  have h1 : (x.den : Int) ≠ 0 := by have := den_pos x; omega
  have h2 : (y.den : Int) ≠ 0 := by have := den_pos y; omega
  rw [← Rat.divInt_sub_divInt _ _ h1 h2, Rat.num_divInt_den, Rat.num_divInt_den]
theorem times_val (x y : Rat) : Rat.divInt (x.num * y.num) (x.den * y.den) = x * y := by
  rw [← Rat.divInt_mul_divInt, Rat.num_divInt_den, Rat.num_divInt_den]
theorem num_pos {y : Rat} (h : 0 < y) : 0 < y.num := by
  have := (Rat.lt_iff 0 y).mp h
  simp at this
  exact this
theorem over_val (x y : Rat) (hy : 0 < y) : Rat.divInt (x.num * y.den) (x.den * y.num) = x / y := by
  have hn := num_pos hy
  rw [Rat.divInt_eq_div]
  have h1 := den_ne x
  have h2 := den_ne y
  have h3 : (y.num : Rat) ≠ 0 := by
    intro h
    have : y.num = 0 := by exact_mod_cast h
    omega
  have ex := rat_eq x
  have ey := rat_eq y
  have e : x / y = ((x.num : Rat) / (x.den : Rat)) / ((y.num : Rat) / (y.den : Rat)) := by rw [← ex, ← ey]
  rw [e]
  have e1 : ((x.num * (y.den : Int) : Int) : Rat) = (x.num : Rat) * (y.den : Rat) := by push_cast; rfl
  have e2 : (((x.den : Int) * y.num : Int) : Rat) = (x.den : Rat) * (y.num : Rat) := by push_cast; rfl
  rw [e1, e2]
  grind
theorem over_pos (x y : Rat) (hy : 0 < y) : 0 < (x.den : Int) * y.num := Int.mul_pos (den_pos x) (num_pos hy)
theorem less_val (x y : Rat) : decide (x.num * y.den < y.num * x.den) = decide (x < y) := by
  rw [decide_eq_decide]
  exact (Rat.lt_iff x y).symm
theorem divInt_val (p q : Int) : Rat.divInt p q = (p : Rat) / (q : Rat) := Rat.divInt_eq_div p q
theorem whole_val (n : Int) : Rat.divInt n 1 = (n : Rat) := by
  rw [Rat.divInt_eq_div]
  have : ((1 : Int) : Rat) = 1 := rfl
  rw [this]
  grind

/-! ### sizes -/
def Sm (x : Rat) : Prop := x.num.natAbs < 2 ^ 900 ∧ x.den < 2 ^ 900
def Bd (D M : Nat) (x : Rat) : Prop := 0 < D ∧ (∃ z : Int, x * (D : Rat) = (z : Rat)) ∧ -(M : Rat) ≤ x ∧ x ≤ (M : Rat)
section
variable {D E M N : Nat} {x y : Rat}
theorem cast_nn (n : Nat) : (0 : Rat) ≤ (n : Rat) := Rat.natCast_nonneg
theorem cast_le {m n : Nat} (h : m ≤ n) : (m : Rat) ≤ (n : Rat) := by exact_mod_cast h
theorem Bd.mono (h : Bd D M x) (hM : M ≤ N) : Bd D N x := by
  obtain ⟨h1, h2, h3, h4⟩ := h
  have := cast_le hM
  exact ⟨h1, h2, by grind, by grind⟩
theorem Bd.up (h : Bd D M x) (hE : 0 < E) (hd : D ∣ E) : Bd E M x := by
  obtain ⟨h1, ⟨z, h2⟩, h3, h4⟩ := h
  obtain ⟨c, rfl⟩ := hd
  refine ⟨hE, ⟨z * c, ?_⟩, h3, h4⟩
  have e1 : ((D * c : Nat) : Rat) = (D : Rat) * (c : Rat) := by push_cast; rfl
  have e2 : ((z * (c : Int) : Int) : Rat) = (z : Rat) * (c : Rat) := by push_cast; rfl
  rw [e1, e2, ← h2]
  grind
theorem Bd.add (h : Bd D M x) (g : Bd D N y) : Bd D (M + N) (x + y) := by
  obtain ⟨h1, ⟨z, h2⟩, h3, h4⟩ := h
  obtain ⟨_, ⟨w, g2⟩, g3, g4⟩ := g
  have e1 : ((M + N : Nat) : Rat) = (M : Rat) + (N : Rat) := by push_cast; rfl
  have e2 : ((z + w : Int) : Rat) = (z : Rat) + (w : Rat) := by push_cast; rfl
  refine ⟨h1, ⟨z + w, ?_⟩, ?_, ?_⟩
  · rw [e2, ← h2, ← g2]; grind
  · rw [e1]; grind
  · rw [e1]; grind
theorem Bd.neg (g : Bd D N y) : Bd D N (-y) := by
  obtain ⟨h1, ⟨w, g2⟩, g3, g4⟩ := g
  refine ⟨h1, ⟨-w, ?_⟩, by grind, by grind⟩
  have e2 : ((-w : Int) : Rat) = -(w : Rat) := by push_cast; rfl
  rw [e2, ← g2]; grind
theorem Bd.sub (h : Bd D M x) (g : Bd D N y) : Bd D (M + N) (x - y) := by
  have := h.add g.neg
  rw [← Rat.sub_eq_add_neg] at this
  exact this
theorem Bd.mul (h : Bd D M x) (g : Bd E N y) : Bd (D * E) (M * N) (x * y) := by
  obtain ⟨h1, ⟨z, h2⟩, h3, h4⟩ := h
  obtain ⟨k1, ⟨w, g2⟩, g3, g4⟩ := g
  have e0 : ((D * E : Nat) : Rat) = (D : Rat) * (E : Rat) := by push_cast; rfl
  have e1 : ((M * N : Nat) : Rat) = (M : Rat) * (N : Rat) := by push_cast; rfl
  have e2 : ((z * w : Int) : Rat) = (z : Rat) * (w : Rat) := by push_cast; rfl
  have a1 : 0 ≤ ((M : Rat) - x) * ((N : Rat) - y) := Rat.mul_nonneg (by grind) (by grind)
  have a2 : 0 ≤ ((M : Rat) + x) * ((N : Rat) + y) := Rat.mul_nonneg (by grind) (by grind)
  have a3 : 0 ≤ ((M : Rat) - x) * ((N : Rat) + y) := Rat.mul_nonneg (by grind) (by grind)
  have a4 : 0 ≤ ((M : Rat) + x) * ((N : Rat) - y) := Rat.mul_nonneg (by grind) (by grind)
  refine ⟨Nat.mul_pos h1 k1, ⟨z * w, ?_⟩, ?_, ?_⟩
  · rw [e0, e2, ← h2, ← g2]; grind
  · rw [e1]; grind
  · rw [e1]; grind
theorem Bd.int {n : Int} (h : n.natAbs ≤ M) : Bd 1 M (n : Rat) := by
  refine ⟨Nat.one_pos, ⟨n, ?_⟩, ?_, ?_⟩
  · have : ((1 : Nat) : Rat) = 1 := rfl
    rw [this]; grind
  · have h1 : -n ≤ (M : Int) := by omega
    have h2 : ((-n : Int) : Rat) ≤ (M : Rat) := by exact_mod_cast h1
    have e2 : ((-n : Int) : Rat) = -(n : Rat) := by push_cast; rfl
    rw [e2] at h2
    grind
  · have : n ≤ (M : Int) := by omega
    exact_mod_cast this
theorem Bd.zero (h : 0 < D) : Bd D 0 0 := by
  refine ⟨h, ⟨0, ?_⟩, ?_, ?_⟩
  · have : ((0 : Int) : Rat) = 0 := rfl
    rw [this]; grind
  · have : ((0 : Nat) : Rat) = 0 := rfl
    rw [this]; grind
  · have : ((0 : Nat) : Rat) = 0 := rfl
    rw [this]; grind
/-- a part of a whole number, at least one -/
theorem Bd.div {n : Nat} (h : Bd D M x) (hn : 1 ≤ n) : Bd (D * n) M (x / (n : Rat)) := by
  obtain ⟨h1, ⟨z, h2⟩, h3, h4⟩ := h
  have hn' : (1 : Rat) ≤ (n : Rat) := by exact_mod_cast hn
  have hne : (n : Rat) ≠ 0 := by grind
  have hm := cast_nn M
  refine ⟨Nat.mul_pos h1 hn, ⟨z, ?_⟩, ?_, ?_⟩
  · have e0 : ((D * n : Nat) : Rat) = (D : Rat) * (n : Rat) := by push_cast; rfl
    rw [e0, ← h2]; grind
  · have h5 : 0 ≤ (M : Rat) * ((n : Rat) - 1) := Rat.mul_nonneg hm (by grind)
    have h6 : x / (n : Rat) * (n : Rat) = x := by grind
    by_cases hh : x / (n : Rat) < -(M : Rat)
    · have := Rat.mul_lt_mul_of_pos_right hh (show (0 : Rat) < n by grind)
      grind
    · grind
  · have h5 : 0 ≤ (M : Rat) * ((n : Rat) - 1) := Rat.mul_nonneg hm (by grind)
    have h6 : x / (n : Rat) * (n : Rat) = x := by grind
    by_cases hh : (M : Rat) < x / (n : Rat)
    · have := Rat.mul_lt_mul_of_pos_right hh (show (0 : Rat) < n by grind)
      grind
    · grind
theorem Bd.sm {α : Type u} {l : List α} {f : α → Rat} (hD : 0 < D) (h : ∀ a ∈ l, Bd D M (f a)) : Bd D (l.length * M) (sm l f) := by
  induction l with
  | nil =>
    rw [sm_nil, List.length_nil, Nat.zero_mul]
    exact Bd.zero hD
  | cons a l ih =>
    rw [sm_cons, List.length_cons]
    have := (h a (by simp)).add (ih fun b hb => h b (by simp [hb]))
    exact this.mono (by rw [Nat.add_mul, Nat.one_mul, Nat.add_comm]; exact Nat.le_refl _)
theorem Bd.den (h : Bd D M x) : x.den ≤ D := by
  obtain ⟨h1, ⟨z, h2⟩, _⟩ := h
  have hD : (D : Rat) ≠ 0 := by
    intro e
    have : D = 0 := by exact_mod_cast e
    omega
  have e : x = Rat.divInt z (D : Int) := by
    rw [Rat.divInt_eq_div, ← h2]
    have : ((D : Int) : Rat) = (D : Rat) := Rat.intCast_natCast D
    rw [this]
    grind
  rw [e, Rat.den_divInt]
  split
  · omega
  · exact Nat.le_trans (Nat.div_le_self _ _) (by omega)
theorem Bd.num (h : Bd D M x) : x.num.natAbs ≤ M * D := by
  have hd := h.den
  obtain ⟨h1, _, h3, h4⟩ := h
  have e := rat_eq x
  have hn := den_ne x
  have hp : (0 : Rat) < (x.den : Rat) := by
    have := x.den_nz
    have : 0 < x.den := by omega
    exact_mod_cast this
  have e2 : (x.num : Rat) = x * (x.den : Rat) := by grind
  have u1 : (x.num : Rat) ≤ (M : Rat) * (x.den : Rat) := by rw [e2]; exact Rat.mul_le_mul_of_nonneg_right h4 (by grind)
  have u2' : -(M : Rat) * (x.den : Rat) ≤ (x.num : Rat) := by rw [e2]; exact Rat.mul_le_mul_of_nonneg_right h3 (by grind)
  have e3 : ((-x.num : Int) : Rat) = -(x.num : Rat) := by push_cast; rfl
  have u2 : ((-x.num : Int) : Rat) ≤ (M : Rat) * (x.den : Rat) := by rw [e3]; grind
  have v1 : x.num ≤ (M : Int) * (x.den : Int) := by exact_mod_cast u1
  have v2 : -x.num ≤ (M : Int) * (x.den : Int) := by exact_mod_cast u2
  have v3 : M * x.den ≤ M * D := Nat.mul_le_mul_left M hd
  have v4 : ((M * x.den : Nat) : Int) = (M : Int) * (x.den : Int) := by push_cast; rfl
  omega
theorem Bd.small {a b : Nat} (h : Bd D M x) (hD : D < 2 ^ a) (hM : M < 2 ^ b) (hab : a + b ≤ 900) : Sm x := by
  have h1 : (2 : Nat) ^ a ≤ 2 ^ 900 := Nat.pow_le_pow_right (by decide) (by omega)
  refine ⟨?_, Nat.lt_of_le_of_lt h.den (Nat.lt_of_lt_of_le hD h1)⟩
  refine Nat.lt_of_le_of_lt h.num ?_
  have h2 : M * D < 2 ^ b * 2 ^ a := Nat.mul_lt_mul'' hM hD
  rw [← Nat.pow_add] at h2
  exact Nat.lt_of_lt_of_le h2 (Nat.pow_le_pow_right (by decide) (by omega))
theorem Sm.le {a : Nat} (h : Bd D M x) (hD : D ≤ 2 ^ a) (hM : M ≤ 2 ^ a) (ha : a ≤ 449) : Sm x :=
  h.small (a := a + 1) (b := a + 1) (Nat.lt_of_le_of_lt hD (Nat.pow_lt_pow_right (by decide) (by omega))) (Nat.lt_of_le_of_lt hM (Nat.pow_lt_pow_right (by decide) (by omega))) (by omega)
end
/-- the sizes of a sum's parts -/
theorem Sm.num {x : Rat} (h : Sm x) : x.num.natAbs < 2 ^ 900 := h.1
theorem Sm.den {x : Rat} (h : Sm x) : ((x.den : Nat) : Int).natAbs < 2 ^ 900 := h.2
theorem abs_mul_lt {a b : Int} {m n : Nat} (ha : a.natAbs < 2 ^ m) (hb : b.natAbs < 2 ^ n) : (a * b).natAbs < 2 ^ (m + n) := by
  rw [Int.natAbs_mul, Nat.pow_add]
  exact Nat.mul_lt_mul'' ha hb
theorem abs_add_lt {a b : Int} {m : Nat} (ha : a.natAbs < 2 ^ m) (hb : b.natAbs < 2 ^ m) : (a + b).natAbs < 2 ^ (m + 1) := by
  have : (2 : Nat) ^ (m + 1) = 2 ^ m + 2 ^ m := by rw [Nat.pow_succ]; omega
  omega
theorem abs_sub_lt {a b : Int} {m : Nat} (ha : a.natAbs < 2 ^ m) (hb : b.natAbs < 2 ^ m) : (a - b).natAbs < 2 ^ (m + 1) := by
  have : (2 : Nat) ^ (m + 1) = 2 ^ m + 2 ^ m := by rw [Nat.pow_succ]; omega
  omega

/-! ### Euclid's turns -/
def turns (a b : Nat) : Nat := if h : b = 0 then 0 else 1 + turns b (a % b)
termination_by b
decreasing_by exact Nat.mod_lt _ (Nat.pos_of_ne_zero h)
theorem turns_zero (a : Nat) : turns a 0 = 0 := by rw [turns]; simp
theorem turns_pos {a b : Nat} (h : b ≠ 0) : turns a b = 1 + turns b (a % b) := by rw [turns]; simp [h]
theorem turns_le : ∀ (n a b : Nat), b < 2 ^ n → turns a b ≤ 2 * n
  | 0, a, b, h => by
    have : b = 0 := by omega
    rw [this, turns_zero]
    omega
  | n + 1, a, b, h => by
    by_cases hb : b = 0
    · rw [hb, turns_zero]; omega
    · rw [turns_pos hb]
      have hc : a % b < b := Nat.mod_lt _ (Nat.pos_of_ne_zero hb)
      by_cases hz : a % b = 0
      · rw [hz, turns_zero]; omega
      · rw [turns_pos hz]
        have h1 : b % (a % b) < a % b := Nat.mod_lt _ (Nat.pos_of_ne_zero hz)
        have h2 : b % (a % b) ≤ b - a % b := by
          have e : b % (a % b) = (b - a % b) % (a % b) := Nat.mod_eq_sub_mod (Nat.le_of_lt hc)
          rw [e]
          exact Nat.mod_le _ _
        have h3 : b % (a % b) < 2 ^ n := by
          have : (2 : Nat) ^ (n + 1) = 2 ^ n + 2 ^ n := by rw [Nat.pow_succ]; omega
          omega
        have := turns_le n (a % b) _ h3
        omega
theorem turns_none {a b : Nat} (h : turns a b ≤ 0) : b = 0 := by
  by_cases hb : b = 0
  · exact hb
  · rw [turns_pos hb] at h; omega
theorem gcd_step (a b : Nat) : Nat.gcd b (a % b) = Nat.gcd a b := by
  rw [Nat.gcd_comm, ← Nat.gcd_rec, Nat.gcd_comm]
end K36

set_option Elab.async false
set_option autoImplicit false
set_option linter.all false
set_option maxRecDepth 100000
/-! The text by places, data in the heap, what a call leaves. -/
namespace K36
open PySem PySem.Spec PyProof.Rows L2
def topS (i : Nat) : Stmt := PySem.Challenge.pw_samphire_k36_whole_optimal_estimates.main.body.getD i (.Pass ⟨0, 0, 0, 0⟩)
/-! ### data -/
structure It where
  key : Str
  grp : Str
  w : Int
  am : Int
  deriving DecidableEq
section
variable (K : PySem.W.Frag)
def IsFr (H : Hp) (v : V) (x : Rat) : Prop := ∃ a, v = .ref a ∧ SqT K H a [.int x.num, .int (x.den : Int)]
def IsIt (H : Hp) (v : V) (i : It) : Prop := ∃ a, v = .ref a ∧ SqT K H a [.str i.key, .str i.grp, .int i.w, .int i.am]
def IsPt (H : Hp) (v : V) (p : It × Rat) : Prop := ∃ a vi vx, v = .ref a ∧ SqT K H a [vi, vx] ∧ IsIt K H vi p.1 ∧ IsFr K H vx p.2
/-- a list of what P says -/
def IsLs {α : Type} (P : V → α → Prop) (H : Hp) (v : V) (xs : List α) : Prop := ∃ a vs, v = .ref a ∧ SqL K H a vs ∧ Paired P vs xs
def IsPts (H : Hp) (v : V) (ps : List (It × Rat)) : Prop := IsLs K (IsPt K H) H v ps
def IsOut (H : Hp) (v : V) (r : Rat × List (It × Rat)) : Prop := ∃ a vc vp, v = .ref a ∧ SqT K H a [vc, vp] ∧ IsFr K H vc r.1 ∧ IsPts K H vp r.2
def IsRow (H : Hp) (v : V) (r : Rat × Rat) : Prop := ∃ a v1 v2, v = .ref a ∧ SqT K H a [v1, v2] ∧ IsFr K H v1 r.1 ∧ IsFr K H v2 r.2
/-- a dict of amounts -/
def AmOf (kvs : List (Key × V)) (y : Str → Int) : Prop := ∀ s : Str, (valV kvs (Sum.inr s)).getD (.int 0) = .int (y s)
def IsAm (H : Hp) (v : V) (y : Str → Int) : Prop := ∃ a kvs, v = .ref a ∧ H a = some (.dK kvs) ∧ AmOf kvs y
end
section
variable {K : PySem.W.Frag} {H H' : Hp} {v : V}
theorem sameT (e : Same H H') {a : Addr} {xs : List V} (h : SqT K H a xs) : SqT K H' a xs := by
  rcases h with (h | ⟨o, h⟩) | h
  · exact .inl (.inl (e _ _ h))
  · exact .inl (.inr ⟨o, e _ _ h⟩)
  · exact .inr h
theorem IsFr.of (e : Same H H') {x : Rat} (h : IsFr K H v x) : IsFr K H' v x := let ⟨a, h1, h2⟩ := h; ⟨a, h1, sameT e h2⟩
theorem IsIt.of (e : Same H H') {x : It} (h : IsIt K H v x) : IsIt K H' v x := let ⟨a, h1, h2⟩ := h; ⟨a, h1, sameT e h2⟩
theorem IsPt.of (e : Same H H') {x : It × Rat} (h : IsPt K H v x) : IsPt K H' v x := let ⟨a, b, c, h1, h2, h3, h4⟩ := h; ⟨a, b, c, h1, sameT e h2, h3.of e, h4.of e⟩
theorem Paired.imp {α β : Type} {F G : α → β → Prop} (f : ∀ a b, F a b → G a b) {l : List α} {m : List β} (h : Paired F l m) : Paired G l m := Paired.mapP h f
theorem IsLs.of {α : Type} {P P' : V → α → Prop} (f : ∀ v x, P v x → P' v x) (e : Same H H') {xs : List α} (h : IsLs K P H v xs) : IsLs K P' H' v xs := let ⟨a, b, h1, h2, h3⟩ := h; ⟨a, b, h1, e.seq h2, Paired.imp f h3⟩
theorem IsPts.of (e : Same H H') {x : List (It × Rat)} (h : IsPts K H v x) : IsPts K H' v x := IsLs.of (fun _ _ q => IsPt.of e q) e h
theorem IsOut.of (e : Same H H') {x : Rat × List (It × Rat)} (h : IsOut K H v x) : IsOut K H' v x := let ⟨a, b, c, h1, h2, h3, h4⟩ := h; ⟨a, b, c, h1, sameT e h2, h3.of e, h4.of e⟩
theorem IsRow.of (e : Same H H') {x : Rat × Rat} (h : IsRow K H v x) : IsRow K H' v x := let ⟨a, b, c, h1, h2, h3, h4⟩ := h; ⟨a, b, c, h1, sameT e h2, h3.of e, h4.of e⟩
theorem IsAm.of (e : Same H H') {y : Str → Int} (h : IsAm H v y) : IsAm H' v y := let ⟨a, b, h1, h2, h3⟩ := h; ⟨a, b, h1, e _ _ h2, h3⟩
/-! lists that are paired -/
theorem Paired.get {α β : Type} {F : α → β → Prop} : ∀ {l : List α} {m : List β} {i : Nat} {y : β}, Paired F l m → m[i]? = some y → ∃ x, l[i]? = some x ∧ F x y
  | _, _, i, y, .nil, e => by simp at e
  | _, _, 0, y, .cons h t, e => by
    simp at e
    exact ⟨_, rfl, e ▸ h⟩
  | _, _, i + 1, y, .cons h t, e => by
    obtain ⟨x, h1, h2⟩ := Paired.get (i := i) (y := y) t (by simpa using e)
    exact ⟨x, by simpa using h1, h2⟩
theorem Paired.get' {α β : Type} {F : α → β → Prop} : ∀ {l : List α} {m : List β} {i : Nat} {x : α}, Paired F l m → l[i]? = some x → ∃ y, m[i]? = some y ∧ F x y
  | _, _, i, y, .nil, e => by simp at e
  | _, _, 0, y, .cons h t, e => by
    simp at e
    exact ⟨_, rfl, e ▸ h⟩
  | _, _, i + 1, y, .cons h t, e => by
    obtain ⟨x, h1, h2⟩ := Paired.get' (i := i) (x := y) t (by simpa using e)
    exact ⟨x, by simpa using h1, h2⟩
theorem Paired.app {α β : Type} {F : α → β → Prop} : ∀ {l l' : List α} {m m' : List β}, Paired F l m → Paired F l' m' → Paired F (l ++ l') (m ++ m')
  | _, _, _, _, .nil, h => h
  | _, _, _, _, .cons h t, h' => .cons h (Paired.app t h')
theorem Paired.snoc {α β : Type} {F : α → β → Prop} {l : List α} {m : List β} {a : α} {b : β} (h : Paired F l m) (h' : F a b) : Paired F (l ++ [a]) (m ++ [b]) := Paired.app h (.cons h' .nil)
end

/-! ### what a call leaves: G the part that never changes, H all -/
abbrev Tb := List (Addr × Str)
def NoT (G : Hp) : Prop := ∀ b ps, G b ≠ some (.tbl ps)
structure Ext (T : Tb) (G H G' H' : Hp) : Prop where
  hh : LamX.ExtN H H'
  tt : LamX.Tabs T H → LamX.Tabs T H'
  gg : Same G G'
  gh : Same G' H'
  fr : ∀ b, H b ≠ none → G' b = G b
  nt : NoT G → NoT G'
  st : ∀ b, H b ≠ none → H' b ≠ none
section
variable {T : Tb} {G H G' H' G2 H2 : Hp}
theorem Ext.refl (h : Same G H) : Ext T G H G H := ⟨LamX.ExtN.refl H, id, Same.refl G, h, fun _ _ => rfl, id, fun _ h => h⟩
theorem Ext.trans (a : Ext T G H G' H') (b : Ext T G' H' G2 H2) : Ext T G H G2 H2 where
  hh := a.hh.trans b.hh
  tt := fun h => b.tt (a.tt h)
  gg := a.gg.trans b.gg
  gh := b.gh
  fr := fun c h => (b.fr c (a.st c h)).trans (a.fr c h)
  nt := fun h => b.nt (a.nt h)
  st := fun c h => b.st c (a.st c h)
theorem Ext.free0 (a : Ext T G H G' H') {b : Addr} (h : H' b = none) : H b = none := by
  cases q : H b with
  | none => rfl
  | some o => exact absurd h (a.st b (by rw [q]; simp))
theorem same_new {H : Hp} {p : Addr} {o : HO} (h : H p = none) : Same H (upd H p o) := fun b x e => by
  rw [upd_ne (ne_of_none e h)]
  exact e
/-- a new object that stays as it is -/
theorem Ext.new (h : Same G H) {p : Addr} {o : HO} (hp : H p = none) (ho : ∀ ps, o ≠ .tbl ps) : Ext T G H (upd G p o) (upd H p o) where
  hh := LamX.ExtN.of (same_new hp)
  tt := fun t => t.ext (same_new hp)
  gg := same_new (h.free hp)
  gh := fun b x e => by
    by_cases z : b = p
    · subst z
      rw [upd_same] at e ⊢
      exact e
    · rw [upd_ne z] at e ⊢
      exact h _ _ e
  fr := fun b hb => upd_ne fun (z : b = p) => hb (by rw [z]; exact hp)
  nt := fun n b ps e => by
    by_cases z : b = p
    · subst z
      rw [upd_same] at e
      exact ho ps (Option.some.inj e)
    · rw [upd_ne z] at e
      exact n b ps e
  st := fun b hb => by
    rw [upd_ne fun (z : b = p) => hb (by rw [z]; exact hp)]
    exact hb
/-- a new object that will change: no part of G -/
theorem Ext.newM (h : Same G H) {p : Addr} {o : HO} (hp : H p = none) : Ext T G H G (upd H p o) where
  hh := LamX.ExtN.of (same_new hp)
  tt := fun t => t.ext (same_new hp)
  gg := Same.refl G
  gh := h.trans (same_new hp)
  fr := fun _ _ => rfl
  nt := id
  st := fun b hb => by
    rw [upd_ne fun (z : b = p) => hb (by rw [z]; exact hp)]
    exact hb
theorem tabs_upd {T : Tb} {H : Hp} {l : Addr} {xs : List V} {o : HO} (hl : H l = some (.lst xs)) (t : LamX.Tabs T H) : LamX.Tabs T (upd H l o) := fun p hp => by
  obtain ⟨ps, h1, h2, h3⟩ := t p hp
  refine ⟨ps, by rw [upd_ne (ne_of h1 hl (by intro z; cases z))]; exact h1, h2, fun pos cv hc => ?_⟩
  obtain ⟨c, e1, e2⟩ := h3 pos cv hc
  exact ⟨c, e1, by rw [upd_ne (ne_of e2 hl (by intro z; cases z))]; exact e2⟩
/-- a list of our own, made since H, is changed -/
theorem Ext.write (a : Ext T G H G' H') {l : Addr} {xs : List V} {o : HO} (hl : H' l = some (.lst xs)) (h0 : H l = none) (g0 : G' l = none) : Ext T G H G' (upd H' l o) where
  hh := fun b x e n => by
    rw [upd_ne (ne_of_none e h0)]
    exact a.hh b x e n
  tt := fun t => tabs_upd hl (a.tt t)
  gg := a.gg
  gh := fun b x e => by
    rw [upd_ne (ne_of_none e g0)]
    exact a.gh b x e
  fr := a.fr
  nt := a.nt
  st := fun b hb => by
    by_cases z : b = l
    · subst z
      rw [upd_same]
      simp
    · rw [upd_ne z]
      exact a.st b hb
/-- such a list is done: it is part of G from now on -/
theorem Ext.seal (a : Ext T G H G' H') {l : Addr} {o : HO} (hl : H' l = some o) (h0 : H l = none) (g0 : G' l = none) (ho : ∀ ps, o ≠ .tbl ps) : Ext T G H (L2.upd G' l o) H' where
  hh := a.hh
  tt := a.tt
  gg := a.gg.trans (same_new g0)
  gh := fun b x e => by
    by_cases z : b = l
    · subst z
      rw [upd_same] at e
      rw [← e]
      exact hl
    · rw [upd_ne z] at e
      exact a.gh b x e
  fr := fun b hb => by
    rw [upd_ne fun (z : b = l) => hb (by rw [z]; exact h0)]
    exact a.fr b hb
  nt := fun n b ps e => by
    by_cases z : b = l
    · subst z
      rw [upd_same] at e
      exact ho ps (Option.some.inj e)
    · rw [upd_ne z] at e
      exact a.nt n b ps e
  st := a.st
/-- what is tracked outside of G stays outside -/
theorem Ext.out (a : Ext T G H G' H') {b : Addr} {o : HO} (h : H b = some o) (g : G b = none) : G' b = none := by
  rw [a.fr b (by rw [h]; simp)]
  exact g
theorem Ext.lists (a : Ext T G H G' H') {b : Addr} {xs : List V} (h : H b = some (.lst xs)) : H' b = some (.lst xs) := a.hh b _ h fun ps z => by cases z
end
theorem Ext.seq {T : Tb} {G H G' H' : Hp} {K : PySem.W.Frag} {a : Addr} {xs : List V} (e : Ext T G H G' H') (h : SqL K H a xs) : SqL K H' a xs := by
  rcases h with (h | ⟨o, h⟩) | h
  · exact .inl (.inl (e.hh _ _ h fun ps z => by cases z))
  · exact .inl (.inr ⟨o, e.hh _ _ h fun ps z => by cases z⟩)
  · exact .inr h
theorem IsLs.lift {K : PySem.W.Frag} {α : Type} {Pv : V → α → Prop} {G H : Hp} {v : V} {xs : List α} (e : Same G H) (h : IsLs K Pv G v xs) : IsLs K Pv H v xs := let ⟨a, b, h1, h2, h3⟩ := h; ⟨a, b, h1, e.seq h2, h3⟩
/-! ### defs by their promises -/
/-- the def x keeps the promise sp, by at most level k -/
def Cal (P : Program) (w : World) (K : PySem.W.Frag) (mg : Str → Option Value) (base : Heap) (k : Nat) (x : Str) (ps : List Str) (sp : Sp) : Prop :=
  ∃ f fd, mg x = some (.ref f) ∧ PySem.W.keepIn K (.ref f) = true ∧ Binds K fd ps [] ∧ FnOk P w K mg base CX0 k f fd ps sp
theorem Cal.mono {P : Program} {w : World} {K : PySem.W.Frag} {mg : Str → Option Value} {base : Heap} {j k : Nat} {x : Str} {ps : List Str} {sp : Sp} (c : Cal P w K mg base j x ps sp) (h : j ≤ k) : Cal P w K mg base k x ps sp :=
  let ⟨f, fd, a, b, d, e⟩ := c
  ⟨f, fd, a, b, d, e.mono h⟩
theorem Cal.pe {X : Cx} {k : Nat} {x : Str} {ps : List Str} {sp : Sp} {e : Expr} {es : List Expr} {p pos : Pos} {t : TA} (c : Cal X.prog X.w X.K X.mg X.base k x ps sp) (hr : Room k X.A) (hg : Gl X x)
    (ha : PA X (e :: es) t) (hdb : (x == ("__debug__" : Str)) = false := by decide) (he : starEach (e :: es) X.env = (false, eval e X.env) :: starEach es X.env := by rfl) (hpl : (backTo pos (starEach es X.env)).any (·.1) = false := by rfl) :
    PE X (.Call (.Name x p) (e :: es) [] pos) (tCall sp [] E0 t) := by
  obtain ⟨f, fd, a, b, d, e⟩ := c
  exact pe_call e hr hg a b d .nil pass0 ha hdb he hpl
/-- what stands of a def -/
structure Def (K : PySem.W.Frag) (mg : Str → Option Value) (x : Str) (st : Stmt) (ps : List Str) : Prop where
  ex : ∃ f fd, mg x = some (.ref f) ∧ Fun K x x st f fd ∧ Binds K fd ps []
section
variable {P : Program} {w : World} {K : PySem.W.Frag} {mg : Str → Option Value} {base : Heap}
theorem Def.ok {x : Str} {st : Stmt} {N ps : List Str} {k : Nat} {sp : Sp} (D : Def K mg x st ps) (S : FnScope N ps (defScope st)) (len : ∀ vs H Q E, sp vs H Q E → vs.length = ps.length)
    (hbody : ∀ (f : Addr) (cdv : Value) (A : Around) (outer : List Env) (s : Shared) (H : Hp) (vs : List V) (Q : VK) (E : XK), Room k (A.deeper (envOfC x (defScope st) s.heap.objs.size f cdv)) → sp vs H Q E →
      ∃ t, PSs (cxOf CX0 P w K mg base N x (defScope st) f cdv A outer s H E).nox (defBody st) t ∧ t { nx := fun _ H' => Q .non H', rt := Q } (start N vs) H) : Cal P w K mg base (k + 1) x ps sp := by
  obtain ⟨f, fd, a, F, b⟩ := D.ex
  exact ⟨f, fd, a, F.kp, b, F.ok S len (hbody f)⟩
end
/-! ### readings in short -/
section
variable {K : PySem.W.Frag} {σ : L2.St} {H : Hp} {Q : VK} {i : Nat} {v : V}
theorem fr0 {x : Rat} (hs : σ[i]? = some (some v)) (h : IsFr K H v x) (q : Q (.int x.num) H) : tOp (rIxT K) (tVar i) (tC (.int 0)) σ H Q := by
  obtain ⟨a, rfl, ht⟩ := h
  exact ⟨_, hs, a, _, 0, .int x.num, rfl, rfl, ht, atI_nat (j := 0) rfl, q⟩
theorem fr1 {x : Rat} (hs : σ[i]? = some (some v)) (h : IsFr K H v x) (q : Q (.int x.den) H) : tOp (rIxT K) (tVar i) (tC (.int 1)) σ H Q := by
  obtain ⟨a, rfl, ht⟩ := h
  exact ⟨_, hs, a, _, 1, .int x.den, rfl, rfl, ht, atI_nat (j := 1) rfl, q⟩
end
/-- the names of the text -/
structure Nm (K : PySem.W.Frag) (mg : Str → Option Value) : Prop where
  gcd : mg "gcd" = some (.builtin "math.gcd")
  len : mg "len" = none
  list : mg "list" = none
  sum : mg "sum" = none
  isi : mg "isinstance" = none
  range : mg "range" = none
  sorted : mg "sorted" = none
  int : mg "int" = none
  abs : mg "abs" = none
  max : mg "max" = none
  min : mg "min" = none
  all : mg "all" = none
  dict : mg "dict" = none
  tuple : mg "tuple" = none
end K36

set_option Elab.async false
set_option autoImplicit false
set_option linter.all false
set_option maxRecDepth 100000
set_option maxHeartbeats 4000000
/-! The defs about fractions: the program's and the law's own. -/
namespace K36
open PySem PySem.Spec PyProof.Rows L2
variable {P : Program} {w : World} {K : PySem.W.Frag} {mg : Str → Option Value} {base : Heap} {T : Tb}
/-- behind the call: v over G', all else as Ext says -/
def Gives (T : Tb) (G H : Hp) (R : Hp → V → Prop) (Q : VK) : Prop := ∀ v G' H', Ext T G H G' H' → R G' v → Q v H'
def spLow (T : Tb) (K : PySem.W.Frag) : Sp := fun vs H Q _ => ∃ (G : Hp) (p q : Int), vs = [.int p, .int q] ∧ Same G H ∧ 0 < q ∧ q.natAbs < 2 ^ 1900 ∧ Gives T G H (fun G' v => IsFr K G' v (Rat.divInt p q)) Q
def spBin (T : Tb) (K : PySem.W.Frag) (ok : Rat → Rat → Prop) (f : Rat → Rat → Rat) : Sp := fun vs H Q _ => ∃ (G : Hp) (a b : V) (x y : Rat), vs = [a, b] ∧ Same G H ∧ IsFr K G a x ∧ IsFr K G b y ∧ Sm x ∧ Sm y ∧ ok x y ∧ Gives T G H (fun G' v => IsFr K G' v (f x y)) Q
def spLess (K : PySem.W.Frag) : Sp := fun vs H Q _ => ∃ (G : Hp) (a b : V) (x y : Rat), vs = [a, b] ∧ Same G H ∧ IsFr K G a x ∧ IsFr K G b y ∧ Sm x ∧ Sm y ∧ Q (.bl (decide (x < y))) H
abbrev okAny : Rat → Rat → Prop := fun _ _ => True
abbrev okPos : Rat → Rat → Prop := fun _ y => 0 < y
theorem fr_new {G H : Hp} {p q : Int} {g : Int} (hq : 0 < q) (hg : g = ((Nat.gcd p.natAbs q.natAbs : Nat) : Int)) (h : Same G H) {Q : VK} (k : Gives T G H (fun G' v => IsFr K G' v (Rat.divInt p q)) Q) {a : Addr} (ha : H a = none) : Q (.ref a) (upd H a (.tup [.int (p / g), .int (q / g)])) := by
  subst hg
  rw [low_num hq, low_den hq]
  exact k _ _ _ (Ext.new h ha (by intro ps z; cases z)) ⟨a, rfl, SqT.of upd_same⟩
theorem gcd_pos {p q : Int} (hq : 0 < q) : 0 < ((Nat.gcd p.natAbs q.natAbs : Nat) : Int) := by
  have : 0 < Nat.gcd p.natAbs q.natAbs := Nat.gcd_pos_of_pos_right _ (by omega)
  omega
theorem gcd_lt {p q : Int} {n : Nat} (hq : 0 < q) (h : q.natAbs < 2 ^ n) : (((Nat.gcd p.natAbs q.natAbs : Nat) : Int)).natAbs < 2 ^ n := by
  have : Nat.gcd p.natAbs q.natAbs ≤ q.natAbs := Nat.gcd_le_right _ (by omega)
  omega
/-! ### lowest -/
theorem sc_lowest : FnScope ["p", "q", "divisor"] ["p", "q"] (defScope (topS 7)) := ⟨rfl, rfl, rfl, by decide +kernel, rfl, by decide +kernel, by decide +kernel⟩
theorem ok_lowest (D : Def K mg "lowest" (topS 7) ["p", "q"]) (N : Nm K mg) : Cal P w K mg base 1 "lowest" ["p", "q"] (spLow T K) := by
  refine D.ok sc_lowest (fun vs H Q E h => ?_) (fun f cdv A outer s H vs Q E hr h => ?_)
  · obtain ⟨G, p, q, rfl, _⟩ := h
    rfl
  · obtain ⟨G, p, q, rfl, hs, hq, hb, k⟩ := h
    refine ⟨_, pss_cons (ps_if (pt_cmpR op_eq (pv 1) pe_int (nomark _)) (pss_one ps_never) pss_nil)
      (pss_cons (ps_set (i := 2) sc_lowest.nd rfl (.inl rfl) (pe_callBfun cr_gcd (by rfl) N.gcd (pa_cons (pv 0) (pa_cons (pv 1) pa_nil))))
      (pss_cons (ps_if (pt_cmpR op_lt (pv 1) pe_int (nomark _)) (pss_one ps_never) pss_nil)
      (pss_one (ps_ret (pe_tup (pa_cons (pe_op op_fdivW (pv 0) (pv 2)) (pa_cons (pe_op op_fdivW (pv 1) (pv 2)) pa_nil))))))), ?_⟩
    refine ⟨_, rfl, rfl, _, rfl, ite2 (fun e => ?_) (fun _ => ?_)⟩
    · have := V.int.inj (of_decide_eq_true e)
      omega
    refine ⟨_, rfl, _, rfl, p, q, rfl, ?_⟩
    refine ⟨_, rfl, _, _, rfl, rfl, _, rfl, ite2 (fun e => ?_) (fun _ => ?_)⟩
    · have := of_decide_eq_true e
      omega
    have h1 := gcd_pos (p := p) hq
    have h2 := gcd_lt (p := p) hq hb
    refine ⟨_, rfl, _, rfl, _, _, rfl, rfl, wide_div h1 h2 (by decide) (by decide), _, rfl, _, rfl, _, _, rfl, rfl, wide_div h1 h2 (by decide) (by decide), (by show 2 ≤ sizeLine; decide), fun a ha => ?_⟩
    exact fr_new hq rfl hs k ha
/-! ### the law's own: by Euclid's turns -/
theorem sc_low : FnScope ["_law_p", "_law_q", "_law_first", "_law_second", "_law_turn"] ["_law_p", "_law_q"] (defScope (topS 39)) := ⟨rfl, rfl, rfl, by decide +kernel, rfl, by decide +kernel, by decide +kernel⟩
theorem ok_low (D : Def K mg "_law_low" (topS 39) ["_law_p", "_law_q"]) (N : Nm K mg) : Cal P w K mg base 1 "_law_low" ["_law_p", "_law_q"] (spLow T K) := by
  refine D.ok sc_low (fun vs H Q E h => ?_) (fun f cdv A outer s H vs Q E hr h => ?_)
  · obtain ⟨G, p, q, rfl, _⟩ := h
    rfl
  · obtain ⟨G, p, q, rfl, hs, hq, hb, k⟩ := h
    refine ⟨_, pss_cons (ps_par (i := 2) (j := 3) (by rfl) sc_low.nd rfl rfl (by decide) rfl rfl (pa_cons (pe_callB call_abs (by rfl) N.abs (by decide +kernel) (pa_cons (pv 0) pa_nil)) (pa_cons (pv 1) pa_nil)) (by rfl))
      (pss_cons (ps_for PassesOwn.never rfl (pi_range1 (by rfl) N.range (pa_cons pe_int pa_nil)) (pg_name (i := 4) sc_low.nd rfl (.inl rfl))
        (pss_cons (ps_if (pt_cmpR op_eq (pv 3) pe_int (nomark _)) (pss_one ps_break) pss_nil)
        (pss_one (ps_par (i := 2) (j := 3) (by rfl) sc_low.nd rfl rfl (by decide) rfl rfl (pa_cons (pv 3) (pa_cons (pe_op op_modN (pe_callTy call_int1 (by rfl) N.int (by decide +kernel) (pa_cons (pv 2) pa_nil)) (pv 3)) pa_nil)) (by rfl)))))
      (pss_one (ps_ret (pe_tup (pa_cons (pe_op op_fdivW (pv 0) (pv 2)) (pa_cons (pe_op op_fdivW (pv 1) (pv 2)) pa_nil)))))), ?_⟩
    refine ⟨_, rfl, p, rfl, _, rfl, _, _, rfl, ?_⟩
    have hab : (if p < 0 then -p else p) = ((p.natAbs : Nat) : Int) := by split <;> omega
    have hqn : q = ((q.natAbs : Nat) : Int) := by omega
    -- behind the loop
    have fin : ∀ (σ : L2.St) (H' : Hp), (∃ (a : Nat) (y4 : Option V), σ = [some (.int p), some (.int q), some (.int (a : Int)), some (.int 0), y4] ∧ a = Nat.gcd p.natAbs q.natAbs ∧ H' = H) →
        tRet (tTup (tCons (tOp (rI CDivW fun i j => .int (i / j)) (tVar 0) (tVar 2)) (tCons (tOp (rI CDivW fun i j => .int (i / j)) (tVar 1) (tVar 2)) tNil))) { nx := fun _ H' => Q .non H', rt := Q } σ H' := by
      rintro σ H' ⟨a, y4, rfl, ea, rfl⟩
      have h1 := gcd_pos (p := p) hq
      have h2 := gcd_lt (p := p) hq hb
      rw [← ea] at h1 h2
      refine ⟨_, rfl, _, rfl, _, _, rfl, rfl, wide_div h1 h2 (by decide) (by decide), _, rfl, _, rfl, _, _, rfl, rfl, wide_div h1 h2 (by decide) (by decide), (by show 2 ≤ sizeLine; decide), fun b hb' => ?_⟩
      exact fr_new hq (by rw [ea]) hs k hb'
    refine ⟨4000, rfl, by decide, by decide, for_range (lo := 0) (n := 4000) (fun i σ H' => ∃ (a b : Nat) (y4 : Option V), σ = [some (.int p), some (.int q), some (.int (a : Int)), some (.int (b : Int)), y4] ∧ Nat.gcd a b = Nat.gcd p.natAbs q.natAbs ∧ turns a b ≤ 4000 - i ∧ H' = H)
      ⟨p.natAbs, q.natAbs, none, ?_, rfl, ?_, rfl⟩ (fun i σ H' hi hP => ?_) (fun σ H' hP => ?_)⟩
    · rw [hab, ← hqn]
      rfl
    · have := turns_le 1900 p.natAbs q.natAbs hb
      omega
    · obtain ⟨a, b, y4, rfl, hg, ht, rfl⟩ := hP
      refine ⟨_, rfl, rfl, _, rfl, ite2 (fun e => ?_) (fun e => ?_)⟩
      · have e0 : (b : Int) = 0 := V.int.inj (of_decide_eq_true e)
        have b0 : b = 0 := by omega
        subst b0
        rw [Nat.gcd_zero_right] at hg
        exact fin _ _ ⟨a, _, rfl, hg, rfl⟩
      · have hb0 : b ≠ 0 := fun z => e (decide_eq_true (by rw [z]; rfl))
        refine ⟨_, rfl, _, rfl, .inl ⟨_, rfl, _, rfl, _, _, rfl, rfl, (by omega), _, _, rfl, ?_⟩⟩
        have em : (a : Int).fmod (b : Int) = ((a % b : Nat) : Int) := by
          rw [Int.fmod_eq_emod_of_nonneg _ (by omega)]
          omega
        refine ⟨b, a % b, some (.int (0 + (i : Int))), ?_, (gcd_step a b).trans hg, ?_, rfl⟩
        · show [some (V.int p), some (V.int q), some (V.int (b : Int)), some (V.int ((a : Int).fmod (b : Int))), some (V.int (0 + (i : Int)))] = _
          rw [em]
        · rw [turns_pos hb0] at ht
          omega
    · obtain ⟨a, b, y4, rfl, hg, ht, rfl⟩ := hP
      have b0 : b = 0 := turns_none (by omega)
      subst b0
      rw [Nat.gcd_zero_right] at hg
      exact fin _ _ ⟨a, _, rfl, hg, rfl⟩
/-! ### the program's -/
theorem sc_plus : FnScope ["a", "b"] ["a", "b"] (defScope (topS 8)) := ⟨rfl, rfl, rfl, by decide +kernel, rfl, by decide +kernel, by decide +kernel⟩
theorem ok_plus (D : Def K mg "plus" (topS 8) ["a", "b"]) (C : Cal P w K mg base 1 "lowest" ["p", "q"] (spLow T K)) : Cal P w K mg base 2 "plus" ["a", "b"] (spBin T K okAny fun x y => x + y) := by
  refine D.ok sc_plus (fun vs H Q E h => ?_) (fun f cdv A outer s H vs Q E hr h => ?_)
  · obtain ⟨G, a, b, x, y, rfl, _⟩ := h
    rfl
  · obtain ⟨G, a, b, x, y, rfl, hs, ha, hb, hx, hy, hok, k⟩ := h
    refine ⟨_, pss_one (ps_ret (C.pe hr (by rfl) (pa_cons (pe_op op_add (pe_op op_mulW (pe_ix ix_tup (pv 0) pe_int (fun _ _ => rfl)) (pe_ix ix_tup (pv 1) pe_int (fun _ _ => rfl))) (pe_op op_mulW (pe_ix ix_tup (pv 1) pe_int (fun _ _ => rfl)) (pe_ix ix_tup (pv 0) pe_int (fun _ _ => rfl)))) (pa_cons (pe_op op_mulW (pe_ix ix_tup (pv 0) pe_int (fun _ _ => rfl)) (pe_ix ix_tup (pv 1) pe_int (fun _ _ => rfl))) pa_nil)))), ?_⟩
    refine fr0 rfl (ha.of hs) (fr1 rfl (hb.of hs) ⟨_, _, rfl, rfl, wide_mul hx.num hy.den (by decide) (by decide) (by decide), fr0 rfl (hb.of hs) (fr1 rfl (ha.of hs) ⟨_, _, rfl, rfl, wide_mul hy.num hx.den (by decide) (by decide) (by decide), _, _, rfl, rfl,
      fr1 rfl (ha.of hs) (fr1 rfl (hb.of hs) ⟨_, _, rfl, rfl, wide_mul hx.den hy.den (by decide) (by decide) (by decide), ?_⟩)⟩)⟩)
    refine ⟨G, _, _, rfl, hs, den_mul_pos x y, Nat.lt_of_lt_of_le (abs_mul_lt hx.den hy.den) (Nat.pow_le_pow_right (by decide) (by decide)), fun v G' H' e r => k v G' H' e ?_⟩
    rw [plus_val] at r
    exact r

theorem sc_minus : FnScope ["a", "b"] ["a", "b"] (defScope (topS 9)) := ⟨rfl, rfl, rfl, by decide +kernel, rfl, by decide +kernel, by decide +kernel⟩
theorem ok_minus (D : Def K mg "minus" (topS 9) ["a", "b"]) (C : Cal P w K mg base 1 "lowest" ["p", "q"] (spLow T K)) : Cal P w K mg base 2 "minus" ["a", "b"] (spBin T K okAny fun x y => x - y) := by
  refine D.ok sc_minus (fun vs H Q E h => ?_) (fun f cdv A outer s H vs Q E hr h => ?_)
  · obtain ⟨G, a, b, x, y, rfl, _⟩ := h
    rfl
  · obtain ⟨G, a, b, x, y, rfl, hs, ha, hb, hx, hy, hok, k⟩ := h
    refine ⟨_, pss_one (ps_ret (C.pe hr (by rfl) (pa_cons (pe_op op_sub (pe_op op_mulW (pe_ix ix_tup (pv 0) pe_int (fun _ _ => rfl)) (pe_ix ix_tup (pv 1) pe_int (fun _ _ => rfl))) (pe_op op_mulW (pe_ix ix_tup (pv 1) pe_int (fun _ _ => rfl)) (pe_ix ix_tup (pv 0) pe_int (fun _ _ => rfl)))) (pa_cons (pe_op op_mulW (pe_ix ix_tup (pv 0) pe_int (fun _ _ => rfl)) (pe_ix ix_tup (pv 1) pe_int (fun _ _ => rfl))) pa_nil)))), ?_⟩
    refine fr0 rfl (ha.of hs) (fr1 rfl (hb.of hs) ⟨_, _, rfl, rfl, wide_mul hx.num hy.den (by decide) (by decide) (by decide), fr0 rfl (hb.of hs) (fr1 rfl (ha.of hs) ⟨_, _, rfl, rfl, wide_mul hy.num hx.den (by decide) (by decide) (by decide), _, _, rfl, rfl,
      fr1 rfl (ha.of hs) (fr1 rfl (hb.of hs) ⟨_, _, rfl, rfl, wide_mul hx.den hy.den (by decide) (by decide) (by decide), ?_⟩)⟩)⟩)
    refine ⟨G, _, _, rfl, hs, den_mul_pos x y, Nat.lt_of_lt_of_le (abs_mul_lt hx.den hy.den) (Nat.pow_le_pow_right (by decide) (by decide)), fun v G' H' e r => k v G' H' e ?_⟩
    rw [minus_val] at r
    exact r

theorem sc_times : FnScope ["a", "b"] ["a", "b"] (defScope (topS 10)) := ⟨rfl, rfl, rfl, by decide +kernel, rfl, by decide +kernel, by decide +kernel⟩
theorem ok_times (D : Def K mg "times" (topS 10) ["a", "b"]) (C : Cal P w K mg base 1 "lowest" ["p", "q"] (spLow T K)) : Cal P w K mg base 2 "times" ["a", "b"] (spBin T K okAny fun x y => x * y) := by
  refine D.ok sc_times (fun vs H Q E h => ?_) (fun f cdv A outer s H vs Q E hr h => ?_)
  · obtain ⟨G, a, b, x, y, rfl, _⟩ := h
    rfl
  · obtain ⟨G, a, b, x, y, rfl, hs, ha, hb, hx, hy, hok, k⟩ := h
    refine ⟨_, pss_one (ps_ret (C.pe hr (by rfl) (pa_cons (pe_op op_mulW (pe_ix ix_tup (pv 0) pe_int (fun _ _ => rfl)) (pe_ix ix_tup (pv 1) pe_int (fun _ _ => rfl))) (pa_cons (pe_op op_mulW (pe_ix ix_tup (pv 0) pe_int (fun _ _ => rfl)) (pe_ix ix_tup (pv 1) pe_int (fun _ _ => rfl))) pa_nil)))), ?_⟩
    refine fr0 rfl (ha.of hs) (fr0 rfl (hb.of hs) ⟨_, _, rfl, rfl, wide_mul hx.num hy.num (by decide) (by decide) (by decide),
      fr1 rfl (ha.of hs) (fr1 rfl (hb.of hs) ⟨_, _, rfl, rfl, wide_mul hx.den hy.den (by decide) (by decide) (by decide), ?_⟩)⟩)
    refine ⟨G, _, _, rfl, hs, den_mul_pos x y, Nat.lt_of_lt_of_le (abs_mul_lt hx.den hy.den) (Nat.pow_le_pow_right (by decide) (by decide)), fun v G' H' e r => k v G' H' e ?_⟩
    rw [times_val] at r
    exact r

theorem sc_over : FnScope ["a", "b"] ["a", "b"] (defScope (topS 11)) := ⟨rfl, rfl, rfl, by decide +kernel, rfl, by decide +kernel, by decide +kernel⟩
theorem ok_over (D : Def K mg "over" (topS 11) ["a", "b"]) (C : Cal P w K mg base 1 "lowest" ["p", "q"] (spLow T K)) : Cal P w K mg base 2 "over" ["a", "b"] (spBin T K okPos fun x y => x / y) := by
  refine D.ok sc_over (fun vs H Q E h => ?_) (fun f cdv A outer s H vs Q E hr h => ?_)
  · obtain ⟨G, a, b, x, y, rfl, _⟩ := h
    rfl
  · obtain ⟨G, a, b, x, y, rfl, hs, ha, hb, hx, hy, hok, k⟩ := h
    refine ⟨_, pss_one (ps_ret (C.pe hr (by rfl) (pa_cons (pe_op op_mulW (pe_ix ix_tup (pv 0) pe_int (fun _ _ => rfl)) (pe_ix ix_tup (pv 1) pe_int (fun _ _ => rfl))) (pa_cons (pe_op op_mulW (pe_ix ix_tup (pv 0) pe_int (fun _ _ => rfl)) (pe_ix ix_tup (pv 1) pe_int (fun _ _ => rfl))) pa_nil)))), ?_⟩
    refine fr0 rfl (ha.of hs) (fr1 rfl (hb.of hs) ⟨_, _, rfl, rfl, wide_mul hx.num hy.den (by decide) (by decide) (by decide),
      fr1 rfl (ha.of hs) (fr0 rfl (hb.of hs) ⟨_, _, rfl, rfl, wide_mul hx.den hy.num (by decide) (by decide) (by decide), ?_⟩)⟩)
    refine ⟨G, _, _, rfl, hs, over_pos x y hok, Nat.lt_of_lt_of_le (abs_mul_lt hx.den hy.num) (Nat.pow_le_pow_right (by decide) (by decide)), fun v G' H' e r => k v G' H' e ?_⟩
    rw [over_val x y hok] at r
    exact r

theorem sc_less : FnScope ["a", "b"] ["a", "b"] (defScope (topS 12)) := ⟨rfl, rfl, rfl, by decide +kernel, rfl, by decide +kernel, by decide +kernel⟩
theorem ok_less (D : Def K mg "less" (topS 12) ["a", "b"]) : Cal P w K mg base 1 "less" ["a", "b"] (spLess K) := by
  refine D.ok sc_less (fun vs H Q E h => ?_) (fun f cdv A outer s H vs Q E hr h => ?_)
  · obtain ⟨G, a, b, x, y, rfl, _⟩ := h
    rfl
  · obtain ⟨G, a, b, x, y, rfl, hs, ha, hb, hx, hy, k⟩ := h
    refine ⟨_, pss_one (ps_ret (pe_cmpR op_lt (pe_op op_mulW (pe_ix ix_tup (pv 0) pe_int (fun _ _ => rfl)) (pe_ix ix_tup (pv 1) pe_int (fun _ _ => rfl))) (pe_op op_mulW (pe_ix ix_tup (pv 1) pe_int (fun _ _ => rfl)) (pe_ix ix_tup (pv 0) pe_int (fun _ _ => rfl))) (nomark _))), ?_⟩
    refine fr0 rfl (ha.of hs) (fr1 rfl (hb.of hs) ⟨_, _, rfl, rfl, wide_mul hx.num hy.den (by decide) (by decide) (by decide), fr0 rfl (hb.of hs) (fr1 rfl (ha.of hs) ⟨_, _, rfl, rfl, wide_mul hy.num hx.den (by decide) (by decide) (by decide), _, _, rfl, rfl, ?_⟩)⟩)
    show Q (V.bl (decide (x.num * (y.den : Int) < y.num * (x.den : Int)))) H
    rw [less_val]
    exact k
/-! ### the law's -/
theorem sc_law_plus : FnScope ["_law_one", "_law_other"] ["_law_one", "_law_other"] (defScope (topS 40)) := ⟨rfl, rfl, rfl, by decide +kernel, rfl, by decide +kernel, by decide +kernel⟩
theorem ok_law_plus (D : Def K mg "_law_plus" (topS 40) ["_law_one", "_law_other"]) (C : Cal P w K mg base 1 "_law_low" ["_law_p", "_law_q"] (spLow T K)) : Cal P w K mg base 2 "_law_plus" ["_law_one", "_law_other"] (spBin T K okAny fun x y => x + y) := by
  refine D.ok sc_law_plus (fun vs H Q E h => ?_) (fun f cdv A outer s H vs Q E hr h => ?_)
  · obtain ⟨G, a, b, x, y, rfl, _⟩ := h
    rfl
  · obtain ⟨G, a, b, x, y, rfl, hs, ha, hb, hx, hy, hok, k⟩ := h
    refine ⟨_, pss_one (ps_ret (C.pe hr (by rfl) (pa_cons (pe_op op_add (pe_op op_mulW (pe_ix ix_tup (pv 0) pe_int (fun _ _ => rfl)) (pe_ix ix_tup (pv 1) pe_int (fun _ _ => rfl))) (pe_op op_mulW (pe_ix ix_tup (pv 1) pe_int (fun _ _ => rfl)) (pe_ix ix_tup (pv 0) pe_int (fun _ _ => rfl)))) (pa_cons (pe_op op_mulW (pe_ix ix_tup (pv 0) pe_int (fun _ _ => rfl)) (pe_ix ix_tup (pv 1) pe_int (fun _ _ => rfl))) pa_nil)))), ?_⟩
    refine fr0 rfl (ha.of hs) (fr1 rfl (hb.of hs) ⟨_, _, rfl, rfl, wide_mul hx.num hy.den (by decide) (by decide) (by decide), fr0 rfl (hb.of hs) (fr1 rfl (ha.of hs) ⟨_, _, rfl, rfl, wide_mul hy.num hx.den (by decide) (by decide) (by decide), _, _, rfl, rfl,
      fr1 rfl (ha.of hs) (fr1 rfl (hb.of hs) ⟨_, _, rfl, rfl, wide_mul hx.den hy.den (by decide) (by decide) (by decide), ?_⟩)⟩)⟩)
    refine ⟨G, _, _, rfl, hs, den_mul_pos x y, Nat.lt_of_lt_of_le (abs_mul_lt hx.den hy.den) (Nat.pow_le_pow_right (by decide) (by decide)), fun v G' H' e r => k v G' H' e ?_⟩
    rw [plus_val] at r
    exact r

theorem sc_law_minus : FnScope ["_law_one", "_law_other"] ["_law_one", "_law_other"] (defScope (topS 41)) := ⟨rfl, rfl, rfl, by decide +kernel, rfl, by decide +kernel, by decide +kernel⟩
theorem ok_law_minus (D : Def K mg "_law_minus" (topS 41) ["_law_one", "_law_other"]) (C : Cal P w K mg base 1 "_law_low" ["_law_p", "_law_q"] (spLow T K)) : Cal P w K mg base 2 "_law_minus" ["_law_one", "_law_other"] (spBin T K okAny fun x y => x - y) := by
  refine D.ok sc_law_minus (fun vs H Q E h => ?_) (fun f cdv A outer s H vs Q E hr h => ?_)
  · obtain ⟨G, a, b, x, y, rfl, _⟩ := h
    rfl
  · obtain ⟨G, a, b, x, y, rfl, hs, ha, hb, hx, hy, hok, k⟩ := h
    refine ⟨_, pss_one (ps_ret (C.pe hr (by rfl) (pa_cons (pe_op op_sub (pe_op op_mulW (pe_ix ix_tup (pv 0) pe_int (fun _ _ => rfl)) (pe_ix ix_tup (pv 1) pe_int (fun _ _ => rfl))) (pe_op op_mulW (pe_ix ix_tup (pv 1) pe_int (fun _ _ => rfl)) (pe_ix ix_tup (pv 0) pe_int (fun _ _ => rfl)))) (pa_cons (pe_op op_mulW (pe_ix ix_tup (pv 0) pe_int (fun _ _ => rfl)) (pe_ix ix_tup (pv 1) pe_int (fun _ _ => rfl))) pa_nil)))), ?_⟩
    refine fr0 rfl (ha.of hs) (fr1 rfl (hb.of hs) ⟨_, _, rfl, rfl, wide_mul hx.num hy.den (by decide) (by decide) (by decide), fr0 rfl (hb.of hs) (fr1 rfl (ha.of hs) ⟨_, _, rfl, rfl, wide_mul hy.num hx.den (by decide) (by decide) (by decide), _, _, rfl, rfl,
      fr1 rfl (ha.of hs) (fr1 rfl (hb.of hs) ⟨_, _, rfl, rfl, wide_mul hx.den hy.den (by decide) (by decide) (by decide), ?_⟩)⟩)⟩)
    refine ⟨G, _, _, rfl, hs, den_mul_pos x y, Nat.lt_of_lt_of_le (abs_mul_lt hx.den hy.den) (Nat.pow_le_pow_right (by decide) (by decide)), fun v G' H' e r => k v G' H' e ?_⟩
    rw [minus_val] at r
    exact r

theorem sc_law_times : FnScope ["_law_one", "_law_other"] ["_law_one", "_law_other"] (defScope (topS 42)) := ⟨rfl, rfl, rfl, by decide +kernel, rfl, by decide +kernel, by decide +kernel⟩
theorem ok_law_times (D : Def K mg "_law_times" (topS 42) ["_law_one", "_law_other"]) (C : Cal P w K mg base 1 "_law_low" ["_law_p", "_law_q"] (spLow T K)) : Cal P w K mg base 2 "_law_times" ["_law_one", "_law_other"] (spBin T K okAny fun x y => x * y) := by
  refine D.ok sc_law_times (fun vs H Q E h => ?_) (fun f cdv A outer s H vs Q E hr h => ?_)
  · obtain ⟨G, a, b, x, y, rfl, _⟩ := h
    rfl
  · obtain ⟨G, a, b, x, y, rfl, hs, ha, hb, hx, hy, hok, k⟩ := h
    refine ⟨_, pss_one (ps_ret (C.pe hr (by rfl) (pa_cons (pe_op op_mulW (pe_ix ix_tup (pv 0) pe_int (fun _ _ => rfl)) (pe_ix ix_tup (pv 1) pe_int (fun _ _ => rfl))) (pa_cons (pe_op op_mulW (pe_ix ix_tup (pv 0) pe_int (fun _ _ => rfl)) (pe_ix ix_tup (pv 1) pe_int (fun _ _ => rfl))) pa_nil)))), ?_⟩
    refine fr0 rfl (ha.of hs) (fr0 rfl (hb.of hs) ⟨_, _, rfl, rfl, wide_mul hx.num hy.num (by decide) (by decide) (by decide),
      fr1 rfl (ha.of hs) (fr1 rfl (hb.of hs) ⟨_, _, rfl, rfl, wide_mul hx.den hy.den (by decide) (by decide) (by decide), ?_⟩)⟩)
    refine ⟨G, _, _, rfl, hs, den_mul_pos x y, Nat.lt_of_lt_of_le (abs_mul_lt hx.den hy.den) (Nat.pow_le_pow_right (by decide) (by decide)), fun v G' H' e r => k v G' H' e ?_⟩
    rw [times_val] at r
    exact r

theorem sc_law_less : FnScope ["_law_one", "_law_other"] ["_law_one", "_law_other"] (defScope (topS 43)) := ⟨rfl, rfl, rfl, by decide +kernel, rfl, by decide +kernel, by decide +kernel⟩
theorem ok_law_less (D : Def K mg "_law_less" (topS 43) ["_law_one", "_law_other"]) : Cal P w K mg base 1 "_law_less" ["_law_one", "_law_other"] (spLess K) := by
  refine D.ok sc_law_less (fun vs H Q E h => ?_) (fun f cdv A outer s H vs Q E hr h => ?_)
  · obtain ⟨G, a, b, x, y, rfl, _⟩ := h
    rfl
  · obtain ⟨G, a, b, x, y, rfl, hs, ha, hb, hx, hy, k⟩ := h
    refine ⟨_, pss_one (ps_ret (pe_cmpR op_lt (pe_op op_mulW (pe_ix ix_tup (pv 0) pe_int (fun _ _ => rfl)) (pe_ix ix_tup (pv 1) pe_int (fun _ _ => rfl))) (pe_op op_mulW (pe_ix ix_tup (pv 1) pe_int (fun _ _ => rfl)) (pe_ix ix_tup (pv 0) pe_int (fun _ _ => rfl))) (nomark _))), ?_⟩
    refine fr0 rfl (ha.of hs) (fr1 rfl (hb.of hs) ⟨_, _, rfl, rfl, wide_mul hx.num hy.den (by decide) (by decide) (by decide), fr0 rfl (hb.of hs) (fr1 rfl (ha.of hs) ⟨_, _, rfl, rfl, wide_mul hy.num hx.den (by decide) (by decide) (by decide), _, _, rfl, rfl, ?_⟩)⟩)
    show Q (V.bl (decide (x.num * (y.den : Int) < y.num * (x.den : Int)))) H
    rw [less_val]
    exact k
end K36

set_option Elab.async false
set_option autoImplicit false
set_option linter.all false
set_option maxRecDepth 100000
set_option maxHeartbeats 4000000
/-! Sums, comprehensions that change nothing, moments. -/
namespace K36
open PySem PySem.Spec PyProof.Rows L2
/-! ### plain -/
theorem take_one {α : Type} {xs : List α} {i : Nat} {y : α} (h : xs[i]? = some y) : xs.take (i + 1) = xs.take i ++ [y] := by
  rw [List.take_add_one, h]
  rfl
theorem sm_take {α : Type} {xs : List α} {i : Nat} {y : α} (h : xs[i]? = some y) (f : α → Rat) : sm (xs.take (i + 1)) f = sm (xs.take i) f + f y := by
  rw [take_one h, sm_append, sm_one]
theorem Bd.sml {D M a b : Nat} {x : Rat} (h : Bd D M x) (hD : D ≤ 2 ^ a) (hM : M ≤ 2 ^ b) (hab : a + b ≤ 898) : Sm x :=
  h.small (a := a + 1) (b := b + 1) (Nat.lt_of_le_of_lt hD (Nat.pow_lt_pow_right (by decide) (by omega))) (Nat.lt_of_le_of_lt hM (Nat.pow_lt_pow_right (by decide) (by omega))) (by omega)
theorem pow_mul_le {a b m n : Nat} (ha : a ≤ 2 ^ m) (hb : b ≤ 2 ^ n) : a * b ≤ 2 ^ (m + n) := by
  rw [Nat.pow_add]
  exact Nat.mul_le_mul ha hb
theorem Bd.pos {D M : Nat} {x : Rat} (h : Bd D M x) : 0 < D := h.1
theorem take_bd {α : Type} {D M : Nat} {xs : List α} {f : α → Rat} (hD : 0 < D) (h : ∀ a ∈ xs, Bd D M (f a)) (i : Nat) : Bd D (xs.length * M) (sm (xs.take i) f) := by
  have h1 := Bd.sm hD (fun a ha => h a (List.mem_of_mem_take ha)) (l := xs.take i) (f := f)
  refine h1.mono (Nat.mul_le_mul_right M ?_)
  rw [List.length_take]
  exact Nat.min_le_right _ _
structure MomOk (rows : List (Rat × Rat)) : Prop where
  len : rows.length ≤ 1024
  bd : ∃ Pn Dc : Nat, 0 < Pn ∧ 0 < Dc ∧ Pn ≤ 2 ^ 60 ∧ Dc ≤ 2 ^ 80 ∧ ∀ r ∈ rows, Bd Pn (2 ^ 40) r.1 ∧ Bd Dc 1 r.2
/-- the sizes on the way to the moments -/
structure MomSz (rows : List (Rat × Rat)) : Prop where
  n : ∀ r ∈ rows, Sm r.1
  c : ∀ r ∈ rows, Sm r.2
  p : ∀ r ∈ rows, Sm (r.1 * r.2)
  s : ∀ i, Sm (sm (rows.take i) (fun r => r.1 * r.2))
  a : ∀ r ∈ rows, Sm (r.1 - avg rows)
  q : ∀ r ∈ rows, Sm ((r.1 - avg rows) * (r.1 - avg rows))
  m : ∀ r ∈ rows, Sm (r.2 * ((r.1 - avg rows) * (r.1 - avg rows)))
  v : ∀ i, Sm (sm (rows.take i) (fun r => r.2 * ((r.1 - avg rows) * (r.1 - avg rows))))
theorem MomOk.avg_bd {rows : List (Rat × Rat)} (h : MomOk rows) : ∃ D, 0 < D ∧ D ≤ 2 ^ 140 ∧ Bd D (2 ^ 50) (avg rows) := by
  obtain ⟨Pn, Dc, p1, p2, l1, l2, hb⟩ := h.bd
  have hp : ∀ r ∈ rows, Bd (Pn * Dc) (2 ^ 40) (r.1 * r.2) := fun r hr => by
    have := (hb r hr).1.mul (hb r hr).2
    exact this.mono (by omega)
  refine ⟨Pn * Dc, Nat.mul_pos p1 p2, pow_mul_le l1 l2, (Bd.sm (Nat.mul_pos p1 p2) hp).mono ?_⟩
  have := h.len
  have e : (2 : Nat) ^ 50 = 1024 * 2 ^ 40 := by decide
  rw [e]
  exact Nat.mul_le_mul_right _ this
theorem MomOk.sz {rows : List (Rat × Rat)} (h : MomOk rows) : MomSz rows := by
  obtain ⟨Pn, Dc, p1, p2, l1, l2, hb⟩ := h.bd
  have hl := h.len
  have pD : 0 < Pn * Dc := Nat.mul_pos p1 p2
  have lD : Pn * Dc ≤ 2 ^ 140 := pow_mul_le l1 l2
  have hp : ∀ r ∈ rows, Bd (Pn * Dc) (2 ^ 40) (r.1 * r.2) := fun r hr => by
    have := (hb r hr).1.mul (hb r hr).2
    exact this.mono (by omega)
  have e50 : (2 : Nat) ^ 50 = 1024 * 2 ^ 40 := by decide
  have hs : ∀ i, Bd (Pn * Dc) (2 ^ 50) (sm (rows.take i) (fun r => r.1 * r.2)) := fun i => by
    refine (take_bd pD hp i).mono ?_
    rw [e50]
    exact Nat.mul_le_mul_right _ hl
  have havg : Bd (Pn * Dc) (2 ^ 50) (avg rows) := by
    have := hs rows.length
    rw [List.take_length] at this
    exact this
  have ha : ∀ r ∈ rows, Bd (Pn * Dc) (2 ^ 51) (r.1 - avg rows) := fun r hr =>
    (((hb r hr).1.up pD (Nat.dvd_mul_right _ _)).sub havg).mono (by decide)
  have hq : ∀ r ∈ rows, Bd (Pn * Dc * (Pn * Dc)) (2 ^ 102) ((r.1 - avg rows) * (r.1 - avg rows)) := fun r hr =>
    ((ha r hr).mul (ha r hr)).mono (by decide)
  have lQ : Pn * Dc * (Pn * Dc) ≤ 2 ^ 280 := pow_mul_le lD lD
  have hm : ∀ r ∈ rows, Bd (Dc * (Pn * Dc * (Pn * Dc))) (2 ^ 102) (r.2 * ((r.1 - avg rows) * (r.1 - avg rows))) := fun r hr =>
    ((hb r hr).2.mul (hq r hr)).mono (by decide)
  have lM : Dc * (Pn * Dc * (Pn * Dc)) ≤ 2 ^ 360 := pow_mul_le l2 lQ
  have pM : 0 < Dc * (Pn * Dc * (Pn * Dc)) := Nat.mul_pos p2 (Nat.mul_pos pD pD)
  have hv : ∀ i, Bd (Dc * (Pn * Dc * (Pn * Dc))) (2 ^ 112) (sm (rows.take i) (fun r => r.2 * ((r.1 - avg rows) * (r.1 - avg rows)))) := fun i => by
    refine (take_bd pM hm i).mono ?_
    have e : (2 : Nat) ^ 112 = 1024 * 2 ^ 102 := by decide
    rw [e]
    exact Nat.mul_le_mul_right _ hl
  exact ⟨fun r hr => (hb r hr).1.sml l1 (Nat.le_refl _) (by decide), fun r hr => (hb r hr).2.sml l2 (b := 0) (by decide) (by decide), fun r hr => (hp r hr).sml lD (Nat.le_refl _) (by decide),
    fun i => (hs i).sml lD (Nat.le_refl _) (by decide), fun r hr => (ha r hr).sml lD (Nat.le_refl _) (by decide), fun r hr => (hq r hr).sml lQ (Nat.le_refl _) (by decide),
    fun r hr => (hm r hr).sml lM (Nat.le_refl _) (by decide), fun i => (hv i).sml lM (Nat.le_refl _) (by decide)⟩

/-! ### walks -/
variable {P : Program} {w : World} {K : PySem.W.Frag} {mg : Str → Option Value} {base : Heap} {T : Tb}
/-- the constant (0, 1) of the module -/
def Zero (K : PySem.W.Frag) (mg : Str → Option Value) (x : Str) : Prop := ∃ c, mg x = some (.ref c) ∧ ∀ H, SqT K H c [.int 0, .int 1]
theorem zero_fr {H : Hp} {c : Addr} (h : SqT K H c [.int 0, .int 1]) : IsFr K H (.ref c) 0 := ⟨c, rfl, h⟩
theorem one_fr {H : Hp} {c : Addr} (h : SqT K H c [.int 1, .int 1]) : IsFr K H (.ref c) 1 := ⟨c, rfl, h⟩
def IsFrs (K : PySem.W.Frag) (G : Hp) (v : V) (xs : List Rat) : Prop := IsLs K (IsFr K G) G v xs
def IsRows (K : PySem.W.Frag) (G : Hp) (v : V) (xs : List (Rat × Rat)) : Prop := IsLs K (IsRow K G) G v xs
def spSum (T : Tb) (K : PySem.W.Frag) : Sp := fun vs H Q _ => ∃ (G : Hp) (a : V) (xs : List Rat), vs = [a] ∧ Same G H ∧ IsLs K (IsFr K G) H a xs ∧ (∀ x ∈ xs, Sm x) ∧ (∀ i, Sm (sm (xs.take i) id)) ∧ Gives T G H (fun G' v => IsFr K G' v (sm xs id)) Q
theorem sc_sum_of : FnScope ["fractions", "total", "fraction"] ["fractions"] (defScope (topS 13)) := ⟨rfl, rfl, rfl, by decide +kernel, rfl, by decide +kernel, by decide +kernel⟩
theorem ok_sum_of (D : Def K mg "sum_of" (topS 13) ["fractions"]) (Z : Zero K mg "NOTHING_ratios") (C : Cal P w K mg base 2 "plus" ["a", "b"] (spBin T K okAny fun x y => x + y)) : Cal P w K mg base 3 "sum_of" ["fractions"] (spSum T K) := by
  refine D.ok sc_sum_of (fun vs H Q E h => ?_) (fun f cdv A outer s H vs Q E hr h => ?_)
  · obtain ⟨G, a, xs, rfl, _⟩ := h
    rfl
  · obtain ⟨G, a, xs, rfl, hs, ⟨l, ws, rfl, hl, hp⟩, hx, hS, k⟩ := h
    obtain ⟨z, mz, hz⟩ := Z
    refine ⟨_, pss_cons (ps_set (i := 1) sc_sum_of.nd rfl (.inl rfl) (pe_glob (v := .ref z) (by rfl) mz rfl))
      (pss_cons (ps_for PassesOwn.never rfl (pi_list (pv 0)) (pg_name (i := 2) sc_sum_of.nd rfl (.inl rfl))
        (pss_one (ps_set (i := 1) sc_sum_of.nd rfl (.inl rfl) (C.pe hr (by rfl) (pa_cons (pv 1) (pa_cons (pv 2) pa_nil))))))
      (pss_one (ps_ret (pv 1)))), ?_⟩
    refine ⟨.ref l, rfl, l, rfl, ⟨_, hl⟩, for_list (K := K) (a := l) (xs := ws) (fun i σ H' => ∃ (G' : Hp) (v : V) (y : Option V), σ = [some (.ref l), some v, y] ∧ Ext T G H G' H' ∧ IsFr K G' v (sm (xs.take i) id))
      ⟨G, .ref z, none, rfl, Ext.refl hs, zero_fr (hz G)⟩ (fun i σ H' _ ⟨G', v, y, _, e, _⟩ => e.seq hl) (fun i x σ H' hi hP => ?_) (fun σ H' hP => ?_)⟩
    · obtain ⟨G', v, y, rfl, e, hv⟩ := hP
      obtain ⟨q, hq, hf⟩ := Paired.get' hp hi
      refine ⟨v, rfl, x, rfl, G', v, x, _, q, rfl, e.gh, hv, hf.of e.gg, hS i, hx q (List.mem_of_getElem? hq), trivial, fun v' G2 H2 e2 r2 => ?_⟩
      refine ⟨G2, v', some x, rfl, e.trans e2, ?_⟩
      rw [sm_take hq]
      exact r2
    · obtain ⟨G', v, y, rfl, e, hv⟩ := hP
      refine ⟨v, rfl, k v G' H' e ?_⟩
      have : ws.length = xs.length := hp.length
      rw [this, List.take_length] at hv
      exact hv
theorem sc_lsum : FnScope ["_law_rows", "_law_whole", "_law_one"] ["_law_rows"] (defScope (topS 44)) := ⟨rfl, rfl, rfl, by decide +kernel, rfl, by decide +kernel, by decide +kernel⟩
theorem ok_lsum (D : Def K mg "_law_sum" (topS 44) ["_law_rows"]) (C : Cal P w K mg base 2 "_law_plus" ["_law_one", "_law_other"] (spBin T K okAny fun x y => x + y)) : Cal P w K mg base 3 "_law_sum" ["_law_rows"] (spSum T K) := by
  refine D.ok sc_lsum (fun vs H Q E h => ?_) (fun f cdv A outer s H vs Q E hr h => ?_)
  · obtain ⟨G, a, xs, rfl, _⟩ := h
    rfl
  · obtain ⟨G, a, xs, rfl, hs, ⟨l, ws, rfl, hl, hp⟩, hx, hS, k⟩ := h
    refine ⟨_, pss_cons (ps_set (i := 1) sc_lsum.nd rfl (.inl rfl) (pe_tup (pa_cons pe_int (pa_cons pe_int pa_nil))))
      (pss_cons (ps_for PassesOwn.never rfl (pi_list (pv 0)) (pg_name (i := 2) sc_lsum.nd rfl (.inl rfl))
        (pss_one (ps_set (i := 1) sc_lsum.nd rfl (.inl rfl) (C.pe hr (by rfl) (pa_cons (pv 1) (pa_cons (pv 2) pa_nil))))))
      (pss_one (ps_ret (pv 1)))), ?_⟩
    refine ⟨(by show 2 ≤ sizeLine; decide), fun z nz => ?_⟩
    have e0 : Ext T G H (upd G z (.tup [.int 0, .int 1])) (upd H z (.tup [.int 0, .int 1])) := Ext.new hs nz (by intro ps q; cases q)
    refine ⟨.ref l, rfl, l, rfl, ⟨_, e0.seq hl⟩, for_list (K := K) (a := l) (xs := ws) (fun i σ H' => ∃ (G' : Hp) (v : V) (y : Option V), σ = [some (.ref l), some v, y] ∧ Ext T G H G' H' ∧ IsFr K G' v (sm (xs.take i) id))
      ⟨_, .ref z, none, rfl, e0, zero_fr (SqT.of upd_same)⟩ (fun i σ H' _ ⟨G', v, y, _, e, _⟩ => e.seq hl) (fun i x σ H' hi hP => ?_) (fun σ H' hP => ?_)⟩
    · obtain ⟨G', v, y, rfl, e, hv⟩ := hP
      obtain ⟨q, hq, hf⟩ := Paired.get' hp hi
      refine ⟨v, rfl, x, rfl, G', v, x, _, q, rfl, e.gh, hv, hf.of e.gg, hS i, hx q (List.mem_of_getElem? hq), trivial, fun v' G2 H2 e2 r2 => ?_⟩
      refine ⟨G2, v', some x, rfl, e.trans e2, ?_⟩
      rw [sm_take hq]
      exact r2
    · obtain ⟨G', v, y, rfl, e, hv⟩ := hP
      refine ⟨v, rfl, k v G' H' e ?_⟩
      have : ws.length = xs.length := hp.length
      rw [this, List.take_length] at hv
      exact hv
/-! ### a comprehension whose element gives out new things and changes nothing -/
theorem lc_pure {α β : Type} {G H : Hp} {a : Addr} {vs : List V} {xs : List α} {Pv : V → α → Prop} {R : Hp → V → β → Prop} {f : α → β} {g : TG} {te : TE} {own : List Nat} {σ : L2.St} {Qd : Addr → Hp → Prop}
    (hs : Same G H) (hl : SqL K G a vs) (hp : Paired Pv vs xs) (hn : vs.length ≤ 100000) (mono : ∀ (G G' : Hp) v y, Same G G' → R G v y → R G' v y)
    (turn : ∀ (i : Nat) (x : V) (y : α) (G' H' : Hp) (Qe : VK), xs[i]? = some y → Pv x y → Ext T G H G' H' → (∀ z G4 H4, Ext T G' H' G4 H4 → R G4 z (f y) → Qe z H4) → g x (wipe σ own) H' fun σ2 H2 => wipe σ2 own = wipe σ own ∧ te σ2 H2 Qe)
    (done : ∀ D G' H', Ext T G H G' H' → H D = none → IsLs K (R G') G' (.ref D) (xs.map f) → Qd D H') :
    ∀ D, H D = none → ∃ W : Nat → Nat → Hp → Prop, (∃ m, W 0 m (upd H D (.lst []))) ∧ ∀ i m H', W i m H' →
      ((Itl K a).stop i H' ∧ Qd D H') ∨ ((Itl K a).go i H' ∧ ∃ Nx : Hp → Prop, (∀ H'', Nx H'' → ∃ m', m' < m ∧ W (i + 1) m' H'') ∧ ∀ x H'', (Itl K a).yld i H' x H'' → g x (wipe σ own) H'' fun σ2 H2 => wipe σ2 own = wipe σ own ∧ tYes σ2 H2 fun b H3 =>
        if b = true then te σ2 H3 fun y H4 => ∃ acc, H4 D = some (.lst acc) ∧ acc.length < sizeLine ∧ Nx (upd H4 D (.lst (acc ++ [y]))) else Nx H3) := by
  intro D hD
  refine lc_list (K := K) (a := a) (xs := vs) (Qd := Qd D) (fun i H' => ∃ (G' : Hp) (ds : List V), Ext T G H G' H' ∧ H' D = some (.lst ds) ∧ G' D = none ∧ Paired (R G') ds ((xs.take i).map f))
    ⟨G, [], Ext.newM hs hD, upd_same, hs.free hD, .nil⟩ (fun i H' _ ⟨G', ds, e, _⟩ => (e.gg.trans e.gh).seq hl) (fun i x H' hi hP => ?_) (fun H' hP => ?_)
  · obtain ⟨G', ds, e, hd, hg, hr⟩ := hP
    obtain ⟨y, hy, hxy⟩ := Paired.get' hp hi
    refine turn i x y G' H' _ hy hxy e fun z G4 H4 e4 r4 => ?_
    have hd4 : H4 D = some (.lst ds) := e4.lists hd
    have hg4 : G4 D = none := e4.out hd hg
    have hi' : i < vs.length := (List.getElem?_eq_some_iff.mp hi).1
    have hlen : ds.length ≤ i := by
      rw [hr.length, List.length_map, List.length_take]
      exact Nat.min_le_left _ _
    refine ⟨ds, hd4, Nat.lt_of_le_of_lt (show ds.length ≤ 100000 by omega) (by decide), G4, ds ++ [z], (e.trans e4).write hd4 hD hg4, upd_same, hg4, ?_⟩
    rw [take_one hy, List.map_append]
    exact Paired.snoc (Paired.imp (fun v y q => mono _ _ v y e4.gg q) hr) r4
  · obtain ⟨G', ds, e, hd, hg, hr⟩ := hP
    have : vs.length = xs.length := hp.length
    rw [this, List.take_length] at hr
    refine done D _ H' (e.seal hd hD hg (by intro ps q; cases q)) hD ⟨D, ds, rfl, SqL.of upd_same, Paired.imp (fun v y q => mono _ _ v y (same_new hg) q) hr⟩
/-! ### moments -/
def spMom (T : Tb) (K : PySem.W.Frag) : Sp := fun vs H Q _ => ∃ (G : Hp) (a : V) (rows : List (Rat × Rat)), vs = [a] ∧ Same G H ∧ IsRows K G a rows ∧ MomOk rows ∧ Gives T G H (fun G' v => IsRow K G' v (avg rows, vari rows)) Q
theorem sc_mom : FnScope ["_law_rows", "_law_number", "_law_chance", "_law_middle", "_law_spread", "_law_away"] ["_law_rows"] (defScope (topS 48)) := ⟨rfl, rfl, rfl, by decide +kernel, rfl, by decide +kernel, by decide +kernel⟩
theorem ok_mom (D : Def K mg "_law_moments" (topS 48) ["_law_rows"]) (CS : Cal P w K mg base 3 "_law_sum" ["_law_rows"] (spSum T K)) (CP : Cal P w K mg base 3 "_law_plus" ["_law_one", "_law_other"] (spBin T K okAny fun x y => x + y))
    (CM : Cal P w K mg base 3 "_law_minus" ["_law_one", "_law_other"] (spBin T K okAny fun x y => x - y)) (CT : Cal P w K mg base 3 "_law_times" ["_law_one", "_law_other"] (spBin T K okAny fun x y => x * y)) : Cal P w K mg base 4 "_law_moments" ["_law_rows"] (spMom T K) := by
  refine D.ok sc_mom (fun vs H Q E h => ?_) (fun f cdv A outer s H vs Q E hr h => ?_)
  · obtain ⟨G, a, xs, rfl, _⟩ := h
    rfl
  · obtain ⟨G, a, rows, rfl, hs, ⟨l, ws, rfl, hl, hp⟩, ok, k⟩ := h
    have S := ok.sz
    have hlen : ws.length ≤ 100000 := by
      have := ok.len
      have := hp.length
      omega
    refine ⟨_, pss_cons (ps_set (i := 3) sc_mom.nd rfl (.inl rfl) (CS.pe hr (by rfl) (pa_cons
        (pe_lc (own := [("_law_number", 1), ("_law_chance", 2)]) (g := gTup K 2 (gCons (gName 1) (gCons (gName 2) gNil))) (tt := tYes) rfl sc_mom.nd (pi_list (pv 0)) (blkOk_by (N := ["_law_rows", "_law_number", "_law_chance", "_law_middle", "_law_spread", "_law_away"]) (sc := defScope (topS 48)) (by decide +kernel))
          (fun _ _ _ _ _ => pg_tup (by rfl) (pgs_cons (pg_name (i := 1) sc_mom.nd rfl (Or.inl rfl)) (pgs_cons (pg_name (i := 2) sc_mom.nd rfl (Or.inl rfl)) pgs_nil))) (fun _ _ _ _ _ => pts_nil)
          (fun _ _ _ _ _ => CT.pe hr (by rfl) (pa_cons (pv 1) (pa_cons (pv 2) pa_nil)))) pa_nil)))
      (pss_cons (ps_set (i := 4) sc_mom.nd rfl (.inl rfl) (pe_tup (pa_cons pe_int (pa_cons pe_int pa_nil))))
      (pss_cons (ps_for PassesOwn.never rfl (pi_list (pv 0)) (pg_tup rfl (pgs_cons (pg_name (i := 1) sc_mom.nd rfl (.inl rfl)) (pgs_cons (pg_name (i := 2) sc_mom.nd rfl (.inl rfl)) pgs_nil)))
        (pss_cons (ps_set (i := 5) sc_mom.nd rfl (.inl rfl) (CM.pe hr (by rfl) (pa_cons (pv 1) (pa_cons (pv 3) pa_nil))))
        (pss_one (ps_set (i := 4) sc_mom.nd rfl (.inl rfl) (CP.pe hr (by rfl) (pa_cons (pv 4) (pa_cons (CT.pe hr (by rfl) (pa_cons (pv 2) (pa_cons (CT.pe hr (by rfl) (pa_cons (pv 5) (pa_cons (pv 5) pa_nil))) pa_nil))) pa_nil)))))))
      (pss_one (ps_ret (pe_tup (pa_cons (pv 3) (pa_cons (pv 4) pa_nil))))))), ?_⟩
    -- middle
    refine ⟨.ref l, rfl, l, rfl, ⟨_, hs.seq hl⟩, lc_pure (T := T) (G := G) (vs := ws) (xs := rows) (R := fun G' v x => IsFr K G' v x) (f := fun r => r.1 * r.2) hs hl hp hlen (fun _ _ _ _ e q => q.of e)
      (fun i x y G' H' Qe hy hxy e k' => ?_) fun D G1 H1 e1 nD hD => ?_⟩
    · obtain ⟨t, v1, v2, rfl, ht, h1, h2⟩ := hxy
      have hm := List.mem_of_getElem? hy
      refine ⟨t, _, rfl, sameT (e.gg.trans e.gh) ht, rfl, v1, _, rfl, v2, _, rfl, rfl, rfl, v1, rfl, v2, rfl, G', v1, v2, y.1, y.2, rfl, e.gh, h1.of e.gg, h2.of e.gg, S.n _ hm, S.c _ hm, trivial, fun z G4 H4 e4 r4 => k' z G4 H4 e4 r4⟩
    have esm : sm (rows.map fun r => r.1 * r.2) id = avg rows := sm_map (fun r : Rat × Rat => r.1 * r.2) rows id
    refine ⟨G1, .ref D, _, rfl, e1.gh, hD.lift e1.gh, fun x hx => ?_, fun i => ?_, fun m G2 H2 e2 hm => ?_⟩
    · obtain ⟨r, hr', e⟩ := List.mem_map.mp hx
      exact e ▸ S.p r hr'
    · rw [← List.map_take, sm_map]
      exact S.s i
    rw [esm] at hm
    have e12 := e1.trans e2
    -- spread
    refine ⟨(by show 2 ≤ sizeLine; decide), fun z nz => ?_⟩
    have e3 := e12.trans (Ext.new (T := T) (o := .tup [.int 0, .int 1]) e12.gh nz (by intro ps q; cases q))
    refine ⟨.ref l, rfl, l, rfl, ⟨_, (e3.gg.trans e3.gh).seq hl⟩, for_list (K := K) (a := l) (xs := ws) (fun i σ H' => ∃ (G' : Hp) (v : V) (y1 y2 y5 : Option V), σ = [some (.ref l), y1, y2, some m, some v, y5] ∧ Ext T G H G' H' ∧ IsFr K G' m (avg rows) ∧ IsFr K G' v (sm (rows.take i) (fun r => r.2 * ((r.1 - avg rows) * (r.1 - avg rows)))))
      ⟨_, .ref z, none, none, none, rfl, e3, hm.of (same_new (e12.gh.free nz)), zero_fr (SqT.of upd_same)⟩ (fun i σ H' _ ⟨G', v, _, _, _, _, e, _⟩ => (e.gg.trans e.gh).seq hl) (fun i x σ H' hi hP => ?_) (fun σ H' hP => ?_)⟩
    · obtain ⟨G', v, y1, y2, y5, rfl, e, hm', hv⟩ := hP
      obtain ⟨r, hq, ⟨t, v1, v2, rfl, ht, h1, h2⟩⟩ := Paired.get' hp hi
      have hmem := List.mem_of_getElem? hq
      refine ⟨t, _, rfl, sameT (e.gg.trans e.gh) ht, rfl, v1, _, rfl, v2, _, rfl, rfl, ?_⟩
      -- away
      have sA : Sm (avg rows) := by
        have := S.s rows.length
        rw [List.take_length] at this
        exact this
      refine ⟨v1, rfl, m, rfl, G', v1, m, r.1, avg rows, rfl, e.gh, h1.of e.gg, hm', S.n _ hmem, sA, trivial, fun aw G4 H4 e4 h4 => ?_⟩
      -- spread
      refine ⟨v, rfl, v2, rfl, aw, rfl, aw, rfl, G4, aw, aw, _, _, rfl, e4.gh, h4, h4, S.a _ hmem, S.a _ hmem, trivial, fun sq G5 H5 e5 h5 => ?_⟩
      refine ⟨G5, v2, sq, r.2, _, rfl, e5.gh, h2.of ((e.gg.trans e4.gg).trans e5.gg), h5, S.c _ hmem, S.q _ hmem, trivial, fun pr G6 H6 e6 h6 => ?_⟩
      have e46 := (e4.trans e5).trans e6
      refine ⟨G6, v, pr, _, _, rfl, e6.gh, hv.of e46.gg, h6, S.v i, S.m _ hmem, trivial, fun v' G7 H7 e7 h7 => ?_⟩
      refine ⟨G7, v', some v1, some v2, some aw, rfl, (e.trans e46).trans e7, hm'.of (e46.gg.trans e7.gg), ?_⟩
      rw [sm_take hq]
      exact h7
    · obtain ⟨G', v, y1, y2, y5, rfl, e, hm', hv⟩ := hP
      have hlx : ws.length = rows.length := hp.length
      rw [hlx, List.take_length] at hv
      refine ⟨m, rfl, v, rfl, (by show 2 ≤ sizeLine; decide), fun b nb => ?_⟩
      have e8 : Ext T G' H' _ _ := Ext.new (o := .tup [m, v]) e.gh nb (by intro ps q; cases q)
      exact k (.ref b) _ _ (e.trans e8) ⟨b, m, v, rfl, SqT.of upd_same, hm'.of e8.gg, hv.of e8.gg⟩
end K36

set_option Elab.async false
set_option autoImplicit false
set_option linter.all false
set_option maxRecDepth 100000
set_option maxHeartbeats 4000000
/-! Rules that the layer lacks: == of our data, list.remove of fractions, sorted of parts. -/
namespace K36
open PySem PySem.Spec PyProof.Rows L2
/-! ### data as PyData -/
def frD (x : Rat) : PyData := .tuple [.int x.num, .int (x.den : Int)]
def itD (i : It) : PyData := .tuple [.str i.key, .str i.grp, .int i.w, .int i.am]
def ptD (p : It × Rat) : PyData := .tuple [itD p.1, frD p.2]
def ptsD (ps : List (It × Rat)) : PyData := .list (ps.map ptD)
def ItOk (i : It) : Prop := PyData.strOk i.key = true ∧ PyData.strOk i.grp = true
section
variable {K : PySem.W.Frag} {H : Hp} {v : V}
theorem IsFr.dp {x : Rat} (h : IsFr K H v x) : Dp K H v (frD x) := by
  obtain ⟨a, rfl, ht⟩ := h
  exact .tup ht (.cons (.int _) (.cons (.int _) .nil))
theorem IsIt.dp {i : It} (h : IsIt K H v i) : Dp K H v (itD i) := by
  obtain ⟨a, rfl, ht⟩ := h
  exact .tup ht (.cons (.str _) (.cons (.str _) (.cons (.int _) (.cons (.int _) .nil))))
theorem IsPt.dp {p : It × Rat} (h : IsPt K H v p) : Dp K H v (ptD p) := by
  obtain ⟨a, vi, vx, rfl, ht, h1, h2⟩ := h
  exact .tup ht (.cons h1.dp (.cons h2.dp .nil))
theorem dpAll {α : Type} {F : V → α → Prop} {f : α → PyData} (hf : ∀ v x, F v x → Dp K H v (f x)) : ∀ {vs : List V} {xs : List α}, Paired F vs xs → DpAll K H vs (xs.map f)
  | _, _, .nil => .nil
  | _, _, .cons h t => .cons (hf _ _ h) (dpAll hf t)
theorem IsPts.dp {ps : List (It × Rat)} (h : IsPts K H v ps) : Dp K H v (ptsD ps) := by
  obtain ⟨a, vs, rfl, hl, hp⟩ := h
  exact .lst hl (dpAll (fun v x q => IsPt.dp q) hp)
end
theorem frD_eqv (x y : Rat) : PyData.eqv (frD x) (frD y) = decide (x = y) := by
  have e : PyData.eqv (frD x) (frD y) = ((x.num == y.num) && (((x.den : Int) == (y.den : Int)) && true)) := by simp only [frD, PyData.eqv, PyData.eqvAll]
  rw [e]
  by_cases h : x = y
  · subst h; simp
  · rw [decide_eq_false h]
    by_cases h1 : x.num = y.num
    · by_cases h2 : x.den = y.den
      · exact absurd (Rat.ext h1 h2) h
      · have : ((x.den : Int) == (y.den : Int)) = false := beq_eq_false_iff_ne.mpr (by omega)
        rw [this]; simp
    · have : (x.num == y.num) = false := beq_eq_false_iff_ne.mpr h1
      rw [this]; simp
theorem str_beq (a b : Str) : (a == b) = decide (a = b) := by
  by_cases h : a = b
  · subst h; simp
  · rw [decide_eq_false h]
    exact beq_eq_false_iff_ne.mpr h
theorem itD_eqv (x y : It) : PyData.eqv (itD x) (itD y) = decide (x = y) := by
  have e : PyData.eqv (itD x) (itD y) = ((x.key == y.key) && ((x.grp == y.grp) && ((x.w == y.w) && ((x.am == y.am) && true)))) := by simp only [itD, PyData.eqv, PyData.eqvAll]
  rw [e]
  obtain ⟨a, b, c, d⟩ := x
  obtain ⟨a', b', c', d'⟩ := y
  rw [Bool.eq_iff_iff]
  simp [It.mk.injEq]
theorem ptD_eqv (x y : It × Rat) : PyData.eqv (ptD x) (ptD y) = decide (x = y) := by
  have e : PyData.eqv (ptD x) (ptD y) = (PyData.eqv (itD x.1) (itD y.1) && (PyData.eqv (frD x.2) (frD y.2) && true)) := by simp only [ptD, PyData.eqv, PyData.eqvAll]
  rw [e, itD_eqv, frD_eqv]
  rw [Bool.eq_iff_iff]
  simp [Prod.ext_iff]
theorem ptsAll_eqv : ∀ xs ys : List (It × Rat), PyData.eqvAll (xs.map ptD) (ys.map ptD) = decide (xs = ys)
  | [], [] => by simp [PyData.eqvAll]
  | [], y :: ys => by simp [PyData.eqvAll]
  | x :: xs, [] => by simp [PyData.eqvAll]
  | x :: xs, y :: ys => by
    have e : PyData.eqvAll ((x :: xs).map ptD) ((y :: ys).map ptD) = (PyData.eqv (ptD x) (ptD y) && PyData.eqvAll (xs.map ptD) (ys.map ptD)) := by simp only [List.map_cons, PyData.eqvAll]
    rw [e, ptD_eqv, ptsAll_eqv xs ys, Bool.eq_iff_iff]
    simp
theorem ptsD_eqv (xs ys : List (It × Rat)) : PyData.eqv (ptsD xs) (ptsD ys) = decide (xs = ys) := by
  have e : PyData.eqv (ptsD xs) (ptsD ys) = PyData.eqvAll (xs.map ptD) (ys.map ptD) := by simp only [ptsD, PyData.eqv]
  rw [e, ptsAll_eqv]
theorem frD_lay (x : Rat) : (frD x).canLay0 = true := by simp [frD, PyData.canLay0, PyData.canLayAll0]
theorem frD_depth (x : Rat) : (frD x).depth = 1 := by simp [frD, PyData.depth, PyData.depthAll]
theorem frD_shaped (x : Rat) : SeqAt.shaped (frD x) = true := by
  show ((frD x).canLay0 && decide ((frD x).depth ≤ 64)) = true
  rw [frD_lay, frD_depth]; decide
theorem itD_lay {i : It} (h : ItOk i) : (itD i).canLay0 = true := by simp [itD, PyData.canLay0, PyData.canLayAll0, h.1, h.2]
theorem itD_depth (i : It) : (itD i).depth = 1 := by simp [itD, PyData.depth, PyData.depthAll]
theorem itD_shaped {i : It} (h : ItOk i) : SeqAt.shaped (itD i) = true := by
  show ((itD i).canLay0 && decide ((itD i).depth ≤ 64)) = true
  rw [itD_lay h, itD_depth]; decide
theorem ptD_lay {p : It × Rat} (h : ItOk p.1) : (ptD p).canLay0 = true := by simp [ptD, PyData.canLay0, PyData.canLayAll0, itD_lay h, frD_lay]
theorem ptD_depth (p : It × Rat) : (ptD p).depth = 2 := by simp [ptD, PyData.depth, PyData.depthAll, itD_depth, frD_depth]
theorem lays_map {α : Type} (f : α → PyData) : ∀ {l : List α}, (∀ a ∈ l, (f a).canLay0 = true) → PyData.canLayAll0 (l.map f) = true
  | [], _ => by simp [PyData.canLayAll0]
  | a :: l, h => by
    have h1 := h a (by simp)
    have h2 := lays_map f (l := l) fun b hb => h b (by simp [hb])
    simp [PyData.canLayAll0, h1, h2]
theorem depths_map {α : Type} (f : α → PyData) (d : Nat) : ∀ {l : List α}, (∀ a ∈ l, (f a).depth ≤ d) → PyData.depthAll (l.map f) ≤ d
  | [], _ => by simp [PyData.depthAll]
  | a :: l, h => by
    have h1 := h a (by simp)
    have h2 := depths_map f d (l := l) fun b hb => h b (by simp [hb])
    simp only [List.map_cons, PyData.depthAll]
    omega
theorem ls_shaped {α : Type} (f : α → PyData) {l : List α} (h1 : ∀ a ∈ l, (f a).canLay0 = true) (h2 : ∀ a ∈ l, (f a).depth ≤ 3) : SeqAt.shaped (.list (l.map f)) = true := by
  have a := lays_map f h1
  have b := depths_map f 3 h2
  have c : PyData.depth (.list (l.map f)) ≤ 64 := by
    simp only [PyData.depth]
    omega
  show (PyData.canLay0 (.list (l.map f)) && decide (PyData.depth (.list (l.map f)) ≤ 64)) = true
  rw [Bool.and_eq_true]
  exact ⟨by simp only [PyData.canLay0]; exact a, decide_eq_true c⟩
theorem ptsD_shaped {ps : List (It × Rat)} (h : ∀ p ∈ ps, ItOk p.1) : SeqAt.shaped (ptsD ps) = true := ls_shaped ptD (fun p hp => ptD_lay (h p hp)) fun p _ => by rw [ptD_depth]; decide
theorem hu64 {A : Around} {k : Nat} (hr : Room k A) : A.units + 64 < cLine := by have := hr.un; omega
theorem hu65 {A : Around} {k : Nat} (hr : Room k A) : A.units + 65 < cLine := by have := hr.un; omega

/-! ### xs.remove(x), fractions -/
theorem Paired.erase {α β : Type} {F : α → β → Prop} : ∀ {l : List α} {m : List β} (i : Nat), Paired F l m → Paired F (l.eraseIdx i) (m.eraseIdx i)
  | _, _, _, .nil => .nil
  | _, _, 0, .cons _ t => t
  | _, _, i + 1, .cons h t => .cons h (Paired.erase i t)
theorem first_rat : ∀ {xs : List Rat} {q : Rat}, q ∈ xs → ∃ j, xs[j]? = some q ∧ (∀ m z, m < j → xs[m]? = some z → z ≠ q) ∧ xs.eraseIdx j = xs.erase q
  | [], q, h => absurd h (by simp)
  | a :: r, q, h => by
    by_cases e : a = q
    · refine ⟨0, by rw [e] <;> rfl, fun m z hm => absurd hm (Nat.not_lt_zero _), ?_⟩
      rw [e, List.erase_cons_head] <;> rfl
    · have hr : q ∈ r := by
        rcases List.mem_cons.mp h with z | z
        · exact absurd z.symm e
        · exact z
      obtain ⟨j, h2, h3, h4⟩ := first_rat hr
      refine ⟨j + 1, h2, fun m z hm hz => ?_, ?_⟩
      · cases m with
        | zero =>
          have : a = z := Option.some.inj hz
          rw [← this]; exact e
        | succ m => exact h3 m z (Nat.lt_of_succ_lt_succ hm) hz
      · rw [List.erase_cons_tail (by rw [beq_iff_eq]; exact e), ← h4] <;> rfl
def rRemF (K : PySem.W.Frag) : V → List V → Hp → VK → Prop := fun x ys H Q => ∃ (G : Hp) (l : Addr) (ws : List V) (xs : List Rat) (y : V) (q : Rat), x = .ref l ∧ ys = [y] ∧ Same G H ∧ H l = some (.lst ws) ∧ Paired (IsFr K G) ws xs ∧ IsFr K G y q ∧ q ∈ xs ∧
  ∀ ws', Paired (IsFr K G) ws' (xs.erase q) → Q .non (upd H l (.lst ws'))
section
variable {X : Cx}
theorem mt_removeF (hu : X.A.units + 65 < cLine) : MtR X "list.remove" (rRemF X.K) := by
  intro pins s σ H x ys v us Q I rx rxs h
  obtain ⟨G, l, ws, xs, y, q, rfl, rfl, hs, hH, hp, hy, hq, k⟩ := h
  cases rx
  obtain ⟨u, rfl, ru⟩ := Vals.one rxs
  obtain ⟨z, its, n, r, hl, e⟩ := I.lstM hH
  obtain ⟨bs, r1⟩ := Dp.reads I (frD q) y u (hy.of hs).dp ru
  obtain ⟨as, h4⟩ := Dp.readsAll I (xs.map frD) ws its (dpAll (fun v x q => IsFr.dp (IsFr.of hs q)) hp) r
  have hxs : PyData.canLayAll0 (xs.map frD) = true := lays_map frD fun a _ => frD_lay a
  have hd1 : PyData.depthAll (xs.map frD) ≤ 1 := depths_map frD 1 fun a _ => by rw [frD_depth]; exact Nat.le_refl _
  have hroom : X.A.units + 1 + min (PyData.depthAll (xs.map frD)) (frD q).depth < cLine := by omega
  have hn : its.length = xs.length := by rw [← hl, hp.length]
  have hmap : its.map (SeqAt.readOf s.heap) = xs.map frD := SeqAt.readsAll_map (xs.map frD) its as hxs h4
  obtain ⟨j, hj1, hj2, hj3⟩ := first_rat hq
  have hjx : j < xs.length := (List.getElem?_eq_some_iff.mp hj1).1
  have hjl : j < its.length := by omega
  have hj : j < its.toArray.size := by simpa using hjl
  have at_ : ∀ (m : Nat) (hm : m < its.toArray.size) (z' : Rat), xs[m]? = some z' → SeqAt.readOf s.heap its.toArray[m] = frD z' := by
    intro m hm z' hz'
    have hml : m < its.length := by simpa using hm
    have e1 : (its.map (SeqAt.readOf s.heap))[m]? = some (frD z') := by rw [hmap, List.getElem?_map, hz']; rfl
    rw [List.getElem?_map, List.getElem?_eq_getElem hml] at e1
    have e2 : SeqAt.readOf s.heap its[m] = frD z' := Option.some.inj e1
    simpa using e2
  refine call_meets PySem.F.slot_list_remove ⟨_, e, rfl⟩ PySem.F.entry_list_remove (PySem.F.args_list_remove_2 _ _)
    (SeqAt.list_removeAt l its.toArray n none #[] u (fun u => PyData.eqv (SeqAt.readOf s.heap u) (frD q)) j hj ?_ ?_ (by rw [List.size_toArray]; omega)) ⟨e, SeqAt.items_eqAt (vs := its.toArray) (show ReadsAll s.heap its.toArray.toList (xs.map frD) as from h4) r1 hxs (frD_lay q) hroom, ?_⟩
  · show PyData.eqv (SeqAt.readOf s.heap its.toArray[j]) (frD q) = true
    rw [at_ j hj q hj1, frD_eqv]
    simp
  · intro m hm hmj
    have hmd : m < xs.length := by
      have : m < its.length := by simpa using hm
      omega
    have hz' : xs[m]? = some xs[m] := List.getElem?_eq_getElem hmd
    show PyData.eqv (SeqAt.readOf s.heap its.toArray[m]) (frD q) = false
    rw [at_ m hm _ hz', frD_eqv]
    exact decide_eq_false (hj2 m _ hmj hz')
  · have rr := r.eraseIdx j
    refine ⟨.non, _, I.lset (its' := its.eraseIdx j) (t' := s.toks) hH e ?_ rr ?_, rfl, k _ (by rw [← hj3]; exact Paired.erase j hp)⟩
    · show its.toArray.eraseIdxIfInBounds j = (its.eraseIdx j).toArray
      rw [List.eraseIdxIfInBounds_toArray]
    · exact Nat.le_trans (List.length_eraseIdx_le _ _) z

/-! ### sorted(parts) -/
theorem fr_alike (x y : Rat) : PySem.W.alike (frD x) (frD y) = true := by simp [frD, PySem.W.alike, PySem.W.alikeAll]
theorem pt_alike (x y : It × Rat) : PySem.W.alike (ptD x) (ptD y) = true := by simp [ptD, itD, frD, PySem.W.alike, PySem.W.alikeAll]
def rSortPts (K : PySem.W.Frag) : List V → Hp → VK → Prop := fun vs H Q => ∃ (G : Hp) (a : Addr) (ws : List V) (ps : List (It × Rat)), vs = [.ref a] ∧ Same G H ∧ SqL K H a ws ∧ Paired (IsPt K G) ws ps ∧
  ∀ (ws' : List V) (ps' : List (It × Rat)) (p : Addr), ps'.Perm ps → Paired (IsPt K G) ws' ps' → H p = none → Q (.ref p) (upd H p (.lst ws'))
theorem paired_zip {α β : Type} {F : α → β → Prop} : ∀ {l : List α} {m : List β}, Paired F l m → ∀ q ∈ l.zip m, F q.1 q.2
  | _, _, .nil, q, h => absurd h (by simp)
  | _, _, .cons h t, q, hq => by
    rw [List.zip_cons_cons] at hq
    rcases List.mem_cons.mp hq with rfl | hq
    · exact h
    · exact paired_zip t q hq
theorem paired_of {α β : Type} {F : α → β → Prop} : ∀ {zs : List (α × β)}, (∀ p ∈ zs, F p.1 p.2) → Paired F (zs.map Prod.fst) (zs.map Prod.snd)
  | [], _ => .nil
  | z :: zs, h => .cons (h z (by simp)) (paired_of fun p hp => h p (by simp [hp]))
theorem each_of {α β γ : Type} {F : α → β → Prop} {G : α → γ → Prop} : ∀ {l : List α} {m : List β} {us : List γ}, Paired F l m → Paired G l us → PySem.W.EachIs (fun u (q : α × β) => G q.1 u ∧ F q.1 q.2) us (l.zip m)
  | _, _, _, .nil, .nil => .nil
  | _, _, _, .cons h t, .cons g s => .cons ⟨g, h⟩ (each_of t s)
theorem vals_each {β : Type} {F : V → β → Prop} : ∀ {us : List Value} {zs : List (V × β)}, PySem.W.EachIs (fun u (q : V × β) => RelV q.1 u ∧ F q.1 q.2) us zs → Vals (zs.map Prod.fst) us ∧ ∀ p ∈ zs, F p.1 p.2
  | _, _, .nil => ⟨.nil, fun p hp => absurd hp (by simp)⟩
  | _, _, .cons h t => by
    obtain ⟨h1, h2⟩ := vals_each t
    refine ⟨.cons h.1 h1, fun p hp => ?_⟩
    rcases List.mem_cons.mp hp with rfl | hp
    · exact h.2
    · exact h2 p hp
theorem cr_sortedPts (hu : X.A.units + 65 < cLine) : CallR X (.builtin "sorted") (rSortPts X.K) := by
  intro pins s σ H vs us Q I r h
  obtain ⟨G, a, ws, ps, rfl, hG, hs, hp, k⟩ := h
  obtain rfl := Vals.ref1 r
  obtain ⟨its, rv, hl, hz⟩ := I.list hs
  have e := each_of (F := IsPt X.K G) (G := RelV) hp rv
  have hlen : (ws.zip ps).length = ws.length := by rw [List.length_zip, ← hp.length, Nat.min_self]
  refine PySem.W.sorted_data (enc := fun q : V × (It × Rat) => ptD q.2) hl.isList e (e.mono fun u q hq => ?_) (PySem.W.AllAlike.of fun b b' => pt_alike _ _) (PySem.W.Sortable.tuples fun b => ⟨_, _, rfl⟩) (by rw [hlen]; exact hz) (fun b _ => ?_) fun out hol he => ?_
  · exact Dp.reads I (ptD q.2) q.1 u (hq.2.of hG).dp hq.1
  · rw [ptD_depth]
    omega
  · obtain ⟨h1, h2⟩ := vals_each he
    have hperm : ((ws.zip ps).mergeSort (PySem.W.dataLe false fun q : V × (It × Rat) => ptD q.2)).Perm (ws.zip ps) := List.mergeSort_perm _ _
    obtain ⟨ep, he'⟩ := PyProof.Rows.sortedAll_at s.heap its (List.toArray out)
    have hlz : (List.map Prod.fst ((ws.zip ps).mergeSort (PySem.W.dataLe false fun q : V × (It × Rat) => ptD q.2))).length ≤ sizeLine := by
      rw [List.length_map, hperm.length_eq, hlen]
      exact hz
    refine ⟨.ref _, upd H (s.heap.objs.size + 1) (.lst _), I.laid (t' := s.toks) (fun _ _ => PyProof.Rows.sortedAll_old) (Nat.le_succ _) ⟨hlz, _, ep, h1, he'⟩, rfl, k _ _ _ ?_ (paired_of h2) (I.hok.fresh (Nat.le_succ _))⟩
    have := hperm.map Prod.snd
    rw [List.map_snd_zip (Nat.le_of_eq hp.length.symm)] at this
    exact this
end
end K36

set_option Elab.async false
set_option autoImplicit false
set_option linter.all false
set_option maxRecDepth 100000
set_option maxHeartbeats 4000000
/-! The program's threshold. -/
namespace K36
open PySem PySem.Spec PyProof.Rows L2
/-! ### plain -/
structure ThrInv (k : Nat) (xs ls rs : List Rat) (p : Nat) (rest : Rat) : Prop where
  perm : xs.Perm (ls ++ rs)
  hk : rs.length + p = k
  hp : 1 ≤ p
  lt : p < ls.length
  er : rest = sm ls id
  gt : ∀ r ∈ rs, rest < r * (p : Rat)
  ge : ∀ r ∈ rs, ∀ x ∈ ls, x ≤ r
theorem ThrInv.pos {k p : Nat} {xs ls rs : List Rat} {rest : Rat} (I : ThrInv k xs ls rs p rest) (pos : ∀ x ∈ xs, 0 < x) : ∀ x ∈ ls, 0 < x := fun x hx => pos x (I.perm.mem_iff.mpr (List.mem_append.mpr (.inl hx)))
theorem sm_pos {ls : List Rat} (h : ∀ x ∈ ls, 0 < x) (hn : ls ≠ []) : 0 < sm ls id := by
  cases ls with
  | nil => exact absurd rfl hn
  | cons x r =>
    rw [sm_cons]
    have h1 := h x (by simp)
    have h2 : 0 ≤ sm r id := sm_nonneg fun a ha => Rat.le_of_lt (h a (by simp [ha]))
    show 0 < x + _
    grind
theorem pcast {p : Nat} (h : 1 ≤ p) : (1 : Rat) ≤ (p : Rat) := by exact_mod_cast h
theorem ThrInv.done {k p : Nat} {xs ls rs : List Rat} {rest big : Rat} (I : ThrInv k xs ls rs p rest) (pos : ∀ x ∈ xs, 0 < x) (hbig : ∀ x ∈ ls, x ≤ big) (hf : ¬ rest / (p : Rat) < big) : Thr k xs (rest / (p : Rat)) := by
  have hp := pcast I.hp
  have hne : ls ≠ [] := by
    intro e
    have := I.lt
    rw [e] at this
    simp at this
  have hr : 0 < rest := by rw [I.er]; exact sm_pos (I.pos pos) hne
  have hp0 : (p : Rat) ≠ 0 := by grind
  have hu : rest / (p : Rat) * (p : Rat) = rest := by grind
  have hpp : (0 : Rat) < (p : Rat) := by grind
  have hu0 : 0 < rest / (p : Rat) := by
    by_cases h : 0 < rest / (p : Rat)
    · exact h
    · exfalso
      have : 0 ≤ -(rest / (p : Rat)) * (p : Rat) := Rat.mul_nonneg (by grind) (by grind)
      grind
  have hl : xs.length = ls.length + rs.length := by rw [I.perm.length_eq, List.length_append]
  refine .inr ⟨by have := I.hk; have := I.lt; omega, hu0, ?_⟩
  rw [sm_perm I.perm, sm_append]
  have h1 : sm ls (fun w => mn w (rest / (p : Rat))) = rest := by
    rw [I.er]
    refine sm_congr fun x hx => ?_
    have := hbig x hx
    rw [← I.er]
    unfold mn
    show _ = x
    split <;> grind
  have h2 : sm rs (fun w => mn w (rest / (p : Rat))) = (rs.length : Rat) * (rest / (p : Rat)) := by
    rw [← sm_const]
    refine sm_congr fun r hr' => ?_
    have h3 := I.gt r hr'
    have h4 : rest / (p : Rat) < r := by
      rw [Rat.div_lt_iff hpp]
      exact h3
    unfold mn
    rw [if_neg]
    grind
  rw [h1, h2]
  have h5 : ((k : Nat) : Rat) = (rs.length : Rat) + (p : Rat) := by
    have := I.hk
    rw [← this]
    push_cast
    rfl
  rw [h5]
  grind
theorem sm_erase {ls : List Rat} {b : Rat} (h : b ∈ ls) : sm (ls.erase b) id = sm ls id - b := by
  have := sm_perm (List.perm_cons_erase h) id
  rw [sm_cons] at this
  show _ = _
  have e : id b = b := rfl
  grind
theorem le_sum {ls : List Rat} (h : ∀ x ∈ ls, 0 < x) {b : Rat} (hb : b ∈ ls) : b ≤ sm ls id := by
  have h1 := sm_erase hb
  have h2 : 0 ≤ sm (ls.erase b) id := sm_nonneg fun a ha => Rat.le_of_lt (h a (List.mem_of_mem_erase ha))
  grind
theorem ThrInv.next {k p : Nat} {xs ls rs : List Rat} {rest big : Rat} (I : ThrInv k xs ls rs p rest) (pos : ∀ x ∈ xs, 0 < x) (hm : big ∈ ls) (hbig : ∀ x ∈ ls, x ≤ big) (hf : rest / (p : Rat) < big) : 2 ≤ p ∧ ThrInv k xs (ls.erase big) (big :: rs) (p - 1) (rest - big) := by
  have hp := pcast I.hp
  have hp0 : (p : Rat) ≠ 0 := by grind
  have hpp : (0 : Rat) < (p : Rat) := by grind
  have hf' : rest < big * (p : Rat) := by
    rw [Rat.div_lt_iff hpp] at hf
    exact hf
  have hle := le_sum (I.pos pos) hm
  rw [← I.er] at hle
  have h2 : 2 ≤ p := by
    have := I.hp
    by_cases h : p = 1
    · exfalso
      subst h
      have : ((1 : Nat) : Rat) = 1 := rfl
      rw [this] at hf'
      grind
    · omega
  have ec : (((p - 1 : Nat)) : Rat) = (p : Rat) - 1 := by
    have h : ((p - 1 : Nat) : Rat) + 1 = (p : Rat) := by
      have : (p - 1) + 1 = p := by omega
      exact_mod_cast this
    grind
  have hkey : rest - big < big * ((p - 1 : Nat) : Rat) := by rw [ec]; grind
  refine ⟨h2, ?_, ?_, by omega, ?_, ?_, ?_, ?_⟩
  · refine I.perm.trans ?_
    have h3 := (List.perm_cons_erase hm).append_right rs
    exact h3.trans List.perm_middle.symm
  · have := I.hk
    simp only [List.length_cons]
    omega
  · rw [List.length_erase_of_mem hm]
    have := I.lt
    omega
  · rw [sm_erase hm, I.er]
  · intro r hr
    rcases List.mem_cons.mp hr with e | e
    · rw [e]; exact hkey
    · have h4 := I.ge r e big hm
      have h5 : 0 ≤ (r - big) * ((p - 1 : Nat) : Rat) := Rat.mul_nonneg (by grind) (cast_nn _)
      grind
  · intro r hr x hx
    rcases List.mem_cons.mp hr with e | e
    · rw [e]; exact hbig x (List.mem_of_mem_erase hx)
    · exact I.ge r e x (List.mem_of_mem_erase hx)
theorem ThrInv.start {k : Nat} {xs : List Rat} (hk : 1 ≤ k) (h : k < xs.length) : ThrInv k xs xs [] k (sm xs id) :=
  ⟨by rw [List.append_nil], by simp, hk, h, rfl, fun r hr => absurd hr (by simp), fun r hr => absurd hr (by simp)⟩
/-- whole weights of at most 1000, at most five of them -/
structure Ws (xs : List Rat) : Prop where
  len : xs.length ≤ 5
  bd : ∀ x ∈ xs, Bd 1 1000 x
  pos : ∀ x ∈ xs, 0 < x
theorem Ws.sub {xs ls rs : List Rat} (W : Ws xs) (h : xs.Perm (ls ++ rs)) : Ws ls := by
  have hl : xs.length = ls.length + rs.length := by rw [h.length_eq, List.length_append]
  exact ⟨by have := W.len; omega, fun x hx => W.bd x (h.mem_iff.mpr (List.mem_append.mpr (.inl hx))), fun x hx => W.pos x (h.mem_iff.mpr (List.mem_append.mpr (.inl hx)))⟩
theorem Ws.sum {ls : List Rat} (W : Ws ls) : Bd 1 5000 (sm ls id) := (Bd.sm Nat.one_pos (f := id) W.bd).mono (by have := W.len; omega)
theorem Ws.take {ls : List Rat} (W : Ws ls) (i : Nat) : Sm (sm (ls.take i) id) := by
  have := (take_bd Nat.one_pos (f := id) W.bd i).mono (show ls.length * 1000 ≤ 2 ^ 13 by have := W.len; omega)
  exact this.sml (a := 0) (by decide) (Nat.le_refl _) (by decide)
theorem Ws.sm {ls : List Rat} (W : Ws ls) {x : Rat} (h : x ∈ ls) : Sm x := (W.bd x h).sml (a := 0) (b := 10) (by decide) (by decide) (by decide)

/-! ### walks -/
variable {P : Program} {w : World} {K : PySem.W.Frag} {mg : Str → Option Value} {base : Heap} {T : Tb}
theorem int_fr {H : Hp} {a : Addr} {n : Int} (h : SqT K H a [.int n, .int 1]) : IsFr K H (.ref a) (n : Rat) := ⟨a, rfl, h⟩
theorem nat_fr {H : Hp} {a : Addr} {n : Nat} (h : SqT K H a [.int (n : Int), .int 1]) : IsFr K H (.ref a) (n : Rat) := ⟨a, rfl, h⟩
def spGr (K : PySem.W.Frag) : Sp := fun vs H Q _ => ∃ (G : Hp) (a b : V) (x y : Rat), vs = [a, b] ∧ Same G H ∧ IsFr K G a x ∧ IsFr K G b y ∧ Sm x ∧ Sm y ∧ ∀ v, IsFr K G v (mx x y) → Q v H
theorem sc_gr : FnScope ["one", "other"] ["one", "other"] (defScope (topS 18)) := ⟨rfl, rfl, rfl, by decide +kernel, rfl, by decide +kernel, by decide +kernel⟩
theorem ok_gr (D : Def K mg "greater" (topS 18) ["one", "other"]) (C : Cal P w K mg base 1 "less" ["a", "b"] (spLess K)) : Cal P w K mg base 2 "greater" ["one", "other"] (spGr K) := by
  refine D.ok sc_gr (fun vs H Q E h => ?_) (fun f cdv A outer s H vs Q E hr h => ?_)
  · obtain ⟨G, a, b, x, y, rfl, _⟩ := h
    rfl
  · obtain ⟨G, a, b, x, y, rfl, hs, ha, hb, hx, hy, k⟩ := h
    refine ⟨_, pss_one (ps_ret (pe_ifExp (pt_val (C.pe hr (by rfl) (pa_cons (pv 0) (pa_cons (pv 1) pa_nil)))) (pv 1) (pv 0))), ?_⟩
    refine ⟨a, rfl, b, rfl, G, a, b, x, y, rfl, hs, ha, hb, hx, hy, _, rfl, ite2 (fun e => ?_) (fun e => ?_)⟩
    · refine ⟨b, rfl, k b ?_⟩
      have : x < y := of_decide_eq_true e
      unfold mx
      rw [if_pos this]
      exact hb
    · refine ⟨a, rfl, k a ?_⟩
      have : ¬ x < y := fun h => e (decide_eq_true h)
      unfold mx
      rw [if_neg this]
      exact ha
def spThr (T : Tb) (K : PySem.W.Frag) : Sp := fun vs H Q _ => ∃ (G : Hp) (a : V) (xs : List Rat) (k : Nat), vs = [a, .int (k : Int)] ∧ Same G H ∧ IsFrs K G a xs ∧ Ws xs ∧ 1 ≤ k ∧ k ≤ 3 ∧ Gives T G H (fun G' v => ∃ u, Thr k xs u ∧ IsFr K G' v u) Q
theorem sc_thr : FnScope ["weights", "size", "left", "rest", "places", "found", "largest", "weight"] ["weights", "size"] (defScope (topS 19)) := ⟨rfl, rfl, rfl, by decide +kernel, rfl, by decide +kernel, by decide +kernel⟩
theorem ok_thr (N : Nm K mg) (D : Def K mg "threshold" (topS 19) ["weights", "size"]) (Z : Zero K mg "NOTHING_optimal") (CS : Cal P w K mg base 3 "sum_of" ["fractions"] (spSum T K)) (CO : Cal P w K mg base 3 "over" ["a", "b"] (spBin T K okPos fun x y => x / y))
    (CM : Cal P w K mg base 3 "minus" ["a", "b"] (spBin T K okAny fun x y => x - y)) (CG : Cal P w K mg base 3 "greater" ["one", "other"] (spGr K)) (CL : Cal P w K mg base 3 "less" ["a", "b"] (spLess K)) : Cal P w K mg base 4 "threshold" ["weights", "size"] (spThr T K) := by
  refine D.ok sc_thr (fun vs H Q E h => ?_) (fun f cdv A outer s H vs Q E hr h => ?_)
  · obtain ⟨G, a, xs, k, rfl, _⟩ := h
    rfl
  · obtain ⟨G, a, xs, k, rfl, hs, ⟨l0, ws, rfl, hl, hp⟩, W, hk1, hk3, kk⟩ := h
    obtain ⟨z, mz, hz⟩ := Z
    refine ⟨_, pss_cons (ps_if (pt_cmpR op_le (pe_callB call_len_seq (by rfl) N.len PySem.boot_len (pa_cons (pv 0) pa_nil)) (pv 1) (nomark _)) (pss_one (ps_ret (pe_glob (v := .ref z) (by rfl) mz rfl))) pss_nil)
      (pss_cons (ps_set (i := 2) sc_thr.nd rfl (.inl rfl) (pe_callTy call_list_of (by rfl) N.list (by decide +kernel) (pa_cons (pv 0) pa_nil)))
      (pss_cons (ps_set (i := 3) sc_thr.nd rfl (.inl rfl) (CS.pe hr (by rfl) (pa_cons (pv 2) pa_nil)))
      (pss_cons (ps_set (i := 4) sc_thr.nd rfl (.inl rfl) (pv 1))
      (pss_one (ps_while PassesOwn.never (pt_val pe_bl)
        (pss_cons (ps_set (i := 5) sc_thr.nd rfl (.inl rfl) (CO.pe hr (by rfl) (pa_cons (pv 3) (pa_cons (pe_tup (pa_cons (pv 4) (pa_cons pe_int pa_nil))) pa_nil))))
        (pss_cons (ps_set (i := 6) sc_thr.nd rfl (.inl rfl) (pe_ix ix_list (pv 2) pe_int (fun _ _ => rfl)))
        (pss_cons (ps_for PassesOwn.never rfl (pi_list (pv 2)) (pg_name (i := 7) sc_thr.nd rfl (.inl rfl)) (pss_one (ps_set (i := 6) sc_thr.nd rfl (.inl rfl) (CG.pe hr (by rfl) (pa_cons (pv 6) (pa_cons (pv 7) pa_nil))))))
        (pss_cons (ps_if (pt_not (pt_val (CL.pe hr (by rfl) (pa_cons (pv 5) (pa_cons (pv 6) pa_nil))))) (pss_one (ps_ret (pv 5))) pss_nil)
        (pss_cons (ps_expr (pe_bm PySem.F.plainAttrs_list PySem.F.slot_list_remove PySem.F.type_list_remove (mt_removeF (hu65 hr)) (pv 2) (pa_cons (pv 6) pa_nil)))
        (pss_cons (ps_set (i := 3) sc_thr.nd rfl (.inl rfl) (CM.pe hr (by rfl) (pa_cons (pv 3) (pa_cons (pv 6) pa_nil))))
        (pss_one (ps_aug (i := 4) sc_thr.nd rfl (.inl rfl) pe_int ip_sub))))))))))))), ?_⟩
    have hlen : ws.length = xs.length := hp.length
    have h5 := W.len
    refine ⟨.ref l0, rfl, l0, ws, rfl, .inl (hs.seq hl), .int (k : Int), rfl, _, _, rfl, rfl, _, rfl, ite2 (fun e => ?_) (fun e => ?_)⟩
    · have e1 : ((ws.length : Nat) : Int) ≤ (k : Int) := of_decide_eq_true e
      exact kk (.ref z) G H (Ext.refl hs) ⟨0, .inl ⟨by omega, rfl⟩, zero_fr (hz G)⟩
    have e1 : ¬ ((ws.length : Nat) : Int) ≤ (k : Int) := fun h => e (decide_eq_true h)
    have hkl : k < xs.length := by omega
    -- left = list(weights)
    refine ⟨.ref l0, rfl, l0, ws, rfl, .inl (hs.seq hl), fun l nl => ?_⟩
    have e2 : Ext T G H G (upd H l (.lst ws)) := Ext.newM hs nl
    have gl : G l = none := hs.free nl
    -- rest = sum_of(left)
    refine ⟨.ref l, rfl, G, .ref l, xs, rfl, e2.gh, ⟨l, ws, rfl, SqL.of upd_same, hp⟩, fun x hx => W.sm hx, W.take, fun rv G3 H3 e3 hrv => ?_⟩
    have e3' := e2.trans e3
    -- places = size
    refine ⟨_, rfl, ?_⟩
    refine ⟨fun m σ H' => ∃ (G' : Hp) (rv : V) (p : Nat) (ls rs : List Rat) (us : List V) (rest : Rat) (y5 y6 y7 : Option V), σ = [some (.ref l0), some (.int (k : Int)), some (.ref l), some rv, some (.int (p : Int)), y5, y6, y7] ∧ m = ls.length ∧
        Ext T G H G' H' ∧ H' l = some (.lst us) ∧ G' l = none ∧ Paired (IsFr K G') us ls ∧ IsFr K G' rv rest ∧ ThrInv k xs ls rs p rest,
      ⟨xs.length, G3, rv, k, xs, [], ws, _, none, none, none, rfl, rfl, e3', e3.lists upd_same, e3.out upd_same gl, Paired.imp (fun v x q => q.of e3'.gg) hp, hrv, ThrInv.start hk1 hkl⟩, fun m σ H' hW => ?_⟩
    obtain ⟨G', rv', p, ls, rs, us, rest, y5, y6, y7, rfl, em, e, hl', gl', hp', hrv', I⟩ := hW
    have Wl : Ws ls := W.sub I.perm
    have hp1 := I.hp
    have hsum : Bd 1 5000 rest := by rw [I.er]; exact Wl.sum
    have sR : Sm rest := hsum.sml (a := 0) (b := 13) (by decide) (by decide) (by decide)
    have hp3 : p ≤ 3 := by have := I.hk; omega
    have bP : Bd 1 3 (p : Rat) := by
      have := Bd.int (n := (p : Int)) (M := 3) (by omega)
      exact this
    have sP : Sm (p : Rat) := bP.sml (a := 0) (b := 2) (by decide) (by decide) (by decide)
    have sF : Sm (rest / (p : Rat)) := (hsum.div hp1).sml (a := 2) (b := 13) (by omega) (by decide) (by decide)
    have hpp : (0 : Rat) < (p : Rat) := by have := pcast hp1; grind
    refine ⟨true, rfl, iteT ?_⟩
    refine ⟨fun σ' H'' => ∃ (G'' : Hp) (rv' : V) (p' : Nat) (ls' rs' : List Rat) (us' : List V) (rest' : Rat) (y5 y6 y7 : Option V), σ' = [some (.ref l0), some (.int (k : Int)), some (.ref l), some rv', some (.int (p' : Int)), y5, y6, y7] ∧ ls'.length < ls.length ∧
        Ext T G H G'' H'' ∧ H'' l = some (.lst us') ∧ G'' l = none ∧ Paired (IsFr K G'') us' ls' ∧ IsFr K G'' rv' rest' ∧ ThrInv k xs ls' rs' p' rest',
      fun σ' H'' hN => ?_, ?_⟩
    · obtain ⟨G'', rv', p', ls', rs', us', rest', y5, y6, y7, h1, h2, h3⟩ := hN
      exact ⟨ls'.length, by omega, G'', rv', p', ls', rs', us', rest', y5, y6, y7, h1, rfl, h3⟩
    -- found = over(rest, (places, 1))
    refine ⟨rv', rfl, _, rfl, (by show 2 ≤ sizeLine; decide), fun t nt => ?_⟩
    have e4 : Ext T G' H' _ _ := Ext.new (T := T) (o := .tup [.int (p : Int), .int 1]) e.gh nt (by intro ps q; cases q)
    refine ⟨_, rv', .ref t, rest, (p : Rat), rfl, e4.gh, hrv'.of e4.gg, nat_fr (SqT.of upd_same), sR, sP, hpp, fun fv G5 H5 e5 hfv => ?_⟩
    have e45 := e4.trans e5
    have hl5 : H5 l = some (.lst us) := e45.lists hl'
    have gl5 : G5 l = none := e45.out hl' gl'
    have hp5 : Paired (IsFr K G5) us ls := Paired.imp (fun v x q => q.of e45.gg) hp'
    -- largest = left[0]
    have hll : 0 < ls.length := by have := I.lt; omega
    obtain ⟨x0, hx0⟩ : ∃ x0, ls[0]? = some x0 := ⟨ls[0], List.getElem?_eq_getElem hll⟩
    obtain ⟨u0, hu0, hf0⟩ := Paired.get hp5 hx0
    refine ⟨.ref l, rfl, l, us, 0, u0, rfl, rfl, SqL.of hl5, atI_nat (j := 0) hu0, ?_⟩
    -- the largest
    refine ⟨.ref l, rfl, l, rfl, ⟨_, SqL.of hl5⟩, for_list (K := K) (a := l) (xs := us) (fun i σ H'' => ∃ (b : V) (big : Rat) (y7 : Option V), σ = [some (.ref l0), some (.int (k : Int)), some (.ref l), some rv', some (.int (p : Int)), some fv, some b, y7] ∧ H'' = H5 ∧ IsFr K G5 b big ∧ big ∈ ls ∧ ∀ x ∈ ls.take i, x ≤ big)
      ⟨u0, x0, y7, rfl, rfl, hf0, List.mem_of_getElem? hx0, fun x hx => absurd hx (by simp)⟩ (fun i σ H'' _ ⟨b, big, y7, _, eH, _⟩ => eH ▸ SqL.of hl5) (fun i x σ H'' hi hP => ?_) (fun σ H'' hP => ?_)⟩
    · obtain ⟨b, big, y7, rfl, rfl, hb, hm, hle⟩ := hP
      obtain ⟨q, hq, hqf⟩ := Paired.get' hp5 hi
      have hqm := List.mem_of_getElem? hq
      refine ⟨b, rfl, x, rfl, G5, b, x, big, q, rfl, e5.gh, hb, hqf, Wl.sm hm, Wl.sm hqm, fun v hv => ?_⟩
      refine ⟨v, mx big q, some x, rfl, rfl, hv, ?_, fun x hx => ?_⟩
      · unfold mx
        split
        · exact hqm
        · exact hm
      · rw [take_one hq] at hx
        have l1 := le_mx big q
        have l2 := le_mx' big q
        rcases List.mem_append.mp hx with z | z
        · have := hle x z
          grind
        · have : x = q := by simpa using z
          grind
    · obtain ⟨b, big, y7, rfl, rfl, hb, hm, hle⟩ := hP
      have hul : us.length = ls.length := hp5.length
      rw [hul, List.take_length] at hle
      have sB := Wl.sm hm
      have e05 := e.trans e45
      -- if not less(found, largest)
      refine ⟨fv, rfl, b, rfl, G5, fv, b, _, _, rfl, e5.gh, hfv, hb, sF, sB, _, rfl, ?_⟩
      refine ite2 (fun c => ?_) (fun c => ?_)
      · have hf : ¬ rest / (p : Rat) < big := by simpa using c
        exact ⟨fv, rfl, kk fv G5 H'' e05 ⟨_, I.done W.pos hle hf, hfv⟩⟩
      have hf : rest / (p : Rat) < big := by simpa using c
      obtain ⟨h2, I2⟩ := I.next W.pos hm hle hf
      -- left.remove(largest)
      refine ⟨.ref l, rfl, .inl ⟨rfl, _, SqL.of hl5⟩, b, rfl, G5, l, us, ls, b, big, rfl, rfl, e5.gh, hl5, hp5, hb, hm, fun us' hp6' => ?_⟩
      have e6 := e05.write (o := .lst us') hl5 nl gl5
      -- rest = minus(rest, largest)
      refine ⟨rv', rfl, b, rfl, G5, rv', b, rest, big, rfl, e6.gh, hrv'.of e45.gg, hb, sR, sB, trivial, fun rv2 G7 H7 e7 hrv2 => ?_⟩
      refine ⟨_, rfl, _, _, rfl, rfl, ?_⟩
      refine ⟨G7, rv2, p - 1, ls.erase big, big :: rs, us', rest - big, some fv, some b, y7, ?_, ?_, e6.trans e7, e7.lists upd_same, e7.out upd_same gl5, Paired.imp (fun v x q => q.of e7.gg) hp6', hrv2, I2⟩
      · have : ((p - 1 : Nat) : Int) = (p : Int) - 1 := by omega
        rw [this]
        rfl
      · rw [List.length_erase_of_mem hm]
        omega
end K36

set_option Elab.async false
set_option autoImplicit false
set_option linter.all false
set_option maxRecDepth 100000
set_option maxHeartbeats 4000000
/-! Samples, amounts, sums of amounts, is_whole. -/
namespace K36
open PySem PySem.Spec PyProof.Rows L2
theorem Ext.write' {T : Tb} {G H G' H' : Hp} (a : Ext T G H G' H') {l : Addr} {o1 o : HO} (hl : H' l = some o1) (n1 : ∀ ps, o1 ≠ .tbl ps) (n2 : ∀ φ, o1 ≠ .ext φ) (h0 : H l = none) (g0 : G' l = none) : Ext T G H G' (upd H' l o) where
  hh := fun b x e n => by
    rw [upd_ne (ne_of_none e h0)]
    exact a.hh b x e n
  tt := fun t p hp => by
    obtain ⟨ps, h1, h2, h3⟩ := a.tt t p hp
    refine ⟨ps, by rw [upd_ne (ne_of h1 hl (fun z => n1 ps z.symm))]; exact h1, h2, fun pos cv hc => ?_⟩
    obtain ⟨c, e1, e2⟩ := h3 pos cv hc
    exact ⟨c, e1, by rw [upd_ne (ne_of e2 hl (fun z => n2 _ z.symm))]; exact e2⟩
  gg := a.gg
  gh := fun b x e => by
    rw [upd_ne (ne_of_none e g0)]
    exact a.gh b x e
  fr := a.fr
  nt := a.nt
  st := fun b hb => by
    by_cases z : b = l
    · subst z
      rw [upd_same]
      simp
    · rw [upd_ne z]
      exact a.st b hb
theorem Ext.am {T : Tb} {G H G' H' : Hp} (e : Ext T G H G' H') {v : V} {y : Str → Int} (h : IsAm H v y) : IsAm H' v y := let ⟨a, b, h1, h2, h3⟩ := h; ⟨a, b, h1, e.hh _ _ h2 (fun ps z => by cases z), h3⟩
variable {P : Program} {w : World} {K : PySem.W.Frag} {mg : Str → Option Value} {base : Heap} {T : Tb}
section
variable {σ : L2.St} {H : Hp} {Q : VK} {i j : Nat} {v vi : V}
theorem it0 {it : It} (hs : σ[i]? = some (some v)) (h : IsIt K H v it) (q : Q (.str it.key) H) : tOp (rIxT K) (tVar i) (tC (.int 0)) σ H Q := by
  obtain ⟨a, rfl, ht⟩ := h
  exact ⟨_, hs, a, _, 0, .str it.key, rfl, rfl, ht, atI_nat (j := 0) rfl, q⟩
theorem it2 {it : It} (hs : σ[i]? = some (some v)) (h : IsIt K H v it) (q : Q (.int it.w) H) : tOp (rIxT K) (tVar i) (tC (.int 2)) σ H Q := by
  obtain ⟨a, rfl, ht⟩ := h
  exact ⟨_, hs, a, _, 2, .int it.w, rfl, rfl, ht, atI_nat (j := 2) rfl, q⟩
theorem am_get {y : Str → Int} {it : It} (hd : σ[i]? = some (some v)) (ha : IsAm H v y) (hi : σ[j]? = some (some vi)) (ht : IsIt K H vi it) (q : Q (.int (y it.key)) H) :
    tDGet2 (tVar i) (tOp (rIxT K) (tVar j) (tC (.int 0))) (tC (.int 0)) σ H Q := by
  obtain ⟨a, kvs, rfl, hk, hm⟩ := ha
  refine ⟨_, hd, a, rfl, .inl ⟨kvs, .inl hk⟩, it0 hi ht ⟨valV kvs (Sum.inr it.key), DGet.k (k := Sum.inr it.key) hk, ?_⟩⟩
  rw [hm]
  exact q
end
/-! ### whole numbers, amounts -/
def spWn (T : Tb) (K : PySem.W.Frag) : Sp := fun vs H Q _ => ∃ (G : Hp) (n : Int), vs = [.int n] ∧ Same G H ∧ Gives T G H (fun G' v => IsFr K G' v (n : Rat)) Q
theorem sc_wn : FnScope ["number"] ["number"] (defScope (topS 23)) := ⟨rfl, rfl, rfl, by decide +kernel, rfl, by decide +kernel, by decide +kernel⟩
theorem ok_wn (D : Def K mg "whole_number" (topS 23) ["number"]) (C : Cal P w K mg base 1 "lowest" ["p", "q"] (spLow T K)) : Cal P w K mg base 2 "whole_number" ["number"] (spWn T K) := by
  refine D.ok sc_wn (fun vs H Q E h => ?_) (fun f cdv A outer s H vs Q E hr h => ?_)
  · obtain ⟨G, n, rfl, _⟩ := h
    rfl
  · obtain ⟨G, n, rfl, hs, k⟩ := h
    refine ⟨_, pss_one (ps_ret (C.pe hr (by rfl) (pa_cons (pv 0) (pa_cons pe_int pa_nil)))), ?_⟩
    refine ⟨_, rfl, G, n, 1, rfl, hs, by decide, by show 1 < 2 ^ 1900; exact Nat.one_lt_two_pow (by decide), fun v G' H' e r => k v G' H' e ?_⟩
    rw [whole_val] at r
    exact r
def spAm (K : PySem.W.Frag) : Sp := fun vs H Q _ => ∃ (a i : V) (y : Str → Int) (it : It), vs = [a, i] ∧ IsAm H a y ∧ IsIt K H i it ∧ Q (.int (y it.key)) H
theorem sc_am : FnScope ["amounts", "item"] ["amounts", "item"] (defScope (topS 24)) := ⟨rfl, rfl, rfl, by decide +kernel, rfl, by decide +kernel, by decide +kernel⟩
theorem ok_am (D : Def K mg "amount_of" (topS 24) ["amounts", "item"]) : Cal P w K mg base 1 "amount_of" ["amounts", "item"] (spAm K) := by
  refine D.ok sc_am (fun vs H Q E h => ?_) (fun f cdv A outer s H vs Q E hr h => ?_)
  · obtain ⟨a, i, y, it, rfl, _⟩ := h
    rfl
  · obtain ⟨a, i, y, it, rfl, ha, hi, k⟩ := h
    refine ⟨_, pss_one (ps_ret (pe_dget2 (hu_of hr) (pv 0) (pe_ix ix_tup (pv 1) pe_int (fun _ _ => rfl)) pe_int ⟨rfl, rfl, rfl, rfl⟩)), ?_⟩
    exact am_get rfl ha rfl hi k
def spTrue (T : Tb) (K : PySem.W.Frag) : Sp := fun vs H Q _ => ∃ (G : Hp) (l a : V) (its : List It) (y : Str → Int), vs = [l, a] ∧ Same G H ∧ IsLs K (IsIt K G) G l its ∧ its.length ≤ 100000 ∧ IsAm H a y ∧
  ∀ G' H', Ext T G H G' H' → Q (.int (its.map fun i => y i.key).sum) H'
theorem ints_of {α : Type} {f : α → Int} : ∀ {vs : List V} {xs : List α}, Paired (fun v x => v = .int x) vs (xs.map f) → vs = (xs.map f).map V.int
  | _, [], .nil => rfl
  | _, x :: xs, .cons h t => by rw [h, ints_of t]; rfl
theorem bools_of {α : Type} {f : α → Bool} : ∀ {vs : List V} {xs : List α}, Paired (fun v x => v = .bl x) vs (xs.map f) → vs = (xs.map f).map V.bl
  | _, [], .nil => rfl
  | _, x :: xs, .cons h t => by rw [h, bools_of t]; rfl
theorem sc_true : FnScope ["things", "amounts", "item"] ["things", "amounts"] (defScope (topS 25)) := ⟨rfl, rfl, rfl, by decide +kernel, rfl, by decide +kernel, by decide +kernel⟩
theorem ok_true (N : Nm K mg) (D : Def K mg "true_sum" (topS 25) ["things", "amounts"]) (C : Cal P w K mg base 1 "amount_of" ["amounts", "item"] (spAm K)) : Cal P w K mg base 2 "true_sum" ["things", "amounts"] (spTrue T K) := by
  refine D.ok sc_true (fun vs H Q E h => ?_) (fun f cdv A outer s H vs Q E hr h => ?_)
  · obtain ⟨G, l, a, its, y, rfl, _⟩ := h
    rfl
  · obtain ⟨G, lv, av, its, y, rfl, hs, ⟨l, ws, rfl, hl, hp⟩, hn, ha, k⟩ := h
    refine ⟨_, pss_one (ps_ret (pe_callB (cr_sum rfl) (by rfl) N.sum (by decide +kernel) (pa_cons
        (pe_lc (own := [("item", 2)]) (g := gName 2) (tt := tYes) rfl sc_true.nd (pi_list (pv 0)) (blkOk_by (N := ["things", "amounts", "item"]) (sc := defScope (topS 25)) (by decide +kernel))
          (fun _ _ _ _ _ => pg_name (i := 2) sc_true.nd rfl (Or.inl rfl)) (fun _ _ _ _ _ => pts_nil)
          (fun _ _ _ _ _ => C.pe hr (by rfl) (pa_cons (pv 1) (pa_cons (pv 2) pa_nil)))) pa_nil))), ?_⟩
    refine ⟨.ref l, rfl, l, rfl, ⟨_, hs.seq hl⟩, lc_pure (T := T) (G := G) (vs := ws) (xs := its) (R := fun G' v (n : Int) => v = .int n) (f := fun i => y i.key) hs hl hp (by rw [hp.length]; exact hn) (fun _ _ _ _ e q => q)
      (fun i x it G' H' Qe hy hxy e k' => ?_) fun D G1 H1 e1 nD hD => ?_⟩
    · exact ⟨rfl, av, rfl, x, rfl, av, x, y, it, rfl, e.am ha, hxy.of (e.gg.trans e.gh), k' _ G' H' (Ext.refl e.gh) rfl⟩
    · obtain ⟨d, ds, hd, hl', hp'⟩ := hD
      cases hd
      rw [ints_of hp'] at hl'
      exact ⟨D, _, rfl, e1.gh.seq hl', k G1 H1 e1⟩
/-! ### samples -/
def sf (k : Int) (pa ka : Addr) : List (Str × V) := putF "kept" (.ref ka) (putF "parts" (.ref pa) (putF "size" (.int k) []))
theorem sf_parts (k : Int) (pa ka : Addr) : (sf k pa ka).lookup ("parts" : Str) = some (.ref pa) := by
  unfold sf
  rw [lookup_putF, if_neg (by decide +kernel), lookup_putF, if_pos rfl]
theorem sf_kept (k : Int) (pa ka : Addr) : (sf k pa ka).lookup ("kept" : Str) = some (.ref ka) := by
  unfold sf
  rw [lookup_putF, if_pos rfl]
structure Kl (K : PySem.W.Frag) (mg : Str → Option Value) (C CU : Addr) : Prop where
  cl : Cls K C
  nS : NoAttr K C "size"
  nP : NoAttr K C "parts"
  nK : NoAttr K C "kept"
  gC : mg "Optimal" = some (.ref C)
  gU : mg "Uniform" = some (.ref CU)
  ha : PySem.W.findIn K (.ref C) "__class__" = some (some (.builtin "object.__class__"))
  hn : PySem.W.specialIn K (.builtin "object.__class__") "__get__" = some (some (.builtin "getset_descriptor.__get__"))
  htk : PySem.W.takesIn K (.builtin "object.__class__") = some true
  hm : PySem.W.mroIn K C (.type "object") = some true
  kU : PySem.W.kitOne K (.ref C) (.ref CU) = some false
  kC : PySem.W.kitOne K (.ref C) (.ref C) = some true
/-- a sample of the class at C -/
def IsSm (K : PySem.W.Frag) (C : Addr) (G : Hp) (v : V) (ps : List (It × Rat)) : Prop := ∃ (p dx pa ka : Addr) (k : Int), v = .ref p ∧ G p = some (.ins C dx (sf k pa ka)) ∧ IsPts K G (.ref pa) ps ∧ IsLs K (IsIt K G) G (.ref ka) (ps.map (·.1))
theorem IsSm.of {C : Addr} {G H : Hp} {v : V} {ps : List (It × Rat)} (e : Same G H) (h : IsSm K C G v ps) : IsSm K C H v ps := by
  obtain ⟨p, dx, pa, ka, k, h1, h2, h3, h4⟩ := h
  exact ⟨p, dx, pa, ka, k, h1, e _ _ h2, h3.of e, IsLs.of (fun _ _ q => IsIt.of e q) e h4⟩
section
variable {C CU : Addr}
theorem Kl.ty (L : Kl K mg C CU) {H : Hp} {p dx : Addr} {fs : List (Str × V)} (h : H p = some (.ins C dx fs)) : TyX K H (.ref p) (.ref C) := .base (.ins h L.cl L.ha L.hn L.htk L.hm)
def spWhole (T : Tb) (K : PySem.W.Frag) (C : Addr) : Sp := fun vs H Q _ => ∃ (G : Hp) (v : V) (ps : List (It × Rat)), vs = [v] ∧ Same G H ∧ IsSm K C G v ps ∧ ps.length ≤ 100000 ∧
  ∀ G' H', Ext T G H G' H' → Q (.bl ((ps.map fun p => decide (p.2 = (p.1.w : Rat))).all id)) H'
theorem sc_whole : FnScope ["sample", "item", "adjusted"] ["sample"] (defScope (topS 26)) := ⟨rfl, rfl, rfl, by decide +kernel, rfl, by decide +kernel, by decide +kernel⟩
theorem ok_whole (N : Nm K mg) (L : Kl K mg C CU) (D : Def K mg "is_whole" (topS 26) ["sample"]) (CW : Cal P w K mg base 2 "whole_number" ["number"] (spWn T K)) : Cal P w K mg base 3 "is_whole" ["sample"] (spWhole T K C) := by
  refine D.ok sc_whole (fun vs H Q E h => ?_) (fun f cdv A outer s H vs Q E hr h => ?_)
  · obtain ⟨G, v, ps, rfl, _⟩ := h
    rfl
  · obtain ⟨G, v, ps, rfl, hs, ⟨p, dx, pa, ka, k0, rfl, hp, hP, hK⟩, hn, k⟩ := h
    refine ⟨_, pss_cons (ps_if (pt_val (pe_callB call_isi (by rfl) N.isi (by decide +kernel) (pa_cons (pv 0) (pa_cons (pe_glob (v := .ref CU) (by rfl) L.gU rfl) pa_nil)))) (pss_one ps_never) pss_nil)
      (pss_cons (ps_if (pt_val (pe_callB call_isi (by rfl) N.isi (by decide +kernel) (pa_cons (pv 0) (pa_cons (pe_glob (v := .ref C) (by rfl) L.gC rfl) pa_nil))))
        (pss_one (ps_ret (pe_callB (cr_all rfl) (by rfl) N.all (by decide +kernel) (pa_cons
          (pe_lc (own := [("item", 1), ("adjusted", 2)]) (g := gTup K 2 (gCons (gName 1) (gCons (gName 2) gNil))) (tt := tYes) rfl sc_whole.nd (pi_list (pe_fld (pv 0) rfl)) (blkOk_by (N := ["sample", "item", "adjusted"]) (sc := defScope (topS 26)) (by decide +kernel))
            (fun _ _ _ _ _ => pg_tup (by rfl) (pgs_cons (pg_name (i := 1) sc_whole.nd rfl (Or.inl rfl)) (pgs_cons (pg_name (i := 2) sc_whole.nd rfl (Or.inl rfl)) pgs_nil))) (fun _ _ _ _ _ => pts_nil)
            (fun _ _ _ _ _ => pe_cmpR (r := rEqD K) (op_eqD (hu64 hr)) (pv 2) (CW.pe hr (by rfl) (pa_cons (pe_ix (r := rIxT K) ix_tup (pv 1) pe_int (fun _ _ => rfl)) pa_nil)) (nomark _))) pa_nil)))) pss_nil)
      (pss_one ps_never)), ?_⟩
    have hp' : H p = some (.ins C dx (sf k0 pa ka)) := hs _ _ hp
    refine ⟨.ref p, rfl, .ref p, .ref CU, .ref C, .ref CU, false, rfl, .own CU, L.ty hp', L.kU, _, rfl, iteF ?_⟩
    refine ⟨.ref p, rfl, .ref p, .ref C, .ref C, .ref C, true, rfl, .own C, L.ty hp', L.kC, _, rfl, iteT ?_⟩
    obtain ⟨l, ws, e, hl, hpp⟩ := hP
    cases e
    refine ⟨.ref p, rfl, p, C, dx, _, .ref pa, rfl, hp', L.cl, L.nP, sf_parts _ _ _, pa, rfl, ⟨_, hs.seq hl⟩, lc_pure (T := T) (G := G) (vs := ws) (xs := ps) (R := fun G' v (b : Bool) => v = .bl b) (f := fun p => decide (p.2 = (p.1.w : Rat))) hs hl hpp (by rw [hpp.length]; exact hn) (fun _ _ _ _ e q => q)
      (fun i x q G' H' Qe hy hxy e k' => ?_) fun D G1 H1 e1 nD hD => ?_⟩
    · obtain ⟨t, v1, v2, rfl, ht, h1, h2⟩ := hxy
      have egh := e.gg.trans e.gh
      refine ⟨t, _, rfl, sameT egh ht, rfl, v1, _, rfl, v2, _, rfl, rfl, rfl, v2, rfl, ?_⟩
      refine it2 rfl (h1.of egh) ⟨G', q.1.w, rfl, e.gh, fun wv G4 H4 e4 hw => ?_⟩
      refine ⟨frD q.2, frD (q.1.w : Rat), ((h2.of e.gg).of (e4.gg.trans e4.gh)).dp, (hw.of e4.gh).dp, frD_shaped _, frD_shaped _, ?_⟩
      rw [frD_eqv]
      exact k' _ G4 H4 e4 rfl
    · obtain ⟨d, ds, hd, hl', hp'⟩ := hD
      cases hd
      rw [bools_of hp'] at hl'
      exact ⟨D, _, rfl, e1.gh.seq hl', k G1 H1 e1⟩
end
end K36

set_option Elab.async false
set_option autoImplicit false
set_option linter.all false
set_option maxRecDepth 100000
set_option maxHeartbeats 4000000
/-! Making samples, their estimates, the known variance. -/
namespace K36
open PySem PySem.Spec PyProof.Rows L2
/-! ### plain: sizes -/
def wt (i : It) : Rat := (i.w : Rat)
def yv (y : Str → Int) (i : It) : Rat := (y i.key : Rat)
def ItW (i : It) : Prop := 1 ≤ i.w ∧ i.w ≤ 1000
theorem ItW.bd {i : It} (h : ItW i) : Bd 1 1000 (wt i) := Bd.int (by have := h.1; have := h.2; omega)
theorem ItW.pos {i : It} (h : ItW i) : 0 < wt i := by
  have h1 := h.1
  have : (0 : Int) < i.w := by omega
  exact Rat.intCast_pos.mpr this
theorem ItW.sm {i : It} (h : ItW i) : Sm (wt i) := h.bd.sml (a := 0) (b := 10) (by decide) (by decide) (by decide)
theorem Bd.divw {D M : Nat} {x : Rat} {i : It} (h : Bd D M x) (hi : ItW i) : Bd (D * i.w.toNat) M (x / wt i) := by
  have h1 : 1 ≤ i.w.toNat := by have := hi.1; omega
  have h2 : ((i.w.toNat : Nat) : Rat) = wt i := by
    have : ((i.w.toNat : Nat) : Int) = i.w := by have := hi.1; omega
    unfold wt
    rw [← this]
    exact Rat.intCast_natCast i.w.toNat |>.symm
  have := h.div h1
  rw [h2] at this
  exact this
/-- amounts of at most ten -/
def YOk (y : Str → Int) : Prop := ∀ s, (y s).natAbs ≤ 10
theorem YOk.bd {y : Str → Int} (h : YOk y) (i : It) : Bd 1 10 (yv y i) := Bd.int (h i.key)
theorem YOk.bd2 {y : Str → Int} (h : YOk y) (i : It) : Bd 1 100 (yv y i * yv y i) := ((h.bd i).mul (h.bd i)).mono (by decide)
/-- parts: five at most, adjusted weights in sixths, one common multiple of the weights -/
structure PsOk (ps : List (It × Rat)) : Prop where
  len : ps.length ≤ 5
  w : ∀ p ∈ ps, ItW p.1
  a : ∀ p ∈ ps, Bd 6 30000 p.2
  com : ∃ Pn : Nat, 0 < Pn ∧ Pn ≤ 2 ^ 50 ∧ ∀ p ∈ ps, p.1.w.toNat ∣ Pn
structure EstSz (y : Str → Int) (ps : List (It × Rat)) : Prop where
  a : ∀ p ∈ ps, Sm p.2
  sc : ∀ p ∈ ps, Sm (p.2 / wt p.1)
  am : ∀ p ∈ ps, Sm (yv y p.1)
  t : ∀ p ∈ ps, Sm (yv y p.1 * (p.2 / wt p.1))
  fs : ∀ i, Sm (sm (ps.take i) (fun p => yv y p.1 * (p.2 / wt p.1)))
  aa : ∀ p ∈ ps, Sm (yv y p.1 * yv y p.1)
  d : ∀ p ∈ ps, Sm (p.2 - wt p.1)
  dw : ∀ p ∈ ps, Sm ((p.2 - wt p.1) / wt p.1)
  sd : ∀ p ∈ ps, Sm ((p.2 / wt p.1) * ((p.2 - wt p.1) / wt p.1))
  m : ∀ p ∈ ps, Sm ((yv y p.1 * yv y p.1) * ((p.2 / wt p.1) * ((p.2 - wt p.1) / wt p.1)))
  vs : ∀ i, Sm (sm (ps.take i) (fun p => (yv y p.1 * yv y p.1) * ((p.2 / wt p.1) * ((p.2 - wt p.1) / wt p.1))))
theorem w_le {i : It} (h : ItW i) : i.w.toNat ≤ 2 ^ 10 := by
  have h1 := h.1
  have h2 := h.2
  have : (2 : Nat) ^ 10 = 1024 := by decide
  omega
theorem EstSz.of {y : Str → Int} (hy : YOk y) {ps : List (It × Rat)} (h : PsOk ps) : EstSz y ps := by
  obtain ⟨Pn, p0, pl, pd⟩ := h.com
  have hl := h.len
  have b1 : ∀ p ∈ ps, Bd (6 * Pn) 30000 (p.2 / wt p.1) := fun p hp => ((h.a p hp).divw (h.w p hp)).up (by omega) (Nat.mul_dvd_mul_left 6 (pd p hp))
  have l1 : 6 * Pn ≤ 2 ^ 53 := Nat.le_trans (Nat.mul_le_mul (show 6 ≤ 2 ^ 3 by decide) pl) (by decide)
  have q1 : 0 < 6 * Pn := by omega
  have b2 : ∀ p ∈ ps, Bd (6 * Pn) (2 ^ 20) (yv y p.1 * (p.2 / wt p.1)) := fun p hp => by
    have := (hy.bd p.1).mul (b1 p hp)
    rw [Nat.one_mul] at this
    exact this.mono (by decide)
  have b3 : ∀ p ∈ ps, Bd 6 31000 (p.2 - wt p.1) := fun p hp => (h.a p hp).sub ((h.w p hp).bd.up (by decide) (by decide))
  have b4 : ∀ p ∈ ps, Bd (6 * Pn) 31000 ((p.2 - wt p.1) / wt p.1) := fun p hp => ((b3 p hp).divw (h.w p hp)).up q1 (Nat.mul_dvd_mul_left 6 (pd p hp))
  have b5 : ∀ p ∈ ps, Bd (6 * Pn * (6 * Pn)) (2 ^ 30) ((p.2 / wt p.1) * ((p.2 - wt p.1) / wt p.1)) := fun p hp => ((b1 p hp).mul (b4 p hp)).mono (by decide)
  have l2 : 6 * Pn * (6 * Pn) ≤ 2 ^ 106 := pow_mul_le l1 l1
  have q2 : 0 < 6 * Pn * (6 * Pn) := Nat.mul_pos q1 q1
  have b6 : ∀ p ∈ ps, Bd (6 * Pn * (6 * Pn)) (2 ^ 37) ((yv y p.1 * yv y p.1) * ((p.2 / wt p.1) * ((p.2 - wt p.1) / wt p.1))) := fun p hp => by
    have := (hy.bd2 p.1).mul (b5 p hp)
    rw [Nat.one_mul] at this
    exact this.mono (by decide)
  refine ⟨fun p hp => (h.a p hp).sml (a := 3) (b := 15) (by decide) (by decide) (by decide), fun p hp => (b1 p hp).sml l1 (b := 15) (by decide) (by decide), fun p hp => (hy.bd p.1).sml (a := 0) (b := 4) (by decide) (by decide) (by decide),
    fun p hp => (b2 p hp).sml l1 (Nat.le_refl _) (by decide), fun i => ((take_bd q1 b2 i).mono (show ps.length * 2 ^ 20 ≤ 2 ^ 23 from Nat.le_trans (Nat.mul_le_mul_right _ hl) (by decide))).sml l1 (Nat.le_refl _) (by decide),
    fun p hp => (hy.bd2 p.1).sml (a := 0) (b := 7) (by decide) (by decide) (by decide), fun p hp => (b3 p hp).sml (a := 3) (b := 15) (by decide) (by decide) (by decide),
    fun p hp => (b4 p hp).sml l1 (b := 15) (by decide) (by decide), fun p hp => (b5 p hp).sml l2 (Nat.le_refl _) (by decide), fun p hp => (b6 p hp).sml l2 (Nat.le_refl _) (by decide),
    fun i => ((take_bd q2 b6 i).mono (show ps.length * 2 ^ 37 ≤ 2 ^ 40 from Nat.le_trans (Nat.mul_le_mul_right _ hl) (by decide))).sml l2 (Nat.le_refl _) (by decide)⟩
/-! ### walks -/
variable {P : Program} {w : World} {K : PySem.W.Frag} {mg : Str → Option Value} {base : Heap} {T : Tb} {C CU : Addr}
def spInit (T : Tb) (K : PySem.W.Frag) (C : Addr) : Sp := fun vs H Q _ => ∃ (G0 H0 G : Hp) (p dx : Addr) (k : Int) (l : V) (ps : List (It × Rat)), vs = [.ref p, .int k, l] ∧ Ext T G0 H0 G H ∧ H0 p = none ∧ G p = none ∧ H p = some (.ins C dx []) ∧
  IsLs K (IsPt K G) H l ps ∧ ps.length ≤ 100000 ∧
  ∀ G' H' pa ka, Ext T G0 H0 G' H' → H' p = some (.ins C dx (sf k pa ka)) → G' p = none → IsPts K G' (.ref pa) ps → IsLs K (IsIt K G') G' (.ref ka) (ps.map (·.1)) → Q .non H'
theorem ins_nt {C dx : Addr} {fs : List (Str × V)} : ∀ ps, (HO.ins C dx fs) ≠ .tbl ps := fun ps z => by cases z
theorem ins_ne {C dx : Addr} {fs : List (Str × V)} : ∀ φ, (HO.ins C dx fs) ≠ .ext φ := fun φ z => by cases z
abbrev sInit : Stmt := inClass (topS 20) 0
theorem sc_init : FnScope ["self", "size", "parts", "item", "_"] ["self", "size", "parts"] (defScope sInit) := ⟨rfl, rfl, rfl, by decide +kernel, rfl, by decide +kernel, by decide +kernel⟩
theorem ok_init {f : Addr} {fd : FuncData} (N : Nm K mg) (L : Kl K mg C CU) (F : Fun K "__init__" "Optimal.__init__" sInit f fd) : FnOk P w K mg base CX0 1 f fd ["self", "size", "parts"] (spInit T K C) := by
  refine F.ok sc_init (fun vs H Q E h => ?_) (fun cdv A outer s H vs Q E hr h => ?_)
  · obtain ⟨G0, H0, G, p, dx, k, l, ps, rfl, _⟩ := h
    rfl
  · obtain ⟨G0, H0, G, p, dx, k, lv, ps, rfl, e, h0, g0, hp, ⟨l, ws, rfl, hl, hpp⟩, hn, kk⟩ := h
    refine ⟨_, pss_cons (ps_fld (pv 0) (pv 1) rfl)
      (pss_cons (ps_fld (pv 0) (pe_callTy call_list_of (by rfl) N.list (by decide +kernel) (pa_cons (pv 2) pa_nil)) rfl)
      (pss_one (ps_fld (pv 0) (pe_lc (own := [("item", 3), ("_", 4)]) (g := gTup K 2 (gCons (gName 3) (gCons (gName 4) gNil))) (tt := tYes) rfl sc_init.nd (pi_list (pe_fld (pv 0) rfl)) (blkOk_by (N := ["self", "size", "parts", "item", "_"]) (sc := defScope sInit) (by decide +kernel))
          (fun _ _ _ _ _ => pg_tup (by rfl) (pgs_cons (pg_name (i := 3) sc_init.nd rfl (Or.inl rfl)) (pgs_cons (pg_name (i := 4) sc_init.nd rfl (Or.inl rfl)) pgs_nil))) (fun _ _ _ _ _ => pts_nil)
          (fun _ _ _ _ _ => pv 3)) rfl))), ?_⟩
    have npl : l ≠ p ∨ True := .inr trivial
    -- self.size = size
    refine ⟨.int k, rfl, .ref p, rfl, p, C, dx, [], rfl, hp, L.cl, L.nS, (by show 0 < 1000; decide), ?_⟩
    have e1 := e.write' (o := .ins C dx (putF "size" (.int k) [])) hp ins_nt ins_ne h0 g0
    -- self.parts = list(parts)
    have hl1 : SqL K (upd H p (.ins C dx (putF "size" (.int k) []))) l ws := by
      rcases hl with (h | ⟨o, h⟩) | h
      · exact .inl (.inl (by rw [upd_ne (ne_of h hp (by intro z; cases z))]; exact h))
      · exact .inl (.inr ⟨o, by rw [upd_ne (ne_of h hp (by intro z; cases z))]; exact h⟩)
      · exact .inr h
    refine ⟨.ref l, rfl, l, ws, rfl, .inl hl1, fun pa npa => ?_⟩
    have hp1 : (upd H p (.ins C dx (putF "size" (.int k) []))) p = some (.ins C dx (putF "size" (.int k) [])) := upd_same
    have e2 := e1.trans (Ext.new (T := T) (o := .lst ws) e1.gh npa (by intro ps q; cases q))
    have nppa : p ≠ pa := ne_of_none hp1 npa
    have gpa : (upd G pa (.lst ws)) p = none := by rw [upd_ne nppa]; exact g0
    have hp2 : upd (upd H p (.ins C dx (putF "size" (.int k) []))) pa (.lst ws) p = some (.ins C dx (putF "size" (.int k) [])) := by rw [upd_ne nppa]; exact hp1
    refine ⟨.ref p, rfl, p, C, dx, _, rfl, hp2, L.cl, L.nP, (by show 1 < 1000; decide), ?_⟩
    have e3 := e2.write' (o := .ins C dx (putF "parts" (.ref pa) (putF "size" (.int k) []))) hp2 ins_nt ins_ne h0 gpa
    have hp3 : (upd (upd (upd H p (.ins C dx (putF "size" (.int k) []))) pa (.lst ws)) p (.ins C dx (putF "parts" (.ref pa) (putF "size" (.int k) [])))) p = some (.ins C dx (putF "parts" (.ref pa) (putF "size" (.int k) []))) := upd_same
    -- self.kept = [..]
    have lk : (putF "parts" (.ref pa) (putF "size" (.int k) [])).lookup ("parts" : Str) = some (.ref pa) := by rw [lookup_putF, if_pos rfl]
    have hpp2 : Paired (IsPt K (upd G pa (.lst ws))) ws ps := Paired.imp (fun v x q => q.of (same_new (e1.gh.free npa))) hpp
    refine ⟨.ref p, rfl, p, C, dx, _, .ref pa, rfl, hp3, L.cl, L.nP, lk, pa, rfl, ⟨_, e3.gh.seq (SqL.of upd_same)⟩, lc_pure (T := T) (G := upd G pa (.lst ws)) (vs := ws) (xs := ps) (R := fun G' v (i : It) => IsIt K G' v i) (f := fun p => p.1) e3.gh (SqL.of upd_same) hpp2 (by rw [hpp.length]; exact hn) (fun _ _ _ _ e q => q.of e)
      (fun i x q G' H' Qe hy hxy e k' => ?_) fun D G1 H1 e4 nD hD => ?_⟩
    · obtain ⟨t, v1, v2, rfl, ht, h1, h2⟩ := hxy
      exact ⟨t, _, rfl, sameT (e.gg.trans e.gh) ht, rfl, v1, _, rfl, v2, _, rfl, rfl, rfl, v1, rfl, k' v1 G' H' (Ext.refl e.gh) (h1.of e.gg)⟩
    · have hp4 : H1 p = some (.ins C dx (putF "parts" (.ref pa) (putF "size" (.int k) []))) := e4.hh _ _ hp3 ins_nt
      have g4 : G1 p = none := e4.out hp3 gpa
      refine ⟨.ref p, rfl, p, C, dx, _, rfl, hp4, L.cl, L.nK, (by show 2 < 1000; decide), ?_⟩
      have e5 := (e3.trans e4).write' (o := .ins C dx (sf k pa D)) hp4 ins_nt ins_ne h0 g4
      exact kk G1 _ pa D e5 upd_same g4 ⟨pa, ws, rfl, e4.gg.seq (SqL.of upd_same), Paired.imp (fun v x q => q.of e4.gg) hpp2⟩ hD
def spEstO (T : Tb) (K : PySem.W.Frag) (C : Addr) : Sp := fun vs H Q _ => ∃ (G : Hp) (v a : V) (ps : List (It × Rat)) (y : Str → Int), vs = [v, a] ∧ Same G H ∧ IsSm K C G v ps ∧ IsAm H a y ∧ PsOk ps ∧ YOk y ∧
  Gives T G H (fun G' v => IsRow K G' v (est wt (yv y) ps, told wt (yv y) ps)) Q
theorem sc_esto : FnScope ["sample", "amounts", "found", "variance", "item", "adjusted", "weight", "scale", "amount", "more"] ["sample", "amounts"] (defScope (topS 32)) := ⟨rfl, rfl, rfl, by decide +kernel, rfl, by decide +kernel, by decide +kernel⟩
theorem ok_esto (L : Kl K mg C CU) (D : Def K mg "estimate_optimal" (topS 32) ["sample", "amounts"]) (Z : Zero K mg "NOTHING_estimates") (CW : Cal P w K mg base 2 "whole_number" ["number"] (spWn T K)) (CO : Cal P w K mg base 2 "over" ["a", "b"] (spBin T K okPos fun x y => x / y))
    (CA : Cal P w K mg base 2 "amount_of" ["amounts", "item"] (spAm K)) (CP : Cal P w K mg base 2 "plus" ["a", "b"] (spBin T K okAny fun x y => x + y)) (CT : Cal P w K mg base 2 "times" ["a", "b"] (spBin T K okAny fun x y => x * y)) (CM : Cal P w K mg base 2 "minus" ["a", "b"] (spBin T K okAny fun x y => x - y)) :
    Cal P w K mg base 3 "estimate_optimal" ["sample", "amounts"] (spEstO T K C) := by
  refine D.ok sc_esto (fun vs H Q E h => ?_) (fun f cdv A outer s H vs Q E hr h => ?_)
  · obtain ⟨G, v, a, ps, y, rfl, _⟩ := h
    rfl
  · obtain ⟨G, v, av, ps, y, rfl, hs, ⟨p, dx, pa, ka, k0, rfl, hp, hP, hK⟩, ha, ok, oky, k⟩ := h
    obtain ⟨z, mz, hz⟩ := Z
    have S := EstSz.of oky ok
    refine ⟨_, pss_cons (ps_set (i := 2) sc_esto.nd rfl (.inl rfl) (pe_glob (v := .ref z) (by rfl) mz rfl))
      (pss_cons (ps_set (i := 3) sc_esto.nd rfl (.inl rfl) (pe_glob (v := .ref z) (by rfl) mz rfl))
      (pss_cons (ps_for PassesOwn.never rfl (pi_list (pe_fld (pv 0) rfl)) (pg_tup rfl (pgs_cons (pg_name (i := 4) sc_esto.nd rfl (.inl rfl)) (pgs_cons (pg_name (i := 5) sc_esto.nd rfl (.inl rfl)) pgs_nil)))
        (pss_cons (ps_set (i := 6) sc_esto.nd rfl (.inl rfl) (CW.pe hr (by rfl) (pa_cons (pe_ix ix_tup (pv 4) pe_int (fun _ _ => rfl)) pa_nil)))
        (pss_cons (ps_set (i := 7) sc_esto.nd rfl (.inl rfl) (CO.pe hr (by rfl) (pa_cons (pv 5) (pa_cons (pv 6) pa_nil))))
        (pss_cons (ps_set (i := 8) sc_esto.nd rfl (.inl rfl) (CW.pe hr (by rfl) (pa_cons (CA.pe hr (by rfl) (pa_cons (pv 1) (pa_cons (pv 4) pa_nil))) pa_nil)))
        (pss_cons (ps_set (i := 2) sc_esto.nd rfl (.inl rfl) (CP.pe hr (by rfl) (pa_cons (pv 2) (pa_cons (CT.pe hr (by rfl) (pa_cons (pv 8) (pa_cons (pv 7) pa_nil))) pa_nil))))
        (pss_cons (ps_set (i := 9) sc_esto.nd rfl (.inl rfl) (CT.pe hr (by rfl) (pa_cons (CT.pe hr (by rfl) (pa_cons (pv 8) (pa_cons (pv 8) pa_nil)))
            (pa_cons (CT.pe hr (by rfl) (pa_cons (pv 7) (pa_cons (CO.pe hr (by rfl) (pa_cons (CM.pe hr (by rfl) (pa_cons (pv 5) (pa_cons (pv 6) pa_nil))) (pa_cons (pv 6) pa_nil))) pa_nil))) pa_nil))))
        (pss_one (ps_set (i := 3) sc_esto.nd rfl (.inl rfl) (CP.pe hr (by rfl) (pa_cons (pv 3) (pa_cons (pv 9) pa_nil)))))))))))
      (pss_one (ps_ret (pe_tup (pa_cons (pv 2) (pa_cons (pv 3) pa_nil))))))), ?_⟩
    have hp' : H p = some (.ins C dx (sf k0 pa ka)) := hs _ _ hp
    obtain ⟨l, ws, e, hl, hpp⟩ := hP
    cases e
    refine ⟨.ref p, rfl, p, C, dx, _, .ref pa, rfl, hp', L.cl, L.nP, sf_parts _ _ _, pa, rfl, ⟨_, hs.seq hl⟩, for_list (K := K) (a := pa) (xs := ws) (fun i σ H' => ∃ (G' : Hp) (fv vv : V) (y4 y5 y6 y7 y8 y9 : Option V), σ = [some (.ref p), some av, some fv, some vv, y4, y5, y6, y7, y8, y9] ∧
        Ext T G H G' H' ∧ IsFr K G' fv (sm (ps.take i) (fun p => yv y p.1 * (p.2 / wt p.1))) ∧ IsFr K G' vv (sm (ps.take i) (fun p => (yv y p.1 * yv y p.1) * ((p.2 / wt p.1) * ((p.2 - wt p.1) / wt p.1)))))
      ⟨G, .ref z, .ref z, none, none, none, none, none, none, rfl, Ext.refl hs, zero_fr (hz G), zero_fr (hz G)⟩ (fun i σ H' _ ⟨G', _, _, _, _, _, _, _, _, _, e, _⟩ => (e.gg.trans e.gh).seq hl) (fun i x σ H' hi hP => ?_) (fun σ H' hP => ?_)⟩
    · obtain ⟨G', fv, vv, y4, y5, y6, y7, y8, y9, rfl, e, hf, hv⟩ := hP
      obtain ⟨q, hq, ⟨t, v1, v2, rfl, ht, h1, h2⟩⟩ := Paired.get' hpp hi
      have hm := List.mem_of_getElem? hq
      have W := ok.w q hm
      have h1' := h1.of e.gg
      have h2' := h2.of e.gg
      refine ⟨t, _, rfl, sameT (e.gg.trans e.gh) ht, rfl, v1, _, rfl, v2, _, rfl, rfl, ?_⟩
      -- weight
      refine it2 rfl (h1'.of e.gh) ⟨G', q.1.w, rfl, e.gh, fun wv G2 H2 e2 hw => ?_⟩
      -- scale
      refine ⟨v2, rfl, wv, rfl, G2, v2, wv, q.2, wt q.1, rfl, e2.gh, h2'.of e2.gg, hw, S.a q hm, W.sm, W.pos, fun sv G3 H3 e3 hsv => ?_⟩
      have e23 := e2.trans e3
      -- amount
      refine ⟨av, rfl, v1, rfl, av, v1, y, q.1, rfl, (e.trans e23).am ha, h1'.of (e23.gg.trans e23.gh), G3, y q.1.key, rfl, e3.gh, fun mv G4 H4 e4 hmv => ?_⟩
      have e24 := e23.trans e4
      -- found
      refine ⟨fv, rfl, mv, rfl, sv, rfl, G4, mv, sv, yv y q.1, q.2 / wt q.1, rfl, e4.gh, hmv, hsv.of e4.gg, S.am q hm, S.sc q hm, trivial, fun tv G5 H5 e5 htv => ?_⟩
      have e25 := e24.trans e5
      refine ⟨G5, fv, tv, _, _, rfl, e5.gh, hf.of e25.gg, htv, S.fs i, S.t q hm, trivial, fun fv' G6 H6 e6 hfv' => ?_⟩
      have e26 := e25.trans e6
      have e46 := e5.trans e6
      -- more
      refine ⟨mv, rfl, mv, rfl, G6, mv, mv, yv y q.1, yv y q.1, rfl, e6.gh, hmv.of e46.gg, hmv.of e46.gg, S.am q hm, S.am q hm, trivial, fun aa G7 H7 e7 haa => ?_⟩
      have e27 := e26.trans e7
      have e37 := (e4.trans e46).trans e7
      refine ⟨sv, rfl, v2, rfl, wv, rfl, G7, v2, wv, q.2, wt q.1, rfl, e7.gh, h2'.of e27.gg, (hw.of e3.gg).of e37.gg, S.a q hm, W.sm, trivial, fun dv G8 H8 e8 hdv => ?_⟩
      have e28 := e27.trans e8
      have e38 := e37.trans e8
      refine ⟨wv, rfl, G8, dv, wv, _, wt q.1, rfl, e8.gh, hdv, (hw.of e3.gg).of e38.gg, S.d q hm, W.sm, W.pos, fun qv G9 H9 e9 hqv => ?_⟩
      have e39 := e38.trans e9
      refine ⟨G9, sv, qv, _, _, rfl, e9.gh, hsv.of e39.gg, hqv, S.sc q hm, S.dw q hm, trivial, fun pv' G10 H10 e10 hpv => ?_⟩
      have e710 := (e8.trans e9).trans e10
      refine ⟨G10, aa, pv', _, _, rfl, e10.gh, haa.of e710.gg, hpv, S.aa q hm, S.sd q hm, trivial, fun mo G11 H11 e11 hmo => ?_⟩
      -- variance
      have e211 := (e27.trans e710).trans e11
      refine ⟨vv, rfl, mo, rfl, G11, vv, mo, _, _, rfl, e11.gh, hv.of e211.gg, hmo, S.vs i, S.m q hm, trivial, fun vv' G12 H12 e12 hvv => ?_⟩
      refine ⟨G12, fv', vv', some v1, some v2, some wv, some sv, some mv, some mo, rfl, (e.trans e211).trans e12, ?_, ?_⟩
      · rw [sm_take hq]
        exact hfv'.of ((e7.trans e710).gg.trans (e11.gg.trans e12.gg))
      · rw [sm_take hq]
        exact hvv
    · obtain ⟨G', fv, vv, y4, y5, y6, y7, y8, y9, rfl, e, hf, hv⟩ := hP
      have hlx : ws.length = ps.length := hpp.length
      rw [hlx, List.take_length] at hf hv
      refine ⟨fv, rfl, vv, rfl, (by show 2 ≤ sizeLine; decide), fun b nb => ?_⟩
      have e8 : Ext T G' H' _ _ := Ext.new (o := .tup [fv, vv]) e.gh nb (by intro ps q; cases q)
      exact k (.ref b) _ _ (e.trans e8) ⟨b, fv, vv, rfl, SqT.of upd_same, hf.of e8.gg, hv.of e8.gg⟩
end K36

set_option Elab.async false
set_option autoImplicit false
set_option linter.all false
set_option maxRecDepth 100000
set_option maxHeartbeats 4000000
/-! estimate, known_optimal. -/
namespace K36
open PySem PySem.Spec PyProof.Rows L2
/-! ### plain -/
theorem cast_sum {α : Type} (f : α → Int) : ∀ l : List α, (((l.map f).sum : Int) : Rat) = sm l (fun a => (f a : Rat))
  | [] => rfl
  | a :: l => by
    rw [List.map_cons, List.sum_cons, sm_cons, ← cast_sum f l]
    push_cast
    rfl
theorem whole_est {y : Str → Int} {ps : List (It × Rat)} (hw : ∀ p ∈ ps, ItW p.1) (h : ∀ p ∈ ps, p.2 = wt p.1) : est wt (yv y) ps = ((((ps.map (·.1)).map fun i => y i.key).sum : Int) : Rat) := by
  rw [cast_sum, sm_map]
  unfold est
  refine sm_congr fun p hp => ?_
  have h1 := (hw p hp).pos
  rw [h p hp]
  show yv y p.1 * (wt p.1 / wt p.1) = yv y p.1
  grind
theorem whole_told {y : Str → Int} {ps : List (It × Rat)} (h : ∀ p ∈ ps, p.2 = wt p.1) : told wt (yv y) ps = 0 := by
  unfold told
  refine sm_zero fun p hp => ?_
  rw [h p hp]
  grind
theorem mn_split (u : Rat) : ∀ xs : List Rat, sm xs (fun w => mn w u) = sm (xs.filter fun w => decide (w < u)) id + ((xs.filter fun w => !decide (w < u)).length : Rat) * u
  | [] => by
    show (0 : Rat) = 0 + ((0 : Nat) : Rat) * u
    have : ((0 : Nat) : Rat) = 0 := rfl
    rw [this]; grind
  | x :: xs => by
    have ih := mn_split u xs
    rw [sm_cons, ih]
    by_cases h : x < u
    · have e1 : (x :: xs).filter (fun w => decide (w < u)) = x :: xs.filter (fun w => decide (w < u)) := List.filter_cons_of_pos (by simpa using h)
      have e2 : (x :: xs).filter (fun w => !decide (w < u)) = xs.filter (fun w => !decide (w < u)) := List.filter_cons_of_neg (by simpa using h)
      rw [e1, e2, sm_cons]
      unfold mn
      rw [if_pos h]
      show x + _ = x + _ + _
      grind
    · have e1 : (x :: xs).filter (fun w => decide (w < u)) = xs.filter (fun w => decide (w < u)) := List.filter_cons_of_neg (by simpa using h)
      have e2 : (x :: xs).filter (fun w => !decide (w < u)) = x :: xs.filter (fun w => !decide (w < u)) := List.filter_cons_of_pos (by simpa using h)
      rw [e1, e2, List.length_cons]
      unfold mn
      rw [if_neg h]
      have : (((xs.filter (fun w => !decide (w < u))).length + 1 : Nat) : Rat) = ((xs.filter (fun w => !decide (w < u))).length : Rat) + 1 := by push_cast; rfl
      rw [this]
      grind
theorem filter_lens {α : Type} (p : α → Bool) : ∀ l : List α, (l.filter p).length + (l.filter fun a => !p a).length = l.length
  | [] => rfl
  | a :: l => by
    have ih := filter_lens p l
    by_cases h : p a = true
    · rw [List.filter_cons_of_pos h, List.filter_cons_of_neg (by simpa using h)]
      simp only [List.length_cons]
      omega
    · rw [List.filter_cons_of_neg h, List.filter_cons_of_pos (by simpa using h)]
      simp only [List.length_cons]
      omega
theorem thr_bdG {k D M : Nat} {xs : List Rat} {u : Rat} (hD : 0 < D) (h5 : xs.length ≤ 5) (hb : ∀ x ∈ xs, Bd D M x) (pos : ∀ x ∈ xs, 0 < x) (hk : k ≤ 3) (h : Thr k xs u) : Bd (6 * D) (5 * M) u := by
  rcases h with ⟨_, e⟩ | ⟨hl, hu, he⟩
  · rw [e]
    exact (Bd.zero (by omega)).mono (Nat.zero_le _)
  · rw [mn_split] at he
    have hn := filter_lens (fun w => decide (w < u)) xs
    have bS : Bd D (5 * M) (sm (xs.filter fun w => decide (w < u)) id) := by
      refine (Bd.sm hD (f := id) (l := xs.filter fun w => decide (w < u)) fun x hx => hb x (List.mem_filter.mp hx).1).mono ?_
      exact Nat.mul_le_mul_right M (by omega)
    have hS0 : 0 ≤ sm (xs.filter fun w => decide (w < u)) id := sm_nonneg fun x hx => Rat.le_of_lt (pos x (List.mem_filter.mp hx).1)
    obtain ⟨_, ⟨z, hz⟩, _, hSle⟩ := bS
    have one : ((1 : Nat) : Rat) = 1 := rfl
    have hB : (xs.filter fun w => !decide (w < u)).length < k := by
      by_cases hbb : (xs.filter fun w => !decide (w < u)).length < k
      · exact hbb
      · exfalso
        by_cases hbk : (xs.filter fun w => !decide (w < u)).length = k
        · -- the small ones sum to nothing
          rw [hbk] at he
          have hz0 : sm (xs.filter fun w => decide (w < u)) id = 0 := by grind
          have hne : (xs.filter fun w => decide (w < u)) ≠ [] := by
            intro e
            rw [e] at hn
            simp only [List.length_nil] at hn
            omega
          have := sm_pos (ls := xs.filter fun w => decide (w < u)) (fun x hx => pos x (List.mem_filter.mp hx).1) hne
          grind
        · have h1 : k + 1 ≤ (xs.filter fun w => !decide (w < u)).length := by omega
          have h2 : (k : Rat) + 1 ≤ ((xs.filter fun w => !decide (w < u)).length : Rat) := by exact_mod_cast h1
          have h3 : 0 ≤ (((xs.filter fun w => !decide (w < u)).length : Rat) - ((k : Rat) + 1)) * u := Rat.mul_nonneg (by grind) (by grind)
          grind
    have hc6 : ((6 * D : Nat) : Rat) = 6 * (D : Rat) := by push_cast; rfl
    have h5M := cast_nn (5 * M)
    obtain ⟨j, hj⟩ : ∃ j, k = (xs.filter fun w => !decide (w < u)).length + j := ⟨k - (xs.filter fun w => !decide (w < u)).length, by omega⟩
    have hj1 : 1 ≤ j := by omega
    have hj3 : j ≤ 3 := by omega
    have ek : (k : Rat) = ((xs.filter fun w => !decide (w < u)).length : Rat) + (j : Rat) := by
      have : ((k : Nat) : Rat) = (((xs.filter fun w => !decide (w < u)).length + j : Nat) : Rat) := by rw [← hj]
      rw [this]; push_cast; rfl
    have hju : (j : Rat) * u = sm (xs.filter fun w => decide (w < u)) id := by grind
    have hj1' : (1 : Rat) ≤ (j : Rat) := by exact_mod_cast hj1
    have hule : u ≤ sm (xs.filter fun w => decide (w < u)) id := by
      have : 0 ≤ ((j : Rat) - 1) * u := Rat.mul_nonneg (by grind) (by grind)
      grind
    refine ⟨by omega, ?_, by grind, by grind⟩
    rw [hc6]
    rcases (show j = 1 ∨ j = 2 ∨ j = 3 by omega) with e | e | e
    · subst e
      refine ⟨6 * z, ?_⟩
      have : ((6 * z : Int) : Rat) = 6 * (z : Rat) := by push_cast; rfl
      rw [this, ← hz, ← hju, one]
      grind
    · subst e
      refine ⟨3 * z, ?_⟩
      have e2 : ((2 : Nat) : Rat) = 2 := rfl
      have : ((3 * z : Int) : Rat) = 3 * (z : Rat) := by push_cast; rfl
      rw [this, ← hz, ← hju, e2]
      grind
    · subst e
      refine ⟨2 * z, ?_⟩
      have e2 : ((3 : Nat) : Rat) = 3 := rfl
      have : ((2 * z : Int) : Rat) = 2 * (z : Rat) := by push_cast; rfl
      rw [this, ← hz, ← hju, e2]
      grind
theorem thr_bd {k : Nat} {xs : List Rat} {u : Rat} (W : Ws xs) (hk : k ≤ 3) (h : Thr k xs u) : Bd 6 5000 u :=
  thr_bdG Nat.one_pos W.len W.bd W.pos hk h
/-- items: five at most, weights in range, a common multiple -/
structure ItsOk (its : List It) : Prop where
  len : its.length ≤ 5
  w : ∀ i ∈ its, ItW i
theorem ItsOk.ws {its : List It} (h : ItsOk its) : Ws (its.map wt) := by
  refine ⟨by rw [List.length_map]; exact h.len, fun x hx => ?_, fun x hx => ?_⟩
  · obtain ⟨i, hi, e⟩ := List.mem_map.mp hx
    exact e ▸ (h.w i hi).bd
  · obtain ⟨i, hi, e⟩ := List.mem_map.mp hx
    exact e ▸ (h.w i hi).pos
/-- the product of all weights -/
def prodW : List It → Nat
  | [] => 1
  | i :: l => i.w.toNat * prodW l
theorem prodW_pos : ∀ {l : List It}, (∀ i ∈ l, ItW i) → 0 < prodW l
  | [], _ => Nat.one_pos
  | i :: l, h => by
    have h1 := (h i (by simp)).1
    exact Nat.mul_pos (by omega) (prodW_pos fun j hj => h j (by simp [hj]))
theorem prodW_le : ∀ {l : List It}, (∀ i ∈ l, ItW i) → prodW l ≤ 2 ^ (10 * l.length)
  | [], _ => Nat.le_refl _
  | i :: l, h => by
    have h1 := w_le (h i (by simp))
    have h2 := prodW_le (l := l) fun j hj => h j (by simp [hj])
    have := pow_mul_le h1 h2
    have e : 10 + 10 * l.length = 10 * (i :: l).length := by rw [List.length_cons]; omega
    rw [e] at this
    exact this
theorem prodW_dvd : ∀ {l : List It} {i : It}, i ∈ l → i.w.toNat ∣ prodW l
  | j :: l, i, h => by
    rcases List.mem_cons.mp h with e | e
    · subst e
      exact Nat.dvd_mul_right _ _
    · exact Nat.dvd_trans (prodW_dvd e) (Nat.dvd_mul_left _ _)
theorem ItsOk.prod {its : List It} (h : ItsOk its) : prodW its ≤ 2 ^ 50 :=
  Nat.le_trans (prodW_le h.w) (Nat.pow_le_pow_right (by decide) (by have := h.len; omega))
def kn (y : Str → Int) (t : Rat) (i : It) : Rat := if wt i < t then (yv y i * yv y i) * ((t - wt i) / wt i) else 0
structure KnSz (y : Str → Int) (t : Rat) (its : List It) : Prop where
  th : Sm t
  aa : ∀ i ∈ its, Sm (yv y i * yv y i)
  d : ∀ i ∈ its, Sm (t - wt i)
  dw : ∀ i ∈ its, Sm ((t - wt i) / wt i)
  m : ∀ i ∈ its, Sm ((yv y i * yv y i) * ((t - wt i) / wt i))
  s : ∀ j, Sm (sm (its.take j) (kn y t))
theorem KnSz.of {y : Str → Int} (hy : YOk y) {its : List It} (h : ItsOk its) {t : Rat} (ht : Bd 6 30000 t) : KnSz y t its := by
  have p0 := prodW_pos h.w
  have pl := h.prod
  have hl := h.len
  have l1 : 6 * prodW its ≤ 2 ^ 53 := Nat.le_trans (Nat.mul_le_mul (show 6 ≤ 2 ^ 3 by decide) pl) (by decide)
  have q1 : 0 < 6 * prodW its := by omega
  have b3 : ∀ i ∈ its, Bd 6 31000 (t - wt i) := fun i hi => ht.sub ((h.w i hi).bd.up (by decide) (by decide))
  have b4 : ∀ i ∈ its, Bd (6 * prodW its) 31000 ((t - wt i) / wt i) := fun i hi => ((b3 i hi).divw (h.w i hi)).up q1 (Nat.mul_dvd_mul_left 6 (prodW_dvd hi))
  have b5 : ∀ i ∈ its, Bd (6 * prodW its) (2 ^ 22) ((yv y i * yv y i) * ((t - wt i) / wt i)) := fun i hi => by
    have := (hy.bd2 i).mul (b4 i hi)
    rw [Nat.one_mul] at this
    exact this.mono (by decide)
  have b6 : ∀ i ∈ its, Bd (6 * prodW its) (2 ^ 22) (kn y t i) := fun i hi => by
    unfold kn
    split
    · exact b5 i hi
    · exact (Bd.zero q1).mono (by decide)
  exact ⟨ht.sml (a := 3) (b := 15) (by decide) (by decide) (by decide), fun i hi => (hy.bd2 i).sml (a := 0) (b := 7) (by decide) (by decide) (by decide), fun i hi => (b3 i hi).sml (a := 3) (b := 15) (by decide) (by decide) (by decide),
    fun i hi => (b4 i hi).sml l1 (b := 15) (by decide) (by decide), fun i hi => (b5 i hi).sml l1 (Nat.le_refl _) (by decide),
    fun j => ((take_bd q1 b6 j).mono (show its.length * 2 ^ 22 ≤ 2 ^ 25 from Nat.le_trans (Nat.mul_le_mul_right _ hl) (by decide))).sml l1 (Nat.le_refl _) (by decide)⟩
/-! ### walks -/
variable {P : Program} {w : World} {K : PySem.W.Frag} {mg : Str → Option Value} {base : Heap} {T : Tb} {C CU : Addr}
theorem all_dec {ps : List (It × Rat)} : ((ps.map fun p => decide (p.2 = (p.1.w : Rat))).all id) = true ↔ ∀ p ∈ ps, p.2 = wt p.1 := by
  rw [List.all_eq_true]
  constructor
  · intro h p hp
    have := h (decide (p.2 = (p.1.w : Rat))) (List.mem_map.mpr ⟨p, hp, rfl⟩)
    exact of_decide_eq_true this
  · intro h b hb
    obtain ⟨p, hp, e⟩ := List.mem_map.mp hb
    rw [← e]
    exact decide_eq_true (h p hp)
theorem sc_est : FnScope ["sample", "amounts"] ["sample", "amounts"] (defScope (topS 33)) := ⟨rfl, rfl, rfl, by decide +kernel, rfl, by decide +kernel, by decide +kernel⟩
theorem ok_est (N : Nm K mg) (L : Kl K mg C CU) (D : Def K mg "estimate" (topS 33) ["sample", "amounts"]) (Z : Zero K mg "NOTHING_estimates") (CI : Cal P w K mg base 3 "is_whole" ["sample"] (spWhole T K C)) (CW : Cal P w K mg base 3 "whole_number" ["number"] (spWn T K))
    (CT : Cal P w K mg base 3 "true_sum" ["things", "amounts"] (spTrue T K)) (CO : Cal P w K mg base 3 "estimate_optimal" ["sample", "amounts"] (spEstO T K C)) : Cal P w K mg base 4 "estimate" ["sample", "amounts"] (spEstO T K C) := by
  refine D.ok sc_est (fun vs H Q E h => ?_) (fun f cdv A outer s H vs Q E hr h => ?_)
  · obtain ⟨G, v, a, ps, y, rfl, _⟩ := h
    rfl
  · obtain ⟨G, v, av, ps, y, rfl, hs, hS, ha, ok, oky, k⟩ := h
    obtain ⟨z, mz, hz⟩ := Z
    refine ⟨_, pss_cons (ps_if (pt_val (CI.pe hr (by rfl) (pa_cons (pv 0) pa_nil)))
        (pss_one (ps_ret (pe_tup (pa_cons (CW.pe hr (by rfl) (pa_cons (CT.pe hr (by rfl) (pa_cons (pe_fld (pv 0) rfl) (pa_cons (pv 1) pa_nil))) pa_nil)) (pa_cons (pe_glob (v := .ref z) (by rfl) mz rfl) pa_nil))))) pss_nil)
      (pss_cons (ps_if (pt_val (pe_callB call_isi (by rfl) N.isi (by decide +kernel) (pa_cons (pv 0) (pa_cons (pe_glob (v := .ref CU) (by rfl) L.gU rfl) pa_nil)))) (pss_one ps_never) pss_nil)
      (pss_cons (ps_if (pt_val (pe_callB call_isi (by rfl) N.isi (by decide +kernel) (pa_cons (pv 0) (pa_cons (pe_glob (v := .ref C) (by rfl) L.gC rfl) pa_nil)))) (pss_one (ps_ret (CO.pe hr (by rfl) (pa_cons (pv 0) (pa_cons (pv 1) pa_nil))))) pss_nil)
      (pss_one ps_never))), ?_⟩
    have hlen : ps.length ≤ 100000 := by have := ok.len; omega
    refine ⟨v, rfl, G, v, ps, rfl, hs, hS, hlen, fun G1 H1 e1 => ⟨_, rfl, ite2 (fun e => ?_) (fun e => ?_)⟩⟩
    · have hw := all_dec.mp e
      obtain ⟨p, dx, pa, ka, k0, rfl, hp, hP, hK⟩ := hS
      have hp1 : H1 p = some (.ins C dx (sf k0 pa ka)) := (e1.gg.trans e1.gh) _ _ hp
      refine ⟨.ref p, rfl, p, C, dx, _, .ref ka, rfl, hp1, L.cl, L.nK, sf_kept _ _ _, av, rfl, G1, .ref ka, av, ps.map (·.1), y, rfl, e1.gh, IsLs.of (fun _ _ q => IsIt.of e1.gg q) e1.gg hK, by rw [List.length_map]; exact hlen, e1.am ha, fun G2 H2 e2 => ?_⟩
      refine ⟨G2, _, rfl, e2.gh, fun sv G3 H3 e3 hsv => ?_⟩
      refine ⟨(by show 2 ≤ sizeLine; decide), fun b nb => ?_⟩
      have e8 : Ext T G3 H3 _ _ := Ext.new (o := .tup [sv, .ref z]) e3.gh nb (by intro ps q; cases q)
      refine k (.ref b) _ _ (((e1.trans e2).trans e3).trans e8) ⟨b, sv, .ref z, rfl, SqT.of upd_same, ?_, ?_⟩
      · rw [whole_est ok.w hw]
        exact hsv.of e8.gg
      · rw [whole_told hw]
        exact zero_fr (hz _)
    · have hS1 := hS.of e1.gg
      have hS2 := hS1.of e1.gh
      obtain ⟨p, dx, pa, ka, k0, rfl, hp, hP, hK⟩ := hS2
      refine ⟨.ref p, rfl, .ref p, .ref CU, .ref C, .ref CU, false, rfl, .own CU, L.ty hp, L.kU, _, rfl, iteF ?_⟩
      refine ⟨.ref p, rfl, .ref p, .ref C, .ref C, .ref C, true, rfl, .own C, L.ty hp, L.kC, _, rfl, iteT ?_⟩
      exact ⟨.ref p, rfl, av, rfl, G1, .ref p, av, ps, y, rfl, e1.gh, hS1, e1.am ha, ok, oky, fun v' G2 H2 e2 h2 => k v' G2 H2 (e1.trans e2) h2⟩
def spKn (T : Tb) (K : PySem.W.Frag) : Sp := fun vs H Q _ => ∃ (G : Hp) (l a : V) (its : List It) (k : Nat) (y : Str → Int), vs = [l, .int (k : Int), a] ∧ Same G H ∧ IsLs K (IsIt K G) G l its ∧ IsAm H a y ∧ ItsOk its ∧ YOk y ∧ 1 ≤ k ∧ k ≤ 3 ∧
  Gives T G H (fun G' v => ∃ t, Thr k (its.map wt) t ∧ IsFr K G' v (sm its (kn y t))) Q
theorem sc_kn : FnScope ["things", "size", "amounts", "item", "found", "whole", "weight", "amount"] ["things", "size", "amounts"] (defScope (topS 34)) := ⟨rfl, rfl, rfl, by decide +kernel, rfl, by decide +kernel, by decide +kernel⟩
theorem ok_kn (D : Def K mg "known_optimal" (topS 34) ["things", "size", "amounts"]) (Z : Zero K mg "NOTHING_estimates") (CH : Cal P w K mg base 4 "threshold" ["weights", "size"] (spThr T K)) (CW : Cal P w K mg base 4 "whole_number" ["number"] (spWn T K)) (CO : Cal P w K mg base 4 "over" ["a", "b"] (spBin T K okPos fun x y => x / y))
    (CA : Cal P w K mg base 4 "amount_of" ["amounts", "item"] (spAm K)) (CP : Cal P w K mg base 4 "plus" ["a", "b"] (spBin T K okAny fun x y => x + y)) (CT : Cal P w K mg base 4 "times" ["a", "b"] (spBin T K okAny fun x y => x * y)) (CM : Cal P w K mg base 4 "minus" ["a", "b"] (spBin T K okAny fun x y => x - y)) (CL : Cal P w K mg base 4 "less" ["a", "b"] (spLess K)) :
    Cal P w K mg base 5 "known_optimal" ["things", "size", "amounts"] (spKn T K) := by
  refine D.ok sc_kn (fun vs H Q E h => ?_) (fun f cdv A outer s H vs Q E hr h => ?_)
  · obtain ⟨G, l, a, its, k, y, rfl, _⟩ := h
    rfl
  · obtain ⟨G, lv, av, its, k, y, rfl, hs, ⟨l, ws, rfl, hl, hpp⟩, ha, ok, oky, hk1, hk3, kk⟩ := h
    obtain ⟨z, mz, hz⟩ := Z
    refine ⟨_, pss_cons (ps_set (i := 4) sc_kn.nd rfl (.inl rfl) (CH.pe hr (by rfl) (pa_cons
        (pe_lc (own := [("item", 3)]) (g := gName 3) (tt := tYes) rfl sc_kn.nd (pi_list (pv 0)) (blkOk_by (N := ["things", "size", "amounts", "item", "found", "whole", "weight", "amount"]) (sc := defScope (topS 34)) (by decide +kernel))
          (fun _ _ _ _ _ => pg_name (i := 3) sc_kn.nd rfl (Or.inl rfl)) (fun _ _ _ _ _ => pts_nil)
          (fun _ _ _ _ _ => CW.pe hr (by rfl) (pa_cons (pe_ix (r := rIxT K) ix_tup (pv 3) pe_int (fun _ _ => rfl)) pa_nil))) (pa_cons (pv 1) pa_nil))))
      (pss_cons (ps_set (i := 5) sc_kn.nd rfl (.inl rfl) (pe_glob (v := .ref z) (by rfl) mz rfl))
      (pss_cons (ps_for PassesOwn.never rfl (pi_list (pv 0)) (pg_name (i := 3) sc_kn.nd rfl (.inl rfl))
        (pss_cons (ps_set (i := 6) sc_kn.nd rfl (.inl rfl) (CW.pe hr (by rfl) (pa_cons (pe_ix ix_tup (pv 3) pe_int (fun _ _ => rfl)) pa_nil)))
        (pss_one (ps_if (pt_val (CL.pe hr (by rfl) (pa_cons (pv 6) (pa_cons (pv 4) pa_nil))))
          (pss_cons (ps_set (i := 7) sc_kn.nd rfl (.inl rfl) (CA.pe hr (by rfl) (pa_cons (pv 2) (pa_cons (pv 3) pa_nil))))
          (pss_one (ps_set (i := 5) sc_kn.nd rfl (.inl rfl) (CP.pe hr (by rfl) (pa_cons (pv 5) (pa_cons (CT.pe hr (by rfl) (pa_cons (CW.pe hr (by rfl) (pa_cons (pe_op op_mulW (pv 7) (pv 7)) pa_nil))
            (pa_cons (CO.pe hr (by rfl) (pa_cons (CM.pe hr (by rfl) (pa_cons (pv 4) (pa_cons (pv 6) pa_nil))) (pa_cons (pv 6) pa_nil))) pa_nil))) pa_nil)))))) pss_nil))))
      (pss_one (ps_ret (pv 5))))), ?_⟩
    have hlx : ws.length = its.length := hpp.length
    have h5 := ok.len
    refine ⟨.ref l, rfl, l, rfl, ⟨_, hs.seq hl⟩, lc_pure (T := T) (G := G) (vs := ws) (xs := its) (R := fun G' v (x : Rat) => IsFr K G' v x) (f := wt) hs hl hpp (by omega) (fun _ _ _ _ e q => q.of e)
      (fun i x q G' H' Qe hy hxy e k' => ?_) fun Dl G1 H1 e1 nD hD => ?_⟩
    · refine ⟨rfl, ?_⟩
      exact it2 rfl (hxy.of (e.gg.trans e.gh)) ⟨G', q.w, rfl, e.gh, fun wv G4 H4 e4 hw => k' wv G4 H4 e4 hw⟩
    refine ⟨_, rfl, G1, .ref Dl, its.map wt, k, rfl, e1.gh, hD, ok.ws, hk1, hk3, fun tv G2 H2 e2 ht => ?_⟩
    obtain ⟨t, hT, htv⟩ := ht
    have bt : Bd 6 30000 t := (thr_bd ok.ws hk3 hT).mono (by decide)
    have S := KnSz.of oky ok bt
    have e12 := e1.trans e2
    -- whole = NOTHING
    refine ⟨.ref l, rfl, l, rfl, ⟨_, (e12.gg.trans e12.gh).seq hl⟩, for_list (K := K) (a := l) (xs := ws) (fun i σ H' => ∃ (G' : Hp) (sv : V) (y3 y6 y7 : Option V), σ = [some (.ref l), some (.int (k : Int)), some av, y3, some tv, some sv, y6, y7] ∧
        Ext T G H G' H' ∧ IsFr K G' tv t ∧ IsFr K G' sv (sm (its.take i) (kn y t)))
      ⟨G2, .ref z, none, none, none, rfl, e12, htv, zero_fr (hz G2)⟩ (fun i σ H' _ ⟨G', _, _, _, _, _, e, _⟩ => (e.gg.trans e.gh).seq hl) (fun i x σ H' hi hP => ?_) (fun σ H' hP => ?_)⟩
    · obtain ⟨G', sv, y3, y6, y7, rfl, e, htv', hsv⟩ := hP
      obtain ⟨q, hq, h1⟩ := Paired.get' hpp hi
      have hm := List.mem_of_getElem? hq
      have W := ok.w q hm
      have h1' := h1.of e.gg
      refine it2 rfl (h1'.of e.gh) ⟨G', q.w, rfl, e.gh, fun wv G3 H3 e3 hw => ?_⟩
      refine ⟨wv, rfl, tv, rfl, G3, wv, tv, wt q, t, rfl, e3.gh, hw, htv'.of e3.gg, W.sm, S.th, _, rfl, ite2 (fun c => ?_) (fun c => ?_)⟩
      · have hlt : wt q < t := of_decide_eq_true c
        refine ⟨av, rfl, x, rfl, av, x, y, q, rfl, (e.trans e3).am ha, h1'.of (e3.gg.trans e3.gh), ?_⟩
        have hb : (y q.key).natAbs < 2 ^ 4 := by have := oky q.key; omega
        refine ⟨sv, rfl, _, rfl, _, rfl, _, _, rfl, rfl, wide_mul hb hb (by decide) (by decide) (by decide), G3, _, rfl, e3.gh, fun aa G4 H4 e4 haa => ?_⟩
        have eaa : ((y q.key * y q.key : Int) : Rat) = yv y q * yv y q := by unfold yv; push_cast; rfl
        rw [eaa] at haa
        have e34 := e3.trans e4
        refine ⟨tv, rfl, wv, rfl, G4, tv, wv, t, wt q, rfl, e4.gh, htv'.of e34.gg, hw.of e4.gg, S.th, W.sm, trivial, fun dv G5 H5 e5 hdv => ?_⟩
        refine ⟨wv, rfl, G5, dv, wv, _, wt q, rfl, e5.gh, hdv, hw.of (e4.gg.trans e5.gg), S.d q hm, W.sm, W.pos, fun qv G6 H6 e6 hqv => ?_⟩
        have e46 := e5.trans e6
        refine ⟨G6, aa, qv, _, _, rfl, e6.gh, haa.of e46.gg, hqv, S.aa q hm, S.dw q hm, trivial, fun mv G7 H7 e7 hmv => ?_⟩
        have e37 := (e34.trans e46).trans e7
        refine ⟨G7, sv, mv, _, _, rfl, e7.gh, hsv.of e37.gg, hmv, S.s i, S.m q hm, trivial, fun sv' G8 H8 e8 hsv' => ?_⟩
        refine ⟨G8, sv', some x, some wv, some (.int (y q.key)), rfl, (e.trans e37).trans e8, htv'.of (e37.gg.trans e8.gg), ?_⟩
        rw [sm_take hq]
        have : kn y t q = (yv y q * yv y q) * ((t - wt q) / wt q) := if_pos hlt
        rw [this]
        exact hsv'
      · have hlt : ¬ wt q < t := fun z => c (decide_eq_true z)
        refine ⟨G3, sv, some x, some wv, y7, rfl, e.trans e3, htv'.of e3.gg, ?_⟩
        rw [sm_take hq]
        have : kn y t q = 0 := if_neg hlt
        rw [this]
        have e0 : sm (its.take i) (kn y t) + 0 = sm (its.take i) (kn y t) := by grind
        rw [e0]
        exact hsv.of e3.gg
    · obtain ⟨G', sv, y3, y6, y7, rfl, e, htv', hsv⟩ := hP
      rw [hlx, List.take_length] at hsv
      exact ⟨sv, rfl, kk sv G' H' e ⟨t, hT, hsv⟩⟩
end K36

set_option Elab.async false
set_option autoImplicit false
set_option linter.all false
set_option maxRecDepth 100000
set_option maxHeartbeats 4000000
/-! The law's draws: numbers, items, amounts. -/
namespace K36
open PySem PySem.Spec PyProof.Rows L2
variable {P : Program} {w : World} {K : PySem.W.Frag} {mg : Str → Option Value} {base : Heap} {T : Tb}
/-! ### mix -/
def spMix : Sp := fun vs H Q _ => ∃ a b : Int, vs = [.int a, .int b] ∧ ∀ m : Int, Q (.int m) H
theorem sc_mix : FnScope ["_law_number", "_law_k"] ["_law_number", "_law_k"] (defScope (topS 36)) := ⟨rfl, rfl, rfl, by decide +kernel, rfl, by decide +kernel, by decide +kernel⟩
theorem ok_mix (N : Nm K mg) (D : Def K mg "_law_mix" (topS 36) ["_law_number", "_law_k"]) : Cal P w K mg base 1 "_law_mix" ["_law_number", "_law_k"] spMix := by
  refine D.ok sc_mix (fun vs H Q E h => ?_) (fun f cdv A outer s H vs Q E hr h => ?_)
  · obtain ⟨a, b, rfl, _⟩ := h
    rfl
  · obtain ⟨a, b, rfl, k⟩ := h
    refine ⟨_, pss_one (ps_ret (pe_op op_modN (pe_op op_mul (pe_op op_modN (pe_callTy call_int1 (by rfl) N.int (by decide +kernel) (pa_cons
        (pe_op op_mul (pe_op op_add (pe_op op_add (pe_op op_modN (pe_callTy call_int1 (by rfl) N.int (by decide +kernel) (pa_cons (pv 0) pa_nil)) pe_int) (pe_op op_mul pe_int (pv 1))) pe_int) pe_int) pa_nil)) pe_int) pe_int) pe_int)), ?_⟩
    refine ⟨_, rfl, .inl ⟨_, rfl, _, _, rfl, rfl, (by show (1000003 : Int) ≠ 0; decide), _, rfl, _, _, rfl, rfl, .inl ⟨by decide, by decide⟩, _, _, rfl, rfl, _, _, rfl, rfl, _, _, rfl, rfl, .inr ⟨by decide, by decide⟩,
      .inl ⟨_, rfl, _, _, rfl, rfl, (by show (1000033 : Int) ≠ 0; decide), _, _, rfl, rfl, .inr ⟨by decide, by decide⟩, _, _, rfl, rfl, (by show (998244353 : Int) ≠ 0; decide), k _⟩⟩⟩
/-! ### take -/
def spTake : Sp := fun vs H Q _ => ∃ (r : Addr) (ns : List Int) (b : Int), vs = [.ref r, .int b] ∧ H r = some (.lst (ns.map V.int)) ∧ 0 < b ∧
  ∀ (ns' : List Int) (m : Int), ns'.length ≤ ns.length → 0 ≤ m → m < b → Q (.int m) (upd H r (.lst (ns'.map V.int)))
theorem upd_id {H : Hp} {r : Addr} {o : HO} (h : H r = some o) : upd H r o = H := by
  funext b
  by_cases e : b = r
  · rw [e, upd_same, h]
  · rw [upd_ne e]
theorem sc_take : FnScope ["_law_row", "_law_bound"] ["_law_row", "_law_bound"] (defScope (topS 38)) := ⟨rfl, rfl, rfl, by decide +kernel, rfl, by decide +kernel, by decide +kernel⟩
theorem ok_take (N : Nm K mg) (D : Def K mg "_law_take" (topS 38) ["_law_row", "_law_bound"]) : Cal P w K mg base 1 "_law_take" ["_law_row", "_law_bound"] spTake := by
  refine D.ok sc_take (fun vs H Q E h => ?_) (fun f cdv A outer s H vs Q E hr h => ?_)
  · obtain ⟨r, ns, b, rfl, _⟩ := h
    rfl
  · obtain ⟨r, ns, b, rfl, hH, hb, k⟩ := h
    refine ⟨_, pss_cons (ps_if (pt_not (pt_truth (pv 0) (by intro _; rfl))) (pss_one (ps_ret pe_int)) pss_nil)
      (pss_one (ps_ret (pe_op op_modN (pe_callTy call_int1 (by rfl) N.int (by decide +kernel) (pa_cons (pe_bm0 PySem.F.plainAttrs_list PySem.F.slot_list_pop PySem.F.type_list_pop mt_pop (pv 0)) pa_nil)) (pv 1)))), ?_⟩
    refine ⟨.ref r, rfl, !(ns.map V.int).isEmpty, .inl ⟨_, SqL.of hH, rfl⟩, ite2 (fun e => ?_) (fun e => ?_)⟩
    · have e0 : ns = [] := by
        cases ns with
        | nil => rfl
        | cons x l => simp at e
      subst e0
      have := k [] 0 (Nat.le_refl _) (by omega) hb
      rw [upd_id hH] at this
      exact this
    · have hne : ns ≠ [] := by
        intro z
        subst z
        simp at e
      have hlen : 0 < ns.length := List.length_pos_iff.mpr hne
      have hat : (ns.map V.int)[(ns.map V.int).length - 1]? = some (.int ns[ns.length - 1]) := by
        rw [List.length_map, List.getElem?_map, List.getElem?_eq_getElem (by omega)]
        rfl
      refine ⟨.ref r, rfl, .inl ⟨rfl, _, .inl (.inl hH)⟩, r, _, _, rfl, rfl, hH, hat, .inl ⟨_, rfl, .int b, rfl, _, _, rfl, rfl, (by omega), ?_⟩⟩
      have hm : (ns[ns.length - 1]).fmod b = ns[ns.length - 1] % b := Int.fmod_eq_emod_of_nonneg _ (by omega)
      have ed : (ns.map V.int).dropLast = ns.dropLast.map V.int := by rw [List.map_dropLast]
      show Q (.int ((ns[ns.length - 1]).fmod b)) (upd H r (.lst ((ns.map V.int).dropLast)))
      rw [hm, ed]
      exact k _ _ (by rw [List.length_dropLast]; omega) (Int.emod_nonneg _ (by omega)) (Int.emod_lt_of_pos _ hb)
/-! ### numbers -/
def spNums (K : PySem.W.Frag) : Sp := fun vs H Q _ => ∃ (a : Addr) (ns : List Int), vs = [.ref a, .int 90] ∧ SqL K H a (ns.map V.int) ∧ ns.length ≤ 63 ∧
  ∀ (H' : Hp) (r : Addr) (ns' : List Int), Same H H' → H r = none → H' r = some (.lst (ns'.map V.int)) → Q (.ref r) H'
theorem cut_ints (ns : List Int) (lo hi : Option Int) : ∃ ms : List Int, cutV (ns.map V.int) lo hi = ms.map V.int ∧ ms.length ≤ ns.length := by
  refine ⟨(ns.drop (HT.sIx (ns.map V.int).length 0 lo)).take (HT.sIx (ns.map V.int).length (ns.map V.int).length hi - HT.sIx (ns.map V.int).length 0 lo), ?_, ?_⟩
  · unfold cutV
    rw [List.map_take, List.map_drop]
  · rw [List.length_take, List.length_drop]
    omega
theorem sc_nums : FnScope ["_law_script", "_law_count", "_law_row", "_law_base", "_law_cell", "_law_rest", "_law_k"] ["_law_script", "_law_count"] (defScope (topS 37)) := ⟨rfl, rfl, rfl, by decide +kernel, rfl, by decide +kernel, by decide +kernel⟩
theorem same_write {H0 H : Hp} {r : Addr} {o : HO} (e : Same H0 H) (h : H0 r = none) : Same H0 (upd H r o) := fun b x q => by
  rw [upd_ne (ne_of_none q h)]
  exact e b x q
theorem ok_nums (N : Nm K mg) (D : Def K mg "_law_numbers" (topS 37) ["_law_script", "_law_count"]) (CM : Cal P w K mg base 1 "_law_mix" ["_law_number", "_law_k"] spMix) : Cal P w K mg base 2 "_law_numbers" ["_law_script", "_law_count"] (spNums K) := by
  refine D.ok sc_nums (fun vs H Q E h => ?_) (fun f cdv A outer s H vs Q E hr h => ?_)
  · obtain ⟨a, ns, rfl, _⟩ := h
    rfl
  · obtain ⟨a, ns, rfl, hS, hlen, k⟩ := h
    refine ⟨_, pss_cons (ps_set (i := 2) sc_nums.nd rfl (.inl rfl) (pe_lst pa_nil))
      (pss_cons (ps_set (i := 3) sc_nums.nd rfl (.inl rfl) pe_int)
      (pss_cons (ps_for PassesOwn.never rfl (pi_list (pe_slice sl_list (pv 0) po_none (po_some pe_int))) (pg_name (i := 4) sc_nums.nd rfl (.inl rfl))
        (pss_cons (ps_set (i := 3) sc_nums.nd rfl (.inl rfl) (pe_op op_add (pv 3) (pv 4)))
        (pss_one (ps_if (pt_cmpR op_ge (pv 4) pe_int (nomark _))
          (pss_cons (ps_set (i := 5) sc_nums.nd rfl (.inl rfl) (pv 4))
          (pss_one (ps_for PassesOwn.never rfl (pi_range1 (by rfl) N.range (pa_cons pe_int pa_nil)) (pg_name (i := 6) sc_nums.nd rfl (.inl rfl))
            (pss_cons (ps_expr (pe_bm PySem.F.plainAttrs_list PySem.F.slot_list_append PySem.F.type_list_append mt_append (pv 2) (pa_cons (pe_op op_modN (pe_callTy call_int1 (by rfl) N.int (by decide +kernel) (pa_cons (pv 5) pa_nil)) pe_int) pa_nil)))
            (pss_cons (ps_set (i := 5) sc_nums.nd rfl (.inl rfl) (pe_op op_fdivN (pv 5) pe_int))
            (pss_one (ps_if (pt_cmpR op_eq (pv 5) pe_int (nomark _)) (pss_one ps_break) pss_nil)))))))
          (pss_one (ps_expr (pe_bm PySem.F.plainAttrs_list PySem.F.slot_list_append PySem.F.type_list_append mt_append (pv 2) (pa_cons (CM.pe hr (by rfl) (pa_cons (CM.pe hr (by rfl) (pa_cons (pv 4) (pa_cons pe_int pa_nil))) (pa_cons pe_int pa_nil))) pa_nil))))))))
      (pss_cons (ps_for PassesOwn.never rfl (pi_range1 (by rfl) N.range (pa_cons (pv 1) pa_nil)) (pg_name (i := 6) sc_nums.nd rfl (.inl rfl))
        (pss_one (ps_expr (pe_bm PySem.F.plainAttrs_list PySem.F.slot_list_append PySem.F.type_list_append mt_append (pv 2) (pa_cons (CM.pe hr (by rfl) (pa_cons (CM.pe hr (by rfl) (pa_cons (pe_op op_add (pv 3) (pe_op op_mul pe_int (pv 6))) (pa_cons (pe_op op_add pe_int (pv 6)) pa_nil))) (pa_cons pe_int pa_nil))) pa_nil)))))
      (pss_cons (ps_expr (pe_bm0 PySem.F.plainAttrs_list PySem.F.slot_list_reverse PySem.F.type_list_reverse mt_reverse (pv 2)))
      (pss_one (ps_ret (pv 2))))))), ?_⟩
    refine ⟨Nat.zero_le _, fun r nr => ?_⟩
    have s1 : Same H (upd H r (.lst [])) := same_new nr
    refine ⟨.ref a, rfl, 63, rfl, a, ns.map V.int, rfl, s1.seq hS, fun c nc => ?_⟩
    obtain ⟨ms, ec, hml⟩ := cut_ints ns none (some 63)
    rw [ec] at *
    have ncr : c ≠ r := fun z => by rw [z, upd_same] at nc; cases nc
    have nc0 : H c = none := s1.free nc
    have s2 : Same H (upd (upd H r (.lst [])) c (.lst (ms.map V.int))) := s1.trans (same_new nc)
    refine ⟨c, rfl, ⟨_, SqL.of upd_same⟩, for_list (K := K) (a := c) (xs := ms.map V.int) (fun i σ H' => ∃ (b : Int) (rs : List Int) (y4 y5 y6 : Option V), σ = [some (.ref a), some (.int 90), some (.ref r), some (.int b), y4, y5, y6] ∧ Same H H' ∧ H' c = some (.lst (ms.map V.int)) ∧ H' r = some (.lst (rs.map V.int)) ∧ rs.length ≤ 60 * i)
      ⟨0, [], none, none, none, rfl, s2, upd_same, by rw [upd_ne ncr.symm, upd_same]; rfl, Nat.zero_le _⟩ (fun i σ H' _ ⟨_, _, _, _, _, _, _, hc, _⟩ => SqL.of hc) (fun i x σ H' hi hP => ?_) (fun σ H' hP => ?_)⟩
    · obtain ⟨b, rs, y4, y5, y6, rfl, sm, hc, hR, hl⟩ := hP
      have hi' : i < ms.length := by
        have := (List.getElem?_eq_some_iff.mp hi).1
        rw [List.length_map] at this
        exact this
      obtain ⟨u, rfl⟩ : ∃ u, x = V.int u := by
        rw [List.getElem?_map, List.getElem?_eq_getElem hi'] at hi
        exact ⟨_, (Option.some.inj hi).symm⟩
      have small : ∀ {n : Nat}, n ≤ 60 * i + 60 → n < sizeLine := fun {n} h => Nat.lt_of_le_of_lt (show n ≤ 10000 by omega) (by decide)
      refine ⟨_, rfl, _, rfl, _, _, rfl, rfl, ?_⟩
      refine ⟨_, rfl, _, _, rfl, rfl, _, rfl, ite2 (fun _ => ?_) (fun _ => ?_)⟩
      · refine ⟨_, rfl, ?_⟩
        refine ⟨60, rfl, by decide, by decide, for_range (lo := 0) (n := 60) (fun j σ H' => ∃ (t : Int) (rs' : List Int) (y6 : Option V), σ = [some (.ref a), some (.int 90), some (.ref r), some (.int (b + u)), some (.int u), some (.int t), y6] ∧ Same H H' ∧ H' c = some (.lst (ms.map V.int)) ∧ H' r = some (.lst (rs'.map V.int)) ∧ rs'.length ≤ 60 * i + j)
          ⟨u, rs, y6, rfl, sm, hc, hR, hl⟩ (fun j σ H' hj hP => ?_) (fun σ H' hP => ?_)⟩
        · obtain ⟨t, rs', y6', rfl, sm', hc', hR', hl'⟩ := hP
          refine ⟨.ref r, rfl, .inl ⟨rfl, _, .inl (.inl hR')⟩, _, rfl, .inl ⟨_, rfl, _, _, rfl, rfl, (by show (840 : Int) ≠ 0; decide), r, _, _, rfl, rfl, hR', ?_, ?_⟩⟩
          · rw [List.length_map]
            exact small (by omega)
          refine ⟨_, rfl, _, _, rfl, rfl, ⟨by decide, by decide⟩, ?_⟩
          have hnew : ∀ z : Int, Same H (upd H' r (.lst (rs'.map V.int ++ [.int z]))) ∧ (upd H' r (.lst (rs'.map V.int ++ [.int z]))) c = some (.lst (ms.map V.int)) ∧ (upd H' r (.lst (rs'.map V.int ++ [.int z]))) r = some (.lst ((rs' ++ [z]).map V.int)) ∧ (rs' ++ [z]).length ≤ 60 * i + (j + 1) := fun z => by
            refine ⟨same_write sm' nr, by rw [upd_ne ncr]; exact hc', by rw [upd_same, List.map_append]; rfl, by rw [List.length_append]; simp; omega⟩
          refine ⟨_, rfl, rfl, _, rfl, ite2 (fun _ => ?_) (fun _ => ?_)⟩
          · obtain ⟨h1, h2, h3, h4⟩ := hnew (t.fmod 840)
            exact ⟨b + u, _, _, _, _, rfl, h1, h2, h3, by omega⟩
          · obtain ⟨h1, h2, h3, h4⟩ := hnew (t.fmod 840)
            exact ⟨_, _, _, rfl, h1, h2, h3, h4⟩
        · obtain ⟨t, rs', y6', rfl, sm', hc', hR', hl'⟩ := hP
          exact ⟨b + u, rs', _, _, _, rfl, sm', hc', hR', by omega⟩
      · refine ⟨.ref r, rfl, .inl ⟨rfl, _, .inl (.inl hR)⟩, _, rfl, _, _, rfl, fun m => ⟨_, _, rfl, fun m' => ⟨r, _, _, rfl, rfl, hR, ?_, ?_⟩⟩⟩
        · rw [List.length_map]
          exact small (by omega)
        · refine ⟨b + u, rs ++ [m'], _, _, _, rfl, same_write sm nr, by rw [upd_ne ncr]; exact hc, by rw [upd_same, List.map_append]; rfl, ?_⟩
          rw [List.length_append]
          simp
          omega
    · obtain ⟨b, rs, y4, y5, y6, rfl, sm, hc, hR, hl⟩ := hP
      rw [List.length_map] at hl
      refine ⟨_, rfl, 90, rfl, by decide, by decide, for_range (lo := 0) (n := 90) (fun j σ H' => ∃ (rs' : List Int) (y6 : Option V), σ = [some (.ref a), some (.int 90), some (.ref r), some (.int b), y4, y5, y6] ∧ Same H H' ∧ H' r = some (.lst (rs'.map V.int)) ∧ rs'.length ≤ 5000 + j)
        ⟨rs, y6, rfl, sm, hR, by omega⟩ (fun j σ H' hj hP => ?_) (fun σ H' hP => ?_)⟩
      · obtain ⟨rs', y6', rfl, sm', hR', hl'⟩ := hP
        refine ⟨.ref r, rfl, .inl ⟨rfl, _, .inl (.inl hR')⟩, _, rfl, _, rfl, _, _, rfl, rfl, .inl ⟨by decide, by decide⟩, _, _, rfl, rfl, _, rfl, _, _, rfl, rfl, _, _, rfl, fun m => ⟨_, _, rfl, fun m' => ⟨r, _, _, rfl, rfl, hR', ?_, ?_⟩⟩⟩
        · rw [List.length_map]
          exact Nat.lt_of_le_of_lt (show rs'.length ≤ 10000 by omega) (by decide)
        · refine ⟨rs' ++ [m'], _, rfl, same_write sm' nr, by rw [upd_same, List.map_append]; rfl, ?_⟩
          rw [List.length_append]
          simp
          omega
      · obtain ⟨rs', y6', rfl, sm', hR', hl'⟩ := hP
        refine ⟨.ref r, rfl, .inl ⟨rfl, _, .inl (.inl hR')⟩, r, _, rfl, rfl, hR', ?_⟩
        refine ⟨.ref r, rfl, k _ r rs'.reverse (same_write sm' nr) nr ?_⟩
        rw [upd_same, List.map_reverse]
end K36

set_option Elab.async false
set_option autoImplicit false
set_option linter.all false
set_option maxRecDepth 100000
set_option maxHeartbeats 4000000
/-! The law's items and amounts. -/
namespace K36
open PySem PySem.Spec PyProof.Rows L2
/-! ### plain -/
def kd : List Nat := [51, 49, 48, 52, 53, 50, 54]
def keyOf (k : Nat) : Str := ("k" : Str) ++ ⟨#[kd.getD k 0]⟩
theorem keyOf_inj : ∀ i < 5, ∀ j < 5, keyOf i = keyOf j → i = j := by decide +kernel
theorem keyOf_ok : ∀ i < 5, PyData.strOk (keyOf i) = true := by decide +kernel
/-- k items drawn so far -/
structure Drawn (k : Nat) (its : List It) : Prop where
  len : its.length = k
  key : ∀ (i : Nat) (it : It), its[i]? = some it → it.key = keyOf i
  w : ∀ it ∈ its, ItW it
  grp : ∀ it ∈ its, PyData.strOk it.grp = true
theorem Drawn.nil : Drawn 0 [] := ⟨rfl, fun i it h => by simp at h, fun it h => absurd h (by simp), fun it h => absurd h (by simp)⟩
theorem Drawn.snoc {k : Nat} {its : List It} (d : Drawn k its) {it : It} (hk : it.key = keyOf k) (hw : ItW it) (hg : PyData.strOk it.grp = true) : Drawn (k + 1) (its ++ [it]) := by
  refine ⟨by rw [List.length_append, d.len]; rfl, fun i x h => ?_, fun x h => ?_, fun x h => ?_⟩
  · by_cases hi : i < its.length
    · rw [List.getElem?_append_left hi] at h
      exact d.key i x h
    · rw [List.getElem?_append_right (by omega)] at h
      have h0 : i - its.length = 0 := by
        cases q : i - its.length with
        | zero => rfl
        | succ n => rw [q] at h; simp at h
      rw [h0] at h
      have hx : it = x := by simpa using h
      have : i = k := by have := d.len; omega
      rw [← hx, this]; exact hk
  · rcases List.mem_append.mp h with z | z
    · exact d.w x z
    · have : x = it := by simpa using z
      exact this ▸ hw
  · rcases List.mem_append.mp h with z | z
    · exact d.grp x z
    · have : x = it := by simpa using z
      exact this ▸ hg
theorem Drawn.at_ {k : Nat} {its : List It} (d : Drawn k its) {it : It} (h : it ∈ its) : ∃ i < k, its[i]? = some it ∧ it.key = keyOf i := by
  obtain ⟨i, hi⟩ := List.mem_iff_getElem?.mp h
  have := (List.getElem?_eq_some_iff.mp hi).1
  exact ⟨i, by have := d.len; omega, hi, d.key i it hi⟩
theorem Drawn.ok {k : Nat} {its : List It} (d : Drawn k its) (hk : k ≤ 5) : ∀ it ∈ its, ItOk it := fun it h => by
  obtain ⟨i, hi, _, e⟩ := d.at_ h
  exact ⟨e ▸ keyOf_ok i (by omega), d.grp it h⟩
theorem Drawn.inj {k : Nat} {its : List It} (d : Drawn k its) (hk : k ≤ 5) : ∀ a ∈ its, ∀ b ∈ its, a.key = b.key → a = b := fun a ha b hb e => by
  obtain ⟨i, hi, h1, e1⟩ := d.at_ ha
  obtain ⟨j, hj, h2, e2⟩ := d.at_ hb
  rw [e1, e2] at e
  have := keyOf_inj i (by omega) j (by omega) e
  subst this
  rw [h1] at h2
  exact Option.some.inj h2
theorem Drawn.nodup {k : Nat} {its : List It} (d : Drawn k its) (hk : k ≤ 5) : its.Nodup := by
  refine List.pairwise_iff_getElem.mpr fun i j hi hj hij e' => ?_
  have h1 : its[i]? = some its[i] := List.getElem?_eq_getElem hi
  have h2 : its[j]? = some its[j] := List.getElem?_eq_getElem hj
  have k1 := d.key i _ h1
  have k2 := d.key j _ h2
  rw [e'] at k1
  have := keyOf_inj i (by have := d.len; omega) j (by have := d.len; omega) (k1.symm.trans k2)
  omega
theorem Drawn.its {k : Nat} {its : List It} (d : Drawn k its) (hk : k ≤ 5) : ItsOk its := ⟨by have := d.len; omega, d.w⟩
/-! dicts of amounts -/
def AmOk (kvs : List (Key × V)) : Prop := ∀ (s : Str) (v : V), valV kvs (Sum.inr s) = some v → ∃ n : Int, v = .int n ∧ n.natAbs ≤ 10
def yOf (kvs : List (Key × V)) (s : Str) : Int := match valV kvs (Sum.inr s) with
  | some (.int n) => n
  | _ => 0
theorem AmOk.of {kvs : List (Key × V)} (h : AmOk kvs) : AmOf kvs (yOf kvs) ∧ YOk (yOf kvs) := by
  constructor
  · intro s
    unfold yOf
    cases e : valV kvs (Sum.inr s) with
    | none => rfl
    | some v =>
      obtain ⟨n, rfl, _⟩ := h s v e
      rfl
  · intro s
    unfold yOf
    cases e : valV kvs (Sum.inr s) with
    | none => decide
    | some v =>
      obtain ⟨n, rfl, hn⟩ := h s v e
      exact hn
theorem AmOk.put {kvs : List (Key × V)} (h : AmOk kvs) (s : Str) {n : Int} (hn : n.natAbs ≤ 10) : AmOk (putK kvs (Sum.inr s) (.int n)) := by
  intro s' v e
  rw [valV_put] at e
  split at e
  · exact ⟨n, (Option.some.inj e).symm, hn⟩
  · exact h s' v e
theorem yOf_put {kvs : List (Key × V)} (s s' : Str) (n : Int) : yOf (putK kvs (Sum.inr s) (.int n)) s' = if s' = s then n else yOf kvs s' := by
  unfold yOf
  rw [valV_put]
  by_cases h : s' = s
  · subst h; simp
  · have : ¬ (Sum.inr s' : Key) = Sum.inr s := fun z => h (Sum.inr.inj z)
    rw [if_neg this, if_neg h]
/-! ### walks -/
variable {P : Program} {w : World} {K : PySem.W.Frag} {mg : Str → Option Value} {base : Heap} {T : Tb}
/-- the row r, made since H0 and no part of G; what is behind it -/
structure RowAt (T : Tb) (G0 H0 G H : Hp) (r : Addr) (ns : List Int) : Prop where
  e : Ext T G0 H0 G H
  h0 : H0 r = none
  g : G r = none
  h : H r = some (.lst (ns.map V.int))
theorem RowAt.put {G0 H0 G H : Hp} {r : Addr} {ns : List Int} (R : RowAt T G0 H0 G H r ns) (ns' : List Int) : RowAt T G0 H0 G (upd H r (.lst (ns'.map V.int))) r ns' := ⟨R.e.write R.h R.h0 R.g, R.h0, R.g, upd_same⟩
theorem RowAt.new {G0 H0 G H : Hp} {r : Addr} {ns : List Int} (R : RowAt T G0 H0 G H r ns) {p : Addr} {o : HO} (hp : H p = none) (ho : ∀ ps, o ≠ .tbl ps) : RowAt T G0 H0 (upd G p o) (upd H p o) r ns := by
  have ne : r ≠ p := ne_of_none R.h hp
  exact ⟨R.e.trans (Ext.new R.e.gh hp ho), R.h0, by rw [upd_ne ne]; exact R.g, by rw [upd_ne ne]; exact R.h⟩
def spItems (T : Tb) (K : PySem.W.Frag) : Sp := fun vs H Q _ => ∃ (G0 H0 G : Hp) (r : Addr) (ns : List Int) (n : Nat), vs = [.ref r, .int (n : Int)] ∧ RowAt T G0 H0 G H r ns ∧ n ≤ 5 ∧
  ∀ (G' H' : Hp) (v : V) (ns' : List Int) (its : List It), RowAt T G0 H0 G' H' r ns' → Drawn n its → IsLs K (IsIt K G') G' v its → Q v H'
theorem sc_items : FnScope ["_law_row", "_law_many", "_law_found", "_law_k", "_law_weight"] ["_law_row", "_law_many"] (defScope (topS 45)) := ⟨rfl, rfl, rfl, by decide +kernel, rfl, by decide +kernel, by decide +kernel⟩
theorem two_at {a b : V} {m : Int} (h0 : 0 ≤ m) (h1 : m < 2) : ∃ v, atI [a, b] m = some v ∧ (v = a ∨ v = b) := by
  rcases (show m = 0 ∨ m = 1 by omega) with e | e
  · subst e; exact ⟨a, rfl, .inl rfl⟩
  · subst e; exact ⟨b, rfl, .inr rfl⟩
theorem four_at {m : Int} (h0 : 0 ≤ m) (h1 : m < 4) : ∃ n : Int, atI [V.int 1000, .int 1, .int 40, .int 7] m = some (.int n) ∧ 1 ≤ n ∧ n ≤ 1000 := by
  rcases (show m = 0 ∨ m = 1 ∨ m = 2 ∨ m = 3 by omega) with e | e | e | e
  · subst e; exact ⟨1000, rfl, by omega, by omega⟩
  · subst e; exact ⟨1, rfl, by omega, by omega⟩
  · subst e; exact ⟨40, rfl, by omega, by omega⟩
  · subst e; exact ⟨7, rfl, by omega, by omega⟩
theorem ok_items (N : Nm K mg) (D : Def K mg "_law_items" (topS 45) ["_law_row", "_law_many"]) (CT : Cal P w K mg base 1 "_law_take" ["_law_row", "_law_bound"] spTake) : Cal P w K mg base 2 "_law_items" ["_law_row", "_law_many"] (spItems T K) := by
  refine D.ok sc_items (fun vs H Q E h => ?_) (fun f cdv A outer s H vs Q E hr h => ?_)
  · obtain ⟨G0, H0, G, r, ns, n, rfl, _⟩ := h
    rfl
  · obtain ⟨G0, H0, G, r, ns, n, rfl, R, hn, k⟩ := h
    refine ⟨_, pss_cons (ps_set (i := 2) sc_items.nd rfl (.inl rfl) (pe_lst pa_nil))
      (pss_cons (ps_for PassesOwn.never rfl (pi_range1 (by rfl) N.range (pa_cons (pv 1) pa_nil)) (pg_name (i := 3) sc_items.nd rfl (.inl rfl))
        (pss_cons (ps_set (i := 4) sc_items.nd rfl (.inl rfl) (pe_op op_add pe_int (CT.pe hr (by rfl) (pa_cons (pv 0) (pa_cons pe_int pa_nil)))))
        (pss_cons (ps_if (pt_cmpR op_eq (CT.pe hr (by rfl) (pa_cons (pv 0) (pa_cons pe_int pa_nil))) pe_int (nomark _))
          (pss_one (ps_set (i := 4) sc_items.nd rfl (.inl rfl) (pe_ix ix_list (pe_lst (pa_cons pe_int (pa_cons pe_int (pa_cons pe_int (pa_cons pe_int pa_nil))))) (CT.pe hr (by rfl) (pa_cons (pv 0) (pa_cons pe_int pa_nil))) (fun _ _ => rfl)))) pss_nil)
        (pss_one (ps_expr (pe_bm PySem.F.plainAttrs_list PySem.F.slot_list_append PySem.F.type_list_append mt_append (pv 2) (pa_cons (pe_tup
          (pa_cons (pe_op op_add_str pe_str (pe_item_str pe_str (pv 3) (fun _ _ => rfl)))
          (pa_cons (pe_ix ix_list (pe_lst (pa_cons pe_str (pa_cons pe_str pa_nil))) (CT.pe hr (by rfl) (pa_cons (pv 0) (pa_cons pe_int pa_nil))) (fun _ _ => rfl))
          (pa_cons (pv 4) (pa_cons (pe_op op_sub (CT.pe hr (by rfl) (pa_cons (pv 0) (pa_cons pe_int pa_nil))) pe_int) pa_nil))))) pa_nil)))))))
      (pss_one (ps_ret (pv 2)))), ?_⟩
    refine ⟨Nat.zero_le _, fun l nl => ?_⟩
    have e1 : Ext T G0 H0 G (upd H l (.lst [])) := R.e.trans (Ext.newM R.e.gh nl)
    have nrl : r ≠ l := ne_of_none R.h nl
    have l0 : H0 l = none := R.e.free0 nl
    have gl : G l = none := R.e.gh.free nl
    have nn : (n : Int).toNat = n := by omega
    refine ⟨_, rfl, (n : Int), rfl, by omega, by omega, for_range (lo := 0) (n := (n : Int).toNat) (fun i σ H' => ∃ (G' : Hp) (ns' : List Int) (vs : List V) (its : List It) (y3 y4 : Option V), σ = [some (.ref r), some (.int (n : Int)), some (.ref l), y3, y4] ∧
        RowAt T G0 H0 G' H' r ns' ∧ H' l = some (.lst vs) ∧ G' l = none ∧ Paired (IsIt K G') vs its ∧ Drawn i its)
      ⟨G, ns, [], [], none, none, rfl, ⟨e1, R.h0, R.g, by rw [upd_ne nrl]; exact R.h⟩, upd_same, gl, .nil, Drawn.nil⟩ (fun i σ H' hi hP => ?_) (fun σ H' hP => ?_)⟩
    · obtain ⟨G', ns', vs, its, y3, y4, rfl, R', hl, gl', hp, d⟩ := hP
      rw [nn] at hi
      -- weight = 1 + take(row, 9)
      refine ⟨_, rfl, r, ns', 9, rfl, R'.h, by decide, fun n1 m1 _ a1 b1 => ?_⟩
      have R1 := R'.put n1
      have hl1 : (upd H' r (.lst (n1.map V.int))) l = some (.lst vs) := by rw [upd_ne nrl.symm]; exact hl
      refine ⟨_, _, rfl, rfl, ?_⟩
      -- if take(row, 6) == 0
      refine ⟨_, rfl, r, n1, 6, rfl, R1.h, by decide, fun n2 m2 _ a2 b2 => ?_⟩
      have R2 := R1.put n2
      have hl2 : (upd (upd H' r (.lst (n1.map V.int))) r (.lst (n2.map V.int))) l = some (.lst vs) := by rw [upd_ne nrl.symm]; exact hl1
      -- what follows, whatever the weight is
      have tail : ∀ (G3 H3 : Hp) (n3 : List Int) (wg : Int), RowAt T G0 H0 G3 H3 r n3 → H3 l = some (.lst vs) → G3 l = none → Same G' G3 → 1 ≤ wg → wg ≤ 1000 →
          tDrop (tBM K "list" rAppend (tVar 2) (tCons (tTup (tCons (tOp (fun x y H Q => ∃ i j, x = .str i ∧ y = .str j ∧ i.length + j.length ≤ sizeLine ∧ Q (.str (i ++ j)) H) (tC (.str "k"))
              (tOp (fun x y H Q => ∃ z i c, x = .str z ∧ y = .int i ∧ 0 ≤ i ∧ i < 2 ^ 63 ∧ i < z.length ∧ z.cps[i.toNat]? = some c ∧ Q (.str ⟨#[c]⟩) H) (tC (.str "3104526")) (tVar 3)))
            (tCons (tOp (rIxL K) (tLst (tCons (tC (.str "x")) (tCons (tC (.str "y")) tNil))) (tCall spTake [] E0 (tCons (tVar 0) (tCons (tC (.int 2)) tNil))))
            (tCons (tVar 4) (tCons (tOp (rI0 fun i j => .int (i - j)) (tCall spTake [] E0 (tCons (tVar 0) (tCons (tC (.int 19)) tNil))) (tC (.int 9))) tNil))))) tNil))
            { nx := fun σ H' => ∃ (G' : Hp) (ns' : List Int) (vs : List V) (its : List It) (y3 y4 : Option V), σ = [some (.ref r), some (.int (n : Int)), some (.ref l), y3, y4] ∧ RowAt T G0 H0 G' H' r ns' ∧ H' l = some (.lst vs) ∧ G' l = none ∧ Paired (IsIt K G') vs its ∧ Drawn (i + 1) its,
              ct := fun σ H' => ∃ (G' : Hp) (ns' : List Int) (vs : List V) (its : List It) (y3 y4 : Option V), σ = [some (.ref r), some (.int (n : Int)), some (.ref l), y3, y4] ∧ RowAt T G0 H0 G' H' r ns' ∧ H' l = some (.lst vs) ∧ G' l = none ∧ Paired (IsIt K G') vs its ∧ Drawn (i + 1) its,
              bk := fun σ H' => tRet (tVar 2) { nx := fun _ H' => Q .non H', rt := Q } σ H', rt := Q } [some (.ref r), some (.int (n : Int)), some (.ref l), some (.int (0 + (i : Int))), some (.int wg)] H3 := by
        intro G3 H3 n3 wg R3 hl3 gl3 sG w1 w2
        refine ⟨.ref l, rfl, .inl ⟨rfl, _, .inl (.inl hl3)⟩, ?_⟩
        -- the key
        have hik : i < 7 := by omega
        have hz : (0 + (i : Int)).toNat = i := by omega
        refine ⟨_, rfl, ("3104526" : Str), 0 + (i : Int), kd.getD i 0, rfl, rfl, by omega, by omega, ?_, ?_, ("k" : Str), ⟨#[kd.getD i 0]⟩, rfl, rfl, (by show 1 + 1 ≤ sizeLine; decide), ?_⟩
        · show (0 + (i : Int)) < 7
          omega
        · rw [hz]
          rcases (show i = 0 ∨ i = 1 ∨ i = 2 ∨ i = 3 ∨ i = 4 ∨ i = 5 ∨ i = 6 by omega) with e | e | e | e | e | e | e <;> (subst e; decide +kernel)
        -- the group
        refine ⟨by show 2 ≤ sizeLine; decide, fun g ng => ?_⟩
        have R4 := R3.new (o := .lst [.str "x", .str "y"]) ng (by intro ps q; cases q)
        have nlg : l ≠ g := ne_of_none hl3 ng
        have nrg : r ≠ g := ne_of_none R3.h ng
        have hl4 : (upd H3 g (.lst [.str "x", .str "y"])) l = some (.lst vs) := by rw [upd_ne nlg]; exact hl3
        refine ⟨_, rfl, r, n3, 2, rfl, R4.h, by decide, fun n5 m5 _ a5 b5 => ?_⟩
        have R5 := R4.put n5
        have hl5 : (upd (upd H3 g (.lst [.str "x", .str "y"])) r (.lst (n5.map V.int))) l = some (.lst vs) := by rw [upd_ne nrl.symm]; exact hl4
        have hg5 : (upd (upd H3 g (.lst [.str "x", .str "y"])) r (.lst (n5.map V.int))) g = some (.lst [.str "x", .str "y"]) := by rw [upd_ne nrg.symm, upd_same]
        obtain ⟨gv, hgv, hgo⟩ := two_at (a := .str "x") (b := .str "y") a5 b5
        obtain ⟨gs, rfl, hgs⟩ : ∃ gs : Str, gv = .str gs ∧ PyData.strOk gs = true := by
          rcases hgo with z | z
          · exact ⟨"x", z, by decide +kernel⟩
          · exact ⟨"y", z, by decide +kernel⟩
        refine ⟨g, _, m5, _, rfl, rfl, SqL.of hg5, hgv, ?_⟩
        refine ⟨.int wg, rfl, ?_⟩
        -- the item's own amount
        refine ⟨_, rfl, r, n5, 19, rfl, R5.h, by decide, fun n6 m6 _ a6 b6 => ?_⟩
        have R6 := R5.put n6
        have hl6 : (upd (upd (upd H3 g (.lst [.str "x", .str "y"])) r (.lst (n5.map V.int))) r (.lst (n6.map V.int))) l = some (.lst vs) := by rw [upd_ne nrl.symm]; exact hl5
        refine ⟨m6, 9, rfl, rfl, (by show 4 ≤ sizeLine; decide), fun t nt => ?_⟩
        have R7 := R6.new (o := .tup [.str (keyOf i), .str gs, .int wg, .int (m6 - 9)]) nt (by intro ps q; cases q)
        have nlt : l ≠ t := ne_of_none hl6 nt
        have hl7 : (upd (upd (upd (upd H3 g (.lst [.str "x", .str "y"])) r (.lst (n5.map V.int))) r (.lst (n6.map V.int))) t (.tup [.str (keyOf i), .str gs, .int wg, .int (m6 - 9)])) l = some (.lst vs) := by rw [upd_ne nlt]; exact hl6
        have hlen : vs.length ≤ 10 := by
          have := hp.length
          have := d.len
          omega
        refine ⟨l, vs, .ref t, rfl, rfl, hl7, Nat.lt_of_le_of_lt hlen (by decide), ?_⟩
        have gl7 : (upd (upd G3 g (.lst [.str "x", .str "y"])) t (.tup [.str (keyOf i), .str gs, .int wg, .int (m6 - 9)])) l = none := by rw [upd_ne nlt, upd_ne nlg]; exact gl3
        have nrt : r ≠ l := nrl
        refine ⟨_, n6, vs ++ [.ref t], its ++ [⟨keyOf i, gs, wg, m6 - 9⟩], _, _, rfl, ⟨R7.e.write hl7 l0 gl7, R7.h0, R7.g, by rw [upd_ne nrl]; exact R7.h⟩, upd_same, gl7, ?_, d.snoc rfl ⟨w1, w2⟩ hgs⟩
        have sG7 : Same G3 (upd (upd G3 g (.lst [.str "x", .str "y"])) t (.tup [.str (keyOf i), .str gs, .int wg, .int (m6 - 9)])) :=
          (same_new (R3.e.gh.free ng)).trans (same_new (R6.e.gh.free nt))
        exact Paired.snoc (Paired.imp (fun v x q => (q.of sG).of sG7) hp) ⟨t, rfl, SqT.of upd_same⟩
      refine ⟨rfl, _, rfl, ite2 (fun _ => ?_) (fun _ => ?_)⟩
      · -- weight = [1000, 1, 40, 7][take(row, 4)]
        refine ⟨by show 4 ≤ sizeLine; decide, fun q nq => ?_⟩
        have R3 := R2.new (o := .lst [.int 1000, .int 1, .int 40, .int 7]) nq (by intro ps q; cases q)
        have nlq : l ≠ q := ne_of_none hl2 nq
        have nrq : r ≠ q := ne_of_none R2.h nq
        refine ⟨_, rfl, r, n2, 4, rfl, R3.h, by decide, fun n4 m4 _ a4 b4 => ?_⟩
        have R4 := R3.put n4
        obtain ⟨wg, hw, w1, w2⟩ := four_at a4 b4
        refine ⟨q, _, m4, _, rfl, rfl, SqL.of (by rw [upd_ne nrq.symm, upd_same]), hw, ?_⟩
        exact tail _ _ n4 wg R4 (by rw [upd_ne nrl.symm, upd_ne nlq]; exact hl2) (by rw [upd_ne nlq]; exact gl') (same_new (R2.e.gh.free nq)) w1 w2
      · exact tail G' _ n2 (1 + m1) R2 hl2 gl' (Same.refl _) (by omega) (by omega)
    · obtain ⟨G', ns', vs, its, y3, y4, rfl, R', hl, gl', hp, d⟩ := hP
      rw [nn] at d
      have nrl' : r ≠ l := nrl
      refine ⟨.ref l, rfl, k (upd G' l (.lst vs)) H' (.ref l) ns' its ⟨R'.e.seal hl l0 gl' (by intro ps q; cases q), R'.h0, by rw [upd_ne nrl]; exact R'.g, R'.h⟩ d ⟨l, vs, rfl, SqL.of upd_same, Paired.imp (fun v x q => q.of (same_new gl')) hp⟩⟩
/-! ### amounts -/
def spAmts (T : Tb) (K : PySem.W.Frag) : Sp := fun vs H Q _ => ∃ (G0 H0 G : Hp) (r : Addr) (ns : List Int) (l : V) (its : List It), vs = [.ref r, l] ∧ RowAt T G0 H0 G H r ns ∧ IsLs K (IsIt K G) G l its ∧ its.length ≤ 5 ∧
  ∀ (G' H' : Hp) (d : Addr) (kvs : List (Key × V)) (ns' : List Int), RowAt T G0 H0 G' H' r ns' → Same G G' → H0 d = none → G' d = none → H' d = some (.dK kvs) → AmOk kvs → kvs.length ≤ 10 → Q (.ref d) H'
theorem sc_amts : FnScope ["_law_row", "_law_things", "_law_amounts_here", "_law_item"] ["_law_row", "_law_things"] (defScope (topS 46)) := ⟨rfl, rfl, rfl, by decide +kernel, rfl, by decide +kernel, by decide +kernel⟩
theorem ok_amts (D : Def K mg "_law_amounts" (topS 46) ["_law_row", "_law_things"]) (CT : Cal P w K mg base 1 "_law_take" ["_law_row", "_law_bound"] spTake) : Cal P w K mg base 2 "_law_amounts" ["_law_row", "_law_things"] (spAmts T K) := by
  refine D.ok sc_amts (fun vs H Q E h => ?_) (fun f cdv A outer s H vs Q E hr h => ?_)
  · obtain ⟨G0, H0, G, r, ns, l, its, rfl, _⟩ := h
    rfl
  · obtain ⟨G0, H0, G, r, ns, lv, its, rfl, R, ⟨l, ws, rfl, hl, hp⟩, hn, k⟩ := h
    refine ⟨_, pss_cons (ps_set (i := 2) sc_amts.nd rfl (.inl rfl) (pe_disp (pps_cons pe_str pe_int pps_nil) (by rfl) (by rfl) (fun z => by cases z) (by decide)))
      (pss_cons (ps_for PassesOwn.never rfl (pi_list (pv 1)) (pg_name (i := 3) sc_amts.nd rfl (.inl rfl))
        (pss_one (ps_if (pt_cmpR op_gt (CT.pe hr (by rfl) (pa_cons (pv 0) (pa_cons pe_int pa_nil))) pe_int (nomark _))
          (pss_one (ps_dput (hu_of hr) (pv 2) (pe_ix ix_tup (pv 3) pe_int (fun _ _ => rfl)) (pe_op op_sub (CT.pe hr (by rfl) (pa_cons (pv 0) (pa_cons pe_int pa_nil))) pe_int) rfl)) pss_nil)))
      (pss_one (ps_ret (pv 2)))), ?_⟩
    intro d nd
    refine ⟨upd_same, [(Sum.inr "other", .int 5)], rfl, by decide, ?_⟩
    have nrd : r ≠ d := ne_of_none R.h nd
    have d0 : H0 d = none := R.e.free0 nd
    have gd : G d = none := R.e.gh.free nd
    have e1 : Ext T G0 H0 G (upd H d (.dK (mergeK [] [(Sum.inr "other", .int 5)]))) := R.e.trans (Ext.newM R.e.gh nd)
    rw [upd_upd]
    have hlH : ∀ {G' H' : Hp} {ns' : List Int}, RowAt T G0 H0 G' H' r ns' → Same G G' → SqL K H' l ws := fun R' sG => (sG.trans R'.e.gh).seq hl
    have ok0 : AmOk (mergeK [] [(Sum.inr "other", .int 5)]) := AmOk.put (kvs := []) (fun s v e => by cases e) "other" (by decide)
    refine ⟨.ref l, rfl, l, rfl, ⟨ws, (R.e.gh.trans (same_new nd)).seq hl⟩, for_list (K := K) (a := l) (xs := ws) (fun i σ H' => ∃ (G' : Hp) (ns' : List Int) (kvs : List (Key × V)) (y3 : Option V), σ = [some (.ref r), some (.ref l), some (.ref d), y3] ∧
        RowAt T G0 H0 G' H' r ns' ∧ Same G G' ∧ H' d = some (.dK kvs) ∧ G' d = none ∧ AmOk kvs ∧ kvs.length ≤ 1 + i)
      ⟨G, ns, _, none, rfl, ⟨e1, R.h0, R.g, by rw [upd_ne nrd]; exact R.h⟩, Same.refl G, upd_same, gd, ok0, by decide⟩ (fun i σ H' _ ⟨G', ns', kvs, y3, _, R', sG, _⟩ => hlH R' sG) (fun i x σ H' hi hP => ?_) (fun σ H' hP => ?_)⟩
    · obtain ⟨G', ns', kvs, y3, rfl, R', sG, hd, gd', ok, hk⟩ := hP
      obtain ⟨q, hq, hx⟩ := Paired.get' hp hi
      have hil : i < its.length := (List.getElem?_eq_some_iff.mp hq).1
      refine ⟨_, rfl, r, ns', 5, rfl, R'.h, by decide, fun n1 m1 _ a1 b1 => ?_⟩
      have R1 := R'.put n1
      have hd1 : (upd H' r (.lst (n1.map V.int))) d = some (.dK kvs) := by rw [upd_ne nrd.symm]; exact hd
      refine ⟨_, _, rfl, rfl, _, rfl, ite2 (fun _ => ?_) (fun _ => ?_)⟩
      · refine ⟨_, rfl, r, n1, 21, rfl, R1.h, by decide, fun n2 m2 _ a2 b2 => ?_⟩
        have R2 := R1.put n2
        have hd2 : (upd (upd H' r (.lst (n1.map V.int))) r (.lst (n2.map V.int))) d = some (.dK kvs) := by rw [upd_ne nrd.symm]; exact hd1
        refine ⟨_, _, rfl, rfl, ?_⟩
        refine ⟨_, rfl, ?_⟩
        refine it0 rfl ((hx.of sG).of R2.e.gh) ⟨d, _, rfl, DPut.k (k := Sum.inr q.key) hd2 (Nat.lt_of_le_of_lt (show kvs.length ≤ 10 by omega) (by decide)), ?_⟩
        refine ⟨G', n2, _, _, rfl, ⟨R2.e.write' hd2 (fun ps z => by cases z) (fun φ z => by cases z) d0 gd', R2.h0, R2.g, by rw [upd_ne nrd]; exact R2.h⟩, sG, upd_same, gd', ok.put q.key (by omega), ?_⟩
        exact Nat.le_trans (length_putK kvs (Sum.inr q.key) _) (by omega)
      · exact ⟨G', n1, kvs, _, rfl, R1, sG, hd1, gd', ok, by omega⟩
    · obtain ⟨G', ns', kvs, y3, rfl, R', sG, hd, gd', ok, hk⟩ := hP
      have : ws.length = its.length := hp.length
      exact ⟨_, rfl, k G' H' d kvs ns' R' sG d0 gd' hd ok (by omega)⟩
/-! ### the true sum -/
theorem sc_ltrue : FnScope ["_law_things", "_law_amounts_here", "_law_item"] ["_law_things", "_law_amounts_here"] (defScope (topS 47)) := ⟨rfl, rfl, rfl, by decide +kernel, rfl, by decide +kernel, by decide +kernel⟩
theorem ok_ltrue (N : Nm K mg) (D : Def K mg "_law_true" (topS 47) ["_law_things", "_law_amounts_here"]) : Cal P w K mg base 1 "_law_true" ["_law_things", "_law_amounts_here"] (spTrue T K) := by
  refine D.ok sc_ltrue (fun vs H Q E h => ?_) (fun f cdv A outer s H vs Q E hr h => ?_)
  · obtain ⟨G, l, a, its, y, rfl, _⟩ := h
    rfl
  · obtain ⟨G, lv, av, its, y, rfl, hs, ⟨l, ws, rfl, hl, hp⟩, hn, ha, k⟩ := h
    refine ⟨_, pss_one (ps_ret (pe_callB (cr_sum rfl) (by rfl) N.sum (by decide +kernel) (pa_cons
        (pe_lc (own := [("_law_item", 2)]) (g := gName 2) (tt := tYes) rfl sc_ltrue.nd (pi_list (pv 0)) (blkOk_by (N := ["_law_things", "_law_amounts_here", "_law_item"]) (sc := defScope (topS 47)) (by decide +kernel))
          (fun _ _ _ _ _ => pg_name (i := 2) sc_ltrue.nd rfl (Or.inl rfl)) (fun _ _ _ _ _ => pts_nil)
          (fun _ _ _ _ _ => pe_dget2 (hu_of hr) (pv 1) (pe_ix (r := rIxT K) ix_tup (pv 2) pe_int (fun _ _ => rfl)) pe_int ⟨rfl, rfl, rfl, rfl⟩)) pa_nil))), ?_⟩
    refine ⟨.ref l, rfl, l, rfl, ⟨_, hs.seq hl⟩, lc_pure (T := T) (G := G) (vs := ws) (xs := its) (R := fun G' v (n : Int) => v = .int n) (f := fun i => y i.key) hs hl hp (by rw [hp.length]; exact hn) (fun _ _ _ _ e q => q)
      (fun i x it G' H' Qe hy hxy e k' => ?_) fun D G1 H1 e1 nD hD => ?_⟩
    · exact ⟨rfl, am_get rfl (e.am ha) rfl (hxy.of (e.gg.trans e.gh)) (k' _ G' H' (Ext.refl e.gh) rfl)⟩
    · obtain ⟨d, ds, hd, hl', hp'⟩ := hD
      cases hd
      rw [ints_of hp'] at hl'
      exact ⟨D, _, rfl, e1.gh.seq hl', k G1 H1 e1⟩
end K36

set_option Elab.async false
set_option autoImplicit false
set_option linter.all false
set_option maxRecDepth 100000
set_option maxHeartbeats 4000000
/-! The law's own dropping: lesser, raised, single. -/
namespace K36
open PySem PySem.Spec PyProof.Rows L2
/-! ### plain -/
/-- sizes of a fraction in bits -/
def Sz (m n : Nat) (x : Rat) : Prop := x.num.natAbs < 2 ^ m ∧ x.den < 2 ^ n
theorem Sz.sm {m n : Nat} {x : Rat} (h : Sz m n x) (hm : m ≤ 900) (hn : n ≤ 900) : Sm x :=
  ⟨Nat.lt_of_lt_of_le h.1 (Nat.pow_le_pow_right (by decide) hm), Nat.lt_of_lt_of_le h.2 (Nat.pow_le_pow_right (by decide) hn)⟩
theorem divInt_num_le (p q : Int) : (Rat.divInt p q).num.natAbs ≤ p.natAbs := by
  rw [Rat.num_divInt]
  refine Nat.le_trans (Int.natAbs_ediv_le_natAbs _ _) ?_
  rw [Int.natAbs_mul]
  have : q.sign.natAbs ≤ 1 := by
    rcases Int.lt_trichotomy q 0 with h | h | h
    · rw [Int.sign_eq_neg_one_of_neg h]; decide
    · rw [h]; decide
    · rw [Int.sign_eq_one_of_pos h]; decide
  exact Nat.le_trans (Nat.mul_le_mul_right _ this) (by omega)
theorem divInt_den_le {p q : Int} (hq : q ≠ 0) : (Rat.divInt p q).den ≤ q.natAbs := by
  rw [Rat.den_divInt, if_neg hq]
  exact Nat.div_le_self _ _
theorem Sz.over {a b c d : Nat} {x y : Rat} (hx : Sz a b x) (hy : Sz c d y) (h0 : 0 < y) : Sz (a + d) (b + c) (x / y) := by
  rw [← over_val x y h0]
  refine ⟨Nat.lt_of_le_of_lt (divInt_num_le _ _) (abs_mul_lt hx.1 hy.2), Nat.lt_of_le_of_lt (divInt_den_le (by have := over_pos x y h0; omega)) (abs_mul_lt hx.2 hy.1)⟩
theorem Sz.minus {a b c d : Nat} {x y : Rat} (hx : Sz a b x) (hy : Sz c d y) : Sz (a + d + c + b + 1) (b + d) (x - y) := by
  rw [← minus_val x y]
  have h1 : (x.num * (y.den : Int)).natAbs < 2 ^ (a + d + c + b) := Nat.lt_of_lt_of_le (abs_mul_lt hx.1 hy.2) (Nat.pow_le_pow_right (by decide) (by omega))
  have h2 : (y.num * (x.den : Int)).natAbs < 2 ^ (a + d + c + b) := Nat.lt_of_lt_of_le (abs_mul_lt hy.1 hx.2) (Nat.pow_le_pow_right (by decide) (by omega))
  exact ⟨Nat.lt_of_le_of_lt (divInt_num_le _ _) (abs_sub_lt h1 h2), Nat.lt_of_le_of_lt (divInt_den_le (by have := den_mul_pos x y; omega)) (abs_mul_lt hx.2 hy.2)⟩
theorem Bd.sz {D M a b : Nat} {x : Rat} (h : Bd D M x) (hD : D ≤ 2 ^ a) (hM : M ≤ 2 ^ b) : Sz (a + b + 1) (a + 1) x := by
  refine ⟨Nat.lt_of_le_of_lt h.num ?_, Nat.lt_of_le_of_lt h.den (Nat.lt_of_le_of_lt hD (Nat.pow_lt_pow_right (by decide) (by omega)))⟩
  have := pow_mul_le hM hD
  refine Nat.lt_of_le_of_lt this ?_
  exact Nat.pow_lt_pow_right (by decide) (by omega)
/-- the lesser one of 1 and the ratio -/
def les (u a : Rat) : Rat := if a < u then a / u else 1
theorem les_gone {u a : Rat} : 1 - les u a = gone u a := by
  unfold les gone
  split <;> grind
theorem one_sz : Sz 1 1 1 := ⟨by decide, by decide⟩
theorem les_sz {u a : Rat} (hu : 0 < u) (ha : Bd 6 30000 a) (hb : Bd 36 150000 u) : Sz 40 40 (les u a) := by
  unfold les
  split
  · have h1 := ha.sz (a := 3) (b := 15) (by decide) (by decide)
    have h2 := hb.sz (a := 6) (b := 18) (by decide) (by decide)
    have h3 := h1.over h2 hu
    exact ⟨Nat.lt_of_lt_of_le h3.1 (Nat.pow_le_pow_right (by decide) (by decide)), Nat.lt_of_lt_of_le h3.2 (Nat.pow_le_pow_right (by decide) (by decide))⟩
  · exact ⟨by show 1 < 2 ^ 40; decide, by show 1 < 2 ^ 40; decide⟩
theorem gone_sm {u a : Rat} (hu : 0 < u) (ha : Bd 6 30000 a) (hb : Bd 36 150000 u) : Sm (gone u a) := by
  rw [← les_gone]
  exact (Sz.minus one_sz (les_sz hu ha hb)).sm (by decide) (by decide)
/-! ### walks -/
variable {P : Program} {w : World} {K : PySem.W.Frag} {mg : Str → Option Value} {base : Heap} {T : Tb}
def spLes (T : Tb) (K : PySem.W.Frag) : Sp := fun vs H Q _ => ∃ (G : Hp) (a b : V) (x u : Rat), vs = [a, b] ∧ Same G H ∧ IsFr K G a x ∧ IsFr K G b u ∧ Sm x ∧ Sm u ∧ 0 < u ∧ Gives T G H (fun G' v => IsFr K G' v (les u x)) Q
theorem sc_les : FnScope ["_law_weight", "_law_limit"] ["_law_weight", "_law_limit"] (defScope (topS 49)) := ⟨rfl, rfl, rfl, by decide +kernel, rfl, by decide +kernel, by decide +kernel⟩
theorem ok_les (D : Def K mg "_law_lesser" (topS 49) ["_law_weight", "_law_limit"]) (CL : Cal P w K mg base 1 "_law_less" ["_law_one", "_law_other"] (spLess K)) (CO : Cal P w K mg base 1 "_law_low" ["_law_p", "_law_q"] (spLow T K)) : Cal P w K mg base 2 "_law_lesser" ["_law_weight", "_law_limit"] (spLes T K) := by
  refine D.ok sc_les (fun vs H Q E h => ?_) (fun f cdv A outer s H vs Q E hr h => ?_)
  · obtain ⟨G, a, b, x, u, rfl, _⟩ := h
    rfl
  · obtain ⟨G, a, b, x, u, rfl, hs, ha, hb, hx, hu, h0, k⟩ := h
    refine ⟨_, pss_cons (ps_if (PW.pt (pw_or (pt_cmpR op_eq (pe_ix ix_tup (pv 1) pe_int (fun _ _ => rfl)) pe_int (nomark _)) (pw_or (pt_val (CL.pe hr (by rfl) (pa_cons (pv 1) (pa_cons (pv 0) pa_nil)))) (pw_or1 (pt_cmpR (op_eqD (hu64 hr)) (pv 0) (pv 1) (nomark _))))))
        (pss_one (ps_ret (pe_tup (pa_cons pe_int (pa_cons pe_int pa_nil))))) pss_nil)
      (pss_one (ps_ret (CO.pe hr (by rfl) (pa_cons (pe_op op_mulW (pe_ix ix_tup (pv 0) pe_int (fun _ _ => rfl)) (pe_ix ix_tup (pv 1) pe_int (fun _ _ => rfl))) (pa_cons (pe_op op_mulW (pe_ix ix_tup (pv 0) pe_int (fun _ _ => rfl)) (pe_ix ix_tup (pv 1) pe_int (fun _ _ => rfl))) pa_nil))))), ?_⟩
    have ha' := ha.of hs
    have hb' := hb.of hs
    have hn := num_pos h0
    -- the way of 1
    have one : ¬ x < u → tRet (tTup (tCons (tC (.int 1)) (tCons (tC (.int 1)) tNil))) { nx := fun σ H' => False, rt := Q } (start ["_law_weight", "_law_limit"] [a, b]) H := fun hle => by
      refine ⟨(by show 2 ≤ sizeLine; decide), fun t nt => ?_⟩
      refine k (.ref t) _ _ (Ext.new hs nt (by intro ps q; cases q)) ?_
      unfold les
      rw [if_neg hle]
      exact one_fr (SqT.of upd_same)
    refine fr0 rfl hb' ⟨rfl, _, rfl, ?_⟩
    have e0 : decide (V.int u.num = V.int 0) = false := decide_eq_false fun z => by have := V.int.inj z; omega
    show if decide (V.int u.num = V.int 0) = true then _ else _
    rw [e0]
    refine iteF ?_
    refine ⟨b, rfl, a, rfl, G, b, a, u, x, rfl, hs, hb, ha, hu, hx, _, rfl, ite2 (fun e => ?_) (fun e => ?_)⟩
    · have hlt : u < x := of_decide_eq_true e
      refine iteT ?_
      exact one (by grind)
    · have hnl : ¬ u < x := fun z => e (decide_eq_true z)
      refine ⟨a, rfl, b, rfl, frD x, frD u, ha'.dp, hb'.dp, frD_shaped _, frD_shaped _, _, rfl, ?_⟩
      rw [frD_eqv]
      refine ite2 (fun e => ?_) (fun e => ?_)
      · have : x = u := of_decide_eq_true e
        exact one (by grind)
      · have hne : x ≠ u := fun z => e (decide_eq_true z)
        have hlt : x < u := by grind
        refine fr0 rfl ha' (fr1 rfl hb' ⟨_, _, rfl, rfl, wide_mul hx.num hu.den (by decide) (by decide) (by decide), fr1 rfl ha' (fr0 rfl hb' ⟨_, _, rfl, rfl, wide_mul hx.den hu.num (by decide) (by decide) (by decide), ?_⟩)⟩)
        refine ⟨G, _, _, rfl, hs, over_pos x u h0, Nat.lt_of_lt_of_le (abs_mul_lt hx.den hu.num) (Nat.pow_le_pow_right (by decide) (by decide)), fun v G' H' e r => k v G' H' e ?_⟩
        rw [over_val x u h0] at r
        unfold les
        rw [if_pos hlt]
        exact r
/-- what is known of parts on the way -/
structure PtOk (p : It × Rat) : Prop where
  it : ItOk p.1
  bd : Bd 6 30000 p.2
  pos : 0 < p.2
theorem PtOk.sm {p : It × Rat} (h : PtOk p) : Sm p.2 := h.bd.sml (a := 3) (b := 15) (by decide) (by decide) (by decide)
def spRaised (T : Tb) (K : PySem.W.Frag) : Sp := fun vs H Q _ => ∃ (G : Hp) (l b : V) (ps : List (It × Rat)) (u : Rat), vs = [l, b] ∧ Same G H ∧ IsPts K G l ps ∧ IsFr K G b u ∧ (∀ p ∈ ps, Sm p.2) ∧ Sm u ∧ ps.length ≤ 100000 ∧ Gives T G H (fun G' v => IsPts K G' v (raise u ps)) Q
theorem sc_raised : FnScope ["_law_parts", "_law_limit", "_law_item", "_law_adjusted"] ["_law_parts", "_law_limit"] (defScope (topS 51)) := ⟨rfl, rfl, rfl, by decide +kernel, rfl, by decide +kernel, by decide +kernel⟩
theorem ok_raised (N : Nm K mg) (D : Def K mg "_law_raised" (topS 51) ["_law_parts", "_law_limit"]) (CL : Cal P w K mg base 1 "_law_less" ["_law_one", "_law_other"] (spLess K)) : Cal P w K mg base 2 "_law_raised" ["_law_parts", "_law_limit"] (spRaised T K) := by
  refine D.ok sc_raised (fun vs H Q E h => ?_) (fun f cdv A outer s H vs Q E hr h => ?_)
  · obtain ⟨G, l, b, ps, u, rfl, _⟩ := h
    rfl
  · obtain ⟨G, lv, b, ps, u, rfl, hs, ⟨l, ws, rfl, hl, hp⟩, hb, hsm, hu, hn, k⟩ := h
    refine ⟨_, pss_one (ps_ret (pe_lc (own := [("_law_item", 2), ("_law_adjusted", 3)]) (g := gTup K 2 (gCons (gName 2) (gCons (gName 3) gNil))) (tt := tYes) rfl sc_raised.nd (pi_list (pv 0)) (blkOk_by (N := ["_law_parts", "_law_limit", "_law_item", "_law_adjusted"]) (sc := defScope (topS 51)) (by decide +kernel))
          (fun _ _ _ _ _ => pg_tup (by rfl) (pgs_cons (pg_name (i := 2) sc_raised.nd rfl (Or.inl rfl)) (pgs_cons (pg_name (i := 3) sc_raised.nd rfl (Or.inl rfl)) pgs_nil))) (fun _ _ _ _ _ => pts_nil)
          (fun _ _ _ _ _ => pe_tup (pa_cons (pv 2) (pa_cons (pe_ix (r := rIxL K) ix_list (pe_lst (pa_cons (pv 3) (pa_cons (pv 1) pa_nil))) (pe_callTy call_int1 (by rfl) N.int (by decide +kernel) (pa_cons (CL.pe hr (by rfl) (pa_cons (pv 3) (pa_cons (pv 1) pa_nil))) pa_nil)) (fun _ _ => rfl)) pa_nil))))), ?_⟩
    refine ⟨.ref l, rfl, l, rfl, ⟨_, hs.seq hl⟩, lc_pure (T := T) (G := G) (vs := ws) (xs := ps) (R := fun G' v (p : It × Rat) => IsPt K G' v p) (f := fun p => (p.1, mx p.2 u)) hs hl hp (by rw [hp.length]; exact hn) (fun _ _ _ _ e q => q.of e)
      (fun i x q G' H' Qe hy hxy e k' => ?_) fun D G1 H1 e1 nD hD => k _ G1 H1 e1 hD⟩
    obtain ⟨t, v1, v2, rfl, ht, h1, h2⟩ := hxy
    have hm := List.mem_of_getElem? hy
    refine ⟨t, _, rfl, sameT (e.gg.trans e.gh) ht, rfl, v1, _, rfl, v2, _, rfl, rfl, rfl, v1, rfl, v2, rfl, b, rfl, (by show 2 ≤ sizeLine; decide), fun g ng => ?_⟩
    have e2 : Ext T G' H' _ _ := Ext.new (T := T) (o := .lst [v2, b]) e.gh ng (by intro ps q; cases q)
    have e02 := e.trans e2
    refine ⟨v2, rfl, b, rfl, _, v2, b, q.2, u, rfl, e2.gh, h2.of e02.gg, hb.of e02.gg, hsm q hm, hu, ?_⟩
    refine .inr ⟨_, rfl, ?_⟩
    -- which one
    obtain ⟨z, hz, hzf⟩ : ∃ z, atI [v2, b] (if decide (q.2 < u) then 1 else 0) = some z ∧ IsFr K (upd G' g (.lst [v2, b])) z (mx q.2 u) := by
      unfold mx
      by_cases h : q.2 < u
      · rw [decide_eq_true h, if_pos h]
        exact ⟨b, rfl, hb.of e02.gg⟩
      · rw [decide_eq_false h, if_neg h]
        exact ⟨v2, rfl, h2.of e02.gg⟩
    refine ⟨g, _, _, z, rfl, rfl, SqL.of upd_same, hz, (by show 2 ≤ sizeLine; decide), fun t2 nt2 => ?_⟩
    have e3 : Ext T _ _ _ _ := Ext.new (T := T) (o := .tup [v1, z]) e2.gh nt2 (by intro ps q; cases q)
    exact k' (.ref t2) _ _ (e2.trans e3) ⟨t2, v1, z, rfl, SqT.of upd_same, h1.of (e02.gg.trans e3.gg), hzf.of e3.gg⟩
end K36

set_option Elab.async false
set_option autoImplicit false
set_option linter.all false
set_option maxRecDepth 100000
set_option maxHeartbeats 4000000
/-! What a single item adds: its variance. -/
namespace K36
open PySem PySem.Spec PyProof.Rows L2
/-! ### plain -/
/-- outcomes whose chances and parts have sizes -/
structure OutsOk (found : List (Rat × List (It × Rat))) : Prop where
  len : found.length ≤ 1024
  nd : ∀ r ∈ found, (r.2.map (·.1)).Nodup
  pts : ∀ r ∈ found, ∀ p ∈ r.2, PtOk p
  plen : ∀ r ∈ found, r.2.length ≤ 5
  ch : ∃ Dc : Nat, 0 < Dc ∧ Dc ≤ 2 ^ 80 ∧ ∀ r ∈ found, Bd Dc 1 r.1
theorem adj_take {ps : List (It × Rat)} (nd : (ps.map (·.1)).Nodup) {i : Nat} {p : It × Rat} (h : ps[i]? = some p) (it : It) : adj (ps.take (i + 1)) it = if p.1 = it then p.2 else adj (ps.take i) it := by
  have h1 : adj (ps.take (i + 1)) it = adj (ps.take i) it + (if p.1 = it then p.2 else 0) := sm_take h _
  rw [h1]
  by_cases e : p.1 = it
  · rw [if_pos e, if_pos e]
    have h0 : adj (ps.take i) it = 0 := by
      refine adj_none fun hm => ?_
      obtain ⟨q, hq, eq⟩ := List.mem_map.mp hm
      obtain ⟨j, hj⟩ := List.mem_iff_getElem?.mp hq
      have hji : j < i := by
        have := (List.getElem?_eq_some_iff.mp hj).1
        rw [List.length_take] at this
        omega
      rw [List.getElem?_take_of_lt hji] at hj
      have hjl := (List.getElem?_eq_some_iff.mp hj).1
      have hil := (List.getElem?_eq_some_iff.mp h).1
      have hp := List.pairwise_iff_getElem.mp nd j i (by rw [List.length_map]; exact hjl) (by rw [List.length_map]; exact hil) hji
      rw [List.getElem_map, List.getElem_map] at hp
      have e1 : ps[j] = q := (List.getElem?_eq_some_iff.mp hj).2
      have e2 : ps[i] = p := (List.getElem?_eq_some_iff.mp h).2
      rw [e1, e2] at hp
      exact hp (eq.trans e.symm)
    rw [h0]; grind
  · rw [if_neg e, if_neg e]; grind
theorem adj_bd {ps : List (It × Rat)} (nd : (ps.map (·.1)).Nodup) (h : ∀ p ∈ ps, PtOk p) (it : It) : Bd 6 30000 (adj ps it) := by
  by_cases hm : it ∈ ps.map (·.1)
  · obtain ⟨p, hp, e⟩ := List.mem_map.mp hm
    subst e
    rw [adj_mem nd hp]
    exact (h p hp).bd
  · rw [adj_none hm]
    exact (Bd.zero (by decide)).mono (by decide)
theorem added_bd {y : Str → Int} (hy : YOk y) {it : It} (hw : ItW it) {a : Rat} (h : Bd 6 30000 a) : Bd (6 * it.w.toNat) (2 ^ 40) (yv y it * (a / wt it)) := by
  have := (hy.bd it).mul (h.divw hw)
  rw [Nat.one_mul] at this
  exact this.mono (by decide)
theorem addeds_ok {y : Str → Int} (hy : YOk y) {it : It} (hw : ItW it) {found : List (Rat × List (It × Rat))} (O : OutsOk found) : MomOk (addeds wt (yv y) found it) := by
  refine ⟨by unfold addeds; rw [List.length_map]; exact O.len, ?_⟩
  obtain ⟨Dc, c0, cl, cb⟩ := O.ch
  have hw1 := hw.1
  refine ⟨6 * it.w.toNat, Dc, by omega, c0, ?_, cl, fun r hr => ?_⟩
  · have := w_le hw
    exact Nat.le_trans (Nat.mul_le_mul (show 6 ≤ 2 ^ 3 by decide) this) (by decide)
  · obtain ⟨q, hq, e⟩ := List.mem_map.mp hr
    subst e
    exact ⟨added_bd hy hw (adj_bd (O.nd q hq) (O.pts q hq) it), cb q hq⟩
/-! ### walks -/
variable {P : Program} {w : World} {K : PySem.W.Frag} {mg : Str → Option Value} {base : Heap} {T : Tb}
def IsOuts (K : PySem.W.Frag) (G : Hp) (v : V) (found : List (Rat × List (It × Rat))) : Prop := IsLs K (IsOut K G) G v found
theorem IsOuts.of {G H : Hp} {v : V} {found : List (Rat × List (It × Rat))} (e : Same G H) (h : IsOuts K G v found) : IsOuts K H v found := IsLs.of (fun _ _ q => IsOut.of e q) e h
def spSingle (T : Tb) (K : PySem.W.Frag) : Sp := fun vs H Q _ => ∃ (G : Hp) (l i : V) (found : List (Rat × List (It × Rat))) (it : It) (y : Str → Int), vs = [l, i, .int (y it.key)] ∧ Same G H ∧ IsOuts K G l found ∧ IsIt K G i it ∧ ItOk it ∧ ItW it ∧ YOk y ∧ OutsOk found ∧
  Gives T G H (fun G' v => IsFr K G' v (vari (addeds wt (yv y) found it))) Q
theorem sc_single : FnScope ["_law_found", "_law_item", "_law_amount", "_law_rows", "_law_chance", "_law_parts", "_law_added", "_law_other", "_law_adjusted"] ["_law_found", "_law_item", "_law_amount"] (defScope (topS 54)) := ⟨rfl, rfl, rfl, by decide +kernel, rfl, by decide +kernel, by decide +kernel⟩
theorem ok_single (D : Def K mg "_law_single" (topS 54) ["_law_found", "_law_item", "_law_amount"]) (CO : Cal P w K mg base 4 "_law_low" ["_law_p", "_law_q"] (spLow T K)) (CM : Cal P w K mg base 4 "_law_moments" ["_law_rows"] (spMom T K)) :
    Cal P w K mg base 5 "_law_single" ["_law_found", "_law_item", "_law_amount"] (spSingle T K) := by
  refine D.ok sc_single (fun vs H Q E h => ?_) (fun f cdv A outer s H vs Q E hr h => ?_)
  · obtain ⟨G, l, i, found, it, y, rfl, _⟩ := h
    rfl
  · obtain ⟨G, lv, iv, found, it, y, rfl, hs, ⟨l, ws, rfl, hl, hp⟩, hi, iok, iw, oky, O, k⟩ := h
    refine ⟨_, pss_cons (ps_set (i := 3) sc_single.nd rfl (.inl rfl) (pe_lst pa_nil))
      (pss_cons (ps_for PassesOwn.never rfl (pi_list (pv 0)) (pg_tup rfl (pgs_cons (pg_name (i := 4) sc_single.nd rfl (.inl rfl)) (pgs_cons (pg_name (i := 5) sc_single.nd rfl (.inl rfl)) pgs_nil)))
        (pss_cons (ps_set (i := 6) sc_single.nd rfl (.inl rfl) (pe_tup (pa_cons pe_int (pa_cons pe_int pa_nil))))
        (pss_cons (ps_for PassesOwn.never rfl (pi_list (pv 5)) (pg_tup rfl (pgs_cons (pg_name (i := 7) sc_single.nd rfl (.inl rfl)) (pgs_cons (pg_name (i := 8) sc_single.nd rfl (.inl rfl)) pgs_nil)))
          (pss_one (ps_if (pt_cmpR (op_eqD (hu64 hr)) (pv 7) (pv 1) (nomark _))
            (pss_one (ps_set (i := 6) sc_single.nd rfl (.inl rfl) (CO.pe hr (by rfl) (pa_cons (pe_op op_mulW (pv 2) (pe_ix ix_tup (pv 8) pe_int (fun _ _ => rfl))) (pa_cons (pe_op op_mulW (pe_ix ix_tup (pv 1) pe_int (fun _ _ => rfl)) (pe_ix ix_tup (pv 8) pe_int (fun _ _ => rfl))) pa_nil))))) pss_nil)))
        (pss_one (ps_expr (pe_bm PySem.F.plainAttrs_list PySem.F.slot_list_append PySem.F.type_list_append mt_append (pv 3) (pa_cons (pe_tup (pa_cons (pv 6) (pa_cons (pv 4) pa_nil))) pa_nil)))))))
      (pss_one (ps_ret (pe_ix ix_tup (CM.pe hr (by rfl) (pa_cons (pv 3) pa_nil)) pe_int (fun _ _ => rfl))))), ?_⟩
    have hlx : ws.length = found.length := hp.length
    have hfl := O.len
    refine ⟨Nat.zero_le _, fun rl nr => ?_⟩
    have e0 : Ext T G H G (upd H rl (.lst [])) := Ext.newM hs nr
    have gr : G rl = none := hs.free nr
    -- the loop over the outcomes
    refine ⟨.ref l, rfl, l, rfl, ⟨_, (e0.gg.trans e0.gh).seq hl⟩, for_list (K := K) (a := l) (xs := ws) (fun i σ H' => ∃ (G' : Hp) (us : List V) (y4 y5 y6 y7 y8 : Option V), σ = [some (.ref l), some iv, some (.int (y it.key)), some (.ref rl), y4, y5, y6, y7, y8] ∧
        Ext T G H G' H' ∧ H' rl = some (.lst us) ∧ G' rl = none ∧ Paired (IsRow K G') us ((addeds wt (yv y) found it).take i))
      ⟨G, [], none, none, none, none, none, rfl, e0, upd_same, gr, .nil⟩ (fun i σ H' _ ⟨G', _, _, _, _, _, _, _, e, _⟩ => (e.gg.trans e.gh).seq hl) (fun i x σ H' hx hP => ?_) (fun σ H' hP => ?_)⟩
    · obtain ⟨G', us, y4, y5, y6, y7, y8, rfl, e, hu, gu, hrw⟩ := hP
      obtain ⟨r, hr', ⟨t, vc, vp, rfl, ht, hc, hpts⟩⟩ := Paired.get' hp hx
      have hm := List.mem_of_getElem? hr'
      have nd := O.nd r hm
      have pk := O.pts r hm
      have hp5 := O.plen r hm
      refine ⟨t, _, rfl, sameT (e.gg.trans e.gh) ht, rfl, vc, _, rfl, vp, _, rfl, rfl, ?_⟩
      -- added = (0, 1)
      refine ⟨(by show 2 ≤ sizeLine; decide), fun z nz => ?_⟩
      have e1 := e.trans (Ext.new (T := T) (o := .tup [.int 0, .int 1]) e.gh nz (by intro ps q; cases q))
      have nrz : rl ≠ z := ne_of_none hu nz
      obtain ⟨pl, pws, rfl, hpl, hpp⟩ := hpts
      have hplx : pws.length = r.2.length := hpp.length
      refine ⟨.ref pl, rfl, pl, rfl, ⟨_, (e1.gg.trans e1.gh).seq hpl⟩, for_list (K := K) (a := pl) (xs := pws) (fun j σ H'' => ∃ (G'' : Hp) (av : V) (y7 y8 : Option V), σ = [some (.ref l), some iv, some (.int (y it.key)), some (.ref rl), some vc, some (.ref pl), some av, y7, y8] ∧
          Ext T G H G'' H'' ∧ Same G' G'' ∧ H'' rl = some (.lst us) ∧ G'' rl = none ∧ IsFr K G'' av (yv y it * (adj (r.2.take j) it / wt it)))
        ⟨_, .ref z, _, _, rfl, e1, same_new (e.gh.free nz), by rw [upd_ne nrz]; exact hu, by rw [upd_ne nrz]; exact gu, ?_⟩ (fun j σ H'' _ ⟨G'', _, _, _, _, e, _⟩ => (e.gg.trans e.gh).seq hpl) (fun j x σ H'' hxj hP => ?_) (fun σ H'' hP => ?_)⟩
      · have : yv y it * (adj (r.2.take 0) it / wt it) = 0 := by
          have h0 : adj (r.2.take 0) it = 0 := rfl
          rw [h0]; grind
        rw [this]
        exact zero_fr (SqT.of upd_same)
      · obtain ⟨G'', av, y7', y8', rfl, e2, sG, hu2, gu2, hav⟩ := hP
        obtain ⟨p, hpj, ⟨t2, v1, v2, rfl, ht2, h1, h2⟩⟩ := Paired.get' hpp hxj
        have hpm := List.mem_of_getElem? hpj
        have egh := e2.gg.trans e2.gh
        refine ⟨t2, _, rfl, sameT egh ht2, rfl, v1, _, rfl, v2, _, rfl, rfl, ?_⟩
        refine ⟨v1, rfl, iv, rfl, itD p.1, itD it, (h1.of egh).dp, (hi.of egh).dp, itD_shaped (pk p hpm).it, itD_shaped iok, _, rfl, ?_⟩
        rw [itD_eqv]
        refine ite2 (fun c => ?_) (fun c => ?_)
        · have hpe : p.1 = it := of_decide_eq_true c
          have hsm := (pk p hpm).sm
          have hyb : (y it.key).natAbs < 2 ^ 4 := by have := oky it.key; omega
          have hwb : it.w.natAbs < 2 ^ 11 := by have := iw.1; have := iw.2; omega
          have hw0 : (0 : Int) < it.w := by have := iw.1; omega
          refine ⟨_, rfl, fr0 rfl (h2.of egh) ⟨_, _, rfl, rfl, wide_mul hyb hsm.num (by decide) (by decide) (by decide), it2 rfl (hi.of egh) (fr1 rfl (h2.of egh) ⟨_, _, rfl, rfl, wide_mul hwb hsm.den (by decide) (by decide) (by decide), ?_⟩)⟩⟩
          refine ⟨G'', _, _, rfl, e2.gh, Int.mul_pos hw0 (den_pos _), Nat.lt_of_lt_of_le (abs_mul_lt hwb hsm.den) (Nat.pow_le_pow_right (by decide) (by decide)), fun v G3 H3 e3 h3 => ?_⟩
          refine ⟨G3, v, some v1, some v2, rfl, e2.trans e3, sG.trans e3.gg, e3.lists hu2, e3.out hu2 gu2, ?_⟩
          rw [adj_take nd hpj, if_pos hpe]
          have ev : Rat.divInt (y it.key * p.2.num) (it.w * (p.2.den : Int)) = yv y it * (p.2 / wt it) := by
            rw [divInt_val]
            have h4 := rat_eq p.2
            have h5 := den_ne p.2
            have h6 := iw.pos
            have e1 : ((y it.key * p.2.num : Int) : Rat) = yv y it * (p.2.num : Rat) := by unfold yv; push_cast; rfl
            have e2 : ((it.w * (p.2.den : Int) : Int) : Rat) = wt it * (p.2.den : Rat) := by unfold wt; push_cast; rfl
            rw [e1, e2]
            have e3 : p.2 / wt it = ((p.2.num : Rat) / (p.2.den : Rat)) / wt it := by rw [← h4]
            rw [e3]
            grind
          rw [← ev]
          exact h3
        · have hpe : ¬ p.1 = it := fun z => c (decide_eq_true z)
          refine ⟨G'', av, some v1, some v2, rfl, e2, sG, hu2, gu2, ?_⟩
          rw [adj_take nd hpj, if_neg hpe]
          exact hav
      · obtain ⟨G'', av, y7', y8', rfl, e2, sG, hu2, gu2, hav⟩ := hP
        rw [hplx, List.take_length] at hav
        -- rows.append((added, chance))
        refine ⟨.ref rl, rfl, .inl ⟨rfl, _, .inl (.inl hu2)⟩, av, rfl, vc, rfl, (by show 2 ≤ sizeLine; decide), fun b nb => ?_⟩
        have e3 := e2.trans (Ext.new (T := T) (o := .tup [av, vc]) e2.gh nb (by intro ps q; cases q))
        have nrb : rl ≠ b := ne_of_none hu2 nb
        have hu3 : (upd H'' b (.tup [av, vc])) rl = some (.lst us) := by rw [upd_ne nrb]; exact hu2
        have gu3 : (upd G'' b (.tup [av, vc])) rl = none := by rw [upd_ne nrb]; exact gu2
        have hul : us.length ≤ 1024 := by
          rw [hrw.length, List.length_take]
          unfold addeds
          rw [List.length_map]
          omega
        refine ⟨rl, us, .ref b, rfl, rfl, hu3, Nat.lt_of_le_of_lt hul (by decide), ?_⟩
        have hri : (addeds wt (yv y) found it)[i]? = some (yv y it * (adj r.2 it / wt it), r.1) := by
          unfold addeds
          rw [List.getElem?_map, hr']
          rfl
        have sN : Same G'' (upd G'' b (.tup [av, vc])) := same_new (e2.gh.free nb)
        refine ⟨_, us ++ [.ref b], _, _, _, _, _, rfl, e3.write hu3 nr gu3, upd_same, gu3, ?_⟩
        rw [take_one hri]
        refine Paired.snoc (Paired.imp (fun v x q => (q.of sG).of sN) hrw) ⟨b, av, vc, rfl, SqT.of upd_same, hav.of sN, (hc.of e2.gg).of sN⟩
    · obtain ⟨G', us, y4, y5, y6, y7, y8, rfl, e, hu, gu, hrw⟩ := hP
      have hal : (addeds wt (yv y) found it).length = ws.length := by unfold addeds; rw [List.length_map, hlx]
      rw [← hal, List.take_length] at hrw
      have e9 := e.seal hu nr gu (by intro ps q; cases q)
      refine ⟨.ref rl, rfl, _, .ref rl, _, rfl, e9.gh, ⟨rl, us, rfl, SqL.of upd_same, Paired.imp (fun v x q => q.of (same_new gu)) hrw⟩, addeds_ok oky iw O, fun mv G2 H2 e2 hm => ?_⟩
      obtain ⟨b, v1, v2, rfl, hb, h1, h2⟩ := hm
      exact ⟨b, _, 1, v2, rfl, rfl, sameT e2.gh hb, atI_nat (j := 1) rfl, k v2 G2 H2 (e9.trans e2) h2⟩
end K36

set_option Elab.async false
set_option autoImplicit false
set_option linter.all false
set_option maxRecDepth 100000
set_option maxHeartbeats 8000000
/-! The law's own dropping. -/
namespace K36
open PySem PySem.Spec PyProof.Rows L2
/-! ### plain -/
theorem cut_take (vs : List V) (j : Nat) (h : j ≤ vs.length) : cutV vs none (some (j : Int)) = vs.take j := by
  unfold cutV
  rw [HT.sIx_none, show HT.sIx vs.length vs.length (some (j : Int)) = min j vs.length from HT.sIx_nat vs.length vs.length j]
  rw [List.drop_zero, Nat.sub_zero, Nat.min_eq_left h]
theorem cut_drop (vs : List V) (j : Nat) (h : j ≤ vs.length) : cutV vs (some (j : Int)) none = vs.drop j := by
  unfold cutV
  rw [HT.sIx_none, show HT.sIx vs.length 0 (some (j : Int)) = min j vs.length from HT.sIx_nat vs.length 0 j]
  rw [Nat.min_eq_left h]
  exact List.take_of_length_le (by rw [List.length_drop]; exact Nat.le_refl _)
theorem Paired.takeP {α β : Type} {F : α → β → Prop} : ∀ {l : List α} {m : List β} (i : Nat), Paired F l m → Paired F (l.take i) (m.take i)
  | _, _, 0, _ => .nil
  | _, _, _ + 1, .nil => .nil
  | _, _, i + 1, .cons h t => .cons h (Paired.takeP i t)
theorem Paired.dropP {α β : Type} {F : α → β → Prop} : ∀ {l : List α} {m : List β} (i : Nat), Paired F l m → Paired F (l.drop i) (m.drop i)
  | _, _, 0, h => h
  | _, _, _ + 1, .nil => .nil
  | _, _, i + 1, .cons _ t => Paired.dropP i t
def outD (r : Rat × List (It × Rat)) : PyData := .tuple [frD r.1, ptsD r.2]
theorem outD_lay {r : Rat × List (It × Rat)} (h : ∀ p ∈ r.2, ItOk p.1) : (outD r).canLay0 = true := by
  have h1 : (ptsD r.2).canLay0 = true := SeqAt.canLay_of_shaped (ptsD_shaped h)
  simp [outD, PyData.canLay0, PyData.canLayAll0, frD_lay, h1]
theorem outD_depth (r : Rat × List (It × Rat)) : (outD r).depth ≤ 10 := by
  have h1 := depths_map ptD 3 (l := r.2) fun p _ => by rw [ptD_depth]; decide
  have h2 : (ptsD r.2).depth ≤ 4 := by
    simp only [ptsD, PyData.depth]
    omega
  have h3 := frD_depth r.1
  simp only [outD, PyData.depth, PyData.depthAll]
  omega
theorem outs_shaped {l : List (Rat × List (It × Rat))} (h : ∀ r ∈ l, ∀ p ∈ r.2, ItOk p.1) : SeqAt.shaped (.list (l.map outD)) = true := by
  have a := lays_map outD (l := l) fun r hr => outD_lay (h r hr)
  have b := depths_map outD 10 (l := l) fun r _ => outD_depth r
  have c : PyData.depth (.list (l.map outD)) ≤ 64 := by
    simp only [PyData.depth]
    omega
  show (PyData.canLay0 (.list (l.map outD)) && decide (PyData.depth (.list (l.map outD)) ≤ 64)) = true
  rw [Bool.and_eq_true]
  exact ⟨by simp only [PyData.canLay0]; exact a, decide_eq_true c⟩
theorem nil_shaped : SeqAt.shaped (.list []) = true := by decide +kernel
theorem outs_eqv (l : List (Rat × List (It × Rat))) : PyData.eqv (.list (l.map outD)) (.list []) = l.isEmpty := by
  cases l with
  | nil => simp [PyData.eqv, PyData.eqvAll]
  | cons a l => simp [PyData.eqv, PyData.eqvAll]
/-- what becomes of parts: themselves, in some order, or one gone -/
def DropOf (k : Nat) (c : Rat) (ps : List (It × Rat)) (ds : List (Rat × List (It × Rat))) : Prop :=
  ∃ qs : List (It × Rat), qs.Perm ps ∧ ((qs.length ≤ k ∧ ds = [(c, qs)]) ∨ (k < qs.length ∧ ∃ u, Thr (qs.length - 1) (qs.map (·.2)) u ∧ ds = (drops c u qs).reverse))
theorem drops_len {c u : Rat} {qs : List (It × Rat)} : (drops c u qs).length ≤ qs.length := by
  unfold drops
  refine Nat.le_trans (List.length_filterMap_le _ _) ?_
  rw [splits_len]
  exact Nat.le_refl _
theorem drops_part {c u : Rat} {qs : List (It × Rat)} {r : Rat × List (It × Rat)} (h : r ∈ drops c u qs) : r.2.length + 1 = qs.length ∧ ∀ p ∈ r.2, ∃ q ∈ qs, q.1 = p.1 := by
  obtain ⟨q, hq, _, e⟩ := mem_drops h
  subst e
  have hp := splits_perm qs q hq
  constructor
  · have := hp.length_eq
    rw [List.length_cons] at this
    show (raise u q.2).length + 1 = _
    unfold raise
    rw [List.length_map]
    omega
  · intro p hp'
    obtain ⟨p0, h0, e⟩ := List.mem_map.mp hp'
    exact ⟨p0, hp.mem_iff.mpr (by simp [h0]), by rw [← e]⟩
/-! ### walks -/
variable {P : Program} {w : World} {K : PySem.W.Frag} {mg : Str → Option Value} {base : Heap} {T : Tb}
theorem IsOut.dp {H : Hp} {v : V} {r : Rat × List (It × Rat)} (h : IsOut K H v r) : Dp K H v (outD r) := by
  obtain ⟨a, vc, vp, rfl, ht, h1, h2⟩ := h
  exact .tup ht (.cons h1.dp (.cons h2.dp .nil))
def spLThr (T : Tb) (K : PySem.W.Frag) : Sp := fun vs H Q _ => ∃ (G : Hp) (a : V) (xs : List Rat) (k : Nat), vs = [a, .int (k : Int)] ∧ Same G H ∧ NoT G ∧ LamX.Tabs T H ∧ IsFrs K G a xs ∧ xs.length = k + 1 ∧ 1 ≤ k ∧ k ≤ 3 ∧ (∀ x ∈ xs, Bd 6 30000 x ∧ 0 < x) ∧
  Gives T G H (fun G' v => ∃ u, Thr k xs u ∧ IsFr K G' v u) Q
def spDrop (T : Tb) (K : PySem.W.Frag) : Sp := fun vs H Q _ => ∃ (G : Hp) (c l : V) (ch : Rat) (ps : List (It × Rat)) (k : Nat), vs = [c, l, .int (k : Int)] ∧ Same G H ∧ NoT G ∧ LamX.Tabs T H ∧ IsFr K G c ch ∧ Sm ch ∧ IsPts K G l ps ∧ 1 ≤ k ∧ k ≤ 3 ∧
  1 ≤ ps.length ∧ ps.length ≤ k + 1 ∧ (∀ p ∈ ps, PtOk p) ∧ Gives T G H (fun G' v => ∃ ds, DropOf k ch ps ds ∧ IsOuts K G' v ds) Q
abbrev nDrop : List Str := ["_law_chance", "_law_parts", "_law_size", "_law_waiting", "_law_found", "_law_turn", "_law_limit", "_law_k", "_law_gone", "_law_one"]
theorem sc_drop : FnScope nDrop ["_law_chance", "_law_parts", "_law_size"] (defScope (topS 52)) := ⟨rfl, rfl, rfl, by decide +kernel, rfl, by decide +kernel, by decide +kernel⟩
/-- between two turns -/
structure DropInv (T : Tb) (K : PySem.W.Frag) (G H G' H' : Hp) (wl fl : Addr) (Wt Fd : List (Rat × List (It × Rat))) : Prop where
  e : Ext T G H G' H'
  t : LamX.Tabs T H'
  n : NoT G'
  w : ∃ us, H' wl = some (.lst us) ∧ Paired (IsOut K G') us Wt
  f : ∃ us, H' fl = some (.lst us) ∧ Paired (IsOut K G') us Fd
  gw : G' wl = none
  gf : G' fl = none
theorem DropInv.ext {G H G' H' G2 H2 : Hp} {wl fl : Addr} {Wt Fd : List (Rat × List (It × Rat))} (I : DropInv T K G H G' H' wl fl Wt Fd) (e : Ext T G' H' G2 H2) : DropInv T K G H G2 H2 wl fl Wt Fd := by
  obtain ⟨us, h1, h2⟩ := I.w
  obtain ⟨vs, h3, h4⟩ := I.f
  exact ⟨I.e.trans e, e.tt I.t, e.nt I.n, ⟨us, e.lists h1, Paired.imp (fun v x q => q.of e.gg) h2⟩, ⟨vs, e.lists h3, Paired.imp (fun v x q => q.of e.gg) h4⟩, e.out h1 I.gw, e.out h3 I.gf⟩
theorem DropInv.setW {G H G' H' : Hp} {wl fl : Addr} {Wt Fd Wt' : List (Rat × List (It × Rat))} (I : DropInv T K G H G' H' wl fl Wt Fd) (h0 : H wl = none) (hne : fl ≠ wl) {us : List V} (hp : Paired (IsOut K G') us Wt') : DropInv T K G H G' (upd H' wl (.lst us)) wl fl Wt' Fd := by
  obtain ⟨us0, h1, h2⟩ := I.w
  obtain ⟨vs, h3, h4⟩ := I.f
  exact ⟨I.e.write h1 h0 I.gw, tabs_upd h1 I.t, I.n, ⟨us, upd_same, hp⟩, ⟨vs, by rw [upd_ne hne]; exact h3, h4⟩, I.gw, I.gf⟩
theorem DropInv.setF {G H G' H' : Hp} {wl fl : Addr} {Wt Fd Fd' : List (Rat × List (It × Rat))} (I : DropInv T K G H G' H' wl fl Wt Fd) (h0 : H fl = none) (hne : fl ≠ wl) {us : List V} (hp : Paired (IsOut K G') us Fd') : DropInv T K G H G' (upd H' fl (.lst us)) wl fl Wt Fd' := by
  obtain ⟨us0, h1, h2⟩ := I.w
  obtain ⟨vs, h3, h4⟩ := I.f
  exact ⟨I.e.write h3 h0 I.gf, tabs_upd h3 I.t, I.n, ⟨us0, by rw [upd_ne hne.symm]; exact h1, h2⟩, ⟨us, upd_same, hp⟩, I.gw, I.gf⟩
/-- a new object beside -/
theorem DropInv.new {G H G' H' : Hp} {wl fl : Addr} {Wt Fd : List (Rat × List (It × Rat))} (I : DropInv T K G H G' H' wl fl Wt Fd) {p : Addr} {o : HO} (hp : H' p = none) (ho : ∀ ps, o ≠ .tbl ps) : DropInv T K G H (upd G' p o) (upd H' p o) wl fl Wt Fd :=
  I.ext (Ext.new I.e.gh hp ho)
theorem pt1 {σ : L2.St} {G H : Hp} {Q : VK} {i : Nat} {v : V} {p : It × Rat} (hs : σ[i]? = some (some v)) (hG : Same G H) (h : IsPt K G v p) (q : ∀ z, IsFr K G z p.2 → Q z H) : tOp (rIxT K) (tVar i) (tC (.int 1)) σ H Q := by
  obtain ⟨a, vi, vx, rfl, ht, h1, h2⟩ := h
  exact ⟨_, hs, a, _, 1, vx, rfl, rfl, sameT hG ht, atI_nat (j := 1) rfl, q vx h2⟩
end K36

set_option Elab.async false
set_option autoImplicit false
set_option linter.all false
set_option maxRecDepth 100000
set_option maxHeartbeats 8000000
/-! sorted(xs, key=lambda one: one[0] * 10 ** 30 // max(1, one[1])). -/
namespace K36
open PySem PySem.Spec PyProof.Rows L2
def key30 (p q : Int) : Int := (p * 10 ^ 30).fdiv (if q > 1 then q else 1)
section
variable {prog : Program} {w : World} {A : Around} {E : Value → Shared → Prop} {s : Shared}
/-- an item of a pair -/
theorem lam_sub {env : Env} {tp : Addr} {p q : Int} {t1 t2 : Tok} {m : Str → Option Value} {p1 p2 p3 : Pos} {k1 : Nat} {i : Int} {v : Value} {Q : Value → Shared → Prop}
    (hk : env.scope.kind = .function) (h1 : env.kindOf "_law_one" = some .local) (hn : s.heap.Ns env.locals m) (hv : m "_law_one" = some (.ref tp)) (ht : IsTup s.heap tp #[.int p t1, .int q t2])
    (hi : (i = 0 ∧ v = .int p t1) ∨ (i = 1 ∧ v = .int q t2)) (h : Q v { s with toks := s.toks + 1 }) :
    wpAny (model prog w) A (eval (.Subscript (.Name "_law_one" p1) (.Constant (.int i) k1 p2) p3) env) Q E s := by
  refine Subscript_ (wpAny_Name (wpAny_loadName_local hk h1 hn hv (wpAny_Constant_int ?_)))
  have g : wpAny (model prog w) A (getItem (.ref tp) (.int i s.toks)) (fun r s' => r = v ∧ Q r s') E { s with toks := s.toks + 1 } := by
    rcases hi with ⟨rfl, rfl⟩ | ⟨rfl, rfl⟩
    · exact getItem_tuple (s := { s with toks := s.toks + 1 }) (j := 0) ht (by decide) (by decide) (by rfl) (by rfl) ⟨rfl, h⟩
    · exact getItem_tuple (s := { s with toks := s.toks + 1 }) (j := 1) ht (by decide) (by decide) (by rfl) (by rfl) ⟨rfl, h⟩
  exact subscriptTail_builtinR (s := { s with toks := s.toks + 1 }) (T := "tuple") (x := v) ht.typeIs PySem.F.slot_tuple_getitem.lookup g
theorem lam_body {env : Env} {tp : Addr} {p q : Int} {t1 t2 : Tok} {m mg mb : Str → Option Value} {p1 p2 p3 p4 p5 p6 p7 p8 p9 p10 p11 p12 p13 p14 : Pos} {k1 k2 k3 k4 k5 : Nat} {Q : Value → Shared → Prop}
    (hk : env.scope.kind = .function) (h1 : env.kindOf "_law_one" = some .local) (hx : env.kindOf "max" = some .globalImplicit) (hn : s.heap.Ns env.locals m) (hv : m "_law_one" = some (.ref tp)) (ht : IsTup s.heap tp #[.int p t1, .int q t2])
    (hg : s.heap.Ns env.globals mg) (hmiss : mg "max" = none) (hb : s.heap.Ns env.builtins mb) (hmb : mb "max" = some (.builtin "max")) (hp : p.natAbs < 2 ^ 100) (hq : q.natAbs < 2 ^ 100) (hh : A.handled = none)
    (hs : backTo p13 (starEach [.Constant (.int 1) k4 p9, .Subscript (.Name "_law_one" p10) (.Constant (.int 1) k5 p11) p12] env) = [(false, eval (.Constant (.int 1) k4 p9) env), (false, eval (.Subscript (.Name "_law_one" p10) (.Constant (.int 1) k5 p11) p12) env)] := by rfl)
    (h : ∀ h' tk t, (∀ b o, s.heap.get? b = some o → h'.get? b = some o) → Q (.int (key30 p q) t) { s with heap := h', toks := tk }) :
    wpAny (model prog w) A (eval (.BinOp (.BinOp (.Subscript (.Name "_law_one" p1) (.Constant (.int 0) k1 p2) p3) .Mult (.BinOp (.Constant (.int 10) k2 p4) .Pow (.Constant (.int 30) k3 p5) p6) p7) .FloorDiv
      (.Call (.Name "max" p8) [.Constant (.int 1) k4 p9, .Subscript (.Name "_law_one" p10) (.Constant (.int 1) k5 p11) p12] [] p13) p14) env) Q E s := by
  refine wpAny_BinOp (wpAny_BinOp (lam_sub hk h1 hn hv ht (.inl ⟨rfl, rfl⟩) ?_))
  refine wpAny_BinOp (wpAny_Constant_int (wpAny_Constant_int ?_))
  refine pow_int_small (by decide) (by decide) (by decide) ?_
  refine mul_int ?_ (L2.wide_mul (a := 100) (b := 100) hp (by decide) (by decide) (by decide) (by decide)).ok
  refine wpAny_Call_NameR (Calls.Name_function_global hk hx (Calls.loadGlobal_builtin hg hmiss hb hmb ?_))
  rw [hs]
  refine Calls.callWith_builtin rfl (Calls.evalArgs_plain (Calls.spliced_cons (wpAny_Constant_int (Calls.spliced_cons (lam_sub hk h1 hn hv ht (.inr ⟨rfl, rfl⟩) (Calls.spliced_nil ?_))))))
  refine max_two_ints hh fun h' tk hkeep => ?_
  have e : ∀ (t u : Tok), ∃ z, (if q > 1 then Value.int q t else Value.int 1 u) = Value.int (if q > 1 then q else 1) z := fun t u => by
    by_cases c : q > 1
    · exact ⟨t, by rw [if_pos c, if_pos c]⟩
    · exact ⟨u, by rw [if_neg c, if_neg c]⟩
  obtain ⟨z, hz⟩ := e t2 _
  rw [hz]
  have hq2 : (if q > 1 then q else 1).natAbs < 2 ^ 100 := by
    split
    · exact hq
    · decide
  have hq0 : (if q > 1 then q else 1) ≠ 0 := by
    split <;> omega
  exact floordiv_int hq0 (h _ _ _ hkeep) (.inl (PyProof.noPylong_of_log2 (by
    have := PySem.Flt.log2_lt_of (by decide : 0 < 100) hq2
    omega)))
end
/-! ### the rule -/
theorem qT_ok : True := trivial
abbrev lamA (pa : Pos) : Arguments := { posonlyargs := [], args := [{ arg := "_law_one", annotation := none, pos := pa }], vararg := none, kwonlyargs := [], kw_defaults := [], kwarg := none, defaults := [] }
abbrev lamSc : Scope := { kind := .function, names := [(PySem.Str.ofString "_law_one", .local), (PySem.Str.ofString "max", .globalImplicit)], isGenerator := false, isCoroutine := false, more := [] }
abbrev lamB (p1 p2 p3 p4 p5 p6 p7 p8 p9 p10 p11 p12 p13 p14 : Pos) (k1 k2 k3 k4 k5 : Nat) : Expr :=
  .BinOp (.BinOp (.Subscript (.Name "_law_one" p1) (.Constant (.int 0) k1 p2) p3) .Mult (.BinOp (.Constant (.int 10) k2 p4) .Pow (.Constant (.int 30) k3 p5) p6) p7) .FloorDiv
      (.Call (.Name "max" p8) [.Constant (.int 1) k4 p9, .Subscript (.Name "_law_one" p10) (.Constant (.int 1) k5 p11) p12] [] p13) p14
def keyLe (x y : Rat) : Prop := key30 x.num (x.den : Int) ≤ key30 y.num (y.den : Int)
def tSortLam (T : Tb) (K : PySem.W.Frag) (H0 : Hp) (i : Nat) : TE := fun σ H Q => ∃ (G : Hp) (a : Addr) (ws : List V) (xs : List Rat), σ[i]? = some (some (.ref a)) ∧ Same G H ∧ NoT G ∧ LamX.Tabs T H ∧ SqL K G a ws ∧ Paired (IsFr K G) ws xs ∧
  (∀ x ∈ xs, x.num.natAbs < 2 ^ 100 ∧ (x.den : Int).natAbs < 2 ^ 100) ∧
  ∀ (H1 : Hp) (ws' : List V) (xs' : List Rat) (p : Addr), LamX.ExtN H H1 → LamX.Tabs T H1 → (∀ b ps, H0 b = some (.tbl ps) → H1 b ≠ none) → xs'.Perm xs → xs'.Pairwise keyLe → Paired (IsFr K G) ws' xs' → H1 p = none → Q (.ref p) (upd H1 p (.lst ws'))
theorem keep_same {G H H1 : Hp} (h : Same G H) (n : NoT G) (e : LamX.ExtN H H1) : Same G H1 := fun b o q => e b o (h b o q) fun ps z => n b ps (by rw [q, z])
theorem pe_sortedLam {X : Cx} {T : Tb} {c P : Addr} {i k : Nat} {ps pw pa lpos kpos pos p1 p2 p3 p4 p5 p6 p7 p8 p9 p10 p11 p12 p13 p14 : Pos} {k1 k2 k3 k4 k5 : Nat} (hw : X.N[i]? = some ("_law_weights" : Str)) (hv : Vis X.env.scope "_law_weights")
    (hs : Gl X "sorted") (ms : X.mg "sorted" = none) (mx : X.mg "max" = none) (TB : LamX.TabB X.base X.mg c P) (hcode : X.env.code = .ref c) (hmT : (P, X.env.qual ++ "<lambda>") ∈ T) (hu : ∀ p ∈ T, p.1 = P → p.2 = X.env.qual ++ "<lambda>") (hr : Room k X.A)
    (hdef : defaultsOf (lamA pa) X.env = ([], [])) :
    PE X (.Call (.Name "sorted" ps) [.Name "_law_weights" pw] [⟨some "key", .Lambda (lamA pa) (lamB p1 p2 p3 p4 p5 p6 p7 p8 p9 p10 p11 p12 p13 p14 k1 k2 k3 k4 k5) lamSc lpos, kpos⟩] pos) (tSortLam T X.K X.H_0 i) := by
  refine ⟨fun pins s σ H Q I h => ?_⟩
  obtain ⟨G, a, ws, xs, hi, hG, nt, hT, hl, hp, hb, kk⟩ := h
  refine wpAny_Call_Name_kw (ld_blt I hs ms (u := .builtin "sorted") (by decide +kernel) ?_)
  refine PyProof.Rows.callWith_kw (thn ((pa_cons (pe_var hw hv) pa_nil).run pos pins s σ H (fun vs H' => vs = [.ref a] ∧ H' = H) I ⟨.ref a, hi, rfl, rfl⟩) fun us s1 ⟨vs, H1, I1, r1, q1⟩ => ?_)
  obtain ⟨rfl, rfl⟩ := q1
  obtain rfl := Vals.ref1 r1
  refine wpAny_evalAll_cons (wpAny_bind (LamX.lam_make2 I1 TB hcode hmT hu hT hdef (fun y hy e => ?_) fun f c' pm ctv H2 s2 I2 eN T2 hf hfn hfr hco => wpAny_bind (wpAny_standAt (wpAny_pure (wpAny_evalAll_nil ?_)))))
  · simp [lamSc] at hy
    rcases hy with rfl | rfl <;> cases e
  show wpAny _ _ (call (.builtin "sorted") [.ref a] [(Str.ofString "key", .ref f)]) _ _ s2
  have hG2 : Same G H2 := keep_same hG nt eN
  obtain ⟨its, rv, hls, hz⟩ := I2.list (hG2.seq hl)
  have e := each_of (F := IsFr X.K G) (G := RelV) hp rv
  have hlen : (ws.zip xs).length = ws.length := by rw [List.length_zip, ← hp.length, Nat.min_self]
  refine PySem.W.sorted_key_data (b := false) (fun q : V × Rat => PyData.int (key30 q.2.num (q.2.den : Int))) hls.isList e (PySem.W.AllAlike.of fun b b' => by simp [PySem.W.alike]) (PySem.W.Sortable.others fun b => ⟨(by intro z; cases z), (by intro xs z; cases z)⟩) (by rw [hlen]; exact hz)
    (fun q _ => by have := hr.un; simp only [PyData.depth]; omega) (PyProof.Rows.ksk_s1 _ _) (fun _ => PyProof.Rows.ksk_l1 _ _) (fun _ => PyProof.Rows.ksk_t1 _ _) (fun v q hR hx h' tk kp => ?_) fun out cc h' tk kp hfr0 hnew hol he => ?_
  · have I3 : Inv X pins σ H2 { s2 with heap := h', toks := tk } := I2.kept kp
    obtain ⟨hr1, tp, he1, ht⟩ := hR
    have hvt : v = .ref tp := by
      rw [he1] at hr1
      exact hr1
    subst hvt
    obtain ⟨uu, rv2, it, _⟩ := I3.tuple (sameT hG2 ht)
    obtain ⟨u1, u2, rfl, ⟨t1, rfl⟩, ⟨t2, rfl⟩⟩ := vals2 rv2
    have hb2 := hb q.2 (List.of_mem_zip (a := q.1) (b := q.2) hx).2
    obtain ⟨⟨oc, vs, tt, hoc, hdc, hvc⟩, _, _⟩ := I3.hok c' _ hco
    obtain ⟨mb, m1, m2⟩ := I3.mod.blt
    refine wpAny_call (PySem.W.kla_callFunE (by exact hr.depth) (kp f _ hf) rfl rfl rfl rfl ⟨c', oc, vs, tt, rfl, hoc, hdc, hvc⟩ ?_)
    rw [show bindArgs (PySem.W.kla_fn "<lambda>" (X.env.qual ++ "<lambda>") (lamA pa) (lamB p1 p2 p3 p4 p5 p6 p7 p8 p9 p10 p11 p12 p13 p14 k1 k2 k3 k4 k5) lamSc (cloFrom X.env.cells lamSc.names []) pm (.ref c') ctv) ⟨[.ref tp], []⟩ = (pure [(("_law_one" : Str), Value.ref tp)] : Sem (List (Str × Value))) from rfl]
    refine wpAny_pure (wpAny_newFunctionEnv (fun y hy => ?_) (fun y hy => ?_) (fun h₁ hns hsb => ⟨I3.nolimit.fresh _ hsb, ?_⟩) rfl)
    · simp [lamSc] at hy
      rcases hy with rfl | rfl <;> simp
    · simp at hy
      rw [hy]
      rfl
    have kp2 : ∀ b o, h'.get? b = some o → h₁.get? b = some o := fun b o e => hsb.extBut b o (Nat.ne_of_lt (Heap.lt_size e)) (Heap.get?_push_of_some _ e)
    refine PySem.W.kla_codeExpr (lam_body (mg := X.mg) (mb := mb) (tp := tp) (p := q.2.num) (q := (q.2.den : Int)) (t1 := t1) (t2 := t2) rfl rfl rfl hns (by rfl) (it.keeps kp2) ?_ mx ?_ ?_ hb2.1 hb2.2 (by exact hr.hd) (by rfl) fun h2 tk2 t hk2 => ?_)
    · exact (I3.mod.glob.keeps I3.bk).keeps kp2
    · exact (m1.keeps I3.bk).keeps kp2
    · exact (m2 _ (by decide)).trans (by decide +kernel)
    · exact ⟨h2, tk2, rfl, fun b o e => hk2 b o (kp2 b o e), .int _ _⟩
  · obtain ⟨h1, h2⟩ := vals_each he
    have hperm : ((ws.zip xs).mergeSort (PySem.W.dataLe false fun q : V × Rat => PyData.int (key30 q.2.num (q.2.den : Int)))).Perm (ws.zip xs) := List.mergeSort_perm _ _
    have hsrt : ((ws.zip xs).mergeSort (PySem.W.dataLe false fun q : V × Rat => PyData.int (key30 q.2.num (q.2.den : Int)))).Pairwise (fun x y => keyLe x.2 y.2) := by
      rw [PySem.W.dataLe_int]
      refine (List.pairwise_mergeSort (fun a b c h1 h2 => ?_) (fun a b => ?_) (ws.zip xs)).imp (S := fun x y => keyLe x.2 y.2) (fun {a b} h => ?_)
      · have h1 := of_decide_eq_true h1
        have h2 := of_decide_eq_true h2
        exact decide_eq_true (Int.le_trans h1 h2)
      · rw [Bool.or_eq_true]
        exact (Int.le_total (key30 a.2.num (a.2.den : Int)) (key30 b.2.num (b.2.den : Int))).elim (fun h => .inl (decide_eq_true h)) (fun h => .inr (decide_eq_true h))
      · have h1 : key30 a.2.num (a.2.den : Int) ≤ key30 b.2.num (b.2.den : Int) := of_decide_eq_true h
        exact h1
    have hlz : (List.map Prod.fst ((ws.zip xs).mergeSort (PySem.W.dataLe false fun q : V × Rat => PyData.int (key30 q.2.num (q.2.den : Int))))).length ≤ sizeLine := by
      rw [List.length_map, hperm.length_eq, hlen]
      exact hz
    refine ⟨.ref _, upd H2 (s2.heap.objs.size + 1) (.lst _), I2.laid (t' := tk) kp (Nat.le_succ _) ⟨hlz, _, cc, h1, hnew⟩, rfl, kk H2 _ _ _ eN T2 (fun b ps q => ?_) ?_ ?_ (paired_of h2) (I2.hok.fresh (Nat.le_succ _))⟩
    · obtain ⟨more, e⟩ := I2.base.tbls b ps q
      rw [e]
      simp
    · have := hperm.map Prod.snd
      rw [List.map_snd_zip (Nat.le_of_eq hp.length.symm)] at this
      exact this
    · exact List.pairwise_map.mpr hsrt
end K36

set_option Elab.async false
set_option autoImplicit false
set_option linter.all false
set_option maxRecDepth 100000
set_option maxHeartbeats 16000000
/-! The law's own threshold. -/
namespace K36
open PySem PySem.Spec PyProof.Rows L2
/-! ### plain -/
theorem six_int {M : Nat} {x : Rat} (h : Bd 6 M x) : ∃ z : Int, x.num * 6 = z * (x.den : Int) ∧ x * 6 = (z : Rat) := by
  obtain ⟨_, ⟨z, hz⟩, _⟩ := h
  have hz : x * 6 = (z : Rat) := hz
  refine ⟨z, ?_, hz⟩
  have e := rat_eq x
  have hn := den_ne x
  have e2 : (x.num : Rat) = x * (x.den : Rat) := by grind
  have e3 : ((x.num * 6 : Int) : Rat) = ((z * (x.den : Int) : Int) : Rat) := by
    push_cast
    rw [e2, ← hz]
    grind
  exact_mod_cast e3
theorem key_val {p z : Int} {q : Nat} (hq : 0 < q) (h : p * 6 = z * (q : Int)) : key30 p (q : Int) = (z * 10 ^ 30) / 6 := by
  have e1 : (if (q : Int) > 1 then (q : Int) else 1) = (q : Int) := by
    split <;> omega
  unfold key30
  rw [e1, Int.fdiv_eq_ediv_of_nonneg _ (by omega)]
  have h1 : (p * 10 ^ 30) * 6 = (z * 10 ^ 30) * (q : Int) := by
    have : (p * 10 ^ 30) * 6 = (p * 6) * 10 ^ 30 := by rw [Int.mul_assoc, Int.mul_comm (10 ^ 30) 6, ← Int.mul_assoc]
    rw [this, h, Int.mul_assoc, Int.mul_comm (q : Int), ← Int.mul_assoc]
  rw [← Int.mul_ediv_mul_of_pos_left (p * 10 ^ 30) (b := 6) (q : Int) (by decide), h1, Int.mul_comm (q : Int) 6, Int.mul_ediv_mul_of_pos_left _ _ (by omega)]
theorem key_le {M N : Nat} {x y : Rat} (hx : Bd 6 M x) (hy : Bd 6 N y) (h : keyLe x y) : x ≤ y := by
  obtain ⟨z, hz, ez⟩ := six_int hx
  obtain ⟨u, hu, eu⟩ := six_int hy
  unfold keyLe at h
  rw [key_val x.den_pos hz, key_val y.den_pos hu] at h
  have hzu : z ≤ u := by omega
  have hzu' : (z : Rat) ≤ (u : Rat) := by exact_mod_cast hzu
  grind
theorem ThrInv.swap {k p : Nat} {xs ls ls' rs : List Rat} {rest : Rat} (I : ThrInv k xs ls rs p rest) (h : ls.Perm ls') : ThrInv k xs ls' rs p rest :=
  ⟨I.perm.trans (h.append_right rs), I.hk, I.hp, by rw [← h.length_eq]; exact I.lt, I.er.trans (sm_perm h id), I.gt, fun r hr x hx => I.ge r hr x (h.mem_iff.mpr hx)⟩
theorem Ext.sorted {T : Tb} {G H G' H2 H3 : Hp} (e : Ext T G H G' H2) (n : NoT G') (hT : LamX.Tabs T H3) (h : LamX.ExtN H2 H3) (tb : ∀ b ps, H b = some (.tbl ps) → H3 b ≠ none) : Ext T G H G' H3 where
  hh := e.hh.trans h
  tt := fun _ => hT
  gg := e.gg
  gh := keep_same e.gh n h
  fr := e.fr
  nt := e.nt
  st := fun b hb => by
    cases q : H b with
    | none => exact absurd q hb
    | some o =>
      by_cases z : ∃ ps, o = .tbl ps
      · obtain ⟨ps, rfl⟩ := z
        exact tb b ps q
      · rw [h b o (e.hh b o q fun ps y => z ⟨ps, y⟩) fun ps y => z ⟨ps, y⟩]
        simp
theorem low_div {x : Rat} {n : Nat} (hn : 1 ≤ n) : Rat.divInt x.num ((x.den : Int) * (n : Int)) = x / (n : Rat) := by
  rw [divInt_val]
  have e := rat_eq x
  have h1 := den_ne x
  have h2 := pcast hn
  have e2 : (((x.den : Int) * (n : Int) : Int) : Rat) = (x.den : Rat) * (n : Rat) := by push_cast; rfl
  rw [e2]
  have e3 : (x.num : Rat) = x * (x.den : Rat) := by grind
  rw [e3]
  grind
theorem sorted_last {ys : List Rat} {j : Nat} {big : Rat} (h : ys.Pairwise (· ≤ ·)) (hj : ys[j]? = some big) : ∀ x ∈ ys.take (j + 1), x ≤ big := by
  intro x hx
  rw [take_one hj] at hx
  rcases List.mem_append.mp hx with z | z
  · have e : ys = ys.take j ++ ys.drop j := (List.take_append_drop j ys).symm
    rw [e, List.pairwise_append] at h
    have hd : big ∈ ys.drop j := by
      refine List.mem_of_getElem? (i := 0) ?_
      rw [List.getElem?_drop]
      simpa using hj
    exact h.2.2 x z big hd
  · have : x = big := by simpa using z
    rw [this]
    exact Rat.le_refl
/-- one turn on -/
theorem ThrInv.turn {k i : Nat} {xs ys : List Rat} {big : Rat} (I : ThrInv k xs (ys.take (k + 1 - i)) (ys.drop (k + 1 - i)) (k - i) (sm (ys.take (k + 1 - i)) id)) (pos : ∀ x ∈ xs, 0 < x) (hs : ys.Pairwise (· ≤ ·)) (hi : i < k) (hb : ys[k - i]? = some big)
    (hf : sm (ys.take (k + 1 - i)) id / ((k - i : Nat) : Rat) < big) : i + 1 < k ∧ ThrInv k xs (ys.take (k + 1 - (i + 1))) (ys.drop (k + 1 - (i + 1))) (k - (i + 1)) (sm (ys.take (k + 1 - (i + 1))) id) := by
  have ej : k + 1 - i = (k - i) + 1 := by omega
  have hle := sorted_last hs hb
  rw [← ej] at hle
  have hm : big ∈ ys.take (k + 1 - i) := by
    rw [ej, take_one hb]
    simp
  obtain ⟨h2, I2⟩ := I.next pos hm hle hf
  refine ⟨by omega, ?_⟩
  have e1 : k + 1 - (i + 1) = k - i := by omega
  have hp : ((ys.take (k + 1 - i)).erase big).Perm (ys.take (k - i)) := by
    have h3 : (ys.take (k + 1 - i)).Perm (big :: ys.take (k - i)) := by
      rw [ej, take_one hb]
      exact List.perm_append_comm
    have h4 := List.perm_cons_erase hm
    exact List.Perm.cons_inv (h4.symm.trans h3)
  have hd : big :: ys.drop (k + 1 - i) = ys.drop (k - i) := by
    rw [ej]
    obtain ⟨hl, e⟩ := List.getElem?_eq_some_iff.mp hb
    rw [List.drop_eq_getElem_cons hl, e]
  have I3 := I2.swap hp
  rw [hd] at I3
  have er := I3.er
  have e2 : k - i - 1 = k - (i + 1) := by omega
  rw [er, e2] at I3
  rw [e1]
  exact I3
/-! ### the walk -/
structure DefC (K : PySem.W.Frag) (mg : Str → Option Value) (x : Str) (st : Stmt) (ps : List Str) (c : Addr) : Prop where
  ex : ∃ (f : Addr) (oc : Value) (od : Option Addr) (kV doc pm : Value) (an : Option Addr) (ct : Value) (osl : Array (Option Value)), mg x = some (.ref f) ∧ PySem.W.keepIn K (.ref f) = true ∧
    K.lookup f = some ⟨oc, od, .func (PySem.W.fnOf x x (defArgs st) (defBody st) (defScope st) .none kV doc pm an (.ref c) ct), osl⟩ ∧ PySem.W.codeIn K (.ref c) x = true ∧
    Binds K (PySem.W.fnOf x x (defArgs st) (defBody st) (defScope st) .none kV doc pm an (.ref c) ct) ps []
abbrev qT : Str := ("_law_threshold" : Str) ++ ".<locals>." ++ "<lambda>"
abbrev nThr : List Str := ["_law_weights", "_law_size", "_law_large", "_law_rows", "_law_rest", "_law_found"]
theorem sc_lthr : FnScope nThr ["_law_weights", "_law_size"] (defScope (topS 50)) := ⟨rfl, rfl, rfl, by decide +kernel, rfl, by decide +kernel, by decide +kernel⟩
variable {P : Program} {w : World} {K : PySem.W.Frag} {mg : Str → Option Value} {base : Heap} {T : Tb}
theorem ok_lthr {c Pt : Addr} (N : Nm K mg) (mx : mg "max" = none) (D : DefC K mg "_law_threshold" (topS 50) ["_law_weights", "_law_size"] c) (TB : LamX.TabB base mg c Pt) (hT0 : T = [(Pt, qT)])
    (CS : Cal P w K mg base 3 "_law_sum" ["_law_rows"] (spSum T K)) (CO : Cal P w K mg base 3 "_law_low" ["_law_p", "_law_q"] (spLow T K)) (CL : Cal P w K mg base 3 "_law_less" ["_law_one", "_law_other"] (spLess K)) : Cal P w K mg base 4 "_law_threshold" ["_law_weights", "_law_size"] (spLThr T K) := by
  obtain ⟨f, oc, od, kV, doc, pm, an, ct, osl, mf, kf, lk, hcd, hbi⟩ := D.ex
  refine ⟨f, _, mf, kf, hbi, fn_of lk hcd sc_lthr (fun vs H Q E h => ?_) (fun A outer s H vs Q E hr h => ?_)⟩
  · obtain ⟨G, a, xs, k, rfl, _⟩ := h
    rfl
  · obtain ⟨G, a, xs, k, rfl, hs, hG, hT, ⟨l, ws, rfl, hl, hp⟩, hlen, hk1, hk3, hx, kk⟩ := h
    have body : ∃ t, PSs (cxOf CX0 P w K mg base nThr "_law_threshold" (defScope (topS 50)) f (.ref c) A outer s H E).nox (defBody (topS 50)) t ∧ t { nx := fun _ H' => Q .non H', rt := Q } (start nThr [.ref l, .int (k : Int)]) H := by
      refine ⟨_, pss_cons (ps_if (pt_cmpR op_le (pe_callB call_len_seq (by rfl) N.len PySem.boot_len (pa_cons (pv 0) pa_nil)) (pv 1) (nomark _)) (pss_one (ps_ret (pe_tup (pa_cons pe_int (pa_cons pe_int pa_nil))))) pss_nil)
        (pss_cons (ps_for PassesOwn.never rfl (pi_range1 (by rfl) N.range (pa_cons (pv 1) pa_nil)) (pg_name (i := 2) sc_lthr.nd rfl (.inl rfl))
          (pss_cons (ps_set (i := 3) sc_lthr.nd rfl (.inl rfl) (pe_sortedLam (T := T) (c := c) (P := Pt) (i := 0) rfl (.inl rfl) (by rfl) N.sorted mx TB rfl (by rw [hT0]; exact List.mem_singleton.mpr rfl) (fun p hp _ => by rw [hT0] at hp; rw [List.mem_singleton.mp hp]; rfl) hr rfl))
          (pss_cons (ps_set (i := 4) sc_lthr.nd rfl (.inl rfl) (CS.pe hr (by rfl) (pa_cons (pe_slice sl_list (pv 3) po_none (po_some (pe_op op_sub (pe_callB call_len_seq (by rfl) N.len PySem.boot_len (pa_cons (pv 3) pa_nil)) (pv 2)))) pa_nil)))
          (pss_cons (ps_set (i := 5) sc_lthr.nd rfl (.inl rfl) (CO.pe hr (by rfl) (pa_cons (pe_ix ix_tup (pv 4) pe_int (fun _ _ => rfl)) (pa_cons (pe_op op_mulW (pe_ix ix_tup (pv 4) pe_int (fun _ _ => rfl)) (pe_op op_sub (pv 1) (pv 2))) pa_nil))))
          (pss_one (ps_if (pt_not (pt_val (CL.pe hr (by rfl) (pa_cons (pv 5) (pa_cons (pe_ix ix_list (pv 3) (pe_op op_sub (pe_op op_sub (pe_callB call_len_seq (by rfl) N.len PySem.boot_len (pa_cons (pv 3) pa_nil)) (pv 2)) pe_int) (fun _ _ => rfl)) pa_nil))))) (pss_one (ps_ret (pv 5))) pss_nil))))))
        (pss_one (ps_ret (pe_tup (pa_cons pe_int (pa_cons pe_int pa_nil)))))), ?_⟩
      have hwl : ws.length = xs.length := hp.length
      refine ⟨.ref l, rfl, l, ws, rfl, .inl (hs.seq hl), .int (k : Int), rfl, _, _, rfl, rfl, _, rfl, ite2 (fun le => ?_) (fun le => ?_)⟩
      · have : ((ws.length : Nat) : Int) ≤ (k : Int) := of_decide_eq_true le
        omega
      have hxb : ∀ x ∈ xs, Bd 6 30000 x := fun x hx' => (hx x hx').1
      have hpos : ∀ x ∈ xs, 0 < x := fun x hx' => (hx x hx').2
      have hsx : ∀ {x : Rat}, Bd 6 30000 x → Sm x := fun h => h.sml (a := 3) (b := 15) (by decide) (by decide) (by decide)
      -- the loop
      refine ⟨.int (k : Int), rfl, (k : Int), rfl, by omega, by omega, for_range (lo := 0) (n := ((k : Int)).toNat) (fun i σ H' => ∃ (G' : Hp) (y2 y3 y4 y5 : Option V), σ = [some (.ref l), some (.int (k : Int)), y2, y3, y4, y5] ∧ Ext T G H G' H' ∧ NoT G' ∧ LamX.Tabs T H' ∧ i < k ∧
          ∀ ys : List Rat, ys.Perm xs → ys.Pairwise (· ≤ ·) → ThrInv k xs (ys.take (k + 1 - i)) (ys.drop (k + 1 - i)) (k - i) (sm (ys.take (k + 1 - i)) id))
        ⟨G, none, none, none, none, rfl, Ext.refl hs, hG, hT, by omega, fun ys hy _ => ?_⟩ (fun i σ H' hi hP => ?_) (fun σ H' hP => ?_)⟩
      · have hyl : ys.length = k + 1 := by rw [hy.length_eq, hlen]
        rw [Nat.sub_zero, Nat.sub_zero, List.take_of_length_le (by omega), List.drop_of_length_le (by omega)]
        have := (ThrInv.start (k := k) (xs := xs) hk1 (by omega)).swap hy.symm
        rw [sm_perm hy id]
        exact this
      · obtain ⟨G', y2, y3, y4, y5, rfl, e, nG, hT', hik, inv⟩ := hP
        refine ⟨G', l, ws, xs, rfl, e.gh, nG, hT', e.gg.seq hl, Paired.imp (fun v x z => z.of e.gg) hp, fun x hx' => ?_, fun H1 ws' ys p eN T1 tb hperm hsrt hp1 np => ?_⟩
        · have h1 := (hxb x hx').num
          have h2 := (hxb x hx').den
          exact ⟨Nat.lt_of_le_of_lt h1 (by decide), Nat.lt_of_le_of_lt (show x.den ≤ 6 from h2) (by decide)⟩
        have hyl : ys.length = k + 1 := by rw [hperm.length_eq, hlen]
        have hyb : ∀ x ∈ ys, Bd 6 30000 x := fun x hx' => hxb x (hperm.mem_iff.mp hx')
        have hsy : ys.Pairwise (· ≤ ·) := hsrt.imp_of_mem fun {a b} ha hb h => key_le (hyb a ha) (hyb b hb) h
        have e2 : Ext T G H G' H1 := e.sorted nG T1 eN tb
        have e3 := e2.trans (Ext.new (T := T) (o := .lst ws') e2.gh np (by intro ps z; cases z))
        have s3 : Same G' (upd G' p (.lst ws')) := same_new (e2.gh.free np)
        have hp3 : Paired (IsFr K (upd G' p (.lst ws'))) ws' ys := Paired.imp (fun v x z => z.of s3) hp1
        have hwl' : ws'.length = ys.length := hp1.length
        -- the rest
        have hcut : ((ws'.length : Nat) : Int) - (0 + (i : Int)) = ((k + 1 - i : Nat) : Int) := by omega
        refine ⟨.ref p, rfl, .ref p, rfl, p, ws', rfl, .inl (SqL.of upd_same), .int (0 + (i : Int)), rfl, _, _, rfl, rfl, _, rfl, p, ws', rfl, SqL.of upd_same, fun q nq => ?_⟩
        rw [hcut, cut_take ws' (k + 1 - i) (by omega)]
        have e4 := e3.trans (Ext.new (T := T) (o := .lst (ws'.take (k + 1 - i))) e3.gh nq (by intro ps z; cases z))
        have s4 := same_new (o := .lst (ws'.take (k + 1 - i))) (e3.gh.free nq)
        have npq : p ≠ q := fun z => by rw [← z, upd_same] at nq; cases nq
        refine ⟨_, .ref q, ys.take (k + 1 - i), rfl, e4.gh, ⟨q, _, rfl, SqL.of upd_same, Paired.takeP _ (Paired.imp (fun v x z => z.of s4) hp3)⟩, fun x hx' => hsx (hyb x (List.mem_of_mem_take hx')), fun j => ?_, fun rv G5 H5 e5 hrv => ?_⟩
        · have := (take_bd (D := 6) (M := 30000) (by decide) (f := id) (fun x hx' => hyb x (List.mem_of_mem_take hx')) j (xs := ys.take (k + 1 - i))).mono (show (ys.take (k + 1 - i)).length * 30000 ≤ 2 ^ 17 by rw [List.length_take]; omega)
          exact this.sml (a := 3) (b := 17) (by decide) (by decide) (by decide)
        have I := inv ys hperm hsy
        have sR : Sm (sm (ys.take (k + 1 - i)) id) := ((Bd.sm (D := 6) (M := 30000) (by decide) (f := id) (fun x hx' => hyb x (List.mem_of_mem_take hx')) (l := ys.take (k + 1 - i))).mono (show (ys.take (k + 1 - i)).length * 30000 ≤ 2 ^ 17 by rw [List.length_take]; omega)).sml (a := 3) (b := 17) (by decide) (by decide) (by decide)
        have e45 := e4.trans e5
        have hki : 1 ≤ k - i := by omega
        have ecast : (k : Int) - (0 + (i : Int)) = ((k - i : Nat) : Int) := by omega
        refine fr0 rfl (hrv.of e5.gh) (fr1 rfl (hrv.of e5.gh) ⟨.int (k : Int), rfl, .int (0 + (i : Int)), rfl, _, _, rfl, rfl, _, _, rfl, rfl, wide_mul (a := 900) (b := 3) sR.den (by omega) (by decide) (by decide) (by decide), ?_⟩)
        refine ⟨G5, _, _, rfl, e5.gh, ?_, ?_, fun fv G6 H6 e6 hfv => ?_⟩
        · rw [ecast]
          exact Int.mul_pos (den_pos _) (by omega)
        · exact Nat.lt_of_lt_of_le (abs_mul_lt (m := 900) (n := 3) sR.den (by omega)) (Nat.pow_le_pow_right (by decide) (by decide))
        rw [ecast, low_div hki] at hfv
        have e56 := e5.trans e6
        have hp6 : H6 p = some (.lst ws') := by
          have h1 : (upd (upd H1 p (.lst ws')) q (.lst (ws'.take (k + 1 - i)))) p = some (.lst ws') := by rw [upd_ne npq, upd_same]
          exact e56.lists h1
        have s6 : Same (upd G' p (.lst ws')) G6 := s4.trans e56.gg
        have e6' := e4.trans e56
        -- the greatest of the small ones
        obtain ⟨big, hbig⟩ : ∃ big, ys[k - i]? = some big := ⟨_, List.getElem?_eq_getElem (by omega)⟩
        obtain ⟨bv, hbv, hbf⟩ := Paired.get (Paired.imp (fun v x z => z.of s6) hp3) hbig
        have sF : Sm (sm (ys.take (k + 1 - i)) id / ((k - i : Nat) : Rat)) := (((Bd.sm (D := 6) (M := 30000) (by decide) (f := id) (fun x hx' => hyb x (List.mem_of_mem_take hx')) (l := ys.take (k + 1 - i))).mono (show (ys.take (k + 1 - i)).length * 30000 ≤ 2 ^ 17 by rw [List.length_take]; omega)).div hki).sml (a := 5) (b := 17) (by omega) (by decide) (by decide)
        refine ⟨fv, rfl, .ref p, rfl, .ref p, rfl, p, ws', rfl, .inl (SqL.of hp6), .int (0 + (i : Int)), rfl, _, _, rfl, rfl, _, _, rfl, rfl, p, ws', ((ws'.length : Nat) : Int) - (0 + (i : Int)) - 1, bv, rfl, rfl, SqL.of hp6, ?_, ?_⟩
        · have : ((ws'.length : Nat) : Int) - (0 + (i : Int)) - 1 = ((k - i : Nat) : Int) := by omega
          rw [this]
          exact atI_nat hbv
        refine ⟨G6, fv, bv, _, big, rfl, e6.gh, hfv, hbf, sF, hsx (hyb big (List.mem_of_getElem? hbig)), _, rfl, ite2 (fun c => ?_) (fun c => ?_)⟩
        · have hf : ¬ sm (ys.take (k + 1 - i)) id / ((k - i : Nat) : Rat) < big := by simpa using c
          refine ⟨fv, rfl, kk fv G6 H6 e6' ⟨_, I.done hpos ?_ hf, hfv⟩⟩
          have := sorted_last hsy hbig
          have ej : k + 1 - i = (k - i) + 1 := by omega
          rw [ej]
          exact this
        · have hf : sm (ys.take (k + 1 - i)) id / ((k - i : Nat) : Rat) < big := by simpa using c
          obtain ⟨h1, h2⟩ := I.turn hpos hsy hik hbig hf
          refine ⟨G6, _, _, _, _, rfl, e6', e6'.nt hG, e6'.tt hT, h1, fun zs hz hsz => ?_⟩
          have ez : zs = ys := List.Perm.eq_of_pairwise (le := (· ≤ ·)) (fun a b _ _ h1 h2 => Rat.le_antisymm h1 h2) hsz hsy (hz.trans hperm.symm)
          rw [ez]
          exact h2
      · obtain ⟨G', y2, y3, y4, y5, rfl, e, nG, hT', hik, inv⟩ := hP
        omega
    obtain ⟨t, h1, h2⟩ := body
    exact ⟨t, h1.nox, h2⟩
end K36

set_option Elab.async false
set_option autoImplicit false
set_option linter.all false
set_option maxRecDepth 100000
set_option maxHeartbeats 16000000
/-! The law's own dropping: the walk. -/
namespace K36
open PySem PySem.Spec PyProof.Rows L2
variable {P : Program} {w : World} {K : PySem.W.Frag} {mg : Str → Option Value} {base : Heap} {T : Tb}
theorem ok_drop (N : Nm K mg) (D : Def K mg "_law_dropped" (topS 52) ["_law_chance", "_law_parts", "_law_size"]) (CH : Cal P w K mg base 5 "_law_threshold" ["_law_weights", "_law_size"] (spLThr T K)) (CM : Cal P w K mg base 5 "_law_minus" ["_law_one", "_law_other"] (spBin T K okAny fun x y => x - y))
    (CL : Cal P w K mg base 5 "_law_lesser" ["_law_weight", "_law_limit"] (spLes T K)) (CT : Cal P w K mg base 5 "_law_times" ["_law_one", "_law_other"] (spBin T K okAny fun x y => x * y)) (CR : Cal P w K mg base 5 "_law_raised" ["_law_parts", "_law_limit"] (spRaised T K)) :
    Cal P w K mg base 6 "_law_dropped" ["_law_chance", "_law_parts", "_law_size"] (spDrop T K) := by
  refine D.ok sc_drop (fun vs H Q E h => ?_) (fun f cdv A outer s H vs Q E hr h => ?_)
  · obtain ⟨G, c, l, ch, ps, k, rfl, _⟩ := h
    rfl
  · obtain ⟨G, c, lv, ch, ps, k, rfl, hs, hG, hT, hc, sch, ⟨l, ws, rfl, hl, hp⟩, hk1, hk3, hps1, hps2, hok, kk⟩ := h
    refine ⟨_, pss_cons (ps_set (i := 3) sc_drop.nd rfl (.inl rfl) (pe_lst (pa_cons (pe_tup (pa_cons (pv 0) (pa_cons (pe_callB (cr_sortedPts (hu65 hr)) (by rfl) N.sorted (by decide +kernel) (pa_cons (pv 1) pa_nil)) pa_nil))) pa_nil)))
      (pss_cons (ps_set (i := 4) sc_drop.nd rfl (.inl rfl) (pe_lst pa_nil))
      (pss_cons (ps_for PassesOwn.never rfl (pi_range1 (by rfl) N.range (pa_cons pe_int pa_nil)) (pg_name (i := 5) sc_drop.nd rfl (.inl rfl))
        (pss_cons (ps_if (pt_cmpR (op_eqD (hu64 hr)) (pv 3) (pe_lst pa_nil) (nomark _)) (pss_one ps_break) pss_nil)
        (pss_cons (ps_asg (pe_bm0 PySem.F.plainAttrs_list PySem.F.slot_list_pop PySem.F.type_list_pop mt_pop (pv 3)) (pg_tup (by rfl) (pgs_cons (pg_name (i := 0) sc_drop.nd rfl (.inl rfl)) (pgs_cons (pg_name (i := 1) sc_drop.nd rfl (.inl rfl)) pgs_nil))))
        (pss_cons (ps_if (pt_cmpR op_le (pe_callB call_len_seq (by rfl) N.len PySem.boot_len (pa_cons (pv 1) pa_nil)) (pv 2) (nomark _))
          (pss_cons (ps_expr (pe_bm PySem.F.plainAttrs_list PySem.F.slot_list_append PySem.F.type_list_append mt_append (pv 4) (pa_cons (pe_tup (pa_cons (pv 0) (pa_cons (pv 1) pa_nil))) pa_nil))) (pss_one ps_continue)) pss_nil)
        (pss_cons (ps_set (i := 6) sc_drop.nd rfl (.inl rfl) (CH.pe hr (by rfl) (pa_cons
            (pe_lc (own := [("_law_one", 9)]) (g := gName 9) (tt := tYes) rfl sc_drop.nd (pi_list (pv 1)) (blkOk_by (N := nDrop) (sc := defScope (topS 52)) (by decide +kernel))
              (fun _ _ _ _ _ => pg_name (i := 9) sc_drop.nd rfl (Or.inl rfl)) (fun _ _ _ _ _ => pts_nil)
              (fun _ _ _ _ _ => pe_ix (r := rIxT K) ix_tup (pv 9) pe_int (fun _ _ => rfl)))
            (pa_cons (pe_op op_sub (pe_callB call_len_seq (by rfl) N.len PySem.boot_len (pa_cons (pv 1) pa_nil)) pe_int) pa_nil))))
        (pss_one (ps_for PassesOwn.never rfl (pi_range1 (by rfl) N.range (pa_cons (pe_callB call_len_seq (by rfl) N.len PySem.boot_len (pa_cons (pv 1) pa_nil)) pa_nil)) (pg_name (i := 7) sc_drop.nd rfl (.inl rfl))
          (pss_cons (ps_set (i := 8) sc_drop.nd rfl (.inl rfl) (CM.pe hr (by rfl) (pa_cons (pe_tup (pa_cons pe_int (pa_cons pe_int pa_nil))) (pa_cons (CL.pe hr (by rfl) (pa_cons (pe_ix ix_tup (pe_ix ix_list (pv 1) (pv 7) (fun _ _ => rfl)) pe_int (fun _ _ => rfl)) (pa_cons (pv 6) pa_nil))) pa_nil))))
          (pss_one (ps_if (pt_cmpR (op_neD (hu64 hr)) (pv 8) (pe_tup (pa_cons pe_int (pa_cons pe_int pa_nil))) (nomark _))
            (pss_one (ps_expr (pe_bm PySem.F.plainAttrs_list PySem.F.slot_list_append PySem.F.type_list_append mt_append (pv 3) (pa_cons (pe_tup (pa_cons (CT.pe hr (by rfl) (pa_cons (pv 0) (pa_cons (pv 8) pa_nil)))
              (pa_cons (CR.pe hr (by rfl) (pa_cons (pe_op op_cat (pe_slice sl_list (pv 1) po_none (po_some (pv 7))) (pe_slice sl_list (pv 1) (po_some (pe_op op_add (pv 7) pe_int)) po_none)) (pa_cons (pv 6) pa_nil))) pa_nil))) pa_nil)))) pss_nil))))))))))
      (pss_one (ps_ret (pv 4))))), ?_⟩
    -- waiting = [(chance, sorted(parts))]
    refine ⟨c, rfl, .ref l, rfl, G, l, ws, ps, rfl, hs, hs.seq hl, hp, fun ws' qs pl hperm hpq npl => ?_⟩
    have e1 : Ext T G H _ _ := Ext.new (T := T) (o := .lst ws') hs npl (by intro ps q; cases q)
    have hqs : IsPts K (upd G pl (.lst ws')) (.ref pl) qs := ⟨pl, ws', rfl, SqL.of upd_same, Paired.imp (fun v x q => q.of (same_new (hs.free npl))) hpq⟩
    refine ⟨(by show 2 ≤ sizeLine; decide), fun t nt => ?_⟩
    have e2 := e1.trans (Ext.new (T := T) (o := .tup [c, .ref pl]) e1.gh nt (by intro ps q; cases q))
    have sG2 : Same (upd G pl (.lst ws')) (upd (upd G pl (.lst ws')) t (.tup [c, .ref pl])) := same_new (e1.gh.free nt)
    have hout0 : IsOut K (upd (upd G pl (.lst ws')) t (.tup [c, .ref pl])) (.ref t) (ch, qs) := ⟨t, c, .ref pl, rfl, SqT.of upd_same, hc.of e2.gg, hqs.of sG2⟩
    refine ⟨(by show 1 ≤ sizeLine; decide), fun wl nw => ?_⟩
    have e3 := e2.trans (Ext.newM (T := T) (o := .lst [.ref t]) e2.gh nw)
    have w0 : H wl = none := e2.free0 nw
    have gw2 : (upd (upd G pl (.lst ws')) t (.tup [c, .ref pl])) wl = none := e2.gh.free nw
    refine ⟨Nat.zero_le _, fun fl nf => ?_⟩
    have e4 := e3.trans (Ext.newM (T := T) (o := .lst []) e3.gh nf)
    have f0 : H fl = none := e3.free0 nf
    have nfw : fl ≠ wl := fun z => by rw [z, upd_same] at nf; cases nf
    have gf2 : (upd (upd G pl (.lst ws')) t (.tup [c, .ref pl])) fl = none := e3.gh.free nf
    have I0 : DropInv T K G H _ _ wl fl [(ch, qs)] [] := ⟨e4, e4.tt hT, e4.nt hG, ⟨[.ref t], by rw [upd_ne nfw.symm, upd_same], .cons hout0 .nil⟩, ⟨[], upd_same, .nil⟩, gw2, gf2⟩
    have hqlen : qs.length = ps.length := hperm.length_eq
    have hqok : ∀ p ∈ qs, PtOk p := fun p hp => hok p (hperm.mem_iff.mp hp)
    -- the loop
    refine ⟨4000, rfl, by decide, by decide, for_range (lo := 0) (n := 4000) (fun i σ H' => ∃ (G' : Hp) (Wt Fd : List (Rat × List (It × Rat))) (y0 y1 y5 y6 y7 y8 y9 : Option V), σ = [y0, y1, some (.int (k : Int)), some (.ref wl), some (.ref fl), y5, y6, y7, y8, y9] ∧ DropInv T K G H G' H' wl fl Wt Fd ∧
        ((i = 0 ∧ Wt = [(ch, qs)] ∧ Fd = []) ∨ (1 ≤ i ∧ (∀ r ∈ Wt, r.2.length ≤ k) ∧ Wt.length + i ≤ 6 ∧ ∃ ds, DropOf k ch ps ds ∧ ds.length ≤ 6 ∧ Fd ++ Wt.reverse = ds)) ∧ ∀ r ∈ Wt, ∀ p ∈ r.2, ItOk p.1)
      ⟨_, _, _, some c, some (.ref l), none, none, none, none, none, rfl, I0, .inl ⟨rfl, rfl, rfl⟩, fun r hr p hp => ?_⟩ (fun i σ H' hi hP => ?_) (fun σ H' hP => ?_)⟩
    · have : r = (ch, qs) := by simpa using hr
      rw [this] at hp
      exact (hqok p hp).it
    · obtain ⟨G', Wt, Fd, y0, y1, y5, y6, y7, y8, y9, rfl, I, hst, hit⟩ := hP
      -- if waiting == []
      refine ⟨.ref wl, rfl, Nat.zero_le _, fun q nq => ?_⟩
      have I1 := I.new (o := .lst []) nq (by intro ps z; cases z)
      obtain ⟨us, hu, hpu⟩ := I1.w
      obtain ⟨fs, hf, hpf⟩ := I1.f
      refine ⟨.list (Wt.map outD), .list [], .lst (SqL.of hu) (dpAll (fun v x z => IsOut.dp (IsOut.of I1.e.gh z)) hpu), .lst (SqL.of upd_same) .nil, outs_shaped hit, nil_shaped, _, rfl, ?_⟩
      rw [outs_eqv]
      have fdl : Fd.length ≤ 6 := by
        rcases hst with ⟨_, _, e⟩ | ⟨_, _, _, ds, _, hl6, e⟩
        · rw [e]; simp
        · have := congrArg List.length e
          rw [List.length_append] at this
          omega
      refine ite2 (fun em => ?_) (fun em => ?_)
      · have hW : Wt = [] := List.isEmpty_iff.mp em
        rcases hst with ⟨_, e, _⟩ | ⟨_, _, _, ds, hds, _, e⟩
        · rw [e] at hW; cases hW
        · rw [hW, List.reverse_nil, List.append_nil] at e
          subst e
          refine ⟨.ref fl, rfl, kk (.ref fl) (upd _ fl (.lst fs)) _ (I1.e.seal hf f0 I1.gf (by intro ps z; cases z)) ⟨Fd, hds, ⟨fl, fs, rfl, SqL.of upd_same, Paired.imp (fun v x z => z.of (same_new I1.gf)) hpf⟩⟩⟩
      have hne : Wt ≠ [] := fun z => em (by rw [z]; rfl)
      have hWl : 0 < Wt.length := List.length_pos_iff.mpr hne
      -- chance, parts = waiting.pop()
      obtain ⟨r, hr⟩ : ∃ r, Wt[Wt.length - 1]? = some r := ⟨_, List.getElem?_eq_getElem (by omega)⟩
      have hWr : Wt = Wt.dropLast ++ [r] := by
        have h1 := List.dropLast_concat_getLast hne
        have h2 : Wt.getLast hne = r := by
          rw [List.getLast_eq_getElem]
          exact (List.getElem?_eq_some_iff.mp hr).2
        rw [h2] at h1
        exact h1.symm
      obtain ⟨u, hu', hur⟩ := Paired.get hpu hr
      have hul : us.length = Wt.length := hpu.length
      rw [← hul] at hu'
      obtain ⟨tr, vc, vp, rfl, htr, hvc, hvp⟩ := hur
      have I2 := I1.setW w0 nfw (Wt' := Wt.dropLast) (us := us.dropLast) (by
        rw [List.dropLast_eq_take, List.dropLast_eq_take, hul]
        exact Paired.takeP _ hpu)
      refine ⟨.ref wl, rfl, .inl ⟨rfl, _, .inl (.inl hu)⟩, wl, us, .ref tr, rfl, rfl, hu, hu', ?_⟩
      refine ⟨tr, _, rfl, sameT I2.e.gh htr, rfl, vc, _, rfl, vp, _, rfl, rfl, ?_⟩
      obtain ⟨pr, pws, rfl, hpr, hpp⟩ := hvp
      have hpl : pws.length = r.2.length := hpp.length
      have hrm : r ∈ Wt := by rw [hWr]; simp
      obtain ⟨fs2, hf2, hpf2⟩ := I2.f
      -- if len(parts) <= size
      refine ⟨.ref pr, rfl, pr, pws, rfl, .inl (I2.e.gh.seq hpr), .int (k : Int), rfl, _, _, rfl, rfl, _, rfl, ite2 (fun le => ?_) (fun le => ?_)⟩
      · have hle : r.2.length ≤ k := by
          have : ((pws.length : Nat) : Int) ≤ (k : Int) := of_decide_eq_true le
          omega
        refine ⟨.ref fl, rfl, .inl ⟨rfl, _, .inl (.inl hf2)⟩, vc, rfl, .ref pr, rfl, (by show 2 ≤ sizeLine; decide), fun b nb => ?_⟩
        have I3 := I2.new (o := .tup [vc, .ref pr]) nb (by intro ps z; cases z)
        obtain ⟨fs3, hf3, hpf3⟩ := I3.f
        have hfl : fs3.length < sizeLine := Nat.lt_of_le_of_lt (show fs3.length ≤ 6 by rw [hpf3.length]; exact fdl) (by decide)
        refine ⟨fl, fs3, .ref b, rfl, rfl, hf3, hfl, ?_⟩
        have sN := same_new (o := .tup [vc, .ref pr]) (I2.e.gh.free nb)
        have I4 := I3.setF (Fd' := Fd ++ [r]) (us := fs3 ++ [.ref b]) f0 nfw (Paired.snoc hpf3 ⟨b, vc, .ref pr, rfl, SqT.of upd_same, hvc.of sN, IsPts.of sN ⟨pr, pws, rfl, hpr, hpp⟩⟩)
        refine ⟨_, _, _, some vc, some (.ref pr), _, y6, y7, y8, y9, rfl, I4, .inr ?_, fun r' hr' => hit r' (List.dropLast_subset _ hr')⟩
        have hdl : Wt.dropLast.length = Wt.length - 1 := List.length_dropLast
        rcases hst with ⟨e0, eW, eF⟩ | ⟨h1, h2, h3, ds, h4, h6, h5⟩
        · have er : r = (ch, qs) := by
            rw [eW] at hr
            exact (Option.some.inj hr).symm
          subst er
          refine ⟨by omega, fun r' hr' => ?_, ?_, [(ch, qs)], ⟨qs, hperm, .inl ⟨hle, rfl⟩⟩, by simp, ?_⟩
          · rw [eW] at hr'
            exact absurd hr' (by simp)
          · rw [eW]; simp; omega
          · rw [eW, eF]; rfl
        · refine ⟨by omega, fun r' hr' => h2 r' (List.dropLast_subset _ hr'), by omega, ds, h4, h6, ?_⟩
          rw [← h5]
          have : Wt.reverse = r :: Wt.dropLast.reverse := by
            conv => lhs; rw [hWr]
            rw [List.reverse_append]; rfl
          rw [this, List.append_assoc]
          rfl
      · have hgt : k < r.2.length := by
          have : ¬ ((pws.length : Nat) : Int) ≤ (k : Int) := fun z => le (decide_eq_true z)
          omega
        rcases hst with ⟨e0, eW, eF⟩ | ⟨h1, h2, h3, ds, h4, h6, h5⟩
        · have er : r = (ch, qs) := by
            rw [eW] at hr
            exact (Option.some.inj hr).symm
          subst er
          have hq1 : qs.length = k + 1 := by
            have : k < qs.length := hgt
            omega
          have eD : Wt.dropLast = [] := by rw [eW]; rfl
          rw [eD] at I2
          -- the weights
          have hlen5 : pws.length ≤ 100000 := by
            have : pws.length = qs.length := hpl
            omega
          refine ⟨.ref pr, rfl, pr, rfl, ⟨_, I2.e.gh.seq hpr⟩, lc_pure (T := T) (vs := pws) (xs := qs) (R := fun G' v (x : Rat) => IsFr K G' v x) (f := fun p => p.2) I2.e.gh hpr hpp hlen5 (fun _ _ _ _ e q => q.of e)
            (fun j x p G3 H3 Qe hy hxy e k' => ⟨rfl, pt1 rfl e.gh (hxy.of e.gg) fun z hz => k' z G3 H3 (Ext.refl e.gh) hz⟩) fun Dl G3 H3 e3 nD hD => ?_⟩
          have I3 := I2.ext e3
          have hws1 : ((pws.length : Nat) : Int) - 1 = ((k : Nat) : Int) := by
            have : pws.length = qs.length := hpl
            omega
          refine ⟨.ref pr, rfl, pr, pws, rfl, .inl ((e3.gg.trans e3.gh).seq hpr), _, _, rfl, rfl, G3, .ref Dl, qs.map (fun p : It × Rat => p.2), k, ?_, e3.gh, I3.n, I3.t, hD, by rw [List.length_map]; exact hq1, hk1, hk3, fun x hx => ?_, fun uv G4 H4 e4 hthr => ?_⟩
          · show [V.ref Dl, V.int (((pws.length : Nat) : Int) - 1)] = _
            rw [hws1]
          · obtain ⟨p, hp', e⟩ := List.mem_map.mp hx
            rw [← e]
            exact ⟨(hqok p hp').bd, (hqok p hp').pos⟩
          obtain ⟨th, hth, huv⟩ := hthr
          have I4 := I3.ext e4
          have e34 := e3.trans e4
          have hth0 : 0 < th := by
            rcases hth with ⟨h, _⟩ | ⟨_, h, _⟩
            · rw [List.length_map] at h; omega
            · exact h
          have hthb : Bd 36 150000 th := thr_bdG (D := 6) (M := 30000) (by decide) (by rw [List.length_map]; omega) (fun x hx => by
            obtain ⟨p, hp', e⟩ := List.mem_map.mp hx
            rw [← e]
            exact (hqok p hp').bd) (fun x hx => by
            obtain ⟨p, hp', e⟩ := List.mem_map.mp hx
            rw [← e]
            exact (hqok p hp').pos) hk3 hth
          have sth : Sm th := hthb.sml (a := 6) (b := 18) (by decide) (by decide) (by decide)
          have hq' : pws.length = qs.length := hpl
          have hbase : ∀ {G5 H5 : Hp}, Same G4 G5 → Same G5 H5 → SqL K H5 pr pws := fun h1 h2 => ((e34.gg.trans h1).trans h2).seq hpr
          have hppk : ∀ {G5 : Hp}, Same G4 G5 → Paired (IsPt K G5) pws qs := fun h1 => Paired.imp (fun v x z => z.of (e34.gg.trans h1)) hpp
          -- the loop over the parts
          refine ⟨.ref pr, rfl, pr, pws, rfl, .inl (hbase (Same.refl _) e4.gh), ((pws.length : Nat) : Int), rfl, by omega, by omega, for_range (lo := 0) (n := (((pws.length : Nat) : Int)).toNat) (fun j σ H'' => ∃ (G'' : Hp) (y5 y7 y8 y9 : Option V), σ = [some vc, some (.ref pr), some (.int (k : Int)), some (.ref wl), some (.ref fl), y5, some uv, y7, y8, y9] ∧
              DropInv T K G H G'' H'' wl fl (((splits qs).take j).filterMap (dropOne ch th)) [] ∧ Same G4 G'')
            ⟨G4, _, _, _, _, rfl, by rw [eF] at I4; exact I4, Same.refl _⟩ (fun j σ H'' hj hP => ?_) (fun σ H'' hP => ?_)⟩
          · obtain ⟨G5, y5', y7', y8', y9', rfl, I5, s5⟩ := hP
            have hjq : j < qs.length := by omega
            obtain ⟨x, hx⟩ : ∃ x, qs[j]? = some x := ⟨_, List.getElem?_eq_getElem hjq⟩
            have hxm := List.mem_of_getElem? hx
            have hxok := hqok x hxm
            obtain ⟨pv', hpv, hpvx⟩ := Paired.get (hppk s5) hx
            have hspl := splits_at qs j x hx
            have hzj : (0 + (j : Int)) = ((j : Nat) : Int) := by omega
            -- gone = minus((1, 1), lesser(parts[k][1], limit))
            refine ⟨(by show 2 ≤ sizeLine; decide), fun o no => ?_⟩
            have I6 := I5.new (o := .tup [.int 1, .int 1]) no (by intro ps z; cases z)
            have s6 : Same G5 (upd G5 o (.tup [.int 1, .int 1])) := same_new (I5.e.gh.free no)
            obtain ⟨pa, vi, vx, rfl, hpa, hvi, hvx⟩ := hpvx
            refine ⟨.ref pr, rfl, _, rfl, pr, pws, _, .ref pa, rfl, rfl, hbase (s5.trans s6) I6.e.gh, by rw [hzj]; exact atI_nat hpv, pa, _, 1, vx, rfl, rfl, sameT (s6.trans I6.e.gh) hpa, atI_nat (j := 1) rfl, ?_⟩
            refine ⟨uv, rfl, _, vx, uv, x.2, th, rfl, I6.e.gh, hvx.of s6, huv.of (s5.trans s6), hxok.sm, sth, hth0, fun lv2 G7 H7 e7 hlv => ?_⟩
            have I7 := I6.ext e7
            refine ⟨G7, .ref o, lv2, 1, les th x.2, rfl, e7.gh, one_fr (sameT e7.gg (SqT.of upd_same)), hlv, one_sz.sm (by decide) (by decide), (les_sz hth0 hxok.bd hthb).sm (by decide) (by decide), trivial, fun gv G8 H8 e8 hgv0 => ?_⟩
            have I8 := I7.ext e8
            have s8 : Same G4 G8 := ((s5.trans s6).trans e7.gg).trans e8.gg
            have hgv : IsFr K G8 gv (gone th x.2) := by
              rw [← les_gone]
              exact hgv0
            have hgs := gone_sm hth0 hxok.bd hthb
            -- if gone != (0, 1)
            refine ⟨gv, rfl, (by show 2 ≤ sizeLine; decide), fun z nz => ?_⟩
            have I9 := I8.new (o := .tup [.int 0, .int 1]) nz (by intro ps z; cases z)
            have s9 : Same G8 (upd G8 z (.tup [.int 0, .int 1])) := same_new (I8.e.gh.free nz)
            refine ⟨frD (gone th x.2), frD 0, ((hgv.of s9).of I9.e.gh).dp, (zero_fr (SqT.of upd_same)).dp, frD_shaped _, frD_shaped _, _, rfl, ?_⟩
            rw [frD_eqv]
            have hfm : ((splits qs).take (j + 1)).filterMap (dropOne ch th) = ((splits qs).take j).filterMap (dropOne ch th) ++ (dropOne ch th (x, qs.take j ++ qs.drop (j + 1))).toList := by
              rw [take_one hspl, List.filterMap_append]
              cases hdo : dropOne ch th (x, qs.take j ++ qs.drop (j + 1)) with
              | none => rw [List.filterMap_cons, hdo] <;> rfl
              | some r => rw [List.filterMap_cons, hdo] <;> rfl
            refine ite2 (fun ne => ?_) (fun eq => ?_)
            · have hg0 : ¬ gone th x.2 = 0 := by simpa using ne
              -- the chance
              obtain ⟨us5, hu5, hpu5⟩ := I9.w
              refine ⟨.ref wl, rfl, .inl ⟨rfl, _, .inl (.inl hu5)⟩, ?_⟩
              have hvcG : IsFr K (upd G8 z (.tup [.int 0, .int 1])) vc ch := by
                have := (hvc.of (e34.gg.trans s8)).of s9
                exact this
              refine ⟨vc, rfl, gv, rfl, _, vc, gv, ch, gone th x.2, rfl, I9.e.gh, hvcG, hgv.of s9, sch, hgs, trivial, fun cv G10 H10 e10 hcv => ?_⟩
              have I10 := I9.ext e10
              have s10 : Same G4 G10 := (s8.trans s9).trans e10.gg
              -- the two slices
              refine ⟨.ref pr, rfl, _, rfl, _, rfl, pr, pws, rfl, hbase s10 e10.gh, fun sa nsa => ?_⟩
              have hct : cutV pws none (some (0 + (j : Int))) = pws.take j := by
                rw [hzj]
                exact cut_take pws j (by omega)
              rw [hct]
              have I11 := I10.new (o := .lst (pws.take j)) nsa (by intro ps z; cases z)
              have s11 : Same G10 (upd G10 sa (.lst (pws.take j))) := same_new (I10.e.gh.free nsa)
              refine ⟨.ref pr, rfl, _, rfl, _, _, rfl, rfl, _, rfl, pr, pws, rfl, hbase (s10.trans s11) I11.e.gh, fun sb nsb => ?_⟩
              have hcd : cutV pws (some ((0 + (j : Int)) + 1)) none = pws.drop (j + 1) := by
                have : (0 + (j : Int)) + 1 = ((j + 1 : Nat) : Int) := by omega
                rw [this]
                exact cut_drop pws (j + 1) (by omega)
              have I12 := I11.new (o := .lst (pws.drop (j + 1))) (p := sb) nsb (by intro ps z; cases z)
              have s12 : Same (upd G10 sa (.lst (pws.take j))) (upd (upd G10 sa (.lst (pws.take j))) sb (.lst (pws.drop (j + 1)))) := same_new (I11.e.gh.free nsb)
              have nab : sa ≠ sb := fun z => by rw [← z, upd_same] at nsb; cases nsb
              have hsa : (upd (upd H10 sa (.lst (pws.take j))) sb (.lst (pws.drop (j + 1)))) sa = some (.lst (pws.take j)) := by rw [upd_ne nab, upd_same]
              have hl1 : (pws.take j).length ≤ 10 := by rw [List.length_take]; omega
              have hl2 : (pws.drop (j + 1)).length ≤ 10 := by rw [List.length_drop]; omega
              rw [hcd]
              refine ⟨sa, sb, _, _, rfl, rfl, hsa, upd_same, Nat.le_trans (show _ ≤ 20 by omega) (by decide), fun sc nsc => ?_⟩
              have I13 := I12.new (o := .lst (pws.take j ++ pws.drop (j + 1))) (p := sc) nsc (by intro ps z; cases z)
              have s13 := same_new (o := .lst (pws.take j ++ pws.drop (j + 1))) (I12.e.gh.free nsc)
              have s4_13 := ((s10.trans s11).trans s12).trans s13
              have hrest : IsPts K _ (.ref sc) (qs.take j ++ qs.drop (j + 1)) := ⟨sc, pws.take j ++ pws.drop (j + 1), rfl, SqL.of upd_same, Paired.app (Paired.takeP j (hppk s4_13)) (Paired.dropP (j + 1) (hppk s4_13))⟩
              -- raised
              refine ⟨uv, rfl, _, .ref sc, uv, qs.take j ++ qs.drop (j + 1), th, rfl, I13.e.gh, hrest, huv.of s4_13, fun p hp' => ?_, sth, ?_, fun rv G14 H14 e14 hrv => ?_⟩
              · rcases List.mem_append.mp hp' with z1 | z1
                · exact (hqok p (List.mem_of_mem_take z1)).sm
                · exact (hqok p (List.mem_of_mem_drop z1)).sm
              · rw [List.length_append, List.length_take, List.length_drop]
                omega
              have I14 := I13.ext e14
              -- the pair, appended
              refine ⟨(by show 2 ≤ sizeLine; decide), fun b nb => ?_⟩
              have I15 := I14.new (o := .tup [cv, rv]) nb (by intro ps z; cases z)
              have s15 := same_new (o := .tup [cv, rv]) (I14.e.gh.free nb)
              obtain ⟨us6, hu6, hpu6⟩ := I15.w
              have hwlen : us6.length ≤ 10 := by
                rw [hpu6.length]
                refine Nat.le_trans (List.length_filterMap_le _ _) ?_
                rw [List.length_take]
                omega
              refine ⟨wl, us6, .ref b, rfl, rfl, hu6, Nat.lt_of_le_of_lt hwlen (by decide), ?_⟩
              have hdo : dropOne ch th (x, qs.take j ++ qs.drop (j + 1)) = some (ch * gone th x.2, raise th (qs.take j ++ qs.drop (j + 1))) := if_neg hg0
              have hcvb : IsFr K _ cv (ch * gone th x.2) := (((hcv.of s11).of s12).of s13).of (e14.gg.trans s15)
              have I16 := I15.setW (Wt' := ((splits qs).take (j + 1)).filterMap (dropOne ch th)) (us := us6 ++ [.ref b]) w0 nfw (by
                rw [hfm, hdo]
                exact Paired.snoc hpu6 ⟨b, cv, rv, rfl, SqT.of upd_same, hcvb, hrv.of s15⟩)
              exact ⟨_, y5', _, _, y9', rfl, I16, (s4_13.trans e14.gg).trans s15⟩
            · have hg0 : gone th x.2 = 0 := by simpa using eq
              refine ⟨_, y5', _, _, y9', rfl, ?_, (s8.trans s9)⟩
              rw [hfm]
              have : dropOne ch th (x, qs.take j ++ qs.drop (j + 1)) = none := if_pos hg0
              rw [this]
              show DropInv T K G H _ _ wl fl (_ ++ []) []
              rw [List.append_nil]
              exact I9
          · obtain ⟨G5, y5', y7', y8', y9', rfl, I5, s5⟩ := hP
            have hfull : (splits qs).take (((pws.length : Nat) : Int)).toNat = splits qs := by
              refine List.take_of_length_le ?_
              rw [splits_len]
              omega
            rw [hfull] at I5
            have hdl : (drops ch th qs).length ≤ qs.length := drops_len
            have hdr : ∀ r ∈ drops ch th qs, r.2.length ≤ k := fun r hr => by
              have := (drops_part hr).1
              omega
            refine ⟨G5, drops ch th qs, [], _, _, _, _, _, _, _, rfl, I5, .inr ⟨by omega, hdr, by omega, (drops ch th qs).reverse, ⟨qs, hperm, .inr ⟨by omega, th, ?_, rfl⟩⟩, by rw [List.length_reverse]; omega, rfl⟩, fun r hr p hp' => ?_⟩
            · have : qs.length - 1 = k := by omega
              rw [this]
              exact hth
            · obtain ⟨q, hq, e⟩ := (drops_part hr).2 p hp'
              exact e ▸ (hqok q hq).it
        · exfalso
          have := h2 r hrm
          omega
    · obtain ⟨G', Wt, Fd, y0, y1, y5, y6, y7, y8, y9, rfl, I, hst, hit⟩ := hP
      exfalso
      rcases hst with ⟨e, _⟩ | ⟨_, _, h, _⟩ <;> omega
end K36

set_option Elab.async false
set_option autoImplicit false
set_option linter.all false
set_option maxRecDepth 100000
set_option maxHeartbeats 8000000
/-! The chain of samples. -/
namespace K36
open PySem PySem.Spec PyProof.Rows L2
/-! ### list + list, whatever they stand as -/
def rCatS (K : PySem.W.Frag) : R2 := fun x y H Q => ∃ l b xs zs, x = .ref l ∧ y = .ref b ∧ SqL K H l xs ∧ SqL K H b zs ∧ xs.length + zs.length ≤ sizeLine ∧ ∀ p, H p = none → Q (.ref p) (upd H p (.lst (xs ++ zs)))
theorem op_catS {X : Cx} : OpR X (binaryOp .Add) (rCatS X.K) := by
  intro pins s σ H x y v u Q I rx ry h
  obtain ⟨l, b, xs, zs, rfl, rfl, hH, hB, hz, q⟩ := h
  cases rx
  cases ry
  obtain ⟨its, r, pl, z⟩ := I.list hH
  obtain ⟨its2, r2, pl2, z2⟩ := I.list hB
  obtain ⟨⟨cls, dd, data, sl⟩, n, ho, hc, _, hd⟩ := pl
  obtain ⟨⟨cls2, dd2, data2, sl2⟩, n2, ho2, hc2, _, hd2⟩ := pl2
  simp only at hc hd hc2 hd2
  subst hc hd hc2 hd2
  have h1 := r.length
  have h2 := r2.length
  have e : its.toArray ++ its2.toArray = (its ++ its2).toArray := by simp
  refine concat_meets ⟨_, ho, rfl⟩ ⟨_, ho2, rfl⟩ noFill_list_add seq_list_add PySem.F.slot_list_add PySem.F.entry_list_add (PySem.F.args_list_add_2 _ _) (list_addW l b its.toArray its2.toArray n n2 dd dd2 sl sl2 (by rw [List.size_toArray, List.size_toArray]; omega)) ⟨ho, ho2, ?_⟩
  rw [e]
  exact ⟨.ref _, _, I.lnew (t' := s.toks) (r.append r2) (by rw [List.length_append]; omega), rfl, q _ I.fresh⟩
/-! ### plain -/
structure ChainInv (k : Nat) (W : List It) (F : List (Rat × List (It × Rat))) : Prop where
  law : ∃ t, Thr k (W.map wt) t ∧ Law wt k W t F
  den : ∃ Dn : Nat, 0 < Dn ∧ Dn ≤ 2 ^ (15 * W.length) ∧ ∀ r ∈ F, Bd Dn 1 r.1
  len : F.length ≤ 4 ^ W.length
theorem gone_bd {u a : Rat} {z : Int} (hu : 0 < u) (hz : u * 6 = (z : Rat)) (ha : Bd 6 30000 a) (h0 : 0 < a) : 0 < z.toNat ∧ Bd z.toNat 1 (gone u a) := by
  have hz0 : (0 : Rat) < (z : Rat) := by grind
  have hz1 : 0 < z := Rat.intCast_pos.mp hz0
  have hn : ((z.toNat : Nat) : Rat) = (z : Rat) := by
    have : ((z.toNat : Nat) : Int) = z := by omega
    rw [← Rat.intCast_natCast, this]
  refine ⟨by omega, by omega, ?_, ?_, ?_⟩
  · rw [hn]
    obtain ⟨_, ⟨x, hx⟩, _⟩ := ha
    have h6 : ((6 : Nat) : Rat) = 6 := rfl
    rw [h6] at hx
    unfold gone
    split
    · refine ⟨z - x, ?_⟩
      have e : ((z - x : Int) : Rat) = (z : Rat) - (x : Rat) := by push_cast; rfl
      rw [e, ← hz, ← hx]
      grind
    · refine ⟨0, ?_⟩
      have : ((0 : Int) : Rat) = 0 := rfl
      rw [this]; grind
  · have := gone_nonneg hu h0
    have h1 : ((1 : Nat) : Rat) = 1 := rfl
    rw [h1]; grind
  · have h1 : ((1 : Nat) : Rat) = 1 := rfl
    rw [h1]
    unfold gone
    split
    · have := div_nn (Rat.le_of_lt h0) hu
      grind
    · grind
theorem mx_bd {w t : Rat} {D M N : Nat} (hw : Bd D M w) (ht : Bd D N t) : Bd D (M + N) (mx w t) := by
  unfold mx
  split
  · exact ht.mono (by omega)
  · exact hw.mono (by omega)
theorem out_pts {k : Nat} {W : List It} {t : Rat} {ps : List (It × Rat)} (O : Out wt k W t ps) (hW : ∀ i ∈ W, ItW i ∧ ItOk i) (ht : Bd 6 5000 t) : ∀ p ∈ ps, PtOk p := fun p hp => by
  obtain ⟨h1, h2⟩ := O.mem p hp
  obtain ⟨w1, w2⟩ := hW _ h1
  refine ⟨w2, ?_, ?_⟩
  · rw [h2]
    exact (mx_bd (w1.bd.up (by decide) (by decide)) ht).mono (by decide)
  · rw [h2]
    have := le_mx (wt p.1) t
    have := w1.pos
    grind
structure Items (W : List It) : Prop where
  ok : ∀ i ∈ W, ItW i ∧ ItOk i
  nd : W.Nodup
  len : W.length ≤ 5
theorem Items.its {W : List It} (h : Items W) : ItsOk W := ⟨h.len, fun i hi => (h.ok i hi).1⟩
theorem Items.pos {W : List It} (h : Items W) : ∀ i ∈ W, 0 < wt i := fun i hi => (h.ok i hi).1.pos
theorem Items.left {W : List It} {x : It} (h : Items (W ++ [x])) : Items W :=
  ⟨fun i hi => h.ok i (List.mem_append.mpr (.inl hi)), (List.nodup_append.mp h.nd).1, by have := h.len; rw [List.length_append] at this; omega⟩
theorem Items.last {W : List It} {x : It} (h : Items (W ++ [x])) : (ItW x ∧ ItOk x) ∧ x ∉ W :=
  ⟨h.ok x (by simp), fun hx => (List.nodup_append.mp h.nd).2.2 x hx x (by simp) rfl⟩
/-- what an outcome and its steps are worth -/
theorem ChainInv.come {k : Nat} {W : List It} {x : It} {F : List (Rat × List (It × Rat))} (hI : Items (W ++ [x])) (hk : 1 ≤ k) (C : ChainInv k W F) : ∃ t, Thr k (W.map wt) t ∧ Law wt k W t F ∧ ∀ r ∈ F, Come wt k W t x r := by
  obtain ⟨t, hT, L⟩ := C.law
  have hl := hI.last
  refine ⟨t, hT, L, fun r hr => ⟨hk, hI.left.nd, hl.2, hI.left.pos, hl.1.1.pos, hT.nonneg, fun h => ?_, (L.out r hr).1, (L.out r hr).2⟩⟩
  rcases hT with ⟨_, e⟩ | ⟨h2, _⟩
  · exact e
  · rw [List.length_map] at h2; omega
theorem ChainInv.step {k : Nat} {W : List It} {x : It} {F M : List (Rat × List (It × Rat))} (hI : Items (W ++ [x])) (hk : 1 ≤ k) (hk3 : k ≤ 3) (C : ChainInv k W F) (S : Steps wt k x F M) : ChainInv k (W ++ [x]) M := by
  obtain ⟨t, hT, L, hcome⟩ := C.come hI hk
  have hl := hI.last
  obtain ⟨t', hT', L'⟩ := L.step hk hI.left.nd hl.2 hI.left.pos hl.1.1.pos hT S
  have posL : ∀ w ∈ (W ++ [x]).map wt, 0 < w := fun w hw => by
    obtain ⟨i, hi, e⟩ := List.mem_map.mp hw
    exact e ▸ hI.pos i hi
  have bt := thr_bd hI.left.its.ws hk3 hT
  have bt' := thr_bd hI.its.ws hk3 hT'
  refine ⟨⟨t', hT', L'⟩, ?_, ?_⟩
  · obtain ⟨Dn, d0, dl, db⟩ := C.den
    have el : (W ++ [x]).length = W.length + 1 := by rw [List.length_append]; rfl
    by_cases hW : W.length < k
    · refine ⟨Dn, d0, Nat.le_trans dl (Nat.pow_le_pow_right (by decide) (by rw [el]; omega)), S.all fun r hr ds hs d hd => ?_⟩
      obtain ⟨qs, hq, ⟨h1, e⟩ | ⟨h1, _⟩⟩ := hs
      · rw [e] at hd
        have : d = (r.1, qs) := by simpa using hd
        rw [this]
        exact db r hr
      · have := (hcome r hr).len hq; omega
    · have ht0 : 0 < t' := by
        rcases hT' with ⟨h, _⟩ | ⟨_, h, _⟩
        · rw [List.length_map, el] at h; omega
        · exact h
      obtain ⟨_, ⟨z, hz⟩, _, hup⟩ := bt'
      have h6 : ((6 : Nat) : Rat) = 6 := rfl
      rw [h6] at hz
      have hzb : z.toNat ≤ 2 ^ 15 := by
        have h5 : ((5000 : Nat) : Rat) = 5000 := rfl
        rw [h5] at hup
        have h1 : (z : Rat) ≤ 30000 := by grind
        have h2 : ((30000 : Int) : Rat) = 30000 := rfl
        rw [← h2] at h1
        have h3 : z ≤ 30000 := Rat.intCast_le_intCast.mp h1
        have : (2 : Nat) ^ 15 = 32768 := by decide
        omega
      have hz0 : 0 < z.toNat := by
        have : (0 : Rat) < (z : Rat) := by grind
        have := Rat.intCast_pos.mp this
        omega
      refine ⟨Dn * z.toNat, Nat.mul_pos d0 hz0, ?_, S.all fun r hr ds hs d hd => ?_⟩
      · have := pow_mul_le dl hzb
        rw [el]
        have e : 15 * W.length + 15 = 15 * (W.length + 1) := by omega
        rw [← e]
        exact this
      · have CC := hcome r hr
        obtain ⟨qs, hq, ⟨h1, e⟩ | ⟨h1, u, hu, e⟩⟩ := hs
        · have := CC.len hq; omega
        · have hut : u = t' := (CC.thr hq h1 hu).uniq posL hT'
          rw [e] at hd
          obtain ⟨q, hq1, _, e2⟩ := mem_drops (List.mem_reverse.mp hd)
          have hqm : q.1 ∈ qs := (splits_perm qs q hq1).mem_iff.mpr (by simp)
          have hb : Bd 6 30000 q.1.2 ∧ 0 < q.1.2 := by
            rcases List.mem_append.mp (hq.mem_iff.mp hqm) with m | m
            · have := out_pts CC.o hI.left.ok bt _ m
              exact ⟨this.bd, this.pos⟩
            · have e3 : q.1 = (x, wt x) := by simpa using m
              rw [e3]
              exact ⟨(hl.1.1.bd.up (by decide) (by decide)).mono (by decide), hl.1.1.pos⟩
          rw [e2, hut]
          have := (db r hr).mul (gone_bd ht0 hz hb.1 hb.2).2
          exact this.mono (by decide)
  · have hS := S.len (B := 4) fun r hr ds hs => by
      have CC := hcome r hr
      obtain ⟨qs, hq, ⟨h1, e⟩ | ⟨h1, u, hu, e⟩⟩ := hs
      · rw [e]; simp
      · rw [e, List.length_reverse]
        have h2 := CC.len hq
        have h3 := drops_len (c := r.1) (u := u) (qs := qs)
        omega
    refine Nat.le_trans hS ?_
    rw [List.length_append]
    show F.length * 4 ≤ 4 ^ (W.length + 1)
    rw [Nat.pow_succ]
    exact Nat.mul_le_mul_right _ C.len
theorem ChainInv.start {k : Nat} : ChainInv k [] [((1 : Rat), ([] : List (It × Rat)))] :=
  ⟨⟨0, thr_start, Law.start⟩, ⟨1, Nat.one_pos, by decide, fun r hr => by
    have : r = ((1 : Rat), ([] : List (It × Rat))) := by simpa using hr
    rw [this]
    exact Bd.int (n := 1) (by decide)⟩, by decide⟩
theorem ChainInv.outs {k : Nat} {W : List It} {F : List (Rat × List (It × Rat))} (hI : Items W) (hk3 : k ≤ 3) (C : ChainInv k W F) : OutsOk F := by
  obtain ⟨t, hT, L⟩ := C.law
  obtain ⟨Dn, d0, dl, db⟩ := C.den
  have bt := thr_bd hI.its.ws hk3 hT
  have h5 := hI.len
  refine ⟨Nat.le_trans C.len (Nat.le_trans (Nat.pow_le_pow_right (by decide) h5) (by decide)), fun r hr => (L.out r hr).2.nd, fun r hr => out_pts (L.out r hr).2 hI.ok bt, fun r hr => ?_, ⟨Dn, d0, Nat.le_trans dl (Nat.pow_le_pow_right (by decide) (by omega)), db⟩⟩
  have := (L.out r hr).2.len
  omega
end K36

set_option Elab.async false
set_option autoImplicit false
set_option linter.all false
set_option maxRecDepth 100000
set_option maxHeartbeats 8000000
/-! The chain of samples: the walk. -/
namespace K36
open PySem PySem.Spec PyProof.Rows L2
variable {P : Program} {w : World} {K : PySem.W.Frag} {mg : Str → Option Value} {base : Heap} {T : Tb}
theorem Items.take {W : List It} (h : Items W) (i : Nat) : Items (W.take i) :=
  ⟨fun x hx => h.ok x (List.mem_of_mem_take hx), h.nd.sublist (List.take_sublist i W), Nat.le_trans (by rw [List.length_take]; exact Nat.min_le_right _ _) h.len⟩
def spChain (T : Tb) (K : PySem.W.Frag) : Sp := fun vs H Q _ => ∃ (G : Hp) (l : V) (its : List It) (k : Nat), vs = [.int (k : Int), l] ∧ Same G H ∧ NoT G ∧ LamX.Tabs T H ∧ IsLs K (IsIt K G) G l its ∧ Items its ∧ 1 ≤ k ∧ k ≤ 3 ∧
  Gives T G H (fun G' v => ∃ F, ChainInv k its F ∧ IsOuts K G' v F) Q
theorem sc_chain : FnScope ["_law_size", "_law_things", "_law_found", "_law_item", "_law_more", "_law_chance", "_law_parts"] ["_law_size", "_law_things"] (defScope (topS 53)) := ⟨rfl, rfl, rfl, by decide +kernel, rfl, by decide +kernel, by decide +kernel⟩
theorem ok_chain (D : Def K mg "_law_chain" (topS 53) ["_law_size", "_law_things"]) (CD : Cal P w K mg base 6 "_law_dropped" ["_law_chance", "_law_parts", "_law_size"] (spDrop T K)) : Cal P w K mg base 7 "_law_chain" ["_law_size", "_law_things"] (spChain T K) := by
  refine D.ok sc_chain (fun vs H Q E h => ?_) (fun f cdv A outer s H vs Q E hr h => ?_)
  · obtain ⟨G, l, its, k, rfl, _⟩ := h
    rfl
  · obtain ⟨G, lv, its, k, rfl, hs, hG, hT, ⟨l, ws, rfl, hl, hp⟩, hI, hk1, hk3, kk⟩ := h
    refine ⟨_, pss_cons (ps_set (i := 2) sc_chain.nd rfl (.inl rfl) (pe_lst (pa_cons (pe_tup (pa_cons (pe_tup (pa_cons pe_int (pa_cons pe_int pa_nil))) (pa_cons (pe_lst pa_nil) pa_nil))) pa_nil)))
      (pss_cons (ps_for PassesOwn.never rfl (pi_list (pv 1)) (pg_name (i := 3) sc_chain.nd rfl (.inl rfl))
        (pss_cons (ps_set (i := 4) sc_chain.nd rfl (.inl rfl) (pe_lst pa_nil))
        (pss_cons (ps_for PassesOwn.never rfl (pi_list (pv 2)) (pg_tup rfl (pgs_cons (pg_name (i := 5) sc_chain.nd rfl (.inl rfl)) (pgs_cons (pg_name (i := 6) sc_chain.nd rfl (.inl rfl)) pgs_nil)))
          (pss_one (ps_set (i := 4) sc_chain.nd rfl (.inl rfl) (pe_op op_catS (pv 4) (CD.pe hr (by rfl) (pa_cons (pv 5) (pa_cons (pe_op op_catS (pv 6)
            (pe_lst (pa_cons (pe_tup (pa_cons (pv 3) (pa_cons (pe_tup (pa_cons (pe_ix ix_tup (pv 3) pe_int (fun _ _ => rfl)) (pa_cons pe_int pa_nil))) pa_nil))) pa_nil))) (pa_cons (pv 0) pa_nil))))))))
        (pss_one (ps_set (i := 2) sc_chain.nd rfl (.inl rfl) (pv 4))))))
      (pss_one (ps_ret (pv 2)))), ?_⟩
    have hlx : ws.length = its.length := hp.length
    -- found = [((1, 1), [])]
    refine ⟨(by show 2 ≤ sizeLine; decide), fun o no => ?_⟩
    have e1 : Ext T G H _ _ := Ext.new (T := T) (o := .tup [.int 1, .int 1]) hs no (by intro ps q; cases q)
    refine ⟨Nat.zero_le _, fun q nq => ?_⟩
    have e2 : Ext T _ _ _ _ := Ext.new (T := T) (o := .lst []) e1.gh nq (by intro ps q; cases q)
    refine ⟨(by show 2 ≤ sizeLine; decide), fun t nt => ?_⟩
    have e3 : Ext T _ _ _ _ := Ext.new (T := T) (o := .tup [.ref o, .ref q]) (e1.trans e2).gh nt (by intro ps q; cases q)
    refine ⟨(by show 1 ≤ sizeLine; decide), fun f0 nf => ?_⟩
    have e4 : Ext T _ _ _ _ := Ext.new (T := T) (o := .lst [.ref t]) ((e1.trans e2).trans e3).gh nf (by intro ps q; cases q)
    have e04 := ((e1.trans e2).trans e3).trans e4
    have hF0 : IsOuts K _ (.ref f0) [((1 : Rat), ([] : List (It × Rat)))] :=
      ⟨f0, [.ref t], rfl, SqL.of upd_same, .cons ⟨t, .ref o, .ref q, rfl, sameT e4.gg (SqT.of upd_same), (one_fr (sameT (e2.gg.trans (e3.gg.trans e4.gg)) (SqT.of upd_same))), ⟨q, [], rfl, (e3.gg.trans e4.gg).seq (SqL.of upd_same), .nil⟩⟩ .nil⟩
    -- the items
    refine ⟨.ref l, rfl, l, rfl, ⟨_, (e04.gg.trans e04.gh).seq hl⟩, for_list (K := K) (a := l) (xs := ws) (fun i σ H' => ∃ (G' : Hp) (fv : V) (F : List (Rat × List (It × Rat))) (y3 y4 y5 y6 : Option V), σ = [some (.int (k : Int)), some (.ref l), some fv, y3, y4, y5, y6] ∧
        Ext T G H G' H' ∧ LamX.Tabs T H' ∧ NoT G' ∧ IsOuts K G' fv F ∧ ChainInv k (its.take i) F)
      ⟨_, .ref f0, _, none, none, none, none, rfl, e04, e04.tt hT, e04.nt hG, hF0, ChainInv.start⟩ (fun i σ H' _ ⟨G', _, _, _, _, _, _, _, e, _⟩ => (e.gg.trans e.gh).seq hl) (fun i xv σ H' hi hP => ?_) (fun σ H' hP => ?_)⟩
    · obtain ⟨G', fv, F, y3, y4, y5, y6, rfl, e, hT', hG', hF, C⟩ := hP
      obtain ⟨x, hx, hxv⟩ := Paired.get' hp hi
      have hxt := take_one hx
      have hI1 : Items (its.take i ++ [x]) := by rw [← hxt]; exact hI.take (i + 1)
      have hxl := hI1.last
      obtain ⟨t0, hT0, L, hcome⟩ := C.come hI1 hk1
      have bt := thr_bd hI1.left.its.ws hk3 hT0
      have hO := C.outs hI1.left hk3
      obtain ⟨fl, fws, rfl, hfl, hfp⟩ := hF
      have hflen : fws.length = F.length := hfp.length
      -- more = []
      refine ⟨Nat.zero_le _, fun m0 nm => ?_⟩
      have e5 : Ext T _ _ _ _ := Ext.new (T := T) (o := .lst []) e.gh nm (by intro ps q; cases q)
      have e05 := e.trans e5
      refine ⟨.ref fl, rfl, fl, rfl, ⟨_, (e5.gg.trans e5.gh).seq hfl⟩, for_list (K := K) (a := fl) (xs := fws) (fun j σ H'' => ∃ (G'' : Hp) (mv : V) (M : List (Rat × List (It × Rat))) (y5 y6 : Option V), σ = [some (.int (k : Int)), some (.ref l), some (.ref fl), some xv, some mv, y5, y6] ∧
          Ext T G H G'' H'' ∧ LamX.Tabs T H'' ∧ NoT G'' ∧ Same G' G'' ∧ IsOuts K G'' mv M ∧ Steps wt k x (F.take j) M ∧ M.length ≤ 4 * j)
        ⟨_, .ref m0, [], y5, y6, rfl, e05, e5.tt hT', e5.nt hG', e5.gg, ⟨m0, [], rfl, SqL.of upd_same, .nil⟩, .nil, Nat.zero_le _⟩ (fun j σ H'' _ ⟨G'', _, _, _, _, _, e, _, _, sG, _⟩ => (sG.trans e.gh).seq hfl) (fun j rv σ H'' hj hP => ?_) (fun σ H'' hP => ?_)⟩
      · obtain ⟨G'', mv, M, y5', y6', rfl, e6, hT6, hG6, s6, hM, hS, hML⟩ := hP
        obtain ⟨r, hrj, ⟨t, vc, vp, rfl, ht, hvc, hvp⟩⟩ := Paired.get' hfp hj
        have hrm := List.mem_of_getElem? hrj
        have hjF : j < F.length := (List.getElem?_eq_some_iff.mp hrj).1
        refine ⟨t, _, rfl, sameT (s6.trans e6.gh) ht, rfl, vc, _, rfl, vp, _, rfl, rfl, ?_⟩
        obtain ⟨pl, pws, rfl, hpl, hpp⟩ := hvp
        -- (item, (item[2], 1))
        have hxG : IsIt K G'' xv x := (hxv.of e.gg).of s6
        refine ⟨mv, rfl, vc, rfl, .ref pl, rfl, xv, rfl, it2 rfl (hxG.of e6.gh) ⟨(by show 2 ≤ sizeLine; decide), fun a1 n1 => ?_⟩⟩
        have e7 : Ext T _ _ _ _ := Ext.new (T := T) (o := .tup [.int x.w, .int 1]) e6.gh n1 (by intro ps q; cases q)
        refine ⟨(by show 2 ≤ sizeLine; decide), fun a2 n2 => ?_⟩
        have e8 : Ext T _ _ _ _ := Ext.new (T := T) (o := .tup [xv, .ref a1]) (e6.trans e7).gh n2 (by intro ps q; cases q)
        refine ⟨(by show 1 ≤ sizeLine; decide), fun a3 n3 => ?_⟩
        have e9 : Ext T _ _ _ _ := Ext.new (T := T) (o := .lst [.ref a2]) ((e6.trans e7).trans e8).gh n3 (by intro ps q; cases q)
        have e79 := (e7.trans e8).trans e9
        have hpt : IsPt K _ (.ref a2) (x, wt x) := ⟨a2, xv, .ref a1, rfl, sameT e9.gg (SqT.of upd_same), hxG.of e79.gg, int_fr (sameT (e8.gg.trans e9.gg) (SqT.of upd_same))⟩
        have hplen : pws.length = r.2.length := hpp.length
        have hr5 := hO.plen r hrm
        refine ⟨pl, a3, pws, [.ref a2], rfl, rfl, (e79.gg.trans e79.gh).seq (s6.seq hpl), SqL.of upd_same, Nat.le_trans (show pws.length + 1 ≤ 6 by omega) (by decide), fun a4 n4 => ?_⟩
        have e10 : Ext T _ _ _ _ := Ext.new (T := T) (o := .lst (pws ++ [.ref a2])) (e6.trans e79).gh n4 (by intro ps q; cases q)
        have e710 := e79.trans e10
        have hps : IsPts K _ (.ref a4) (r.2 ++ [(x, wt x)]) := ⟨a4, pws ++ [.ref a2], rfl, SqL.of upd_same, Paired.snoc (Paired.imp (fun v p z => z.of (s6.trans e710.gg)) hpp) (hpt.of e10.gg)⟩
        have OO := (L.out r hrm).2
        have hol := OO.len
        obtain ⟨Dn, d0, dl, db⟩ := C.den
        have hlen5 := hI1.left.len
        have sch : Sm r.1 := (db r hrm).sml (a := 75) (b := 0) (Nat.le_trans dl (Nat.pow_le_pow_right (by decide) (by omega))) (by decide) (by decide)
        refine ⟨_, rfl, _, vc, .ref a4, r.1, r.2 ++ [(x, wt x)], k, rfl, (e6.trans e710).gh, e710.nt hG6, e710.tt hT6, hvc.of (s6.trans e710.gg), sch, hps, hk1, hk3, ?_, ?_, fun p hp' => ?_, fun dv G7 H7 e11 hds => ?_⟩
        · rw [List.length_append]; simp
        · rw [List.length_append, hol]
          simp only [List.length_cons, List.length_nil]
          omega
        · rcases List.mem_append.mp hp' with z | z
          · exact hO.pts r hrm p z
          · have : p = (x, wt x) := by simpa using z
            rw [this]
            exact ⟨hxl.1.2, (hxl.1.1.bd.up (by decide) (by decide)).mono (by decide), hxl.1.1.pos⟩
        obtain ⟨ds, hdo, hdv⟩ := hds
        have hdl : ds.length ≤ 4 := by
          obtain ⟨qs, hq, ⟨h1, e⟩ | ⟨h1, u, hu, e⟩⟩ := hdo
          · rw [e]; simp
          · rw [e, List.length_reverse]
            have h2 := drops_len (c := r.1) (u := u) (qs := qs)
            have h3 := hq.length_eq
            rw [List.length_append, hol] at h3
            simp only [List.length_cons, List.length_nil] at h3
            omega
        obtain ⟨ml, mws, rfl, hml, hmp⟩ := hM
        obtain ⟨dl', dws, rfl, hdl', hdp⟩ := hdv
        have h1 : mws.length = M.length := hmp.length
        have h2 : dws.length = ds.length := hdp.length
        have hF1024 := hO.len
        refine ⟨ml, dl', mws, dws, rfl, rfl, (e710.gg.trans (e11.gg.trans e11.gh)).seq hml, e11.gh.seq hdl', Nat.le_trans (show mws.length + dws.length ≤ 10000 by omega) (by decide), fun b nb => ?_⟩
        have e12 : Ext T _ _ _ _ := Ext.new (T := T) (o := .lst (mws ++ dws)) e11.gh nb (by intro ps q; cases q)
        have e712 := (e710.trans e11).trans e12
        refine ⟨_, .ref b, M ++ ds, some vc, some (.ref pl), rfl, e6.trans e712, e712.tt hT6, e712.nt hG6, s6.trans e712.gg, ⟨b, mws ++ dws, rfl, SqL.of upd_same, Paired.app (Paired.imp (fun v p z => z.of e712.gg) hmp) (Paired.imp (fun v p z => z.of e12.gg) hdp)⟩, ?_, ?_⟩
        · rw [take_one hrj]
          exact .snoc hS hdo
        · rw [List.length_append]
          omega
      · obtain ⟨G'', mv, M, y5', y6', rfl, e6, hT6, hG6, s6, hM, hS, hML⟩ := hP
        rw [hflen, List.take_length] at hS
        refine ⟨mv, rfl, G'', mv, M, some xv, some mv, y5', y6', rfl, e6, hT6, hG6, hM, ?_⟩
        rw [hxt]
        exact C.step hI1 hk1 hk3 hS
    · obtain ⟨G', fv, F, y3, y4, y5, y6, rfl, e, hT', hG', hF, C⟩ := hP
      rw [hlx, List.take_length] at C
      exact ⟨fv, rfl, kk fv G' H' e ⟨F, C, hF⟩⟩
end K36

set_option Elab.async false
set_option autoImplicit false
set_option linter.all false
set_option maxRecDepth 100000
set_option maxHeartbeats 8000000
/-! What the law's end asks, in plain. -/
namespace K36
open PySem PySem.Spec PyProof.Rows L2
theorem est_bd {y : Str → Int} (hy : YOk y) {ps : List (It × Rat)} {Pn : Nat} (p0 : 0 < Pn) (hl : ps.length ≤ 5) (hw : ∀ p ∈ ps, ItW p.1) (ha : ∀ p ∈ ps, Bd 6 30000 p.2) (pd : ∀ p ∈ ps, p.1.w.toNat ∣ Pn) :
    Bd (6 * Pn) (2 ^ 23) (est wt (yv y) ps) ∧ Bd (6 * Pn * (6 * Pn)) (2 ^ 40) (told wt (yv y) ps) := by
  have b1 : ∀ p ∈ ps, Bd (6 * Pn) 30000 (p.2 / wt p.1) := fun p hp => ((ha p hp).divw (hw p hp)).up (by omega) (Nat.mul_dvd_mul_left 6 (pd p hp))
  have q1 : 0 < 6 * Pn := by omega
  have b2 : ∀ p ∈ ps, Bd (6 * Pn) (2 ^ 20) (yv y p.1 * (p.2 / wt p.1)) := fun p hp => by
    have := (hy.bd p.1).mul (b1 p hp)
    rw [Nat.one_mul] at this
    exact this.mono (by decide)
  have b3 : ∀ p ∈ ps, Bd 6 31000 (p.2 - wt p.1) := fun p hp => (ha p hp).sub ((hw p hp).bd.up (by decide) (by decide))
  have b4 : ∀ p ∈ ps, Bd (6 * Pn) 31000 ((p.2 - wt p.1) / wt p.1) := fun p hp => ((b3 p hp).divw (hw p hp)).up q1 (Nat.mul_dvd_mul_left 6 (pd p hp))
  have b5 : ∀ p ∈ ps, Bd (6 * Pn * (6 * Pn)) (2 ^ 30) ((p.2 / wt p.1) * ((p.2 - wt p.1) / wt p.1)) := fun p hp => ((b1 p hp).mul (b4 p hp)).mono (by decide)
  have q2 : 0 < 6 * Pn * (6 * Pn) := Nat.mul_pos q1 q1
  have b6 : ∀ p ∈ ps, Bd (6 * Pn * (6 * Pn)) (2 ^ 37) ((yv y p.1 * yv y p.1) * ((p.2 / wt p.1) * ((p.2 - wt p.1) / wt p.1))) := fun p hp => by
    have := (hy.bd2 p.1).mul (b5 p hp)
    rw [Nat.one_mul] at this
    exact this.mono (by decide)
  exact ⟨(Bd.sm q1 b2).mono (Nat.le_trans (Nat.mul_le_mul_right _ hl) (by decide)), (Bd.sm q2 b6).mono (Nat.le_trans (Nat.mul_le_mul_right _ hl) (by decide))⟩
/-- the rows of the estimates -/
def estRows (y : Str → Int) (F : List (Rat × List (It × Rat))) : List (Rat × Rat) := F.map fun r => (est wt (yv y) r.2, r.1)
structure Fin (k : Nat) (its : List It) (y : Str → Int) (F : List (Rat × List (It × Rat))) (t : Rat) : Prop where
  thr : Thr k (its.map wt) t
  law : Law wt k its t F
  outs : OutsOk F
  pso : ∀ r ∈ F, PsOk r.2
  mom : MomOk (estRows y F)
  cS : ∀ r ∈ F, Sm r.1
  tS : ∀ r ∈ F, Sm (told wt (yv y) r.2)
  tC : ∀ r ∈ F, Sm (told wt (yv y) r.2 * r.1)
  tP : ∀ i, Sm (sm (F.take i) (fun r => told wt (yv y) r.2 * r.1))
  sS : ∀ it ∈ its, Sm (vari (addeds wt (yv y) F it))
  sP : ∀ i, Sm (sm ((its.map fun it => vari (addeds wt (yv y) F it)).take i) id)
theorem Fin.of {k : Nat} {its : List It} {y : Str → Int} {F : List (Rat × List (It × Rat))} (hI : Items its) (hk3 : k ≤ 3) (hy : YOk y) (C : ChainInv k its F) : ∃ t, Fin k its y F t := by
  obtain ⟨t, hT, L⟩ := C.law
  have O := C.outs hI hk3
  obtain ⟨Dn, d0, dl, db⟩ := C.den
  have h5 := hI.len
  have dl' : Dn ≤ 2 ^ 75 := Nat.le_trans dl (Nat.pow_le_pow_right (by decide) (by omega))
  have bt := thr_bd hI.its.ws hk3 hT
  have p0 := prodW_pos hI.its.w
  have pl := hI.its.prod
  have l1 : 6 * prodW its ≤ 2 ^ 53 := Nat.le_trans (Nat.mul_le_mul (show 6 ≤ 2 ^ 3 by decide) pl) (by decide)
  have q1 : 0 < 6 * prodW its := by omega
  have hmem : ∀ r ∈ F, ∀ p ∈ r.2, p.1 ∈ its := fun r hr p hp => ((L.out r hr).2.mem p hp).1
  have hw : ∀ r ∈ F, ∀ p ∈ r.2, ItW p.1 := fun r hr p hp => (hI.ok p.1 (hmem r hr p hp)).1
  have ha : ∀ r ∈ F, ∀ p ∈ r.2, Bd 6 30000 p.2 := fun r hr p hp => (O.pts r hr p hp).bd
  have pd : ∀ r ∈ F, ∀ p ∈ r.2, p.1.w.toNat ∣ prodW its := fun r hr p hp => prodW_dvd (hmem r hr p hp)
  have hb : ∀ r ∈ F, _ := fun r hr => est_bd hy p0 (O.plen r hr) (hw r hr) (ha r hr) (pd r hr)
  have l2 : 6 * prodW its * (6 * prodW its) ≤ 2 ^ 106 := pow_mul_le l1 l1
  have q2 : 0 < 6 * prodW its * (6 * prodW its) := Nat.mul_pos q1 q1
  have l3 : 6 * prodW its * (6 * prodW its) * Dn ≤ 2 ^ 181 := pow_mul_le l2 dl'
  have q3 : 0 < 6 * prodW its * (6 * prodW its) * Dn := Nat.mul_pos q2 d0
  have bt2 : ∀ r ∈ F, Bd (6 * prodW its * (6 * prodW its) * Dn) (2 ^ 40) (told wt (yv y) r.2 * r.1) := fun r hr => ((hb r hr).2.mul (db r hr)).mono (by decide)
  have hsing : ∀ it ∈ its, vari (addeds wt (yv y) F it) = single wt (yv y) t it := fun it hit => L.added_spread hI.pos hit
  have bs : ∀ it ∈ its, Bd (6 * prodW its) (2 ^ 30) (vari (addeds wt (yv y) F it)) := fun it hit => by
    rw [hsing it hit]
    have W := (hI.ok it hit).1
    have h1 : Bd 6 7000 (mx (wt it) t - wt it) := ((mx_bd (W.bd.up (by decide) (by decide)) bt).sub (W.bd.up (by decide) (by decide))).mono (by decide)
    have h2 := (hy.bd2 it).mul ((h1.divw W).up q1 (Nat.mul_dvd_mul_left 6 (prodW_dvd hit)))
    rw [Nat.one_mul] at h2
    exact h2.mono (by decide)
  refine ⟨t, hT, L, O, fun r hr => ⟨O.plen r hr, hw r hr, ha r hr, ⟨prodW its, p0, pl, pd r hr⟩⟩, ⟨by unfold estRows; rw [List.length_map]; exact O.len, ⟨6 * prodW its, Dn, q1, d0, Nat.le_trans l1 (by decide), Nat.le_trans dl' (by decide), fun r hr => ?_⟩⟩,
    fun r hr => (db r hr).sml dl' (b := 0) (by decide) (by decide), fun r hr => (hb r hr).2.sml l2 (Nat.le_refl _) (by decide), fun r hr => (bt2 r hr).sml l3 (Nat.le_refl _) (by decide),
    fun i => ((take_bd q3 bt2 i).mono (show F.length * 2 ^ 40 ≤ 2 ^ 50 from Nat.le_trans (Nat.mul_le_mul_right _ O.len) (by decide))).sml l3 (Nat.le_refl _) (by decide),
    fun it hit => (bs it hit).sml l1 (Nat.le_refl _) (by decide), fun i => ?_⟩
  · obtain ⟨q, hq, e⟩ := List.mem_map.mp hr
    rw [← e]
    exact ⟨(hb q hq).1.mono (by decide), db q hq⟩
  · rw [← List.map_take, sm_map]
    exact ((take_bd q1 bs i).mono (show its.length * 2 ^ 30 ≤ 2 ^ 33 from Nat.le_trans (Nat.mul_le_mul_right _ h5) (by decide))).sml l1 (Nat.le_refl _) (by decide)
section
variable {k : Nat} {its : List It} {y : Str → Int} {F : List (Rat × List (It × Rat))} {t : Rat}
/-- is_whole says just whether all items are kept -/
theorem Fin.whole (X : Fin k its y F t) (hI : Items its) {r : Rat × List (It × Rat)} (hr : r ∈ F) : ((r.2.map fun p => decide (p.2 = (p.1.w : Rat))).all id) = decide (its.length ≤ k) := by
  have O := (X.law.out r hr).2
  rw [Bool.eq_iff_iff, all_dec, decide_eq_true_iff]
  constructor
  · intro h
    by_cases hl : its.length ≤ k
    · exact hl
    · exact absurd h (O.not_whole hI.nd hI.pos (by omega))
  · intro h
    refine O.whole hI.pos (fun _ => ?_) h
    rcases X.thr with ⟨_, e⟩ | ⟨h2, _⟩
    · exact e
    · rw [List.length_map] at h2; omega
theorem Fin.avg (X : Fin k its y F t) (hI : Items its) : avg (estRows y F) = (((its.map fun i => y i.key).sum : Int) : Rat) := by
  rw [cast_sum]
  exact X.law.est_mean hI.nd hI.pos
theorem Fin.told_eq (X : Fin k its y F t) (hI : Items its) : sm F (fun r => told wt (yv y) r.2 * r.1) = sm its (single wt (yv y) t) := X.law.told_mean hI.nd hI.pos
theorem Fin.singles (X : Fin k its y F t) (hI : Items its) : sm (its.map fun it => vari (addeds wt (yv y) F it)) id = sm its (single wt (yv y) t) := by
  rw [sm_map]
  exact X.law.singles hI.pos
theorem Fin.known (X : Fin k its y F t) (hI : Items its) {t' : Rat} (h : Thr k (its.map wt) t') : sm its (kn y t') = sm its (single wt (yv y) t) := by
  have : t' = t := h.uniq (fun w hw => by
    obtain ⟨i, hi, e⟩ := List.mem_map.mp hw
    exact e ▸ hI.pos i hi) X.thr
  subst this
  exact known_eq wt (yv y) t' its
theorem Fin.vari_le (X : Fin k its y F t) (hI : Items its) (hy : ∀ i ∈ its, 0 ≤ y i.key) : vari (estRows y F) ≤ sm its (single wt (yv y) t) :=
  X.law.spread_le hI.nd hI.pos fun i hi => by
    have := hy i hi
    exact Rat.intCast_nonneg.mpr this
end
end K36

set_option Elab.async false
set_option autoImplicit false
set_option linter.all false
set_option maxRecDepth 100000
set_option maxHeartbeats 16000000
/-! The law. -/
namespace K36
open PySem PySem.Spec PyProof.Rows L2
variable {P : Program} {w : World} {K : PySem.W.Frag} {mg : Str → Option Value} {base : Heap} {T : Tb} {C CU : Addr}
/-- a suite cut in two: what holds between its parts -/
def tCut (t u : TS) : TS := fun D σ H => ∃ I : L2.St → Hp → Prop, (∀ N : L2.St → Hp → Prop, (∀ σ' H', I σ' H' → N σ' H') → t { D with nx := N } σ H) ∧ ∀ σ' H', I σ' H' → u D σ' H'
theorem pss_cut {X : Cx} {st : Stmt} {rest : List Stmt} {t u : TS} (h1 : PS X st t) (h2 : PSs X rest u) : PSs X (st :: rest) (tCut t u) :=
  ⟨fun pins s σ H D I h => let ⟨_, a, b⟩ := h; (pss_cons h1 h2).run pins s σ H D I (a (u D) b)⟩
theorem Ext.same {T : Tb} {G H H1 : Hp} (h : Same G H) (e : Same H H1) : Ext T G H G H1 where
  hh := LamX.ExtN.of e
  tt := fun t => t.ext e
  gg := Same.refl G
  gh := h.trans e
  fr := fun _ _ => rfl
  nt := id
  st := fun b hb => by
    cases q : H b with
    | none => exact absurd q hb
    | some o =>
      rw [e b o q]
      simp
/-- what the law knows after its draws -/
structure Drew (T : Tb) (K : PySem.W.Frag) (H0 G H : Hp) (r d : Addr) (lv : V) (its : List It) (kvs : List (Key × V)) : Prop where
  e : Ext T (fun _ => none) H0 G H
  nt : NoT G
  d0 : H0 d = none
  gd : G d = none
  hd : H d = some (.dK kvs)
  ok : AmOk kvs
  len : kvs.length ≤ 100
  it : Items its
  ne : 0 < its.length
  ls : IsLs K (IsIt K G) G lv its
/-- after i outcomes -/
structure LInv (T : Tb) (K : PySem.W.Frag) (H0 G H : Hp) (d rl : Addr) (lv fv tv : V) (its : List It) (kvs : List (Key × V)) (F : List (Rat × List (It × Rat))) (i : Nat) : Prop where
  e : Ext T (fun _ => none) H0 G H
  hd : H d = some (.dK kvs)
  gd : G d = none
  ls : IsLs K (IsIt K G) G lv its
  fs : IsOuts K G fv F
  rs : ∃ us, H rl = some (.lst us) ∧ Paired (IsRow K G) us (estRows (yOf kvs) (F.take i))
  r0 : H0 rl = none
  gr : G rl = none
  tv : IsFr K G tv (sm (F.take i) fun r => told wt (yv (yOf kvs)) r.2 * r.1)
theorem LInv.ext {H0 G H G' H' : Hp} {d rl : Addr} {lv fv tv : V} {its : List It} {kvs : List (Key × V)} {F : List (Rat × List (It × Rat))} {i : Nat} (I : LInv T K H0 G H d rl lv fv tv its kvs F i) (x : Ext T G H G' H') : LInv T K H0 G' H' d rl lv fv tv its kvs F i := by
  obtain ⟨us, h1, h2⟩ := I.rs
  exact ⟨I.e.trans x, x.hh _ _ I.hd (by intro ps z; cases z), x.out I.hd I.gd, IsLs.of (fun _ _ q => IsIt.of x.gg q) x.gg I.ls, I.fs.of x.gg, ⟨us, x.lists h1, Paired.imp (fun v r q => q.of x.gg) h2⟩, I.r0, x.out h1 I.gr, I.tv.of x.gg⟩
/-- after the loop -/
structure LEnd (T : Tb) (K : PySem.W.Frag) (H0 G H : Hp) (d : Addr) (lv fv tv : V) (its : List It) (kvs : List (Key × V)) (F : List (Rat × List (It × Rat))) (tl : Rat) : Prop where
  e : Ext T (fun _ => none) H0 G H
  hd : H d = some (.dK kvs)
  gd : G d = none
  ls : IsLs K (IsIt K G) G lv its
  fs : IsOuts K G fv F
  tv : IsFr K G tv tl
theorem LEnd.ext {H0 G H G' H' : Hp} {d : Addr} {lv fv tv : V} {its : List It} {kvs : List (Key × V)} {F : List (Rat × List (It × Rat))} {tl : Rat} (I : LEnd T K H0 G H d lv fv tv its kvs F tl) (x : Ext T G H G' H') : LEnd T K H0 G' H' d lv fv tv its kvs F tl :=
  ⟨I.e.trans x, x.hh _ _ I.hd (by intro ps z; cases z), x.out I.hd I.gd, IsLs.of (fun _ _ q => IsIt.of x.gg q) x.gg I.ls, I.fs.of x.gg, I.tv.of x.gg⟩
theorem sm_take' {α : Type} {l : List α} {f : α → Rat} {i : Nat} {x : α} (h : l[i]? = some x) : sm (l.take (i + 1)) f = sm (l.take i) f + f x := by
  rw [take_one h, sm_append, sm_one]
theorem tyT {H : Hp} {a : Addr} {xs : List V} (h : SqT K H a xs) : TyX K H (.ref a) (.type "tuple") := by
  rcases h with (h | ⟨o, h⟩) | ⟨o, its, n, hk, hc, _⟩
  · exact .base (.tup h)
  · exact .fTuple h
  · exact .kTuple hk hc
def spLaw (T : Tb) (K : PySem.W.Frag) : Sp := fun vs H Q _ => ∃ (a : Addr) (ns : List Int), vs = [.ref a] ∧ SqL K H a (ns.map V.int) ∧ ns.length ≤ 63 ∧ LamX.Tabs T H ∧ ∀ H', Q (.bl true) H'
abbrev nLaw : List Str := ["_law_script", "_law_row", "_law_things", "_law_amounts_here", "_law_item", "_law_size", "_law_found", "_law_rows", "_law_told", "_law_chance", "_law_parts", "_law_sample", "_law_answer", "_law_middle", "_law_spread", "_law_singles"]
theorem sc_law : FnScope nLaw ["_law_script"] (defScope (topS 55)) := ⟨rfl, rfl, rfl, by decide +kernel, rfl, by decide +kernel, by decide +kernel⟩
/-- what the law calls -/
structure LawNeeds (P : Program) (w : World) (K : PySem.W.Frag) (mg : Str → Option Value) (base : Heap) (T : Tb) (C CU : Addr) : Prop where
  nm : Nm K mg
  tup : mg "tuple" = none
  min : mg "min" = none
  dict : mg "dict" = none
  kl : Kl K mg C CU
  nums : Cal P w K mg base 8 "_law_numbers" ["_law_script", "_law_count"] (spNums K)
  items : Cal P w K mg base 8 "_law_items" ["_law_row", "_law_many"] (spItems T K)
  take : Cal P w K mg base 8 "_law_take" ["_law_row", "_law_bound"] spTake
  amts : Cal P w K mg base 8 "_law_amounts" ["_law_row", "_law_things"] (spAmts T K)
  chain : Cal P w K mg base 8 "_law_chain" ["_law_size", "_law_things"] (spChain T K)
  est : Cal P w K mg base 8 "estimate" ["sample", "amounts"] (spEstO T K C)
  whole : Cal P w K mg base 8 "is_whole" ["sample"] (spWhole T K C)
  plus : Cal P w K mg base 8 "_law_plus" ["_law_one", "_law_other"] (spBin T K okAny fun x y => x + y)
  times : Cal P w K mg base 8 "_law_times" ["_law_one", "_law_other"] (spBin T K okAny fun x y => x * y)
  mom : Cal P w K mg base 8 "_law_moments" ["_law_rows"] (spMom T K)
  tru : Cal P w K mg base 8 "_law_true" ["_law_things", "_law_amounts_here"] (spTrue T K)
  sum : Cal P w K mg base 8 "_law_sum" ["_law_rows"] (spSum T K)
  single : Cal P w K mg base 8 "_law_single" ["_law_found", "_law_item", "_law_amount"] (spSingle T K)
  known : Cal P w K mg base 8 "known_optimal" ["things", "size", "amounts"] (spKn T K)
  less : Cal P w K mg base 8 "_law_less" ["_law_one", "_law_other"] (spLess K)
  make : ∃ (f : Addr) (fd : FuncData), Mk K C f ∧ Binds K fd ["self", "size", "parts"] [] ∧ FnOk P w K mg base CX0 7 f fd ["self", "size", "parts"] (spInit T K C)
theorem ok_law {f : Addr} {fd : FuncData} (F : Fun K "law" "law" (topS 55) f fd) (L : LawNeeds P w K mg base T C CU) : FnOk P w K mg base CX0 9 f fd ["_law_script"] (spLaw T K) := by
  refine F.ok sc_law (fun vs H Q E h => ?_) (fun cdv A outer s H vs Q E hr h => ?_)
  · obtain ⟨a, ns, rfl, _⟩ := h
    rfl
  · obtain ⟨a, ns, rfl, hS, hlen, hT, kk⟩ := h
    have N := L.nm
    obtain ⟨fi, fdi, mk, bi, oi⟩ := L.make
    refine ⟨_, (pss_cons (ps_set (i := 1) sc_law.nd rfl (.inl rfl) (L.nums.pe hr (by rfl) (pa_cons (pv 0) (pa_cons pe_int pa_nil))))
      (pss_cons (ps_set (i := 2) sc_law.nd rfl (.inl rfl) (L.items.pe hr (by rfl) (pa_cons (pv 1) (pa_cons (pe_op op_add pe_int (L.take.pe hr (by rfl) (pa_cons (pv 1) (pa_cons pe_int pa_nil)))) pa_nil))))
      (pss_cons (ps_set (i := 3) sc_law.nd rfl (.inr rfl) (L.amts.pe hr (by rfl) (pa_cons (pv 1) (pa_cons (pv 2) pa_nil))))
      (pss_cut (ps_if (pt_cmpR op_eq (L.take.pe hr (by rfl) (pa_cons (pv 1) (pa_cons pe_int pa_nil))) pe_int (nomark _)) (pss_one (ps_for PassesOwn.never rfl (pi_list (pv 2)) (pg_name (i := 4) sc_law.nd rfl (.inl rfl)) (pss_one (ps_dput (hu_of hr) (pv 3) (pe_ix (r := rIxT K) ix_tup (pv 4) pe_int (fun _ _ => rfl)) (pe_callB call_abs (by rfl) N.abs (by decide +kernel) (pa_cons (pe_dget2 (hu_of hr) (pv 3) (pe_ix (r := rIxT K) ix_tup (pv 4) pe_int (fun _ _ => rfl)) pe_int ⟨rfl, rfl, rfl, rfl⟩) pa_nil)) rfl)))) pss_nil)
      (pss_cons (ps_set (i := 5) sc_law.nd rfl (.inl rfl) (pe_op op_add pe_int (L.take.pe hr (by rfl) (pa_cons (pv 1) (pa_cons pe_int pa_nil)))))
      (pss_cons (ps_set (i := 6) sc_law.nd rfl (.inr rfl) (L.chain.pe hr (by rfl) (pa_cons (pv 5) (pa_cons (pv 2) pa_nil))))
      (pss_cons (ps_set (i := 7) sc_law.nd rfl (.inl rfl) (pe_lst pa_nil))
      (pss_cons (ps_set (i := 8) sc_law.nd rfl (.inl rfl) (pe_tup (pa_cons pe_int (pa_cons pe_int pa_nil))))
      (pss_cut (ps_for PassesOwn.never rfl (pi_list (pv 6)) (pg_tup rfl (pgs_cons (pg_name (i := 9) sc_law.nd rfl (.inl rfl)) (pgs_cons (pg_name (i := 10) sc_law.nd rfl (.inl rfl)) pgs_nil))) (pss_cons (ps_set (i := 11) sc_law.nd rfl (.inl rfl) (pe_make mk oi hr (by rfl) L.kl.gC bi .nil pass0 (pa_cons (pv 5) (pa_cons (pe_callTy call_list_of (by rfl) N.list (by decide +kernel) (pa_cons (pv 10) pa_nil)) pa_nil))))
      (pss_cons (ps_set (i := 12) sc_law.nd rfl (.inl rfl) (L.est.pe hr (by rfl) (pa_cons (pv 11) (pa_cons (pe_callTy call_dictD (by rfl) L.dict (by decide +kernel) (pa_cons (pv 3) pa_nil)) pa_nil))))
      (pss_cons (ps_if (PW.pt (pw_or (pt_not (pt_val (pe_callB call_isi (by rfl) N.isi (by decide +kernel) (pa_cons (pv 12) (pa_cons (pe_bltn (v := .ty "tuple") (by rfl) L.tup (by decide +kernel) rfl) pa_nil))))) (pw_or (pt_cmpR op_ne (L.whole.pe hr (by rfl) (pa_cons (pv 11) pa_nil)) (pe_cmpR op_le (pe_callB call_len_seq (by rfl) N.len PySem.boot_len (pa_cons (pv 2) pa_nil)) (pv 5) (nomark _)) (nomark _)) (pw_or1 (pt_cmpR (op_neD (hu64 hr)) (pe_fld (pv 11) rfl) (pv 10) (nomark _)))))) (pss_one (ps_ret pe_bl)) pss_nil)
      (pss_cons (ps_expr (pe_bm PySem.F.plainAttrs_list PySem.F.slot_list_append PySem.F.type_list_append mt_append (pv 7) (pa_cons (pe_tup (pa_cons (pe_ix (r := rIxT K) ix_tup (pv 12) pe_int (fun _ _ => rfl)) (pa_cons (pv 9) pa_nil))) pa_nil)))
      (pss_one (ps_set (i := 8) sc_law.nd rfl (.inl rfl) (L.plus.pe hr (by rfl) (pa_cons (pv 8) (pa_cons (L.times.pe hr (by rfl) (pa_cons (pe_ix (r := rIxT K) ix_tup (pv 12) pe_int (fun _ _ => rfl)) (pa_cons (pv 9) pa_nil))) pa_nil))))))))))
      (pss_cons (ps_asg (L.mom.pe hr (by rfl) (pa_cons (pv 7) pa_nil)) (pg_tup rfl (pgs_cons (pg_name (i := 13) sc_law.nd rfl (.inl rfl)) (pgs_cons (pg_name (i := 14) sc_law.nd rfl (.inl rfl)) pgs_nil))))
      (pss_cons (ps_if (pt_cmpR (op_neD (hu64 hr)) (pv 13) (pe_tup (pa_cons (L.tru.pe hr (by rfl) (pa_cons (pv 2) (pa_cons (pv 3) pa_nil))) (pa_cons pe_int pa_nil))) (nomark _)) (pss_one (ps_ret pe_bl)) pss_nil)
      (pss_cons (ps_set (i := 15) sc_law.nd rfl (.inl rfl) (L.sum.pe hr (by rfl) (pa_cons (pe_lc (own := [("_law_item", 4)]) (g := gName 4) (tt := tYes) rfl sc_law.nd (pi_list (pv 2)) (blkOk_by (N := nLaw) (sc := defScope (topS 55)) (by decide +kernel)) (fun _ _ _ _ _ => pg_name (i := 4) sc_law.nd rfl (Or.inl rfl)) (fun _ _ _ _ _ => pts_nil) (fun _ _ _ _ _ => (L.single.pe hr (by rfl) (pa_cons (pv 6) (pa_cons (pv 4) (pa_cons (pe_dget2 (hu_of hr) (pv 3) (pe_ix (r := rIxT K) ix_tup (pv 4) pe_int (fun _ _ => rfl)) pe_int ⟨rfl, rfl, rfl, rfl⟩) pa_nil)))))) pa_nil)))
      (pss_cons (ps_if (PW.pt (pw_or (pt_cmpR (op_neD (hu64 hr)) (pv 8) (pv 15) (nomark _)) (pw_or1 (pt_cmpR (op_neD (hu64 hr)) (L.known.pe hr (by rfl) (pa_cons (pe_callTy call_list_of (by rfl) N.list (by decide +kernel) (pa_cons (pv 2) pa_nil)) (pa_cons (pv 5) (pa_cons (pe_callTy call_dictD (by rfl) L.dict (by decide +kernel) (pa_cons (pv 3) pa_nil)) pa_nil)))) (pv 15) (nomark _))))) (pss_one (ps_ret pe_bl)) pss_nil)
      (pss_one (ps_ret (pe_or (pe_cmpR op_lt (pe_callB (cr_min rfl) (by rfl) L.min (by decide +kernel) (pa_cons (pe_lc (own := [("_law_item", 4)]) (g := gName 4) (tt := tYes) rfl sc_law.nd (pi_list (pv 2)) (blkOk_by (N := nLaw) (sc := defScope (topS 55)) (by decide +kernel)) (fun _ _ _ _ _ => pg_name (i := 4) sc_law.nd rfl (Or.inl rfl)) (fun _ _ _ _ _ => pts_nil) (fun _ _ _ _ _ => (pe_dget2 (hu_of hr) (pv 3) (pe_ix (r := rIxT K) ix_tup (pv 4) pe_int (fun _ _ => rfl)) pe_int ⟨rfl, rfl, rfl, rfl⟩))) pa_nil)) pe_int (nomark _)) (pe_one (pe_not (L.less.pe hr (by rfl) (pa_cons (pv 8) (pa_cons (pv 14) pa_nil))))))))))))))))))))), ?_⟩
    have hs0 : Same (fun _ => none : Hp) H := fun b o e => by cases e
    have nt0 : NoT (fun _ => none : Hp) := fun b ps e => by cases e
    -- row
    refine ⟨_, rfl, a, ns, rfl, hS, hlen, fun H1 r ns1 s1 r0 hr1 => ?_⟩
    have R1 : RowAt T (fun _ => none) H (fun _ => none) H1 r ns1 := ⟨Ext.same hs0 s1, r0, rfl, hr1⟩
    -- things
    refine ⟨_, rfl, _, rfl, r, ns1, 5, rfl, R1.h, by decide, fun ns2 m2 _ a2 b2 => ⟨_, _, rfl, rfl, ?_⟩⟩
    obtain ⟨n, hn⟩ : ∃ n : Nat, 1 + m2 = (n : Int) := ⟨(1 + m2).toNat, by omega⟩
    refine ⟨_, _, _, r, ns2, n, (by show [V.ref r, V.int (1 + m2)] = _; rw [hn]), R1.put ns2, by omega, fun G3 H3 lv ns3 its R3 dr hls => ?_⟩
    have hn5 : n ≤ 5 := by omega
    have hI : Items its := ⟨fun i hi => ⟨dr.w i hi, dr.ok hn5 i hi⟩, dr.nodup hn5, by have := dr.len; omega⟩
    have hne : 0 < its.length := by have := dr.len; omega
    -- amounts
    refine ⟨_, rfl, lv, rfl, _, _, G3, r, ns3, lv, its, rfl, R3, hls, hI.len, fun G4 H4 d kvs ns4 R4 s4 d0 gd hd ok hk => ?_⟩
    have hls4 : IsLs K (IsIt K G4) G4 lv its := IsLs.of (fun _ _ q => IsIt.of s4 q) s4 hls
    refine ⟨fun σ H' => ∃ (G' : Hp) (ns' : List Int) (kvs' : List (Key × V)) (y4 : Option V), σ = [some (.ref a), some (.ref r), some lv, some (.ref d), y4, none, none, none, none, none, none, none, none, none, none, none] ∧ RowAt T (fun _ => none) H G' H' r ns' ∧ Drew T K H G' H' r d lv its kvs', fun Nx next => ?_, fun σ H' h => ?_⟩
    · have nrd : r ≠ d := ne_of R4.h hd (by intro z; cases z)
      refine ⟨_, rfl, r, ns4, 2, rfl, R4.h, by decide, fun ns5 m5 _ a5 b5 => ⟨rfl, _, rfl, ite2 (fun _ => ?_) (fun _ => ?_)⟩⟩
      · have R5 := R4.put ns5
        have hd5 : (upd H4 r (.lst (ns5.map V.int))) d = some (.dK kvs) := by rw [upd_ne nrd.symm]; exact hd
        obtain ⟨l, ws, el, hl, hp⟩ := hls4
        refine ⟨lv, rfl, l, el, ⟨_, R5.e.gh.seq hl⟩, for_list (K := K) (a := l) (xs := ws) (fun i σ H' => ∃ (kvs' : List (Key × V)) (y4 : Option V), σ = [some (.ref a), some (.ref r), some lv, some (.ref d), y4, none, none, none, none, none, none, none, none, none, none, none] ∧ RowAt T (fun _ => none) H G4 H' r ns5 ∧ H' d = some (.dK kvs') ∧ AmOk kvs' ∧ kvs'.length ≤ 10 + i)
          ⟨kvs, none, rfl, R5, hd5, ok, by omega⟩ (fun i σ H' _ ⟨_, _, _, R', _⟩ => R'.e.gh.seq hl) (fun i x σ H' hi hP => ?_) (fun σ H' hP => ?_)⟩
        · obtain ⟨kvs', y4, rfl, R', hd', ok', hk'⟩ := hP
          obtain ⟨q, hq, hx⟩ := Paired.get' hp hi
          have hil : i < its.length := (List.getElem?_eq_some_iff.mp hq).1
          have hi5 := hI.len
          obtain ⟨oy, yk⟩ := ok'.of
          have hy := yk q.key
          refine ⟨.ref d, rfl, d, rfl, .inl ⟨kvs', .inl hd'⟩, it0 (i := 4) rfl (hx.of R'.e.gh) ⟨valV kvs' (Sum.inr q.key), DGet.k (k := Sum.inr q.key) hd', ?_⟩⟩
          rw [oy q.key]
          refine ⟨_, rfl, ?_⟩
          refine ⟨_, rfl, ?_⟩
          refine it0 rfl (hx.of R'.e.gh) ⟨d, _, rfl, DPut.k (k := Sum.inr q.key) hd' (Nat.lt_of_le_of_lt (show kvs'.length ≤ 100 by omega) (by decide)), ?_⟩
          refine ⟨_, _, rfl, ⟨R'.e.write' hd' (fun ps z => by cases z) (fun φ z => by cases z) d0 gd, R'.h0, R'.g, by rw [upd_ne nrd]; exact R'.h⟩, upd_same, ok'.put q.key (by split <;> omega), ?_⟩
          exact Nat.le_trans (length_putK kvs' (Sum.inr q.key) _) (by omega)
        · obtain ⟨kvs', y4, rfl, R', hd', ok', hk'⟩ := hP
          have : ws.length = its.length := hp.length
          have hi5 := hI.len
          exact next _ _ ⟨G4, ns5, kvs', y4, rfl, R', ⟨R'.e, R'.e.nt nt0, d0, gd, hd', ok', by omega, hI, hne, ⟨l, ws, el, hl, hp⟩⟩⟩
      · have R5 := R4.put ns5
        have hd5 : (upd H4 r (.lst (ns5.map V.int))) d = some (.dK kvs) := by rw [upd_ne nrd.symm]; exact hd
        exact next _ _ ⟨G4, ns5, kvs, none, rfl, R5, ⟨R5.e, R5.e.nt nt0, d0, gd, hd5, ok, by omega, hI, hne, hls4⟩⟩
    · obtain ⟨G5, ns5, kvs5, y4, rfl, R5, W⟩ := h
      -- size
      refine ⟨_, rfl, r, ns5, 3, rfl, R5.h, by decide, fun ns6 m6 _ a6 b6 => ⟨_, _, rfl, rfl, ?_⟩⟩
      obtain ⟨k, hk⟩ : ∃ k : Nat, 1 + m6 = (k : Int) := ⟨(1 + m6).toNat, by omega⟩
      have R6 := R5.put ns6
      have nrd : r ≠ d := ne_of R5.h W.hd (by intro z; cases z)
      have hd6 : (upd _ r (.lst (ns6.map V.int))) d = some (.dK kvs5) := (upd_ne nrd.symm).trans W.hd
      -- found
      refine ⟨_, rfl, lv, rfl, G5, lv, its, k, (by show [V.int (1 + m6), lv] = _; rw [hk]), R6.e.gh, W.nt, R6.e.tt hT, W.ls, hI, by omega, by omega, fun fv G7 H7 e7 ⟨F, CI, hF⟩ => ?_⟩
      have hd7 : H7 d = some (.dK kvs5) := e7.hh _ _ hd6 (by intro ps z; cases z)
      have gd7 : G7 d = none := e7.out hd6 W.gd
      have e07 := R6.e.trans e7
      obtain ⟨yo, yk⟩ := W.ok.of
      have hk3 : k ≤ 3 := by omega
      obtain ⟨th, X⟩ := Fin.of hI hk3 yk CI
      -- rows, told
      refine ⟨Nat.zero_le _, fun rl nrl => ?_⟩
      have e08 := e07.trans (Ext.newM (T := T) (o := .lst []) e07.gh nrl)
      have rl0 : H rl = none := e07.free0 nrl
      have ndr : d ≠ rl := ne_of_none hd7 nrl
      refine ⟨(by show 2 ≤ sizeLine; decide), fun t nt => ?_⟩
      have e89 := Ext.new (T := T) (o := .tup [.int 0, .int 1]) e08.gh nt (by intro ps z; cases z)
      have ntr : rl ≠ t := fun z => by rw [← z, upd_same] at nt; cases nt
      have hd8 : (upd H7 rl (.lst [])) d = some (.dK kvs5) := by rw [upd_ne ndr]; exact hd7
      have I9 : LInv T K H (upd G7 t (.tup [.int 0, .int 1])) _ d rl lv fv (.ref t) its kvs5 F 0 := ⟨e08.trans e89, e89.hh _ _ hd8 (by intro ps z; cases z), e89.out hd8 gd7, IsLs.of (fun _ _ q => IsIt.of (e7.gg.trans e89.gg) q) (e7.gg.trans e89.gg) W.ls, hF.of e89.gg,
        ⟨[], by rw [upd_ne ntr, upd_same], .nil⟩, rl0, by rw [upd_ne ntr]; exact e07.gh.free nrl, zero_fr (SqT.of upd_same)⟩
      refine ⟨fun σ H' => ∃ (G' : Hp) (tv : V) (z4 z9 z10 z11 z12 : Option V), σ = [some (.ref a), some (.ref r), some lv, some (.ref d), z4, some (.int (k : Int)), some fv, some (.ref rl), some tv, z9, z10, z11, z12, none, none, none] ∧ LInv T K H G' H' d rl lv fv tv its kvs5 F F.length, fun Nx next => ?_, fun σ H' h => ?_⟩
      · obtain ⟨fa, fws, efv, hfl, hfp⟩ := I9.fs
        obtain ⟨l, ws, elv, hl, hp⟩ := I9.ls
        have hfn : fws.length = F.length := hfp.length
        have hwl : ws.length = its.length := hp.length
        refine ⟨fv, rfl, fa, efv, ⟨_, I9.e.gh.seq hfl⟩, for_list (K := K) (a := fa) (xs := fws) (fun i σ H' => ∃ (G' : Hp) (tv : V) (z4 z9 z10 z11 z12 : Option V), σ = [some (.ref a), some (.ref r), some lv, some (.ref d), z4, some (.int (k : Int)), some fv, some (.ref rl), some tv, z9, z10, z11, z12, none, none, none] ∧ LInv T K H G' H' d rl lv fv tv its kvs5 F i ∧ Same (upd G7 t (.tup [.int 0, .int 1])) G')
          ⟨_, .ref t, y4, none, none, none, none, ?_, I9, Same.refl _⟩ (fun i σ H' _ ⟨G', _, _, _, _, _, _, _, I, s9⟩ => (s9.trans I.e.gh).seq hfl) (fun i xv σ H' hi hP => ?_) (fun σ H' hP => ?_)⟩
        · show [some (V.ref a), some (.ref r), some lv, some (.ref d), y4, some (.int (1 + m6)), some fv, some (.ref rl), some (.ref t), none, none, none, none, none, none, none] = _
          rw [hk]
        · obtain ⟨G', tv, z4, z9, z10, z11, z12, rfl, I, s9⟩ := hP
          obtain ⟨rr, hrr, ⟨ta, vc, vp, rfl, hta, hvc, hvp⟩⟩ := Paired.get' hfp hi
          have hrm := List.mem_of_getElem? hrr
          have s9' := s9.trans I.e.gh
          refine ⟨ta, _, rfl, sameT s9' hta, rfl, vc, _, rfl, vp, _, rfl, rfl, ?_⟩
          obtain ⟨pl, pws, rfl, hpl, hpp⟩ := hvp
          have hplen : rr.2.length ≤ 5 := (X.pso rr hrm).len
          -- sample
          refine ⟨_, rfl, .ref pl, rfl, pl, pws, rfl, .inl (s9'.seq hpl), fun q nq => ?_⟩
          have e10 := Ext.new (T := T) (o := .lst pws) I.e.gh nq (by intro ps z; cases z)
          have I10 := I.ext e10
          intro x dx nx ndx hdx
          have nx1 : (upd (upd H' q (.lst pws)) dx (.own x)) x = none := by rw [upd_ne hdx.symm]; exact nx
          have e11 := (Ext.newM (T := T) (o := .own x) I10.e.gh ndx).trans (Ext.newM (T := T) (o := .ins C dx []) (Ext.newM (T := T) (o := .own x) I10.e.gh ndx).gh nx1)
          refine ⟨_, _, _, x, dx, (k : Int), .ref q, rr.2, rfl, e11, nx, I10.e.gh.free nx, upd_same, ⟨q, pws, rfl, (e11.gg.trans e11.gh).seq (SqL.of upd_same), Paired.imp (fun v p z => z.of (s9.trans e10.gg)) hpp⟩, by omega, fun G12 H12 pa ka e12 hp12 g12 hP hK => ⟨rfl, ?_⟩⟩
          have e12s := e12.seal hp12 nx g12 ins_nt
          have I12 := I10.ext e12s
          have hx12 : (upd G12 x (.ins C dx (sf (k : Int) pa ka))) x = some (.ins C dx (sf (k : Int) pa ka)) := upd_same
          have hP12 : IsPts K (upd G12 x (.ins C dx (sf (k : Int) pa ka))) (.ref pa) rr.2 := hP.of (same_new g12)
          have hK12 : IsLs K (IsIt K (upd G12 x (.ins C dx (sf (k : Int) pa ka)))) (upd G12 x (.ins C dx (sf (k : Int) pa ka))) (.ref ka) (rr.2.map (·.1)) := IsLs.of (fun _ _ z => IsIt.of (same_new g12) z) (same_new g12) hK
          generalize (upd G12 x (.ins C dx (sf (k : Int) pa ka))) = G13 at hx12 hP12 hK12 e12s I12
          have hsm : IsSm K C G13 (.ref x) rr.2 := ⟨x, dx, pa, ka, (k : Int), rfl, hx12, hP12, hK12⟩
          have s13 : Same G' G13 := e10.gg.trans e12s.gg
          -- answer
          refine ⟨_, rfl, .ref d, rfl, d, kvs5, rfl, .inl I12.hd, fun d2 nd2 => ?_⟩
          have e13 := Ext.newM (T := T) (o := .dK kvs5) I12.e.gh nd2
          refine ⟨G13, .ref x, .ref d2, rr.2, yOf kvs5, rfl, e13.gh, hsm, ⟨d2, kvs5, rfl, upd_same, yo⟩, X.pso rr hrm, yk, fun av G14 H14 e14 hrow => ?_⟩
          have I14 := (I12.ext e13).ext e14
          have s14 : Same G' G14 := s13.trans e14.gg
          obtain ⟨ar, v1, v2, rfl, hat, hv1, hv2⟩ := hrow
          -- the test
          refine ⟨.ref ar, rfl, .ref ar, .ty "tuple", .type "tuple", .type "tuple", true, rfl, .ty "tuple", tyT (sameT I14.e.gh hat), kit_ty (by decide +kernel), _, rfl, iteF ?_⟩
          refine ⟨.ref x, rfl, G14, .ref x, rr.2, rfl, I14.e.gh, hsm.of e14.gg, by omega, fun G15 H15 e15 => ?_⟩
          have I15 := I14.ext e15
          have s15 : Same G' G15 := s14.trans e15.gg
          have s15' := s15.trans I15.e.gh
          refine ⟨lv, rfl, l, ws, (by rw [elv]), .inl ((s9.trans s15').seq hl), _, rfl, _, _, rfl, rfl, rfl, _, rfl, ?_⟩
          have hw := X.whole hI hrm
          have hz : (!decide (V.bl ((rr.2.map fun p => decide (p.2 = (p.1.w : Rat))).all id) = V.bl (decide (((ws.length : Nat) : Int) ≤ (k : Int))))) = false := by
            have : decide (((ws.length : Nat) : Int) ≤ (k : Int)) = decide (its.length ≤ k) := by
              rw [hwl, decide_eq_decide]
              omega
            rw [hw, this]
            simp
          show if (!decide (V.bl ((rr.2.map fun p => decide (p.2 = (p.1.w : Rat))).all id) = V.bl (decide (((ws.length : Nat) : Int) ≤ (k : Int))))) = true then _ else _
          rw [hz]
          refine iteF ?_
          have sG15 : Same G13 G15 := e14.gg.trans e15.gg
          have hdp1 : Dp K H15 (.ref pa) (ptsD rr.2) := (hP12.of (sG15.trans I15.e.gh)).dp
          have hdp2 : Dp K H15 (.ref pl) (ptsD rr.2) := IsPts.dp ⟨pl, pws, rfl, (s9.trans s15').seq hpl, Paired.imp (fun v p z => z.of (s9.trans s15')) hpp⟩
          have hsh : SeqAt.shaped (ptsD rr.2) = true := ptsD_shaped fun p hp' => (X.outs.pts rr hrm p hp').it
          refine ⟨.ref x, rfl, x, C, dx, _, .ref pa, rfl, (sG15.trans I15.e.gh) _ _ hx12, L.kl.cl, L.kl.nP, sf_parts _ _ _, .ref pl, rfl, ptsD rr.2, ptsD rr.2, hdp1, hdp2, hsh, hsh, _, rfl, ?_⟩
          have hez : (!PyData.eqv (ptsD rr.2) (ptsD rr.2)) = false := by rw [ptsD_eqv]; simp
          rw [hez]
          refine iteF ?_
          -- rows.append
          obtain ⟨us, hus, hup⟩ := I15.rs
          have hat15 := sameT (e15.gg.trans I15.e.gh) hat
          refine ⟨.ref rl, rfl, .inl ⟨rfl, _, .inl (.inl hus)⟩, .ref ar, rfl, ar, _, 0, v1, rfl, rfl, hat15, atI_nat (j := 0) rfl, vc, rfl, (by show 2 ≤ sizeLine; decide), fun b nb => ?_⟩
          have e16 := Ext.new (T := T) (o := .tup [v1, vc]) I15.e.gh nb (by intro ps z; cases z)
          have I16 := I15.ext e16
          have hul : us.length ≤ 1024 := by
            have h1 := hup.length
            have h2 : (estRows (yOf kvs5) (F.take i)).length ≤ F.length := by
              unfold estRows
              rw [List.length_map, List.length_take]
              exact Nat.min_le_right _ _
            have h3 := X.outs.len
            omega
          have hus16 := e16.lists hus
          refine ⟨rl, us, .ref b, rfl, rfl, hus16, Nat.lt_of_le_of_lt hul (by decide), ?_⟩
          have e17 := I16.e.write (o := .lst (us ++ [.ref b])) hus16 I16.r0 I16.gr
          have ndl : d ≠ rl := ne_of I16.hd hus16 (by intro z; cases z)
          have hrow : IsRow K (upd G15 b (.tup [v1, vc])) (.ref b) (est wt (yv (yOf kvs5)) rr.2, rr.1) := ⟨b, v1, vc, rfl, SqT.of upd_same, hv1.of (e15.gg.trans e16.gg), (hvc.of s9).of (s15.trans e16.gg)⟩
          have hrows : Paired (IsRow K (upd G15 b (.tup [v1, vc]))) (us ++ [.ref b]) (estRows (yOf kvs5) (F.take (i + 1))) := by
            unfold estRows
            rw [take_one hrr, List.map_append]
            exact Paired.snoc (Paired.imp (fun v p z => z.of e16.gg) hup) hrow
          -- told
          refine ⟨tv, rfl, .ref ar, rfl, ar, _, 1, v2, rfl, rfl, sameT (e16.gg.trans e17.gh) (sameT e15.gg hat), atI_nat (j := 1) rfl, vc, rfl, _, v2, vc, told wt (yv (yOf kvs5)) rr.2, rr.1, rfl, e17.gh, hv2.of (e15.gg.trans e16.gg), (hvc.of s9).of (s15.trans e16.gg), X.tS rr hrm, X.cS rr hrm, trivial, fun mv G18 H18 e18 hmv => ?_⟩
          have htv : IsFr K G18 tv _ := I16.tv.of e18.gg
          refine ⟨G18, tv, mv, _, _, rfl, e18.gh, htv, hmv, X.tP i, X.tC rr hrm, trivial, fun tv2 G19 H19 e19 htv2 => ?_⟩
          have e189 := e18.trans e19
          have x17 : (upd (upd H15 b (.tup [v1, vc])) rl (.lst (us ++ [.ref b]))) d = some (.dK kvs5) := by rw [upd_ne ndl]; exact I16.hd
          have x17r : (upd (upd H15 b (.tup [v1, vc])) rl (.lst (us ++ [.ref b]))) rl = some (.lst (us ++ [.ref b])) := upd_same
          refine ⟨G19, tv2, _, _, _, _, _, rfl, ⟨e17.trans e189, e189.hh _ _ x17 (by intro ps z; cases z), e189.out x17 I16.gd, IsLs.of (fun _ _ q => IsIt.of e189.gg q) e189.gg I16.ls, I16.fs.of e189.gg, ⟨us ++ [.ref b], e189.lists x17r, Paired.imp (fun v p z => z.of e189.gg) hrows⟩, I16.r0, e189.out x17r I16.gr, ?_⟩, ((s9.trans s15).trans e16.gg).trans e189.gg⟩
          rw [sm_take' hrr]
          exact htv2
        · obtain ⟨G', tv, z4, z9, z10, z11, z12, rfl, I, s9⟩ := hP
          rw [hfn] at I
          exact next _ _ ⟨G', tv, z4, z9, z10, z11, z12, rfl, I⟩
      · obtain ⟨G', tv, z4, z9, z10, z11, z12, rfl, I⟩ := h
        obtain ⟨us, hus, hup⟩ := I.rs
        have ndl : d ≠ rl := ne_of I.hd hus (by intro z; cases z)
        have sg := same_new (o := .lst us) I.gr
        have htk : F.take F.length = F := List.take_length
        have hup := hup
        have htv0 := I.tv
        rw [htk] at hup htv0
        have J : LEnd T K H (upd G' rl (.lst us)) H' d lv fv tv its kvs5 F (sm F fun r => told wt (yv (yOf kvs5)) r.2 * r.1) :=
          ⟨I.e.seal hus I.r0 I.gr (by intro ps z; cases z), I.hd, by rw [upd_ne ndl]; exact I.gd, IsLs.of (fun _ _ q => IsIt.of sg q) sg I.ls, I.fs.of sg, htv0.of sg⟩
        have hrows : IsRows K (upd G' rl (.lst us)) (.ref rl) (estRows (yOf kvs5) F) := ⟨rl, us, rfl, SqL.of upd_same, Paired.imp (fun v p z => z.of sg) hup⟩
        have S := X.mom.sz
        have stl : Sm (sm F fun r => told wt (yv (yOf kvs5)) r.2 * r.1) := by
          have := X.tP F.length
          rw [htk] at this
          exact this
        have svr : Sm (vari (estRows (yOf kvs5) F)) := by
          have := S.v (estRows (yOf kvs5) F).length
          rw [List.take_length] at this
          exact this
        have hI5 := hI.len
        -- middle, spread
        refine ⟨.ref rl, rfl, _, .ref rl, _, rfl, J.e.gh, hrows, X.mom, fun v G3 H3 e3 hrow => ?_⟩
        obtain ⟨ta, v1, v2, rfl, hta, hv1, hv2⟩ := hrow
        have J3 := J.ext e3
        refine ⟨ta, _, rfl, sameT J3.e.gh hta, rfl, v1, _, rfl, v2, _, rfl, rfl, ?_⟩
        -- the middle
        refine ⟨v1, rfl, lv, rfl, .ref d, rfl, G3, lv, .ref d, its, yOf kvs5, rfl, J3.e.gh, J3.ls, by omega, ⟨d, kvs5, rfl, J3.hd, yo⟩, fun G4 H4 e4 => ?_⟩
        have J4 := J3.ext e4
        refine ⟨(by show 2 ≤ sizeLine; decide), fun b nb => ?_⟩
        have e5 := Ext.new (T := T) (o := .tup [.int (its.map fun i => yOf kvs5 i.key).sum, .int 1]) J4.e.gh nb (by intro ps z; cases z)
        have J5 := J4.ext e5
        have s35 := e4.gg.trans e5.gg
        refine ⟨frD _, frD _, (hv1.of (s35.trans J5.e.gh)).dp, IsFr.dp (int_fr (SqT.of upd_same)), frD_shaped _, frD_shaped _, _, rfl, ?_⟩
        have hz : (!PyData.eqv (frD (avg (estRows (yOf kvs5) F))) (frD (((its.map fun i => yOf kvs5 i.key).sum : Int) : Rat))) = false := by
          rw [frD_eqv, X.avg hI]
          simp
        rw [hz]
        refine iteF ?_
        generalize (upd G4 b (.tup [.int (its.map fun i => yOf kvs5 i.key).sum, .int 1])) = G5 at e5 J5 s35
        generalize (upd H4 b (.tup [.int (its.map fun i => yOf kvs5 i.key).sum, .int 1])) = H5 at e5 J5
        have hv25 : IsFr K G5 v2 (vari (estRows (yOf kvs5) F)) := hv2.of s35
        -- singles
        obtain ⟨l, ws, elv, hl, hp⟩ := J5.ls
        have hwl : ws.length = its.length := hp.length
        have am5 : ∀ {G6 H6 : Hp}, Ext T G5 H5 G6 H6 → H6 d = some (.dK kvs5) := fun e => e.hh _ _ J5.hd (by intro ps z; cases z)
        refine ⟨lv, rfl, l, elv, ⟨_, J5.e.gh.seq hl⟩, lc_pure (T := T) (G := G5) (vs := ws) (xs := its) (R := fun G v x => IsFr K G v x) (f := fun it => vari (addeds wt (yv (yOf kvs5)) F it)) J5.e.gh hl hp (by omega) (fun _ _ _ _ e q => q.of e)
          (fun i x it G6 H6 Qe hy hxy e k' => ?_) fun D G6 H6 e6 nD hD => ?_⟩
        · have hm := List.mem_of_getElem? hy
          have hit := hI.ok it hm
          refine ⟨rfl, fv, rfl, x, rfl, .ref d, rfl, d, rfl, .inl ⟨kvs5, .inl (am5 e)⟩, it0 (i := 4) rfl (hxy.of (e.gg.trans e.gh)) ⟨valV kvs5 (Sum.inr it.key), DGet.k (k := Sum.inr it.key) (am5 e), ?_⟩⟩
          rw [yo it.key]
          exact ⟨G6, fv, x, F, it, yOf kvs5, rfl, e.gh, J5.fs.of e.gg, hxy.of e.gg, hit.2, hit.1, yk, X.outs, fun z G7 H7 e7 h7 => k' z G7 H7 e7 h7⟩
        have J6 := J5.ext e6
        refine ⟨G6, .ref D, its.map fun it => vari (addeds wt (yv (yOf kvs5)) F it), rfl, J6.e.gh, IsLs.lift J6.e.gh hD, fun x hx => ?_, X.sP, fun sv G7 H7 e7 hsv => ?_⟩
        · obtain ⟨it, hit, e⟩ := List.mem_map.mp hx
          rw [← e]
          exact X.sS it hit
        have J7 := J6.ext e7
        -- told != singles
        have etl : sm F (fun r => told wt (yv (yOf kvs5)) r.2 * r.1) = sm (its.map fun it => vari (addeds wt (yv (yOf kvs5)) F it)) id := (X.told_eq hI).trans (X.singles hI).symm
        refine ⟨tv, rfl, sv, rfl, frD _, frD _, (J7.tv.of J7.e.gh).dp, (hsv.of J7.e.gh).dp, frD_shaped _, frD_shaped _, _, rfl, ?_⟩
        have hz2 : (!PyData.eqv (frD (sm F fun r => told wt (yv (yOf kvs5)) r.2 * r.1)) (frD (sm (its.map fun it => vari (addeds wt (yv (yOf kvs5)) F it)) id))) = false := by
          rw [frD_eqv, etl]
          simp
        rw [hz2]
        refine iteF ?_
        -- known
        obtain ⟨l7, ws7, elv7, hl7, hp7⟩ := J7.ls
        refine ⟨lv, rfl, l7, ws7, (by rw [elv7]), .inl (J7.e.gh.seq hl7), fun q nq => ?_⟩
        have e8 := Ext.new (T := T) (o := .lst ws7) J7.e.gh nq (by intro ps z; cases z)
        have J8 := J7.ext e8
        refine ⟨_, rfl, .ref d, rfl, d, kvs5, rfl, .inl J8.hd, fun d2 nd2 => ?_⟩
        have e9 := Ext.newM (T := T) (o := .dK kvs5) J8.e.gh nd2
        refine ⟨upd G7 q (.lst ws7), .ref q, .ref d2, its, k, yOf kvs5, (by show [V.ref q, V.int (k : Int), V.ref d2] = _; rfl), e9.gh, ⟨q, ws7, rfl, SqL.of upd_same, Paired.imp (fun v x z => z.of e8.gg) hp7⟩, ⟨d2, kvs5, rfl, upd_same, yo⟩, hI.its, yk, by omega, hk3, fun kv G10 H10 e10 ⟨t', hT', hkv⟩ => ?_⟩
        have J10 := (J8.ext e9).ext e10
        have s710 : Same G7 G10 := e8.gg.trans e10.gg
        refine ⟨sv, rfl, frD _, frD _, (hkv.of J10.e.gh).dp, (hsv.of (s710.trans J10.e.gh)).dp, frD_shaped _, frD_shaped _, _, rfl, ?_⟩
        have hz3 : (!PyData.eqv (frD (sm its (kn (yOf kvs5) t'))) (frD (sm (its.map fun it => vari (addeds wt (yv (yOf kvs5)) F it)) id))) = false := by
          rw [frD_eqv, X.known hI hT', X.singles hI]
          simp
        rw [hz3]
        refine iteF ?_
        -- the end
        obtain ⟨l9, ws9, elv9, hl9, hp9⟩ := J10.ls
        have hwl9 : ws9.length = its.length := hp9.length
        have am10 : ∀ {G6 H6 : Hp}, Ext T G10 H10 G6 H6 → H6 d = some (.dK kvs5) := fun e => e.hh _ _ J10.hd (by intro ps z; cases z)
        refine ⟨lv, rfl, l9, elv9, ⟨_, J10.e.gh.seq hl9⟩, lc_pure (T := T) (G := G10) (vs := ws9) (xs := its) (R := fun G v (n : Int) => v = .int n) (f := fun it => yOf kvs5 it.key) J10.e.gh hl9 hp9 (by omega) (fun _ _ _ _ e q => q)
          (fun i x it G6 H6 Qe hy hxy e k' => ?_) fun D2 G11 H11 e11 nD2 hD2 => ?_⟩
        · refine ⟨rfl, .ref d, rfl, d, rfl, .inl ⟨kvs5, .inl (am10 e)⟩, it0 (i := 4) rfl (hxy.of (e.gg.trans e.gh)) ⟨valV kvs5 (Sum.inr it.key), DGet.k (k := Sum.inr it.key) (am10 e), ?_⟩⟩
          rw [yo it.key]
          exact k' _ G6 H6 (Ext.refl e.gh) rfl
        have J11 := J10.ext e11
        obtain ⟨dd, ds, hdd, hl', hp'⟩ := hD2
        cases hdd
        rw [ints_of hp'] at hl'
        refine ⟨D2, _, rfl, J11.e.gh.seq hl', by rw [List.length_map]; exact hne, fun m hm hle => ⟨_, _, rfl, rfl, _, rfl, ?_⟩⟩
        refine ite2 (fun c => kk _) (fun c => ?_)
        have hm0 : ¬ m < 0 := fun z => c (decide_eq_true z)
        refine ⟨tv, rfl, v2, rfl, G11, tv, v2, _, _, rfl, J11.e.gh, J11.tv, hv25.of (((e6.gg.trans e7.gg).trans s710).trans e11.gg), stl, svr, _, rfl, ?_⟩
        have hy0 : ∀ i ∈ its, 0 ≤ yOf kvs5 i.key := fun i hi => by
          have := hle _ (List.mem_map.mpr ⟨i, hi, rfl⟩)
          omega
        have hv := X.vari_le hI hy0
        rw [← X.told_eq hI] at hv
        have hz4 : (!decide (sm F (fun r => told wt (yv (yOf kvs5)) r.2 * r.1) < vari (estRows (yOf kvs5) F))) = true := by
          rw [decide_eq_false (by grind)]
          rfl
        rw [hz4]
        exact kk _
end K36

set_option Elab.async false
set_option autoImplicit false
set_option linter.all false
set_option maxRecDepth 100000
set_option maxHeartbeats 16000000
/-! What the top has written, put together. -/
namespace K36
open PySem PySem.Spec PyProof.Rows L2
theorem def_mk {K : PySem.W.Frag} {h : Heap} {mg : Str → Option Value} (X : K.In h) (G : h.Ns mainGlobals mg) {x : Str} {st : Stmt} {ps : List Str} {f : Addr} {oc : Value} {od an : Option Addr} {osl : Array (Option Value)} {kV doc pm cdv ct : Value} (a : PySem.W.nsIn K mainGlobals x = some (some (.ref f)))
    (l : K.lookup f = some ⟨oc, od, .func (PySem.W.fnOf x x (defArgs st) (defBody st) (defScope st) .none kV doc pm an cdv ct), osl⟩) (c : PySem.W.codeIn K cdv x = true) (k : PySem.W.keepIn K (.ref f) = true)
    (b : ∀ (kV doc pm : Value) (an : Option Addr) (cdv ct : Value) (us : List Value), us.length = ps.length → bindArgs (PySem.W.fnOf x x (defArgs st) (defBody st) (defScope st) .none kV doc pm an cdv ct) ⟨us, []⟩ = pure (ps.zip us)) : Def K mg x st ps :=
  ⟨⟨f, _, PySem.W.mg_of X G a, fun_mk l c k, (fun_mk l c k).binds b⟩⟩
theorem zero_mk {K : PySem.W.Frag} {h : Heap} {mg : Str → Option Value} (X : K.In h) (G : h.Ns mainGlobals mg) {x : Str} {z : Addr} {d : Option Addr} {n : Nat} {sl : Array (Option Value)} {t u : Tok} (a : PySem.W.nsIn K mainGlobals x = some (some (.ref z)))
    (l : K.lookup z = some ⟨.type "tuple", d, .seq #[.int 0 t, .int 1 u] n, sl⟩) : Zero K mg x :=
  ⟨z, PySem.W.mg_of X G a, fun H => .inr ⟨_, _, _, l, rfl, rfl, (by show 2 ≤ sizeLine; decide), .cons ⟨t, rfl⟩ (.cons ⟨u, rfl⟩ .nil)⟩⟩
theorem all_mk {l : PySem.W.OpenLaw} {w : World} {K : PySem.W.Frag} {h : Heap} {mg : Str → Option Value} {fa c Pt : Addr} (X : K.In h) (G : h.Ns mainGlobals mg) (hfa : mg "law" = some (.ref fa))
    {f7 : Addr} {od7 an7 : Option Addr} {sl7 : Array (Option Value)} {oc7 kV7 dc7 pm7 ct7 : Value}
    {cd7 : Value}
    {f8 : Addr} {od8 an8 : Option Addr} {sl8 : Array (Option Value)} {oc8 kV8 dc8 pm8 ct8 : Value}
    {cd8 : Value}
    {f9 : Addr} {od9 an9 : Option Addr} {sl9 : Array (Option Value)} {oc9 kV9 dc9 pm9 ct9 : Value}
    {cd9 : Value}
    {f10 : Addr} {od10 an10 : Option Addr} {sl10 : Array (Option Value)} {oc10 kV10 dc10 pm10 ct10 : Value}
    {cd10 : Value}
    {f11 : Addr} {od11 an11 : Option Addr} {sl11 : Array (Option Value)} {oc11 kV11 dc11 pm11 ct11 : Value}
    {cd11 : Value}
    {f12 : Addr} {od12 an12 : Option Addr} {sl12 : Array (Option Value)} {oc12 kV12 dc12 pm12 ct12 : Value}
    {cd12 : Value}
    {f13 : Addr} {od13 an13 : Option Addr} {sl13 : Array (Option Value)} {oc13 kV13 dc13 pm13 ct13 : Value}
    {cd13 : Value}
    {f18 : Addr} {od18 an18 : Option Addr} {sl18 : Array (Option Value)} {oc18 kV18 dc18 pm18 ct18 : Value}
    {cd18 : Value}
    {f19 : Addr} {od19 an19 : Option Addr} {sl19 : Array (Option Value)} {oc19 kV19 dc19 pm19 ct19 : Value}
    {cd19 : Value}
    {f23 : Addr} {od23 an23 : Option Addr} {sl23 : Array (Option Value)} {oc23 kV23 dc23 pm23 ct23 : Value}
    {cd23 : Value}
    {f24 : Addr} {od24 an24 : Option Addr} {sl24 : Array (Option Value)} {oc24 kV24 dc24 pm24 ct24 : Value}
    {cd24 : Value}
    {f25 : Addr} {od25 an25 : Option Addr} {sl25 : Array (Option Value)} {oc25 kV25 dc25 pm25 ct25 : Value}
    {cd25 : Value}
    {f26 : Addr} {od26 an26 : Option Addr} {sl26 : Array (Option Value)} {oc26 kV26 dc26 pm26 ct26 : Value}
    {cd26 : Value}
    {f32 : Addr} {od32 an32 : Option Addr} {sl32 : Array (Option Value)} {oc32 kV32 dc32 pm32 ct32 : Value}
    {cd32 : Value}
    {f33 : Addr} {od33 an33 : Option Addr} {sl33 : Array (Option Value)} {oc33 kV33 dc33 pm33 ct33 : Value}
    {cd33 : Value}
    {f34 : Addr} {od34 an34 : Option Addr} {sl34 : Array (Option Value)} {oc34 kV34 dc34 pm34 ct34 : Value}
    {cd34 : Value}
    {f36 : Addr} {od36 an36 : Option Addr} {sl36 : Array (Option Value)} {oc36 kV36 dc36 pm36 ct36 : Value}
    {cd36 : Value}
    {f37 : Addr} {od37 an37 : Option Addr} {sl37 : Array (Option Value)} {oc37 kV37 dc37 pm37 ct37 : Value}
    {cd37 : Value}
    {f38 : Addr} {od38 an38 : Option Addr} {sl38 : Array (Option Value)} {oc38 kV38 dc38 pm38 ct38 : Value}
    {cd38 : Value}
    {f39 : Addr} {od39 an39 : Option Addr} {sl39 : Array (Option Value)} {oc39 kV39 dc39 pm39 ct39 : Value}
    {cd39 : Value}
    {f40 : Addr} {od40 an40 : Option Addr} {sl40 : Array (Option Value)} {oc40 kV40 dc40 pm40 ct40 : Value}
    {cd40 : Value}
    {f41 : Addr} {od41 an41 : Option Addr} {sl41 : Array (Option Value)} {oc41 kV41 dc41 pm41 ct41 : Value}
    {cd41 : Value}
    {f42 : Addr} {od42 an42 : Option Addr} {sl42 : Array (Option Value)} {oc42 kV42 dc42 pm42 ct42 : Value}
    {cd42 : Value}
    {f43 : Addr} {od43 an43 : Option Addr} {sl43 : Array (Option Value)} {oc43 kV43 dc43 pm43 ct43 : Value}
    {cd43 : Value}
    {f44 : Addr} {od44 an44 : Option Addr} {sl44 : Array (Option Value)} {oc44 kV44 dc44 pm44 ct44 : Value}
    {cd44 : Value}
    {f45 : Addr} {od45 an45 : Option Addr} {sl45 : Array (Option Value)} {oc45 kV45 dc45 pm45 ct45 : Value}
    {cd45 : Value}
    {f46 : Addr} {od46 an46 : Option Addr} {sl46 : Array (Option Value)} {oc46 kV46 dc46 pm46 ct46 : Value}
    {cd46 : Value}
    {f47 : Addr} {od47 an47 : Option Addr} {sl47 : Array (Option Value)} {oc47 kV47 dc47 pm47 ct47 : Value}
    {cd47 : Value}
    {f48 : Addr} {od48 an48 : Option Addr} {sl48 : Array (Option Value)} {oc48 kV48 dc48 pm48 ct48 : Value}
    {cd48 : Value}
    {f49 : Addr} {od49 an49 : Option Addr} {sl49 : Array (Option Value)} {oc49 kV49 dc49 pm49 ct49 : Value}
    {cd49 : Value}
    {f50 : Addr} {od50 an50 : Option Addr} {sl50 : Array (Option Value)} {oc50 kV50 dc50 pm50 ct50 : Value}
    {f51 : Addr} {od51 an51 : Option Addr} {sl51 : Array (Option Value)} {oc51 kV51 dc51 pm51 ct51 : Value}
    {cd51 : Value}
    {f52 : Addr} {od52 an52 : Option Addr} {sl52 : Array (Option Value)} {oc52 kV52 dc52 pm52 ct52 : Value}
    {cd52 : Value}
    {f53 : Addr} {od53 an53 : Option Addr} {sl53 : Array (Option Value)} {oc53 kV53 dc53 pm53 ct53 : Value}
    {cd53 : Value}
    {f54 : Addr} {od54 an54 : Option Addr} {sl54 : Array (Option Value)} {oc54 kV54 dc54 pm54 ct54 : Value}
    {cd54 : Value}
    {f55 : Addr} {od55 an55 : Option Addr} {sl55 : Array (Option Value)} {oc55 kV55 dc55 pm55 ct55 : Value}
    {cd55 : Value}
    {z0 : Addr} {zd0 : Option Addr} {zn0 : Nat} {zs0 : Array (Option Value)} {zt0 zu0 : Tok}
    {z1 : Addr} {zd1 : Option Addr} {zn1 : Nat} {zs1 : Array (Option Value)} {zt1 zu1 : Tok}
    {z2 : Addr} {zd2 : Option Addr} {zn2 : Nat} {zs2 : Array (Option Value)} {zt2 zu2 : Tok}
    {fi C CU : Addr} {odi ani : Option Addr} {sli : Array (Option Value)} {oci kVi dci pmi cdi cti : Value}
    (a7 : PySem.W.nsIn K mainGlobals "lowest" = some (some (.ref f7)))
    (l7 : K.lookup f7 = some ⟨oc7, od7, .func (PySem.W.fnOf "lowest" "lowest" (defArgs (topS 7)) (defBody (topS 7)) (defScope (topS 7)) .none kV7 dc7 pm7 an7 cd7 ct7), sl7⟩)
    (c7 : PySem.W.codeIn K cd7 "lowest" = true)
    (k7 : PySem.W.keepIn K (.ref f7) = true)
    (a8 : PySem.W.nsIn K mainGlobals "plus" = some (some (.ref f8)))
    (l8 : K.lookup f8 = some ⟨oc8, od8, .func (PySem.W.fnOf "plus" "plus" (defArgs (topS 8)) (defBody (topS 8)) (defScope (topS 8)) .none kV8 dc8 pm8 an8 cd8 ct8), sl8⟩)
    (c8 : PySem.W.codeIn K cd8 "plus" = true)
    (k8 : PySem.W.keepIn K (.ref f8) = true)
    (a9 : PySem.W.nsIn K mainGlobals "minus" = some (some (.ref f9)))
    (l9 : K.lookup f9 = some ⟨oc9, od9, .func (PySem.W.fnOf "minus" "minus" (defArgs (topS 9)) (defBody (topS 9)) (defScope (topS 9)) .none kV9 dc9 pm9 an9 cd9 ct9), sl9⟩)
    (c9 : PySem.W.codeIn K cd9 "minus" = true)
    (k9 : PySem.W.keepIn K (.ref f9) = true)
    (a10 : PySem.W.nsIn K mainGlobals "times" = some (some (.ref f10)))
    (l10 : K.lookup f10 = some ⟨oc10, od10, .func (PySem.W.fnOf "times" "times" (defArgs (topS 10)) (defBody (topS 10)) (defScope (topS 10)) .none kV10 dc10 pm10 an10 cd10 ct10), sl10⟩)
    (c10 : PySem.W.codeIn K cd10 "times" = true)
    (k10 : PySem.W.keepIn K (.ref f10) = true)
    (a11 : PySem.W.nsIn K mainGlobals "over" = some (some (.ref f11)))
    (l11 : K.lookup f11 = some ⟨oc11, od11, .func (PySem.W.fnOf "over" "over" (defArgs (topS 11)) (defBody (topS 11)) (defScope (topS 11)) .none kV11 dc11 pm11 an11 cd11 ct11), sl11⟩)
    (c11 : PySem.W.codeIn K cd11 "over" = true)
    (k11 : PySem.W.keepIn K (.ref f11) = true)
    (a12 : PySem.W.nsIn K mainGlobals "less" = some (some (.ref f12)))
    (l12 : K.lookup f12 = some ⟨oc12, od12, .func (PySem.W.fnOf "less" "less" (defArgs (topS 12)) (defBody (topS 12)) (defScope (topS 12)) .none kV12 dc12 pm12 an12 cd12 ct12), sl12⟩)
    (c12 : PySem.W.codeIn K cd12 "less" = true)
    (k12 : PySem.W.keepIn K (.ref f12) = true)
    (a13 : PySem.W.nsIn K mainGlobals "sum_of" = some (some (.ref f13)))
    (l13 : K.lookup f13 = some ⟨oc13, od13, .func (PySem.W.fnOf "sum_of" "sum_of" (defArgs (topS 13)) (defBody (topS 13)) (defScope (topS 13)) .none kV13 dc13 pm13 an13 cd13 ct13), sl13⟩)
    (c13 : PySem.W.codeIn K cd13 "sum_of" = true)
    (k13 : PySem.W.keepIn K (.ref f13) = true)
    (a18 : PySem.W.nsIn K mainGlobals "greater" = some (some (.ref f18)))
    (l18 : K.lookup f18 = some ⟨oc18, od18, .func (PySem.W.fnOf "greater" "greater" (defArgs (topS 18)) (defBody (topS 18)) (defScope (topS 18)) .none kV18 dc18 pm18 an18 cd18 ct18), sl18⟩)
    (c18 : PySem.W.codeIn K cd18 "greater" = true)
    (k18 : PySem.W.keepIn K (.ref f18) = true)
    (a19 : PySem.W.nsIn K mainGlobals "threshold" = some (some (.ref f19)))
    (l19 : K.lookup f19 = some ⟨oc19, od19, .func (PySem.W.fnOf "threshold" "threshold" (defArgs (topS 19)) (defBody (topS 19)) (defScope (topS 19)) .none kV19 dc19 pm19 an19 cd19 ct19), sl19⟩)
    (c19 : PySem.W.codeIn K cd19 "threshold" = true)
    (k19 : PySem.W.keepIn K (.ref f19) = true)
    (a23 : PySem.W.nsIn K mainGlobals "whole_number" = some (some (.ref f23)))
    (l23 : K.lookup f23 = some ⟨oc23, od23, .func (PySem.W.fnOf "whole_number" "whole_number" (defArgs (topS 23)) (defBody (topS 23)) (defScope (topS 23)) .none kV23 dc23 pm23 an23 cd23 ct23), sl23⟩)
    (c23 : PySem.W.codeIn K cd23 "whole_number" = true)
    (k23 : PySem.W.keepIn K (.ref f23) = true)
    (a24 : PySem.W.nsIn K mainGlobals "amount_of" = some (some (.ref f24)))
    (l24 : K.lookup f24 = some ⟨oc24, od24, .func (PySem.W.fnOf "amount_of" "amount_of" (defArgs (topS 24)) (defBody (topS 24)) (defScope (topS 24)) .none kV24 dc24 pm24 an24 cd24 ct24), sl24⟩)
    (c24 : PySem.W.codeIn K cd24 "amount_of" = true)
    (k24 : PySem.W.keepIn K (.ref f24) = true)
    (a25 : PySem.W.nsIn K mainGlobals "true_sum" = some (some (.ref f25)))
    (l25 : K.lookup f25 = some ⟨oc25, od25, .func (PySem.W.fnOf "true_sum" "true_sum" (defArgs (topS 25)) (defBody (topS 25)) (defScope (topS 25)) .none kV25 dc25 pm25 an25 cd25 ct25), sl25⟩)
    (c25 : PySem.W.codeIn K cd25 "true_sum" = true)
    (k25 : PySem.W.keepIn K (.ref f25) = true)
    (a26 : PySem.W.nsIn K mainGlobals "is_whole" = some (some (.ref f26)))
    (l26 : K.lookup f26 = some ⟨oc26, od26, .func (PySem.W.fnOf "is_whole" "is_whole" (defArgs (topS 26)) (defBody (topS 26)) (defScope (topS 26)) .none kV26 dc26 pm26 an26 cd26 ct26), sl26⟩)
    (c26 : PySem.W.codeIn K cd26 "is_whole" = true)
    (k26 : PySem.W.keepIn K (.ref f26) = true)
    (a32 : PySem.W.nsIn K mainGlobals "estimate_optimal" = some (some (.ref f32)))
    (l32 : K.lookup f32 = some ⟨oc32, od32, .func (PySem.W.fnOf "estimate_optimal" "estimate_optimal" (defArgs (topS 32)) (defBody (topS 32)) (defScope (topS 32)) .none kV32 dc32 pm32 an32 cd32 ct32), sl32⟩)
    (c32 : PySem.W.codeIn K cd32 "estimate_optimal" = true)
    (k32 : PySem.W.keepIn K (.ref f32) = true)
    (a33 : PySem.W.nsIn K mainGlobals "estimate" = some (some (.ref f33)))
    (l33 : K.lookup f33 = some ⟨oc33, od33, .func (PySem.W.fnOf "estimate" "estimate" (defArgs (topS 33)) (defBody (topS 33)) (defScope (topS 33)) .none kV33 dc33 pm33 an33 cd33 ct33), sl33⟩)
    (c33 : PySem.W.codeIn K cd33 "estimate" = true)
    (k33 : PySem.W.keepIn K (.ref f33) = true)
    (a34 : PySem.W.nsIn K mainGlobals "known_optimal" = some (some (.ref f34)))
    (l34 : K.lookup f34 = some ⟨oc34, od34, .func (PySem.W.fnOf "known_optimal" "known_optimal" (defArgs (topS 34)) (defBody (topS 34)) (defScope (topS 34)) .none kV34 dc34 pm34 an34 cd34 ct34), sl34⟩)
    (c34 : PySem.W.codeIn K cd34 "known_optimal" = true)
    (k34 : PySem.W.keepIn K (.ref f34) = true)
    (a36 : PySem.W.nsIn K mainGlobals "_law_mix" = some (some (.ref f36)))
    (l36 : K.lookup f36 = some ⟨oc36, od36, .func (PySem.W.fnOf "_law_mix" "_law_mix" (defArgs (topS 36)) (defBody (topS 36)) (defScope (topS 36)) .none kV36 dc36 pm36 an36 cd36 ct36), sl36⟩)
    (c36 : PySem.W.codeIn K cd36 "_law_mix" = true)
    (k36 : PySem.W.keepIn K (.ref f36) = true)
    (a37 : PySem.W.nsIn K mainGlobals "_law_numbers" = some (some (.ref f37)))
    (l37 : K.lookup f37 = some ⟨oc37, od37, .func (PySem.W.fnOf "_law_numbers" "_law_numbers" (defArgs (topS 37)) (defBody (topS 37)) (defScope (topS 37)) .none kV37 dc37 pm37 an37 cd37 ct37), sl37⟩)
    (c37 : PySem.W.codeIn K cd37 "_law_numbers" = true)
    (k37 : PySem.W.keepIn K (.ref f37) = true)
    (a38 : PySem.W.nsIn K mainGlobals "_law_take" = some (some (.ref f38)))
    (l38 : K.lookup f38 = some ⟨oc38, od38, .func (PySem.W.fnOf "_law_take" "_law_take" (defArgs (topS 38)) (defBody (topS 38)) (defScope (topS 38)) .none kV38 dc38 pm38 an38 cd38 ct38), sl38⟩)
    (c38 : PySem.W.codeIn K cd38 "_law_take" = true)
    (k38 : PySem.W.keepIn K (.ref f38) = true)
    (a39 : PySem.W.nsIn K mainGlobals "_law_low" = some (some (.ref f39)))
    (l39 : K.lookup f39 = some ⟨oc39, od39, .func (PySem.W.fnOf "_law_low" "_law_low" (defArgs (topS 39)) (defBody (topS 39)) (defScope (topS 39)) .none kV39 dc39 pm39 an39 cd39 ct39), sl39⟩)
    (c39 : PySem.W.codeIn K cd39 "_law_low" = true)
    (k39 : PySem.W.keepIn K (.ref f39) = true)
    (a40 : PySem.W.nsIn K mainGlobals "_law_plus" = some (some (.ref f40)))
    (l40 : K.lookup f40 = some ⟨oc40, od40, .func (PySem.W.fnOf "_law_plus" "_law_plus" (defArgs (topS 40)) (defBody (topS 40)) (defScope (topS 40)) .none kV40 dc40 pm40 an40 cd40 ct40), sl40⟩)
    (c40 : PySem.W.codeIn K cd40 "_law_plus" = true)
    (k40 : PySem.W.keepIn K (.ref f40) = true)
    (a41 : PySem.W.nsIn K mainGlobals "_law_minus" = some (some (.ref f41)))
    (l41 : K.lookup f41 = some ⟨oc41, od41, .func (PySem.W.fnOf "_law_minus" "_law_minus" (defArgs (topS 41)) (defBody (topS 41)) (defScope (topS 41)) .none kV41 dc41 pm41 an41 cd41 ct41), sl41⟩)
    (c41 : PySem.W.codeIn K cd41 "_law_minus" = true)
    (k41 : PySem.W.keepIn K (.ref f41) = true)
    (a42 : PySem.W.nsIn K mainGlobals "_law_times" = some (some (.ref f42)))
    (l42 : K.lookup f42 = some ⟨oc42, od42, .func (PySem.W.fnOf "_law_times" "_law_times" (defArgs (topS 42)) (defBody (topS 42)) (defScope (topS 42)) .none kV42 dc42 pm42 an42 cd42 ct42), sl42⟩)
    (c42 : PySem.W.codeIn K cd42 "_law_times" = true)
    (k42 : PySem.W.keepIn K (.ref f42) = true)
    (a43 : PySem.W.nsIn K mainGlobals "_law_less" = some (some (.ref f43)))
    (l43 : K.lookup f43 = some ⟨oc43, od43, .func (PySem.W.fnOf "_law_less" "_law_less" (defArgs (topS 43)) (defBody (topS 43)) (defScope (topS 43)) .none kV43 dc43 pm43 an43 cd43 ct43), sl43⟩)
    (c43 : PySem.W.codeIn K cd43 "_law_less" = true)
    (k43 : PySem.W.keepIn K (.ref f43) = true)
    (a44 : PySem.W.nsIn K mainGlobals "_law_sum" = some (some (.ref f44)))
    (l44 : K.lookup f44 = some ⟨oc44, od44, .func (PySem.W.fnOf "_law_sum" "_law_sum" (defArgs (topS 44)) (defBody (topS 44)) (defScope (topS 44)) .none kV44 dc44 pm44 an44 cd44 ct44), sl44⟩)
    (c44 : PySem.W.codeIn K cd44 "_law_sum" = true)
    (k44 : PySem.W.keepIn K (.ref f44) = true)
    (a45 : PySem.W.nsIn K mainGlobals "_law_items" = some (some (.ref f45)))
    (l45 : K.lookup f45 = some ⟨oc45, od45, .func (PySem.W.fnOf "_law_items" "_law_items" (defArgs (topS 45)) (defBody (topS 45)) (defScope (topS 45)) .none kV45 dc45 pm45 an45 cd45 ct45), sl45⟩)
    (c45 : PySem.W.codeIn K cd45 "_law_items" = true)
    (k45 : PySem.W.keepIn K (.ref f45) = true)
    (a46 : PySem.W.nsIn K mainGlobals "_law_amounts" = some (some (.ref f46)))
    (l46 : K.lookup f46 = some ⟨oc46, od46, .func (PySem.W.fnOf "_law_amounts" "_law_amounts" (defArgs (topS 46)) (defBody (topS 46)) (defScope (topS 46)) .none kV46 dc46 pm46 an46 cd46 ct46), sl46⟩)
    (c46 : PySem.W.codeIn K cd46 "_law_amounts" = true)
    (k46 : PySem.W.keepIn K (.ref f46) = true)
    (a47 : PySem.W.nsIn K mainGlobals "_law_true" = some (some (.ref f47)))
    (l47 : K.lookup f47 = some ⟨oc47, od47, .func (PySem.W.fnOf "_law_true" "_law_true" (defArgs (topS 47)) (defBody (topS 47)) (defScope (topS 47)) .none kV47 dc47 pm47 an47 cd47 ct47), sl47⟩)
    (c47 : PySem.W.codeIn K cd47 "_law_true" = true)
    (k47 : PySem.W.keepIn K (.ref f47) = true)
    (a48 : PySem.W.nsIn K mainGlobals "_law_moments" = some (some (.ref f48)))
    (l48 : K.lookup f48 = some ⟨oc48, od48, .func (PySem.W.fnOf "_law_moments" "_law_moments" (defArgs (topS 48)) (defBody (topS 48)) (defScope (topS 48)) .none kV48 dc48 pm48 an48 cd48 ct48), sl48⟩)
    (c48 : PySem.W.codeIn K cd48 "_law_moments" = true)
    (k48 : PySem.W.keepIn K (.ref f48) = true)
    (a49 : PySem.W.nsIn K mainGlobals "_law_lesser" = some (some (.ref f49)))
    (l49 : K.lookup f49 = some ⟨oc49, od49, .func (PySem.W.fnOf "_law_lesser" "_law_lesser" (defArgs (topS 49)) (defBody (topS 49)) (defScope (topS 49)) .none kV49 dc49 pm49 an49 cd49 ct49), sl49⟩)
    (c49 : PySem.W.codeIn K cd49 "_law_lesser" = true)
    (k49 : PySem.W.keepIn K (.ref f49) = true)
    (a50 : PySem.W.nsIn K mainGlobals "_law_threshold" = some (some (.ref f50)))
    (l50 : K.lookup f50 = some ⟨oc50, od50, .func (PySem.W.fnOf "_law_threshold" "_law_threshold" (defArgs (topS 50)) (defBody (topS 50)) (defScope (topS 50)) .none kV50 dc50 pm50 an50 (.ref c) ct50), sl50⟩)
    (c50 : PySem.W.codeIn K (.ref c) "_law_threshold" = true)
    (k50 : PySem.W.keepIn K (.ref f50) = true)
    (a51 : PySem.W.nsIn K mainGlobals "_law_raised" = some (some (.ref f51)))
    (l51 : K.lookup f51 = some ⟨oc51, od51, .func (PySem.W.fnOf "_law_raised" "_law_raised" (defArgs (topS 51)) (defBody (topS 51)) (defScope (topS 51)) .none kV51 dc51 pm51 an51 cd51 ct51), sl51⟩)
    (c51 : PySem.W.codeIn K cd51 "_law_raised" = true)
    (k51 : PySem.W.keepIn K (.ref f51) = true)
    (a52 : PySem.W.nsIn K mainGlobals "_law_dropped" = some (some (.ref f52)))
    (l52 : K.lookup f52 = some ⟨oc52, od52, .func (PySem.W.fnOf "_law_dropped" "_law_dropped" (defArgs (topS 52)) (defBody (topS 52)) (defScope (topS 52)) .none kV52 dc52 pm52 an52 cd52 ct52), sl52⟩)
    (c52 : PySem.W.codeIn K cd52 "_law_dropped" = true)
    (k52 : PySem.W.keepIn K (.ref f52) = true)
    (a53 : PySem.W.nsIn K mainGlobals "_law_chain" = some (some (.ref f53)))
    (l53 : K.lookup f53 = some ⟨oc53, od53, .func (PySem.W.fnOf "_law_chain" "_law_chain" (defArgs (topS 53)) (defBody (topS 53)) (defScope (topS 53)) .none kV53 dc53 pm53 an53 cd53 ct53), sl53⟩)
    (c53 : PySem.W.codeIn K cd53 "_law_chain" = true)
    (k53 : PySem.W.keepIn K (.ref f53) = true)
    (a54 : PySem.W.nsIn K mainGlobals "_law_single" = some (some (.ref f54)))
    (l54 : K.lookup f54 = some ⟨oc54, od54, .func (PySem.W.fnOf "_law_single" "_law_single" (defArgs (topS 54)) (defBody (topS 54)) (defScope (topS 54)) .none kV54 dc54 pm54 an54 cd54 ct54), sl54⟩)
    (c54 : PySem.W.codeIn K cd54 "_law_single" = true)
    (k54 : PySem.W.keepIn K (.ref f54) = true)
    (a55 : PySem.W.nsIn K mainGlobals "law" = some (some (.ref f55)))
    (l55 : K.lookup f55 = some ⟨oc55, od55, .func (PySem.W.fnOf "law" "law" (defArgs (topS 55)) (defBody (topS 55)) (defScope (topS 55)) .none kV55 dc55 pm55 an55 cd55 ct55), sl55⟩)
    (c55 : PySem.W.codeIn K cd55 "law" = true)
    (k55 : PySem.W.keepIn K (.ref f55) = true)
    (y0 : PySem.W.nsIn K mainGlobals "NOTHING_ratios" = some (some (.ref z0)))
    (x0 : K.lookup z0 = some ⟨.type "tuple", zd0, .seq #[.int 0 zt0, .int 1 zu0] zn0, zs0⟩)
    (y1 : PySem.W.nsIn K mainGlobals "NOTHING_optimal" = some (some (.ref z1)))
    (x1 : K.lookup z1 = some ⟨.type "tuple", zd1, .seq #[.int 0 zt1, .int 1 zu1] zn1, zs1⟩)
    (y2 : PySem.W.nsIn K mainGlobals "NOTHING_estimates" = some (some (.ref z2)))
    (x2 : K.lookup z2 = some ⟨.type "tuple", zd2, .seq #[.int 0 zt2, .int 1 zu2] zn2, zs2⟩)
    (aC : PySem.W.nsIn K mainGlobals "Optimal" = some (some (.ref C)))
    (aU : PySem.W.nsIn K mainGlobals "Uniform" = some (some (.ref CU)))
    (ai : PySem.W.findIn K (.ref C) "__init__" = some (some (.ref fi)))
    (ii : PySem.W.isFn K (.ref fi) = true)
    (li : K.lookup fi = some ⟨oci, odi, .func (PySem.W.fnOf "__init__" "Optimal.__init__" (defArgs sInit) (defBody sInit) (defScope sInit) .none kVi dci pmi ani cdi cti), sli⟩)
    (ci : PySem.W.codeIn K cdi "Optimal.__init__" = true)
    (ki : PySem.W.keepIn K (.ref fi) = true)
    (pg : PySem.W.plainGet K C Str.empty = true)
    (hd : PySem.W.hasDictIn K C = true)
    (po : PySem.W.plainOver K C = true)
    (sa : PySem.W.findIn K (.ref C) "__setattr__" = some (some (.builtin "object.__setattr__")))
    (mkC : PySem.W.makesIn K C = true)
    (kC : PySem.W.keepIn K (.ref C) = true)
    (nS : PySem.W.findIn K (.ref C) "size" = some none)
    (nP : PySem.W.findIn K (.ref C) "parts" = some none)
    (nK : PySem.W.findIn K (.ref C) "kept" = some none)
    (ha : PySem.W.findIn K (.ref C) "__class__" = some (some (.builtin "object.__class__")))
    (hn : PySem.W.specialIn K (.builtin "object.__class__") "__get__" = some (some (.builtin "getset_descriptor.__get__")))
    (htk : PySem.W.takesIn K (.builtin "object.__class__") = some true)
    (hm : PySem.W.mroIn K C (.type "object") = some true)
    (qU : PySem.W.kitOne K (.ref C) (.ref CU) = some false)
    (qC : PySem.W.kitOne K (.ref C) (.ref C) = some true)
    (gc : PySem.W.nsIn K mainGlobals "gcd" = some (some (.builtin "math.gcd")))
    (n_len : PySem.W.nsIn K mainGlobals "len" = some none)
    (n_list : PySem.W.nsIn K mainGlobals "list" = some none)
    (n_sum : PySem.W.nsIn K mainGlobals "sum" = some none)
    (n_isinstance : PySem.W.nsIn K mainGlobals "isinstance" = some none)
    (n_range : PySem.W.nsIn K mainGlobals "range" = some none)
    (n_sorted : PySem.W.nsIn K mainGlobals "sorted" = some none)
    (n_int : PySem.W.nsIn K mainGlobals "int" = some none)
    (n_abs : PySem.W.nsIn K mainGlobals "abs" = some none)
    (n_max : PySem.W.nsIn K mainGlobals "max" = some none)
    (n_min : PySem.W.nsIn K mainGlobals "min" = some none)
    (n_all : PySem.W.nsIn K mainGlobals "all" = some none)
    (n_dict : PySem.W.nsIn K mainGlobals "dict" = some none)
    (n_tuple : PySem.W.nsIn K mainGlobals "tuple" = some none)
    (tb : h.get? Pt = some { cls := .none, data := .fields #[] })
    (nT : K.lookup Pt = none)
    (ch : PySem.W.codeHdIn K c Pt = true)
    : LamX.LawAtS l w K CX0 9 63 "_law_script" mg fa h := by
  have e := hfa.symm.trans (PySem.W.mg_of X G a55)
  cases e
  have N : Nm K mg := ⟨PySem.W.mg_of X G gc, PySem.W.mg_none_of X G n_len, PySem.W.mg_none_of X G n_list, PySem.W.mg_none_of X G n_sum, PySem.W.mg_none_of X G n_isinstance, PySem.W.mg_none_of X G n_range, PySem.W.mg_none_of X G n_sorted, PySem.W.mg_none_of X G n_int, PySem.W.mg_none_of X G n_abs, PySem.W.mg_none_of X G n_max, PySem.W.mg_none_of X G n_min, PySem.W.mg_none_of X G n_all, PySem.W.mg_none_of X G n_dict, PySem.W.mg_none_of X G n_tuple⟩
  have L : Kl K mg C CU := ⟨⟨pg, hd, po, sa⟩, nS, nP, nK, PySem.W.mg_of X G aC, PySem.W.mg_of X G aU, ha, hn, htk, hm, qU, qC⟩
  have Z0 : Zero K mg "NOTHING_ratios" := zero_mk X G y0 x0
  have Z1 : Zero K mg "NOTHING_optimal" := zero_mk X G y1 x1
  have Z2 : Zero K mg "NOTHING_estimates" := zero_mk X G y2 x2
  have D7 : Def K mg "lowest" (topS 7) ["p", "q"] := def_mk X G a7 l7 c7 k7 (fun _ _ _ _ _ _ us hl => match us, hl with | [_, _], _ => rfl)
  have D8 : Def K mg "plus" (topS 8) ["a", "b"] := def_mk X G a8 l8 c8 k8 (fun _ _ _ _ _ _ us hl => match us, hl with | [_, _], _ => rfl)
  have D9 : Def K mg "minus" (topS 9) ["a", "b"] := def_mk X G a9 l9 c9 k9 (fun _ _ _ _ _ _ us hl => match us, hl with | [_, _], _ => rfl)
  have D10 : Def K mg "times" (topS 10) ["a", "b"] := def_mk X G a10 l10 c10 k10 (fun _ _ _ _ _ _ us hl => match us, hl with | [_, _], _ => rfl)
  have D11 : Def K mg "over" (topS 11) ["a", "b"] := def_mk X G a11 l11 c11 k11 (fun _ _ _ _ _ _ us hl => match us, hl with | [_, _], _ => rfl)
  have D12 : Def K mg "less" (topS 12) ["a", "b"] := def_mk X G a12 l12 c12 k12 (fun _ _ _ _ _ _ us hl => match us, hl with | [_, _], _ => rfl)
  have D13 : Def K mg "sum_of" (topS 13) ["fractions"] := def_mk X G a13 l13 c13 k13 (fun _ _ _ _ _ _ us hl => match us, hl with | [_], _ => rfl)
  have D18 : Def K mg "greater" (topS 18) ["one", "other"] := def_mk X G a18 l18 c18 k18 (fun _ _ _ _ _ _ us hl => match us, hl with | [_, _], _ => rfl)
  have D19 : Def K mg "threshold" (topS 19) ["weights", "size"] := def_mk X G a19 l19 c19 k19 (fun _ _ _ _ _ _ us hl => match us, hl with | [_, _], _ => rfl)
  have D23 : Def K mg "whole_number" (topS 23) ["number"] := def_mk X G a23 l23 c23 k23 (fun _ _ _ _ _ _ us hl => match us, hl with | [_], _ => rfl)
  have D24 : Def K mg "amount_of" (topS 24) ["amounts", "item"] := def_mk X G a24 l24 c24 k24 (fun _ _ _ _ _ _ us hl => match us, hl with | [_, _], _ => rfl)
  have D25 : Def K mg "true_sum" (topS 25) ["things", "amounts"] := def_mk X G a25 l25 c25 k25 (fun _ _ _ _ _ _ us hl => match us, hl with | [_, _], _ => rfl)
  have D26 : Def K mg "is_whole" (topS 26) ["sample"] := def_mk X G a26 l26 c26 k26 (fun _ _ _ _ _ _ us hl => match us, hl with | [_], _ => rfl)
  have D32 : Def K mg "estimate_optimal" (topS 32) ["sample", "amounts"] := def_mk X G a32 l32 c32 k32 (fun _ _ _ _ _ _ us hl => match us, hl with | [_, _], _ => rfl)
  have D33 : Def K mg "estimate" (topS 33) ["sample", "amounts"] := def_mk X G a33 l33 c33 k33 (fun _ _ _ _ _ _ us hl => match us, hl with | [_, _], _ => rfl)
  have D34 : Def K mg "known_optimal" (topS 34) ["things", "size", "amounts"] := def_mk X G a34 l34 c34 k34 (fun _ _ _ _ _ _ us hl => match us, hl with | [_, _, _], _ => rfl)
  have D36 : Def K mg "_law_mix" (topS 36) ["_law_number", "_law_k"] := def_mk X G a36 l36 c36 k36 (fun _ _ _ _ _ _ us hl => match us, hl with | [_, _], _ => rfl)
  have D37 : Def K mg "_law_numbers" (topS 37) ["_law_script", "_law_count"] := def_mk X G a37 l37 c37 k37 (fun _ _ _ _ _ _ us hl => match us, hl with | [_, _], _ => rfl)
  have D38 : Def K mg "_law_take" (topS 38) ["_law_row", "_law_bound"] := def_mk X G a38 l38 c38 k38 (fun _ _ _ _ _ _ us hl => match us, hl with | [_, _], _ => rfl)
  have D39 : Def K mg "_law_low" (topS 39) ["_law_p", "_law_q"] := def_mk X G a39 l39 c39 k39 (fun _ _ _ _ _ _ us hl => match us, hl with | [_, _], _ => rfl)
  have D40 : Def K mg "_law_plus" (topS 40) ["_law_one", "_law_other"] := def_mk X G a40 l40 c40 k40 (fun _ _ _ _ _ _ us hl => match us, hl with | [_, _], _ => rfl)
  have D41 : Def K mg "_law_minus" (topS 41) ["_law_one", "_law_other"] := def_mk X G a41 l41 c41 k41 (fun _ _ _ _ _ _ us hl => match us, hl with | [_, _], _ => rfl)
  have D42 : Def K mg "_law_times" (topS 42) ["_law_one", "_law_other"] := def_mk X G a42 l42 c42 k42 (fun _ _ _ _ _ _ us hl => match us, hl with | [_, _], _ => rfl)
  have D43 : Def K mg "_law_less" (topS 43) ["_law_one", "_law_other"] := def_mk X G a43 l43 c43 k43 (fun _ _ _ _ _ _ us hl => match us, hl with | [_, _], _ => rfl)
  have D44 : Def K mg "_law_sum" (topS 44) ["_law_rows"] := def_mk X G a44 l44 c44 k44 (fun _ _ _ _ _ _ us hl => match us, hl with | [_], _ => rfl)
  have D45 : Def K mg "_law_items" (topS 45) ["_law_row", "_law_many"] := def_mk X G a45 l45 c45 k45 (fun _ _ _ _ _ _ us hl => match us, hl with | [_, _], _ => rfl)
  have D46 : Def K mg "_law_amounts" (topS 46) ["_law_row", "_law_things"] := def_mk X G a46 l46 c46 k46 (fun _ _ _ _ _ _ us hl => match us, hl with | [_, _], _ => rfl)
  have D47 : Def K mg "_law_true" (topS 47) ["_law_things", "_law_amounts_here"] := def_mk X G a47 l47 c47 k47 (fun _ _ _ _ _ _ us hl => match us, hl with | [_, _], _ => rfl)
  have D48 : Def K mg "_law_moments" (topS 48) ["_law_rows"] := def_mk X G a48 l48 c48 k48 (fun _ _ _ _ _ _ us hl => match us, hl with | [_], _ => rfl)
  have D49 : Def K mg "_law_lesser" (topS 49) ["_law_weight", "_law_limit"] := def_mk X G a49 l49 c49 k49 (fun _ _ _ _ _ _ us hl => match us, hl with | [_, _], _ => rfl)
  have D50 : DefC K mg "_law_threshold" (topS 50) ["_law_weights", "_law_size"] c := ⟨⟨f50, oc50, od50, kV50, dc50, pm50, an50, ct50, sl50, PySem.W.mg_of X G a50, k50, l50, c50, (fun_mk l50 c50 k50).binds (fun _ _ _ _ _ _ us hl => match us, hl with | [_, _], _ => rfl)⟩⟩
  have D51 : Def K mg "_law_raised" (topS 51) ["_law_parts", "_law_limit"] := def_mk X G a51 l51 c51 k51 (fun _ _ _ _ _ _ us hl => match us, hl with | [_, _], _ => rfl)
  have D52 : Def K mg "_law_dropped" (topS 52) ["_law_chance", "_law_parts", "_law_size"] := def_mk X G a52 l52 c52 k52 (fun _ _ _ _ _ _ us hl => match us, hl with | [_, _, _], _ => rfl)
  have D53 : Def K mg "_law_chain" (topS 53) ["_law_size", "_law_things"] := def_mk X G a53 l53 c53 k53 (fun _ _ _ _ _ _ us hl => match us, hl with | [_, _], _ => rfl)
  have D54 : Def K mg "_law_single" (topS 54) ["_law_found", "_law_item", "_law_amount"] := def_mk X G a54 l54 c54 k54 (fun _ _ _ _ _ _ us hl => match us, hl with | [_, _, _], _ => rfl)
  have F55 := fun_mk (st := topS 55) l55 c55 k55
  have FI := fun_mk (st := sInit) li ci ki
  have bI := FI.binds (ps := ["self", "size", "parts"]) (fun _ _ _ _ _ _ us hl => match us, hl with | [_, _, _], _ => rfl)
  refine ⟨PySem.W.fnOf "law" "law" (defArgs (topS 55)) (defBody (topS 55)) (defScope (topS 55)) .none kV55 dc55 pm55 an55 cd55 ct55, [(c, Pt)], spLaw [(Pt, qT)] K, fun p hp => ?_, fun p hp => ?_, fun p hp => ?_, fun s v => .of_eq rfl, fun H a ns hl _ hT hS => ?_, fun base KB GB TB => ?_⟩
  · rw [List.mem_singleton.mp hp]; exact tb
  · rw [List.mem_singleton.mp hp]; exact nT
  · rw [List.mem_singleton.mp hp]; exact PySem.W.codeHd_of_K X ch
  · refine ⟨a, ns, rfl, hS, hl, fun p hp => ?_, fun _ => rfl⟩
    rw [List.mem_singleton.mp hp]
    exact LamX.TabS.nil (hT (c, Pt) (List.mem_singleton.mpr rfl))
  have B50 := TB (c, Pt) (List.mem_singleton.mpr rfl)
  have q7 := ok_lowest (P := l.prog) (w := w) (base := base) (T := [(Pt, qT)]) D7 N
  have q8 := ok_plus D8 q7
  have q9 := ok_minus D9 q7
  have q10 := ok_times D10 q7
  have q11 := ok_over D11 q7
  have q12 := ok_less (P := l.prog) (w := w) (base := base) D12
  have q13 := ok_sum_of D13 Z0 q8
  have q18 := ok_gr D18 q12
  have q19 := ok_thr N D19 Z1 q13 (q11.mono (k := 3) (by decide)) (q9.mono (k := 3) (by decide)) (q18.mono (k := 3) (by decide)) (q12.mono (k := 3) (by decide))
  have q23 := ok_wn D23 q7
  have q24 := ok_am (P := l.prog) (w := w) (base := base) D24
  have q25 := ok_true (T := [(Pt, qT)]) N D25 q24
  have q26 := ok_whole N L D26 q23
  have q32 := ok_esto L D32 Z2 q23 q11 (q24.mono (k := 2) (by decide)) q8 q10 q9
  have q33 := ok_est N L D33 Z2 q26 (q23.mono (k := 3) (by decide)) (q25.mono (k := 3) (by decide)) q32
  have q34 := ok_kn D34 Z2 q19 (q23.mono (k := 4) (by decide)) (q11.mono (k := 4) (by decide)) (q24.mono (k := 4) (by decide)) (q8.mono (k := 4) (by decide)) (q10.mono (k := 4) (by decide)) (q9.mono (k := 4) (by decide)) (q12.mono (k := 4) (by decide))
  have q36 := ok_mix (P := l.prog) (w := w) (base := base) N D36
  have q37 := ok_nums N D37 q36
  have q38 := ok_take (P := l.prog) (w := w) (base := base) N D38
  have q39 := ok_low (P := l.prog) (w := w) (base := base) (T := [(Pt, qT)]) D39 N
  have q40 := ok_law_plus D40 q39
  have q41 := ok_law_minus D41 q39
  have q42 := ok_law_times D42 q39
  have q43 := ok_law_less (P := l.prog) (w := w) (base := base) D43
  have q44 := ok_lsum D44 q40
  have q45 := ok_items (T := [(Pt, qT)]) N D45 q38
  have q46 := ok_amts (T := [(Pt, qT)]) D46 q38
  have q47 := ok_ltrue (P := l.prog) (w := w) (base := base) (T := [(Pt, qT)]) N D47
  have q48 := ok_mom D48 q44 (q40.mono (k := 3) (by decide)) (q41.mono (k := 3) (by decide)) (q42.mono (k := 3) (by decide))
  have q49 := ok_les D49 q43 q39
  have q50 := ok_lthr N N.max D50 B50 rfl q44 (q39.mono (k := 3) (by decide)) (q43.mono (k := 3) (by decide))
  have q51 := ok_raised (T := [(Pt, qT)]) N D51 q43
  have q52 := ok_drop N D52 (q50.mono (k := 5) (by decide)) (q41.mono (k := 5) (by decide)) (q49.mono (k := 5) (by decide)) (q42.mono (k := 5) (by decide)) (q51.mono (k := 5) (by decide))
  have q53 := ok_chain D53 q52
  have q54 := ok_single D54 (q39.mono (k := 4) (by decide)) q48
  have qi := ok_init (P := l.prog) (w := w) (base := base) (T := [(Pt, qT)]) N L FI
  exact ok_law F55 { nm := N, tup := N.tuple, min := N.min, dict := N.dict, kl := L, nums := q37.mono (by decide), items := q45.mono (by decide), take := q38.mono (by decide), amts := q46.mono (by decide), chain := q53.mono (by decide), est := q33.mono (by decide), whole := q26.mono (by decide), plus := q40.mono (by decide), times := q42.mono (by decide), mom := q48.mono (by decide), tru := q47.mono (by decide), sum := q44.mono (by decide), single := q54.mono (by decide), known := q34.mono (by decide), less := q43.mono (by decide), make := ⟨fi, _, ⟨mkC, ai, ii, kC⟩, bI, qi.mono (by decide)⟩ }
end K36

set_option Elab.async false
open PySem PySem.W PyProof.Rows
set_option maxRecDepth 100000 in
set_option maxHeartbeats 0 in
theorem PySem.Challenge.cw_samphire_k36_whole_optimal_estimates_holds : PySem.Challenge.rw_samphire_k36_whole_optimal_estimates.Holds := by
  w_on; o_law; k_head; (case hw => w_witness2)
  k_fill
  refine LamX.walk_ofTs (l := PySem.Challenge.rw_samphire_k36_whole_optimal_estimates) (n := 63) (k := 9) (x := "_law_script") (CX := fun _ => L2.CX0) rfl (by decide) rfl ⟨rfl, by decide, by decide⟩ (fun w h Y => PySem.W.km_in_of Y) ?F (fun _ _ _ _ _ z => z)
  case F =>
    intro w mg fa h Y KX G hmg
    have tb0 := PySem.W.km_tabs_of Y
    refine' K36.all_mk KX G hmg ?a7 ?l7 ?c7 ?k7 ?a8 ?l8 ?c8 ?k8 ?a9 ?l9 ?c9 ?k9 ?a10 ?l10 ?c10 ?k10 ?a11 ?l11 ?c11 ?k11 ?a12 ?l12 ?c12 ?k12 ?a13 ?l13 ?c13 ?k13 ?a18 ?l18 ?c18 ?k18 ?a19 ?l19 ?c19 ?k19 ?a23 ?l23 ?c23 ?k23 ?a24 ?l24 ?c24 ?k24 ?a25 ?l25 ?c25 ?k25 ?a26 ?l26 ?c26 ?k26 ?a32 ?l32 ?c32 ?k32 ?a33 ?l33 ?c33 ?k33 ?a34 ?l34 ?c34 ?k34 ?a36 ?l36 ?c36 ?k36 ?a37 ?l37 ?c37 ?k37 ?a38 ?l38 ?c38 ?k38 ?a39 ?l39 ?c39 ?k39 ?a40 ?l40 ?c40 ?k40 ?a41 ?l41 ?c41 ?k41 ?a42 ?l42 ?c42 ?k42 ?a43 ?l43 ?c43 ?k43 ?a44 ?l44 ?c44 ?k44 ?a45 ?l45 ?c45 ?k45 ?a46 ?l46 ?c46 ?k46 ?a47 ?l47 ?c47 ?k47 ?a48 ?l48 ?c48 ?k48 ?a49 ?l49 ?c49 ?k49 ?a50 ?l50 ?c50 ?k50 ?a51 ?l51 ?c51 ?k51 ?a52 ?l52 ?c52 ?k52 ?a53 ?l53 ?c53 ?k53 ?a54 ?l54 ?c54 ?k54 ?a55 ?l55 ?c55 ?k55 ?y0 ?x0 ?y1 ?x1 ?y2 ?x2 ?aC ?aU ?ai ?ii ?li ?ci ?ki ?pg ?hd ?po ?sa ?mkC ?kC ?nS ?nP ?nK ?ha ?hn ?htk ?hm ?qU ?qC ?gc ?n_len ?n_list ?n_sum ?n_isinstance ?n_range ?n_sorted ?n_int ?n_abs ?n_max ?n_min ?n_all ?n_dict ?n_tuple ?tb ?nT ?ch
    case tb => exact tb0 _ (List.mem_singleton.mpr rfl)
    (case a7 => first | k_is | kernel_rfl); (case l7 => first | k_is | kernel_rfl); (case c7 => first | k_is | kernel_rfl); (case k7 => first | k_is | kernel_rfl); (case a8 => first | k_is | kernel_rfl); (case l8 => first | k_is | kernel_rfl)
    (case c8 => first | k_is | kernel_rfl); (case k8 => first | k_is | kernel_rfl); (case a9 => first | k_is | kernel_rfl); (case l9 => first | k_is | kernel_rfl); (case c9 => first | k_is | kernel_rfl); (case k9 => first | k_is | kernel_rfl)
    (case a10 => first | k_is | kernel_rfl); (case l10 => first | k_is | kernel_rfl); (case c10 => first | k_is | kernel_rfl); (case k10 => first | k_is | kernel_rfl); (case a11 => first | k_is | kernel_rfl); (case l11 => first | k_is | kernel_rfl)
    (case c11 => first | k_is | kernel_rfl); (case k11 => first | k_is | kernel_rfl); (case a12 => first | k_is | kernel_rfl); (case l12 => first | k_is | kernel_rfl); (case c12 => first | k_is | kernel_rfl); (case k12 => first | k_is | kernel_rfl)
    (case a13 => first | k_is | kernel_rfl); (case l13 => first | k_is | kernel_rfl); (case c13 => first | k_is | kernel_rfl); (case k13 => first | k_is | kernel_rfl); (case a18 => first | k_is | kernel_rfl); (case l18 => first | k_is | kernel_rfl)
    (case c18 => first | k_is | kernel_rfl); (case k18 => first | k_is | kernel_rfl); (case a19 => first | k_is | kernel_rfl); (case l19 => first | k_is | kernel_rfl); (case c19 => first | k_is | kernel_rfl); (case k19 => first | k_is | kernel_rfl)
    (case a23 => first | k_is | kernel_rfl); (case l23 => first | k_is | kernel_rfl); (case c23 => first | k_is | kernel_rfl); (case k23 => first | k_is | kernel_rfl); (case a24 => first | k_is | kernel_rfl); (case l24 => first | k_is | kernel_rfl)
    (case c24 => first | k_is | kernel_rfl); (case k24 => first | k_is | kernel_rfl); (case a25 => first | k_is | kernel_rfl); (case l25 => first | k_is | kernel_rfl); (case c25 => first | k_is | kernel_rfl); (case k25 => first | k_is | kernel_rfl)
    (case a26 => first | k_is | kernel_rfl); (case l26 => first | k_is | kernel_rfl); (case c26 => first | k_is | kernel_rfl); (case k26 => first | k_is | kernel_rfl); (case a32 => first | k_is | kernel_rfl); (case l32 => first | k_is | kernel_rfl)
    (case c32 => first | k_is | kernel_rfl); (case k32 => first | k_is | kernel_rfl); (case a33 => first | k_is | kernel_rfl); (case l33 => first | k_is | kernel_rfl); (case c33 => first | k_is | kernel_rfl); (case k33 => first | k_is | kernel_rfl)
    (case a34 => first | k_is | kernel_rfl); (case l34 => first | k_is | kernel_rfl); (case c34 => first | k_is | kernel_rfl); (case k34 => first | k_is | kernel_rfl); (case a36 => first | k_is | kernel_rfl); (case l36 => first | k_is | kernel_rfl)
    (case c36 => first | k_is | kernel_rfl); (case k36 => first | k_is | kernel_rfl); (case a37 => first | k_is | kernel_rfl); (case l37 => first | k_is | kernel_rfl); (case c37 => first | k_is | kernel_rfl); (case k37 => first | k_is | kernel_rfl)
    (case a38 => first | k_is | kernel_rfl); (case l38 => first | k_is | kernel_rfl); (case c38 => first | k_is | kernel_rfl); (case k38 => first | k_is | kernel_rfl); (case a39 => first | k_is | kernel_rfl); (case l39 => first | k_is | kernel_rfl)
    (case c39 => first | k_is | kernel_rfl); (case k39 => first | k_is | kernel_rfl); (case a40 => first | k_is | kernel_rfl); (case l40 => first | k_is | kernel_rfl); (case c40 => first | k_is | kernel_rfl); (case k40 => first | k_is | kernel_rfl)
    (case a41 => first | k_is | kernel_rfl); (case l41 => first | k_is | kernel_rfl); (case c41 => first | k_is | kernel_rfl); (case k41 => first | k_is | kernel_rfl); (case a42 => first | k_is | kernel_rfl); (case l42 => first | k_is | kernel_rfl)
    (case c42 => first | k_is | kernel_rfl); (case k42 => first | k_is | kernel_rfl); (case a43 => first | k_is | kernel_rfl); (case l43 => first | k_is | kernel_rfl); (case c43 => first | k_is | kernel_rfl); (case k43 => first | k_is | kernel_rfl)
    (case a44 => first | k_is | kernel_rfl); (case l44 => first | k_is | kernel_rfl); (case c44 => first | k_is | kernel_rfl); (case k44 => first | k_is | kernel_rfl); (case a45 => first | k_is | kernel_rfl); (case l45 => first | k_is | kernel_rfl)
    (case c45 => first | k_is | kernel_rfl); (case k45 => first | k_is | kernel_rfl); (case a46 => first | k_is | kernel_rfl); (case l46 => first | k_is | kernel_rfl); (case c46 => first | k_is | kernel_rfl); (case k46 => first | k_is | kernel_rfl)
    (case a47 => first | k_is | kernel_rfl); (case l47 => first | k_is | kernel_rfl); (case c47 => first | k_is | kernel_rfl); (case k47 => first | k_is | kernel_rfl); (case a48 => first | k_is | kernel_rfl); (case l48 => first | k_is | kernel_rfl)
    (case c48 => first | k_is | kernel_rfl); (case k48 => first | k_is | kernel_rfl); (case a49 => first | k_is | kernel_rfl); (case l49 => first | k_is | kernel_rfl); (case c49 => first | k_is | kernel_rfl); (case k49 => first | k_is | kernel_rfl)
    (case a50 => first | k_is | kernel_rfl); (case l50 => first | k_is | kernel_rfl); (case c50 => first | k_is | kernel_rfl); (case k50 => first | k_is | kernel_rfl); (case a51 => first | k_is | kernel_rfl); (case l51 => first | k_is | kernel_rfl)
    (case c51 => first | k_is | kernel_rfl); (case k51 => first | k_is | kernel_rfl); (case a52 => first | k_is | kernel_rfl); (case l52 => first | k_is | kernel_rfl); (case c52 => first | k_is | kernel_rfl); (case k52 => first | k_is | kernel_rfl)
    (case a53 => first | k_is | kernel_rfl); (case l53 => first | k_is | kernel_rfl); (case c53 => first | k_is | kernel_rfl); (case k53 => first | k_is | kernel_rfl); (case a54 => first | k_is | kernel_rfl); (case l54 => first | k_is | kernel_rfl)
    (case c54 => first | k_is | kernel_rfl); (case k54 => first | k_is | kernel_rfl); (case a55 => first | k_is | kernel_rfl); (case l55 => first | k_is | kernel_rfl); (case c55 => first | k_is | kernel_rfl); (case k55 => first | k_is | kernel_rfl)
    (case y0 => first | k_is | kernel_rfl); (case x0 => first | k_is | kernel_rfl); (case y1 => first | k_is | kernel_rfl); (case x1 => first | k_is | kernel_rfl); (case y2 => first | k_is | kernel_rfl); (case x2 => first | k_is | kernel_rfl)
    (case aC => first | k_is | kernel_rfl); (case aU => first | k_is | kernel_rfl); (case ai => first | k_is | kernel_rfl); (case ii => first | k_is | kernel_rfl); (case li => first | k_is | kernel_rfl); (case ci => first | k_is | kernel_rfl)
    (case ki => first | k_is | kernel_rfl); (case pg => first | k_is | kernel_rfl); (case hd => first | k_is | kernel_rfl); (case po => first | k_is | kernel_rfl); (case sa => first | k_is | kernel_rfl); (case mkC => first | k_is | kernel_rfl)
    (case kC => first | k_is | kernel_rfl); (case nS => first | k_is | kernel_rfl); (case nP => first | k_is | kernel_rfl); (case nK => first | k_is | kernel_rfl); (case ha => first | k_is | kernel_rfl); (case hn => first | k_is | kernel_rfl)
    (case htk => first | k_is | kernel_rfl); (case hm => first | k_is | kernel_rfl); (case qU => first | k_is | kernel_rfl); (case qC => first | k_is | kernel_rfl); (case gc => first | k_is | kernel_rfl); (case n_len => first | k_is | kernel_rfl)
    (case n_list => first | k_is | kernel_rfl); (case n_sum => first | k_is | kernel_rfl); (case n_isinstance => first | k_is | kernel_rfl); (case n_range => first | k_is | kernel_rfl); (case n_sorted => first | k_is | kernel_rfl); (case n_int => first | k_is | kernel_rfl)
    (case n_abs => first | k_is | kernel_rfl); (case n_max => first | k_is | kernel_rfl); (case n_min => first | k_is | kernel_rfl); (case n_all => first | k_is | kernel_rfl); (case n_dict => first | k_is | kernel_rfl); (case n_tuple => first | k_is | kernel_rfl)
    (case nT => first | k_is | kernel_rfl); (case ch => first | k_is | kernel_rfl)
