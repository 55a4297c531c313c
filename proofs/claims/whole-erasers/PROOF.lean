import PyProof.Rows.All
import Wide.All
import OpenK.AllK
import Wide.FinOn
import HandS.ForMost
import HandS.Exc
import HandS.TryOnly
import HandS.ExcOwn
import HandS.ExcInit
import HandS.ExcIs
import HandS.ExcField
import HandS.WordsExc
import HandS.Defaults
import HandS.MakeKwOnly
import HandS.ClsMeth
import HandS.IsInst
import HandS.TupAny
import HandS.Style
import HandS.Conv
import HandS.DictTup
import HandS.DictComp
import HandS.IterNext
import HandS.OwnIter
import HandS.IterVal
import HandS.NoneIn
import HandS.HeadHook3
import KE.SortData
import KE.LtData
import KE.KDictKeyed
import KE.GoesEnum
import KE.KDictDisplayH
import PySem.Challenge.RW_sixviews_k36_whole_erasers
import HandS.HeadHook4
import HandS.HeadNt
import HandS.Head0
import HandS.Head1
import HandS.Head2
import HandS.HeadEnd
import KE.KExcIs
section
set_option Elab.async false
set_option linter.all false
/-! The plain law: cells, sheets as lists of (cell, ink), views, sweeps, counters. No program in sight. -/
namespace SV

/-! ### sums over lists of (key, ink) -/
section
variable {κ : Type} [DecidableEq κ]
def coef : List (κ × Int) → κ → Int
  | [], _ => 0
  | (a, i) :: r, k => (if a = k then i else 0) + coef r k
def wsum (l : List (κ × Int)) (f : κ → Int) : Int := match l with
  | [] => 0
  | (a, i) :: r => i * f a + wsum r f
theorem coef_nil (k : κ) : coef ([] : List (κ × Int)) k = 0 := rfl
theorem coef_cons (p : κ × Int) (r : List (κ × Int)) (k : κ) : coef (p :: r) k = (if p.1 = k then p.2 else 0) + coef r k := rfl
theorem wsum_nil (f : κ → Int) : wsum ([] : List (κ × Int)) f = 0 := rfl
theorem wsum_cons (p : κ × Int) (r : List (κ × Int)) (f : κ → Int) : wsum (p :: r) f = p.2 * f p.1 + wsum r f := rfl
theorem coef_append (a b : List (κ × Int)) (k : κ) : coef (a ++ b) k = coef a k + coef b k := by
  induction a with
  | nil => simp [coef]
  | cons p a ih => rw [List.cons_append, coef_cons, coef_cons, ih]; omega
theorem wsum_append (a b : List (κ × Int)) (f : κ → Int) : wsum (a ++ b) f = wsum a f + wsum b f := by
  induction a with
  | nil => simp [wsum]
  | cons p a ih => rw [List.cons_append, wsum_cons, wsum_cons, ih]; omega
theorem coef_perm {a b : List (κ × Int)} (h : a.Perm b) (k : κ) : coef a k = coef b k := by
  induction h with
  | nil => rfl
  | cons p _ ih => rw [coef_cons, coef_cons, ih]
  | swap p q l => rw [coef_cons, coef_cons, coef_cons, coef_cons]; omega
  | trans _ _ h1 h2 => exact h1.trans h2
theorem coef_eq_wsum (l : List (κ × Int)) (k : κ) : coef l k = wsum l fun a => if a = k then 1 else 0 := by
  induction l with
  | nil => rfl
  | cons p r ih =>
    rw [coef_cons, wsum_cons, ih]
    split <;> simp
theorem wsum_split (l : List (κ × Int)) (f : κ → Int) (q : κ) : wsum l f = coef l q * f q + wsum (l.filter fun p => decide (p.1 ≠ q)) f := by
  induction l with
  | nil => simp [wsum, coef]
  | cons p r ih =>
    rw [wsum_cons, coef_cons, List.filter_cons, ih]
    by_cases h : p.1 = q
    · have hd : decide (p.1 ≠ q) = false := by simp [h]
      rw [if_pos h, hd, h, Int.add_mul]
      simp only [Bool.false_eq_true, if_false]
      omega
    · have hd : decide (p.1 ≠ q) = true := by simp [h]
      rw [if_neg h, hd]
      simp only [if_true]
      rw [wsum_cons, Int.zero_add]
      omega
theorem coef_filter_ne (l : List (κ × Int)) (q k : κ) : coef (l.filter fun p => decide (p.1 ≠ q)) k = if k = q then 0 else coef l k := by
  induction l with
  | nil => simp [coef]
  | cons p r ih =>
    rw [List.filter_cons]
    by_cases h : p.1 = q
    · have hd : decide (p.1 ≠ q) = false := by simp [h]
      rw [hd]
      simp only [Bool.false_eq_true, if_false]
      rw [ih, coef_cons]
      split
      · rfl
      · rename_i hk
        rw [if_neg (fun e => hk (e.symm.trans h))]
        omega
    · have hd : decide (p.1 ≠ q) = true := by simp [h]
      rw [hd]
      simp only [if_true]
      rw [coef_cons, coef_cons, ih]
      by_cases hk : p.1 = k
      · rw [if_pos hk, if_neg (fun e => h (hk.trans e)), if_neg (fun e => h (hk.trans e))]
      · rw [if_neg hk]
        split <;> omega
theorem wsum_zero : ∀ (n : Nat) (l : List (κ × Int)), l.length ≤ n → (∀ k, coef l k = 0) → ∀ f, wsum l f = 0
  | _, [], _, _, _ => rfl
  | 0, _ :: _, h, _, _ => by simp at h
  | n + 1, p :: r, hl, h, f => by
    rw [wsum_split (p :: r) f p.1, h p.1, Int.zero_mul, Int.zero_add]
    refine wsum_zero n _ ?_ (fun k => ?_) f
    · rw [List.filter_cons]
      simp only [ne_eq, not_true_eq_false, decide_false, Bool.false_eq_true, if_false]
      have h1 : (r.filter fun q => decide ¬q.1 = p.1).length ≤ r.length := List.length_filter_le _ _
      simp only [List.length_cons] at hl
      omega
    · rw [coef_filter_ne]
      split
      · rfl
      · exact h k
def neg (l : List (κ × Int)) : List (κ × Int) := l.map fun p => (p.1, -p.2)
theorem coef_neg (l : List (κ × Int)) (k : κ) : coef (neg l) k = - coef l k := by
  induction l with
  | nil => rfl
  | cons p r ih =>
    show coef ((p.1, -p.2) :: neg r) k = _
    rw [coef_cons, coef_cons, ih]
    split <;> omega
theorem wsum_neg (l : List (κ × Int)) (f : κ → Int) : wsum (neg l) f = - wsum l f := by
  induction l with
  | nil => rfl
  | cons p r ih =>
    show wsum ((p.1, -p.2) :: neg r) f = _
    rw [wsum_cons, wsum_cons, ih]
    show -p.2 * f p.1 + -wsum r f = _
    rw [Int.neg_mul]
    omega
/-- a weighted sum depends on the coefficients alone -/
theorem wsum_congr {a b : List (κ × Int)} (h : ∀ k, coef a k = coef b k) (f : κ → Int) : wsum a f = wsum b f := by
  have := wsum_zero _ (a ++ neg b) (Nat.le_refl _) (fun k => by rw [coef_append, coef_neg, h k]; omega) f
  rw [wsum_append, wsum_neg] at this
  omega
/-- .. of a list that says one key alone -/
theorem wsum_single {l : List (κ × Int)} {a : κ} {i : Int} (h : ∀ k, coef l k = if a = k then i else 0) (f : κ → Int) : wsum l f = i * f a := by
  have := wsum_congr (a := l) (b := [(a, i)]) (fun k => by rw [h k, coef_cons, coef_nil]; show _ = (if a = k then i else 0) + 0; rw [Int.add_zero]) f
  rw [this, wsum_cons, wsum_nil]
  show i * f a + 0 = _
  rw [Int.add_zero]
theorem wsum_ext {l : List (κ × Int)} {f g : κ → Int} (h : ∀ p ∈ l, f p.1 = g p.1) : wsum l f = wsum l g := by
  induction l with
  | nil => rfl
  | cons p r ih =>
    rw [wsum_cons, wsum_cons, h p List.mem_cons_self, ih fun q hq => h q (List.mem_cons_of_mem _ hq)]
theorem coef_flatMap {ι : Type} [DecidableEq ι] (l : List (ι × Int)) (g : ι × Int → List (κ × Int)) (f : ι → Int) (k : κ) (h : ∀ p ∈ l, coef (g p) k = p.2 * f p.1) : coef (l.flatMap g) k = wsum l f := by
  induction l with
  | nil => rfl
  | cons p r ih =>
    rw [List.flatMap_cons, coef_append, wsum_cons, h p List.mem_cons_self, ih fun q hq => h q (List.mem_cons_of_mem _ hq)]
theorem coef_map {ι : Type} [DecidableEq ι] (l : List (ι × Int)) (g : ι × Int → κ × Int) (f : ι → Int) (k : κ) (h : ∀ p ∈ l, (if (g p).1 = k then (g p).2 else 0) = p.2 * f p.1) : coef (l.map g) k = wsum l f := by
  induction l with
  | nil => rfl
  | cons p r ih =>
    rw [List.map_cons, coef_cons, wsum_cons, h p List.mem_cons_self, ih fun q hq => h q (List.mem_cons_of_mem _ hq)]
theorem coef_mem {l : List (κ × Int)} {k : κ} (h : coef l k ≠ 0) : ∃ p ∈ l, p.1 = k := by
  induction l with
  | nil => exact absurd rfl h
  | cons p r ih =>
    by_cases e : p.1 = k
    · exact ⟨p, List.mem_cons_self, e⟩
    · rw [coef_cons, if_neg e, Int.zero_add] at h
      obtain ⟨q, hq, e⟩ := ih h
      exact ⟨q, List.mem_cons_of_mem _ hq, e⟩
theorem coef_none {l : List (κ × Int)} {k : κ} (h : ∀ p ∈ l, p.1 ≠ k) : coef l k = 0 := by
  by_cases e : coef l k = 0
  · exact e
  · obtain ⟨p, hp, q⟩ := coef_mem e
    exact absurd q (h p hp)
theorem coef_nodup {l : List (κ × Int)} (h : (l.map (·.1)).Nodup) {p : κ × Int} (hp : p ∈ l) : coef l p.1 = p.2 := by
  induction l with
  | nil => cases hp
  | cons q r ih =>
    rw [List.map_cons, List.nodup_cons] at h
    rw [coef_cons]
    rcases List.mem_cons.mp hp with rfl | hp
    · rw [if_pos rfl, coef_none (fun z hz e => h.1 (List.mem_map.mpr ⟨z, hz, e⟩))]
      omega
    · rw [if_neg (fun e => h.1 (List.mem_map.mpr ⟨p, hp, e.symm⟩)), ih h.2 hp]
      omega
/-! ### the dict's tally -/
def bump : List (κ × Int) → κ → Int → List (κ × Int)
  | [], k, i => [(k, i)]
  | (a, j) :: r, k, i => if a = k then (a, j + i) :: r else (a, j) :: bump r k i
def tally (l : List (κ × Int)) : List (κ × Int) := l.foldl (fun t p => bump t p.1 p.2) []
theorem coef_bump (t : List (κ × Int)) (k : κ) (i : Int) (q : κ) : coef (bump t k i) q = coef t q + if k = q then i else 0 := by
  induction t with
  | nil => simp [bump, coef]
  | cons p r ih =>
    obtain ⟨a, j⟩ := p
    show coef (if a = k then (a, j + i) :: r else (a, j) :: bump r k i) q = _
    by_cases h : a = k
    · rw [if_pos h, coef_cons, coef_cons]
      subst h
      simp only
      split <;> omega
    · rw [if_neg h, coef_cons, coef_cons, ih]
      omega
theorem keys_bump (t : List (κ × Int)) (k : κ) (i : Int) : (bump t k i).map (·.1) = if k ∈ t.map (·.1) then t.map (·.1) else t.map (·.1) ++ [k] := by
  induction t with
  | nil => simp [bump]
  | cons p r ih =>
    obtain ⟨a, j⟩ := p
    show (if a = k then (a, j + i) :: r else (a, j) :: bump r k i).map (·.1) = _
    by_cases h : a = k
    · rw [if_pos h, if_pos (by simp [h])]
      rfl
    · rw [if_neg h, List.map_cons, ih, List.map_cons]
      have e : (k ∈ a :: r.map (·.1)) ↔ k ∈ r.map (·.1) := by
        rw [List.mem_cons]
        exact ⟨fun z => z.elim (fun z => absurd z.symm h) id, .inr⟩
      by_cases hm : k ∈ r.map (·.1)
      · rw [if_pos hm, if_pos (e.mpr hm)]
      · rw [if_neg hm, if_neg (fun z => hm (e.mp z))]
        rfl
theorem nodup_bump {t : List (κ × Int)} (h : (t.map (·.1)).Nodup) (k : κ) (i : Int) : ((bump t k i).map (·.1)).Nodup := by
  rw [keys_bump]
  split
  · exact h
  · rename_i hk
    rw [List.nodup_append]
    exact ⟨h, by simp, fun a ha b hb e => hk (by rw [List.mem_singleton.mp hb] at e; exact e ▸ ha)⟩
theorem length_bump (t : List (κ × Int)) (k : κ) (i : Int) : (bump t k i).length ≤ t.length + 1 := by
  have := congrArg List.length (keys_bump t k i)
  rw [List.length_map] at this
  rw [this]
  split <;> simp
theorem tally_go (l t : List (κ × Int)) : (∀ q, coef (l.foldl (fun t p => bump t p.1 p.2) t) q = coef t q + coef l q) ∧
    ((t.map (·.1)).Nodup → ((l.foldl (fun t p => bump t p.1 p.2) t).map (·.1)).Nodup) ∧ (l.foldl (fun t p => bump t p.1 p.2) t).length ≤ t.length + l.length := by
  induction l generalizing t with
  | nil => exact ⟨fun q => by simp [coef], id, by simp⟩
  | cons p r ih =>
    obtain ⟨h1, h2, h3⟩ := ih (bump t p.1 p.2)
    refine ⟨fun q => ?_, fun h => h2 (nodup_bump h _ _), ?_⟩
    · rw [List.foldl_cons, h1, coef_bump, coef_cons]
      omega
    · rw [List.foldl_cons]
      have := length_bump t p.1 p.2
      simp only [List.length_cons]
      omega
theorem coef_tally (l : List (κ × Int)) (q : κ) : coef (tally l) q = coef l q := by
  show coef (l.foldl _ []) q = _
  rw [(tally_go l []).1 q, coef_nil]
  omega
theorem nodup_tally (l : List (κ × Int)) : ((tally l).map (·.1)).Nodup := (tally_go l []).2.1 List.nodup_nil
theorem length_tally (l : List (κ × Int)) : (tally l).length ≤ l.length := by
  have := (tally_go l []).2.2
  simpa [tally] using this
def nz (l : List (κ × Int)) : List (κ × Int) := l.filter fun p => decide (p.2 ≠ 0)
theorem coef_nz (l : List (κ × Int)) (q : κ) : coef (nz l) q = coef l q := by
  induction l with
  | nil => rfl
  | cons p r ih =>
    unfold nz at *
    rw [List.filter_cons]
    by_cases h : p.2 = 0
    · have hd : decide (p.2 ≠ 0) = false := by simp [h]
      rw [hd, coef_cons, h]
      simp only [Bool.false_eq_true, if_false]
      rw [ih]
      split <;> omega
    · have hd : decide (p.2 ≠ 0) = true := by simp [h]
      rw [hd, coef_cons]
      simp only [if_true]
      rw [coef_cons, ih]
theorem nodup_nz {l : List (κ × Int)} (h : (l.map (·.1)).Nodup) : ((nz l).map (·.1)).Nodup :=
  List.Nodup.sublist (List.Sublist.map _ (List.filter_sublist)) h
theorem length_nz (l : List (κ × Int)) : (nz l).length ≤ l.length := List.length_filter_le _ _
theorem mem_nz {l : List (κ × Int)} {p : κ × Int} (h : p ∈ nz l) : p ∈ l ∧ p.2 ≠ 0 := by
  obtain ⟨a, b⟩ := List.mem_filter.mp h
  exact ⟨a, of_decide_eq_true b⟩
end

/-! ### sorted lists -/
class Lin (κ : Type) where
  lt : κ → κ → Prop
  irr : ∀ a, ¬ lt a a
  tra : ∀ a b c, lt a b → lt b c → lt a c
  tri : ∀ a b, lt a b ∨ a = b ∨ lt b a
section
variable {κ : Type} [DecidableEq κ] [Lin κ]
/-- s says what l says: ascending, no ink 0 -/
structure Canon (l s : List (κ × Int)) : Prop where
  asc : s.Pairwise fun p q => Lin.lt p.1 q.1
  non : ∀ p ∈ s, p.2 ≠ 0
  eq : ∀ k, coef s k = coef l k
theorem asc_nodup {s : List (κ × Int)} (h : s.Pairwise fun p q => Lin.lt p.1 q.1) : (s.map (·.1)).Nodup := by
  rw [List.Nodup, List.pairwise_map]
  refine h.imp fun {a b} h e => ?_
  rw [e] at h
  exact Lin.irr _ h
theorem Canon.nd {l s : List (κ × Int)} (h : Canon l s) : (s.map (·.1)).Nodup := asc_nodup h.asc
theorem Canon.ink {l s : List (κ × Int)} (h : Canon l s) {p : κ × Int} (hp : p ∈ s) : p.2 = coef l p.1 := by
  rw [← h.eq, coef_nodup h.nd hp]
theorem asc_unique : ∀ {s t : List (κ × Int)}, s.Pairwise (fun p q => Lin.lt p.1 q.1) → t.Pairwise (fun p q => Lin.lt p.1 q.1) → (∀ p, p ∈ s ↔ p ∈ t) → s = t
  | [], [], _, _, _ => rfl
  | [], q :: t, _, _, h => by
    have := (h q).mpr List.mem_cons_self
    cases this
  | p :: s, [], _, _, h => by
    have := (h p).mp List.mem_cons_self
    cases this
  | p :: s, q :: t, hs, ht, h => by
    rw [List.pairwise_cons] at hs ht
    have e : p = q := by
      rcases List.mem_cons.mp ((h p).mp List.mem_cons_self) with e | hp
      · exact e
      · rcases List.mem_cons.mp ((h q).mpr List.mem_cons_self) with e | hq
        · exact e.symm
        · exact absurd (Lin.tra _ _ _ (hs.1 q hq) (ht.1 p hp)) (Lin.irr _)
    subst e
    rw [asc_unique hs.2 ht.2 fun r => ?_]
    constructor
    · intro hr
      rcases List.mem_cons.mp ((h r).mp (List.mem_cons_of_mem _ hr)) with e | z
      · exact absurd (e ▸ hs.1 r hr) (Lin.irr _)
      · exact z
    · intro hr
      rcases List.mem_cons.mp ((h r).mpr (List.mem_cons_of_mem _ hr)) with e | z
      · exact absurd (e ▸ ht.1 r hr) (Lin.irr _)
      · exact z
theorem Canon.mem {l s : List (κ × Int)} (h : Canon l s) (p : κ × Int) : p ∈ s ↔ p.2 = coef l p.1 ∧ p.2 ≠ 0 := by
  constructor
  · exact fun hp => ⟨h.ink hp, h.non p hp⟩
  · rintro ⟨e, n⟩
    have : coef s p.1 ≠ 0 := by rw [h.eq, ← e]; exact n
    obtain ⟨q, hq, e2⟩ := coef_mem this
    have e3 := h.ink hq
    have : q = p := Prod.ext e2 (by rw [e3, e2, e])
    exact this ▸ hq
theorem Canon.unique {l m s t : List (κ × Int)} (a : Canon l s) (b : Canon m t) (e : ∀ k, coef l k = coef m k) : s = t :=
  asc_unique a.asc b.asc fun p => by rw [a.mem, b.mem, e]
theorem Canon.single {l s : List (κ × Int)} (a : Canon l s) {k : κ} {i : Int} (h : ∀ q, coef l q = if k = q then i else 0) (hi : i ≠ 0) : s = [(k, i)] :=
  a.unique (m := [(k, i)]) ⟨List.pairwise_singleton _ _, fun p hp => by rw [List.mem_singleton.mp hp]; exact hi, fun _ => rfl⟩ fun q => by rw [h q, coef_cons, coef_nil]; show _ = (if k = q then i else 0) + 0; rw [Int.add_zero]
theorem Canon.of_single {l : List (κ × Int)} {k : κ} {i : Int} (a : Canon l [(k, i)]) (q : κ) : coef l q = if k = q then i else 0 := by
  rw [← a.eq q, coef_cons, coef_nil]
  show (if k = q then i else 0) + 0 = _
  rw [Int.add_zero]
/-- what the sorts give -/
theorem Canon.of_perm {l s : List (κ × Int)} (hp : s.Perm (nz (tally l))) (hs : s.Pairwise fun p q => ¬ Lin.lt q.1 p.1) : Canon l s := by
  have nd : (s.map (·.1)).Nodup := (hp.map (·.1)).nodup_iff.mpr (nodup_nz (nodup_tally l))
  refine ⟨?_, fun p h => (mem_nz (hp.mem_iff.mp h)).2, fun k => by rw [coef_perm hp, coef_nz, coef_tally]⟩
  have h2 : s.Pairwise fun p q => p.1 ≠ q.1 := by
    rw [List.Nodup, List.pairwise_map] at nd
    exact nd
  exact (hs.and h2).imp fun {p q} h => by
    rcases Lin.tri p.1 q.1 with z | z | z
    · exact z
    · exact absurd z h.2
    · exact absurd z h.1
theorem nodup_of_keys {s : List (κ × Int)} (h : (s.map (·.1)).Nodup) : s.Nodup := by
  rw [List.Nodup, List.pairwise_map] at h
  exact h.imp fun {a b} h e => h (by rw [e])
theorem Canon.length {l s : List (κ × Int)} (h : Canon l s) : s.length ≤ l.length := by
  have hp : ∀ p, p ∈ s ↔ p ∈ nz (tally l) := fun p => by
    rw [h.mem]
    constructor
    · rintro ⟨e, n⟩
      have : coef (nz (tally l)) p.1 ≠ 0 := by rw [coef_nz, coef_tally, ← e]; exact n
      obtain ⟨q, hq, e2⟩ := coef_mem this
      have e3 := coef_nodup (nodup_nz (nodup_tally l)) hq
      rw [coef_nz, coef_tally, e2, ← e] at e3
      have : q = p := Prod.ext e2 e3.symm
      exact this ▸ hq
    · intro hp
      have e3 := coef_nodup (nodup_nz (nodup_tally l)) hp
      rw [coef_nz, coef_tally] at e3
      exact ⟨e3.symm, (mem_nz hp).2⟩
  have nd1 : s.Nodup := nodup_of_keys h.nd
  have nd2 : (nz (tally l)).Nodup := nodup_of_keys (nodup_nz (nodup_tally l))
  have := (List.perm_ext_iff_of_nodup nd1 nd2).mpr hp
  rw [this.length_eq]
  exact Nat.le_trans (length_nz _) (length_tally _)
end
end SV

namespace SV
/-! ### cells -/
inductive Kd where
  | d | e | n | u | v | w
  deriving DecidableEq, Repr
abbrev Place := Int × Int
abbrev Cell := Int × Int × Kd
abbrev Row := Cell × Int
abbrev Spot := Place × Int
/-- the corners of a cell, from its own place -/
def offs : Kd → List Place
  | .d => [(0, 0)]
  | .e => [(0, 0), (1, 0)]
  | .n => [(0, 0), (0, 1)]
  | .u => [(0, 0), (0, 1), (1, 0)]
  | .v => [(-1, 1), (0, 0), (0, 1)]
  | .w => [(-1, 1), (0, 0)]
def sgn : Kd → Int
  | .d => 1
  | .u => 1
  | .v => 1
  | .e => -1
  | .n => -1
  | .w => -1
def shift (x y : Int) (p : Place) : Place := (x + p.1, y + p.2)
def corners (c : Cell) : List Place := (offs c.2.2).map (shift c.1 c.2.1)
def hts : Nat → Place
  | 0 => (2, 1)
  | 1 => (1, 2)
  | 2 => (-1, 1)
  | 3 => (-2, -1)
  | 4 => (-1, -2)
  | 5 => (1, -1)
  | _ => (0, 0)
def ht (i : Nat) (p : Place) : Int := (hts i).1 * p.1 + (hts i).2 * p.2
def lower (i : Nat) (f p : Place) : Place := if ht i p < ht i f then p else f
def lowF (i : Nat) : List Place → Place
  | [] => (0, 0)
  | p :: r => r.foldl (lower i) p
/-- the lowest corner's place from the cell's own -/
def low (i : Nat) (k : Kd) : Place := lowF i (offs k)
def lowM (i : Nat) (c : Cell) : Place := shift c.1 c.2.1 (low i c.2.2)
theorem ht_shift (i : Nat) (x y : Int) (p : Place) : ht i (shift x y p) = ht i (x, y) + ht i p := by
  show (hts i).1 * (x + p.1) + (hts i).2 * (y + p.2) = (hts i).1 * x + (hts i).2 * y + ((hts i).1 * p.1 + (hts i).2 * p.2)
  rw [Int.mul_add, Int.mul_add]
  omega
theorem lower_shift (i : Nat) (x y : Int) (f p : Place) : lower i (shift x y f) (shift x y p) = shift x y (lower i f p) := by
  unfold lower
  rw [ht_shift, ht_shift]
  by_cases h : ht i p < ht i f
  · rw [if_pos h, if_pos (by omega)]
  · rw [if_neg h, if_neg (by omega)]
theorem foldl_shift (i : Nat) (x y : Int) : ∀ (l : List Place) (f : Place), (l.map (shift x y)).foldl (lower i) (shift x y f) = shift x y (l.foldl (lower i) f)
  | [], _ => rfl
  | p :: r, f => by
    rw [List.map_cons, List.foldl_cons, List.foldl_cons, lower_shift]
    exact foldl_shift i x y r _
theorem offs_ne (k : Kd) : offs k ≠ [] := by cases k <;> exact fun h => nomatch h
theorem lowF_corners (i : Nat) (c : Cell) : lowF i (corners c) = lowM i c := by
  unfold corners lowM low
  cases h : offs c.2.2 with
  | nil => exact absurd h (offs_ne _)
  | cons p r => exact foldl_shift i c.1 c.2.1 r p
/-! ### closures -/
/-- the cells of a closure, from the own place -/
def clos0 : Kd → List Cell
  | .d => [(0, 0, .d)]
  | .e => [(0, 0, .d), (1, 0, .d), (0, 0, .e)]
  | .n => [(0, 0, .d), (0, 1, .d), (0, 0, .n)]
  | .u => [(0, 0, .d), (0, 1, .d), (1, 0, .d), (0, 0, .n), (0, 0, .e), (1, 0, .w), (0, 0, .u)]
  | .v => [(-1, 1, .d), (0, 0, .d), (0, 1, .d), (0, 0, .w), (-1, 1, .e), (0, 0, .n), (0, 0, .v)]
  | .w => [(-1, 1, .d), (0, 0, .d), (0, 0, .w)]
def shiftC (x y : Int) (c : Cell) : Cell := (x + c.1, y + c.2.1, c.2.2)
def clos (c : Cell) : List Cell := (clos0 c.2.2).map (shiftC c.1 c.2.1)
/-- the cell turned by three turns -/
def opp0 : Kd → Cell
  | .d => (0, 0, .d)
  | .e => (-1, 0, .e)
  | .n => (0, -1, .n)
  | .w => (1, -1, .w)
  | .u => (0, -1, .v)
  | .v => (0, -1, .u)
def opp (c : Cell) : Cell := ((opp0 c.2.2).1 - c.1, (opp0 c.2.2).2.1 - c.2.1, (opp0 c.2.2).2.2)
end SV

namespace SV
/-! ### orders -/
def kn : Kd → Nat
  | .d => 0
  | .e => 1
  | .n => 2
  | .u => 3
  | .v => 4
  | .w => 5
theorem kn_inj : ∀ {a b : Kd}, kn a = kn b → a = b := by intro a b; cases a <;> cases b <;> simp [kn]
instance : Lin Place where
  lt p q := p.1 < q.1 ∨ (p.1 = q.1 ∧ p.2 < q.2)
  irr := fun a h => by omega
  tra := fun a b c h1 h2 => by omega
  tri := fun a b => by
    by_cases h : a.1 = b.1 ∧ a.2 = b.2
    · exact .inr (.inl (Prod.ext h.1 h.2))
    · omega
instance : Lin Cell where
  lt p q := p.1 < q.1 ∨ (p.1 = q.1 ∧ (p.2.1 < q.2.1 ∨ (p.2.1 = q.2.1 ∧ kn p.2.2 < kn q.2.2)))
  irr := fun a h => by omega
  tra := fun a b c h1 h2 => by omega
  tri := fun a b => by
    by_cases h : a.1 = b.1 ∧ a.2.1 = b.2.1 ∧ kn a.2.2 = kn b.2.2
    · exact .inr (.inl (Prod.ext h.1 (Prod.ext h.2.1 (kn_inj h.2.2))))
    · omega
section
variable {α : Type} [Lin α]
theorem up_unique : ∀ {s t : List α}, s.Pairwise (fun p q => ¬ Lin.lt q p) → t.Pairwise (fun p q => Lin.lt p q) → s.Perm t → s = t
  | [], t, _, _, h => by
    have := h.length_eq
    cases t with
    | nil => rfl
    | cons a r => simp at this
  | p :: s, t, hs, ht, h => by
    cases t with
    | nil => have := h.length_eq; simp at this
    | cons q t =>
      rw [List.pairwise_cons] at hs ht
      have e : p = q := by
        have hp : p ∈ q :: t := h.mem_iff.mp List.mem_cons_self
        have hq : q ∈ p :: s := h.mem_iff.mpr List.mem_cons_self
        rcases List.mem_cons.mp hp with e | hp
        · exact e
        · rcases List.mem_cons.mp hq with e | hq
          · exact e.symm
          · exact absurd (ht.1 p hp) (hs.1 q hq)
      subst e
      rw [up_unique hs.2 ht.2 (List.Perm.cons_inv h)]
end
theorem corners_up (c : Cell) : (corners c).Pairwise (fun p q => Lin.lt p q) := by
  obtain ⟨x, y, k⟩ := c
  cases k <;> simp [corners, offs, shift, Lin.lt] <;> omega
/-- the stroke between two corners -/
def strk (p q : Place) : Cell := if q = (p.1 + 1, p.2) then (p.1, p.2, .e) else if q = (p.1, p.2 + 1) then (p.1, p.2, .n) else (q.1, q.2, .w)
def dotC (p : Place) : Cell := (p.1, p.2, .d)
theorem dotC_corners (p : Place) : corners (dotC p) = [p] := by
  show [(p.1 + 0, p.2 + 0)] = [p]
  rw [Int.add_zero, Int.add_zero]
def strkRow (ps : List Place) (i : Nat) : List Cell := match ps[i]? with
  | some p => (ps.drop (i + 1)).map (strk p)
  | none => []
def strkTo (ps : List Place) : Nat → List Cell
  | 0 => []
  | i + 1 => strkTo ps i ++ strkRow ps i
theorem strk_ok (c : Cell) {i j : Nat} {p q : Place} (hp : (corners c)[i]? = some p) (hq : (corners c)[j]? = some q) (h : i < j) : corners (strk p q) = [p, q] := by
  obtain ⟨x, y, k⟩ := c
  have hj : j < (corners (x, y, k)).length := (List.getElem?_eq_some_iff.mp hq).1
  have hl : (corners (x, y, k)).length ≤ 3 := by cases k <;> simp [corners, offs]
  have go : ∀ a b : Place, b.1 = a.1 + 1 ∧ b.2 = a.2 ∨ b.1 = a.1 ∧ b.2 = a.2 + 1 ∨ b.1 = a.1 + 1 ∧ b.2 = a.2 - 1 → corners (strk a b) = [a, b] := by
    rintro ⟨a1, a2⟩ ⟨b1, b2⟩ h
    simp only at h
    rcases h with ⟨rfl, rfl⟩ | ⟨rfl, rfl⟩ | ⟨rfl, rfl⟩
    · simp [strk, corners, offs, shift]
    · have h1 : ¬ (b1 = b1 + 1) := by omega
      simp [strk, corners, offs, shift, h1]
    · have h1 : ¬ (a2 - 1 = a2) := by omega
      have h2 : ¬ (a1 + 1 = a1) := by omega
      simp [strk, corners, offs, shift, h1, h2]
      omega
  apply go
  have hc : (i = 0 ∧ j = 1) ∨ (i = 0 ∧ j = 2) ∨ (i = 1 ∧ j = 2) := by omega
  rcases hc with ⟨rfl, rfl⟩ | ⟨rfl, rfl⟩ | ⟨rfl, rfl⟩ <;> cases k <;> simp [corners, offs, shift] at hp hq <;> subst hp <;> subst hq <;> simp <;> omega
theorem clos_eq (c : Cell) : clos c = (corners c).map dotC ++ strkTo (corners c) (corners c).length ++ (if (corners c).length = 3 then [c] else []) := by
  obtain ⟨x, y, k⟩ := c
  have a : ∀ z : Int, ¬ z = z + 1 := by intro z; omega
  have b : ∀ z : Int, ¬ z + 1 = z := by intro z; omega
  have c1 : ∀ z : Int, ¬ z = z + -1 := by intro z; omega
  have d : ∀ z : Int, z = z + -1 + 1 := by intro z; omega
  cases k <;> simp [clos, clos0, shiftC, corners, offs, shift, dotC, strkTo, strkRow, strk, a, b, c1, ← d]
/-- a cell's shape, from its least corner -/
def first (c : Cell) : Place := shift c.1 c.2.1 ((offs c.2.2).headD (0, 0))
def shape : Kd → List Place
  | .d => [(0, 0)]
  | .e => [(0, 0), (1, 0)]
  | .n => [(0, 0), (0, 1)]
  | .u => [(0, 0), (0, 1), (1, 0)]
  | .v => [(0, 0), (1, -1), (1, 0)]
  | .w => [(0, 0), (1, -1)]
theorem shape_eq (c : Cell) : (corners c).map (fun p => (p.1 - (first c).1, p.2 - (first c).2)) = shape c.2.2 := by
  obtain ⟨x, y, k⟩ := c
  cases k <;> simp [corners, offs, shift, first, shape] <;> omega
theorem first_at (c : Cell) : (corners c)[0]? = some (first c) := by
  obtain ⟨x, y, k⟩ := c
  cases k <;> rfl
theorem first_back (c : Cell) : ((first c).1 - ((offs c.2.2).headD (0, 0)).1, (first c).2 - ((offs c.2.2).headD (0, 0)).2) = (c.1, c.2.1) := by
  unfold first shift
  ext <;> simp <;> omega
theorem opp_corners (c : Cell) : ((corners c).map fun p => (-p.1, -p.2)).Perm (corners (opp c)) := by
  obtain ⟨x, y, k⟩ := c
  have h : ((corners (x, y, k)).map fun p => (-p.1, -p.2)).reverse = corners (opp (x, y, k)) := by
    cases k <;> simp [corners, offs, shift, opp, opp0] <;> omega
  rw [← h]
  exact (List.reverse_perm _).symm
end SV
end

section
set_option Elab.async false
set_option linter.all false
/-! The sweeps of two cells. -/
namespace SV
/-- what two kinds sweep, the lesser first -/
def sw : Kd → Kd → Int × List Cell
  | .d, .d => (1, [(0, 0, .d)])
  | .d, .e => (1, [(0, 0, .e)])
  | .d, .n => (1, [(0, 0, .n)])
  | .d, .u => (1, [(0, 0, .u)])
  | .d, .v => (1, [(0, 0, .v)])
  | .d, .w => (1, [(0, 0, .w)])
  | .e, .e => (-1, [(0, 0, .e), (1, 0, .d), (1, 0, .e)])
  | .e, .n => (1, [(0, 0, .u), (1, 0, .v), (1, 0, .w)])
  | .e, .u => (-1, [(0, 0, .u), (1, 0, .n), (1, 0, .u), (1, 0, .v), (1, 0, .w)])
  | .e, .v => (-1, [(0, 0, .n), (0, 0, .u), (0, 0, .v), (1, 0, .v), (1, 0, .w)])
  | .e, .w => (1, [(0, 0, .n), (0, 0, .u), (0, 0, .v)])
  | .n, .n => (-1, [(0, 0, .n), (0, 1, .d), (0, 1, .n)])
  | .n, .u => (-1, [(0, 0, .u), (0, 1, .e), (0, 1, .u), (1, 0, .v), (1, 0, .w)])
  | .n, .v => (-1, [(-1, 1, .e), (-1, 1, .u), (0, 0, .v), (0, 1, .v), (0, 1, .w)])
  | .n, .w => (1, [(-1, 1, .e), (-1, 1, .u), (0, 0, .v)])
  | .u, .u => (1, [(0, 0, .u), (0, 1, .e), (0, 1, .u), (1, 0, .n), (1, 0, .u), (1, 0, .v), (1, 0, .w)])
  | .u, .v => (1, [(-1, 1, .e), (-1, 1, .u), (0, 0, .n), (0, 0, .u), (0, 0, .v), (0, 1, .d), (0, 1, .e), (0, 1, .n), (0, 1, .u), (0, 1, .v), (0, 1, .w), (1, 0, .v), (1, 0, .w)])
  | .u, .w => (-1, [(-1, 1, .e), (-1, 1, .u), (0, 0, .n), (0, 0, .u), (0, 0, .v)])
  | .v, .v => (1, [(-1, 1, .e), (-1, 1, .n), (-1, 1, .u), (-1, 1, .v), (0, 0, .v), (0, 1, .v), (0, 1, .w)])
  | .v, .w => (-1, [(-1, 1, .e), (-1, 1, .n), (-1, 1, .u), (-1, 1, .v), (0, 0, .v)])
  | .w, .w => (-1, [(-1, 1, .d), (-1, 1, .w), (0, 0, .w)])
  | _, _ => (1, [])
def swp (a b : Kd) : Int × List Cell := if kn a ≤ kn b then sw a b else sw b a
def sweep (p q : Row) : List Row := (swp p.1.2.2 q.1.2.2).2.map fun d => ((p.1.1 + q.1.1 + d.1, p.1.2.1 + q.1.2.1 + d.2.1, d.2.2), (swp p.1.2.2 q.1.2.2).1 * p.2 * q.2)
def sweepL (s t : List Row) : List Row := s.flatMap fun p => t.flatMap fun q => sweep p q
theorem sw_len (a b : Kd) : (swp a b).2.length ≤ 13 := by cases a <;> cases b <;> decide
theorem sw_sgn (a b : Kd) : (swp a b).1 = 1 ∨ (swp a b).1 = -1 := by cases a <;> cases b <;> decide
theorem sweep_len (p q : Row) : (sweep p q).length ≤ 13 := by unfold sweep; rw [List.length_map]; exact sw_len _ _
theorem flat_len {α β : Type} (l : List α) (g : α → List β) (m : Nat) (h : ∀ x ∈ l, (g x).length ≤ m) : (l.flatMap g).length ≤ l.length * m := by
  induction l with
  | nil => simp
  | cons x r ih =>
    rw [List.flatMap_cons, List.length_append, List.length_cons, Nat.succ_mul]
    have h1 := h x List.mem_cons_self
    have h2 := ih fun y hy => h y (List.mem_cons_of_mem _ hy)
    omega
theorem sweepL_len (s t : List Row) : (sweepL s t).length ≤ s.length * t.length * 13 := by
  unfold sweepL
  refine Nat.le_trans (flat_len s _ (t.length * 13) fun p _ => flat_len t _ 13 fun q _ => sweep_len p q) ?_
  rw [Nat.mul_assoc]
  exact Nat.le_refl _
end SV
end

section
set_option Elab.async false
set_option linter.all false
set_option maxRecDepth 100000
set_option maxHeartbeats 2000000
/-! Own rules over the hand layer. -/
namespace SV
open PySem PySem.Spec PyProof.Rows L2

/-! ### sorted of a list of data -/
theorem each_vals {β : Type} {va : β → V} : ∀ {bs : List β} {us : List Value}, Vals (bs.map va) us → PySem.W.EachIs (fun u b => RelV (va b) u) us bs
  | [], _, r => by cases r; exact .nil
  | b :: bs, _, r => by
    cases r with
    | cons r1 r2 => exact .cons r1 (each_vals r2)
theorem vals_each {β : Type} {va : β → V} : ∀ {us : List Value} {bs : List β}, PySem.W.EachIs (fun u b => RelV (va b) u) us bs → Vals (bs.map va) us
  | _, _, .nil => .nil
  | _, _, .cons r t => .cons r (vals_each t)
theorem each_both {α β : Type} {R S : α → β → Prop} : ∀ {as : List α} {bs : List β}, PySem.W.EachIs R as bs → (∀ a b, b ∈ bs → R a b → S a b) → PySem.W.EachIs S as bs
  | _, _, .nil, _ => .nil
  | _, _, .cons r t, h => .cons (h _ _ List.mem_cons_self r) (each_both t fun a b hb => h a b (List.mem_cons_of_mem _ hb))
/-- sorted(xs), xs a list of data of one shape; va: where each stands, enc: what it says -/
@[irreducible] def rSortedD (K : PySem.W.Frag) : List V → Hp → VK → Prop := fun vs H Q => ∃ (β : Type) (bs : List β) (va : β → V) (enc : β → PyData) (a : Addr), vs = [V.ref a] ∧ SqL K H a (bs.map va) ∧
  (∀ b ∈ bs, Dp K H (va b) (enc b)) ∧ PySem.W.AllAlike (bs.map enc) ∧ PySem.W.Sortable (bs.map enc) ∧ (∀ b ∈ bs, (enc b).depth ≤ 8) ∧
  ∀ p, H p = none → Q (.ref p) (upd H p (.lst ((bs.mergeSort (PySem.W.dataLe false enc)).map va)))
theorem cr_sortedD {X : Cx} (hu : X.A.units + 16 < cLine) : CallR X (.builtin "sorted") (rSortedD X.K) := by
  intro pins s σ H vs us Q I r h
  unfold rSortedD at h
  obtain ⟨β, bs, va, enc, a, rfl, hs, hd, hal, hso, hdp, q⟩ := h
  obtain ⟨its, rv, hl, hz⟩ := I.list hs
  rw [Vals.ref1 r]
  have e := each_vals rv
  have hlen : bs.length ≤ sizeLine := by rw [List.length_map] at hz; exact hz
  have er : PySem.W.EachIs (fun v b => ∃ as, Reads s.heap v (enc b) as) its bs := each_both e fun u b hb ru => Dp.reads I (enc b) (va b) u (hd b hb) ru
  refine PySem.W.sorted_data (R := fun u b => RelV (va b) u) (enc := enc) hl.isList e er hal hso hlen (fun b hb => by have := hdp b hb; omega) fun out ho hr => ?_
  obtain ⟨ep, he'⟩ := PyProof.Rows.sortedAll_at s.heap its out.toArray
  have rr := vals_each hr
  have hl2 : ((bs.mergeSort (PySem.W.dataLe false enc)).map va).length ≤ sizeLine := by rw [List.length_map, List.length_mergeSort]; exact hlen
  exact ⟨.ref _, upd H (s.heap.objs.size + 1) (.lst ((bs.mergeSort (PySem.W.dataLe false enc)).map va)), I.laid (t' := s.toks) (fun _ _ => PyProof.Rows.sortedAll_old) (Nat.le_succ _) ⟨hl2, out, ep, rr, he'⟩, rfl, q _ (I.hok.fresh (Nat.le_succ _))⟩
/-! ### t < u of data -/
def rLtD (K : PySem.W.Frag) : R2 := fun x y H Q => ∃ d e, Dp K H x d ∧ Dp K H y e ∧ PySem.W.alike d e = true ∧ d ≠ .none ∧ d.depth ≤ 8 ∧ Q (.bl (PySem.W.dataLt d e)) H
theorem op_ltD {X : Cx} (hu : X.A.units + 16 < cLine) : OpR X (compareOp .Lt) (rLtD X.K) := by
  intro pins s σ H x y v u Q I rx ry h
  obtain ⟨d, e, hd, he, hal, hn, hdp, q⟩ := h
  obtain ⟨as, r1⟩ := Dp.reads I d x v hd rx
  obtain ⟨bs, r2⟩ := Dp.reads I e y u he ry
  have R := PySem.W.rcLt_alike d e X.A s v u as bs r1 r2 hal hn (by have := Nat.min_le_left d.depth e.depth; omega)
  exact R X.prog X.w X.xe (EP X pins σ Q) ⟨.bl _, H, I, rfl, q⟩

/-! ### for k, v in d.items(), the keys tuples -/
theorem frzV {X : Cx} {pins : List (Addr × Obj)} {σ : L2.St} {H : Hp} {s : Shared} {d : Addr} {o : Obj} {kvs : List (List L2.Key × V)} (I : Inv X pins σ H s) (h : H d = some (.frz o (.dT kvs))) :
    (d == sysModules) = false ∧ ∃ (es : Array DictEntry) (ep : Nat), o.data = .dict es ep ∧ s.heap.DictRaw d es ep ∧ es.size = kvs.length ∧
      ∀ (i : Nat) (k : List L2.Key) (v : V), kvs[i]? = some (k, v) → ∃ (en : DictEntry) (q : Addr), es[i]? = some en ∧ en.key = .ref q ∧ H q = some (.tup (k.map kV)) ∧ RelV v en.val := by
  obtain ⟨hd, z, hs, xs, pr, o', es, ep, ho, hx, hdt, he, _⟩ := I.hok d _ h
  have ho2 := ho
  rw [hd] at ho
  cases ho
  have l1 : es.size = xs.length := size_of_entries he
  have l2 : kvs.length = xs.length := Paired.length pr
  refine ⟨hs, es, ep, hdt, ⟨o, ho2, hx, hdt⟩, by omega, fun i k v e => ?_⟩
  obtain ⟨b, hb, e1, e2, e3⟩ := paired_get pr e
  have q := entry_at he i
  rw [hb] at q
  exact ⟨_, b.2.1, q, rfl, e2, e3⟩
def ItiT (d : Addr) (o : Obj) (kvs : List (List L2.Key × V)) : It :=
  ⟨fun i H => H d = some (.frz o (.dT kvs)) ∧ i < kvs.length,
   fun i H x H' => ∃ (T q : Addr) (k : List L2.Key) (v : V), kvs[i]? = some (k, v) ∧ x = .ref T ∧ H T = none ∧ H q = some (.tup (k.map kV)) ∧ H' = upd H T (.tup [.ref q, v]),
   fun i H => H d = some (.frz o (.dT kvs)) ∧ kvs.length ≤ i⟩
theorem turn_itemsT {P : Program} {w : World} {K : PySem.W.Frag} {d : Addr} {o : Obj} {es : Array DictEntry} {ep : Nat} {kvs : List (List L2.Key × V)} {elts : List Expr} {kk : Nat} {tpos : Pos} (it : Addr) (hod : o.data = .dict es ep) :
    Turn P w K (.Tuple elts kk tpos) (ItiT d o kvs) [it] it (fun i h => ∃ ok ov, IsItemIter h it d i es.size ep ok ov) where
  mem := by simp
  obj := fun i h st b hb => by
    have e : b = it := by simpa using hb
    subst e
    obtain ⟨ok, ov, e⟩ := st
    exact ⟨_, e, fun v z => nomatch z⟩
  keep := fun i h h' st k => let ⟨ok, ov, e⟩ := st; ⟨ok, ov, k it (by simp) _ e⟩
  item := by
    intro X hP hw hK hc i pins s σ H E I hf st hg
    subst hP hw hK
    obtain ⟨hd, hi⟩ := hg
    obtain ⟨hs, es', ep', hdt, hraw, hsz, ent⟩ := frzV I hd
    obtain ⟨rfl, rfl⟩ := dict_ep hod hdt
    obtain ⟨⟨k, v⟩, hkv⟩ : ∃ p, kvs[i]? = some p := ⟨kvs[i], List.getElem?_eq_getElem hi⟩
    obtain ⟨en, q, hen, hkey, hq, rv⟩ := ent i k v hkv
    obtain ⟨ok, ov, he⟩ := st
    have hlt : it < s.heap.objs.size := Heap.lt_size he
    have hi2 : i < es'.size := by omega
    have hen2 : es'[i] = en := by
      have z := Array.getElem?_eq_getElem hi2
      rw [hen] at z
      exact (Option.some.inj z).symm
    refine wpAny_pyNext_items_item_raw he hraw hi2 fun h' ho hT hz hk => ?_
    rw [hen2, hkey] at ho hT
    refine ⟨_, rfl, wpAny_letOwnedTupleGo_items (s := { s with heap := h' }) ho fun h'' he' sb => ?_⟩
    have hT2 : h''.get? s.heap.objs.size = some { cls := .type "tuple", data := .seq #[.ref q, en.val] } := (sb.2 _ (Nat.ne_of_gt hlt)).trans hT
    have nw : ObjOk X.prog X.w (upd H s.heap.objs.size (.tup [.ref q, v])) h'' s.heap.objs.size (.tup [.ref q, v]) :=
      ⟨by show 2 ≤ sizeLine; decide, [.ref q, en.val], .cons rfl (.cons rv .nil), ⟨_, hT2, rfl, _, rfl⟩⟩
    have I1 : Inv X pins σ (upd H s.heap.objs.size (.tup [.ref q, v])) { s with heap := h'' } :=
      I.turnedNew (t' := s.toks) (ch := [it]) (fun b ob hb z => (sb.2 b (by simpa using hb)).trans (hk b ob (by simpa using hb) z)) hf (Nat.le_refl _) nw
    refine ⟨.ref s.heap.objs.size, _, I1, rfl, ⟨_, q, k, v, hkv, rfl, I.hok.fresh (Nat.le_refl _), hq, rfl⟩, ⟨.ref q, en.val, he'⟩, fun b hb => ?_⟩
    have e : b = it := by simpa using hb
    rw [e, upd_ne (Nat.ne_of_lt hlt)]
    exact (hf it (by simp)).1
  done := by
    intro X hP hw hK hc i pins s σ H E I hf st hg
    subst hP hw hK
    obtain ⟨hd, hi⟩ := hg
    obtain ⟨f0, f1, f2, f3, f4, f5⟩ := hf it (by simp)
    obtain ⟨hs, es', ep', hdt, hraw, hsz, ent⟩ := frzV I hd
    obtain ⟨rfl, rfl⟩ := dict_ep hod hdt
    obtain ⟨ok, ov, he⟩ := st
    exact wpAny_pyNext_items_end_raw (I.ok.hd hc) he hraw (by omega) fun h' eb => ⟨rfl, I.turned (t' := s.toks) (fun b o hb e => eb b o hb e) f0 f1 f3 f4 f5⟩
  self := fun A i s Q E st h => let ⟨_, _, e⟩ := st; PySem.W.kcp_self e h
def iItemsT (td : TE) : TI := fun σ H R => td σ H fun x H1 => ∃ d o kvs, x = .ref d ∧ H1 d = some (.frz o (.dT kvs)) ∧ R (ItiT d o kvs) H1
theorem pi_itemsT {X : Cx} {e : Expr} {td : TE} {apos cpos : Pos} {elts : List Expr} {kk : Nat} {tpos : Pos} (he : PE X e td) (hb : attributeBase e "items" X.env (eval e X.env) = eval e X.env := by rfl) (hl : (apos.endLine == cpos.line) = true := by rfl) :
    PI X (.Tuple elts kk tpos) (.Call (.Attribute e "items" apos) [] [] cpos) (iItemsT td) := by
  refine ⟨fun pins s σ H R I h => ?_⟩
  refine wpAny_Call_method (T := "dict") (id := "dict.items") hb rfl hl F.plainAttrs_dict F.slot_dict_items F.type_dict_items (thn (he.run pins s σ H _ I h) fun u s1 ⟨x, H1, I1, rx, d, o, kvs, ex, hd, q⟩ => ?_)
  subst ex
  obtain rfl : u = Value.ref d := rx
  obtain ⟨hs, es, ep, hdt, hraw, hsz, ent⟩ := frzV I1 hd
  refine ⟨hraw.typeIs, ?_, ?_⟩
  · obtain ⟨ob, hob, hx, hdd⟩ := hraw
    intro a ea
    cases ea
    exact ⟨ob, hob, hx.2.1⟩
  have I2 : Inv X pins σ H1 { s1 with heap := s1.heap.push { cls := .type "dict_items", data := .fields #[.ref d] } } := I1.kept (t' := s1.toks) fun b ob q => Heap.get?_push_of_some _ q
  have fin : wpAny (model X.prog X.w) X.A (pyIter (.ref s1.heap.objs.size)) (PIE X pins σ (.Tuple elts kk tpos) R) X.xe { s1 with heap := s1.heap.push { cls := .type "dict_items", data := .fields #[.ref d] } } := by
    refine wpAny_pyIter_items_raw (d := d) ⟨_, Heap.get?_push_size _ rfl, rfl, rfl⟩ (hraw.at fun ob z => Heap.get?_push_of_some _ z) (pi_one (tk := s1.toks) I2 _ (turn_itemsT _ hdt) ⟨.none, .none, ?_⟩ q)
    exact Heap.get?_push_size _ rfl
  show wpAny _ _ (callWith cpos (.builtin "dict.items") [.ref d] [] []) _ X.xe s1
  exact method_meetsIn F.slot_dict_items F.entry_dict_items rfl (PySem.evalArgs_none ⟨rfl, hraw.typeIs, F.args_dict_items_1 _, _, meets_dict_items_raw d hs, ⟨es, ep, hraw⟩, fin⟩)

/-! ### {k: v for ..}, the keys tuples -/
theorem d_dictSetT {X : Cx} {pins : List (Addr × Obj)} {σ : L2.St} {H : Hp} {s : Shared} {E : Value → Shared → Prop} {D b : Addr} {kvs : List (List L2.Key × V)} {k : List L2.Key} {v : V} {u r : Value} {Q : Unit → Shared → Prop} (hu : X.A.units + 1 < cLine)
    (I : Inv X pins σ H s) (hD : H D = some (.dT kvs)) (hb : H b = some (.tup (k.map kV))) (hz : kvs.length < sizeLine) (ry : RelV (.ref b) u) (rv : RelV v r) (h : ∀ s', Inv X pins σ (upd H D (.dT (putK kvs k v))) s' → Q () s') :
    wpAny (model X.prog X.w) X.A (dictSet D u r) Q E s := by
  cases (show u = Value.ref b from ry)
  obtain ⟨z, hd, xs, rel, dd⟩ := dt_of I.hok hD
  have hzx : xs.length ≤ sizeLine := by rw [← Paired.length rel]; exact z
  have hl : (putK kvs k v).length ≤ sizeLine := by have := length_putK kvs k v; omega
  refine wpAny_dictSet_heap (hsz := hzx) (show (tupleKind (mixKind X.prog X.w)).room X.A from Nat.lt_of_succ_lt hu) (key_of I.hok hb) dd fun h' dd' hs => h _ ?_
  obtain ⟨q, es, ep, hq, h2, h3, h4, _, h5⟩ := dd'
  refine d_write I (by rw [hD]; exact True.intro) hs ⟨q, hq⟩ ⟨hl, hd, _, (rel.put k hb rv).keeps fun c ys ec => ?_, q, es, ep, hq, h2, h3, h4, h5⟩
  rw [upd_ne (ne_of ec hD (fun z => nomatch z))]
  exact ec
section
variable {X : Cx}
def tDcT (wi : TI) (g : TG) (tt : TT) (tk tv : TE) (vs : List Nat) : TE := fun σ H Q => wi σ H fun J G1 => ∀ D, G1 D = none → ∃ W : Nat → Nat → Hp → Prop, (∃ m, W 0 m (upd G1 D (.dT []))) ∧ ∀ i m H, W i m H →
  (J.stop i H ∧ Q (.ref D) H) ∨ (J.go i H ∧ ∃ Nx : Hp → Prop, (∀ H', Nx H' → ∃ m', m' < m ∧ W (i + 1) m' H') ∧ ∀ x H', J.yld i H x H' → g x (wipe σ vs) H' fun σ2 G2 => wipe σ2 vs = wipe σ vs ∧ tt σ2 G2 fun b G3 =>
    if b = true then tk σ2 G3 fun y G4 => tv σ2 G4 fun z G5 => ∃ (kvs : List (List L2.Key × V)) (k : List L2.Key) (b : Addr), y = .ref b ∧ G5 b = some (.tup (k.map kV)) ∧ G5 D = some (.dT kvs) ∧ kvs.length < sizeLine ∧ Nx (upd G5 D (.dT (putK kvs k z))) else Nx G3)
theorem dcT_core {pins : List (Addr × Obj)} {s : Shared} {σ : L2.St} {H : Hp} {Q : VK} {kx vx tg iter : Expr} {ifs : List Expr} {scope : Scope} {own : List (Str × Nat)} {pos pos' : Pos} {wi : TI} {g : TG} {tt : TT} {tk tv : TE} {use : Option (Value → Sem Unit)} {Qf : Value → Shared → Prop}
    (hu : X.A.units + 1 < cLine) (hc : X.calm = true) (hN : X.N.Nodup) (I : Inv X pins σ H s) (hi : PI X tg iter wi) (ok : BlkOk X.N X.env.scope scope own)
    (hg : ∀ (s : Shared) (H : Hp) (C : Addr) (cl : List (Str × Addr)) (fp : List Addr), PG (X.blk s H scope (compEnvC scope cl C X.env) fp) tg g) (ht : ∀ (s : Shared) (H : Hp) (C : Addr) (cl : List (Str × Addr)) (fp : List Addr), PTs (X.blk s H scope (compEnvC scope cl C X.env) fp) ifs tt)
    (hk : ∀ (s : Shared) (H : Hp) (C : Addr) (cl : List (Str × Addr)) (fp : List Addr), PE (X.blk s H scope (compEnvC scope cl C X.env) fp) kx tk)
    (he : ∀ (s : Shared) (H : Hp) (C : Addr) (cl : List (Str × Addr)) (fp : List Addr), PE (X.blk s H scope (compEnvC scope cl C X.env) fp) vx tv) (hs : ∀ x, foldedSetIterable iter X.env x = pure x)
    (h : tDcT wi g tt tk tv (own.map (·.2)) σ H Q)
    (hRR : ∀ D C s' m H', Inv X pins σ H' s' → Q (.ref D) H' → s'.heap.Ns C m → FpOk X pins H' C → compPost (model X.prog X.w) X.A X.xe use Qf (.ref D) C (.ok .next) s') :
    wpAny (model X.prog X.w) X.A (comprehension (.DictComp kx vx [⟨tg, iter, ifs, 0⟩] scope pos) scope X.env pos' newDict false (eval iter X.env) use) Qf X.xe s := by
  have hfree : ∀ y ∈ scope.names, y.2 = .free → ∃ c, X.env.cells.lookup y.1 = some c := fun y hy e => by
    rcases ok.free y hy e with k | k
    · exact I.ok.has _ (.inl k)
    · exact I.ok.has _ (.inr k)
  refine wpAny_comprehension_free (use := use) rfl hs (closure_ok hfree) ok.kind (fun y hy e => by rw [ok.uniq y hy, e])
    (thn (hi.run pins s σ H _ I h) fun xv t1 hx => thn hx fun itv t2 h2 => ?_)
  obtain ⟨it, fp, tn, J, G2, e, B2, T, u2, f2, q⟩ := h2
  subst e
  refine wpAny_newObj_type (newEnv_comp ?_)
  generalize hD : t2.heap.objs.size = D
  have hDn : G2 D = none := B2.hok.fresh (Nat.le_of_eq hD)
  obtain ⟨W, ⟨m0, w0⟩, turn⟩ := q D hDn
  -- the new list
  generalize hs3 : ({ t2 with heap := t2.heap.push { cls := .type "dict", data := .dict #[] } } : Shared) = t3
  have B3 : Inv X pins σ (upd G2 D (.dT [])) t3 := by
    rw [← hs3]
    refine B2.laid (t' := t2.toks) (fun b o e => Heap.get?_push_of_some _ e) (Nat.le_of_eq hD) ?_
    rw [← hD]
    exact dt_empty t2.heap B2.big
  have h3 : t3.heap = t2.heap.push { cls := .type "dict", data := .dict #[] } := by rw [← hs3]
  have sz : ∀ b ∈ fp, b < t2.heap.objs.size := fun b hb => by
    obtain ⟨o, e, _⟩ := T.obj _ _ u2 b hb
    exact Heap.lt_size e
  have f3 : ∀ b ∈ fp, FpOk X pins (upd G2 D (.dT [])) b ∧ b < t3.heap.objs.size := fun b hb => by
    have hlt := sz b hb
    refine ⟨⟨?_, (f2 b hb).2⟩, by rw [h3, Heap.size_push]; exact Nat.lt_succ_of_lt hlt⟩
    rw [upd_ne (by rw [← hD]; exact Nat.ne_of_lt hlt)]
    exact (f2 b hb).1
  have u3 : tn 0 t3.heap := T.keep _ _ _ u2 fun b _ o e => by rw [h3]; exact Heap.get?_push_of_some _ e
  have B4 := block_start B3 ok hN f3
  have pg := hg t3 (upd G2 D (.dT [])) t3.heap.objs.size (cellsFrom (t3.heap.objs.size + 1) scope.names (cloFrom X.env.cells scope.names [])) fp
  have pt := ht t3 (upd G2 D (.dT [])) t3.heap.objs.size (cellsFrom (t3.heap.objs.size + 1) scope.names (cloFrom X.env.cells scope.names [])) fp
  have pk := hk t3 (upd G2 D (.dT [])) t3.heap.objs.size (cellsFrom (t3.heap.objs.size + 1) scope.names (cloFrom X.env.cells scope.names [])) fp
  have pe := he t3 (upd G2 D (.dT [])) t3.heap.objs.size (cellsFrom (t3.heap.objs.size + 1) scope.names (cloFrom X.env.cells scope.names [])) fp
  show codeAny _ _ (.compStart (.DictComp kx vx [⟨tg, iter, ifs, 0⟩] scope pos) 0 (.ref it) (.ref D) (compEnvC scope (cellsFrom (t3.heap.objs.size + 1) scope.names (cloFrom X.env.cells scope.names [])) t3.heap.objs.size X.env)) (compPost (model X.prog X.w) X.A X.xe use Qf (.ref D) t3.heap.objs.size) { t3 with heap := pushCells (t3.heap.push { cls := .type "dict", data := .dict #[] }) scope.names }
  have nfp : ∀ b ∈ fp, (upd G2 D (.dT [])) b = none := fun b hb => (f3 b hb).1.1
  generalize hce : compEnvC scope (cellsFrom (t3.heap.objs.size + 1) scope.names (cloFrom X.env.cells scope.names [])) t3.heap.objs.size X.env = ce at B4 pg pt pk pe ⊢
  have cL : ce.locals = t3.heap.objs.size := by subst hce; rfl
  generalize hH3 : upd G2 D (.dT []) = G3 at B3 B4 pg pt pk pe w0 nfp f3
  generalize hs4 : ({ t3 with heap := pushCells (t3.heap.push { cls := .type "dict", data := .dict #[] }) scope.names } : Shared) = t4 at B4 ⊢
  have u4 : tn 0 t4.heap := T.keep _ _ _ u3 fun b _ o e => by rw [← hs4]; exact pushCells_keeps _ _ _ _ (Heap.get?_push_of_some _ e)
  have stat : ∀ {σ' : L2.St} {H' : Hp} {s' : Shared}, Inv (X.blk t3 G3 scope ce fp) [] σ' H' s' → (∀ b ∈ fp, H' b = none) → ∀ b ∈ fp, FpOk (X.blk t3 G3 scope ce fp) [] H' b := fun {σ' H' s'} I' hn b hb =>
    ⟨hn b hb, (I'.ok.exf b hb).1, I'.ok.exfs b hb, .inl hb, fun x c e => (I'.ok.exf b hb).2 x c e, fun p hp => absurd (show p ∈ ([] : List (Addr × Obj)) ++ [] from hp) (by simp)⟩
  have loop : codeAny (model X.prog X.w) X.A (.compLoop (.DictComp kx vx [⟨tg, iter, ifs, 0⟩] scope pos) 0 (.ref it) (.ref D) ce) (compPost (model X.prog X.w) X.A X.xe use Qf (.ref D) t3.heap.objs.size) t4 := by
    refine compLoop_anyD (fun n s' => ∃ i H', Inv (X.blk t3 G3 scope ce fp) [] (wipe σ (own.map (·.2))) H' s' ∧ tn i s'.heap ∧ (∀ b ∈ fp, H' b = none) ∧ W i n H') ?_ m0 ⟨0, G3, B4, u4, nfp, w0⟩
    rintro n t5 ⟨i, G5, B5, u5, n5, w5⟩
    rcases turn i n G5 w5 with ⟨stop, qq⟩ | ⟨go, Nx, hNx, step⟩
    · have td := T.done (X.blk t3 G3 scope ce fp) rfl rfl rfl hc i [] t5 _ G5 (fun _ _ => False) B5 (stat B5 n5) u5 stop
      refine thnF td fun r t6 ⟨hr, B6⟩ => ?_
      subst hr
      -- back in the def's context
      have B7 : Inv X pins σ G5 t6 := B3.call' (ch := fp) B6.os B6.base B6.hok B6.bare fun b hb => ⟨(f3 b hb).1.2.2.2.1, (f3 b hb).1.2.1, (f3 b hb).1.2.2.2.2.1, (f3 b hb).1.2.2.2.2.2⟩
      have nC : G5 t3.heap.objs.size = none := by
        have z : G5 ce.locals = none := B6.free
        rw [cL] at z
        exact z
      obtain ⟨m, hn, _⟩ := B6.loc
      have hn : t6.heap.Ns ce.locals m := hn
      rw [cL] at hn
      exact hRR D t3.heap.objs.size t6 m G5 B7 qq hn (B3.fpOk (Nat.le_refl _) nC)
    · have ti := T.item (X.blk t3 G3 scope ce fp) rfl rfl rfl hc i [] t5 _ G5 (fun _ _ => False) B5 (stat B5 n5) u5 go
      refine thnF ti fun r t6 ⟨u, hr, h6⟩ => ?_
      subst hr
      refine thnF h6 fun _ t7 ⟨x, G7, B7, r7, y7, u7, n7⟩ => ?_
      have B7' := B7.pinned (stat B7 n7) (T.obj _ _ u7)
      refine thnF (pg.run _ t7 _ G7 x u _ B7' r7 (step x G7 y7)) fun _ t8 ⟨σ8, G8, B8, hw8, q8⟩ => ?_
      refine thnF (pt.run _ t8 σ8 G8 _ B8 q8) fun b t9 ⟨G9, B9, q9⟩ => ?_
      -- the turn's end
      have fin : ∀ {s' : Shared} {H' : Hp}, Inv (X.blk t3 G3 scope ce fp) ([] ++ pinsAt fp t7.heap) σ8 H' s' → Nx H' → ∃ m, m < n ∧ ∃ i H', Inv (X.blk t3 G3 scope ce fp) [] (wipe σ (own.map (·.2))) H' s' ∧ tn i s'.heap ∧ (∀ b ∈ fp, H' b = none) ∧ W i m H' := fun {s' H'} I' nx => by
        obtain ⟨m', hm, w'⟩ := hNx H' nx
        have pin' : ∀ b ∈ fp, ∀ o, t7.heap.get? b = some o → s'.heap.get? b = some o ∧ H' b = none := fun b hb o e =>
          let z := I'.pin (b, o) (List.mem_append_right _ (List.mem_append_right _ (mem_pinsAt hb e)))
          ⟨z.1, z.2.1⟩
        have hl : (wipe σ (own.map (·.2))).length = σ8.length := by rw [← hw8, wipe_length]
        refine ⟨m', hm, i + 1, H', (I'.unpinned (pins := [])).weak hl (fun j v e => ?_), T.keep _ _ _ u7 fun b hb o e => (pin' b hb o e).1, fun b hb => ?_, w'⟩
        · rw [← hw8] at e
          exact (wipe_some e).1
        · obtain ⟨o, e, _⟩ := T.obj _ _ u7 b hb
          exact (pin' b hb o e).2
      cases b with
      | false =>
        simp only [Bool.false_eq_true, if_false] at q9 ⊢
        exact fin B9 q9
      | true =>
        simp only [if_true] at q9 ⊢
        refine thnF (pk.run _ t9 σ8 G9 _ B9 q9) fun z t10 ⟨yk, G10, B10, r10, q10⟩ => ?_
        refine thnF (pe.run _ t10 σ8 G10 _ B10 q10) fun z2 t11 ⟨yv, G11, B11, r11, kvs, k, bk, ek, hb11, hD11, hz11, nx⟩ => ?_
        subst ek
        exact d_dictSetT (X := X.blk t3 G3 scope ce fp) hu B11 hD11 hb11 hz11 r10 r11 fun t12 B12 => fin B12 nx
  exact codeAny_compStart_dict loop (T.self X.A 0 _ _ _ u4 loop)
/-- as a value -/
theorem pe_dcT {kx vx tg iter : Expr} {ifs : List Expr} {scope : Scope} {own : List (Str × Nat)} {pos : Pos} {wi : TI} {g : TG} {tt : TT} {tk tv : TE} (hu : X.A.units + 1 < cLine) (hc : X.calm = true) (hN : X.N.Nodup) (hi : PI X tg iter wi) (ok : BlkOk X.N X.env.scope scope own)
    (hg : ∀ (s : Shared) (H : Hp) (C : Addr) (cl : List (Str × Addr)) (fp : List Addr), PG (X.blk s H scope (compEnvC scope cl C X.env) fp) tg g) (ht : ∀ (s : Shared) (H : Hp) (C : Addr) (cl : List (Str × Addr)) (fp : List Addr), PTs (X.blk s H scope (compEnvC scope cl C X.env) fp) ifs tt)
    (hk : ∀ (s : Shared) (H : Hp) (C : Addr) (cl : List (Str × Addr)) (fp : List Addr), PE (X.blk s H scope (compEnvC scope cl C X.env) fp) kx tk)
    (he : ∀ (s : Shared) (H : Hp) (C : Addr) (cl : List (Str × Addr)) (fp : List Addr), PE (X.blk s H scope (compEnvC scope cl C X.env) fp) vx tv) (hs : ∀ x, foldedSetIterable iter X.env x = pure x := by intro _; rfl) :
    PE X (.DictComp kx vx [⟨tg, iter, ifs, 0⟩] scope pos) (tDcT wi g tt tk tv (own.map (·.2))) := by
  refine ⟨fun pins s σ H Q I h => ?_⟩
  rw [arm_eval_DictComp]
  refine dcT_core hu hc hN I hi ok hg ht hk he hs h fun D C s' m H' I' q hn f => ⟨m, hn, fun h'' sb => ?_⟩
  obtain ⟨f0, f1, f2, f3, f4, f5⟩ := f
  exact ⟨.ref D, H', I'.turned (t' := s'.toks) (fun b o hb e => (sb.2 b hb).trans e) f0 f1 f3 f4 f5, rfl, q⟩
end

/-! ### loops over any iterator of n turns -/
theorem for_n {J : It} {n : Nat} {g : TG} {tb : TS} {D : Ends} {σ : L2.St} {H : Hp} (Pv : Nat → L2.St → Hp → Prop) (h0 : Pv 0 σ H) (hg : ∀ i σ H, i < n → Pv i σ H → J.go i H) (hz : ∀ σ H, Pv n σ H → J.stop n H)
    (hs : ∀ i σ H, i < n → Pv i σ H → ∀ x H', J.yld i H x H' → g x σ H' fun σ2 H2 => tb { D with nx := Pv (i + 1), ct := Pv (i + 1), bk := D.nx } σ2 H2) (hd : ∀ σ H, Pv n σ H → D.nx σ H) :
    ∃ W : Nat → Nat → L2.St → Hp → Prop, (∃ m, W 0 m σ H) ∧ ∀ i m σ H, W i m σ H → (J.stop i H ∧ D.nx σ H) ∨
      (J.go i H ∧ ∃ N : L2.St → Hp → Prop, (∀ σ' H', N σ' H' → ∃ m', m' < m ∧ W (i + 1) m' σ' H') ∧ ∀ x H', J.yld i H x H' → g x σ H' fun σ2 H2 => tb { D with nx := N, ct := N, bk := D.nx } σ2 H2) := by
  refine ⟨fun i m σ H => m = n - i ∧ i ≤ n ∧ Pv i σ H, ⟨n, by simp, Nat.zero_le _, h0⟩, ?_⟩
  rintro i m σ H ⟨rfl, hi, p⟩
  by_cases hlt : i < n
  · exact .inr ⟨hg i σ H hlt p, Pv (i + 1), fun σ' H' p' => ⟨n - (i + 1), by omega, rfl, hlt, p'⟩, fun x H' y => hs i σ H hlt p x H' y⟩
  · obtain rfl : i = n := by omega
    exact .inl ⟨hz σ H p, hd σ H p⟩
theorem lc_n {J : It} {n : Nat} {g : TG} {tt : TT} {te : TE} {vs : List Nat} {σ : L2.St} {H1 : Hp} {D : Addr} {Qd : Hp → Prop} (Pv : Nat → Hp → Prop) (h0 : Pv 0 (upd H1 D (.lst []))) (hg : ∀ i H, i < n → Pv i H → J.go i H) (hz : ∀ H, Pv n H → J.stop n H)
    (hs : ∀ i H, i < n → Pv i H → ∀ x H', J.yld i H x H' → g x (wipe σ vs) H' fun σ2 H2 => wipe σ2 vs = wipe σ vs ∧ tt σ2 H2 fun b H3 =>
      if b = true then te σ2 H3 fun y H4 => ∃ acc, H4 D = some (.lst acc) ∧ acc.length < sizeLine ∧ Pv (i + 1) (upd H4 D (.lst (acc ++ [y]))) else Pv (i + 1) H3) (hd : ∀ H, Pv n H → Qd H) :
    ∃ W : Nat → Nat → Hp → Prop, (∃ m, W 0 m (upd H1 D (.lst []))) ∧ ∀ i m H, W i m H → (J.stop i H ∧ Qd H) ∨
      (J.go i H ∧ ∃ Nx : Hp → Prop, (∀ H', Nx H' → ∃ m', m' < m ∧ W (i + 1) m' H') ∧ ∀ x H', J.yld i H x H' → g x (wipe σ vs) H' fun σ2 H2 => wipe σ2 vs = wipe σ vs ∧ tt σ2 H2 fun b H3 =>
        if b = true then te σ2 H3 fun y H4 => ∃ acc, H4 D = some (.lst acc) ∧ acc.length < sizeLine ∧ Nx (upd H4 D (.lst (acc ++ [y]))) else Nx H3) := by
  refine ⟨fun i m H => m = n - i ∧ i ≤ n ∧ Pv i H, ⟨n, by simp, Nat.zero_le _, h0⟩, ?_⟩
  rintro i m H ⟨rfl, hi, p⟩
  by_cases hlt : i < n
  · exact .inr ⟨hg i H hlt p, Pv (i + 1), fun H' p' => ⟨n - (i + 1), by omega, rfl, hlt, p'⟩, fun x H' y => hs i H hlt p x H' y⟩
  · obtain rfl : i = n := by omega
    exact .inl ⟨hz H p, hd H p⟩
theorem dcT_n {J : It} {n : Nat} {g : TG} {tt : TT} {tk tv : TE} {vs : List Nat} {σ : L2.St} {H1 : Hp} {D : Addr} {Qd : Hp → Prop} (Pv : Nat → Hp → Prop) (h0 : Pv 0 (upd H1 D (.dT []))) (hg : ∀ i H, i < n → Pv i H → J.go i H) (hz : ∀ H, Pv n H → J.stop n H)
    (hs : ∀ i H, i < n → Pv i H → ∀ x H', J.yld i H x H' → g x (wipe σ vs) H' fun σ2 H2 => wipe σ2 vs = wipe σ vs ∧ tt σ2 H2 fun b H3 =>
      if b = true then tk σ2 H3 fun y H4 => tv σ2 H4 fun z H5 => ∃ (kvs : List (List L2.Key × V)) (k : List L2.Key) (b : Addr), y = .ref b ∧ H5 b = some (.tup (k.map kV)) ∧ H5 D = some (.dT kvs) ∧ kvs.length < sizeLine ∧ Pv (i + 1) (upd H5 D (.dT (putK kvs k z)))
      else Pv (i + 1) H3) (hd : ∀ H, Pv n H → Qd H) :
    ∃ W : Nat → Nat → Hp → Prop, (∃ m, W 0 m (upd H1 D (.dT []))) ∧ ∀ i m H, W i m H → (J.stop i H ∧ Qd H) ∨
      (J.go i H ∧ ∃ Nx : Hp → Prop, (∀ H', Nx H' → ∃ m', m' < m ∧ W (i + 1) m' H') ∧ ∀ x H', J.yld i H x H' → g x (wipe σ vs) H' fun σ2 H2 => wipe σ2 vs = wipe σ vs ∧ tt σ2 H2 fun b H3 =>
        if b = true then tk σ2 H3 fun y H4 => tv σ2 H4 fun z H5 => ∃ (kvs : List (List L2.Key × V)) (k : List L2.Key) (b : Addr), y = .ref b ∧ H5 b = some (.tup (k.map kV)) ∧ H5 D = some (.dT kvs) ∧ kvs.length < sizeLine ∧ Nx (upd H5 D (.dT (putK kvs k z))) else Nx H3) := by
  refine ⟨fun i m H => m = n - i ∧ i ≤ n ∧ Pv i H, ⟨n, by simp, Nat.zero_le _, h0⟩, ?_⟩
  rintro i m H ⟨rfl, hi, p⟩
  by_cases hlt : i < n
  · exact .inr ⟨hg i H hlt p, Pv (i + 1), fun H' p' => ⟨n - (i + 1), by omega, rfl, hlt, p'⟩, fun x H' y => hs i H hlt p x H' y⟩
  · obtain rfl : i = n := by omega
    exact .inl ⟨hz H p, hd H p⟩

/-! ### iter(t), t a tuple -/
/-- at it an iterator over the tuple at t, ahead of its item i -/
def ItT (t it : Addr) (i : Nat) : HO := .ext fun h => h.IsTupleIter it t i
theorem itT_ok {P : Program} {w : World} {H : Hp} {h : Heap} {t it : Addr} {i : Nat} (e : h.IsTupleIter it t i) : ObjOk P w H h it (ItT t it i) := by
  obtain ⟨o, e1, e2⟩ := id e
  exact ⟨e, ⟨o, e1⟩, fun h1 h2 q k => q.at k⟩
def rIterT (K : PySem.W.Frag) : List V → Hp → VK → Prop := fun xs H Q => ∃ (t : Addr) (zs : List V), xs = [.ref t] ∧ SqT K H t zs ∧ ∀ it, H it = none → Q (.ref it) (upd H it (ItT t it 0))
theorem call_iterT {X : Cx} : CallR X (.builtin "iter") (rIterT X.K) := by
  intro pins s σ H xs us Q I r h
  obtain ⟨t, zs, rfl, hq, q⟩ := h
  obtain rfl := Vals.ref1 r
  obtain ⟨its, rv, p, hz⟩ := I.tuple hq
  refine Calls.call_function_entry (by decide +kernel) (by decide +kernel) PySem.W.kdk_entry_iter (PySem.W.kdk_args_iter _) ?_
  unfold Builtin.«iter»
  refine wpAny_bind (m := someArgs "iter" 1 2 _) (wpAny_of_eq (a := [Value.ref t]) (by first | rfl | kernel_rfl!) ?_)
  show wpAny _ _ (pyIter (.ref t) >>= _) _ _ _
  refine wpAny_bind (wpAny_pyIter_tuple (show s.heap.IsTuple t its.toArray from p) ?_)
  exact wpAny_pure ⟨_, rfl, .ref s.heap.objs.size, _, I.laid (t' := s.toks) (fun b u e => Heap.get?_push_of_some _ e) (Nat.le_refl _) (itT_ok ⟨_, Heap.get?_push_size _ rfl, rfl, rfl⟩), rfl, q _ (I.hok.fresh (Nat.le_refl _))⟩

/-! ### own operators -/
/-- x op y of two instances of the class at C -/
def rOwnBin (C : Addr) (sp : Sp) (E : XK) : R2 := fun x y H Q => ∃ a b dx dy fs gs, x = .ref a ∧ y = .ref b ∧ H a = some (.ins C dx fs) ∧ H b = some (.ins C dy gs) ∧ sp [x, y] H Q E
theorem op_ownBin {X : Cx} {CX : CXT} {k : Nat} {C f : Addr} {fd : FuncData} {ps : List Str} {sp : Sp} {E : XK} {op : Operator} (hc : PySem.W.selfFirst X.K C = true) (hs : PySem.W.findIn X.K (.ref C) (PySem.dunder op.info.2) = some (some (.ref f))) (hf : PySem.W.isFn X.K (.ref f) = true)
    (F : FnOk X.prog X.w X.K X.mg X.base CX k f fd ps sp) (hr : Room k X.A) (hb : Binds X.K fd ps []) (hx : Passes CX X E) : OpR X (binaryOp op) (rOwnBin C sp E) := by
  intro pins s σ H x y v u Q I rx ry h
  obtain ⟨a, b, dx, dy, fs, gs, rfl, rfl, ha, hb2, q⟩ := h
  cases rx
  cases ry
  obtain ⟨mA, J, _⟩ := ins_get I.hok ha
  obtain ⟨od, J, _⟩ := J.look
  obtain ⟨mB, JB, _⟩ := ins_get I.hok hb2
  obtain ⟨ob, JB, _⟩ := JB.look
  obtain ⟨m, hF⟩ := I.fr
  refine PySem.W.binop_K hF I.ok.mod.kin J JB.type hc hs hf (thn (run_fn (vs := [.ref a, .ref b]) (us := [.ref a, .ref b]) F hr hb .nil hx I (.cons rfl (.cons rfl .nil)) q) fun z s' hz => ?_)
  obtain ⟨vz, H', I', rz, qz⟩ := hz
  cases z with
  | notImplemented => cases vz <;> first | exact nomatch (show _ = _ from rz) | (obtain ⟨t, e⟩ := rz; exact nomatch e)
  | _ => exact ⟨vz, H', I', rz, qz⟩
def rOwnUn (C : Addr) (sp : Sp) (E : XK) : V → Hp → VK → Prop := fun x H Q => ∃ a dx fs, x = .ref a ∧ H a = some (.ins C dx fs) ∧ sp [x] H Q E
theorem un_ownInv {X : Cx} {CX : CXT} {k : Nat} {C f : Addr} {fd : FuncData} {ps : List Str} {sp : Sp} {E : XK} (hs : PySem.W.findIn X.K (.ref C) "__invert__" = some (some (.ref f))) (hf : PySem.W.isFn X.K (.ref f) = true)
    (F : FnOk X.prog X.w X.K X.mg X.base CX k f fd ps sp) (hr : Room k X.A) (hb : Binds X.K fd ps []) (hx : Passes CX X E) : UnR X (unaryOp .Invert) (rOwnUn C sp E) := by
  intro pins s σ H x v Q I rx h
  obtain ⟨a, dx, fs, rfl, ha, q⟩ := h
  cases rx
  obtain ⟨mA, J, _⟩ := ins_get I.hok ha
  obtain ⟨od, J, _⟩ := J.look
  obtain ⟨m, hF⟩ := I.fr
  exact PySem.W.ksp_inv hF I.ok.mod.kin J hs hf (run_fn (vs := [.ref a]) (us := [.ref a]) F hr hb .nil hx I (.cons rfl .nil) q)

/-! ### C.m(e, ..), m a staticmethod -/
structure SMet (K : PySem.W.Frag) (C : Addr) (mc : Value) (m : Str) (p g : Addr) : Prop where
  at_ : PySem.W.findCls K (.ref C) mc m = some (.get (.builtin "staticmethod.__get__") (.ref p) .none (.ref C))
  rc : ∃ rest, PySem.W.recIn K p "staticmethod" = some (.ref g :: rest)
def tSMeth (C : Addr) (sp : Sp) (dvs : List V) (E : XK) (ta : TE) (t : TA) : TE := fun σ H Q => ta σ H fun x H1 => x = .ref C ∧ t σ H1 fun vs H2 => sp (vs ++ dvs) H2 Q E
theorem pe_smeth {X : Cx} {CX : CXT} {k : Nat} {C p g : Addr} {mc : Value} {fd : FuncData} {ps : List Str} {sp : Sp} {dvs : List V} {ds : List Value} {E : XK} {o e : Expr} {es : List Expr} {m : Str} {pos apos : Pos} {ta : TE} {t : TA} {pl : Sem Bool}
    (he : PE X o ta) (r : ClX.CRead X.K C mc) (c : SMet X.K C mc m p g) (F : FnOk X.prog X.w X.K X.mg X.base CX k g fd ps sp) (hr : Room k X.A) (hk : PySem.W.keepIn X.K (.ref g) = true) (hb : Binds X.K fd ps ds) (hd : Vals dvs ds) (hx : Passes CX X E) (ha : PA X (e :: es) t)
    (hst : starEach (e :: es) X.env = (false, eval e X.env) :: starEach es X.env := by rfl) (hpl : (backTo pos (starEach es X.env)).any (·.1) = false := by rfl)
    (ht : eval (.Call (.Attribute o m apos) (e :: es) [] pos) X.env = (do
      let ov ← eval o X.env; standAt apos.atName
      let (f, first) ← holding [ov] (getMethod ov m pl)
      callWith pos f first (backTo pos (starEach (e :: es) X.env)) (backToKw pos (keywordEach [] X.env))) := by rfl) :
    PE X (.Call (.Attribute o m apos) (e :: es) [] pos) (tSMeth C sp dvs E ta t) := by
  refine ⟨fun pins s σ H Q I h => ?_⟩
  refine PySem.W.methodCall_KW (pl := pl) (thn (he.run pins s σ H _ I h) fun u s1 ⟨x, H1, I1, rx, ex, q⟩ => ?_) ht
  subst ex
  obtain rfl : u = Value.ref C := rx
  obtain ⟨rest, hp⟩ := c.rc
  refine PySem.W.method_cls I1.kIn r.ga (PySem.W.cls_bind I1.kIn r.rd c.at_ (wpAny_call (PySem.W.sm_get (s := { s1 with toks := s1.toks + 1 }) I1.kIn hp (PySem.W.handed_on rfl ?_))))
  have I2 : Inv X pins σ H1 { s1 with toks := s1.toks + 1 } := I1.tok _
  refine PySem.W.callWith_K (first := []) (h₀ := X.base) I.ok.mod.kin hk (thn (ha.run pos pins _ σ H1 _ I2 q) fun us s2 ⟨vs, H2, I3, rv, q2⟩ => ⟨I3.kIn, ?_⟩) hst hpl
  exact run_fn F hr hb hd hx I3 rv q2

/-! ### enumerate(o), list(o), o an instance whose __iter__ hands back iter(t) of a tuple t -/
theorem enum_newO {prog : Program} {w : World} {A : Around} {E : Value → Shared → Prop} {s : Shared} {v : Value} {Q : Value → Shared → Prop}
    (h : wpAny (model prog w) A (pyIter v) (fun it s1 => Q (.ref s1.heap.objs.size) { s1 with heap := s1.heap.push { cls := .type "enumerate", data := .fields #[.none, .bool false, it, rawInt 0, .none, .none] } }) E s) :
    wpAny (model prog w) A (Builtin.«enumerate.__new__» ⟨[.type "enumerate", v], []⟩) (fun fin s' => ∃ r, fin = .done (.ret r) ∧ Q r s') E s := by
  have hsub := sub_enumerate
  have fin : ∀ Q' : Value → Shared → Prop, (∀ it s1, Q (.ref s1.heap.objs.size) { s1 with heap := s1.heap.push { cls := .type "enumerate", data := .fields #[.none, .bool false, it, rawInt 0, .none, .none] } } → Q' it s1) → wpAny (model prog w) A (pyIter v) Q' E s := fun Q' k => wpAny_mono h k fun _ _ x => x
  clear h
  obtain ⟨hp, g, d, tk, os⟩ := s
  wp_walk
  refine wpAny_stack_any fun st => wpAny_pure ?_
  split
  · rename_i c _ _ _ _ _
    cases (c == Value.type "enumerate")
    · wp_walk using fin
      intro it s1 hq
      obtain ⟨hp1, g1, d1, tk1, os1⟩ := s1
      wp_walk
      exact ⟨_, rfl, hq⟩
    · wp_walk using fin
      intro it s1 hq
      obtain ⟨hp1, g1, d1, tk1, os1⟩ := s1
      wp_walk
      exact ⟨_, rfl, hq⟩
  · wp_walk using fin
    intro it s1 hq
    obtain ⟨hp1, g1, d1, tk1, os1⟩ := s1
    wp_walk
    exact ⟨_, rfl, hq⟩
/-- a def's promise that knows the heap's size ahead of the call -/
structure FnN (P : Program) (w : World) (K : PySem.W.Frag) (mg : Str → Option Value) (base : Heap) (k : Nat) (f : Addr) (fd : FuncData) (ps : List Str) (sp : Nat → Sp) : Prop where
  len : ∀ n vs H Q E, sp n vs H Q E → vs.length = ps.length
  run : ∀ (A : Around) (outer : List Env) (s : Shared) (H : Hp) (args : Args) (us : List Value) (vs : List V) (Q : VK) (E : XK), Room k A → Env0 P w K mg base A outer s H → BindsTo s fd args (ps.zip us) → Vals vs us → sp s.heap.objs.size vs H Q E →
    codeAny (model P w) A (.call (.ref f) args) (CR CX0 outer P w H s Q E) s
theorem fn_ofN {P : Program} {w : World} {K : PySem.W.Frag} {mg : Str → Option Value} {base : Heap} {k : Nat} {f : Addr} {name qual : Str} {params : Arguments} {body : List Stmt} {scope : Scope} {dV kV doc pm cdv ct oc : Value} {an od : Option Addr}
    {osl : Array (Option Value)} {N ps : List Str} {sp : Nat → Sp} (lk : K.lookup f = some ⟨oc, od, .func (PySem.W.fnOf name qual params body scope dV kV doc pm an cdv ct), osl⟩) (hcd : PySem.W.codeIn K cdv qual = true) (S : FnScope N ps scope)
    (len : ∀ n vs H Q E, sp n vs H Q E → vs.length = ps.length)
    (hbody : ∀ (A : Around) (outer : List Env) (s : Shared) (H : Hp) (vs : List V) (Q : VK) (E : XK), Room k (A.deeper (envOfC qual scope s.heap.objs.size f cdv)) → sp s.heap.objs.size vs H Q E →
      ∃ t, PSs (cxOf CX0 P w K mg base N qual scope f cdv A outer s H E) body t ∧ t { nx := fun _ H' => Q .non H', rt := Q } (start N vs) H) :
    FnN P w K mg base (k + 1) f (PySem.W.fnOf name qual params body scope dV kV doc pm an cdv ct) ps sp := by
  refine ⟨len, fun A outer s H args us vs Q E hr e0 hb r hsp => ?_⟩
  have hl0 := len _ _ _ _ _ hsp
  have KX0 : K.In s.heap := e0.mod.kin.keeps fun b o e => (e0.bs b o e).1
  have lim0 : s.heap.NoLimit := e0.mod.nolimit.keeps fun b o e => (e0.bs b o e).1
  have hk0 : ∀ y ∈ ps.zip us, scope.names.lookup y.1 = some .local ∨ (scope.names.lookup y.1 = some .cell ∧ ((cellsFrom (s.heap.objs.size + 1) scope.names []).lookup y.1).isSome = true) := fun ⟨n, v⟩ hy => by
    rcases S.par n (List.of_mem_zip hy).1 with z | z
    · exact .inl z
    · exact .inr ⟨z, PySem.W.cellsFrom_some _ _ _ (.inl z)⟩
  refine codeAny_call_function hr.depth (KX0 _ _ lk) rfl S.co S.gen rfl (PySem.W.codeRec_of KX0 hcd) (hb _ _ _ _ ?_)
  refine wpAny_newFunctionEnv_cells S.kind hk0 fun env he s1 x => ?_
  subst he
  refine ⟨lim0.keeps x.toInCall.keep, codeAny_func ?_⟩
  obtain ⟨t, ht, hq⟩ := hbody A outer s H vs Q E (hr.deeper _) hsp
  have I0 : Inv (cxOf CX0 P w K mg base N qual scope f cdv A outer s H E) [] (start N vs) H s1 := inv_start S hr.hd e0 hl0 r x
  refine wpAny_mono (ht.run [] s1 (start N vs) H _ I0 hq) (fun fl s' hs => ?_) fun e s' hs => hs
  cases fl with
  | ret u =>
    obtain ⟨v, σ', H', J, rv, q⟩ := hs
    exact ⟨v, H', J.os, J.bare, J.base, J.hok, rv, q⟩
  | next =>
    obtain ⟨σ', H', J, q⟩ := hs
    exact ⟨.non, H', J.os, J.bare, J.base, J.hok, rfl, q⟩
  | brk =>
    obtain ⟨_, _, _, q⟩ := hs
    exact False.elim q
  | cont =>
    obtain ⟨_, _, _, q⟩ := hs
    exact False.elim q
/-- iter(t) that is younger than the entry -/
def rIterTN (K : PySem.W.Frag) (n : Nat) : List V → Hp → VK → Prop := fun xs H Q => ∃ (t : Addr) (zs : List V), xs = [.ref t] ∧ SqT K H t zs ∧ ∀ it, H it = none → n ≤ it → Q (.ref it) (upd H it (ItT t it 0))
theorem call_iterTN {X : Cx} : CallR X (.builtin "iter") (rIterTN X.K X.s_0.heap.objs.size) := by
  intro pins s σ H xs us Q I r h
  obtain ⟨t, zs, rfl, hq, q⟩ := h
  obtain rfl := Vals.ref1 r
  obtain ⟨its, rv, p, hz⟩ := I.tuple hq
  refine Calls.call_function_entry (by decide +kernel) (by decide +kernel) PySem.W.kdk_entry_iter (PySem.W.kdk_args_iter _) ?_
  unfold Builtin.«iter»
  refine wpAny_bind (m := someArgs "iter" 1 2 _) (wpAny_of_eq (a := [Value.ref t]) (by first | rfl | kernel_rfl!) ?_)
  show wpAny _ _ (pyIter (.ref t) >>= _) _ _ _
  refine wpAny_bind (wpAny_pyIter_tuple (show s.heap.IsTuple t its.toArray from p) ?_)
  exact wpAny_pure ⟨_, rfl, .ref s.heap.objs.size, _, I.laid (t' := s.toks) (fun b u e => Heap.get?_push_of_some _ e) (Nat.le_refl _) (itT_ok ⟨_, Heap.get?_push_size _ rfl, rfl, rfl⟩), rfl, q _ (I.hok.fresh (Nat.le_refl _)) I.sz⟩
/-- __iter__ of a class whose field fld is the tuple that is walked -/
def spIterN (K : PySem.W.Frag) (C : Addr) (fld : Str) : Nat → Sp := fun n vs H Q _ => ∃ a dx fs t zs, vs = [.ref a] ∧ H a = some (.ins C dx fs) ∧ fs.lookup fld = some (.ref t) ∧ SqT K H t zs ∧ ∀ it, H it = none → n ≤ it → Q (.ref it) (upd H it (ItT t it 0))
/-- what is known of such a class -/
structure ItbC (P : Program) (w : World) (K : PySem.W.Frag) (mg : Str → Option Value) (base : Heap) (C : Addr) (fld : Str) (k : Nat) : Prop where
  ex : ∃ (fi : Addr) (fd : FuncData) (ps : List Str), PySem.W.findIn K (.ref C) "__iter__" = some (some (.ref fi)) ∧ PySem.W.isFn K (.ref fi) = true ∧ FnN P w K mg base k fi fd ps (spIterN K C fld) ∧ Binds K fd ps []
  nolen : PySem.W.findIn K (.ref C) "__len__" = some none
  nohint : PySem.W.findIn K (.ref C) "__length_hint__" = some none
/-- the walk over such an instance has begun -/
theorem itb_iter {X : Cx} {pins : List (Addr × Obj)} {σ : L2.St} {H : Hp} {s : Shared} {A1 : Around} {C a dx t : Addr} {fs : List (Str × V)} {fld : Str} {k : Nat} {zs : List V} {Q : Value → Shared → Prop} (sb : Sub X k A1) (B : ItbC X.prog X.w X.K X.mg X.base C fld k)
    (I : Inv X pins σ H s) (ha : H a = some (.ins C dx fs)) (hf : fs.lookup fld = some (.ref t)) (hz : SqT X.K H t zs)
    (h : ∀ it s', Inv X pins σ H s' → s'.heap.IsTupleIter it t 0 → FpOk X pins H it → s.heap.objs.size ≤ it → Q (.ref it) s') : wpAny (model X.prog X.w) A1 (pyIter (.ref a)) Q X.xe s := by
  obtain ⟨fi, fd, ps, hi, hfn, FI, bI⟩ := B.ex
  obtain ⟨mA, J, _⟩ := ins_get I.hok ha
  obtain ⟨od, J, _⟩ := J.look
  obtain ⟨m, hF⟩ := I.fr
  have e0 : Env0 X.prog X.w X.K X.mg X.base A1 X.stack s H := by
    have e := I.env0
    exact ⟨by rw [sb.fr]; exact e.frames, e.mod, e.bs, e.bsz, e.funs, e.frf, e.hok, e.bare⟩
  have hsp : spIterN X.K C fld s.heap.objs.size [.ref a] H (fun v H' => ∃ it, v = .ref it ∧ H it = none ∧ s.heap.objs.size ≤ it ∧ H' = upd H it (ItT t it 0)) E0 := ⟨a, dx, fs, t, zs, rfl, ha, hf, hz, fun it hn hl => ⟨it, rfl, hn, hl, rfl⟩⟩
  have hl := FI.len _ _ _ _ _ hsp
  have r2 : Vals [V.ref a] [Value.ref a] := .cons rfl .nil
  refine PySem.W.owit_iter hF I.ok.mod.kin J hi hfn (wpAny_call (codeAny_mono (FI.run A1 X.stack s H ⟨[.ref a], []⟩ [.ref a] [.ref a] _ E0 sb.room e0 (by
    have := bI s [.ref a] I.kIn (by simpa using hl)
    simpa using this) r2 hsp) fun r s' hq' => ?_))
  cases r with
  | error e => exact False.elim hq'
  | ok fl =>
    cases fl with
    | next => exact False.elim hq'
    | brk => exact False.elim hq'
    | cont => exact False.elim hq'
    | ret u =>
      obtain ⟨v, H', I', rv, it, ev, hn, hle, eH⟩ := I.after hq'
      subst ev eH
      cases rv
      have st : s'.heap.IsTupleIter it t 0 := (show ObjOk X.prog X.w _ s'.heap it (ItT t it 0) from I'.hok it _ upd_same).1
      have I2 := ItX.inv_drop I' upd_same
      have f2 := ItX.inv_fp I' upd_same (Nat.le_trans I.sz hle)
      rw [ItX.dropH_upd hn] at I2 f2
      obtain ⟨o, ho, hc, hd⟩ := id st
      unfold PySem.W.OwitIt
      exact wpAny_specialOf (T := "tuple_iterator") ⟨o, ho, hc⟩ F.slot_tuple_iterator_next.lookup (h it _ I2 st f2 hle)
end SV
end

section
set_option Elab.async false
set_option linter.all false
set_option maxRecDepth 100000
set_option maxHeartbeats 2000000
namespace SV
open PySem PySem.Spec PyProof.Rows L2
/-! enumerate -/
/-- the items of the tuple at t, each in a new pair with its number -/
def IteT (K : PySem.W.Frag) (t : Addr) : It :=
  ⟨fun i H => ∃ (xs : List V) (x : V), SqT K H t xs ∧ xs[i]? = some x, fun i H v H' => ∃ T x, v = .ref T ∧ H T = none ∧ H' = upd H T (.tup [.int (i : Nat), x]) ∧ ∀ xs, SqT K H t xs → xs[i]? = some x, fun i H => ∃ xs : List V, SqT K H t xs ∧ xs.length = i⟩
theorem tup_ne_iter {h : Heap} {t it : Addr} {its : Array Value} {i : Nat} (a : h.IsTuple t its) (b : h.IsTupleIter it t i) : t ≠ it := by
  rintro rfl
  obtain ⟨o, e1, c1, _⟩ := a
  obtain ⟨o2, e2, c2, _⟩ := b
  rw [e1] at e2
  cases e2
  rw [c1] at c2
  exact absurd (Value.type.inj c2) (by decide)
theorem turn_enumT {P : Program} {w : World} {K : PySem.W.Frag} {elts : List Expr} {kk : Nat} {tpos : Pos} (t e it : Addr) :
    Turn P w K (.Tuple elts kk tpos) (IteT K t) [e, it] e (fun i h => (∃ old, IsEnum h e it ((i : Nat) : Int) old) ∧ h.IsTupleIter it t i ∧ e ≠ it) where
  mem := by simp
  obj := fun i h st b hb => by
    obtain ⟨⟨old, he⟩, ⟨o, ho, hc, hd⟩, _⟩ := st
    have e' : b = e ∨ b = it := by simpa using hb
    rcases e' with z | z
    · rw [z]; exact ⟨_, he, fun v q => nomatch q⟩
    · rw [z]; exact ⟨o, ho, fun v q => by rw [hd] at q; cases q⟩
  keep := fun i h h' st k => let ⟨⟨old, he⟩, hi, hne⟩ := st; ⟨⟨old, k e (by simp) _ he⟩, hi.at fun o q => k it (by simp) o q, hne⟩
  item := by
    intro X hP hw hK hc i pins s σ H E I hf st hg
    subst hP hw hK
    obtain ⟨⟨old, he⟩, hit, hne⟩ := st
    obtain ⟨xs, x, hq, hx⟩ := hg
    obtain ⟨its, rv, p, hz⟩ := I.tuple hq
    obtain ⟨u, hu, ru⟩ := rv.get hx
    have hel : e < s.heap.objs.size := Heap.lt_size he
    have hil : it < s.heap.objs.size := by obtain ⟨_, q, _⟩ := hit; exact Heap.lt_size q
    have htup : s.heap.IsTuple t its.toArray := p
    have hti : t ≠ it := tup_ne_iter htup hit
    have hte : t ≠ e := by
      rintro rfl
      obtain ⟨o, e1, c1, _⟩ := htup
      rw [he] at e1
      cases e1
      exact absurd (Value.type.inj c1) (by decide)
    have hil2 : i < its.length := (List.getElem?_eq_some_iff.mp hu).1
    refine wpAny_pyNext_enum_itemC (fp := [it, t]) (n := its.toArray.size) (i := i) (St := fun i h => h.IsTupleIter it t i ∧ h.IsTuple t its.toArray) (Draws.tuple (A := X.A.in1) (show X.A.in1.handled = none from I.ok.hd hc) it t hti its.toArray) he ⟨hit, htup⟩ (by simpa using hil2) hne (by simp [hne, hte.symm]) fun z h' tk hz' ho hst hT hsz hk => ?_
    have hzu : z = u := by
      have q : its[i]? = some z := by simpa using hz'
      rw [hu] at q
      exact (Option.some.inj q).symm
    subst hzu
    refine ⟨_, rfl, wpAny_letOwnedTupleGo_enum (s := { s with heap := h', toks := tk + 1 }) ho fun h'' he' sb => ?_⟩
    have hT2 : h''.get? s.heap.objs.size = some { cls := .type "tuple", data := .seq #[.int (i : Int) tk, z] } := (sb.2 _ (Nat.ne_of_gt hel)).trans hT
    have nw : ObjOk X.prog X.w (upd H s.heap.objs.size (.tup [.int (i : Nat), x])) h'' s.heap.objs.size (.tup [.int (i : Nat), x]) :=
      ⟨by show 2 ≤ sizeLine; decide, [.int (i : Int) tk, z], .cons ⟨_, rfl⟩ (.cons ru .nil), ⟨_, hT2, rfl, _, rfl⟩⟩
    have I1 : Inv X pins σ (upd H s.heap.objs.size (.tup [.int (i : Nat), x])) { s with heap := h'', toks := tk + 1 } :=
      I.turnedNew (ch := [e, it]) (fun b ob hb q => (sb.2 b (fun z => hb (by simp [z]))).trans (hk b ob (fun z => hb (by simp [z])) (fun z => hb (by simp [z])) q)) hf (Nat.le_refl _) nw
    refine ⟨.ref s.heap.objs.size, _, I1, rfl, ⟨_, x, rfl, I.hok.fresh (Nat.le_refl _), rfl, fun ys hy => by rw [I.tuple_inj hy hq]; exact hx⟩, ⟨⟨z, ?_⟩, hst.1.at fun o q => (sb.2 it (Ne.symm hne)).trans q, hne⟩, fun b hb => ?_⟩
    · have e1 : ((i + 1 : Nat) : Int) = (i : Int) + 1 := by omega
      rw [e1]; exact he'
    · have hb' : b < s.heap.objs.size := by
        have e' : b = e ∨ b = it := by simpa using hb
        rcases e' with z | z
        · rw [z]; exact hel
        · rw [z]; exact hil
      rw [upd_ne (Nat.ne_of_lt hb')]
      exact (hf b hb).1
  done := by
    intro X hP hw hK hc i pins s σ H E I hf st hg
    subst hP hw hK
    obtain ⟨⟨old, he⟩, hit, hne⟩ := st
    obtain ⟨xs, hq, hx⟩ := hg
    obtain ⟨its, rv, p, hz⟩ := I.tuple hq
    obtain ⟨f0, f1, f2, f3, f4, f5⟩ := hf it (by simp)
    have hl := rv.length
    have htup : s.heap.IsTuple t its.toArray := p
    have hti : t ≠ it := tup_ne_iter htup hit
    have hin : i = its.toArray.size := by rw [List.size_toArray]; omega
    rw [hin] at hit
    exact wpAny_pyNext_enum_endD (fp := [it, t]) (n := its.toArray.size) (St := fun j h => h.IsTupleIter it t j ∧ h.IsTuple t its.toArray) (Draws.tuple (A := X.A.in1) (show X.A.in1.handled = none from I.ok.hd hc) it t hti its.toArray) he ⟨hit, htup⟩ fun h' eb => ⟨rfl, I.turned (t' := s.toks) (fun b o hb q => eb b o hb q) f0 f1 f3 f4 f5⟩
  self := fun A i s Q E st h => let ⟨⟨_, he⟩, _⟩ := st; wpAny_pyIter_enum he h

/-- enumerate(o) -/
def iEnumO (K : PySem.W.Frag) (C : Addr) (fld : Str) (ta : TA) : TI := fun σ H R => ta σ H fun vs H1 => ∃ a dx fs t zs, vs = [.ref a] ∧ H1 a = some (.ins C dx fs) ∧ fs.lookup fld = some (.ref t) ∧ SqT K H1 t zs ∧ R (IteT K t) H1
theorem pi_enumO {X : Cx} {e : Expr} {ta : TA} {p pos tpos : Pos} {elts : List Expr} {kk : Nat} {C : Addr} {fld : Str} {k : Nat} (B : ItbC X.prog X.w X.K X.mg X.base C fld k) (hr : Room (k + 4) X.A) (hg : Gl X "enumerate") (hm : X.mg "enumerate" = none) (ha : PA X [e] ta)
    (hs : starEach [e] X.env = [(false, eval e X.env)] := by rfl) : PI X (.Tuple elts kk tpos) (.Call (.Name "enumerate" p) [e] [] pos) (iEnumO X.K C fld ta) := by
  refine ⟨fun pins s σ H R I h => ?_⟩
  refine Call_ (ld_blt I hg hm boot_enumerate (PyProof.Rows.callWith_type1 (thn (ha.run pos pins s σ H _ I h) fun us s1 ⟨vs, H1, I1, r1, q1⟩ => ?_) hs rfl))
  obtain ⟨a, dx, fs, t, zs, ex, ea, hf, hz, q⟩ := q1
  subst ex
  obtain rfl := Vals.ref1 r1
  have sb : Sub X k X.A.in1.in1 := (Sub.in1 (Sub.in1 (⟨hr.mono (by omega), rfl⟩ : Sub X (k + 2) X.A)))
  refine callType_codes (Q₁ := fun obj s₁ => s₁.TypeIs obj "enumerate" ∧ wpAny (model X.prog X.w) X.A (pyIter obj) (PIE X pins σ (.Tuple elts kk tpos) R) X.xe s₁) F.called_enumerate (F.typeCall_enumerate_1 _) F.entry_object_init
    (codeAny_call_builtin F.called_enumerate.plain F.entry_enumerate_new (wpAny_of_eq (F.newCall_enumerate_1 _) (wpAny_mono (enum_newO (Q := fun obj s₁ => s₁.TypeIs obj "enumerate" ∧ wpAny (model X.prog X.w) X.A (pyIter obj) (PIE X pins σ (.Tuple elts kk tpos) R) X.xe s₁) ?_) (fun fin s' hq => ?_) fun e s' he => he))) fun obj s₁ h₁ => ?_
  · refine itb_iter sb B I1 ea hf hz fun it s' I' st f hle => ?_
    have he : IsEnum (s'.heap.push { cls := .type "enumerate", data := .fields #[.none, .bool false, .ref it, rawInt 0, .none, .none] }) s'.heap.objs.size it 0 .none := Heap.get?_push_size _ rfl
    refine ⟨⟨_, he, rfl⟩, wpAny_pyIter_enum he ?_⟩
    have I2 := I'.kept (t' := s'.toks) (h' := s'.heap.push { cls := .type "enumerate", data := .fields #[.none, .bool false, .ref it, rawInt 0, .none, .none] }) fun b o z => Heap.get?_push_of_some _ z
    obtain ⟨oi, hoi, hci, hdi⟩ := id st
    have hil : it < s'.heap.objs.size := Heap.lt_size hoi
    refine ⟨s'.heap.objs.size, [s'.heap.objs.size, it], _, _, H1, rfl, I2, turn_enumT t _ it, ⟨⟨.none, he⟩, st.at fun o z => Heap.get?_push_of_some _ z, Nat.ne_of_gt hil⟩, fun b hb => ?_, q⟩
    have e' : b = s'.heap.objs.size ∨ b = it := by simpa using hb
    rcases e' with z | z
    · rw [z]; exact I'.fpOk (Nat.le_refl _) (I'.hok.fresh (Nat.le_refl _))
    · rw [z]; exact f
  · obtain ⟨r, rfl, hq⟩ := hq
    exact hq
  · exact ⟨h₁.1, F.args_object_init_2 obj _, object_init_meets F.called_enumerate.init.lookup F.called_enumerate.made (by decide) _ _ X.A.in1 _ s₁ ⟨h₁.1, rfl, h₁.2⟩⟩

/-! list(o) -/
theorem ext_loopT {X : Cx} {pins : List (Addr × Obj)} {σ : L2.St} {A1 : Around} {q it t : Addr} {zs : List V} {Rs : Result → Shared → Prop} (hh : A1.in1.handled = none) :
    ∀ (m i : Nat) (H : Hp) (s : Shared), m = zs.length - i → i ≤ zs.length → Inv X pins σ H s → H q = some (.lst (zs.take i)) → SqT X.K H t zs → s.heap.IsTupleIter it t i → FpOk X pins H it →
      (∀ s', Inv X pins σ (upd H q (.lst zs)) s' → Rs (.ok (.ret .none)) s') → codeAny (model X.prog X.w) A1 (.builtin "list.extend.loop" ⟨[.ref q, .ref it, .none], []⟩) Rs s := by
  intro m
  induction m with
  | zero =>
    intro i H s hm hi I hq hz st f hd
    have hin : i = zs.length := by omega
    subst hin
    obtain ⟨its, rv, p, hsz⟩ := I.tuple hz
    obtain ⟨f0, f1, f2, f3, f4, f5⟩ := f
    have hl := rv.length
    refine codeAny_builtin PySem.F.entry_extend_loop ?_
    rw [Around.under_plainId PySem.F.plain_extend_loop _]
    show wpAny _ A1.in1 (pyNext (.ref it) >>= _) _ _ s
    refine wpAny_bind (wpAny_pyNext_tuple_end hh st (show s.heap.IsTuple t its.toArray from p) (by simp; omega) fun h' eb => wpAny_pure ?_)
    have I2 := I.turned (t' := s.toks) (fun b o hb e => eb b o hb e) f0 f1 f3 f4 f5
    have e : upd H q (.lst zs) = H := by
      funext b
      by_cases hb : b = q
      · rw [hb, upd_same, hq, List.take_length]
      · rw [upd_ne hb]
    exact hd _ (by rw [e]; exact I2)
  | succ m ih =>
    intro i H s hm hi I hq hz st f hd
    have hlt : i < zs.length := by omega
    obtain ⟨its, rv, p, hsz⟩ := I.tuple hz
    obtain ⟨u, hu, ru⟩ := rv.get (List.getElem?_eq_getElem hlt)
    obtain ⟨f0, f1, f2, f3, f4, f5⟩ := id f
    refine codeAny_builtin PySem.F.entry_extend_loop ?_
    rw [Around.under_plainId PySem.F.plain_extend_loop _]
    show wpAny _ A1.in1 (pyNext (.ref it) >>= _) _ _ s
    refine wpAny_bind (wpAny_pyNext_tuple_item st (show s.heap.IsTuple t its.toArray from p) (x := u) (by simpa using hu) fun h' st' sb => ?_)
    have I1 : Inv X pins σ H { s with heap := h' } := I.turned (t' := s.toks) (fun b o hb e => (sb.2 b hb).trans e) f0 f1 f3 f4 f5
    show wpAny _ A1.in1 (updateSeq q (·.push u) >>= _) _ _ _
    obtain ⟨z, its2, k, r2, hl, e⟩ := I1.lstM hq
    have hzl : zs.length ≤ sizeLine := hsz
    have hlen : its2.length = i := by rw [← r2.length, List.length_take]; omega
    have h3 : (zs.take i ++ [zs[i]]).length ≤ sizeLine := by rw [List.length_append, List.length_take, List.length_singleton]; omega
    refine wpAny_bind (wpAny_updateSeq e rfl (wpAny_pure ⟨plainId_quiet PySem.F.plain_extend_loop _, ?_⟩) (by rw [List.size_toArray]; omega) (by show (its2.toArray.push u).size ≤ sizeLine + 1; rw [Array.size_push, List.size_toArray]; omega))
    have I2 := I1.lset (f := (·.push u)) (its' := its2 ++ [u]) (t' := s.toks) (ys := zs.take i ++ [zs[i]]) hq e (by simp) (r2.append (.cons ru .nil)) h3
    have hqi : q ≠ it := fun z => by rw [z, f0] at hq; cases hq
    have hqt : ∀ {o}, SqT X.K (upd H q o) t zs := fun {o} => by
      rcases hz with (z | ⟨ob, z⟩) | z
      · refine .inl (.inl ?_)
        rw [upd_ne (ne_of z hq (fun w => nomatch w))]; exact z
      · refine .inl (.inr ⟨ob, ?_⟩)
        rw [upd_ne (ne_of z hq (fun w => nomatch w))]; exact z
      · exact .inr z
    refine ih (i + 1) _ _ (by omega) hlt I2 ?_ hqt (st'.at fun o z => ?_) ⟨?_, f1, f2, f3, f4, f5⟩ fun s' I' => hd s' ?_
    · rw [upd_same, List.take_succ_eq_append_getElem hlt]
    · exact (Heap.get?_update_ne _ _ _ _ hqi.symm).trans z
    · rw [upd_ne hqi.symm]; exact f0
    · rw [upd_upd] at I'
      exact I'
/-- list(o), o such an instance -/
def rListO (K : PySem.W.Frag) (C : Addr) (fld : Str) : List V → Hp → VK → Prop := fun xs H Q => ∃ a dx fs t zs, xs = [.ref a] ∧ H a = some (.ins C dx fs) ∧ fs.lookup fld = some (.ref t) ∧ SqT K H t zs ∧ ∀ q, H q = none → Q (.ref q) (upd H q (.lst zs))
theorem call_listO {X : Cx} {C : Addr} {fld : Str} {k : Nat} (B : ItbC X.prog X.w X.K X.mg X.base C fld k) (hr : Room (k + 4) X.A) (hc : X.calm = true) : CallR X (.type "list") (rListO X.K C fld) := by
  intro pins s σ H xs us Q I rv h
  obtain ⟨a, dx, fs, t, zs, rfl, ha, hf, hz, hq⟩ := h
  obtain rfl := Vals.ref1 rv
  have sb : Sub X k X.A.in1.in1 := (Sub.in1 (Sub.in1 (⟨hr.mono (by omega), rfl⟩ : Sub X (k + 2) X.A)))
  refine callType_codes (Q₁ := fun obj s₁ => obj = .ref s.heap.objs.size ∧ s₁ = { s with heap := s.heap.push { cls := .type "list", data := .seq #[] } }) PySem.F.called_list (PySem.F.typeCall_list_1 _) PySem.F.entry_list_init
    (code_list_new _ ⟨rfl, rfl⟩) fun obj s₁ h₁ => ?_
  obtain ⟨rfl, rfl⟩ := h₁
  have hS : (s.heap.push { cls := .type "list", data := .seq #[] }).get? s.heap.objs.size = some { cls := .type "list", data := .seq #[] } := Heap.get?_push_size _ rfl
  refine ⟨⟨_, hS, rfl⟩, PySem.F.args_list_init_2 _ _, ?_⟩
  have fr : H s.heap.objs.size = none := I.hok.fresh (Nat.le_refl _)
  have I1 : Inv X pins σ (upd H s.heap.objs.size (.lst [])) { s with heap := s.heap.push { cls := .type "list", data := .seq #[] } } := I.lnew (its := []) (t' := s.toks) .nil (Nat.zero_le _)
  show wpAny _ _ (do let old ← Builtin.List.listItems (.ref s.heap.objs.size); Builtin.List.listUpdate (.ref s.heap.objs.size) (fun _ => #[]); letGo old.toList.reverse; Builtin.List.listExtendWith (.ref s.heap.objs.size) (.ref a) .none) _ _ _
  refine wpAny_bind ?_
  unfold Builtin.List.listItems
  refine wpAny_bind (wpAny_seqItems hS rfl (wpAny_pure ?_))
  show wpAny _ _ (updateSeq s.heap.objs.size (fun _ => #[]) >>= fun _ => letGo (#[] : Array Value).toList.reverse >>= fun _ => Builtin.List.listExtendWith (.ref s.heap.objs.size) (.ref a) .none) _ _ _
  refine wpAny_bind (wpAny_updateSeq hS rfl ?_)
  have I2 := I1.lset (f := fun _ => #[]) (its := []) (its' := []) (ys := []) (t' := s.toks) upd_same hS rfl .nil (Nat.zero_le _)
  rw [upd_upd] at I2
  refine wpAny_bind (wpAny_letGo ?_)
  have hne : a ≠ s.heap.objs.size := ne_of_none ha fr
  have ha2 : upd H s.heap.objs.size (.lst []) a = some (.ins C dx fs) := by rw [upd_ne hne]; exact ha
  have hz2 : SqT X.K (upd H s.heap.objs.size (.lst [])) t zs := by
    rcases hz with (z | ⟨ob, z⟩) | z
    · exact .inl (.inl (by rw [upd_ne (ne_of_none z fr)]; exact z))
    · exact .inl (.inr ⟨ob, by rw [upd_ne (ne_of_none z fr)]; exact z⟩)
    · exact .inr z
  obtain ⟨mA, J, _⟩ := ins_get I2.hok ha2
  obtain ⟨od, J, _⟩ := J.look
  unfold Builtin.List.listExtendWith
  refine wpAny_bind (J.type.here ?_)
  have h1 : Builtin.List.listSameRef (.ref s.heap.objs.size) (.ref a) = false := by simp [Builtin.List.listSameRef, hne.symm]
  have h2 : (Value.ref C == Value.type "list") = false := rfl
  have h3 : (Value.ref C == Value.type "tuple") = false := rfl
  simp only [h1, h2, h3, Bool.or_false, Bool.false_eq_true, if_false]
  refine wpAny_bind (itb_iter sb B I2 ha2 hf hz2 fun it s' I' st f hle => ?_)
  obtain ⟨mA', J', _⟩ := ins_get I'.hok ha2
  obtain ⟨od', J', _⟩ := J'.look
  have hint : ∀ {Q' : Bool → Shared → Prop} {E' : Value → Shared → Prop}, Q' true s' → wpAny (model X.prog X.w) X.A.in1.in1 (Builtin.List.listLengthHint (.ref a)) Q' E' s' := fun hQ => by
    unfold Builtin.List.listLengthHint
    refine wpAny_bind (wpAny_bind (J'.type.here ((PySem.W.looks_findIn I'.kIn B.nolen).here ?_)))
    refine PySem.W.KFB.if_not rfl ?_
    refine PySem.W.KFB.if_not rfl ?_
    refine wpAny_bind (wpAny_bind (J'.type.here ((PySem.W.looks_findIn I'.kIn B.nohint).here ?_)))
    exact wpAny_pure hQ
  have hend : ∀ s'', Inv X pins σ (upd H s.heap.objs.size (.lst zs)) s'' → (wants (fun r s₂ => r = .none ∧ EP X pins σ Q (.ref s.heap.objs.size) s₂) X.xe) (.ok (.ret .none)) s'' := fun s'' I'' => ⟨rfl, .ref s.heap.objs.size, _, I'', rfl, hq _ fr⟩
  have go : ∀ s'', Inv X pins σ (upd H s.heap.objs.size (.lst [])) s'' → s''.heap.IsTupleIter it t 0 → codeAny (model X.prog X.w) X.A.in1 (.builtin "list.extend.loop" ⟨[.ref s.heap.objs.size, .ref it, .none], []⟩) (wants (fun r s₂ => r = .none ∧ EP X pins σ Q (.ref s.heap.objs.size) s₂) X.xe) s'' := fun s'' I'' st'' =>
    ext_loopT (A1 := X.A.in1) (zs := zs) (show X.A.in1.in1.handled = none from I.ok.hd hc) _ 0 _ s'' rfl (Nat.zero_le _) I'' upd_same hz2 st'' f fun s3 I3 => hend s3 (by rw [upd_upd] at I3; exact I3)
  refine wpAny_bind (wpAny_holding (hint ?_))
  have hie : it ≠ s.heap.objs.size := fun z => by
    have f0 := f.1
    rw [z, upd_same] at f0
    cases f0
  obtain ⟨z, its, k', r3, hl3, e3⟩ := I'.lstM upd_same
  cases r3
  refine wpAny_ite_split (fun _ => ?_) (fun _ => wpAny_pure ⟨plainId_quiet PySem.F.plain_extend_loop _, go s' I' st⟩)
  refine wpAny_bind (wpAny_rule ?_)
  refine wpAny_bind ?_
  show wpAny _ _ (updateSeq s.heap.objs.size (·.push .none) >>= fun _ => updateSeq s.heap.objs.size (·.pop)) _ _ _
  refine wpAny_bind (wpAny_updateSeq e3 rfl ?_)
  have I3 := I'.lset (f := (·.push Value.none)) (its' := [Value.none]) (ys := [.non]) (t' := s'.toks) upd_same e3 (by simp) (.cons rfl .nil) (by rw [List.length_singleton, sizeLine_eq]; decide)
  obtain ⟨z4, its4, k4, r4, hl4, e4⟩ := I3.lstM upd_same
  obtain ⟨u4, rfl, ru4⟩ := r4.one
  refine wpAny_updateSeq e4 rfl ?_ (by show 1 ≤ sizeLine; rw [sizeLine_eq]; decide) (by show 0 ≤ sizeLine + 1; exact Nat.zero_le _)
  have I4 := I3.lset (f := (·.pop)) (its := [u4]) (its' := []) (ys := []) (t' := s'.toks) upd_same e4 (by rfl) .nil (Nat.zero_le _)
  rw [upd_upd, upd_upd] at I4
  refine wpAny_pure ⟨plainId_quiet PySem.F.plain_extend_loop _, go _ I4 (st.at fun o z => ?_)⟩
  exact (Heap.get?_update_ne _ _ _ _ hie).trans ((Heap.get?_update_ne _ _ _ _ hie).trans z)
end SV
end

section
set_option Elab.async false
set_option linter.all false
set_option maxRecDepth 100000
set_option maxHeartbeats 2000000
/-! A written dict whose keys are tuples of pairs of ints. -/
namespace SV
open PySem PySem.Spec PyProof.Rows L2

def nk (ps : List (Int × Int)) : NestedKey := .tup (ps.map fun p => .tup [.num p.1, .num p.2])
theorem nk_inj {a b : List (Int × Int)} (h : nk a = nk b) : a = b := by
  unfold nk at h
  injection h with h
  induction a generalizing b with
  | nil => cases b with
    | nil => rfl
    | cons _ _ => cases h
  | cons p r ih => cases b with
    | nil => cases h
    | cons q t =>
      rw [List.map_cons, List.map_cons] at h
      injection h with h1 h2
      injection h1 with h1
      injection h1 with e1 h1
      injection h1 with e2 _
      injection e1 with e1
      injection e2 with e2
      rw [ih h2, Prod.ext e1 e2]
theorem nk_depth (ps : List (Int × Int)) : (nk ps).depth ≤ 8 := by
  have h : ∀ l : List (Int × Int), NestedKey.depthAll (l.map fun p => .tup [.num p.1, .num p.2]) ≤ 1 := by
    intro l
    induction l with
    | nil => simp [NestedKey.depthAll]
    | cons p r ih =>
      rw [List.map_cons, NestedKey.depthAll]
      have : (NestedKey.tup [.num p.1, .num p.2]).depth = 1 := by simp [NestedKey.depth, NestedKey.depthAll]
      omega
  unfold nk
  rw [NestedKey.depth]
  have := h ps
  omega
/-- in K at a: the tuple (x, y) -/
def pairIn (K : PySem.W.Frag) (p : Int × Int) : Value → Bool
  | .ref a => (match K.lookup a with
    | some ⟨.type c, _, .seq vs _, _⟩ => decide (c = "tuple") && (match vs.toList with
      | [.int x _, .int y _] => decide (x = p.1) && decide (y = p.2)
      | _ => false)
    | _ => false)
  | _ => false
theorem pairIn_ok {K : PySem.W.Frag} {p : Int × Int} {v : Value} (h : pairIn K p v = true) {hp : Heap} (X : K.In hp) : NestedIs hp (.tup [.num p.1, .num p.2]) v := by
  unfold pairIn at h
  split at h
  · rename_i a
    split at h
    · rename_i c dd vs n sl e
      simp only [Bool.and_eq_true, decide_eq_true_eq] at h
      obtain ⟨h1, h2⟩ := h
      split at h2
      · rename_i x t y u e2
        simp only [Bool.and_eq_true, decide_eq_true_eq] at h2
        refine .tup (X _ _ e) (by rw [h1]) rfl ?_
        rw [e2, ← h2.1, ← h2.2]
        exact .cons (.int _ _) (.cons (.int _ _) .nil)
      · cases h2
    · cases h
  · cases h
def pairsIn (K : PySem.W.Frag) : List (Int × Int) → List Value → Bool
  | [], [] => true
  | p :: ps, v :: vs => pairIn K p v && pairsIn K ps vs
  | _, _ => false
theorem pairsIn_ok {K : PySem.W.Frag} : ∀ {ps : List (Int × Int)} {vs : List Value}, pairsIn K ps vs = true → ∀ {hp : Heap}, K.In hp → NestedAll hp (ps.map fun p => .tup [.num p.1, .num p.2]) vs
  | [], [], _, _, _ => .nil
  | [], _ :: _, h, _, _ => by cases h
  | _ :: _, [], h, _, _ => by cases h
  | p :: ps, v :: vs, h, hp, X => by
    have h' : (pairIn K p v && pairsIn K ps vs) = true := h
    rw [Bool.and_eq_true] at h'
    exact .cons (pairIn_ok h'.1 X) (pairsIn_ok h'.2 X)
def keyIn (K : PySem.W.Frag) (ps : List (Int × Int)) : Value → Bool
  | .ref a => (match K.lookup a with
    | some ⟨.type c, _, .seq vs _, _⟩ => decide (c = "tuple") && pairsIn K ps vs.toList
    | _ => false)
  | _ => false
theorem keyIn_ok {K : PySem.W.Frag} {ps : List (Int × Int)} {v : Value} (h : keyIn K ps v = true) {hp : Heap} (X : K.In hp) : NestedIs hp (nk ps) v := by
  unfold keyIn at h
  split at h
  · rename_i a
    split at h
    · rename_i c dd vs n sl e
      simp only [Bool.and_eq_true, decide_eq_true_eq] at h
      exact .tup (X _ _ e) (by rw [h.1]) rfl (pairsIn_ok h.2 X)
    · cases h
  · cases h
/-- one line of the table: its key, its hash as a number, its text -/
structure Line where
  key : List (Int × Int)
  hash : Int
  txt : Str
def entIn (K : PySem.W.Frag) (l : Line) (e : DictEntry) : Bool := decide (e.hash = l.hash) && (keyIn K l.key e.key && (match e.val with
  | .str x _ => decide (x = l.txt)
  | _ => false))
def entsIn (K : PySem.W.Frag) : List Line → List DictEntry → Bool
  | [], [] => true
  | l :: ls, e :: es => entIn K l e && entsIn K ls es
  | _, _ => false
def tabIn (K : PySem.W.Frag) (d : Addr) (ls : List Line) : Bool := match K.lookup d with
  | some ⟨.type c, none, .dict es _, sl⟩ => decide (c = "dict") && (sl.isEmpty && (!(d == sysModules) && entsIn K ls es.toList))
  | _ => false
theorem keyIn_ref {K : PySem.W.Frag} {ps : List (Int × Int)} {v : Value} (h : keyIn K ps v = true) : ∃ a, v = .ref a := by
  unfold keyIn at h
  split at h
  · exact ⟨_, rfl⟩
  · cases h
theorem ents_ok {prog : Program} {w : World} {K : PySem.W.Frag} : ∀ {ls : List Line} {es : List DictEntry}, entsIn K ls es = true → (∀ l ∈ ls, l.hash = (nk l.key).hash w) →
    ∃ xs : List (NestedKey × Addr × Value), es = xs.map (entryOfKey (nestedKind prog w)) ∧ xs.map (·.1) = ls.map (fun l => nk l.key) ∧ (∀ hp : Heap, K.In hp → ∀ x ∈ xs, (nestedKind prog w).is hp x.1 x.2.1) ∧
      ∀ l ∈ ls, ∃ t, ∃ x ∈ xs, x.1 = nk l.key ∧ x.2.2 = .str l.txt t
  | [], [], _, _ => ⟨[], rfl, rfl, fun _ _ x hx => (nomatch hx), fun l hl => (nomatch hl)⟩
  | [], _ :: _, h, _ => by cases h
  | _ :: _, [], h, _ => by cases h
  | l :: ls, e :: es, h, hh => by
    have h' : (entIn K l e && entsIn K ls es) = true := h
    rw [Bool.and_eq_true] at h'
    obtain ⟨he, hr⟩ := h'
    obtain ⟨xs, e1, e2, e3, e4⟩ := ents_ok (prog := prog) (w := w) hr fun m hm => hh m (List.mem_cons_of_mem _ hm)
    unfold entIn at he
    rw [Bool.and_eq_true, Bool.and_eq_true] at he
    obtain ⟨h1, h2, h3⟩ := he
    obtain ⟨a, ha⟩ := keyIn_ref h2
    obtain ⟨eh, ek, ev⟩ := e
    simp only at h1 h2 h3 ha
    subst ha
    have q := hh l List.mem_cons_self
    obtain ⟨t, rfl⟩ : ∃ t, ev = .str l.txt t := by
      split at h3
      · rename_i x t
        exact ⟨t, by rw [of_decide_eq_true h3]⟩
      · cases h3
    refine ⟨(nk l.key, a, .str l.txt t) :: xs, ?_, ?_, fun hp X x hx => ?_, fun m hm => ?_⟩
    · rw [List.map_cons, ← e1, of_decide_eq_true h1, q]
      rfl
    · rw [List.map_cons, List.map_cons, e2]
    · rcases List.mem_cons.mp hx with rfl | hx
      · exact ⟨keyIn_ok h2 X, nk_depth _⟩
      · exact e3 hp X x hx
    · rcases List.mem_cons.mp hm with rfl | hm
      · exact ⟨t, _, List.mem_cons_self, rfl, rfl⟩
      · obtain ⟨t', x, hx, z1, z2⟩ := e4 m hm
        exact ⟨t', x, List.mem_cons_of_mem _ hx, z1, z2⟩
/-- d[p], p a tuple of pairs of ints, d the written table -/
def rShape (K : PySem.W.Frag) (ls : List Line) : R2 := fun x y H Q => ∃ (d p : Addr) (qs : List Addr) (l : Line), x = .ref d ∧ y = .ref p ∧ tabIn K d ls = true ∧ l ∈ ls ∧ H p = some (.tup (qs.map V.ref)) ∧
  Paired (fun (q : Addr) (z : Int × Int) => H q = some (.tup [.int z.1, .int z.2])) qs l.key ∧ Q (.str l.txt) H
theorem pairs_at {X : Cx} {pins : List (Addr × Obj)} {σ : L2.St} {H : Hp} {s : Shared} (I : Inv X pins σ H s) : ∀ {qs : List Addr} {ps : List (Int × Int)} {us : List Value}, Paired (fun (q : Addr) (z : Int × Int) => H q = some (.tup [.int z.1, .int z.2])) qs ps →
    Vals (qs.map V.ref) us → NestedAll s.heap (ps.map fun p => .tup [.num p.1, .num p.2]) us
  | _, _, _, .nil, r => by cases r; exact .nil
  | _, _, _, .cons h t, r => by
    cases r with
    | cons r1 r2 =>
      cases r1
      obtain ⟨_, its, rv, ob, ho, hc, n, hd⟩ := I.hok _ _ h
      cases rv with
      | cons a b =>
        cases b with
        | cons c d =>
          cases d
          obtain ⟨t1, rfl⟩ := a
          obtain ⟨t2, rfl⟩ := c
          exact .cons (.tup ho hc hd (.cons (.int _ _) (.cons (.int _ _) .nil))) (pairs_at I t r2)
theorem ix_shape {X : Cx} {ls : List Line} (hu : X.A.units + 16 < cLine) (hh : ∀ l ∈ ls, l.hash = (nk l.key).hash X.w) (hn : (ls.map (·.key)).Nodup) : IxR X (rShape X.K ls) := by
  intro value slice pins s σ H x y v u Q I rx ry h hs
  obtain ⟨d, p, qs, l, rfl, rfl, ht, hl, hp, hq, q⟩ := h
  cases rx
  cases ry
  unfold tabIn at ht
  split at ht
  · rename_i c es n sl e
    simp only [Bool.and_eq_true, decide_eq_true_eq] at ht
    obtain ⟨h1, h2, h3, h4⟩ := ht
    have hsl : sl = #[] := Array.isEmpty_iff.mp h2
    subst h1 hsl
    obtain ⟨xs, x1, x2, x3, x4⟩ := ents_ok (prog := X.prog) (w := X.w) h4 hh
    have hd := I.kIn _ _ e
    have hnd : (xs.map (·.1)).Nodup := by
      rw [x2, List.Nodup, List.pairwise_map]
      rw [List.Nodup, List.pairwise_map] at hn
      exact hn.imp fun {a b} z w => z (nk_inj w)
    have hm := Heap.DictKeyed.ofEntries (knd := nestedKind X.prog X.w) xs hd ⟨rfl, rfl, rfl⟩ rfl x1 (x3 _ I.kIn) hnd
    obtain ⟨t, x, hx, z1, z2⟩ := x4 l hl
    have hv : valueAt (pairsH xs) (nk l.key) = some (.str l.txt t) := by
      refine PySem.valueAt_of_mem hm.nodup ?_
      rw [← z1, ← z2]
      exact List.mem_map.mpr ⟨x, hx, rfl⟩
    obtain ⟨_, its, rv, ob, ho, hc, n2, hd2⟩ := I.hok _ _ hp
    have hk : (nestedKind X.prog X.w).is s.heap (nk l.key) p := ⟨.tup ho hc hd2 (by simpa using pairs_at I hq rv), nk_depth _⟩
    exact tail_any hm.typeIs slot_dict_getitem.lookup (getItem_keyed (show (nestedKind X.prog X.w).room X.A.in1 from by show X.A.units + 1 + 8 < cLine; omega) hk hm hv ⟨.str l.txt, H, I.tok _, ⟨t, rfl⟩, q⟩) hs
  · cases ht
end SV
end

section
set_option Elab.async false
set_option linter.all false
set_option maxRecDepth 100000
set_option maxHeartbeats 4000000
/-! Own rule: sorted(d), d a dict with tuple keys; a walk over a list or a tuple. -/
namespace SV
open PySem PySem.Spec PyProof.Rows L2 PySem.Calls
section
variable {prog : Program} {w : World} {A : Around} {E : Value → Shared → Prop} {s : Shared} {T : String} {r d : Addr} {n : Nat} {P : Nat → Value → Prop} {OK : Heap → Prop}
theorem collectK {R : List Value → Shared → Prop} (K : PySem.W.KdlSrc prog w T r d n P OK) (hh : A.handled = none) (hok : OK s.heap) (hn : n ≤ sizeLine)
    (h : ∀ h' tk acc', (∀ b o, s.heap.get? b = some o → h'.get? b = some o) → s.heap.objs.size < h'.objs.size → ItemsOf P acc' n → R acc'.toList { s with heap := h', toks := tk }) :
    wpAny (model prog w) A (collect (.ref r)) R E s := by
  have hlt := K.there _ hok
  unfold collect
  refine wpAny_bind (wpAny_runValue (codeAny_builtin entry_proto_collect' ?_))
  rw [Around.under_plainId PySem.F.plain_proto_collect _]
  show wpAny _ A.in1 (newList [] >>= fun l => again (.builtin "list.__iadd__" ⟨[l, .ref r], []⟩)) _ _ s
  refine wpAny_bind (wpAny_newObj_type ?_)
  refine wpAny_pure ⟨plainId_quiet PySem.F.plain_list_iadd _, codeAny_builtin entry_list_iadd' ?_⟩
  rw [Around.under_plainId PySem.F.plain_list_iadd _]
  have hS₁ : (s.heap.push { cls := .type "list", data := .seq ([] : List Value).toArray }).get? s.heap.objs.size = some { cls := .type "list", data := .seq #[] } := Heap.get?_push_size _ rfl
  show wpAny _ A.in1 (Builtin.List.listExtendWith (.ref s.heap.objs.size) (.ref r) (.ref s.heap.objs.size)) _ _ _
  have key := PySem.W.kdl_extend (A := A) (s := { s with heap := s.heap.push { cls := .type "list", data := .seq ([] : List Value).toArray } })
    (R := fun (q : Result) (s' : Shared) => ∃ (h' : Heap) (tk : Nat) (acc' : Array Value) (c' : Nat), q = .ok (.ret (.ref s.heap.objs.size)) ∧ s' = { s with heap := h', toks := tk } ∧
      (∀ b o, s.heap.get? b = some o → h'.get? b = some o) ∧ h'.get? s.heap.objs.size = some { cls := .type "list", dict := none, data := .seq acc' c', slots := #[] } ∧ ItemsOf P acc' n)
    K hh (K.keep _ _ hok fun b _ o e => Heap.get?_push_of_some _ e) s.heap.objs.size (Nat.ne_of_gt hlt.1) (Nat.ne_of_gt hlt.2) (.ref s.heap.objs.size) 0 hS₁
    (fun h' tk acc' c' hk hS' hacc => ⟨h', tk, acc', c', rfl, rfl, fun b o e => hk b o (Nat.ne_of_lt (Heap.lt_size e)) (Heap.get?_push_of_some _ e), hS', hacc⟩) hn
  refine wpAny_mono key (fun fin s' x => ?_) fun e s' x => ?_
  · cases fin with
    | done f =>
      obtain ⟨h', tk, acc', c', e, rfl, hk, hS', hacc⟩ := x
      cases e
      show wpAny _ A (load s.heap.objs.size >>= _) _ _ _
      refine wpAny_bind (wpAny_load hS' ?_)
      refine wpAny_pure ?_
      exact h h' tk acc' hk (Heap.lt_size hS') hacc
    | again c₁ =>
      refine ⟨x.1, codeAny_mono x.2 fun q s₂ y => ?_⟩
      obtain ⟨h', tk, acc', c', rfl, rfl, hk, hS', hacc⟩ := y
      show wpAny _ A (load s.heap.objs.size >>= _) _ _ _
      refine wpAny_bind (wpAny_load hS' ?_)
      refine wpAny_pure ?_
      exact h h' tk acc' hk (Heap.lt_size hS') hacc
  · obtain ⟨_, _, _, _, e', _⟩ := x
    cases e'
theorem sortedK {Q : Value → Shared → Prop} (K : PySem.W.KdlSrc prog w T r d n P OK) (hh : A.handled = none) (hok : OK s.heap) (hn : n ≤ sizeLine)
    (h : ∀ (h' : Heap) (tk : Nat) (acc' : Array Value), (∀ b o, s.heap.get? b = some o → h'.get? b = some o) → s.heap.objs.size < h'.objs.size → ItemsOf P acc' n → ∀ E' : Value → Shared → Prop,
      wpAny (model prog w) A.in1.in1 (Builtin.«list.sort» ⟨[.ref h'.objs.size], []⟩) (fun f s' => f = .done (.ret .none) ∧ Q (.ref h'.objs.size) s') E' { s with heap := h'.push (seqObj "list" acc' 0), toks := tk }) :
    wpAny (model prog w) A (call (.builtin "sorted") [.ref r]) Q E s := by
  refine call_function_entry kind_sorted plain_sorted entry_sorted (args_sorted1 _) ?_
  unfold Builtin.«sorted»
  refine wpAny_bind (m := checkCount "sorted" 1 1 _) (wpAny_pure ?_)
  refine wpAny_bind (collectK (A := A.in1) K hh hok hn fun h' tk acc' hk hlt hG => ?_)
  refine wpAny_bind (wpAny_newList ?_ (by rw [Array.length_toList, hG.1]; exact hn))
  refine wpAny_bind (wpAny_holding (wpAny_call_entry_kw slot_list_sort ⟨_, Heap.get?_push_size _ rfl, rfl⟩ entry_list_sort ?body (args_list_sort _)))
  case body =>
    refine wpAny_mono (h h' tk acc' hk hlt hG _) (fun f s' hf => ?_) fun _ _ e => e
    obtain ⟨rfl, hq⟩ := hf
    exact ⟨_, rfl, wpAny_pure ⟨_, rfl, hq⟩⟩
end
/-- what a key says -/
def kD : L2.Key → PyData
  | .inl i => .int i
  | .inr x => .str x
def encK (k : List L2.Key) : PyData := .tuple (k.map kD)
theorem dpAll_kD {K : PySem.W.Frag} {H : Hp} : ∀ k : List L2.Key, DpAll K H (k.map kV) (k.map kD)
  | [] => .nil
  | .inl i :: r => .cons (.int i) (dpAll_kD r)
  | .inr x :: r => .cons (.str x) (dpAll_kD r)
/-- sorted(d), d a dict with tuple keys -/
@[irreducible] def rSortedT : List V → Hp → VK → Prop := fun vs H Q => ∃ (d : Addr) (kvs : List (List L2.Key × V)), vs = [V.ref d] ∧ Rd H d (.dT kvs) ∧ PySem.W.AllAlike (kvs.map fun p => encK p.1) ∧ PySem.W.Sortable (kvs.map fun p => encK p.1) ∧ (∀ p ∈ kvs, (encK p.1).depth ≤ 8) ∧
  ∀ p bs, H p = none → IsKeys H kvs bs → Q (.ref p) (upd H p (.lst (((bs.zip kvs).mergeSort (PySem.W.dataLe false fun q => encK q.2.1)).map fun q => V.ref q.1)))
theorem isKeys_mem {H : Hp} {kvs : List (List L2.Key × V)} {bs : List Addr} (h : IsKeys H kvs bs) : ∀ q ∈ bs.zip kvs, H q.1 = some (.tup (q.2.1.map kV)) := by
  unfold IsKeys at h
  induction h with
  | nil => intro q hq; cases hq
  | cons a _ ih =>
    intro q hq
    rw [List.zip_cons_cons] at hq
    rcases List.mem_cons.mp hq with rfl | hq
    · exact a
    · exact ih q hq
theorem zip_snd' {α β : Type} : ∀ {as : List α} {bs : List β}, as.length = bs.length → (as.zip bs).map (·.2) = bs
  | [], [], _ => rfl
  | a :: as, b :: bs, h => by
    rw [List.zip_cons_cons, List.map_cons, zip_snd' (by simpa using h)]
  | [], _ :: _, h => by simp at h
  | _ :: _, [], h => by simp at h
theorem zip_fst' {α β : Type} : ∀ {as : List α} {bs : List β}, as.length = bs.length → (as.zip bs).map (·.1) = as
  | [], [], _ => rfl
  | a :: as, b :: bs, h => by
    rw [List.zip_cons_cons, List.map_cons, zip_fst' (by simpa using h)]
  | [], _ :: _, h => by simp at h
  | _ :: _, [], h => by simp at h
theorem cr_sortedT {X : Cx} (hc : X.calm = true) (hu : X.A.units + 16 < cLine) : CallR X (.builtin "sorted") rSortedT := by
  intro pins s σ H xs us Q I r h
  unfold rSortedT at h
  obtain ⟨d, kvs, rfl, hd, hal, hso, hdp, q⟩ := h
  obtain ⟨u, rfl, rx⟩ := r.one
  cases rx
  obtain ⟨z, hs, ks, pr, o, es, ep, ho, hx, hdt, he, hn⟩ := (show ObjOk X.prog X.w H s.heap d (.dT kvs) from hd.ok I.hok)
  have l1 : es.size = ks.length := size_of_entries he
  have l2 : kvs.length = ks.length := Paired.length pr
  refine sortedK (kdl_raw hs hx hdt) (I.ok.hd hc) ho (by omega) fun h' tk acc' kp hlt it E' => ?_
  have ea : acc'.toList = ks.map fun x => Value.ref x.2.1 := by
    have hl : acc'.toList.length = ks.length := by rw [Array.length_toList, it.1]; exact l1
    apply List.ext_getElem?
    intro j
    rw [List.getElem?_map]
    cases hj : acc'.toList[j]? with
    | none =>
      have h1 := List.getElem?_eq_none_iff.mp hj
      rw [List.getElem?_eq_none (by omega)]
      all_goals rfl
    | some v =>
      obtain ⟨en, hen, hv⟩ := it.2 j v (by rw [← Array.getElem?_toList]; exact hj)
      have qe := entry_at he j
      rw [hen] at qe
      cases hb : ks[j]? with
      | none =>
        rw [hb] at qe
        exact nomatch (show some en = none from qe)
      | some b =>
        rw [hb] at qe
        have e2 : en = entryOfKey (tupleKind (mixKind X.prog X.w)) b := Option.some.inj qe
        rw [hv, e2]
        all_goals rfl
  have ik := isKeys_of pr
  generalize hbs : (ks.map fun x => x.2.1) = bs at ik
  have eb : acc'.toList = bs.map Value.ref := by rw [ea, ← hbs, List.map_map]; all_goals rfl
  have lb : bs.length = kvs.length := by rw [← hbs, List.length_map]; omega
  have hsz : ((bs.map Value.ref).length) ≤ sizeLine := by rw [List.length_map, lb]; exact z
  obtain ⟨vl, hvl⟩ : ∃ vl, bs.map Value.ref = vl := ⟨_, rfl⟩
  have ev : vl = ((bs.zip kvs).map fun q => Value.ref q.1) := by
    have : ((bs.zip kvs).map fun q => Value.ref q.1) = ((bs.zip kvs).map (·.1)).map Value.ref := by rw [List.map_map]; rfl
    rw [this, zip_fst' lb, hvl]
  have each : PySem.W.EachIs (fun v (q : Addr × List L2.Key × V) => v = Value.ref q.1) vl (bs.zip kvs) := by
    rw [ev]
    generalize bs.zip kvs = l
    induction l with
    | nil => exact .nil
    | cons a l ih => exact .cons rfl ih
  have enc : (bs.zip kvs).map (fun q => encK q.2.1) = kvs.map fun p => encK p.1 := by
    have : (bs.zip kvs).map (fun q => encK q.2.1) = ((bs.zip kvs).map (·.2)).map fun p => encK p.1 := by rw [List.map_map]; rfl
    rw [this, zip_snd' lb]
  have reads : ∀ hh : Heap, (∀ b o, s.heap.get? b = some o → hh.get? b = some o) → PySem.W.EachIs (fun v (q : Addr × List L2.Key × V) => ∃ as, Reads hh v (encK q.2.1) as) vl (bs.zip kvs) := fun hh kh =>
    each_both each fun v q hq e => by
      subst e
      obtain ⟨as, r⟩ := Dp.reads I (encK q.2.1) (.ref q.1) (.ref q.1) (.tup (SqT.of (isKeys_mem ik q hq)) (dpAll_kD q.2.1)) rfl
      exact ⟨as, PyProof.Rows.Reads.keeps kh r⟩
  have hS : (h'.push (seqObj "list" acc' 0)).get? h'.objs.size = some (seqObj "list" vl.toArray 0) := by
    have : acc' = vl.toArray := by rw [← hvl, ← eb]
    rw [this]
    exact Heap.get?_push_size _ rfl
  have hkk : ∀ b o, s.heap.get? b = some o → (h'.push (seqObj "list" acc' 0)).get? b = some o := fun b o e => Heap.get?_push_of_some _ (kp b o e)
  have hks : ∀ b o, s.heap.get? b = some o → (PySem.W.sortingHeap (h'.push (seqObj "list" acc' 0)) h'.objs.size vl).get? b = some o := fun b o e =>
    PySem.W.sortingHeap_old (Nat.ne_of_lt (Heap.lt_size (kp b o e))) (hkk b o e)
  have er := reads _ hks
  have bound : ∀ q, q ∈ bs.zip kvs → X.A.in1.in1.units + (encK q.2.1).depth < cLine := fun q hq => by
    have h2 := hdp q.2 (List.of_mem_zip hq).2
    have h3 : X.A.in1.in1.units = X.A.units + 2 := rfl
    omega
  refine PySem.W.list_sort_vals (s := { s with heap := h'.push (seqObj "list" acc' 0), toks := tk }) hS
    (PySem.W.SortsAt.data (s := { s with heap := PySem.W.sortingHeap (h'.push (seqObj "list" acc' 0)) h'.objs.size vl, toks := tk }) (PySem.W.each_map (R := fun v d => ∃ as, Reads (PySem.W.sortingHeap (h'.push (seqObj "list" acc' 0)) h'.objs.size vl) v d as) (fun q : Addr × List L2.Key × V => encK q.2.1) er) (by rw [enc]; exact hal) (by rw [enc]; exact hso) (PySem.W.bound_map bound))
    (by rw [← hvl]; exact hsz) ⟨rfl, ?_⟩
  have srt := PySem.W.sortVals_data (h' := PySem.W.sortingHeap (h'.push (seqObj "list" acc' 0)) h'.objs.size vl) (enc := fun q : Addr × List L2.Key × V => encK q.2.1) false each er (by rw [enc]; exact hal)
  generalize hso2 : PySem.W.sortVals _ false vl vl = out at srt
  obtain ⟨c, hc2⟩ := PyProof.Rows.sortedHeap_at (out := out.toArray) hS
  have rv : Vals (((bs.zip kvs).mergeSort (PySem.W.dataLe false fun q => encK q.2.1)).map fun q => V.ref q.1) out := by
    generalize (bs.zip kvs).mergeSort (PySem.W.dataLe false fun q => encK q.2.1) = l at srt
    clear hso2 hc2
    induction srt with
    | nil => exact .nil
    | cons a _ ih => exact .cons a ih
  have hz : (((bs.zip kvs).mergeSort (PySem.W.dataLe false fun q => encK q.2.1)).map fun q => V.ref q.1).length ≤ sizeLine := by
    rw [List.length_map, List.length_mergeSort, List.length_zip, lb, Nat.min_self]
    exact z
  refine ⟨.ref h'.objs.size, upd H h'.objs.size (.lst (((bs.zip kvs).mergeSort (PySem.W.dataLe false fun q => encK q.2.1)).map fun q => V.ref q.1)), I.laid (t' := tk) (fun b o e => ?_) (Nat.le_of_lt hlt) ⟨hz, out, c, rv, hc2⟩, rfl, q _ _ (I.hok.fresh (Nat.le_of_lt hlt)) ik⟩
  have lt1 := Heap.lt_size (kp b o e)
  rw [PyProof.Rows.sortedHeap_old (Nat.ne_of_lt lt1) (Nat.lt_of_lt_of_le lt1 (by rw [Heap.size_push]; exact Nat.le_succ _))]
  exact hkk b o e
/-- a walk of either kind -/
theorem pi_or {X : Cx} {tg e : Expr} {w1 w2 : TI} (h1 : PI X tg e w1) (h2 : PI X tg e w2) : PI X tg e (fun σ H R => w1 σ H R ∨ w2 σ H R) :=
  ⟨fun pins s σ H R I h => h.elim (fun h => h1.run pins s σ H R I h) fun h => h2.run pins s σ H R I h⟩
end SV
end

section
set_option Elab.async false
set_option linter.all false
set_option maxRecDepth 100000
set_option maxHeartbeats 4000000
/-! The text by places, what the top has left, data on the heap. -/
namespace SV
open PySem PySem.Spec PyProof.Rows L2

def top (i : Nat) : Stmt := PySem.Challenge.pw_sixviews_k36_whole_erasers.main.body.getD i (.Pass ⟨0, 0, 0, 0⟩)

/-! ### data -/
def kS : Kd → Str
  | .d => "d"
  | .e => "e"
  | .n => "n"
  | .u => "u"
  | .v => "v"
  | .w => "w"
theorem kS_inj : ∀ {a b : Kd}, kS a = kS b → a = b := by
  intro a b h
  have : ∀ a b : Kd, decide (kS a = kS b) = decide (a = b) := by
    intro a b
    cases a <;> cases b <;> decide +kernel
  have q := this a b
  rw [decide_eq_true h] at q
  exact of_decide_eq_true q.symm
def placeV (p : Place) : List V := [.int p.1, .int p.2]
def cellV (c : Cell) : List V := [.int c.1, .int c.2.1, .str (kS c.2.2)]
def rowV (r : Row) : List V := [.int r.1.1, .int r.1.2.1, .str (kS r.1.2.2), .int r.2]
def spotV (s : Spot) : List V := [.int s.1.1, .int s.1.2, .int s.2]
/-- v is a tuple of fs -/
def Tp (H : Hp) (fs : List V) (v : V) : Prop := ∃ a, v = .ref a ∧ H a = some (.tup fs)
/-- vs are tuples of what f says of xs -/
def Tps {α : Type} (H : Hp) (f : α → List V) (vs : List V) (xs : List α) : Prop := Paired (fun v x => Tp H (f x) v) vs xs
/-- a list at l of such -/
def Ls {α : Type} (H : Hp) (f : α → List V) (l : Addr) (xs : List α) : Prop := ∃ vs, H l = some (.lst vs) ∧ Tps H f vs xs
section
variable {α : Type} {H H' : Hp} {f : α → List V} {vs ws : List V} {xs ys : List α} {l : Addr} {K : PySem.W.Frag}
theorem Tp.mono {fs : List V} {v : V} (e : Same H H') (h : Tp H fs v) : Tp H' fs v := let ⟨a, h1, h2⟩ := h; ⟨a, h1, e _ _ h2⟩
theorem Tps.mono (e : Same H H') (h : Tps H f vs xs) : Tps H' f vs xs := L2.Paired.mapP h fun _ _ z => z.mono e
theorem Ls.mono (e : Same H H') (h : Ls H f l xs) : Ls H' f l xs := let ⟨vs, h1, h2⟩ := h; ⟨vs, e _ _ h1, h2.mono e⟩
theorem Tps.length (h : Tps H f vs xs) : vs.length = xs.length := Paired.length h
theorem Tps.snoc {v : V} {x : α} (h : Tps H f vs xs) (hv : Tp H (f x) v) : Tps H f (vs ++ [v]) (xs ++ [x]) := by
  induction h with
  | nil => exact .cons hv .nil
  | cons a _ ih => exact .cons a ih
theorem Tps.append (h : Tps H f vs xs) (h2 : Tps H f ws ys) : Tps H f (vs ++ ws) (xs ++ ys) := by
  induction h with
  | nil => exact h2
  | cons a _ ih => exact .cons a ih
theorem Tps.get {i : Nat} {v : V} (h : Tps H f vs xs) (hv : vs[i]? = some v) : ∃ x, xs[i]? = some x ∧ Tp H (f x) v := paired_get h hv
theorem Tps.at {i : Nat} {x : α} (h : Tps H f vs xs) (hx : xs[i]? = some x) : ∃ v, vs[i]? = some v ∧ Tp H (f x) v := by
  have hi : i < xs.length := (List.getElem?_eq_some_iff.mp hx).1
  have hi2 : i < vs.length := by rw [h.length]; exact hi
  obtain ⟨x', e, t⟩ := h.get (List.getElem?_eq_getElem hi2)
  rw [hx] at e
  cases e
  exact ⟨_, List.getElem?_eq_getElem hi2, t⟩
theorem _root_.L2.Same.new {p : Addr} {o : HO} (h : H p = none) : Same H (upd H p o) := fun a u e => by rw [upd_ne (ne_of_none e h)]; exact e
/-- what is not tracked ahead may change behind -/
theorem _root_.L2.Same.mut {p : Addr} {o : HO} (e : Same H H') (h : H p = none) : Same H (upd H' p o) := fun a u ha => by rw [upd_ne (ne_of_none ha h)]; exact e a u ha
theorem same_sqt {a : Addr} {xs : List V} (e : Same H H') (h : SqT K H a xs) : SqT K H' a xs := by
  rcases h with (h | ⟨o, h⟩) | h
  · exact .inl (.inl (e _ _ h))
  · exact .inl (.inr ⟨o, e _ _ h⟩)
  · exact .inr h
theorem Tp.sqt {fs : List V} {a : Addr} (h : Tp H fs (.ref a)) : SqT K H a fs := by
  obtain ⟨b, e, h⟩ := h
  cases e
  exact .inl (.inl h)
theorem Tp.of {p : Addr} {fs : List V} (h : H p = some (.tup fs)) : Tp H fs (.ref p) := ⟨p, rfl, h⟩
end
mutual
theorem Dp.mono {K : PySem.W.Frag} {H H' : Hp} (e : Same H H') : ∀ {v : V} {d : PyData}, Dp K H v d → Dp K H' v d
  | _, _, .non => .non
  | _, _, .bl b => .bl b
  | _, _, .int i => .int i
  | _, _, .str x => .str x
  | _, _, .lst h ha => .lst (e.seq h) (DpAll.mono e ha)
  | _, _, .tup h ha => .tup (same_sqt e h) (DpAll.mono e ha)
theorem DpAll.mono {K : PySem.W.Frag} {H H' : Hp} (e : Same H H') : ∀ {vs : List V} {ds : List PyData}, DpAll K H vs ds → DpAll K H' vs ds
  | _, _, .nil => .nil
  | _, _, .cons h t => .cons (Dp.mono e h) (DpAll.mono e t)
end

/-! ### callees -/
section
variable (P : Program) (w : World) (K : PySem.W.Frag) (mg : Str → Option Value) (base : Heap) (CX : CXT)
/-- a def of the module that keeps its promise -/
structure Cal (x : Str) (ps : List Str) (k : Nat) (sp : Sp) : Prop where
  ex : ∃ (f : Addr) (fd : FuncData), FnOk P w K mg base CX k f fd ps sp ∧ mg x = some (.ref f) ∧ PySem.W.keepIn K (.ref f) = true ∧ Binds K fd ps []
/-- a method of the class at C -/
structure Met (C : Addr) (m : Str) (ps : List Str) (k : Nat) (sp : Sp) : Prop where
  cl : Cls K C
  ex : ∃ (f : Addr) (fd : FuncData), FnOk P w K mg base CX k f fd ps sp ∧ Meth K C m f ∧ Binds K fd ps []
/-- a class that is made by its __init__ -/
structure Mkr (x : Str) (C : Addr) (ps : List Str) (k : Nat) (sp : Sp) : Prop where
  ex : ∃ (f : Addr) (fd : FuncData), FnOk P w K mg base CX k f fd ps sp ∧ Mk K C f ∧ mg x = some (.ref C) ∧ Binds K fd ps []
end
section
variable {X : Cx} {CX : CXT} {k : Nat} {C : Addr} {ps : List Str} {sp : Sp} {E : XK} {x m : Str} {p pos apos : Pos} {e o : Expr} {es : List Expr} {ta : TE} {t : TA}
theorem pe_calX (c : Cal X.prog X.w X.K X.mg X.base CX x ps k sp) (hr : Room k X.A) (hx : Passes CX X E) (hg : Gl X x) (ha : PA X (e :: es) t) (hdb : (x == ("__debug__" : Str)) = false := by decide)
    (he : starEach (e :: es) X.env = (false, eval e X.env) :: starEach es X.env := by rfl) (hpl : (backTo pos (starEach es X.env)).any (·.1) = false := by rfl) : PE X (.Call (.Name x p) (e :: es) [] pos) (tCall sp [] E t) := by
  obtain ⟨f, fd, F, hm, hk, hb⟩ := c.ex
  exact pe_call F hr hg hm hk hb .nil hx ha hdb he hpl
theorem pe_cal (c : Cal X.prog X.w X.K X.mg X.base CX0 x ps k sp) (hr : Room k X.A) (hg : Gl X x) (ha : PA X (e :: es) t) (hdb : (x == ("__debug__" : Str)) = false := by decide)
    (he : starEach (e :: es) X.env = (false, eval e X.env) :: starEach es X.env := by rfl) (hpl : (backTo pos (starEach es X.env)).any (·.1) = false := by rfl) : PE X (.Call (.Name x p) (e :: es) [] pos) (tCall sp [] E0 t) := pe_calX c hr pass0 hg ha hdb he hpl
theorem pe_metC {pl : Sem Bool} (c : Met X.prog X.w X.K X.mg X.base CX0 C m ps k sp) (he : PE X o ta) (hr : Room k X.A) (ha : PA X (e :: es) t)
    (hst : starEach (e :: es) X.env = (false, eval e X.env) :: starEach es X.env := by rfl) (hpl : (backTo pos (starEach es X.env)).any (·.1) = false := by rfl)
    (ht : eval (.Call (.Attribute o m apos) (e :: es) [] pos) X.env = (do
      let ov ← eval o X.env; standAt apos.atName
      let (f, first) ← holding [ov] (getMethod ov m pl)
      callWith pos f first (backTo pos (starEach (e :: es) X.env)) (backToKw pos (keywordEach [] X.env))) := by rfl) :
    PE X (.Call (.Attribute o m apos) (e :: es) [] pos) (tMeth C m sp [] E0 ta t) := by
  obtain ⟨f, fd, F, hm, hb⟩ := c.ex
  exact pe_meth he c.cl hm F hr hb .nil pass0 ha hst hpl ht
theorem pe_metC0 {pl : Sem Bool} (c : Met X.prog X.w X.K X.mg X.base CX0 C m ps k sp) (he : PE X o ta) (hr : Room k X.A)
    (ht : eval (.Call (.Attribute o m apos) [] [] pos) X.env = (do
      let ov ← eval o X.env; standAt apos.atName
      let (f, first) ← holding [ov] (getMethod ov m pl)
      callWith pos f first (backTo pos (starEach [] X.env)) (backToKw pos (keywordEach [] X.env))) := by rfl) :
    PE X (.Call (.Attribute o m apos) [] [] pos) (tMeth C m sp [] E0 ta tNil) := by
  obtain ⟨f, fd, F, hm, hb⟩ := c.ex
  exact pe_meth0 he c.cl hm F hr hb .nil pass0 ht
theorem pe_mkC (c : Mkr X.prog X.w X.K X.mg X.base CX0 x C ps k sp) (hr : Room (k + 1) X.A) (hg : Gl X x) (ha : PA X (e :: es) t) (hdb : (x == ("__debug__" : Str)) = false := by decide)
    (he : starEach (e :: es) X.env = (false, eval e X.env) :: starEach es X.env := by rfl) (hpl : (backTo pos (starEach es X.env)).any (·.1) = false := by rfl) : PE X (.Call (.Name x p) (e :: es) [] pos) (tMake C sp [] E0 t) := by
  obtain ⟨f, fd, F, M, hm, hb⟩ := c.ex
  exact pe_make M F hr hg hm hb .nil pass0 ha hdb he hpl
end

/-! ### what the top has left -/
def tupD (ps : List Place) : PyData := .tuple (ps.map fun p => .tuple [.int p.1, .int p.2])
def shLines : List Line := [⟨[(0, 0)], 2983095501974941876, "d"⟩, ⟨[(0, 0), (1, 0)], 7761091237015276730, "e"⟩, ⟨[(0, 0), (0, 1)], -5594001892929700633, "n"⟩, ⟨[(0, 0), (0, 1), (1, 0)], -6942762237788138492, "u"⟩, ⟨[(0, 0), (1, -1), (1, 0)], -5464470749034334675, "v"⟩, ⟨[(0, 0), (1, -1)], -8516183160304409314, "w"⟩]
theorem shH (w : World) : ∀ l ∈ shLines, l.hash = (nk l.key).hash w := by
  intro l hl
  have h : ∀ l ∈ shLines, decide (l.hash = (nk l.key).hash w) = true := by
    intro l hl
    simp only [shLines, List.mem_cons, List.mem_nil_iff, or_false] at hl
    rcases hl with rfl | rfl | rfl | rfl | rfl | rfl <;> kernel_rfl
  exact of_decide_eq_true (h l hl)
theorem shN : (shLines.map (·.key)).Nodup := by decide +kernel
structure Txt (K : PySem.W.Frag) (w : World) (mg : Str → Option Value) : Prop where
  z_len : mg "len" = none
  z_range : mg "range" = none
  z_sorted : mg "sorted" = none
  z_int : mg "int" = none
  z_isinstance : mg "isinstance" = none
  z_list : mg "list" = none
  z_tuple : mg "tuple" = none
  z_enumerate : mg "enumerate" = none
  z_iter : mg "iter" = none
  z_str : mg "str" = none
  z_bool : mg "bool" = none
  z_ValueError : mg "ValueError" = none
  g_KINDS : mg "KINDS" = some (.ref (He.ga K "KINDS"))
  kinds : ∀ H, SqT K H (He.ga K "KINDS") [.str "d", .str "e", .str "n", .str "u", .str "v", .str "w"]
  g_HEIGHTS : mg "HEIGHTS" = some (.ref (He.ga K "HEIGHTS"))
  heights : ∀ H, Dp K H (.ref (He.ga K "HEIGHTS")) (tupD [(2, 1), (1, 2), (-1, 1), (-2, -1), (-1, -2), (1, -1)])
  g_CORNERS : mg "CORNERS" = some (.ref (He.ga K "CORNERS"))
  corners : ∀ k : Kd, ∃ v, KDct K w (He.ga K "CORNERS") (kS k) v ∧ ∀ H, Dp K H v (tupD (offs k))
  g_SHAPES : mg "SHAPES" = some (.ref (He.ga K "SHAPES"))
  shapes : tabIn K (He.ga K "SHAPES") shLines = true
/-- tuples of the written part, read -/
theorem dp_tup {K : PySem.W.Frag} {H : Hp} {v : V} {ds : List PyData} (h : Dp K H v (.tuple ds)) : ∃ a xs, v = .ref a ∧ SqT K H a xs ∧ DpAll K H xs ds := by
  cases h with
  | tup h1 h2 => exact ⟨_, _, rfl, h1, h2⟩
theorem dp_int {K : PySem.W.Frag} {H : Hp} {v : V} {i : Int} (h : Dp K H v (.int i)) : v = .int i := by cases h; rfl
theorem dp_str {K : PySem.W.Frag} {H : Hp} {v : V} {x : Str} (h : Dp K H v (.str x)) : v = .str x := by cases h; rfl
theorem dpAll_get {K : PySem.W.Frag} {H : Hp} : ∀ {xs : List V} {ds : List PyData} {i : Nat} {d : PyData}, DpAll K H xs ds → ds[i]? = some d → ∃ v, xs[i]? = some v ∧ Dp K H v d
  | _, _, _, _, .nil, h => by simp at h
  | _, _, 0, _, .cons a _, h => by
    rw [List.getElem?_cons_zero] at h
    cases h
    exact ⟨_, rfl, a⟩
  | _, _, i + 1, _, .cons _ b, h => by
    rw [List.getElem?_cons_succ] at h
    obtain ⟨v, e, q⟩ := dpAll_get (i := i) b h
    exact ⟨v, by rw [List.getElem?_cons_succ]; exact e, q⟩
theorem dpAll_length {K : PySem.W.Frag} {H : Hp} : ∀ {xs : List V} {ds : List PyData}, DpAll K H xs ds → xs.length = ds.length
  | _, _, .nil => rfl
  | _, _, .cons _ b => by rw [List.length_cons, List.length_cons, dpAll_length b]
theorem dp_place {K : PySem.W.Frag} {H : Hp} {v : V} {p : Place} (h : Dp K H v (.tuple [.int p.1, .int p.2])) : ∃ a, v = .ref a ∧ SqT K H a (placeV p) := by
  obtain ⟨a, xs, rfl, h1, h2⟩ := dp_tup h
  cases h2 with
  | cons a1 r1 =>
    cases r1 with
    | cons a2 r2 =>
      cases r2
      rw [dp_int a1, dp_int a2] at h1
      exact ⟨a, rfl, h1⟩
abbrev GDef (K : PySem.W.Frag) (x : Str) (st : Stmt) (f : Addr) (fd : FuncData) : Prop := FunD K x x (defArgs st) (defBody st) (defScope st) [] [] f fd
end SV
end

section
set_option Elab.async false
set_option linter.all false
set_option maxRecDepth 100000
set_option maxHeartbeats 4000000
/-! Where each def stands. Printed by kdefs.py. -/
namespace SV
open PySem PySem.Spec PyProof.Rows L2
abbrev s_check_view : Stmt := top 17
abbrev s_check_kind : Stmt := top 18
abbrev s_height : Stmt := top 19
abbrev s_sign_of : Stmt := top 20
abbrev s_corners_of : Stmt := top 21
abbrev s_cell_with : Stmt := top 22
abbrev s_closure : Stmt := top 23
abbrev s_lowest : Stmt := top 24
abbrev s_Turning___init__ : Stmt := inClass (top 26) 0
abbrev s_Turning_place_to : Stmt := inClass (top 26) 4
abbrev s_Turning_cell_to : Stmt := inClass (top 26) 5
abbrev s_Spots___init__ : Stmt := inClass (top 28) 1
abbrev s_Spots_single : Stmt := inClass (top 28) 17
abbrev s_Sheet___init__ : Stmt := inClass (top 49) 1
abbrev s_Views___init__ : Stmt := inClass (top 31) 1
abbrev s_Views_of_sheet : Stmt := inClass (top 31) 2
abbrev s_sheet_with : Stmt := top 50
abbrev s_swept_inks : Stmt := top 40
abbrev s_Sheet___mul__ : Stmt := inClass (top 49) 10
abbrev s_Sheet___invert__ : Stmt := inClass (top 49) 13
abbrev s_Sheet_turned : Stmt := inClass (top 49) 16
abbrev s_Sheet___iter__ : Stmt := inClass (top 49) 2
abbrev s_Views___iter__ : Stmt := inClass (top 31) 5
abbrev s_counter : Stmt := top 33
abbrev s_stubborn_view : Stmt := top 34
abbrev s_is_erasable : Stmt := top 37
abbrev s_NoEraser___init__ : Stmt := inClass (top 9) 0
abbrev s_erasable_views : Stmt := top 35
abbrev s_eraser : Stmt := top 36
abbrev s__law_draw : Stmt := top 52
abbrev s__law_whole : Stmt := top 53
abbrev s__law_drawn_ink : Stmt := top 54
abbrev s__law_shift : Stmt := top 55
abbrev s__law_kind_at : Stmt := top 56
abbrev s__law_some_cells : Stmt := top 57
abbrev s__law_lows : Stmt := top 58
abbrev s__law_spots_of : Stmt := top 59
abbrev s__law_six_views : Stmt := top 60
abbrev s__law_first_bad : Stmt := top 61
abbrev s__law_sorted_cells : Stmt := top 62
abbrev s__law_rows_of : Stmt := top 63
abbrev s__law_unit : Stmt := top 64
abbrev s__law_added : Stmt := top 65
abbrev s__law_six_corners : Stmt := top 66
abbrev s__law_opposite : Stmt := top 68
abbrev s__law_closed : Stmt := top 69
abbrev s__law_moved : Stmt := top 72
abbrev s__law_counter : Stmt := top 70
abbrev s__law_tuft : Stmt := top 71
abbrev s__law_filled : Stmt := top 67
abbrev s__law_any_pen : Stmt := top 73
abbrev s__law_beside : Stmt := top 74
abbrev s__law_eraser : Stmt := top 75
abbrev s__law_right : Stmt := top 76
abbrev s_law : Stmt := top 77
def sweepD (a b : Kd) : PyData := .tuple [.int (swp a b).1, .tuple ((swp a b).2.map fun c => .tuple [.int c.1, .int c.2.1, .str (kS c.2.2)])]
def swKey (a b : Kd) : Str := if kn a ≤ kn b then kS a ++ kS b else kS b ++ kS a
end SV
end

section
set_option Elab.async false
set_option linter.all false
set_option maxRecDepth 100000
set_option maxHeartbeats 0
/-! The head's hook: what the top has left, as Booleans. -/
namespace SV
open PySem PySem.Spec PyProof.Rows L2
/-! ### the addresses -/
def wantM : List Str := ["__init__", "place_to", "cell_to", "of_sheet", "single", "__mul__", "__invert__", "turned", "__iter__"]
def methZ (g : Addr → Option Obj) (n : Addr) : List Addr := match g n with
  | some ⟨_, _, .dict es _, _⟩ => es.toList.flatMap fun e => match e.key with
    | .str x _ => (match wantM.contains x with
      | true => He.refV e.val
      | false => [])
    | _ => []
  | _ => []
/-- what is followed on -/
def outZ (g : Addr → Option Obj) (a : Addr) : List Addr := match g a with
  | some o => (match o.data with
    | .seq its _ => its.toList.flatMap He.refV
    | .dict es _ => es.toList.flatMap fun e => He.refV e.key ++ He.refV e.val
    | .cls cd => methZ g cd.ns
    | .fields vs => vs.toList.flatMap He.refV
    | _ => [])
  | none => []
/-- what is only kept -/
def endZ (g : Addr → Option Obj) (a : Addr) : List Addr := match g a with
  | some o => (match o.data with
    | .func fd => He.refV fd.code ++ (He.refV fd.defaults ++ He.refV fd.kwdefaults)
    | .cls cd => [cd.ns]
    | _ => [])
  | none => []
def layZ (g : Addr → Option Obj) : Nat → List Addr → List Addr
  | 0, _ => []
  | n + 1, fr => fr ++ (fr.flatMap (endZ g) ++ layZ g n (fr.flatMap (outZ g)))
def asZ (g : Addr → Option Obj) : List Addr := PySem.cStatics :: layZ g 5 [mainGlobals]
/-! ### data -/
mutual
def dpB (K : PySem.W.Frag) : PyData → Value → Bool
  | .int j, u => (match u with
    | .int i _ => decide (i = j)
    | _ => false)
  | .str y, u => (match u with
    | .str x _ => decide (x = y)
    | _ => false)
  | .tuple ds, u => (match u with
    | .ref a => (match K.lookup a with
      | some ⟨.type c, _, .seq its _, _⟩ => decide (c = "tuple") && (decide (its.size ≤ sizeLine) && dpAllB K ds its.toList)
      | _ => false)
    | _ => false)
  | .none, _ => false
  | .bool _, _ => false
  | .list _, _ => false
  | .dict _, _ => false
def dpAllB (K : PySem.W.Frag) : List PyData → List Value → Bool
  | [], us => us.isEmpty
  | d :: ds, us => (match us with
    | u :: us => dpB K d u && dpAllB K ds us
    | [] => false)
end
mutual
theorem dpB_ok {K : PySem.W.Frag} : ∀ (d : PyData) (u : Value), dpB K d u = true → ∃ v, RelV v u ∧ ∀ H, Dp K H v d
  | .int j, u, h => by
    unfold dpB at h
    split at h
    · rename_i i t
      have e : i = j := of_decide_eq_true h
      subst e
      exact ⟨.int i, ⟨t, rfl⟩, fun H => .int i⟩
    · cases h
  | .str y, u, h => by
    unfold dpB at h
    split at h
    · rename_i x t
      have e : x = y := of_decide_eq_true h
      subst e
      exact ⟨.str x, ⟨t, rfl⟩, fun H => .str x⟩
    · cases h
  | .tuple ds, u, h => by
    unfold dpB at h
    split at h
    · rename_i a
      split at h
      · rename_i c od its n osl q
        obtain ⟨h1, h2⟩ := He.ba h
        obtain ⟨h3, h4⟩ := He.ba h2
        obtain ⟨vs, r, D⟩ := dpAllB_ok ds its.toList h4
        exact ⟨.ref a, rfl, fun H => .tup (.inr ⟨_, its, n, q, congrArg Value.type (of_decide_eq_true h1), rfl, of_decide_eq_true h3, r⟩) (D H)⟩
      · cases h
    · cases h
  | .none, u, h => by unfold dpB at h; cases h
  | .bool _, u, h => by unfold dpB at h; cases h
  | .list _, u, h => by unfold dpB at h; cases h
  | .dict _, u, h => by unfold dpB at h; cases h
theorem dpAllB_ok {K : PySem.W.Frag} : ∀ (ds : List PyData) (us : List Value), dpAllB K ds us = true → ∃ vs, Vals vs us ∧ ∀ H, DpAll K H vs ds
  | [], us, h => by
    unfold dpAllB at h
    cases us with
    | nil => exact ⟨[], .nil, fun _ => .nil⟩
    | cons => cases h
  | d :: ds, us, h => by
    unfold dpAllB at h
    split at h
    · obtain ⟨h1, h2⟩ := He.ba h
      obtain ⟨v, r, D⟩ := dpB_ok d _ h1
      obtain ⟨vs, r2, D2⟩ := dpAllB_ok ds _ h2
      exact ⟨v :: vs, .cons r r2, fun H => .cons (D H) (D2 H)⟩
    · cases h
end
/-- a row of a written table -/
def kdB (K : PySem.W.Frag) (a : Addr) (x : Str) (d : PyData) : Bool := match PySem.W.nsIn K a x with
  | some (some u) => dpB K d u
  | _ => false
theorem kdB_ok {K : PySem.W.Frag} {w : World} {a : Addr} {es : Array DictEntry} {n : Nat} {x : Str} {d : PyData} (D : KDict K w a es n) (h : kdB K a x d = true) : ∃ v, KDct K w a x v ∧ ∀ H, Dp K H v d := by
  unfold kdB at h
  cases q : PySem.W.nsIn K a x with
  | none => rw [q] at h; cases h
  | some o =>
    rw [q] at h
    cases o with
    | none => cases h
    | some u =>
      obtain ⟨v, r, D2⟩ := dpB_ok d u h
      exact ⟨v, ⟨es, n, u, D.at_, D.lit, q, r⟩, D2⟩
/-! ### the error's class -/
def oexCls (K : PySem.W.Frag) (C : Addr) : Bool := match K.lookup C with
  | some ⟨.type t, _, .cls ⟨_, _, .ref c :: bm, _, _, true, _, _, _, _, false⟩, ⟨[_, _, _, _, some (.builtin id), _]⟩⟩ => decide (t = "type") && (decide (c = C) && (PySem.HandSPX.refsVE bm && decide (id = "ValueError.__new__")))
  | _ => false
theorem oexCls_ok {K : PySem.W.Frag} {C : Addr} (h : oexCls K C = true) : ∃ nm q N bs bm sn sub ab col dd k0 k1 k2 k3 k5, K.lookup C = some (excClassObj nm q C N bs bm true sn sub ab col dd k0 k1 k2 k3 k5 "ValueError.__new__") ∧ PySem.HandSPX.refsVE bm = true := by
  unfold oexCls at h
  split at h
  · rename_i e
    obtain ⟨h1, h⟩ := He.ba h
    obtain ⟨h2, h⟩ := He.ba h
    obtain ⟨h3, h4⟩ := He.ba h
    rw [of_decide_eq_true h1, of_decide_eq_true h2, of_decide_eq_true h4] at e
    exact ⟨_, _, _, _, _, _, _, _, _, _, _, _, _, _, _, e, h3⟩
  · cases h
/-! ### the Hook -/
abbrev AlZ : Type := Bool × (List He.FnW × List (Option (List (Option (Str × Int)))))
def obsZ (ex : PySem.W.Frag → Bool) (fn : List He5.DefA) (ts : List He.Tab) (K : PySem.W.Frag) : AlZ := (ex K && fn.all fun d => d.ok K, fn.map fun d => He5.fnA K (d.at_ K), ts.map fun t => He.dicW K (t.1 K))
def valZ (fn : List He5.DefA) (ts : List He.Tab) (w : World) : AlZ := (true, fn.map He5.DefA.val, ts.map fun t => some (He.keysIn w.params t.2))
def SaysZ (ex : PySem.W.Frag → Bool) (fn : List He5.DefA) (ts : List He.Tab) (w : World) (K : PySem.W.Frag) : Prop := obsZ ex fn ts K = valZ fn ts w
def obsZG (ex : PySem.W.Frag → Bool) (fn : List He5.DefA) (ts : List He.Tab) (g : Addr → Option Obj) : AlZ := obsZ ex fn ts (He.frG g (asZ g))
def hookZ (ex : PySem.W.Frag → Bool) (fn : List He5.DefA) (ts : List He.Tab) : PySem.W.Hook where
  α := AlZ
  obs := fun s => obsZG ex fn ts s.heap.get?
  val := fun w => valZ fn ts w
  says := fun w h => ∃ K : PySem.W.Frag, K.In h ∧ SaysZ ex fn ts w K
  of := fun _ _ e => ⟨_, He.frG_in, e⟩
  keeps := fun _ _ _ ⟨K, hK, c⟩ k => ⟨K, PySem.W.Frag.In.keeps hK k, c⟩
theorem obsZG_eq {ex : PySem.W.Frag → Bool} {fn : List He5.DefA} {ts : List He.Tab} {g : Addr → Option Obj} {s : Shared} (h : ∀ a, g a = s.heap.get? a) : obsZG ex fn ts g = (hookZ ex fn ts).obs s := by
  have e : g = s.heap.get? := funext h
  rw [e] <;> rfl
section
variable {ex : PySem.W.Frag → Bool} {fn : List He5.DefA} {ts : List He.Tab} {w : World} {K : PySem.W.Frag}
theorem SaysZ.bool (c : SaysZ ex fn ts w K) : ex K = true := (He.ba (show (ex K && fn.all fun d => d.ok K) = true from congrArg (fun z : AlZ => z.1) c)).1
theorem SaysZ.def_ (c : SaysZ ex fn ts w K) {d : He5.DefA} (h : d ∈ fn) : ∃ fd, FunD K d.name d.qual d.params d.body d.scope (d.dvs K) (d.kws K) (d.at_ K) fd := by
  obtain ⟨i, hi, e0⟩ := List.mem_iff_getElem.mp h
  have h' : fn[i]? = some d := by rw [List.getElem?_eq_getElem hi, e0]
  have c2 := (He.ba (show (ex K && fn.all fun d => d.ok K) = true from congrArg (fun z : AlZ => z.1) c)).2
  have e : fn.map (fun d => He5.fnA K (d.at_ K)) = fn.map He5.DefA.val := congrArg (fun z : AlZ => z.2.1) c
  have e2 : (fn.map fun d => He5.fnA K (d.at_ K))[i]? = (fn.map He5.DefA.val)[i]? := by rw [e]
  rw [List.getElem?_map, List.getElem?_map, h'] at e2
  exact He5.DefA.funD (Option.some.inj e2) (List.all_eq_true.mp c2 d h)
theorem SaysZ.tab (c : SaysZ ex fn ts w K) (i : Nat) {t : He.Tab} (h : ts[i]? = some t := by rfl) : ∃ es n, KDict K w (t.1 K) es n := by
  have e : ts.map (fun t => He.dicW K (t.1 K)) = ts.map fun t => some (He.keysIn w.params t.2) := congrArg (fun z : AlZ => z.2.2) c
  have e2 : (ts.map fun t => He.dicW K (t.1 K))[i]? = (ts.map fun t => some (He.keysIn w.params t.2))[i]? := by rw [e]
  rw [List.getElem?_map, List.getElem?_map, h] at e2
  exact He.dicW_ok (Option.some.inj e2)
end
end SV
end

section
set_option Elab.async false
set_option linter.all false
set_option maxRecDepth 100000
set_option maxHeartbeats 0
/-! What the top has left, from Booleans. Printed by head.py. -/
namespace SV
open PySem PySem.Spec PyProof.Rows L2
def d_0 : He5.DefA := ⟨fun K => He.ga K "check_view", "check_view", "check_view", defArgs s_check_view, defBody s_check_view, defScope s_check_view, [], []⟩
def d_1 : He5.DefA := ⟨fun K => He.ga K "check_kind", "check_kind", "check_kind", defArgs s_check_kind, defBody s_check_kind, defScope s_check_kind, [], []⟩
def d_2 : He5.DefA := ⟨fun K => He.ga K "height", "height", "height", defArgs s_height, defBody s_height, defScope s_height, [], []⟩
def d_3 : He5.DefA := ⟨fun K => He.ga K "sign_of", "sign_of", "sign_of", defArgs s_sign_of, defBody s_sign_of, defScope s_sign_of, [], []⟩
def d_4 : He5.DefA := ⟨fun K => He.ga K "corners_of", "corners_of", "corners_of", defArgs s_corners_of, defBody s_corners_of, defScope s_corners_of, [], []⟩
def d_5 : He5.DefA := ⟨fun K => He.ga K "cell_with", "cell_with", "cell_with", defArgs s_cell_with, defBody s_cell_with, defScope s_cell_with, [], []⟩
def d_6 : He5.DefA := ⟨fun K => He.ga K "closure", "closure", "closure", defArgs s_closure, defBody s_closure, defScope s_closure, [], []⟩
def d_7 : He5.DefA := ⟨fun K => He.ga K "lowest", "lowest", "lowest", defArgs s_lowest, defBody s_lowest, defScope s_lowest, [], []⟩
def d_8 : He5.DefA := ⟨fun K => He.ma K (He.ga K "Turning") "__init__", "__init__", "Turning.__init__", defArgs s_Turning___init__, defBody s_Turning___init__, defScope s_Turning___init__, [.int 0], [("mirrored", .bl false), ("inverted", .bl false)]⟩
def d_9 : He5.DefA := ⟨fun K => He.ma K (He.ga K "Turning") "place_to", "place_to", "Turning.place_to", defArgs s_Turning_place_to, defBody s_Turning_place_to, defScope s_Turning_place_to, [], []⟩
def d_10 : He5.DefA := ⟨fun K => He.ma K (He.ga K "Turning") "cell_to", "cell_to", "Turning.cell_to", defArgs s_Turning_cell_to, defBody s_Turning_cell_to, defScope s_Turning_cell_to, [], []⟩
def d_11 : He5.DefA := ⟨fun K => He.ma K (He.ga K "Spots") "__init__", "__init__", "Spots.__init__", defArgs s_Spots___init__, defBody s_Spots___init__, defScope s_Spots___init__, [.adr (He.dflAt ("Spots", some "__init__") 0)], []⟩
def d_12 : He5.DefA := ⟨fun K => He.ma K (He.ga K "Sheet") "__init__", "__init__", "Sheet.__init__", defArgs s_Sheet___init__, defBody s_Sheet___init__, defScope s_Sheet___init__, [.adr (He.dflAt ("Sheet", some "__init__") 0)], []⟩
def d_13 : He5.DefA := ⟨fun K => He.ma K (He.ga K "Views") "__init__", "__init__", "Views.__init__", defArgs s_Views___init__, defBody s_Views___init__, defScope s_Views___init__, [], []⟩
def d_14 : He5.DefA := ⟨fun K => He5.wf K (He.ga K "Views") "staticmethod" "of_sheet", "of_sheet", "Views.of_sheet", defArgs s_Views_of_sheet, defBody s_Views_of_sheet, defScope s_Views_of_sheet, [], []⟩
def d_15 : He5.DefA := ⟨fun K => He.ga K "sheet_with", "sheet_with", "sheet_with", defArgs s_sheet_with, defBody s_sheet_with, defScope s_sheet_with, [], []⟩
def d_16 : He5.DefA := ⟨fun K => He.ga K "swept_inks", "swept_inks", "swept_inks", defArgs s_swept_inks, defBody s_swept_inks, defScope s_swept_inks, [], []⟩
def d_17 : He5.DefA := ⟨fun K => He.ma K (He.ga K "Spots") "single", "single", "Spots.single", defArgs s_Spots_single, defBody s_Spots_single, defScope s_Spots_single, [], []⟩
def d_18 : He5.DefA := ⟨fun K => He.ma K (He.ga K "Sheet") "__mul__", "__mul__", "Sheet.__mul__", defArgs s_Sheet___mul__, defBody s_Sheet___mul__, defScope s_Sheet___mul__, [], []⟩
def d_19 : He5.DefA := ⟨fun K => He.ma K (He.ga K "Sheet") "__invert__", "__invert__", "Sheet.__invert__", defArgs s_Sheet___invert__, defBody s_Sheet___invert__, defScope s_Sheet___invert__, [], []⟩
def d_20 : He5.DefA := ⟨fun K => He.ma K (He.ga K "Sheet") "turned", "turned", "Sheet.turned", defArgs s_Sheet_turned, defBody s_Sheet_turned, defScope s_Sheet_turned, [], []⟩
def d_21 : He5.DefA := ⟨fun K => He.ma K (He.ga K "Sheet") "__iter__", "__iter__", "Sheet.__iter__", defArgs s_Sheet___iter__, defBody s_Sheet___iter__, defScope s_Sheet___iter__, [], []⟩
def d_22 : He5.DefA := ⟨fun K => He.ma K (He.ga K "Views") "__iter__", "__iter__", "Views.__iter__", defArgs s_Views___iter__, defBody s_Views___iter__, defScope s_Views___iter__, [], []⟩
def d_23 : He5.DefA := ⟨fun K => He.ga K "counter", "counter", "counter", defArgs s_counter, defBody s_counter, defScope s_counter, [], []⟩
def d_24 : He5.DefA := ⟨fun K => He.ga K "stubborn_view", "stubborn_view", "stubborn_view", defArgs s_stubborn_view, defBody s_stubborn_view, defScope s_stubborn_view, [], []⟩
def d_25 : He5.DefA := ⟨fun K => He.ga K "is_erasable", "is_erasable", "is_erasable", defArgs s_is_erasable, defBody s_is_erasable, defScope s_is_erasable, [], []⟩
def d_26 : He5.DefA := ⟨fun K => He.ma K (He.ga K "NoEraser") "__init__", "__init__", "NoEraser.__init__", defArgs s_NoEraser___init__, defBody s_NoEraser___init__, defScope s_NoEraser___init__, [], []⟩
def d_27 : He5.DefA := ⟨fun K => He.ga K "erasable_views", "erasable_views", "erasable_views", defArgs s_erasable_views, defBody s_erasable_views, defScope s_erasable_views, [], []⟩
def d_28 : He5.DefA := ⟨fun K => He.ga K "eraser", "eraser", "eraser", defArgs s_eraser, defBody s_eraser, defScope s_eraser, [], []⟩
def d_29 : He5.DefA := ⟨fun K => He.ga K "_law_draw", "_law_draw", "_law_draw", defArgs s__law_draw, defBody s__law_draw, defScope s__law_draw, [], []⟩
def d_30 : He5.DefA := ⟨fun K => He.ga K "_law_whole", "_law_whole", "_law_whole", defArgs s__law_whole, defBody s__law_whole, defScope s__law_whole, [], []⟩
def d_31 : He5.DefA := ⟨fun K => He.ga K "_law_drawn_ink", "_law_drawn_ink", "_law_drawn_ink", defArgs s__law_drawn_ink, defBody s__law_drawn_ink, defScope s__law_drawn_ink, [], []⟩
def d_32 : He5.DefA := ⟨fun K => He.ga K "_law_shift", "_law_shift", "_law_shift", defArgs s__law_shift, defBody s__law_shift, defScope s__law_shift, [], []⟩
def d_33 : He5.DefA := ⟨fun K => He.ga K "_law_kind_at", "_law_kind_at", "_law_kind_at", defArgs s__law_kind_at, defBody s__law_kind_at, defScope s__law_kind_at, [], []⟩
def d_34 : He5.DefA := ⟨fun K => He.ga K "_law_some_cells", "_law_some_cells", "_law_some_cells", defArgs s__law_some_cells, defBody s__law_some_cells, defScope s__law_some_cells, [], []⟩
def d_35 : He5.DefA := ⟨fun K => He.ga K "_law_lows", "_law_lows", "_law_lows", defArgs s__law_lows, defBody s__law_lows, defScope s__law_lows, [], []⟩
def d_36 : He5.DefA := ⟨fun K => He.ga K "_law_spots_of", "_law_spots_of", "_law_spots_of", defArgs s__law_spots_of, defBody s__law_spots_of, defScope s__law_spots_of, [], []⟩
def d_37 : He5.DefA := ⟨fun K => He.ga K "_law_six_views", "_law_six_views", "_law_six_views", defArgs s__law_six_views, defBody s__law_six_views, defScope s__law_six_views, [], []⟩
def d_38 : He5.DefA := ⟨fun K => He.ga K "_law_first_bad", "_law_first_bad", "_law_first_bad", defArgs s__law_first_bad, defBody s__law_first_bad, defScope s__law_first_bad, [], []⟩
def d_39 : He5.DefA := ⟨fun K => He.ga K "_law_sorted_cells", "_law_sorted_cells", "_law_sorted_cells", defArgs s__law_sorted_cells, defBody s__law_sorted_cells, defScope s__law_sorted_cells, [], []⟩
def d_40 : He5.DefA := ⟨fun K => He.ga K "_law_rows_of", "_law_rows_of", "_law_rows_of", defArgs s__law_rows_of, defBody s__law_rows_of, defScope s__law_rows_of, [], []⟩
def d_41 : He5.DefA := ⟨fun K => He.ga K "_law_unit", "_law_unit", "_law_unit", defArgs s__law_unit, defBody s__law_unit, defScope s__law_unit, [], []⟩
def d_42 : He5.DefA := ⟨fun K => He.ga K "_law_added", "_law_added", "_law_added", defArgs s__law_added, defBody s__law_added, defScope s__law_added, [], []⟩
def d_43 : He5.DefA := ⟨fun K => He.ga K "_law_six_corners", "_law_six_corners", "_law_six_corners", defArgs s__law_six_corners, defBody s__law_six_corners, defScope s__law_six_corners, [], []⟩
def d_44 : He5.DefA := ⟨fun K => He.ga K "_law_opposite", "_law_opposite", "_law_opposite", defArgs s__law_opposite, defBody s__law_opposite, defScope s__law_opposite, [], []⟩
def d_45 : He5.DefA := ⟨fun K => He.ga K "_law_closed", "_law_closed", "_law_closed", defArgs s__law_closed, defBody s__law_closed, defScope s__law_closed, [], []⟩
def d_46 : He5.DefA := ⟨fun K => He.ga K "_law_moved", "_law_moved", "_law_moved", defArgs s__law_moved, defBody s__law_moved, defScope s__law_moved, [], []⟩
def d_47 : He5.DefA := ⟨fun K => He.ga K "_law_counter", "_law_counter", "_law_counter", defArgs s__law_counter, defBody s__law_counter, defScope s__law_counter, [], []⟩
def d_48 : He5.DefA := ⟨fun K => He.ga K "_law_tuft", "_law_tuft", "_law_tuft", defArgs s__law_tuft, defBody s__law_tuft, defScope s__law_tuft, [], []⟩
def d_49 : He5.DefA := ⟨fun K => He.ga K "_law_filled", "_law_filled", "_law_filled", defArgs s__law_filled, defBody s__law_filled, defScope s__law_filled, [], []⟩
def d_50 : He5.DefA := ⟨fun K => He.ga K "_law_any_pen", "_law_any_pen", "_law_any_pen", defArgs s__law_any_pen, defBody s__law_any_pen, defScope s__law_any_pen, [], []⟩
def d_51 : He5.DefA := ⟨fun K => He.ga K "_law_beside", "_law_beside", "_law_beside", defArgs s__law_beside, defBody s__law_beside, defScope s__law_beside, [], []⟩
def d_52 : He5.DefA := ⟨fun K => He.ga K "_law_eraser", "_law_eraser", "_law_eraser", defArgs s__law_eraser, defBody s__law_eraser, defScope s__law_eraser, [], []⟩
def d_53 : He5.DefA := ⟨fun K => He.ga K "_law_right", "_law_right", "_law_right", defArgs s__law_right, defBody s__law_right, defScope s__law_right, [], []⟩
def d_54 : He5.DefA := ⟨fun K => He.ga K "law", "law", "law", defArgs s_law, defBody s_law, defScope s_law, [], []⟩
def kdsZ : List Kd := [.d, .e, .n, .u, .v, .w]
theorem mem_kds (k : Kd) : k ∈ kdsZ := by cases k <;> simp [kdsZ]
def kdK (k : Kd) : Str := kS k
def tsZ : List He.Tab := [(fun K => He.ga K "CORNERS", ["d", "e", "n", "u", "v", "w"]), (fun K => He.ga K "SWEEPS", ["dd", "de", "dn", "du", "dv", "dw", "ee", "en", "eu", "ev", "ew", "nn", "nu", "nv", "nw", "uu", "uv", "uw", "vv", "vw", "ww"])]
theorem dpB_ref {K : PySem.W.Frag} {a : Addr} {d : PyData} (h : dpB K d (.ref a) = true) (H : Hp) : Dp K H (.ref a) d := by
  obtain ⟨v, r, D⟩ := dpB_ok d _ h
  cases v with
  | ref b => cases r; exact D H
  | int i => obtain ⟨t, e⟩ := r; cases e
  | str i => obtain ⟨t, e⟩ := r; cases e
  | byt i => obtain ⟨t, e⟩ := r; cases e
  | flt i => obtain ⟨t, e⟩ := r; cases e
  | _ => cases r
def cvB (K : PySem.W.Frag) (C : Addr) (f : Str) (v : V) : Bool := match PySem.W.findCls K (.ref C) (.type "type") f with
  | some (.val u) => He.relB v u
  | _ => false
theorem cvB_ok {K : PySem.W.Frag} {C : Addr} {f : Str} {v : V} (h : cvB K C f v = true) : ∃ u, ClX.CVal K C (.type "type") f v u := by
  unfold cvB at h
  split at h
  · rename_i u e
    exact ⟨u, e, He.relB_ok h⟩
  · cases h
def fnZ : List He5.DefA := [d_0, d_1, d_2, d_3, d_4, d_5, d_6, d_7, d_8, d_9, d_10, d_11, d_12, d_13, d_14, d_15, d_16, d_17, d_18, d_19, d_20, d_21, d_22, d_23, d_24, d_25, d_26, d_27, d_28, d_29, d_30, d_31, d_32, d_33, d_34, d_35, d_36, d_37, d_38, d_39, d_40, d_41, d_42, d_43, d_44, d_45, d_46, d_47, d_48, d_49, d_50, d_51, d_52, d_53, d_54]
def exL (K : PySem.W.Frag) : List Bool := [(He.Fa.glo "check_view").ok K,
  (He.Fa.glo "check_kind").ok K,
  (He.Fa.glo "height").ok K,
  (He.Fa.glo "sign_of").ok K,
  (He.Fa.glo "corners_of").ok K,
  (He.Fa.glo "cell_with").ok K,
  (He.Fa.glo "closure").ok K,
  (He.Fa.glo "lowest").ok K,
  (He.Fa.mkr "Turning").ok K,
  (He.Fa.glo "Turning").ok K,
  (He.Fa.meth "Turning" "place_to").ok K,
  (He.Fa.meth "Turning" "cell_to").ok K,
  (He.Fa.mkr "Spots").ok K,
  (He.Fa.glo "Spots").ok K,
  (He.Fa.mkr "Sheet").ok K,
  (He.Fa.glo "Sheet").ok K,
  (He.Fa.mkr "Views").ok K,
  (He.Fa.glo "Views").ok K,
  PySem.W.readsIn K (He.ga K "Views") (.type "type"),
  He.eqO (PySem.W.specialIn K (.ref (He.ga K "Views")) "__getattribute__") (some (some (.builtin "type.__getattribute__"))),
  He5.wrapB K (He.ga K "Views") "staticmethod" "staticmethod.__get__" "of_sheet",
  (He.Fa.glo "sheet_with").ok K,
  (He.Fa.glo "swept_inks").ok K,
  (He.Fa.meth "Spots" "single").ok K,
  (He.Fa.meth "Sheet" "__mul__").ok K,
  (He.Fa.meth "Sheet" "__invert__").ok K,
  (He.Fa.meth "Sheet" "turned").ok K,
  (He.Fa.meth "Sheet" "__iter__").ok K,
  He.eqO (PySem.W.findIn K (.ref (He.ga K "Sheet")) "__len__") (some none),
  He.eqO (PySem.W.findIn K (.ref (He.ga K "Sheet")) "__length_hint__") (some none),
  (He.Fa.meth "Views" "__iter__").ok K,
  He.eqO (PySem.W.findIn K (.ref (He.ga K "Views")) "__len__") (some none),
  He.eqO (PySem.W.findIn K (.ref (He.ga K "Views")) "__length_hint__") (some none),
  (He.Fa.glo "counter").ok K,
  (He.Fa.glo "stubborn_view").ok K,
  (He.Fa.glo "is_erasable").ok K,
  He.eqO (PySem.W.findIn K (.ref (He.ga K "NoEraser")) "__init__") (some (some (.ref (He.ma K (He.ga K "NoEraser") "__init__")))),
  decide (PySem.W.typeIn K (.ref (He.ma K (He.ga K "NoEraser") "__init__")) = some (.type "function")),
  (He.Fa.glo "erasable_views").ok K,
  (He.Fa.glo "eraser").ok K,
  (He.Fa.glo "_law_draw").ok K,
  (He.Fa.glo "_law_whole").ok K,
  (He.Fa.glo "_law_drawn_ink").ok K,
  (He.Fa.glo "_law_shift").ok K,
  (He.Fa.glo "_law_kind_at").ok K,
  (He.Fa.glo "_law_some_cells").ok K,
  (He.Fa.glo "_law_lows").ok K,
  (He.Fa.glo "_law_spots_of").ok K,
  (He.Fa.glo "_law_six_views").ok K,
  (He.Fa.glo "_law_first_bad").ok K,
  (He.Fa.glo "_law_sorted_cells").ok K,
  (He.Fa.glo "_law_rows_of").ok K,
  (He.Fa.glo "_law_unit").ok K,
  (He.Fa.glo "_law_added").ok K,
  (He.Fa.glo "_law_six_corners").ok K,
  (He.Fa.glo "_law_opposite").ok K,
  (He.Fa.glo "_law_closed").ok K,
  (He.Fa.glo "_law_moved").ok K,
  (He.Fa.glo "_law_counter").ok K,
  (He.Fa.glo "_law_tuft").ok K,
  (He.Fa.glo "_law_filled").ok K,
  (He.Fa.glo "_law_any_pen").ok K,
  (He.Fa.glo "_law_beside").ok K,
  (He.Fa.glo "_law_eraser").ok K,
  (He.Fa.glo "_law_right").ok K,
  (He.Fa.free "len").ok K,
  (He.Fa.free "range").ok K,
  (He.Fa.free "sorted").ok K,
  (He.Fa.free "int").ok K,
  (He.Fa.free "isinstance").ok K,
  (He.Fa.free "list").ok K,
  (He.Fa.free "tuple").ok K,
  (He.Fa.free "enumerate").ok K,
  (He.Fa.free "iter").ok K,
  (He.Fa.free "str").ok K,
  (He.Fa.free "bool").ok K,
  (He.Fa.free "ValueError").ok K,
  (He.Fa.glo "KINDS").ok K,
  (He.Fa.glo "HEIGHTS").ok K,
  (He.Fa.glo "CORNERS").ok K,
  (He.Fa.glo "SHAPES").ok K,
  He.tupB K "KINDS" [.str "d", .str "e", .str "n", .str "u", .str "v", .str "w"],
  dpB K (tupD [(2, 1), (1, 2), (-1, 1), (-2, -1), (-1, -2), (1, -1)]) (.ref (He.ga K "HEIGHTS")),
  kdsZ.all fun k => kdB K (He.ga K "CORNERS") (kS k) (tupD (offs k)),
  tabIn K (He.ga K "SHAPES") shLines,
  (He.Fa.glo "SWEEPS").ok K,
  kdsZ.all fun a => kdsZ.all fun b => kdB K (He.ga K "SWEEPS") (swKey a b) (sweepD a b),
  (He.Fa.cls "Turning").ok K,
  (He.Fa.cls "Spots").ok K,
  (He.Fa.cls "Views").ok K,
  (He.Fa.cls "Sheet").ok K,
  (He.Fa.noat "Turning" "turns").ok K,
  (He.Fa.noat "Turning" "mirrored").ok K,
  (He.Fa.noat "Turning" "inverted").ok K,
  (He.Fa.noat "Spots" "inks").ok K,
  (He.Fa.noat "Spots" "rows").ok K,
  (He.Fa.noat "Views" "heaps").ok K,
  (He.Fa.noat "Sheet" "rows").ok K,
  (He.Fa.noat "Sheet" "inks").ok K,
  (He.Fa.glo "Sheet").ok K,
  (He.Fa.glo "Views").ok K,
  PySem.W.readsIn K (He.ga K "Sheet") (.type "type"),
  He.eqO (PySem.W.specialIn K (.ref (He.ga K "Sheet")) "__getattribute__") (some (some (.builtin "type.__getattribute__"))),
  cvB K (He.ga K "Sheet") "MOST" (.int 4000),
  PySem.W.selfFirst K (He.ga K "Sheet"),
  decide (PySem.W.kitOne K (.ref (He.ga K "Sheet")) (.ref (He.ga K "Sheet")) = some true),
  He.eqO (PySem.W.findIn K (.ref (He.ga K "Sheet")) "__class__") (some (some (.builtin "object.__class__"))),
  He.eqO (PySem.W.specialIn K (.builtin "object.__class__") "__get__") (some (some (.builtin "getset_descriptor.__get__"))),
  decide (PySem.W.takesIn K (.builtin "object.__class__") = some true),
  decide (PySem.W.mroIn K (He.ga K "Sheet") (.type "object") = some true),
  decide (PySem.W.kitOne K (.type "int") (.type "int") = some true),
  decide (PySem.W.kitOne K (.type "int") (.type "bool") = some false),
  decide (PySem.W.kitOne K (.type "tuple") (.type "tuple") = some true),
  decide (PySem.W.kitOne K (.type "str") (.type "str") = some true),
  (He.Fa.glo "NoEraser").ok K,
  (He.Fa.glo "DrawingError").ok K,
  (He.Fa.glo "BlankView").ok K,
  (He.Fa.glo "NoKiller").ok K,
  He.eqO (PySem.W.findIn K (.ref (He.ga K "NoEraser")) "__getattribute__") (some (some (.builtin "BaseException.__getattribute__"))),
  He.eqO (PySem.W.findIn K (.ref (He.ga K "NoEraser")) "__getattr__") (some none),
  decide (PySem.W.subIn K (.ref (He.ga K "NoEraser")) (.type "BaseException") = some true),
  PySem.W.hasDictIn K (He.ga K "NoEraser"),
  He.eqO (PySem.W.findIn K (.ref (He.ga K "NoEraser")) "__class__") (some (some (.builtin "object.__class__"))),
  He.eqO (PySem.W.specialIn K (.builtin "object.__class__") "__get__") (some (some (.builtin "getset_descriptor.__get__"))),
  decide (PySem.W.takesIn K (.builtin "object.__class__") = some true),
  decide (PySem.W.mroIn K (He.ga K "NoEraser") (.type "object") = some true),
  xfB K (He.ga K "NoEraser"),
  He.eqO (PySem.W.findIn K (.ref (He.ga K "NoEraser")) "view") (some none),
  decide (PySem.W.exmOne K (.ref (He.ga K "NoEraser")) (.ref (He.ga K "DrawingError")) = some true),
  decide (PySem.W.kitOne K (.ref (He.ga K "NoEraser")) (.ref (He.ga K "NoEraser")) = some true),
  decide (PySem.W.kitOne K (.ref (He.ga K "NoEraser")) (.type "ValueError") = some true),
  decide (PySem.W.kitOne K (.ref (He.ga K "NoEraser")) (.ref (He.ga K "BlankView")) = some false),
  decide (PySem.W.kitOne K (.ref (He.ga K "NoEraser")) (.ref (He.ga K "NoKiller")) = some false),
  oexCls K (He.ga K "NoEraser"),
  He.eqO (PySem.W.findIn K (.ref (He.ga K "NoEraser")) "__setattr__") (some (some (.builtin "object.__setattr__"))),
  decide (PySem.W.subIn K (.ref (He.ga K "NoEraser")) (.type "BaseException") = some true),
  decide (PySem.W.typeIn K (.ref (He.ga K "NoEraser")) = some (.type "type")),
  PySem.W.keepIn K (.ref (He.ga K "NoEraser")),
  (He.Fa.glo "law").ok K]
def exZ (K : PySem.W.Frag) : Bool := (exL K).all id
theorem exZ_at {K : PySem.W.Frag} (h : exZ K = true) (i : Nat) {b : Bool} (e : (exL K)[i]? = some b) : b = true := List.all_eq_true.mp h b (List.mem_of_getElem? e)
end SV
end

section
set_option Elab.async false
set_option linter.all false
set_option maxRecDepth 100000
set_option maxHeartbeats 0
/-! The head: the run, in three looks, each over both answers of the one row that the top asks. -/
namespace SV
open PySem PySem.Spec PyProof.Rows L2
abbrev RwZ : PySem.W.OpenRow := PySem.W.OpenLaw.row PySem.Challenge.rw_sixviews_k36_whole_erasers
abbrev qvZ : Program := PySem.W.view RwZ.prog [77]
def n1 : List Str := [Str.ofString "_wall", Str.ofString "DrawingError", Str.ofString "BadView", Str.ofString "BadKind", Str.ofString "BadCount", Str.ofString "BadPower", Str.ofString "BadText", Str.ofString "TooHeavy", Str.ofString "NoEraser", Str.ofString "BlankView", Str.ofString "NoKiller", Str.ofString "KINDS", Str.ofString "HEIGHTS", Str.ofString "CORNERS", Str.ofString "SHAPES", Str.ofString "check_view", Str.ofString "check_kind", Str.ofString "height", Str.ofString "sign_of", Str.ofString "corners_of", Str.ofString "cell_with", Str.ofString "closure", Str.ofString "lowest", Str.ofString "Turning", Str.ofString "Spots", Str.ofString "multiplied", Str.ofString "Views", Str.ofString "counter", Str.ofString "stubborn_view", Str.ofString "erasable_views", Str.ofString "eraser", Str.ofString "is_erasable", Str.ofString "SWEEPS", Str.ofString "swept_inks"]
def n2 : List Str := [Str.ofString "DIGITS", Str.ofString "MOST_DIGITS", Str.ofString "read_number", Str.ofString "cell_text", Str.ofString "read_cell", Str.ofString "HIGHEST_POWER", Str.ofString "Sheet", Str.ofString "sheet_with", Str.ofString "_law_draw", Str.ofString "_law_whole", Str.ofString "_law_drawn_ink", Str.ofString "_law_shift", Str.ofString "_law_kind_at", Str.ofString "_law_some_cells", Str.ofString "_law_lows", Str.ofString "_law_spots_of", Str.ofString "_law_six_views", Str.ofString "_law_first_bad", Str.ofString "_law_sorted_cells", Str.ofString "_law_rows_of", Str.ofString "_law_unit", Str.ofString "_law_added", Str.ofString "_law_six_corners", Str.ofString "_law_filled", Str.ofString "_law_opposite", Str.ofString "_law_closed", Str.ofString "_law_counter", Str.ofString "_law_tuft", Str.ofString "_law_moved", Str.ofString "_law_any_pen", Str.ofString "_law_beside", Str.ofString "_law_eraser", Str.ofString "_law_right"]
def names : List Str := n1 ++ n2
abbrev hkZ : PySem.W.Hook := hookZ exZ fnZ tsZ
def obZ (s : PySem.W.SharedT) : AlZ := obsZG exZ fnZ tsZ (HandSHeadRun.getT s)
theorem obZ_eq (s : PySem.W.SharedT) : obZ s = hkZ.obs s.abs := obsZG_eq (HandSHeadRun.getT_eq s)
/-- the state behind the top -/
noncomputable abbrev endZR (w : World) (os : OsState) : Option PySem.W.SharedT := HandSHeadRun.endF (HandSHeadRun.stepQ (HandSHeadRun.denQ HandSHeadRun.tabQ) RwZ.prog w) 20000 RwZ.prog w os
/-- what one look says behind the top -/
def Look {A : Type} (f : World → PySem.W.SharedT → A) (v : World → A) (w : World) : Prop := ∀ os : OsState, (endZR w os).map (f w) = some (v w)
noncomputable def lkA (w : World) (s : PySem.W.SharedT) := (HandSHeadRun.looksF RwZ.prog (PySem.W.boot_heap w.params) s.abs, HandSHeadRun.seenQ qvZ names (importedModules RwZ.prog.main.body) (fun s => PySem.W.xlAt qvZ [] s && PySem.W.recOk RwZ.toRowW.records s) s.abs)
def frZ (s : PySem.W.SharedT) : PySem.W.Frag := He.frG (HandSHeadRun.getT s) (asZ (HandSHeadRun.getT s))
abbrev TyZ : Type := Bool × (Bool × (List He.FnW × List (Option (List (Option (Str × Int))))))
def lkC (_ : World) (s : PySem.W.SharedT) : TyZ := (((exL (frZ s)).take 70).all id, fnZ.all fun d => d.ok (frZ s), fnZ.map fun d => He5.fnA (frZ s) (d.at_ (frZ s)), tsZ.map fun t => He.dicW (frZ s) (t.1 (frZ s)))
def lkD (_ : World) (s : PySem.W.SharedT) : Bool := ((exL (frZ s)).drop 70).all id
noncomputable abbrev vlA (_ : World) := (true, PySem.W.openGood qvZ names)
abbrev vlC (w : World) : TyZ := (true, true, fnZ.map He5.DefA.val, tsZ.map fun t => some (He.keysIn w.params t.2))
abbrev vlD (_ : World) : Bool := true
theorem all_split {l : List Bool} {n : Nat} (h1 : (l.take n).all id = true) (h2 : (l.drop n).all id = true) : l.all id = true := by
  rw [← List.take_append_drop n l, List.all_append, h1, h2]
  rfl
theorem exZ_of {K : PySem.W.Frag} (h1 : ((exL K).take 70).all id = true) (h2 : ((exL K).drop 70).all id = true) : exZ K = true := all_split h1 h2
theorem join_of {S A B : Type} {w : World} {fr : S → PySem.W.Frag} {ob : S → AlZ} (ho : ∀ s, ob s = obsZ exZ fnZ tsZ (fr s)) {f : S → A} {g : S → B} {a : A} {b : B} {o : Option S}
    (e1 : o.map (fun s => (f s, g s)) = some (a, b))
    (e2 : o.map (fun s => (((exL (fr s)).take 70).all id, fnZ.all fun d => d.ok (fr s), fnZ.map fun d => He5.fnA (fr s) (d.at_ (fr s)), tsZ.map fun t => He.dicW (fr s) (t.1 (fr s)))) = some (vlC w))
    (e3 : o.map (fun s => ((exL (fr s)).drop 70).all id) = some true) :
    o.map (fun s => (f s, g s, ob s)) = some (a, b, valZ fnZ tsZ w) := by
  cases o with
  | none => cases e1
  | some s =>
    have d1 := Option.some.inj e1
    have d2 := Option.some.inj e2
    have d3 : ((exL (fr s)).drop 70).all id = true := Option.some.inj e3
    have x1 : f s = a := congrArg (fun z : A × B => z.1) d1
    have x2 : g s = b := congrArg (fun z : A × B => z.2) d1
    have y1 : ((exL (fr s)).take 70).all id = true := congrArg (fun z : TyZ => z.1) d2
    have y2 : (fnZ.all fun d => d.ok (fr s)) = true := congrArg (fun z : TyZ => z.2.1) d2
    have y3 := congrArg (fun z : TyZ => z.2.2) d2
    show some (f s, g s, ob s) = _
    rw [ho, x1, x2]
    exact congrArg (fun z : AlZ => some (a, b, z)) (Prod.ext (Bool.and_eq_true_iff.mpr ⟨exZ_of y1 d3, y2⟩) y3)
theorem run_of {w : World} (hA : Look lkA vlA w) (hC : Look lkC vlC w) (hD : Look lkD vlD w) : HandSHeadRun.RunEq RwZ qvZ hkZ obZ 20000 names w := fun os =>
  join_of (fr := frZ) (ob := obZ) (fun _ => rfl) (hA os) (hC os) (hD os)
theorem runAF (w : World) : Look lkA vlA (w.withFollow "special-get-raises" false) := by
  intro os
  kernel_rfl
theorem runAT (w : World) : Look lkA vlA (w.withFollow "special-get-raises" true) := by
  intro os
  kernel_rfl
theorem runCF (w : World) : Look lkC vlC (w.withFollow "special-get-raises" false) := by
  intro os
  kernel_rfl
theorem runCT (w : World) : Look lkC vlC (w.withFollow "special-get-raises" true) := by
  intro os
  kernel_rfl
theorem runDF (w : World) : Look lkD vlD (w.withFollow "special-get-raises" false) := by
  intro os
  kernel_rfl
theorem runDT (w : World) : Look lkD vlD (w.withFollow "special-get-raises" true) := by
  intro os
  kernel_rfl
theorem runZ (w : World) : HandSHeadRun.RunEq RwZ qvZ hkZ obZ 20000 names w :=
  PySem.W.byRow2 "special-get-raises" (P := fun w => HandSHeadRun.RunEq RwZ qvZ hkZ obZ 20000 names w) (fun w => run_of (runAF w) (runCF w) (runDF w)) (fun w => run_of (runAT w) (runCT w) (runDT w)) w
end SV
end

section
set_option Elab.async false
set_option linter.all false
/-! Counters. -/
namespace SV
theorem Canon.congr {κ : Type} [DecidableEq κ] [Lin κ] {l m s : List (κ × Int)} (h : Canon l s) (e : ∀ k, coef l k = coef m k) : Canon m s := ⟨h.asc, h.non, fun k => (h.eq k).trans (e k)⟩
theorem Canon.perm {κ : Type} [DecidableEq κ] [Lin κ] {l m s : List (κ × Int)} (h : Canon l s) (e : l.Perm m) : Canon m s := h.congr (coef_perm e)
theorem Canon.nzt {κ : Type} [DecidableEq κ] [Lin κ] {l s : List (κ × Int)} (h : Canon (nz (tally l)) s) : Canon l s := h.congr fun k => by rw [coef_nz, coef_tally]
def closR (r : Row) : List Row := (clos r.1).map fun c => (c, sgn r.1.2.2 * r.2)
def closL (s : List Row) : List Row := s.flatMap closR
def oppL (s : List Row) : List Row := s.map fun r => (opp r.1, r.2)
theorem clos_len (c : Cell) : (clos c).length ≤ 7 := by
  unfold clos
  rw [List.length_map]
  cases c.2.2 <;> decide
theorem closR_len (r : Row) : (closR r).length ≤ 7 := by unfold closR; rw [List.length_map]; exact clos_len _
theorem closL_len (s : List Row) : (closL s).length ≤ s.length * 7 := flat_len s closR 7 fun r _ => closR_len r
/-- how often k is in a list -/
def cnt (l : List Cell) (k : Cell) : Int := coef (l.map fun c => (c, (1 : Int))) k
theorem coef_times (l : List Cell) (i : Int) (k : Cell) : coef (l.map fun c => (c, i)) k = i * cnt l k := by
  unfold cnt
  induction l with
  | nil => simp [coef]
  | cons a r ih =>
    rw [List.map_cons, List.map_cons, coef_cons, coef_cons, ih, Int.mul_add]
    split <;> simp
theorem closL_coef (s : List Row) (k : Cell) : coef (closL s) k = wsum s fun c => sgn c.2.2 * cnt (clos c) k :=
  coef_flatMap s closR _ k fun r _ => by
    unfold closR
    rw [coef_times, Int.mul_comm (sgn r.1.2.2), Int.mul_assoc]
theorem closL_congr {s t : List Row} (h : ∀ k, coef s k = coef t k) (k : Cell) : coef (closL s) k = coef (closL t) k := by
  rw [closL_coef, closL_coef]
  exact wsum_congr h _
theorem flat_snoc {α β : Type} {l : List α} {i : Nat} {x : α} (g : α → List β) (h : l[i]? = some x) : (l.take (i + 1)).flatMap g = (l.take i).flatMap g ++ g x := by
  obtain ⟨hi, e⟩ := List.getElem?_eq_some_iff.mp h
  rw [List.take_succ_eq_append_getElem hi, e, List.flatMap_append, List.flatMap_singleton]
end SV
end

section
set_option Elab.async false
set_option linter.all false
set_option maxRecDepth 100000
/-! Views: products, counters, what six views tell. -/
namespace SV
/-- what a view i of the cells is, unsorted -/
def vl (i : Nat) (l : List Row) : List Spot := l.map fun r => (lowM i r.1, r.2 * sgn r.1.2.2)
section
variable {κ : Type} [DecidableEq κ]
def singleB (l : List (κ × Int)) (p : κ) (v : Int) : Bool := (l.all fun q => decide (coef l q.1 = if p = q.1 then v else 0)) && decide (coef l p = v)
theorem singleB_ok {l : List (κ × Int)} {p : κ} {v : Int} (h : singleB l p v = true) (k : κ) : coef l k = if p = k then v else 0 := by
  unfold singleB at h
  rw [Bool.and_eq_true, List.all_eq_true] at h
  by_cases e : p = k
  · rw [if_pos e, ← e]
    exact of_decide_eq_true h.2
  · rw [if_neg e]
    by_cases c : coef l k = 0
    · exact c
    · obtain ⟨q, hq, rfl⟩ := coef_mem c
      have := of_decide_eq_true (h.1 q hq)
      rw [if_neg e] at this
      exact this
theorem wsum_map {ι : Type} [DecidableEq ι] (l : List (ι × Int)) (g : ι → κ) (m : ι → Int) (f : κ → Int) : wsum (l.map fun r => (g r.1, r.2 * m r.1)) f = wsum l fun c => m c * f (g c) := by
  induction l with
  | nil => rfl
  | cons p r ih =>
    rw [List.map_cons, wsum_cons, wsum_cons, ih]
    simp only [Int.mul_assoc]
theorem wsum_mul (l : List (κ × Int)) (f : κ → Int) (m : Int) : wsum l (fun c => m * f c) = m * wsum l f := by
  induction l with
  | nil => simp [wsum]
  | cons p r ih =>
    rw [wsum_cons, wsum_cons, ih, Int.mul_add]
    congr 1
    rw [← Int.mul_assoc, ← Int.mul_assoc, Int.mul_comm p.2 m]
end
theorem coef_shift (l : List Spot) (x y m : Int) (k : Place) : coef (l.map fun p => ((x + p.1.1, y + p.1.2), m * p.2)) k = m * coef l (k.1 - x, k.2 - y) := by
  induction l with
  | nil => simp [coef]
  | cons p r ih =>
    obtain ⟨⟨a, b⟩, i⟩ := p
    obtain ⟨c, d⟩ := k
    rw [List.map_cons, coef_cons, coef_cons, ih, Int.mul_add]
    congr 1
    by_cases h : (a, b) = (c - x, d - y)
    · rw [if_pos h]
      simp only [Prod.mk.injEq] at h
      rw [if_pos (by simp only [Prod.mk.injEq]; omega)]
    · rw [if_neg h]
      simp only [Prod.mk.injEq] at h
      rw [if_neg (by simp only [Prod.mk.injEq]; omega), Int.mul_zero]
/-! ### products -/
def addP (p q : Place) : Place := (p.1 + q.1, p.2 + q.2)
def negP (p : Place) : Place := (-p.1, -p.2)
theorem sw_table : ∀ (a b : Kd) (i : Nat), i < 6 → singleB ((swp a b).2.map fun d => (lowM i d, sgn d.2.2)) (addP (low i a) (low i b)) ((swp a b).1 * sgn a * sgn b) = true := by
  have h : ∀ a b : Kd, ((List.range 6).all fun i => singleB ((swp a b).2.map fun d => (lowM i d, sgn d.2.2)) (addP (low i a) (low i b)) ((swp a b).1 * sgn a * sgn b)) = true := by
    intro a b
    cases a <;> cases b <;> decide +kernel
  intro a b i hi
  exact (List.all_eq_true.mp (h a b)) i (List.mem_range.mpr hi)
theorem sw_sq (a b : Kd) : (swp a b).1 * (swp a b).1 = 1 := by rcases sw_sgn a b with e | e <;> rw [e] <;> rfl
theorem vl_sweep {i : Nat} (hi : i < 6) (p q : Row) (k : Place) : coef (vl i (sweep p q)) k = p.2 * (q.2 * (sgn p.1.2.2 * sgn q.1.2.2 * if addP (lowM i p.1) (lowM i q.1) = k then 1 else 0)) := by
  obtain ⟨⟨x, y, a⟩, m⟩ := p
  obtain ⟨⟨x2, y2, b⟩, n⟩ := q
  have e : vl i (sweep ((x, y, a), m) ((x2, y2, b), n)) = ((swp a b).2.map fun d => (lowM i d, sgn d.2.2)).map fun p => ((x + x2 + p.1.1, y + y2 + p.1.2), (swp a b).1 * m * n * p.2) := by
    unfold vl sweep
    rw [List.map_map, List.map_map]
    apply List.map_congr_left
    intro d _
    simp only [Function.comp, lowM, shift, Int.add_assoc]
  rw [e, coef_shift, singleB_ok (sw_table a b i hi)]
  have hk : (addP (low i a) (low i b) = (k.1 - (x + x2), k.2 - (y + y2))) ↔ addP (lowM i (x, y, a)) (lowM i (x2, y2, b)) = k := by
    obtain ⟨c, d⟩ := k
    simp only [addP, lowM, shift, Prod.mk.injEq]
    omega
  by_cases h : addP (lowM i (x, y, a)) (lowM i (x2, y2, b)) = k
  · rw [if_pos h, if_pos (hk.mpr h)]
    have := sw_sq a b
    rcases sw_sgn a b with e | e <;> rw [e] <;> simp only [Int.one_mul, Int.mul_one, Int.neg_mul, Int.mul_neg, Int.neg_neg] <;> simp only [Int.mul_assoc, Int.mul_comm, Int.mul_left_comm]
  · rw [if_neg h, if_neg (fun z => h (hk.mp z))]
    simp
theorem vl_flat {α : Type} (i : Nat) (l : List α) (g : α → List Row) : vl i (l.flatMap g) = l.flatMap fun x => vl i (g x) := by
  unfold vl
  rw [List.map_flatMap]
theorem vl_product {i : Nat} (hi : i < 6) (s t : List Row) (k : Place) : coef (vl i (sweepL s t)) k = wsum (vl i s) fun p => wsum (vl i t) fun q => if addP p q = k then 1 else 0 := by
  have e1 : coef (vl i (sweepL s t)) k = wsum s fun c => wsum t fun c2 => sgn c.2.2 * sgn c2.2.2 * if addP (lowM i c) (lowM i c2) = k then 1 else 0 := by
    unfold sweepL
    rw [vl_flat]
    refine coef_flatMap s _ _ k fun p _ => ?_
    rw [vl_flat]
    have := coef_flatMap t (fun q => vl i (sweep p q)) (fun c2 => p.2 * (sgn p.1.2.2 * sgn c2.2.2 * if addP (lowM i p.1) (lowM i c2) = k then 1 else 0)) k fun q _ => by
      rw [vl_sweep hi]
      rw [← Int.mul_assoc, Int.mul_comm p.2 q.2, Int.mul_assoc]
    rw [this, wsum_mul]
  rw [e1]
  unfold vl
  rw [wsum_map (g := lowM i) (m := fun c => sgn c.2.2)]
  refine wsum_ext fun p _ => ?_
  rw [wsum_map (g := lowM i) (m := fun c => sgn c.2.2), ← wsum_mul]
  refine wsum_ext fun q _ => ?_
  simp only [Int.mul_assoc]
/-- single spots multiply -/
theorem vl_singles {i : Nat} (hi : i < 6) {s t : List Row} {p q : Place} {a b : Int} (hs : ∀ k, coef (vl i s) k = if p = k then a else 0) (ht : ∀ k, coef (vl i t) k = if q = k then b else 0) (k : Place) : coef (vl i (sweepL s t)) k = if addP p q = k then a * b else 0 := by
  rw [vl_product hi, wsum_single hs, wsum_single ht]
  split <;> simp
/-! ### counters -/
theorem ct_table : ∀ (a : Kd) (i : Nat), i < 6 → singleB ((clos (opp0 a)).map fun d => (lowM i d, sgn a * sgn d.2.2)) (negP (low i a)) (sgn a) = true := by
  have h : ∀ a : Kd, ((List.range 6).all fun i => singleB ((clos (opp0 a)).map fun d => (lowM i d, sgn a * sgn d.2.2)) (negP (low i a)) (sgn a)) = true := by
    intro a
    cases a <;> decide +kernel
  intro a i hi
  exact (List.all_eq_true.mp (h a)) i (List.mem_range.mpr hi)
/-- what a counter tallies -/
def ctrR (r : Row) : List Row := (clos (opp r.1)).map fun c => (c, r.2 * sgn r.1.2.2)
def ctrL (L : List Row) : List Row := L.flatMap ctrR
theorem sgn_opp (c : Cell) : sgn (opp c).2.2 = sgn c.2.2 := by
  obtain ⟨x, y, k⟩ := c
  cases k <;> rfl
theorem ctrL_eq (L : List Row) : ctrL L = closL (oppL L) := by
  unfold ctrL closL oppL
  rw [List.flatMap_map]
  congr 1
  funext r
  unfold ctrR closR
  rw [sgn_opp, Int.mul_comm]
theorem ctrR_len (r : Row) : (ctrR r).length ≤ 7 := by unfold ctrR; rw [List.length_map]; exact clos_len _
theorem vl_ctrR {i : Nat} (hi : i < 6) (r : Row) (k : Place) : coef (vl i (ctrR r)) k = r.2 * (sgn r.1.2.2 * if negP (lowM i r.1) = k then 1 else 0) := by
  obtain ⟨⟨x, y, a⟩, m⟩ := r
  have e : vl i (ctrR ((x, y, a), m)) = ((clos (opp0 a)).map fun d => (lowM i d, sgn a * sgn d.2.2)).map fun p => ((-x + p.1.1, -y + p.1.2), m * p.2) := by
    have ec : clos (opp (x, y, a)) = (clos (opp0 a)).map fun d => (-x + d.1, -y + d.2.1, d.2.2) := by
      unfold clos opp
      rw [List.map_map]
      apply List.map_congr_left
      intro d _
      simp only [Function.comp, shiftC, Prod.mk.injEq, and_true]
      omega
    unfold vl ctrR
    rw [ec, List.map_map, List.map_map, List.map_map]
    apply List.map_congr_left
    intro d _
    simp only [Function.comp, lowM, shift, Int.add_assoc, Int.mul_assoc]
  rw [e, coef_shift, singleB_ok (ct_table a i hi)]
  have hk : (negP (low i a) = (k.1 - -x, k.2 - -y)) ↔ negP (lowM i (x, y, a)) = k := by
    obtain ⟨c, d⟩ := k
    simp only [negP, lowM, shift, Prod.mk.injEq]
    omega
  by_cases h : negP (lowM i (x, y, a)) = k
  · rw [if_pos h, if_pos (hk.mpr h), Int.mul_one]
  · rw [if_neg h, if_neg (fun z => h (hk.mp z))]
    simp
theorem vl_ctr {i : Nat} (hi : i < 6) {L : List Row} {p : Place} {a : Int} (h : ∀ k, coef (vl i L) k = if p = k then a else 0) (k : Place) : coef (vl i (ctrL L)) k = if negP p = k then a else 0 := by
  have e1 : coef (vl i (ctrL L)) k = wsum L fun c => sgn c.2.2 * if negP (lowM i c) = k then 1 else 0 := by
    unfold ctrL
    rw [vl_flat]
    exact coef_flatMap L _ _ k fun r _ => vl_ctrR hi r k
  have e2 : (wsum L fun c => sgn c.2.2 * if negP (lowM i c) = k then 1 else 0) = wsum (vl i L) fun p => if negP p = k then 1 else 0 := by
    unfold vl
    rw [wsum_map (g := lowM i) (m := fun c => sgn c.2.2)]
  rw [e1, e2, wsum_single h]
  split <;> simp
theorem vl_congr {s t : List Row} (h : ∀ c, coef s c = coef t c) (i : Nat) (k : Place) : coef (vl i s) k = coef (vl i t) k := by
  have e : ∀ l : List Row, coef (vl i l) k = wsum l fun c => sgn c.2.2 * if lowM i c = k then 1 else 0 := fun l => by
    unfold vl
    refine coef_map l _ _ k fun p _ => ?_
    split <;> simp
  rw [e, e]
  exact wsum_congr h _
/-! ### what six views tell -/
theorem vl_kinds (i : Nat) (D : List Row) (p : Place) : coef (vl i D) p =
    coef D (p.1 - (low i .d).1, p.2 - (low i .d).2, .d) - coef D (p.1 - (low i .e).1, p.2 - (low i .e).2, .e) - coef D (p.1 - (low i .n).1, p.2 - (low i .n).2, .n) +
    coef D (p.1 - (low i .u).1, p.2 - (low i .u).2, .u) + coef D (p.1 - (low i .v).1, p.2 - (low i .v).2, .v) - coef D (p.1 - (low i .w).1, p.2 - (low i .w).2, .w) := by
  induction D with
  | nil => simp [vl, coef]
  | cons r D ih =>
    obtain ⟨⟨x, y, k⟩, m⟩ := r
    obtain ⟨a, b⟩ := p
    have e : vl i (((x, y, k), m) :: D) = (lowM i (x, y, k), m * sgn k) :: vl i D := rfl
    rw [e, coef_cons, ih]
    simp only [coef_cons, lowM, shift]
    have key : ∀ (κ : Kd) (q : Place), ((x, y, k) = (a - q.1, b - q.2, κ)) ↔ (k = κ ∧ (x + q.1, y + q.2) = (a, b)) := by
      intro κ q
      simp only [Prod.mk.injEq]
      constructor
      · rintro ⟨h1, h2, h3⟩
        exact ⟨h3, by omega, by omega⟩
      · rintro ⟨h3, h1, h2⟩
        exact ⟨by omega, by omega, h3⟩
    simp only [key]
    cases k <;> simp [sgn] <;> split <;> omega
end SV
end

section
set_option Elab.async false
set_option linter.all false
set_option maxRecDepth 100000
/-! Six views tell the cells. -/
namespace SV
theorem coef_bound (D : List Row) : ∃ B : Int, 0 ≤ B ∧ ∀ c : Cell, coef D c ≠ 0 → -B ≤ c.1 ∧ c.1 ≤ B ∧ -B ≤ c.2.1 ∧ c.2.1 ≤ B := by
  have h : ∃ B : Int, 0 ≤ B ∧ ∀ r ∈ D, -B ≤ r.1.1 ∧ r.1.1 ≤ B ∧ -B ≤ r.1.2.1 ∧ r.1.2.1 ≤ B := by
    induction D with
    | nil => exact ⟨0, Int.le_refl _, fun r h => nomatch h⟩
    | cons r D ih =>
      obtain ⟨B, b0, hB⟩ := ih
      refine ⟨B + r.1.1.natAbs + r.1.2.1.natAbs, by omega, fun q hq => ?_⟩
      rcases List.mem_cons.mp hq with rfl | hq
      · omega
      · have := hB q hq
        omega
  obtain ⟨B, b0, hB⟩ := h
  refine ⟨B, b0, fun c hc => ?_⟩
  obtain ⟨r, hr, rfl⟩ := coef_mem hc
  exact hB r hr
/-- a function of bounded support that a step keeps is nothing -/
theorem step_zero {g : Int → Int → Int} {B dx dy : Int} (hd : dx = 1 ∨ dy = 1) (hB : ∀ x y, g x y ≠ 0 → -B ≤ x ∧ x ≤ B ∧ -B ≤ y ∧ y ≤ B) (hs : ∀ x y, g (x + dx) (y + dy) = g x y) (x y : Int) : g x y = 0 := by
  have it : ∀ n : Nat, g (x + n * dx) (y + n * dy) = g x y := by
    intro n
    induction n with
    | zero => simp
    | succ n ih =>
      have := hs (x + n * dx) (y + n * dy)
      have e1 : x + n * dx + dx = x + ((n + 1 : Nat) : Int) * dx := by rw [Int.natCast_add, Int.add_mul]; omega
      have e2 : y + n * dy + dy = y + ((n + 1 : Nat) : Int) * dy := by rw [Int.natCast_add, Int.add_mul]; omega
      rw [e1, e2] at this
      rw [this, ih]
  by_cases h : g x y = 0
  · exact h
  · exfalso
    have hb := hB x y h
    rcases hd with rfl | rfl
    · have h1 := it (B - x + 1).toNat
      have h2 := hB _ _ (by rw [h1]; exact h)
      omega
    · have h1 := it (B - y + 1).toNat
      have h2 := hB _ _ (by rw [h1]; exact h)
      omega
theorem six_zero {D : List Row} (h : ∀ i, i < 6 → ∀ k, coef (vl i D) k = 0) (c : Cell) : coef D c = 0 := by
  obtain ⟨B0, b0, hB0⟩ := coef_bound D
  let B := B0 + 2
  let F : Kd → Int → Int → Int := fun k x y => coef D (x, y, k)
  have hF : ∀ k x y, F k x y ≠ 0 → -B0 ≤ x ∧ x ≤ B0 ∧ -B0 ≤ y ∧ y ≤ B0 := fun k x y n => hB0 (x, y, k) n
  have V : ∀ i, i < 6 → ∀ x y : Int, F .d (x - (low i .d).1) (y - (low i .d).2) - F .e (x - (low i .e).1) (y - (low i .e).2) - F .n (x - (low i .n).1) (y - (low i .n).2) + F .u (x - (low i .u).1) (y - (low i .u).2) + F .v (x - (low i .v).1) (y - (low i .v).2) - F .w (x - (low i .w).1) (y - (low i .w).2) = 0 := fun i hi x y => by
    have := vl_kinds i D (x, y)
    rw [h i hi] at this
    exact this.symm
  have V0 : ∀ x y : Int, F .d x y - F .e x y - F .n x y + F .u x y + F .v (x + 1) (y - 1) - F .w (x + 1) (y - 1) = 0 := fun x y => by
    have := V 0 (by decide) x y
    simpa [low, lowF, offs, lower, ht, hts] using this
  have V1 : ∀ x y : Int, F .d x y - F .e x y - F .n x y + F .u x y + F .v x y - F .w x y = 0 := fun x y => by
    have := V 1 (by decide) x y
    simpa [low, lowF, offs, lower, ht, hts] using this
  have V2 : ∀ x y : Int, F .d x y - F .e (x - 1) y - F .n x y + F .u (x - 1) y + F .v x y - F .w x y = 0 := fun x y => by
    have := V 2 (by decide) x y
    simpa [low, lowF, offs, lower, ht, hts] using this
  have V3 : ∀ x y : Int, F .d x y - F .e (x - 1) y - F .n x (y - 1) + F .u (x - 1) y + F .v x (y - 1) - F .w x y = 0 := fun x y => by
    have := V 3 (by decide) x y
    simpa [low, lowF, offs, lower, ht, hts] using this
  have V4 : ∀ x y : Int, F .d x y - F .e (x - 1) y - F .n x (y - 1) + F .u x (y - 1) + F .v x (y - 1) - F .w (x + 1) (y - 1) = 0 := fun x y => by
    have := V 4 (by decide) x y
    simpa [low, lowF, offs, lower, ht, hts] using this
  have V5 : ∀ x y : Int, F .d x y - F .e x y - F .n x (y - 1) + F .u x (y - 1) + F .v (x + 1) (y - 1) - F .w (x + 1) (y - 1) = 0 := fun x y => by
    have := V 5 (by decide) x y
    simpa [low, lowF, offs, lower, ht, hts] using this
  clear V
  have vw : ∀ x y, F .v x y - F .w x y = 0 := by
    intro x y
    refine step_zero (g := fun x y => F .v x y - F .w x y) (B := B0) (dx := 1) (dy := -1) (.inl rfl) (fun x y n => ?_) (fun x y => ?_) x y
    · by_cases e : F .v x y = 0
      · exact hF .w x y (by omega)
      · exact hF .v x y e
    · have a := V0 x y
      have b := V1 x y
      rw [show y - 1 = y + -1 from rfl] at a
      omega
  have ue : ∀ x y, F .u x y - F .e x y = 0 := by
    intro x y
    refine step_zero (g := fun x y => F .u x y - F .e x y) (B := B0) (dx := 1) (dy := 0) (.inl rfl) (fun x y n => ?_) (fun x y => ?_) x y
    · by_cases e : F .u x y = 0
      · exact hF .e x y (by omega)
      · exact hF .u x y e
    · have a := V1 (x + 1) y
      have b := V2 (x + 1) y
      rw [show x + 1 - 1 = x by omega] at b
      rw [show y + 0 = y by omega]
      omega
  have vn : ∀ x y, F .v x y - F .n x y = 0 := by
    intro x y
    refine step_zero (g := fun x y => F .v x y - F .n x y) (B := B0) (dx := 0) (dy := 1) (.inr rfl) (fun x y n => ?_) (fun x y => ?_) x y
    · by_cases e : F .v x y = 0
      · exact hF .n x y (by omega)
      · exact hF .v x y e
    · have a := V2 x (y + 1)
      have b := V3 x (y + 1)
      have u1 := ue (x - 1) (y + 1)
      rw [show y + 1 - 1 = y by omega] at b
      rw [show x + 0 = x by omega]
      omega
  have dn : ∀ x y, F .d x y = F .n x y := fun x y => by
    have := V1 x y
    have := vw x y
    have := ue x y
    have := vn x y
    omega
  have ne1 : ∀ x y, F .n x y - F .e (x - 1) y = 0 := by
    intro x y
    refine step_zero (g := fun x y => F .n x y - F .e (x - 1) y) (B := B0 + 1) (dx := 1) (dy := -1) (.inl rfl) (fun x y n => ?_) (fun x y => ?_) x y
    · by_cases e : F .n x y = 0
      · have := hF .e (x - 1) y (by omega)
        omega
      · have := hF .n x y e
        omega
    · have a := V4 x y
      have h1 := vw (x + 1) (y - 1)
      have h2 := vn (x + 1) (y - 1)
      have h3 := vn x (y - 1)
      have h4 := ue x (y - 1)
      have h5 := dn x y
      rw [show y + -1 = y - 1 from rfl, show x + 1 - 1 = x by omega]
      omega
  have ne2 : ∀ x y, F .n x y - F .e x y = 0 := by
    intro x y
    refine step_zero (g := fun x y => F .n x y - F .e x y) (B := B0) (dx := 0) (dy := 1) (.inr rfl) (fun x y n => ?_) (fun x y => ?_) x y
    · by_cases e : F .n x y = 0
      · exact hF .e x y (by omega)
      · exact hF .n x y e
    · have a := V5 x (y + 1)
      have h1 := vw (x + 1) (y + 1 - 1)
      have h4 := ue x (y + 1 - 1)
      have h5 := dn x (y + 1)
      rw [show y + 1 - 1 = y by omega] at a h1 h4
      rw [show x + 0 = x by omega]
      omega
  have e0 : ∀ x y, F .e x y = 0 := by
    intro x y
    refine step_zero (g := fun x y => F .e x y) (B := B0) (dx := 1) (dy := 0) (.inl rfl) (fun x y n => hF .e x y n) (fun x y => ?_) x y
    have a := ne1 (x + 1) y
    have b := ne2 (x + 1) y
    rw [show x + 1 - 1 = x by omega] at a
    rw [show y + 0 = y by omega]
    omega
  obtain ⟨x, y, k⟩ := c
  show F k x y = 0
  have h1 := e0 x y
  have h2 := ne2 x y
  have h3 := dn x y
  have h4 := ue x y
  have h5 := vn x y
  have h6 := vw x y
  cases k <;> omega
theorem six_tell {A B : List Row} (h : ∀ i, i < 6 → ∀ k, coef (vl i A) k = coef (vl i B) k) (c : Cell) : coef A c = coef B c := by
  have vn : ∀ (i : Nat) (l : List Row), vl i (neg l) = neg (vl i l) := fun i l => by
    unfold vl neg
    rw [List.map_map, List.map_map]
    apply List.map_congr_left
    intro r _
    simp [Function.comp, Int.neg_mul]
  have va : ∀ (i : Nat) (l m : List Row), vl i (l ++ m) = vl i l ++ vl i m := fun i l m => by unfold vl; rw [List.map_append]
  have := six_zero (D := A ++ neg B) (fun i hi k => by rw [va, vn, coef_append, coef_neg, h i hi k]; omega) c
  rw [coef_append, coef_neg] at this
  omega
/-- the unit -/
theorem unit_views (i : Nat) (hi : i < 6) (k : Place) : coef (vl i [((0, 0, .d), 1)]) k = if ((0, 0) : Place) = k then 1 else 0 := by
  have : vl i [((0, 0, Kd.d), 1)] = [((0, 0), 1)] := by
    match i, hi with
    | 0, _ => rfl
    | 1, _ => rfl
    | 2, _ => rfl
    | 3, _ => rfl
    | 4, _ => rfl
    | 5, _ => rfl
  rw [this, coef_cons, coef_nil, Int.add_zero]
end SV
end

section
set_option Elab.async false
set_option linter.all false
set_option maxRecDepth 100000
/-! Pens. -/
namespace SV
def unitL : Kd → List Int
  | .d => [0, 0, 0, 0, 0, 0]
  | .e => [1, 0, 0, 0, 0, 1]
  | .n => [1, 1, 0, 0, 0, 0]
  | .w => [0, 1, 1, 0, 0, 0]
  | .u => [1, 1, 0, 0, 0, 1]
  | .v => [1, 1, 1, 0, 0, 0]
def addL (ns ms : List Int) (t : Int) : List Int := (List.range 6).map fun i => ns.getD i 0 + ms.getD i 0 * t
def cornL : List Int → List Place
  | [a, b, c, d, e, f] => [(f, a - f), (a - b, b), (-c, b), (-c, c - d), (e - d, -e), (f, -e)]
  | _ => []
def movL (L : List Row) (dx dy t : Int) : List Row := L.map fun r => ((r.1.1 + dx, r.1.2.1 + dy, r.1.2.2), r.2 * t)
def insB (t : List Place) (p : Place) : List Place := if p ∈ t then t else t ++ [p]
def cnd (ns : List Int) (x y : Int) : Bool := decide (-(ns.getD 3 0) ≤ x + y) && decide (x + y ≤ ns.getD 0 0)
def colF (ns : List Int) (x : Int) (m : Nat) (t : List Place) : List Place := (List.range m).foldl (fun t (j : Nat) => if cnd ns x (-(ns.getD 4 0) + (j : Int)) = true then insB t (x, -(ns.getD 4 0) + (j : Int)) else t) t
def nX (ns : List Int) : Nat := (ns.getD 5 0 + 1 - -(ns.getD 2 0)).toNat
def nY (ns : List Int) : Nat := (ns.getD 1 0 + 1 - -(ns.getD 4 0)).toNat
def dotF (ns : List Int) (n : Nat) : List Place := (List.range n).foldl (fun t (i : Nat) => colF ns (-(ns.getD 2 0) + (i : Int)) (nY ns) t) []
def dotsL (ns : List Int) : List Place := dotF ns (nX ns)
def oneIf (t : List Place) (z : Place) (r : Row) : List Row := if z ∈ t then [r] else []
def cellsAt (t : List Place) (p : Place) : List Row :=
  [((p.1, p.2, .d), 1)] ++ oneIf t (p.1 + 1, p.2) ((p.1, p.2, .e), 1) ++ oneIf t (p.1 - 1, p.2 + 1) ((p.1, p.2, .w), 1) ++
    (if (p.1, p.2 + 1) ∈ t then [((p.1, p.2, .n), 1)] ++ oneIf t (p.1 + 1, p.2) ((p.1, p.2, .u), 1) ++ oneIf t (p.1 - 1, p.2 + 1) ((p.1, p.2, .v), 1) else [])
def filledL (ns : List Int) : List Row := (dotsL ns).flatMap (cellsAt (dotsL ns))
def subs : List Kd → List (List Kd)
  | [] => [[]]
  | a :: r => subs r ++ (subs r).map (a :: ·)
def reachOf (cs : List Kd) : List Int := cs.foldl (fun ns k => addL ns (unitL k) 1) [0, 0, 0, 0, 0, 0]
def lessOf (k : Kd) (t : Int) : List Int := addL [0, 0, 0, 0, 0, 0] (unitL k) t
theorem Canon.len {κ : Type} [DecidableEq κ] [Lin κ] {l s : List (κ × Int)} (h : Canon l s) : s.length = (nz (tally l)).length := by
  have hp : ∀ p, p ∈ s ↔ p ∈ nz (tally l) := fun p => by
    rw [h.mem]
    constructor
    · rintro ⟨e, n⟩
      have : coef (nz (tally l)) p.1 ≠ 0 := by rw [coef_nz, coef_tally, ← e]; exact n
      obtain ⟨q, hq, e2⟩ := coef_mem this
      have e3 := coef_nodup (nodup_nz (nodup_tally l)) hq
      rw [coef_nz, coef_tally, e2, ← e] at e3
      have : q = p := Prod.ext e2 e3.symm
      exact this ▸ hq
    · intro hp
      have e3 := coef_nodup (nodup_nz (nodup_tally l)) hp
      rw [coef_nz, coef_tally] at e3
      exact ⟨e3.symm, (mem_nz hp).2⟩
  exact ((List.perm_ext_iff_of_nodup (nodup_of_keys h.nd) (nodup_of_keys (nodup_nz (nodup_tally l)))).mpr hp).length_eq
theorem coef_le {κ : Type} [DecidableEq κ] {l : List (κ × Int)} {b : Int} (hb : 0 ≤ b) (h : ∀ p ∈ l, -b ≤ p.2 ∧ p.2 ≤ b) (k : κ) : -(l.length * b) ≤ coef l k ∧ coef l k ≤ l.length * b := by
  induction l with
  | nil => simp [coef]
  | cons p r ih =>
    have h1 := h p List.mem_cons_self
    have h2 := ih fun q hq => h q (List.mem_cons_of_mem _ hq)
    rw [coef_cons, List.length_cons, Int.natCast_add, Int.add_mul]
    split <;> omega
theorem Canon.inks {κ : Type} [DecidableEq κ] [Lin κ] {l s : List (κ × Int)} (c : Canon l s) {b : Int} (hb : 0 ≤ b) (h : ∀ p ∈ l, -b ≤ p.2 ∧ p.2 ≤ b) : ∀ p ∈ s, -(l.length * b) ≤ p.2 ∧ p.2 ≤ l.length * b := fun p hp => by
  rw [c.ink hp]
  exact coef_le hb h p.1
theorem Canon.self {κ : Type} [DecidableEq κ] [Lin κ] {l s : List (κ × Int)} (h : Canon l s) : Canon s s := ⟨h.asc, h.non, fun _ => rfl⟩
theorem mul_abs {a b A B : Int} (h1 : -A ≤ a ∧ a ≤ A) (h2 : -B ≤ b ∧ b ≤ B) (hA : 0 ≤ A) : -(A * B) ≤ a * b ∧ a * b ≤ A * B := by
  have hB : 0 ≤ B := by omega
  have n1 : (a * b).natAbs ≤ (A * B).natAbs := by
    rw [Int.natAbs_mul, Int.natAbs_mul]
    exact Nat.mul_le_mul (by omega) (by omega)
  have : 0 ≤ A * B := Int.mul_nonneg hA hB
  omega
def singlesB (l : List Row) (ps : List Place) : Bool := (List.range 6).all fun i => singleB (vl i l) (ps.getD i (0, 0)) 1
def smallB (ns : List Int) : Bool := decide (ns.length = 6) && ns.all fun n => decide (-20 ≤ n) && decide (n ≤ 20)
def penB (ns : List Int) : Bool := smallB ns && (singlesB (filledL ns) (cornL ns) && (decide ((filledL ns).length ≤ 39) && (filledL ns).all fun r => decide (r.2 = 1)))
def lessB (ns : List Int) : Bool := penB ns && decide ((nz (tally (ctrL (filledL ns)))).length ≤ 7)
def penList : List (List Int) := ((subs [.e, .n, .w, .u, .v]).filter fun c => decide (c.length ≤ 3)).map reachOf
theorem pens_ok : ∀ cs ∈ subs [.e, .n, .w, .u, .v], cs.length ≤ 3 → penB (reachOf cs) = true := by
  have h : ((subs [.e, .n, .w, .u, .v]).all fun cs => !decide (cs.length ≤ 3) || penB (reachOf cs)) = true := by decide +kernel
  intro cs hc hl
  have := (List.all_eq_true.mp h) cs hc
  rw [decide_eq_true hl] at this
  simpa using this
theorem less_ok : ∀ k : Kd, k ≠ .d → ∀ t : Int, t = 1 ∨ t = 2 → lessB (lessOf k t) = true := by
  intro k hk t ht
  rcases ht with rfl | rfl <;> cases k <;> first | exact absurd rfl hk | decide +kernel
theorem sub_mem {cs l : List Kd} (h : cs.Sublist l) : cs ∈ subs l := by
  induction h with
  | slnil => exact List.mem_singleton.mpr rfl
  | cons a _ ih => exact List.mem_append_left _ ih
  | cons_cons a _ ih => exact List.mem_append_right _ (List.mem_map.mpr ⟨_, ih, rfl⟩)
/-- a pen: its reaches, its cells -/
structure PenOk (ns : List Int) (L : List Row) : Prop where
  len : ns.length = 6
  few : L.length ≤ 60000
  inks : ∀ r ∈ L, -1000000000 ≤ r.2 ∧ r.2 ≤ 1000000000
  views : ∀ i, i < 6 → ∀ k, coef (vl i L) k = if (cornL ns).getD i (0, 0) = k then 1 else 0
structure PenB (ns : List Int) : Prop where
  len : ns.length = 6
  small : ∀ n ∈ ns, -20 ≤ n ∧ n ≤ 20
  views : ∀ i, i < 6 → ∀ k, coef (vl i (filledL ns)) k = if (cornL ns).getD i (0, 0) = k then 1 else 0
  few : (filledL ns).length ≤ 39
  ones : ∀ r ∈ filledL ns, r.2 = 1
theorem penB_ok {ns : List Int} (h : penB ns = true) : PenB ns := by
  unfold penB smallB singlesB at h
  simp only [Bool.and_eq_true, decide_eq_true_eq, List.all_eq_true] at h
  obtain ⟨⟨h1, h2⟩, h3, h4, h5⟩ := h
  exact ⟨h1, h2, fun i hi k => singleB_ok (h3 i (List.mem_range.mpr hi)) k, h4, h5⟩
theorem PenB.ok {ns : List Int} (h : PenB ns) {L : List Row} (hp : L.Perm (filledL ns)) : PenOk ns L :=
  ⟨h.len, by rw [hp.length_eq]; have := h.few; omega, fun r hr => by rw [h.ones r (hp.mem_iff.mp hr)]; decide, fun i hi k => by rw [← h.views i hi k]; exact vl_congr (coef_perm hp) i k⟩
theorem corn_add {ns ms : List Int} (hn : ns.length = 6) (hm : ms.length = 6) {i : Nat} (hi : i < 6) : (cornL (addL ns ms (-1))).getD i (0, 0) = addP ((cornL ns).getD i (0, 0)) (negP ((cornL ms).getD i (0, 0))) := by
  match ns, hn, ms, hm with
  | [a, b, c, d, e, f], _, [a', b', c', d', e', f'], _ =>
    have h : addL [a, b, c, d, e, f] [a', b', c', d', e', f'] (-1) = [a - a', b - b', c - c', d - d', e - e', f - f'] := by
      show [a + a' * -1, b + b' * -1, c + c' * -1, d + d' * -1, e + e' * -1, f + f' * -1] = _
      have e : ∀ x y : Int, x + y * -1 = x - y := fun x y => by omega
      rw [e, e, e, e, e, e]
    rw [h]
    match i, hi with
    | 0, _ => exact Prod.ext (by simp [cornL, addP, negP]; omega) (by simp [cornL, addP, negP]; omega)
    | 1, _ => exact Prod.ext (by simp [cornL, addP, negP]; omega) (by simp [cornL, addP, negP]; omega)
    | 2, _ => exact Prod.ext (by simp [cornL, addP, negP]; omega) (by simp [cornL, addP, negP]; omega)
    | 3, _ => exact Prod.ext (by simp [cornL, addP, negP]; omega) (by simp [cornL, addP, negP]; omega)
    | 4, _ => exact Prod.ext (by simp [cornL, addP, negP]; omega) (by simp [cornL, addP, negP]; omega)
    | 5, _ => exact Prod.ext (by simp [cornL, addP, negP]; omega) (by simp [cornL, addP, negP]; omega)
theorem sweepL_inks {s t : List Row} {A B : Int} (hA : 0 ≤ A) (hs : ∀ p ∈ s, -A ≤ p.2 ∧ p.2 ≤ A) (ht : ∀ p ∈ t, -B ≤ p.2 ∧ p.2 ≤ B) : ∀ r ∈ sweepL s t, -(A * B) ≤ r.2 ∧ r.2 ≤ A * B := by
  intro r hr
  unfold sweepL at hr
  obtain ⟨p, hp, hr⟩ := List.mem_flatMap.mp hr
  obtain ⟨q, hq, hr⟩ := List.mem_flatMap.mp hr
  unfold sweep at hr
  obtain ⟨d, _, rfl⟩ := List.mem_map.mp hr
  have h1 := mul_abs (hs p hp) (ht q hq) hA
  show -(A * B) ≤ (swp p.1.2.2 q.1.2.2).1 * p.2 * q.2 ∧ (swp p.1.2.2 q.1.2.2).1 * p.2 * q.2 ≤ A * B
  rw [Int.mul_assoc]
  rcases sw_sgn p.1.2.2 q.1.2.2 with e | e <;> rw [e] <;> omega
theorem ctrL_inks {L : List Row} {b : Int} (h : ∀ p ∈ L, -b ≤ p.2 ∧ p.2 ≤ b) : ∀ r ∈ ctrL L, -b ≤ r.2 ∧ r.2 ≤ b := by
  intro r hr
  unfold ctrL at hr
  obtain ⟨p, hp, hr⟩ := List.mem_flatMap.mp hr
  unfold ctrR at hr
  obtain ⟨d, _, rfl⟩ := List.mem_map.mp hr
  have h1 := h p hp
  show -b ≤ p.2 * sgn p.1.2.2 ∧ p.2 * sgn p.1.2.2 ≤ b
  cases p.1.2.2 <;> simp only [sgn] <;> omega
theorem perm_flat {α β : Type} {l m : List α} (g : α → List β) (h : l.Perm m) : (l.flatMap g).Perm (m.flatMap g) := by
  induction h with
  | nil => exact List.Perm.refl _
  | cons x _ ih =>
    rw [List.flatMap_cons, List.flatMap_cons]
    exact ih.append_left _
  | swap x y l =>
    rw [List.flatMap_cons, List.flatMap_cons, List.flatMap_cons, List.flatMap_cons, ← List.append_assoc, ← List.append_assoc]
    exact List.perm_append_comm.append_right _
  | trans _ _ h1 h2 => exact h1.trans h2
/-- a pen less another -/
theorem pen_less {ns ms : List Int} {L F o s t u : List Row} (hn : PenB ns) (hl : lessB ms = true) (hL : L.Perm (filledL ns)) (hF : F.Perm (filledL ms)) (hs : Canon L s) (ho : Canon (ctrL F) o) (ht : Canon o t) :
    s.length * t.length ≤ 4000 ∧ s.length ≤ 39 ∧ (∀ p ∈ s, -39 ≤ p.2 ∧ p.2 ≤ 39) ∧ (Canon (sweepL s t) u → PenOk (addL ns ms (-1)) u) := by
  unfold lessB at hl
  rw [Bool.and_eq_true] at hl
  have hm := penB_ok hl.1
  have h7 : (nz (tally (ctrL (filledL ms)))).length ≤ 7 := of_decide_eq_true hl.2
  have hs1 : s.length ≤ 39 := by
    have := hs.length
    rw [hL.length_eq] at this
    exact Nat.le_trans this hn.few
  have hct : Canon (ctrL (filledL ms)) t := (ht.congr ho.eq).congr (coef_perm (perm_flat ctrR hF))
  have ht1 : t.length ≤ 7 := by rw [hct.len]; exact h7
  have is : ∀ p ∈ s, -39 ≤ p.2 ∧ p.2 ≤ 39 := fun p hp => by
    have := hs.inks (b := 1) (by decide) (fun q hq => by rw [hn.ones q (hL.mem_iff.mp hq)]; decide) p hp
    have h1 : L.length ≤ 39 := by rw [hL.length_eq]; exact hn.few
    omega
  have it : ∀ p ∈ t, -273 ≤ p.2 ∧ p.2 ≤ 273 := fun p hp => by
    have := hct.inks (b := 1) (by decide) (ctrL_inks fun q hq => by rw [hm.ones q hq]; decide) p hp
    have h1 : (ctrL (filledL ms)).length ≤ (filledL ms).length * 7 := flat_len _ ctrR 7 fun r _ => ctrR_len r
    have h2 := hm.few
    omega
  have hst : s.length * t.length ≤ 39 * 7 := Nat.mul_le_mul hs1 ht1
  refine ⟨by omega, hs1, is, fun hu => ⟨?_, ?_, fun r hr => ?_, fun i hi k => ?_⟩⟩
  · unfold addL
    simp
  · have h1 := hu.length
    have h2 := sweepL_len s t
    omega
  · have h1 := hu.inks (b := 39 * 273) (by decide) (sweepL_inks (by decide) is it) r hr
    have h2 := sweepL_len s t
    omega
  · have vs : ∀ k, coef (vl i s) k = if (cornL ns).getD i (0, 0) = k then 1 else 0 := fun k => by
      rw [← hn.views i hi k]
      exact (vl_congr hs.eq i k).trans (vl_congr (coef_perm hL) i k)
    have vt : ∀ k, coef (vl i t) k = if negP ((cornL ms).getD i (0, 0)) = k then 1 else 0 := fun k => by
      rw [vl_congr hct.eq i k]
      exact vl_ctr hi (hm.views i hi) k
    rw [vl_congr hu.eq i k, vl_singles hi vs vt k, corn_add hn.len hm.len hi]
    rfl
end SV
end

section
set_option Elab.async false
set_option linter.all false
set_option maxRecDepth 100000
set_option maxHeartbeats 4000000
/-! Small words, loops that make lists of tuples. -/
namespace SV
open PySem PySem.Spec PyProof.Rows L2
/-! ### small words -/
theorem sz {xs : List V} {n : Nat} (h : xs.length = n) (hn : n ≤ 16000000) : xs.length ≤ sizeLine := by rw [h]; rw [sizeLine_eq]; omega
/-- steps of a reading that are plain -/
theorem itN {c : Prop} [Decidable c] {A B : Prop} (hc : ¬ c) (h : B) : if decide c = true then A else B := by
  rw [decide_eq_false hc]; exact iteF h
theorem itY {c : Prop} [Decidable c] {A B : Prop} (hc : c) (h : A) : if decide c = true then A else B := by
  rw [decide_eq_true hc]; exact iteT h
theorem itB {b : Bool} {A B : Prop} (h1 : b = true → A) (h2 : b = false → B) : if b = true then A else B := by
  cases b with
  | true => exact iteT (h1 rfl)
  | false => exact iteF (h2 rfl)
theorem itD {c : Prop} [Decidable c] {A B : Prop} (h1 : c → A) (h2 : ¬ c → B) : if decide c = true then A else B := by
  by_cases h : c
  · exact itY h (h1 h)
  · exact itN h (h2 h)
theorem hu16_of {A : Around} {k : Nat} (hr : Room k A) : A.units + 16 < cLine := by have := hr.units; omega
theorem hu1_of {A : Around} {k : Nat} (hr : Room k A) : A.units + 1 < cLine := by have := hr.units; omega
theorem _root_.L2.Same.none {H H' : Hp} {a : Addr} (s : Same H H') (h : H' a = Option.none) : H a = Option.none := by
  cases e : H a with
  | none => rfl
  | some u => rw [s _ _ e] at h; cases h
/-- tuples stay -/
def SameT (H H' : Hp) : Prop := ∀ a fs, H a = some (.tup fs) → H' a = some (.tup fs)
theorem _root_.L2.Same.t {H H' : Hp} (h : Same H H') : SameT H H' := fun a fs e => h a _ e
theorem SameT.trans {H H1 H2 : Hp} (a : SameT H H1) (b : SameT H1 H2) : SameT H H2 := fun c fs h => b c fs (a c fs h)
theorem SameT.lst {H : Hp} {D : Addr} {xs : List V} {o : HO} (h : H D = some (.lst xs)) : SameT H (upd H D o) := fun a fs e => by
  rw [upd_ne (ne_of e h (fun z => nomatch z))]; exact e
theorem SameT.dT {H : Hp} {D : Addr} {xs : List (List L2.Key × V)} {o : HO} (h : H D = some (.dT xs)) : SameT H (upd H D o) := fun a fs e => by
  rw [upd_ne (ne_of e h (fun z => nomatch z))]; exact e
theorem SameT.ins {H : Hp} {D C dx : Addr} {fs : List (Str × V)} {o : HO} (h : H D = some (.ins C dx fs)) : SameT H (upd H D o) := fun a gs e => by
  rw [upd_ne (ne_of e h (fun z => nomatch z))]; exact e
theorem Tp.monoT {H H' : Hp} {fs : List V} {v : V} (e : SameT H H') (h : Tp H fs v) : Tp H' fs v := let ⟨a, h1, h2⟩ := h; ⟨a, h1, e _ _ h2⟩
theorem Tps.monoT {α : Type} {H H' : Hp} {f : α → List V} {vs : List V} {xs : List α} (e : SameT H H') (h : Tps H f vs xs) : Tps H' f vs xs := L2.Paired.mapP h fun _ _ z => z.monoT e
theorem take_snoc {α : Type} {l : List α} {i : Nat} {x : α} (h : l[i]? = some x) : l.take (i + 1) = l.take i ++ [x] := by
  obtain ⟨hi, e⟩ := List.getElem?_eq_some_iff.mp h
  rw [List.take_succ_eq_append_getElem hi, e]
theorem lt_line {n m : Nat} (h : n < m) (hm : m ≤ 16000000) : n < sizeLine := by rw [sizeLine_eq]; omega
theorem le_line {n : Nat} (hm : n ≤ 16000000) : n ≤ sizeLine := by rw [sizeLine_eq]; omega
/-- one more item behind the list at D -/
theorem grow {α : Type} {H0 H : Hp} {D p : Addr} {acc : List V} {f : α → List V} {xs : List α} {x : α} (s : Same H0 H) (nD : H0 D = none) (hD : H D = some (.lst acc)) (hT : Tps H f acc xs) (np : H p = none) :
    (upd H p (.tup (f x))) D = some (.lst acc) ∧ Same H0 (upd (upd H p (.tup (f x))) D (.lst (acc ++ [.ref p]))) ∧ Tps (upd (upd H p (.tup (f x))) D (.lst (acc ++ [.ref p]))) f (acc ++ [.ref p]) (xs ++ [x]) := by
  have e1 : (upd H p (.tup (f x))) D = some (.lst acc) := by rw [upd_ne (ne_of_none hD np)]; exact hD
  refine ⟨e1, (s.trans (Same.new np)).mut nD, Tps.snoc (hT.monoT ((Same.new np).t.trans (SameT.lst e1))) ((Tp.of upd_same).monoT (SameT.lst e1))⟩
/-- .. where the item was made by a call -/
theorem grow' {α : Type} {H0 H H1 : Hp} {D : Addr} {v : V} {acc : List V} {f : α → List V} {xs : List α} {x : α} (s : Same H0 H) (nD : H0 D = none) (hD : H D = some (.lst acc)) (hT : Tps H f acc xs) (s1 : Same H H1) (hv : Tp H1 (f x) v) :
    H1 D = some (.lst acc) ∧ Same H0 (upd H1 D (.lst (acc ++ [v]))) ∧ Tps (upd H1 D (.lst (acc ++ [v]))) f (acc ++ [v]) (xs ++ [x]) := by
  have e1 := s1 _ _ hD
  exact ⟨e1, (s.trans s1).mut nD, Tps.snoc (hT.monoT (s1.t.trans (SameT.lst e1))) (hv.monoT (SameT.lst e1))⟩
/-- a new tuple -/
theorem tp_new {H : Hp} {p : Addr} {fs : List V} (np : H p = none) : Same H (upd H p (.tup fs)) ∧ Tp (upd H p (.tup fs)) fs (.ref p) := ⟨Same.new np, Tp.of upd_same⟩
theorem ty_lst {K : PySem.W.Frag} {H : Hp} {l : Addr} {xs : List V} (h : H l = some (.lst xs)) : tyV K "list" (.ref l) H := .inl ⟨rfl, xs, SqL.of h⟩
theorem none_of_upd {H : Hp} {p q : Addr} {o : HO} (h : (upd H p o) q = none) : H q = none := by
  by_cases e : q = p
  · subst e
    rw [upd_same] at h
    cases h
  · rw [upd_ne e] at h
    exact h
theorem Tps.drop {α : Type} {f : α → List V} {H : Hp} : ∀ {vs : List V} {xs : List α} (n : Nat), Tps H f vs xs → Tps H f (vs.drop n) (xs.drop n)
  | _, _, 0, h => h
  | _, _, _ + 1, .nil => .nil
  | _, _, n + 1, .cons _ t => Tps.drop n t
theorem Ls.push {α : Type} {f : α → List V} {H : Hp} {D : Addr} {acc : List V} {xs : List α} {x : α} {v : V} (hD : H D = some (.lst acc)) (hT : Tps H f acc xs) (hv : Tp H (f x) v) : Ls (upd H D (.lst (acc ++ [v]))) f D (xs ++ [x]) :=
  ⟨_, upd_same, Tps.snoc (hT.monoT (SameT.lst hD)) (hv.monoT (SameT.lst hD))⟩
/-- what is past the line i -/
theorem cut_from (xs : List V) (i : Nat) : cutV xs (some ((i : Nat) : Int)) none = xs.drop i := by
  have e : HT.sIx xs.length xs.length none = xs.length := rfl
  have e2 : HT.sIx xs.length 0 (some ((i : Nat) : Int)) = min i xs.length := by
    simp only [HT.sIx]
    split <;> omega
  unfold cutV
  rw [e, e2, List.take_of_length_le (by rw [List.length_drop]; omega)]
  by_cases h : i ≤ xs.length
  · rw [Nat.min_eq_left h]
  · rw [Nat.min_eq_right (by omega), List.drop_eq_nil_of_le (Nat.le_refl _), List.drop_eq_nil_of_le (by omega)]
/-! ### [e for x in xs]: a list of tuples -/
theorem lc_ls {α : Type} {J : It} {n : Nat} {g : TG} {te : TE} {vs : List Nat} {σ : L2.St} {H1 : Hp} {D : Addr} {Qd : Hp → Prop} (f : α → List V) (ys : List α) (hn : ys.length = n) (hz : n ≤ 16000000) (nD : H1 D = none)
    (hg : ∀ i H, i < n → Same H1 H → J.go i H) (ht : ∀ H, Same H1 H → J.stop n H)
    (hs : ∀ i y H, ys[i]? = some y → Same H1 H → ∀ N : V → Hp → Prop, (∀ v H', Same H H' → Tp H' (f y) v → N v H') → ∀ x H', J.yld i H x H' → g x (wipe σ vs) H' fun σ2 H2 => wipe σ2 vs = wipe σ vs ∧ te σ2 H2 N)
    (hd : ∀ H, Same H1 H → Ls H f D ys → Qd H) :
    ∃ W : Nat → Nat → Hp → Prop, (∃ m, W 0 m (upd H1 D (.lst []))) ∧ ∀ i m H, W i m H → (J.stop i H ∧ Qd H) ∨
      (J.go i H ∧ ∃ Nx : Hp → Prop, (∀ H', Nx H' → ∃ m', m' < m ∧ W (i + 1) m' H') ∧ ∀ x H', J.yld i H x H' → g x (wipe σ vs) H' fun σ2 H2 => wipe σ2 vs = wipe σ vs ∧ tYes σ2 H2 fun b H3 =>
        if b = true then te σ2 H3 fun y H4 => ∃ acc, H4 D = some (.lst acc) ∧ acc.length < sizeLine ∧ Nx (upd H4 D (.lst (acc ++ [y]))) else Nx H3) := by
  refine lc_n (n := n) (fun i H => Same H1 H ∧ ∃ acc, H D = some (.lst acc) ∧ Tps H f acc (ys.take i)) ⟨Same.new nD, [], upd_same, .nil⟩ (fun i H hi p => hg i H hi p.1) (fun H p => ht H p.1) (fun i H hi p x H' y => ?_) (fun H p => ?_)
  · obtain ⟨s, acc, hD, hT⟩ := p
    obtain ⟨y0, hy⟩ : ∃ y, ys[i]? = some y := ⟨_, List.getElem?_eq_getElem (by omega)⟩
    refine hs i y0 H hy s (fun y H4 => ∃ acc, H4 D = some (.lst acc) ∧ acc.length < sizeLine ∧ Same H1 (upd H4 D (.lst (acc ++ [y]))) ∧ ∃ acc', (upd H4 D (.lst (acc ++ [y]))) D = some (.lst acc') ∧ Tps (upd H4 D (.lst (acc ++ [y]))) f acc' (ys.take (i + 1))) (fun v H2 s1 hv => ?_) x H' y
    obtain ⟨g1, g2, g3⟩ := grow' (x := y0) s nD hD hT s1 hv
    refine ⟨acc, g1, ?_, g2, _, upd_same, ?_⟩
    · have := hT.length
      rw [List.length_take] at this
      exact lt_line (m := n) (by omega) hz
    · rw [take_snoc hy]
      exact g3
  · obtain ⟨s, acc, hD, hT⟩ := p
    rw [List.take_of_length_le (by omega)] at hT
    exact hd H s ⟨acc, hD, hT⟩
/-- .. over a tuple -/
theorem lc_tup {α : Type} {K : PySem.W.Frag} {a : Addr} {xs : List V} {g : TG} {te : TE} {vs : List Nat} {σ : L2.St} {H1 : Hp} {D : Addr} {Qd : Hp → Prop} (f : α → List V) (ys : List α) (hx : SqT K H1 a xs) (hn : ys.length = xs.length) (hz : xs.length ≤ 16000000) (nD : H1 D = none)
    (hs : ∀ (i : Nat) (x : V) (y : α) (H : Hp), xs[i]? = some x → ys[i]? = some y → Same H1 H → ∀ N : V → Hp → Prop, (∀ v H', Same H H' → Tp H' (f y) v → N v H') → g x (wipe σ vs) H fun σ2 H2 => wipe σ2 vs = wipe σ vs ∧ te σ2 H2 N)
    (hd : ∀ H, Same H1 H → Ls H f D ys → Qd H) :
    ∃ W : Nat → Nat → Hp → Prop, (∃ m, W 0 m (upd H1 D (.lst []))) ∧ ∀ i m H, W i m H → ((Itt K a).stop i H ∧ Qd H) ∨
      ((Itt K a).go i H ∧ ∃ Nx : Hp → Prop, (∀ H', Nx H' → ∃ m', m' < m ∧ W (i + 1) m' H') ∧ ∀ x H', (Itt K a).yld i H x H' → g x (wipe σ vs) H' fun σ2 H2 => wipe σ2 vs = wipe σ vs ∧ tYes σ2 H2 fun b H3 =>
        if b = true then te σ2 H3 fun y H4 => ∃ acc, H4 D = some (.lst acc) ∧ acc.length < sizeLine ∧ Nx (upd H4 D (.lst (acc ++ [y]))) else Nx H3) := by
  refine lc_ls f ys hn hz nD (fun i H hi s => ⟨xs, xs[i], same_sqt s hx, List.getElem?_eq_getElem hi⟩) (fun H s => ⟨xs, same_sqt s hx, Nat.le_refl _⟩) (fun i y H hy s N hN x H' e => ?_) hd
  obtain ⟨rfl, e⟩ := e
  exact hs i x y H' (e xs (same_sqt s hx)) hy s N hN
/-- .. over a list -/
theorem lc_lst {α : Type} {K : PySem.W.Frag} {a : Addr} {xs : List V} {g : TG} {te : TE} {vs : List Nat} {σ : L2.St} {H1 : Hp} {D : Addr} {Qd : Hp → Prop} (f : α → List V) (ys : List α) (hx : H1 a = some (.lst xs)) (hn : ys.length = xs.length) (hz : xs.length ≤ 16000000) (nD : H1 D = none)
    (hs : ∀ (i : Nat) (x : V) (y : α) (H : Hp), xs[i]? = some x → ys[i]? = some y → Same H1 H → ∀ N : V → Hp → Prop, (∀ v H', Same H H' → Tp H' (f y) v → N v H') → g x (wipe σ vs) H fun σ2 H2 => wipe σ2 vs = wipe σ vs ∧ te σ2 H2 N)
    (hd : ∀ H, Same H1 H → Ls H f D ys → Qd H) :
    ∃ W : Nat → Nat → Hp → Prop, (∃ m, W 0 m (upd H1 D (.lst []))) ∧ ∀ i m H, W i m H → ((Itl K a).stop i H ∧ Qd H) ∨
      ((Itl K a).go i H ∧ ∃ Nx : Hp → Prop, (∀ H', Nx H' → ∃ m', m' < m ∧ W (i + 1) m' H') ∧ ∀ x H', (Itl K a).yld i H x H' → g x (wipe σ vs) H' fun σ2 H2 => wipe σ2 vs = wipe σ vs ∧ tYes σ2 H2 fun b H3 =>
        if b = true then te σ2 H3 fun y H4 => ∃ acc, H4 D = some (.lst acc) ∧ acc.length < sizeLine ∧ Nx (upd H4 D (.lst (acc ++ [y]))) else Nx H3) := by
  refine lc_ls f ys hn hz nD (fun i H hi s => ⟨xs, xs[i], SqL.of (s _ _ hx), List.getElem?_eq_getElem hi⟩) (fun H s => ⟨xs, SqL.of (s _ _ hx), Nat.le_refl _⟩) (fun i y H hy s N hN x H' e => ?_) hd
  obtain ⟨rfl, e⟩ := e
  exact hs i x y H' (e xs (SqL.of (s _ _ hx))) hy s N hN
/-! ### data of scalars, their order -/
def dV : V → PyData
  | .int i => .int i
  | .str s => .str s
  | _ => .none
def encF {α : Type} (f : α → List V) (x : α) : PyData := .tuple ((f x).map dV)
/-- tuples of whole numbers and texts, and an order that Python's goes with -/
structure Dat {α : Type} (f : α → List V) (lt : α → α → Prop) : Prop where
  at_ : ∀ x, ∀ v ∈ f x, (∃ i, v = .int i) ∨ ∃ s, v = .str s
  ne : ∀ x, f x ≠ []
  al : ∀ x y, PySem.W.alikeAll ((f x).map dV) ((f y).map dV) = true
  lt_ : ∀ x y, lt x y → PySem.W.dataLt (encF f x) (encF f y) = true
theorem dpAll_dV {K : PySem.W.Frag} {H : Hp} : ∀ {vs : List V}, (∀ v ∈ vs, (∃ i, v = V.int i) ∨ ∃ s, v = V.str s) → DpAll K H vs (vs.map dV)
  | [], _ => .nil
  | v :: vs, h => by
    refine .cons ?_ (dpAll_dV fun u hu => h u (List.mem_cons_of_mem _ hu))
    rcases h v List.mem_cons_self with ⟨i, rfl⟩ | ⟨s, rfl⟩
    · exact .int i
    · exact .str s
theorem depth_dV : ∀ {vs : List V}, (∀ v ∈ vs, (∃ i, v = V.int i) ∨ ∃ s, v = V.str s) → PyData.depthAll (vs.map dV) ≤ 1
  | [], _ => by simp [PyData.depthAll]
  | v :: vs, h => by
    have := depth_dV (vs := vs) fun u hu => h u (List.mem_cons_of_mem _ hu)
    rcases h v List.mem_cons_self with ⟨i, rfl⟩ | ⟨s, rfl⟩ <;> simp [PyData.depthAll, PyData.depth, dV] <;> omega
theorem Dat.dp {α : Type} {f : α → List V} {lt : α → α → Prop} (D : Dat f lt) {K : PySem.W.Frag} {H : Hp} {v : V} {x : α} (h : Tp H (f x) v) : Dp K H v (encF f x) := by
  obtain ⟨a, rfl, h⟩ := h
  exact .tup (SqT.of h) (dpAll_dV (D.at_ x))
theorem Dat.depth {α : Type} {f : α → List V} {lt : α → α → Prop} (D : Dat f lt) (x : α) : (encF f x).depth ≤ 8 := by
  have := depth_dV (D.at_ x)
  simp only [encF, PyData.depth]
  omega
theorem zip_fst {α β : Type} : ∀ {as : List α} {bs : List β}, as.length = bs.length → (as.zip bs).map (·.1) = as
  | [], [], _ => rfl
  | a :: as, b :: bs, h => by
    rw [List.zip_cons_cons, List.map_cons, zip_fst (by simpa using h)]
  | [], _ :: _, h => by simp at h
  | _ :: _, [], h => by simp at h
theorem zip_snd {α β : Type} : ∀ {as : List α} {bs : List β}, as.length = bs.length → (as.zip bs).map (·.2) = bs
  | [], [], _ => rfl
  | a :: as, b :: bs, h => by
    rw [List.zip_cons_cons, List.map_cons, zip_snd (by simpa using h)]
  | [], _ :: _, h => by simp at h
  | _ :: _, [], h => by simp at h
theorem Tps.mem_zip {α : Type} {H : Hp} {f : α → List V} {vs : List V} {xs : List α} (h : Tps H f vs xs) : ∀ p ∈ vs.zip xs, Tp H (f p.2) p.1 := by
  induction h with
  | nil => intro p hp; cases hp
  | cons a _ ih =>
    intro p hp
    rw [List.zip_cons_cons] at hp
    rcases List.mem_cons.mp hp with rfl | hp
    · exact a
    · exact ih p hp
theorem Tps.of_pairs {α : Type} {H : Hp} {f : α → List V} : ∀ {l : List (V × α)}, (∀ p ∈ l, Tp H (f p.2) p.1) → Tps H f (l.map (·.1)) (l.map (·.2))
  | [], _ => .nil
  | p :: l, h => .cons (h p List.mem_cons_self) (Tps.of_pairs fun q hq => h q (List.mem_cons_of_mem _ hq))
theorem r_sort {α : Type} {f : α → List V} {lt : α → α → Prop} (D : Dat f lt) {K : PySem.W.Frag} {H : Hp} {a : Addr} {vs : List V} {xs : List α} {Q : VK} (ha : SqL K H a vs) (hT : Tps H f vs xs)
    (k : ∀ p ws ys, H p = none → ys.Perm xs → ys.Pairwise (fun p q => ¬ lt q p) → Tps H f ws ys → Q (.ref p) (upd H p (.lst ws))) : rSortedD K [.ref a] H Q := by
  have hl : vs.length = xs.length := hT.length
  have e1 : (vs.zip xs).map (·.1) = vs := zip_fst hl
  unfold rSortedD
  refine ⟨V × α, vs.zip xs, (·.1), fun b => encF f b.2, a, rfl, by rw [e1]; exact ha, fun b hb => D.dp (hT.mem_zip b hb), ?_, ?_, fun b _ => D.depth b.2, fun p np => ?_⟩
  · intro d hd e he
    obtain ⟨b, _, rfl⟩ := List.mem_map.mp hd
    obtain ⟨c, _, rfl⟩ := List.mem_map.mp he
    have := D.al b.2 c.2
    simp only [encF, PySem.W.alike]
    exact this
  · refine .inl fun d hd => ?_
    obtain ⟨b, _, rfl⟩ := List.mem_map.mp hd
    have := D.ne b.2
    cases e : f b.2 with
    | nil => exact absurd e this
    | cons x r => exact ⟨dV x, r.map dV, by simp only [encF, e, List.map_cons]⟩
  · have hp := List.mergeSort_perm (vs.zip xs) (PySem.W.dataLe false fun b : V × α => encF f b.2)
    have hw := PySem.W.sort_pairwise (PySem.W.sortLe_total (listOrd itemOrd) false fun b : V × α => PySem.W.keyToks (encF f b.2)) (vs.zip xs)
    refine k p _ (((vs.zip xs).mergeSort (PySem.W.dataLe false fun b : V × α => encF f b.2)).map (·.2)) np ?_ ?_ (Tps.of_pairs fun q hq => hT.mem_zip q (hp.mem_iff.mp hq))
    · have := hp.map (·.2)
      rw [zip_snd hl] at this
      exact this
    · rw [List.pairwise_map]
      refine List.Pairwise.imp (fun {p q} h hlt => ?_) hw
      have e2 : (!PySem.W.dataLt (encF f q.2) (encF f p.2)) = true := h
      rw [D.lt_ _ _ hlt] at e2
      cases e2
theorem lt_int_head {x x' : Int} {r r' : List PyData} (h : x < x' ∨ (x = x' ∧ PyProof.Rows.lexLt itemOrd (PySem.W.keyToksAll r) (PySem.W.keyToksAll r') = true)) :
    PyProof.Rows.lexLt itemOrd (PySem.W.keyToksAll (.int x :: r)) (PySem.W.keyToksAll (.int x' :: r')) = true := by
  rw [PySem.W.dataLt_cons (by simp [PySem.W.alike]), PySem.W.dataLt_int]
  simp only [PyData.eqv, beq_iff_eq]
  rcases h with h | ⟨rfl, h⟩
  · rw [if_neg (by omega)]
    exact decide_eq_true h
  · rw [if_pos rfl]
    exact h
theorem kS_lt {a b : Kd} (h : kn a < kn b) : (kS a).cps.toList < (kS b).cps.toList := by
  have z : ∀ a b : Kd, (!decide (kn a < kn b)) || decide ((kS a).cps.toList < (kS b).cps.toList) := by
    intro a b
    cases a <;> cases b <;> decide +kernel
  have := z a b
  rw [decide_eq_true h] at this
  simpa using this
theorem lt_str_head {a b : Kd} {r r' : List PyData} (h : kn a < kn b) :
    PyProof.Rows.lexLt itemOrd (PySem.W.keyToksAll (.str (kS a) :: r)) (PySem.W.keyToksAll (.str (kS b) :: r')) = true := by
  have hne : PyData.eqv (.str (kS a)) (.str (kS b)) = false := by
    simp only [PyData.eqv, beq_eq_false_iff_ne, ne_eq]
    intro e
    rw [kS_inj e] at h
    omega
  rw [PySem.W.dataLt_cons (by simp [PySem.W.alike]), PySem.W.dataLt_str, hne, if_neg Bool.false_ne_true]
  exact decide_eq_true (kS_lt h)
theorem dat_place : Dat placeV Lin.lt := by
  refine ⟨fun x v h => ?_, fun x h => (nomatch h), fun x y => by simp [placeV, dV, PySem.W.alikeAll, PySem.W.alike], fun x y h => ?_⟩
  · simp only [placeV, List.mem_cons, List.mem_nil_iff, or_false] at h
    rcases h with rfl | rfl
    · exact .inl ⟨_, rfl⟩
    · exact .inl ⟨_, rfl⟩
  · show PySem.W.dataLt (.tuple [.int x.1, .int x.2]) (.tuple [.int y.1, .int y.2]) = true
    rw [PySem.W.dataLt_tuple]
    rcases h with h | ⟨h1, h⟩
    · exact lt_int_head (.inl h)
    · exact lt_int_head (.inr ⟨h1, lt_int_head (.inl h)⟩)
theorem dat_spot : Dat spotV (fun p q => Lin.lt p.1 q.1) := by
  refine ⟨fun x v h => ?_, fun x h => (nomatch h), fun x y => by simp [spotV, dV, PySem.W.alikeAll, PySem.W.alike], fun x y h => ?_⟩
  · simp only [spotV, List.mem_cons, List.mem_nil_iff, or_false] at h
    rcases h with rfl | rfl | rfl
    · exact .inl ⟨_, rfl⟩
    · exact .inl ⟨_, rfl⟩
    · exact .inl ⟨_, rfl⟩
  · show PySem.W.dataLt (.tuple [.int x.1.1, .int x.1.2, .int x.2]) (.tuple [.int y.1.1, .int y.1.2, .int y.2]) = true
    rw [PySem.W.dataLt_tuple]
    rcases h with h | ⟨h1, h⟩
    · exact lt_int_head (.inl h)
    · exact lt_int_head (.inr ⟨h1, lt_int_head (.inl h)⟩)
theorem dat_cell : Dat cellV Lin.lt := by
  refine ⟨fun x v h => ?_, fun x h => (nomatch h), fun x y => by simp [cellV, dV, PySem.W.alikeAll, PySem.W.alike], fun x y h => ?_⟩
  · simp only [cellV, List.mem_cons, List.mem_nil_iff, or_false] at h
    rcases h with rfl | rfl | rfl
    · exact .inl ⟨_, rfl⟩
    · exact .inl ⟨_, rfl⟩
    · exact .inr ⟨_, rfl⟩
  · show PySem.W.dataLt (.tuple [.int x.1, .int x.2.1, .str (kS x.2.2)]) (.tuple [.int y.1, .int y.2.1, .str (kS y.2.2)]) = true
    rw [PySem.W.dataLt_tuple]
    rcases h with h | ⟨h1, h | ⟨h2, h⟩⟩
    · exact lt_int_head (.inl h)
    · exact lt_int_head (.inr ⟨h1, lt_int_head (.inl h)⟩)
    · exact lt_int_head (.inr ⟨h1, lt_int_head (.inr ⟨h2, lt_str_head h⟩)⟩)
theorem dat_row : Dat rowV (fun p q => Lin.lt p.1 q.1) := by
  refine ⟨fun x v h => ?_, fun x h => (nomatch h), fun x y => by simp [rowV, dV, PySem.W.alikeAll, PySem.W.alike], fun x y h => ?_⟩
  · simp only [rowV, List.mem_cons, List.mem_nil_iff, or_false] at h
    rcases h with rfl | rfl | rfl | rfl
    · exact .inl ⟨_, rfl⟩
    · exact .inl ⟨_, rfl⟩
    · exact .inr ⟨_, rfl⟩
    · exact .inl ⟨_, rfl⟩
  · show PySem.W.dataLt (.tuple [.int x.1.1, .int x.1.2.1, .str (kS x.1.2.2), .int x.2]) (.tuple [.int y.1.1, .int y.1.2.1, .str (kS y.1.2.2), .int y.2]) = true
    rw [PySem.W.dataLt_tuple]
    rcases h with h | ⟨h1, h | ⟨h2, h⟩⟩
    · exact lt_int_head (.inl h)
    · exact lt_int_head (.inr ⟨h1, lt_int_head (.inl h)⟩)
    · exact lt_int_head (.inr ⟨h1, lt_int_head (.inr ⟨h2, lt_str_head h⟩)⟩)
/-- rows, the ink last in the order too: ascending rows are less -/
theorem row_lt {x y : Row} (h : Lin.lt x.1 y.1) : PySem.W.dataLt (encF cellV x.1) (encF cellV y.1) = true := dat_cell.lt_ _ _ h
end SV
end

section
set_option Elab.async false
set_option linter.all false
set_option maxRecDepth 100000
set_option maxHeartbeats 4000000
/-! Dicts of inks. -/
namespace SV
open PySem PySem.Spec PyProof.Rows L2
section
variable {κ : Type} [DecidableEq κ]
/-- what a key of the dict says -/
structure KeyOf (f : κ → List V) (fk : κ → List L2.Key) : Prop where
  map : ∀ x, (fk x).map kV = f x
  inj : ∀ x y, fk x = fk y → x = y
def DtK (fk : κ → List L2.Key) (t : List (κ × Int)) : List (List L2.Key × V) := t.map fun p => (fk p.1, .int p.2)
variable {f : κ → List V} {fk : κ → List L2.Key} (KO : KeyOf f fk)
theorem dtK_length (t : List (κ × Int)) : (DtK fk t).length = t.length := by rw [DtK, List.length_map]
include KO in
theorem dt_val : ∀ {t : List (κ × Int)}, (t.map (·.1)).Nodup → ∀ k, valV (DtK fk t) (fk k) = if k ∈ t.map (·.1) then some (.int (coef t k)) else none
  | [], _, k => by simp [DtK, valV_nil]
  | (a, j) :: r, h, k => by
    rw [List.map_cons, List.nodup_cons] at h
    by_cases e : a = k
    · subst e
      have e0 : coef r a = 0 := coef_none fun p hp e => h.1 (List.mem_map.mpr ⟨p, hp, e⟩)
      rw [if_pos (by simp)]
      show valV ((fk a, V.int j) :: DtK fk r) (fk a) = _
      rw [valV_pos rfl, coef_cons, e0]
      simp
    · show valV ((fk a, V.int j) :: DtK fk r) (fk k) = _
      rw [valV_neg (fun z => e (KO.inj _ _ z)), dt_val h.2 k, coef_cons]
      have em : (k ∈ ((a, j) :: r).map (·.1)) ↔ k ∈ r.map (·.1) := by
        rw [List.map_cons, List.mem_cons]
        exact ⟨fun z => z.elim (fun z => absurd z.symm e) id, .inr⟩
      by_cases hm : k ∈ r.map (·.1)
      · rw [if_pos hm, if_pos (em.mpr hm), if_neg e, Int.zero_add]
      · rw [if_neg hm, if_neg (fun z => hm (em.mp z))]
include KO in
theorem dt_get {t : List (κ × Int)} (h : (t.map (·.1)).Nodup) (k : κ) : (valV (DtK fk t) (fk k)).getD (.int 0) = .int (coef t k) := by
  rw [dt_val KO h]
  split
  · rfl
  · rename_i hm
    rw [coef_none (fun p hp e => hm (List.mem_map.mpr ⟨p, hp, e⟩))]
    rfl
include KO in
theorem dt_at {t : List (κ × Int)} (h : (t.map (·.1)).Nodup) {p : κ × Int} (hp : p ∈ t) : valV (DtK fk t) (fk p.1) = some (.int p.2) := by
  rw [dt_val KO h, if_pos (List.mem_map.mpr ⟨p, hp, rfl⟩), coef_nodup h hp]
theorem bump_new : ∀ {t : List (κ × Int)} {k : κ} {i : Int}, k ∉ t.map (·.1) → bump t k i = t ++ [(k, i)]
  | [], _, _, _ => rfl
  | (a, j) :: r, k, i, h => by
    rw [List.map_cons, List.mem_cons] at h
    show (if a = k then (a, j + i) :: r else (a, j) :: bump r k i) = _
    rw [if_neg (fun e => h (.inl e.symm)), bump_new (fun z => h (.inr z))]
    rfl
include KO in
theorem dt_put_new {t : List (κ × Int)} {k : κ} {v : V} (h : k ∉ t.map (·.1)) : putK (DtK fk t) (fk k) v = DtK fk t ++ [(fk k, v)] := by
  unfold putK
  rw [if_neg]
  rw [List.any_eq_true]
  rintro ⟨x, hx, e⟩
  obtain ⟨p, hp, rfl⟩ := List.mem_map.mp hx
  exact h (List.mem_map.mpr ⟨p, hp, KO.inj _ _ (of_decide_eq_true e)⟩)
include KO in
theorem dt_put {t : List (κ × Int)} (h : (t.map (·.1)).Nodup) (k : κ) (i : Int) : putK (DtK fk t) (fk k) (.int (coef t k + i)) = DtK fk (bump t k i) := by
  by_cases hm : k ∈ t.map (·.1)
  · unfold putK
    have ha : ((DtK fk t).any fun kv => decide (kv.1 = fk k)) = true := by
      obtain ⟨p, hp, rfl⟩ := List.mem_map.mp hm
      exact List.any_eq_true.mpr ⟨_, List.mem_map.mpr ⟨p, hp, rfl⟩, decide_eq_true rfl⟩
    rw [if_pos ha]
    clear ha
    induction t with
    | nil => cases hm
    | cons q r ih =>
      obtain ⟨a, j⟩ := q
      rw [List.map_cons, List.nodup_cons] at h
      show (if fk a = fk k then (fk a, V.int (coef ((a, j) :: r) k + i)) else (fk a, V.int j)) :: (DtK fk r).map _ = DtK fk (if a = k then (a, j + i) :: r else (a, j) :: bump r k i)
      by_cases e : a = k
      · subst e
        have e0 : coef r a = 0 := coef_none fun p hp e => h.1 (List.mem_map.mpr ⟨p, hp, e⟩)
        rw [if_pos rfl, if_pos rfl, coef_cons, if_pos rfl, e0]
        show _ = (fk a, V.int (j + i)) :: DtK fk r
        congr 1
        · simp
        · conv => rhs; rw [← List.map_id (DtK fk r)]
          apply List.map_congr_left
          intro x hx
          obtain ⟨p, hp, rfl⟩ := List.mem_map.mp hx
          have : ¬ fk p.1 = fk a := fun e => h.1 (List.mem_map.mpr ⟨p, hp, KO.inj _ _ e⟩)
          simp [this]
      · rw [if_neg e, if_neg (fun z => e (KO.inj _ _ z)), coef_cons, if_neg e, Int.zero_add]
        have hm2 : k ∈ r.map (·.1) := by
          rcases List.mem_cons.mp hm with z | z
          · exact absurd z.symm e
          · exact z
        rw [ih h.2 hm2]
        rfl
  · rw [dt_put_new KO hm, bump_new hm, coef_none (fun p hp e => hm (List.mem_map.mpr ⟨p, hp, e⟩)), Int.zero_add]
    simp [DtK]
theorem tally_snoc {l : List (κ × Int)} {i : Nat} {p : κ × Int} (h : l[i]? = some p) : tally (l.take (i + 1)) = bump (tally (l.take i)) p.1 p.2 := by
  rw [take_snoc h]
  unfold tally
  rw [List.foldl_append]
  rfl
/-! ### sorted(d) -/
theorem kD_dV : ∀ k : List L2.Key, k.map kD = (k.map kV).map dV
  | [] => rfl
  | .inl _ :: r => by rw [List.map_cons, List.map_cons, List.map_cons, kD_dV r]; rfl
  | .inr _ :: r => by rw [List.map_cons, List.map_cons, List.map_cons, kD_dV r]; rfl
include KO in
theorem r_sortT {lt : κ → κ → Prop} (D : Dat f lt) {H : Hp} {d : Addr} {t : List (κ × Int)} {Q : VK} (hd : H d = some (.dT (DtK fk t)))
    (k : ∀ p ws ys, H p = none → ys.Perm t → ys.Pairwise (fun p q => ¬ lt q.1 p.1) → Tps H (fun p : κ × Int => f p.1) ws ys → Q (.ref p) (upd H p (.lst ws))) : rSortedT [.ref d] H Q := by
  have eK : ∀ p : κ × Int, encK (fk p.1) = encF f p.1 := fun p => by unfold encK encF; rw [kD_dV, KO.map]
  have eM : (DtK fk t).map (fun p => encK p.1) = t.map fun p => encF f p.1 := by
    unfold DtK
    rw [List.map_map]
    exact List.map_congr_left fun p _ => eK p
  unfold rSortedT
  refine ⟨d, DtK fk t, rfl, .inl hd, ?_, ?_, fun p hp => ?_, fun p bs np ik => ?_⟩
  · rw [eM]
    intro x hx y hy
    obtain ⟨b, _, rfl⟩ := List.mem_map.mp hx
    obtain ⟨c, _, rfl⟩ := List.mem_map.mp hy
    have := D.al b.1 c.1
    simp only [encF, PySem.W.alike]
    exact this
  · rw [eM]
    refine .inl fun d hd => ?_
    obtain ⟨b, _, rfl⟩ := List.mem_map.mp hd
    have := D.ne b.1
    cases e : f b.1 with
    | nil => exact absurd e this
    | cons x r => exact ⟨dV x, r.map dV, by simp only [encF, e, List.map_cons]⟩
  · obtain ⟨q, _, rfl⟩ := List.mem_map.mp hp
    rw [eK]
    exact D.depth q.1
  · have lb : bs.length = (DtK fk t).length := (Paired.length ik).symm
    have lb2 : bs.length = t.length := by rw [lb, dtK_length]
    have hmem := isKeys_mem ik
    -- the places of the sorted keys, with what they say
    have ez : bs.zip (DtK fk t) = (bs.zip t).map fun q => (q.1, (fk q.2.1, V.int q.2.2)) := by
      unfold DtK
      rw [List.zip_map_right]
      rfl
    have es : (bs.zip (DtK fk t)).mergeSort (PySem.W.dataLe false fun q => encK q.2.1) = ((bs.zip t).mergeSort (PySem.W.dataLe false fun q => encF f q.2.1)).map fun q => (q.1, (fk q.2.1, V.int q.2.2)) := by
      rw [ez]
      symm
      refine List.map_mergeSort fun a _ b _ => ?_
      show PySem.W.dataLe false (fun q : Addr × κ × Int => encF f q.2.1) a b = (!PySem.W.dataLt (encK (fk b.2.1)) (encK (fk a.2.1)))
      rw [eK a.2, eK b.2]
      rfl
    have hp := List.mergeSort_perm (bs.zip t) (PySem.W.dataLe false fun q : Addr × κ × Int => encF f q.2.1)
    have hw := PySem.W.sort_pairwise (PySem.W.sortLe_total (listOrd itemOrd) false fun q : Addr × κ × Int => PySem.W.keyToks (encF f q.2.1)) (bs.zip t)
    have em : ((bs.zip (DtK fk t)).mergeSort (PySem.W.dataLe false fun q => encK q.2.1)).map (fun q => V.ref q.1) = ((bs.zip t).mergeSort (PySem.W.dataLe false fun q => encF f q.2.1)).map fun q => V.ref q.1 := by
      rw [es, List.map_map]
      rfl
    rw [em]
    refine k p _ (((bs.zip t).mergeSort (PySem.W.dataLe false fun q => encF f q.2.1)).map (·.2)) np ?_ ?_ ?_
    · have := hp.map (·.2)
      rw [zip_snd lb2] at this
      exact this
    · rw [List.pairwise_map]
      refine List.Pairwise.imp (fun {p q} h hlt => ?_) hw
      have e2 : (!PySem.W.dataLt (encF f q.2.1) (encF f p.2.1)) = true := h
      rw [D.lt_ _ _ hlt] at e2
      cases e2
    · have : ∀ q ∈ (bs.zip t).mergeSort (PySem.W.dataLe false fun q => encF f q.2.1), Tp H (f q.2.1) (V.ref q.1) := fun q hq => by
        have hq2 := hp.mem_iff.mp hq
        have : (q.1, (fk q.2.1, V.int q.2.2)) ∈ bs.zip (DtK fk t) := by rw [ez]; exact List.mem_map.mpr ⟨q, hq2, rfl⟩
        have h3 := hmem _ this
        exact ⟨q.1, rfl, by rw [h3, KO.map]⟩
      generalize (bs.zip t).mergeSort (PySem.W.dataLe false fun q => encF f q.2.1) = l at this
      induction l with
      | nil => exact .nil
      | cons a l ih => exact .cons (this a List.mem_cons_self) (ih fun q hq => this q (List.mem_cons_of_mem _ hq))
end
def placeK (p : Place) : List L2.Key := [.inl p.1, .inl p.2]
def cellK (c : Cell) : List L2.Key := [.inl c.1, .inl c.2.1, .inr (kS c.2.2)]
theorem ko_place : KeyOf placeV placeK := ⟨fun _ => rfl, fun x y h => by
  simp only [placeK, List.cons.injEq, Sum.inl.injEq, and_true] at h
  exact Prod.ext h.1 h.2⟩
theorem ko_cell : KeyOf cellV cellK := ⟨fun _ => rfl, fun x y h => by
  simp only [cellK, List.cons.injEq, Sum.inl.injEq, Sum.inr.injEq, and_true] at h
  exact Prod.ext h.1 (Prod.ext h.2.1 (kS_inj h.2.2))⟩
theorem ne0 (i : Int) : (!decide (V.int i = V.int 0)) = decide (i ≠ 0) := by by_cases h : i = 0 <;> simp [h]
/-- inks[k], k there -/
theorem dget_at {κ : Type} [DecidableEq κ] {f : κ → List V} {fk : κ → List L2.Key} (KO : KeyOf f fk) {H : Hp} {D a : Addr} {t : List (κ × Int)} (nd : (t.map (·.1)).Nodup) (hD : H D = some (.dT (DtK fk t))) {p : κ × Int} (hp : p ∈ t) (ha : H a = some (.tup (f p.1))) : DGet H D (.ref a) (some (.int p.2)) := by
  rw [← dt_at KO nd hp]
  exact DGet.t (k := fk p.1) hD (by rw [KO.map]; exact ha)
theorem dget_coef {κ : Type} [DecidableEq κ] {f : κ → List V} {fk : κ → List L2.Key} (KO : KeyOf f fk) {H : Hp} {D a : Addr} {t : List (κ × Int)} {k : κ} (hD : H D = some (.dT (DtK fk t))) (ha : H a = some (.tup (f k))) : DGet H D (.ref a) (valV (DtK fk t) (fk k)) :=
  DGet.t (k := fk k) hD (by rw [KO.map]; exact ha)
theorem dput_bump {κ : Type} [DecidableEq κ] {f : κ → List V} {fk : κ → List L2.Key} (KO : KeyOf f fk) {H : Hp} {D a : Addr} {t : List (κ × Int)} (nd : (t.map (·.1)).Nodup) {k : κ} {i : Int} (hD : H D = some (.dT (DtK fk t))) (ha : H a = some (.tup (f k))) (hz : t.length < 16000000) : DPut H D (.ref a) (.int (coef t k + i)) (upd H D (.dT (DtK fk (bump t k i)))) := by
  rw [← dt_put KO nd]
  exact DPut.t (k := fk k) hD (by rw [KO.map]; exact ha) (by rw [dtK_length]; exact lt_line hz (Nat.le_refl _))
/-! ### {k: v for ..}: a dict of inks -/
theorem dc_dt {κ : Type} [DecidableEq κ] {f : κ → List V} {fk : κ → List L2.Key} (KO : KeyOf f fk) {J : It} {n : Nat} {g : TG} {tk tv : TE} {vs : List Nat} {σ : L2.St} {H1 : Hp} {D : Addr} {Qd : Hp → Prop} (ys : List (κ × Int)) (nd : (ys.map (·.1)).Nodup) (hn : ys.length = n) (hz : n ≤ 16000000) (nD : H1 D = none)
    (hg : ∀ i H, i < n → Same H1 H → J.go i H) (ht : ∀ H, Same H1 H → J.stop n H)
    (hs : ∀ (i : Nat) (y : κ × Int) (H : Hp), ys[i]? = some y → Same H1 H → ∀ N : V → V → Hp → Prop, (∀ u v H', Same H H' → Tp H' (f y.1) u → v = .int y.2 → N u v H') → ∀ x H', J.yld i H x H' → g x (wipe σ vs) H' fun σ2 H2 => wipe σ2 vs = wipe σ vs ∧ tk σ2 H2 fun u H3 => tv σ2 H3 fun v H4 => N u v H4)
    (hd : ∀ H, Same H1 H → H D = some (.dT (DtK fk ys)) → Qd H) :
    ∃ W : Nat → Nat → Hp → Prop, (∃ m, W 0 m (upd H1 D (.dT []))) ∧ ∀ i m H, W i m H → (J.stop i H ∧ Qd H) ∨
      (J.go i H ∧ ∃ Nx : Hp → Prop, (∀ H', Nx H' → ∃ m', m' < m ∧ W (i + 1) m' H') ∧ ∀ x H', J.yld i H x H' → g x (wipe σ vs) H' fun σ2 H2 => wipe σ2 vs = wipe σ vs ∧ tYes σ2 H2 fun b H3 =>
        if b = true then tk σ2 H3 fun y H4 => tv σ2 H4 fun z H5 => ∃ (kvs : List (List L2.Key × V)) (k : List L2.Key) (b : Addr), y = .ref b ∧ H5 b = some (.tup (k.map kV)) ∧ H5 D = some (.dT kvs) ∧ kvs.length < sizeLine ∧ Nx (upd H5 D (.dT (putK kvs k z)))
        else Nx H3) := by
  refine dcT_n (n := n) (fun i H => Same H1 H ∧ H D = some (.dT (DtK fk (ys.take i)))) ⟨Same.new nD, upd_same⟩ (fun i H hi p => hg i H hi p.1) (fun H p => ht H p.1) (fun i H hi p x H' y => ?_) (fun H p => ?_)
  · obtain ⟨s, hD⟩ := p
    obtain ⟨y0, hy⟩ : ∃ y, ys[i]? = some y := ⟨_, List.getElem?_eq_getElem (by omega)⟩
    refine hs i y0 H hy s _ (fun u v H2 s1 hu hv => ?_) x H' y
    subst hv
    obtain ⟨b, rfl, hb⟩ := hu
    have e1 := s1 _ _ hD
    refine ⟨_, fk y0.1, b, rfl, by rw [KO.map]; exact hb, e1, ?_, (s.trans s1).mut nD, ?_⟩
    · rw [dtK_length, List.length_take]
      exact lt_line (m := n) (by omega) hz
    · rw [upd_same]
      have hne : y0.1 ∉ (ys.take i).map (·.1) := by
        have h2 := take_snoc hy
        have h3 : ((ys.take (i + 1)).map (·.1)).Nodup := List.Nodup.sublist (List.Sublist.map _ (List.take_sublist _ _)) nd
        rw [h2, List.map_append, List.nodup_append] at h3
        intro hm
        exact h3.2.2 _ hm _ (by simp) rfl
      rw [dt_put_new KO hne, take_snoc hy]
      simp [DtK]
  · obtain ⟨s, hD⟩ := p
    rw [List.take_of_length_le (by omega)] at hD
    exact hd H s hD
theorem take_filter {α : Type} {l : List α} {i : Nat} {x : α} (b : α → Bool) (h : l[i]? = some x) : (l.take (i + 1)).filter b = (l.take i).filter b ++ if b x = true then [x] else [] := by
  rw [take_snoc h, List.filter_append]
  cases e : b x <;> simp [e]
/-- [e for x in xs if t]: a list of tuples -/
theorem lc_lsF {α : Type} {J : It} {n : Nat} {g : TG} {tt : TT} {te : TE} {vs : List Nat} {σ : L2.St} {H1 : Hp} {D : Addr} {Qd : Hp → Prop} (f : α → List V) (b : α → Bool) (ys : List α) (hn : ys.length = n) (hz : n ≤ 16000000) (nD : H1 D = none)
    (hg : ∀ i H, i < n → Same H1 H → J.go i H) (ht : ∀ H, Same H1 H → J.stop n H)
    (hs : ∀ (i : Nat) (y : α) (H : Hp), ys[i]? = some y → Same H1 H → ∀ (N : V → Hp → Prop) (M : Hp → Prop), (b y = true → ∀ v H', Same H H' → Tp H' (f y) v → N v H') → (b y = false → ∀ H', Same H H' → M H') →
      ∀ x H', J.yld i H x H' → g x (wipe σ vs) H' fun σ2 H2 => wipe σ2 vs = wipe σ vs ∧ tt σ2 H2 fun c H3 => if c = true then te σ2 H3 N else M H3)
    (hd : ∀ H, Same H1 H → Ls H f D (ys.filter b) → Qd H) :
    ∃ W : Nat → Nat → Hp → Prop, (∃ m, W 0 m (upd H1 D (.lst []))) ∧ ∀ i m H, W i m H → (J.stop i H ∧ Qd H) ∨
      (J.go i H ∧ ∃ Nx : Hp → Prop, (∀ H', Nx H' → ∃ m', m' < m ∧ W (i + 1) m' H') ∧ ∀ x H', J.yld i H x H' → g x (wipe σ vs) H' fun σ2 H2 => wipe σ2 vs = wipe σ vs ∧ tt σ2 H2 fun b H3 =>
        if b = true then te σ2 H3 fun y H4 => ∃ acc, H4 D = some (.lst acc) ∧ acc.length < sizeLine ∧ Nx (upd H4 D (.lst (acc ++ [y]))) else Nx H3) := by
  refine lc_n (n := n) (fun i H => Same H1 H ∧ ∃ acc, H D = some (.lst acc) ∧ Tps H f acc ((ys.take i).filter b)) ⟨Same.new nD, [], upd_same, .nil⟩ (fun i H hi p => hg i H hi p.1) (fun H p => ht H p.1) (fun i H hi p x H' y => ?_) (fun H p => ?_)
  · obtain ⟨s, acc, hD, hT⟩ := p
    obtain ⟨y0, hy⟩ : ∃ y, ys[i]? = some y := ⟨_, List.getElem?_eq_getElem (by omega)⟩
    refine hs i y0 H hy s _ _ (fun hb v H2 s1 hv => ?_) (fun hb H2 s1 => ?_) x H' y
    · obtain ⟨g1, g2, g3⟩ := grow' (x := y0) s nD hD hT s1 hv
      refine ⟨acc, g1, ?_, g2, _, upd_same, ?_⟩
      · have := hT.length
        have h2 := List.length_filter_le b (ys.take i)
        rw [List.length_take] at h2
        exact lt_line (m := n) (by omega) hz
      · rw [take_filter b hy, hb]
        exact g3
    · refine ⟨s.trans s1, acc, s1 _ _ hD, ?_⟩
      rw [take_filter b hy, hb]
      simp only [Bool.false_eq_true, if_false, List.append_nil]
      exact hT.mono s1
  · obtain ⟨s, acc, hD, hT⟩ := p
    rw [List.take_of_length_le (by omega)] at hT
    exact hd H s ⟨acc, hD, hT⟩
/-- {k: v for .. if t} -/
theorem dc_dtF {κ : Type} [DecidableEq κ] {f : κ → List V} {fk : κ → List L2.Key} (KO : KeyOf f fk) {J : It} {n : Nat} {g : TG} {tt : TT} {tk tv : TE} {vs : List Nat} {σ : L2.St} {H1 : Hp} {D : Addr} {Qd : Hp → Prop} (b : κ × Int → Bool) (ys : List (κ × Int)) (nd : (ys.map (·.1)).Nodup) (hn : ys.length = n) (hz : n ≤ 16000000) (nD : H1 D = none)
    (hg : ∀ i H, i < n → Same H1 H → J.go i H) (ht : ∀ H, Same H1 H → J.stop n H)
    (hs : ∀ (i : Nat) (y : κ × Int) (H : Hp), ys[i]? = some y → Same H1 H → ∀ (N : V → V → Hp → Prop) (M : Hp → Prop), (b y = true → ∀ u v H', Same H H' → Tp H' (f y.1) u → v = .int y.2 → N u v H') → (b y = false → ∀ H', Same H H' → M H') →
      ∀ x H', J.yld i H x H' → g x (wipe σ vs) H' fun σ2 H2 => wipe σ2 vs = wipe σ vs ∧ tt σ2 H2 fun c H3 => if c = true then tk σ2 H3 fun u H3 => tv σ2 H3 fun v H4 => N u v H4 else M H3)
    (hd : ∀ H, Same H1 H → H D = some (.dT (DtK fk (ys.filter b))) → Qd H) :
    ∃ W : Nat → Nat → Hp → Prop, (∃ m, W 0 m (upd H1 D (.dT []))) ∧ ∀ i m H, W i m H → (J.stop i H ∧ Qd H) ∨
      (J.go i H ∧ ∃ Nx : Hp → Prop, (∀ H', Nx H' → ∃ m', m' < m ∧ W (i + 1) m' H') ∧ ∀ x H', J.yld i H x H' → g x (wipe σ vs) H' fun σ2 H2 => wipe σ2 vs = wipe σ vs ∧ tt σ2 H2 fun b H3 =>
        if b = true then tk σ2 H3 fun y H4 => tv σ2 H4 fun z H5 => ∃ (kvs : List (List L2.Key × V)) (k : List L2.Key) (b : Addr), y = .ref b ∧ H5 b = some (.tup (k.map kV)) ∧ H5 D = some (.dT kvs) ∧ kvs.length < sizeLine ∧ Nx (upd H5 D (.dT (putK kvs k z)))
        else Nx H3) := by
  refine dcT_n (n := n) (fun i H => Same H1 H ∧ H D = some (.dT (DtK fk ((ys.take i).filter b)))) ⟨Same.new nD, upd_same⟩ (fun i H hi p => hg i H hi p.1) (fun H p => ht H p.1) (fun i H hi p x H' y => ?_) (fun H p => ?_)
  · obtain ⟨s, hD⟩ := p
    obtain ⟨y0, hy⟩ : ∃ y, ys[i]? = some y := ⟨_, List.getElem?_eq_getElem (by omega)⟩
    refine hs i y0 H hy s _ _ (fun hb u v H2 s1 hu hv => ?_) (fun hb H2 s1 => ?_) x H' y
    · subst hv
      obtain ⟨b', rfl, hb'⟩ := hu
      have e1 := s1 _ _ hD
      refine ⟨_, fk y0.1, b', rfl, by rw [KO.map]; exact hb', e1, ?_, (s.trans s1).mut nD, ?_⟩
      · have h2 := List.length_filter_le b (ys.take i)
        rw [List.length_take] at h2
        rw [dtK_length]
        exact lt_line (m := n) (by omega) hz
      · rw [upd_same]
        have hne : y0.1 ∉ ((ys.take i).filter b).map (·.1) := by
          have h2 := take_snoc hy
          have h3 : ((ys.take (i + 1)).map (·.1)).Nodup := List.Nodup.sublist (List.Sublist.map _ (List.take_sublist _ _)) nd
          rw [h2, List.map_append, List.nodup_append] at h3
          intro hm
          obtain ⟨q, hq, e⟩ := List.mem_map.mp hm
          exact h3.2.2 _ (List.mem_map.mpr ⟨q, (List.mem_filter.mp hq).1, e⟩) _ (by simp) rfl
        rw [dt_put_new KO hne, take_filter b hy, hb]
        simp [DtK]
    · refine ⟨s.trans s1, ?_⟩
      rw [s1 _ _ hD, take_filter b hy, hb]
      simp
  · obtain ⟨s, hD⟩ := p
    rw [List.take_of_length_le (by omega)] at hD
    exact hd H s hD
theorem isD_t {H : Hp} {a : Addr} {kvs : List (List L2.Key × V)} (h : H a = some (.dT kvs)) : IsD H a := by first | exact .inr ⟨_, h⟩ | exact .inr ⟨_, .inl h⟩
/-- a list of the same keys' tuples over a list in hand -/
theorem canon_filter {κ : Type} [DecidableEq κ] [Lin κ] {l ys : List (κ × Int)} (hp : ys.Perm (tally l)) (hs : ys.Pairwise fun p q => ¬ Lin.lt q.1 p.1) : Canon l (ys.filter fun p => decide (p.2 ≠ 0)) :=
  Canon.of_perm (hp.filter _) (hs.sublist List.filter_sublist)
/-! ### a walk over a list or a tuple; what is locked -/
def SeqAt (H : Hp) (l : Addr) (vs : List V) : Prop := H l = some (.lst vs) ∨ H l = some (.tup vs)
theorem SeqAt.mono {H H' : Hp} {l : Addr} {vs : List V} (e : Same H H') (h : SeqAt H l vs) : SeqAt H' l vs := h.imp (e _ _) (e _ _)
/-- a list or a tuple of such -/
def Sq {α : Type} (H : Hp) (f : α → List V) (l : Addr) (xs : List α) : Prop := ∃ vs, SeqAt H l vs ∧ Tps H f vs xs
theorem Ls.sq {α : Type} {H : Hp} {f : α → List V} {l : Addr} {xs : List α} (h : Ls H f l xs) : Sq H f l xs := let ⟨vs, h1, h2⟩ := h; ⟨vs, .inl h1, h2⟩
theorem for_seq {K : PySem.W.Frag} {j : Nat} {l : Addr} {vs : List V} {g : TG} {tb : TS} {D : Ends} {σ : L2.St} {H : Hp} (hv : σ[j]? = some (some (.ref l))) (hs : SeqAt H l vs) (Pv : Nat → L2.St → Hp → Prop) (h0 : Pv 0 σ H) (hl : ∀ i σ G, Pv i σ G → ∀ u, H l = some u → G l = some u)
    (st : ∀ i x σ G, vs[i]? = some x → Pv i σ G → g x σ G fun σ2 H2 => tb { D with nx := Pv (i + 1), ct := Pv (i + 1), bk := D.nx } σ2 H2) (hd : ∀ σ G, Pv vs.length σ G → D.nx σ G) :
    tFor (fun σ H R => iList K (tVar j) σ H R ∨ iTup K (tVar j) σ H R) g tb D σ H := by
  rcases hs with h | h
  · exact .inl ⟨.ref l, hv, l, rfl, ⟨vs, SqL.of h⟩, for_list Pv h0 (fun i σ G _ p => SqL.of (hl i σ G p _ h)) st hd⟩
  · exact .inr ⟨.ref l, hv, l, rfl, ⟨vs, .inl (.inl h)⟩, for_tup Pv h0 (fun i σ G _ p => .inl (.inl (hl i σ G p _ h))) st hd⟩
theorem SeqAt.stays {H0 H G : Hp} {l : Addr} {vs : List V} (hl : SeqAt H0 l vs) (s0 : Same H0 H) (s : Same H0 G) : ∀ u, H l = some u → G l = some u := fun u e => by
  rcases hl with h | h <;> · rw [s0 _ _ h] at e; rw [s _ _ h]; exact e
theorem mut_dT {kvs : List (List L2.Key × V)} : Mut (some (.dT kvs)) := True.intro
theorem same_unlock {H H' : Hp} {d : Addr} {u fz : HO} (hd : H d = some u) (s : Same (upd H d fz) H') : Same H (upd H' d u) := fun a v e => by
  by_cases h : a = d
  · subst h
    rw [hd] at e
    rw [upd_same]
    exact e
  · rw [upd_ne h]
    exact s _ _ (by rw [upd_ne h]; exact e)
theorem sameT_lock {H : Hp} {d : Addr} {kvs : List (List L2.Key × V)} {o : HO} (h : H d = some (.dT kvs)) : SameT H (upd H d o) := SameT.dT h
end SV
end

section
set_option Elab.async false
set_option linter.all false
set_option maxRecDepth 100000
set_option maxHeartbeats 4000000
/-! The defs of cells: each keeps its promise. -/
namespace SV
open PySem PySem.Spec PyProof.Rows L2
section
variable {P : Program} {w : World} {K : PySem.W.Frag} {mg : Str → Option Value} {base : Heap} {f : Addr} {fd : FuncData}
/- check_view -/
abbrev N_check_view : List Str := ["view"]
abbrev P_check_view : List Str := ["view"]
theorem sc_check_view : FnScope N_check_view P_check_view (defScope s_check_view) := ⟨rfl, rfl, rfl, by decide +kernel, rfl, by decide +kernel, by decide +kernel⟩
/- check_kind -/
abbrev N_check_kind : List Str := ["cell"]
abbrev P_check_kind : List Str := ["cell"]
theorem sc_check_kind : FnScope N_check_kind P_check_kind (defScope s_check_kind) := ⟨rfl, rfl, rfl, by decide +kernel, rfl, by decide +kernel, by decide +kernel⟩
/- height -/
abbrev N_height : List Str := ["view", "place", "across", "up"]
abbrev P_height : List Str := ["view", "place"]
theorem sc_height : FnScope N_height P_height (defScope s_height) := ⟨rfl, rfl, rfl, by decide +kernel, rfl, by decide +kernel, by decide +kernel⟩
/- sign_of -/
abbrev N_sign_of : List Str := ["cell"]
abbrev P_sign_of : List Str := ["cell"]
theorem sc_sign_of : FnScope N_sign_of P_sign_of (defScope s_sign_of) := ⟨rfl, rfl, rfl, by decide +kernel, rfl, by decide +kernel, by decide +kernel⟩
/- corners_of -/
abbrev N_corners_of : List Str := ["cell", "x", "y", "kind", "dx", "dy"]
abbrev P_corners_of : List Str := ["cell"]
theorem sc_corners_of : FnScope N_corners_of P_corners_of (defScope s_corners_of) := ⟨rfl, rfl, rfl, by decide +kernel, rfl, by decide +kernel, by decide +kernel⟩
/- cell_with -/
abbrev N_cell_with : List Str := ["corners", "places", "x", "y", "kind", "dx", "dy", "a", "b"]
abbrev P_cell_with : List Str := ["corners"]
theorem sc_cell_with : FnScope N_cell_with P_cell_with (defScope s_cell_with) := ⟨rfl, rfl, rfl, by decide +kernel, rfl, by decide +kernel, by decide +kernel⟩
/- closure -/
abbrev N_closure : List Str := ["cell", "corners", "cells", "at", "corner", "other"]
abbrev P_closure : List Str := ["cell"]
theorem sc_closure : FnScope N_closure P_closure (defScope s_closure) := ⟨rfl, rfl, rfl, by decide +kernel, rfl, by decide +kernel, by decide +kernel⟩
/- lowest -/
abbrev N_lowest : List Str := ["view", "cell", "corners", "found", "place"]
abbrev P_lowest : List Str := ["view", "cell"]
theorem sc_lowest : FnScope N_lowest P_lowest (defScope s_lowest) := ⟨rfl, rfl, rfl, by decide +kernel, rfl, by decide +kernel, by decide +kernel⟩

/-! ### check_view, check_kind -/
def spCheckView : Sp := fun vs H Q _ => ∃ i : Int, vs = [.int i] ∧ 0 ≤ i ∧ i ≤ 5 ∧ Q .non H
theorem ok_check_view (F : GDef K "check_view" s_check_view f fd) : FnOk P w K mg base CX0 1 f fd P_check_view spCheckView := by
  refine F.ok sc_check_view (fun vs H Q E h => ?_) (fun cdv A outer s H vs Q E hr h => ?_)
  · obtain ⟨i, rfl, _⟩ := h; rfl
  · obtain ⟨i, rfl, h0, h5, k⟩ := h
    refine ⟨_, PSs.nox (pss_one (ps_if (PW.pt (pw_or (pt_cmpR op_lt (pv 0) pe_int (nomark _)) (pw_or1 (pt_cmpR op_gt (pv 0) pe_int (nomark _)))))
        (pss_one ps_never)
        pss_nil)), ?_⟩
    refine ⟨_, rfl, _, _, rfl, rfl, _, rfl, ?_⟩
    refine itN (by omega) ?_
    refine ⟨_, rfl, _, _, rfl, rfl, _, rfl, ?_⟩
    exact itN (by omega) k
def spCheckKind : Sp := fun vs H Q _ => ∃ (c : Cell) (v : V), vs = [v] ∧ Tp H (cellV c) v ∧ Q .non H
theorem inKinds (k : Kd) : inV (.str (kS k)) [.str "d", .str "e", .str "n", .str "u", .str "v", .str "w"] = true := by cases k <;> decide +kernel
theorem ok_check_kind (T : Txt K w mg) (F : GDef K "check_kind" s_check_kind f fd) : FnOk P w K mg base CX0 1 f fd P_check_kind spCheckKind := by
  refine F.ok sc_check_kind (fun vs H Q E h => ?_) (fun cdv A outer s H vs Q E hr h => ?_)
  · obtain ⟨c, v, rfl, _⟩ := h; rfl
  · obtain ⟨c, v, rfl, ⟨a, rfl, ha⟩, k⟩ := h
    refine ⟨_, PSs.nox (pss_one (ps_if (pt_cmpR op_notIn_seq (pe_ix ix_tup (pv 0) pe_int (fun _ _ => rfl)) (pe_glob (v := .ref _) rfl T.g_KINDS rfl) (by rfl))
        (pss_one ps_never)
        pss_nil)), ?_⟩
    refine ⟨_, rfl, a, cellV c, 2, _, rfl, rfl, .inl (.inl ha), rfl, _, _, rfl, .inr (T.kinds _), rfl, rfl, _, rfl, ?_⟩
    simp only [if_true, inKinds, Bool.not_true]
    exact iteF k
/-! ### height, sign_of -/
def spHeight : Sp := fun vs H Q _ => ∃ (i : Nat) (p : Place) (v : V), vs = [.int i, v] ∧ i ≤ 5 ∧ Tp H (placeV p) v ∧ Q (.int (ht i p)) H
theorem ok_height (T : Txt K w mg) (F : GDef K "height" s_height f fd) (c_check_view : Cal P w K mg base CX0 "check_view" P_check_view 1 spCheckView) : FnOk P w K mg base CX0 2 f fd P_height spHeight := by
  refine F.ok sc_height (fun vs H Q E h => ?_) (fun cdv A outer s H vs Q E hr h => ?_)
  · obtain ⟨i, p, v, rfl, _⟩ := h; rfl
  · obtain ⟨i, p, v, rfl, hi, ⟨a, rfl, ha⟩, k⟩ := h
    refine ⟨_, PSs.nox (pss_cons (ps_expr (pe_cal c_check_view (hr.mono (by decide)) rfl (pa_cons (pv 0) pa_nil)))
      (pss_cons (ps_asg (pe_ix ix_tup (pe_glob (v := .ref _) rfl T.g_HEIGHTS rfl) (pv 0) (fun _ _ => rfl)) (pg_tup rfl (pgs_cons (pg_name (i := 2) sc_height.nd rfl (Or.inl rfl)) (pgs_cons (pg_name (i := 3) sc_height.nd rfl (Or.inl rfl)) pgs_nil))))
      (pss_one (ps_ret (pe_op op_add (pe_op op_mul (pv 2) (pe_ix ix_tup (pv 1) pe_int (fun _ _ => rfl))) (pe_op op_mul (pv 3) (pe_ix ix_tup (pv 1) pe_int (fun _ _ => rfl)))))))), ?_⟩
    refine ⟨_, rfl, _, rfl, by omega, by omega, ?_⟩
    obtain ⟨b, xs, eb, hb, hx⟩ := dp_tup (T.heights H)
    cases eb
    have hg : ∃ d, ([(2, 1), (1, 2), (-1, 1), (-2, -1), (-1, -2), (1, -1)] : List Place)[i]? = some d ∧ hts i = d := by
      match i, hi with
      | 0, _ => exact ⟨_, rfl, rfl⟩
      | 1, _ => exact ⟨_, rfl, rfl⟩
      | 2, _ => exact ⟨_, rfl, rfl⟩
      | 3, _ => exact ⟨_, rfl, rfl⟩
      | 4, _ => exact ⟨_, rfl, rfl⟩
      | 5, _ => exact ⟨_, rfl, rfl⟩
    obtain ⟨d, hd, ed⟩ := hg
    obtain ⟨z, hz, dz⟩ := dpAll_get (i := i) hx (d := .tuple [.int d.1, .int d.2]) (by rw [List.getElem?_map, hd]; rfl)
    obtain ⟨c, rfl, hc⟩ := dp_place dz
    refine ⟨_, rfl, _, xs, _, _, rfl, rfl, hb, atI_nat hz, c, _, rfl, hc, rfl, _, _, rfl, _, _, rfl, rfl, ?_⟩
    have b1 : -(2 ^ 64) < d.1 ∧ d.1 < 2 ^ 64 ∧ -(2 ^ 64) < d.2 ∧ d.2 < 2 ^ 64 := by
      rw [← ed]
      match i, hi with
      | 0, _ => decide
      | 1, _ => decide
      | 2, _ => decide
      | 3, _ => decide
      | 4, _ => decide
      | 5, _ => decide
    refine ⟨_, rfl, _, rfl, a, placeV p, 0, _, rfl, rfl, .inl (.inl ha), rfl, _, _, rfl, rfl, .inl ⟨b1.1, b1.2.1⟩, ?_⟩
    refine ⟨_, rfl, _, rfl, a, placeV p, 1, _, rfl, rfl, .inl (.inl ha), rfl, _, _, rfl, rfl, .inl ⟨b1.2.2.1, b1.2.2.2⟩, _, _, rfl, rfl, ?_⟩
    have e : d.1 * p.1 + d.2 * p.2 = ht i p := by rw [← ed]; rfl
    show Q (.int (d.1 * p.1 + d.2 * p.2)) H
    rw [e]
    exact k
/-! ### sign_of -/
def spSign : Sp := fun vs H Q _ => ∃ (c : Cell) (v : V), vs = [v] ∧ Tp H (cellV c) v ∧ Q (.int (sgn c.2.2)) H
theorem ok_sign_of (T : Txt K w mg) (F : GDef K "sign_of" s_sign_of f fd) : FnOk P w K mg base CX0 1 f fd P_sign_of spSign := by
  refine F.ok sc_sign_of (fun vs H Q E h => ?_) (fun cdv A outer s H vs Q E hr h => ?_)
  · obtain ⟨c, v, rfl, _⟩ := h; rfl
  · obtain ⟨c, v, rfl, ⟨a, rfl, ha⟩, k⟩ := h
    refine ⟨_, PSs.nox (pss_one (ps_ret (pe_ifExp (pt_cmpR op_eq (pe_callB call_len_seq (by rfl) T.z_len (by decide +kernel) (pa_cons (pe_ix ix_kdict (pe_glob (v := .ref _) rfl T.g_CORNERS rfl) (pe_ix ix_tup (pv 0) pe_int (fun _ _ => rfl)) (fun _ _ => rfl)) pa_nil)) pe_int (nomark _)) (pe_un un_neg pe_int) pe_int))), ?_⟩
    (repeat (first | refine ⟨_, rfl, ?_⟩ | refine ⟨_, _, rfl, rfl, ?_⟩ | refine ⟨_, _, rfl, ?_⟩ | refine ⟨rfl, ?_⟩))
    refine ⟨a, cellV c, 2, _, rfl, rfl, .inl (.inl ha), rfl, ?_⟩
    obtain ⟨v, hk, hv⟩ := T.corners c.2.2
    obtain ⟨b, xs, rfl, hb, hx⟩ := dp_tup (hv H)
    refine ⟨_, _, _, rfl, rfl, hk, ?_⟩
    refine ⟨b, xs, rfl, .inr hb, ?_⟩
    (repeat (first | refine ⟨_, rfl, ?_⟩ | refine ⟨_, _, rfl, rfl, ?_⟩ | refine ⟨_, _, rfl, ?_⟩ | refine ⟨rfl, ?_⟩))
    have hl := dpAll_length hx
    rw [List.length_map] at hl
    rw [hl]
    dsimp only
    have e2 : decide (V.int (((offs c.2.2).length : Nat) : Int) = V.int 2) = decide (sgn c.2.2 = -1) := by cases c.2.2 <;> decide
    exact itB (fun h => by
      rw [e2] at h
      have h2 : sgn c.2.2 = -1 := of_decide_eq_true h
      (repeat (first | refine ⟨_, rfl, ?_⟩ | refine ⟨_, _, rfl, rfl, ?_⟩ | refine ⟨_, _, rfl, ?_⟩ | refine ⟨rfl, ?_⟩))
      rw [h2] at k
      exact k) (fun h => by
      rw [e2] at h
      have h2 : sgn c.2.2 = 1 := by cases hk : c.2.2 <;> rw [hk] at h <;> first | rfl | cases h
      show Q (.int 1) H
      rw [h2] at k
      exact k)
/-! ### corners_of -/
def spCorners : Sp := fun vs H Q _ => ∃ (c : Cell) (v : V), vs = [v] ∧ Tp H (cellV c) v ∧ ∀ l H', Same H H' → Ls H' placeV l (corners c) → Q (.ref l) H'
theorem ok_corners_of (T : Txt K w mg) (F : GDef K "corners_of" s_corners_of f fd) (c_check_kind : Cal P w K mg base CX0 "check_kind" P_check_kind 1 spCheckKind) : FnOk P w K mg base CX0 2 f fd P_corners_of spCorners := by
  refine F.ok sc_corners_of (fun vs H Q E h => ?_) (fun cdv A outer s H vs Q E hr h => ?_)
  · obtain ⟨c, v, rfl, _⟩ := h; rfl
  · obtain ⟨c, v, rfl, ⟨a, rfl, ha⟩, k⟩ := h
    refine ⟨_, PSs.nox (pss_cons (ps_expr (pe_cal c_check_kind (hr.mono (by decide)) rfl (pa_cons (pv 0) pa_nil)))
      (pss_cons (ps_asg (pv 0) (pg_tup rfl (pgs_cons (pg_name (i := 1) sc_corners_of.nd rfl (Or.inr rfl)) (pgs_cons (pg_name (i := 2) sc_corners_of.nd rfl (Or.inr rfl)) (pgs_cons (pg_name (i := 3) sc_corners_of.nd rfl (Or.inl rfl)) pgs_nil)))))
      (pss_one (ps_ret (pe_lc (own := [("dx", 4), ("dy", 5)]) (g := gTup K 2 (gCons (gName 4) (gCons (gName 5) (gNil)))) rfl sc_corners_of.nd (pi_tup (pe_ix ix_kdict (pe_glob (v := .ref _) rfl T.g_CORNERS rfl) (pv 3) (fun _ _ => rfl))) (blkOk_by (N := N_corners_of) (sc := defScope s_corners_of) (own := [("dx", 4), ("dy", 5)]) (by decide +kernel)) (fun _ _ _ _ _ => (pg_tup rfl (pgs_cons (pg_name (i := 4) sc_corners_of.nd rfl (Or.inl rfl)) (pgs_cons (pg_name (i := 5) sc_corners_of.nd rfl (Or.inl rfl)) pgs_nil)))) (fun _ _ _ _ _ => pts_nil) (fun _ _ _ _ _ => (pe_tup (pa_cons (pe_op op_add (pv 1) (pv 4)) (pa_cons (pe_op op_add (pv 2) (pv 5)) pa_nil))))))))), ?_⟩
    (repeat (first | refine ⟨_, rfl, ?_⟩ | refine ⟨_, _, rfl, rfl, ?_⟩ | refine ⟨_, _, rfl, ?_⟩ | refine ⟨rfl, ?_⟩))
    refine ⟨c, _, rfl, ⟨a, rfl, ha⟩, ?_⟩
    (repeat (first | refine ⟨_, rfl, ?_⟩ | refine ⟨_, _, rfl, rfl, ?_⟩ | refine ⟨_, _, rfl, ?_⟩ | refine ⟨rfl, ?_⟩))
    refine ⟨a, cellV c, rfl, .inl (.inl ha), rfl, ?_⟩
    (repeat (first | refine ⟨_, rfl, ?_⟩ | refine ⟨_, _, rfl, rfl, ?_⟩ | refine ⟨_, _, rfl, ?_⟩ | refine ⟨rfl, ?_⟩))
    obtain ⟨v, hk, hv⟩ := T.corners c.2.2
    obtain ⟨b, xs, rfl, hb, hx⟩ := dp_tup (hv H)
    refine ⟨_, _, _, rfl, rfl, hk, ?_⟩
    have hl := dpAll_length hx
    rw [List.length_map] at hl
    have hl3 : xs.length ≤ 16000000 := by
      rw [hl]
      have : (offs c.2.2).length ≤ 3 := by cases c.2.2 <;> decide
      omega
    refine ⟨b, rfl, ⟨xs, hb⟩, fun D nD => ?_⟩
    refine lc_tup placeV (corners c) hb (by rw [hl]; simp [corners]) hl3 nD (fun i x y H1 hxi hyi s N hN => ?_) (fun H1 s hL => k D H1 s hL)
    have hd : ∃ d, (offs c.2.2)[i]? = some d ∧ shift c.1 c.2.1 d = y := by
      unfold corners at hyi
      rw [List.getElem?_map] at hyi
      cases e : (offs c.2.2)[i]? with
      | none => rw [e] at hyi; cases hyi
      | some d => rw [e] at hyi; cases hyi; exact ⟨d, rfl, rfl⟩
    obtain ⟨d, hd, rfl⟩ := hd
    obtain ⟨z, hz, dz⟩ := dpAll_get (i := i) hx (d := .tuple [.int d.1, .int d.2]) (by rw [List.getElem?_map, hd]; rfl)
    rw [hxi] at hz
    cases hz
    obtain ⟨e, rfl, he⟩ := dp_place dz
    refine ⟨e, _, rfl, same_sqt s he, rfl, ?_⟩
    (repeat (first | refine ⟨_, rfl, ?_⟩ | refine ⟨_, _, rfl, rfl, ?_⟩ | refine ⟨_, _, rfl, ?_⟩ | refine ⟨rfl, ?_⟩))
    exact ⟨le_line (by simp), fun p np => hN _ _ (tp_new np).1 (tp_new np).2⟩
/-! ### cell_with -/
theorem tps_refs {H : Hp} {vs : List V} {ps : List Place} (h : Tps H placeV vs ps) : ∃ qs : List Addr, vs = qs.map V.ref ∧ Paired (fun (q : Addr) (z : Int × Int) => H q = some (.tup [.int z.1, .int z.2])) qs ps := by
  induction h with
  | nil => exact ⟨[], rfl, .nil⟩
  | cons a _ ih =>
    obtain ⟨qs, rfl, hq⟩ := ih
    obtain ⟨q, rfl, e⟩ := a
    exact ⟨q :: qs, rfl, .cons e hq⟩
theorem line_of (k : Kd) : ∃ l ∈ shLines, l.key = shape k ∧ l.txt = kS k := by cases k <;> simp [shLines, shape, kS]
theorem corners_len (c : Cell) : (corners c).length ≤ 3 := by
  obtain ⟨x, y, k⟩ := c
  cases k <;> simp [corners, offs]
def spCellWith : Sp := fun vs H Q _ => ∃ (c : Cell) (l : Addr) (xs : List Place), vs = [.ref l] ∧ Ls H placeV l xs ∧ xs.Perm (corners c) ∧ ∀ v H', Same H H' → Tp H' (cellV c) v → Q v H'
theorem ok_cell_with (T : Txt K w mg) (F : GDef K "cell_with" s_cell_with f fd) : FnOk P w K mg base CX0 1 f fd P_cell_with spCellWith := by
  refine F.ok sc_cell_with (fun vs H Q E h => ?_) (fun cdv A outer s H vs Q E hr h => ?_)
  · obtain ⟨c, l, xs, rfl, _⟩ := h; rfl
  · obtain ⟨c, l, xs, rfl, ⟨vs, hl, hT⟩, hp, k⟩ := h
    have hu16 := hu16_of hr
    refine ⟨_, PSs.nox (pss_cons (ps_set (i := 1) sc_cell_with.nd rfl (Or.inl rfl) (pe_callB (cr_sortedD hu16) (by rfl) T.z_sorted (by decide +kernel) (pa_cons (pv 0) pa_nil)))
      (pss_cons (ps_asg (pe_ix ix_list (pv 1) pe_int (fun _ _ => rfl)) (pg_tup rfl (pgs_cons (pg_name (i := 2) sc_cell_with.nd rfl (Or.inr rfl)) (pgs_cons (pg_name (i := 3) sc_cell_with.nd rfl (Or.inr rfl)) pgs_nil))))
      (pss_cons (ps_set (i := 4) sc_cell_with.nd rfl (Or.inl rfl) (pe_ix (ix_shape (ls := shLines) hu16 (shH _) shN) (pe_glob (v := .ref _) rfl T.g_SHAPES rfl) (pe_callTy call_tuple_of (by rfl) T.z_tuple (by decide +kernel) (pa_cons (pe_lc (own := [("a", 7), ("b", 8)]) (g := gTup K 2 (gCons (gName 7) (gCons (gName 8) (gNil)))) rfl sc_cell_with.nd (pi_list (pv 1)) (blkOk_by (N := N_cell_with) (sc := defScope s_cell_with) (own := [("a", 7), ("b", 8)]) (by decide +kernel)) (fun _ _ _ _ _ => (pg_tup rfl (pgs_cons (pg_name (i := 7) sc_cell_with.nd rfl (Or.inl rfl)) (pgs_cons (pg_name (i := 8) sc_cell_with.nd rfl (Or.inl rfl)) pgs_nil)))) (fun _ _ _ _ _ => pts_nil) (fun _ _ _ _ _ => (pe_tup (pa_cons (pe_op op_sub (pv 7) (pv 2)) (pa_cons (pe_op op_sub (pv 8) (pv 3)) pa_nil))))) pa_nil)) (fun _ _ => rfl)))
      (pss_cons (ps_asg (pe_ix ix_tup (pe_ix ix_kdict (pe_glob (v := .ref _) rfl T.g_CORNERS rfl) (pv 4) (fun _ _ => rfl)) pe_int (fun _ _ => rfl)) (pg_tup rfl (pgs_cons (pg_name (i := 5) sc_cell_with.nd rfl (Or.inl rfl)) (pgs_cons (pg_name (i := 6) sc_cell_with.nd rfl (Or.inl rfl)) pgs_nil))))
      (pss_one (ps_ret (pe_tup (pa_cons (pe_op op_sub (pv 2) (pv 5)) (pa_cons (pe_op op_sub (pv 3) (pv 6)) (pa_cons (pv 4) pa_nil)))))))))), ?_⟩
    (((repeat (first | refine ⟨_, rfl, ?_⟩ | refine ⟨_, _, rfl, rfl, ?_⟩ | refine ⟨_, _, rfl, ?_⟩ | refine ⟨rfl, ?_⟩)); try dsimp only [tNil, gName]))
    refine r_sort dat_place (SqL.of hl) hT fun p ws ys np yp yw yT => ?_
    obtain rfl : ys = corners c := up_unique yw (corners_up c) (yp.trans hp)
    have s1 : Same H (upd H p (.lst ws)) := Same.new np
    have hT1 : Tps (upd H p (.lst ws)) placeV ws (corners c) := yT.mono s1
    obtain ⟨v0, h0, a0, rfl, t0⟩ := hT1.at (first_at c)
    (((repeat (first | refine ⟨_, rfl, ?_⟩ | refine ⟨_, _, rfl, rfl, ?_⟩ | refine ⟨_, _, rfl, ?_⟩ | refine ⟨rfl, ?_⟩)); try dsimp only [tNil, gName]))
    refine ⟨p, ws, _, _, rfl, rfl, SqL.of upd_same, atI_nat h0, ?_⟩
    (((repeat (first | refine ⟨_, rfl, ?_⟩ | refine ⟨_, _, rfl, rfl, ?_⟩ | refine ⟨_, _, rfl, ?_⟩ | refine ⟨rfl, ?_⟩)); try dsimp only [tNil, gName]))
    refine ⟨a0, _, rfl, .inl (.inl t0), rfl, ?_⟩
    (((repeat (first | refine ⟨_, rfl, ?_⟩ | refine ⟨_, _, rfl, rfl, ?_⟩ | refine ⟨_, _, rfl, ?_⟩ | refine ⟨rfl, ?_⟩)); try dsimp only [tNil, gName]))
    refine ⟨⟨ws, SqL.of upd_same⟩, fun D nD => ?_⟩
    have hlw : ws.length = (corners c).length := hT1.length
    have hc3 := corners_len c
    have hz : ws.length ≤ 16000000 := by omega
    refine lc_lst placeV (shape c.2.2) upd_same (by rw [hlw, ← shape_eq, List.length_map]) hz nD (fun i x y H1 hxi hyi s N hN => ?_) (fun H1 s2 hL => ?_)
    · obtain ⟨q, hq, a, rfl, t⟩ := hT1.get hxi
      have ey : y = (q.1 - (first c).1, q.2 - (first c).2) := by
        rw [← shape_eq, List.getElem?_map, hq] at hyi
        exact (Option.some.inj hyi).symm
      subst ey
      refine ⟨a, _, rfl, .inl (.inl (s _ _ t)), rfl, ?_⟩
      (((repeat (first | refine ⟨_, rfl, ?_⟩ | refine ⟨_, _, rfl, rfl, ?_⟩ | refine ⟨_, _, rfl, ?_⟩ | refine ⟨rfl, ?_⟩)); try dsimp only [tNil, gName]))
      exact ⟨le_line (by simp), fun p np => hN _ _ (tp_new np).1 (tp_new np).2⟩
    · obtain ⟨zs, hz1, hz2⟩ := hL
      (((repeat (first | refine ⟨_, rfl, ?_⟩ | refine ⟨_, _, rfl, rfl, ?_⟩ | refine ⟨_, _, rfl, ?_⟩ | refine ⟨rfl, ?_⟩)); try dsimp only [tNil, gName]))
      refine ⟨D, zs, rfl, .inl ⟨SqL.of hz1, fun t nt => ?_⟩⟩
      obtain ⟨qs, rfl, hqs⟩ := tps_refs hz2
      obtain ⟨ln, hln, ek, et⟩ := line_of c.2.2
      have s3 : Same H1 (upd H1 t (.tup (qs.map V.ref))) := Same.new nt
      refine ⟨_, t, qs, ln, rfl, rfl, T.shapes, hln, upd_same, ?_, ?_⟩
      · rw [ek]
        exact L2.Paired.mapP hqs fun _ _ z => s3 _ _ z
      rw [et]
      (((repeat (first | refine ⟨_, rfl, ?_⟩ | refine ⟨_, _, rfl, rfl, ?_⟩ | refine ⟨_, _, rfl, ?_⟩ | refine ⟨rfl, ?_⟩)); try dsimp only [tNil, gName]))
      obtain ⟨v, hk, hv⟩ := T.corners c.2.2
      obtain ⟨b, xs', rfl, hb, hx⟩ := dp_tup (hv (upd H1 t (.tup (qs.map V.ref))))
      refine ⟨_, _, _, rfl, rfl, hk, ?_⟩
      have hd : (offs c.2.2)[0]? = some ((offs c.2.2).headD (0, 0)) := by cases c.2.2 <;> rfl
      obtain ⟨z, hz, dz⟩ := dpAll_get (i := 0) hx (d := .tuple [.int ((offs c.2.2).headD (0, 0)).1, .int ((offs c.2.2).headD (0, 0)).2]) (by rw [List.getElem?_map, hd]; rfl)
      obtain ⟨e, rfl, he⟩ := dp_place dz
      (((repeat (first | refine ⟨_, rfl, ?_⟩ | refine ⟨_, _, rfl, rfl, ?_⟩ | refine ⟨_, _, rfl, ?_⟩ | refine ⟨rfl, ?_⟩)); try dsimp only [tNil, gName]))
      refine ⟨b, xs', _, _, rfl, rfl, hb, atI_nat hz, ?_⟩
      refine ⟨e, _, rfl, he, rfl, ?_⟩
      (((repeat (first | refine ⟨_, rfl, ?_⟩ | refine ⟨_, _, rfl, rfl, ?_⟩ | refine ⟨_, _, rfl, ?_⟩ | refine ⟨rfl, ?_⟩)); try dsimp only [tNil, gName]))
      refine ⟨le_line (by simp), fun r nr => ?_⟩
      have fb := first_back c
      have f1 := congrArg Prod.fst fb
      have f2 := congrArg Prod.snd fb
      dsimp only at f1 f2
      refine k _ _ (s1.trans (s2.trans (s3.trans (Same.new nr)))) ?_
      refine ⟨r, rfl, ?_⟩
      rw [upd_same]
      show some (HO.tup [.int ((first c).1 - _), .int ((first c).2 - _), .str (kS c.2.2)]) = _
      rw [f1, f2]
      rfl

/-! ### closure, lowest -/
theorem strkTo_length (ps : List Place) : ∀ n, (strkTo ps n).length ≤ n * ps.length
  | 0 => Nat.zero_le _
  | n + 1 => by
    have := strkTo_length ps n
    have h2 : (strkRow ps n).length ≤ ps.length := by
      unfold strkRow
      split
      · rw [List.length_map, List.length_drop]; omega
      · exact Nat.zero_le _
    rw [strkTo, List.length_append, Nat.succ_mul]
    omega
def spClosure : Sp := fun vs H Q _ => ∃ (c : Cell) (v : V), vs = [v] ∧ Tp H (cellV c) v ∧ ∀ l H' ys, Same H H' → H l = none → Ls H' cellV l ys → ys.Perm (clos c) → Q (.ref l) H'
theorem ok_closure (T : Txt K w mg) (F : GDef K "closure" s_closure f fd) (c_corners_of : Cal P w K mg base CX0 "corners_of" P_corners_of 2 spCorners) (c_cell_with : Cal P w K mg base CX0 "cell_with" P_cell_with 1 spCellWith) : FnOk P w K mg base CX0 3 f fd P_closure spClosure := by
  refine F.ok sc_closure (fun vs H Q E h => ?_) (fun cdv A outer s H vs Q E hr h => ?_)
  · obtain ⟨c, v, rfl, _⟩ := h; rfl
  · obtain ⟨c, v, rfl, hv, k⟩ := h
    have hu16 := hu16_of hr
    refine ⟨_, PSs.nox (pss_cons (ps_set (i := 1) sc_closure.nd rfl (Or.inl rfl) (pe_cal c_corners_of (hr.mono (by decide)) rfl (pa_cons (pv 0) pa_nil)))
      (pss_cons (ps_setLc (own := [("corner", 4)]) (i := 2) (g := gName 4) rfl sc_closure.nd rfl rfl (sw_true rfl rfl rfl (by decide +kernel)) (pi_list (pv 1)) (blkOk_by (N := N_closure) (sc := defScope s_closure) (own := [("corner", 4)]) (by decide +kernel)) (fun _ _ _ _ _ => (pg_name (i := 4) sc_closure.nd rfl (Or.inl rfl))) (fun _ _ _ _ _ => pts_nil) (fun _ _ _ _ _ => (pe_cal c_cell_with (hr.mono (by decide)) rfl (pa_cons (pe_lst (pa_cons (pv 4) pa_nil)) pa_nil))))
      (pss_cons (ps_for PassesOwn.never rfl (pi_enum (by rfl) T.z_enumerate (pa_cons (pv 1) pa_nil)) (pg_tup rfl (pgs_cons (pg_name (i := 3) sc_closure.nd rfl (Or.inl rfl)) (pgs_cons (pg_name (i := 4) sc_closure.nd rfl (Or.inl rfl)) pgs_nil)))
        (pss_one (ps_for PassesOwn.never rfl (pi_list (pe_slice sl_list (pv 1) (po_some (pe_op op_add (pv 3) pe_int)) po_none)) (pg_name (i := 5) sc_closure.nd rfl (Or.inl rfl))
          (pss_one (ps_expr (pe_bm PySem.F.plainAttrs_list PySem.F.slot_list_append PySem.F.type_list_append mt_append (pv 2) (pa_cons (pe_cal c_cell_with (hr.mono (by decide)) rfl (pa_cons (pe_lst (pa_cons (pv 4) (pa_cons (pv 5) pa_nil))) pa_nil)) pa_nil)))))))
      (pss_cons (ps_if (pt_cmpR op_eq (pe_callB call_len_seq (by rfl) T.z_len (by decide +kernel) (pa_cons (pv 1) pa_nil)) pe_int (nomark _))
        (pss_one (ps_expr (pe_bm PySem.F.plainAttrs_list PySem.F.slot_list_append PySem.F.type_list_append mt_append (pv 2) (pa_cons (pe_cal c_cell_with (hr.mono (by decide)) rfl (pa_cons (pv 1) pa_nil)) pa_nil))))
        pss_nil)
      (pss_one (ps_ret (pe_callB (cr_sortedD hu16) (by rfl) T.z_sorted (by decide +kernel) (pa_cons (pv 2) pa_nil)))))))), ?_⟩
    (repeat (first | refine ⟨_, rfl, ?_⟩ | refine ⟨_, _, rfl, rfl, ?_⟩ | refine ⟨_, _, rfl, ?_⟩ | refine ⟨rfl, ?_⟩))
    refine ⟨c, v, rfl, hv, fun l H1 s1 hL => ?_⟩
    obtain ⟨cs, hl, hT⟩ := hL
    (repeat (first | refine ⟨_, rfl, ?_⟩ | refine ⟨_, _, rfl, rfl, ?_⟩ | refine ⟨_, _, rfl, ?_⟩ | refine ⟨rfl, ?_⟩))
    refine ⟨⟨cs, SqL.of hl⟩, fun D nD => ?_⟩
    have hlw : cs.length = (corners c).length := hT.length
    have hc3 := corners_len c
    have hz : cs.length ≤ 16000000 := by omega
    refine lc_lst cellV ((corners c).map dotC) hl (by rw [hlw, List.length_map]) hz nD (fun i x y H2 hxi hyi s N hN => ?_) (fun H2 s2 hL2 => ?_)
    · obtain ⟨pc, hpc, tp⟩ := hT.get hxi
      have ey : y = dotC pc := by
        rw [List.getElem?_map, hpc] at hyi
        exact (Option.some.inj hyi).symm
      subst ey
      (repeat (first | refine ⟨_, rfl, ?_⟩ | refine ⟨_, _, rfl, rfl, ?_⟩ | refine ⟨_, _, rfl, ?_⟩ | refine ⟨rfl, ?_⟩))
      refine ⟨le_line (by simp), fun p np => ?_⟩
      have s3 : Same H2 (upd H2 p (.lst [x])) := Same.new np
      refine ⟨dotC pc, p, [pc], rfl, ⟨[x], upd_same, .cons ((tp.mono s).mono s3) .nil⟩, by rw [dotC_corners], fun u H' s4 hu => hN u H' (s3.trans s4) hu⟩
    · (repeat (first | refine ⟨_, rfl, ?_⟩ | refine ⟨_, _, rfl, rfl, ?_⟩ | refine ⟨_, _, rfl, ?_⟩ | refine ⟨rfl, ?_⟩))
      -- the pairs
      refine ⟨l, cs, rfl, SqL.of (s2 _ _ hl), ?_⟩
      refine for_n (n := cs.length) (fun n σ G => (∃ a3 a4 a5, σ = [some v, some (.ref l), some (.ref D), a3, a4, a5]) ∧ Same H1 G ∧ Ls G cellV D ((corners c).map dotC ++ strkTo (corners c) n)) ⟨⟨_, _, _, rfl⟩, s2, by simpa [strkTo] using hL2⟩
        (fun i σ G hi p => ⟨cs, cs[i], SqL.of (p.2.1 _ _ hl), List.getElem?_eq_getElem hi⟩) (fun σ G p => ⟨cs, SqL.of (p.2.1 _ _ hl), Nat.le_refl _⟩) (fun i σ G hi p x G' e => ?_) (fun σ G p => ?_)
      · obtain ⟨⟨a3, a4, a5, rfl⟩, sG, hLG⟩ := p
        obtain ⟨t, xc, rfl, nt, rfl, hx⟩ := e
        have hxc := hx cs (SqL.of (sG _ _ hl))
        obtain ⟨pc, hpc, tp⟩ := hT.get hxc
        refine ⟨t, _, rfl, .inl (.inl upd_same), rfl, ?_⟩
        (repeat (first | refine ⟨_, rfl, ?_⟩ | refine ⟨_, _, rfl, rfl, ?_⟩ | refine ⟨_, _, rfl, ?_⟩ | refine ⟨rfl, ?_⟩))
        have sG1 : Same G (upd G t (.tup [.int (i : Nat), xc])) := Same.new nt
        refine ⟨l, cs, rfl, SqL.of ((sG.trans sG1) _ _ hl), fun q nq => ?_⟩
        have ec : cutV cs (some (((i : Nat) : Int) + 1)) none = cs.drop (i + 1) := cut_from cs (i + 1)
        refine ⟨q, rfl, ⟨_, SqL.of upd_same⟩, ?_⟩
        generalize hG2 : upd (upd G t (.tup [.int (i : Nat), xc])) q (.lst (cutV cs (some (((i : Nat) : Int) + 1)) none)) = G2
        rw [ec] at hG2
        have sG2 : Same G G2 := by rw [← hG2]; exact sG1.trans (Same.new nq)
        have hq2 : G2 q = some (.lst (cs.drop (i + 1))) := by rw [← hG2]; exact upd_same
        obtain ⟨accG, hDG, hTG⟩ := hLG
        have nqG : G q = none := none_of_upd nq
        have hqD : q ≠ D := by rintro rfl; rw [nqG] at hDG; cases hDG
        have hrow : strkRow (corners c) i = ((corners c).drop (i + 1)).map (strk pc) := by unfold strkRow; rw [hpc]
        have hTd : Tps H1 placeV (cs.drop (i + 1)) ((corners c).drop (i + 1)) := hT.drop _
        refine for_n (n := (cs.drop (i + 1)).length) (fun j σ G => (∃ a5, σ = [some v, some (.ref l), some (.ref D), some (.int (i : Nat)), some xc, a5]) ∧ Same H1 G ∧ G q = some (.lst (cs.drop (i + 1))) ∧ Ls G cellV D ((corners c).map dotC ++ strkTo (corners c) i ++ (strkRow (corners c) i).take j))
          ⟨⟨_, rfl⟩, sG.trans sG2, hq2, accG, sG2 _ _ hDG, by simpa using hTG.mono sG2⟩
          (fun j σ G hj p => ⟨_, _, SqL.of p.2.2.1, List.getElem?_eq_getElem hj⟩) (fun σ G p => ⟨_, SqL.of p.2.2.1, Nat.le_refl _⟩) (fun j σ G3 hj p x G4 e => ?_) (fun σ G3 p => ?_)
        · obtain ⟨⟨a5, rfl⟩, s3, hq3, acc3, hD3, hT3⟩ := p
          obtain ⟨rfl, hx⟩ := e
          have hxo := hx _ (SqL.of hq3)
          obtain ⟨po, hpo, tpo⟩ := hTd.get hxo
          (repeat (first | refine ⟨_, rfl, ?_⟩ | refine ⟨_, _, rfl, rfl, ?_⟩ | refine ⟨_, _, rfl, ?_⟩ | refine ⟨rfl, ?_⟩))
          refine ⟨ty_lst hD3, ?_⟩
          (repeat (first | refine ⟨_, rfl, ?_⟩ | refine ⟨_, _, rfl, rfl, ?_⟩ | refine ⟨_, _, rfl, ?_⟩ | refine ⟨rfl, ?_⟩))
          refine ⟨le_line (by simp), fun r nr => ?_⟩
          have s4 : Same G4 (upd G4 r (.lst [xc, x])) := Same.new nr
          have hst : corners (strk pc po) = [pc, po] := strk_ok c hpc (j := i + 1 + j) (by rw [List.getElem?_drop] at hpo; exact hpo) (by omega)
          refine ⟨strk pc po, r, [pc, po], rfl, ⟨_, upd_same, .cons ((tp.mono s3).mono s4) (.cons ((tpo.mono s3).mono s4) .nil)⟩, by rw [hst], fun u G5 s5 hu => ?_⟩
          have hD5 := s5 _ _ (s4 _ _ hD3)
          refine ⟨D, acc3, u, rfl, rfl, hD5, ?_, ?_⟩
          · have := hT3.length
            rw [List.length_append, List.length_append, List.length_map, List.length_take] at this
            have h2 := strkTo_length (corners c) i
            refine lt_line (m := 1000000) ?_ (by decide)
            rw [this]
            have : i ≤ 3 := by omega
            have h5 : (strkRow (corners c) i).length ≤ (corners c).length := by rw [hrow, List.length_map, List.length_drop]; omega
            have : i * (corners c).length ≤ 3 * 3 := Nat.mul_le_mul (by omega) hc3
            omega
          · refine ⟨⟨_, rfl⟩, (s3.trans (s4.trans s5)).mut nD, ?_, ?_⟩
            · rw [upd_ne hqD]
              exact s5 _ _ (s4 _ _ hq3)
            · have hj2 : (strkRow (corners c) i)[j]? = some (strk pc po) := by rw [hrow, List.getElem?_map, hpo]; rfl
              rw [take_snoc hj2, ← List.append_assoc]
              exact Ls.push hD5 ((hT3.mono s4).mono s5) hu
        · obtain ⟨⟨a5, rfl⟩, s3, hq3, hL3⟩ := p
          refine ⟨⟨_, _, _, rfl⟩, s3, ?_⟩
          rw [List.take_of_length_le (by rw [hrow, List.length_map, ← hTd.length]; exact Nat.le_refl _), List.append_assoc] at hL3
          exact hL3
      · obtain ⟨⟨a3, a4, a5, rfl⟩, s3, acc, hD, hT3⟩ := p
        (repeat (first | refine ⟨_, rfl, ?_⟩ | refine ⟨_, _, rfl, rfl, ?_⟩ | refine ⟨_, _, rfl, ?_⟩ | refine ⟨rfl, ?_⟩))
        refine ⟨l, cs, rfl, .inl (SqL.of (s3 _ _ hl)), ?_⟩
        (repeat (first | refine ⟨_, rfl, ?_⟩ | refine ⟨_, _, rfl, rfl, ?_⟩ | refine ⟨_, _, rfl, ?_⟩ | refine ⟨rfl, ?_⟩))
        have fin : ∀ (G' : Hp) (ys : List Cell), Same H G' → Ls G' cellV D ys → ys = clos c → rSortedD K [.ref D] G' Q := fun G' ys s' hL' e => by
          obtain ⟨vs', h1, h2⟩ := hL'
          exact r_sort dat_cell (SqL.of h1) h2 fun p ws zs np yp _ yT => k p _ zs (s'.trans (Same.new np)) (s'.none np) ⟨ws, upd_same, yT.mono (Same.new np)⟩ (e ▸ yp)
        have hclos := clos_eq c
        rw [← hlw] at hclos
        refine itD (fun h => ?_) (fun h => ?_)
        · have h3 : cs.length = 3 := by
            have : ((cs.length : Nat) : Int) = 3 := by injection h
            omega
          rw [if_pos h3] at hclos
          (repeat (first | refine ⟨_, rfl, ?_⟩ | refine ⟨_, _, rfl, rfl, ?_⟩ | refine ⟨_, _, rfl, ?_⟩ | refine ⟨rfl, ?_⟩))
          refine ⟨ty_lst hD, ?_⟩
          (repeat (first | refine ⟨_, rfl, ?_⟩ | refine ⟨_, _, rfl, rfl, ?_⟩ | refine ⟨_, _, rfl, ?_⟩ | refine ⟨rfl, ?_⟩))
          refine ⟨c, l, corners c, rfl, ⟨cs, s3 _ _ hl, hT.mono s3⟩, List.Perm.refl _, fun u G5 s5 hu => ?_⟩
          refine ⟨D, acc, u, rfl, rfl, s5 _ _ hD, ?_, ?_⟩
          · have := hT3.length
            rw [List.length_append, List.length_map] at this
            have h2 := strkTo_length (corners c) cs.length
            refine lt_line (m := 1000000) ?_ (by decide)
            rw [this]
            have : cs.length * (corners c).length ≤ 3 * 3 := Nat.mul_le_mul (by omega) hc3
            omega
          · (repeat (first | refine ⟨_, rfl, ?_⟩ | refine ⟨_, _, rfl, rfl, ?_⟩ | refine ⟨_, _, rfl, ?_⟩ | refine ⟨rfl, ?_⟩))
            exact fin _ _ (s1.trans ((s3.trans s5).mut nD)) (Ls.push (s5 _ _ hD) (hT3.mono s5) hu) hclos.symm
        · have h3 : ¬ cs.length = 3 := by
            intro e
            apply h
            rw [e]
            rfl
          rw [if_neg h3, List.append_nil] at hclos
          (repeat (first | refine ⟨_, rfl, ?_⟩ | refine ⟨_, _, rfl, rfl, ?_⟩ | refine ⟨_, _, rfl, ?_⟩ | refine ⟨rfl, ?_⟩))
          exact fin _ _ (s1.trans s3) ⟨acc, hD, hT3⟩ hclos.symm
def spLowest : Sp := fun vs H Q _ => ∃ (i : Nat) (c : Cell) (v : V), vs = [.int i, v] ∧ i ≤ 5 ∧ Tp H (cellV c) v ∧ ∀ u H', Same H H' → Tp H' (placeV (lowM i c)) u → Q u H'
theorem ok_lowest (T : Txt K w mg) (F : GDef K "lowest" s_lowest f fd) (c_check_view : Cal P w K mg base CX0 "check_view" P_check_view 1 spCheckView) (c_corners_of : Cal P w K mg base CX0 "corners_of" P_corners_of 2 spCorners) (c_height : Cal P w K mg base CX0 "height" P_height 2 spHeight) : FnOk P w K mg base CX0 3 f fd P_lowest spLowest := by
  refine F.ok sc_lowest (fun vs H Q E h => ?_) (fun cdv A outer s H vs Q E hr h => ?_)
  · obtain ⟨i, c, v, rfl, _⟩ := h; rfl
  · obtain ⟨i, c, v, rfl, hi, hv, k⟩ := h
    refine ⟨_, PSs.nox (pss_cons (ps_expr (pe_cal c_check_view (hr.mono (by decide)) rfl (pa_cons (pv 0) pa_nil)))
      (pss_cons (ps_set (i := 2) sc_lowest.nd rfl (Or.inl rfl) (pe_cal c_corners_of (hr.mono (by decide)) rfl (pa_cons (pv 1) pa_nil)))
      (pss_cons (ps_set (i := 3) sc_lowest.nd rfl (Or.inl rfl) (pe_ix ix_list (pv 2) pe_int (fun _ _ => rfl)))
      (pss_cons (ps_for PassesOwn.never rfl (pi_list (pe_slice sl_list (pv 2) (po_some pe_int) po_none)) (pg_name (i := 4) sc_lowest.nd rfl (Or.inl rfl))
        (pss_one (ps_if (pt_cmpR op_lt (pe_cal c_height (hr.mono (by decide)) rfl (pa_cons (pv 0) (pa_cons (pv 4) pa_nil))) (pe_cal c_height (hr.mono (by decide)) rfl (pa_cons (pv 0) (pa_cons (pv 3) pa_nil))) (nomark _))
          (pss_one (ps_set (i := 3) sc_lowest.nd rfl (Or.inl rfl) (pv 4)))
          pss_nil)))
      (pss_one (ps_ret (pv 3))))))), ?_⟩
    (repeat (first | refine ⟨_, rfl, ?_⟩ | refine ⟨_, _, rfl, rfl, ?_⟩ | refine ⟨_, _, rfl, ?_⟩ | refine ⟨rfl, ?_⟩))
    refine ⟨by omega, by omega, ?_⟩
    (repeat (first | refine ⟨_, rfl, ?_⟩ | refine ⟨_, _, rfl, rfl, ?_⟩ | refine ⟨_, _, rfl, ?_⟩ | refine ⟨rfl, ?_⟩))
    refine ⟨c, v, rfl, hv, fun l H1 s1 hL => ?_⟩
    obtain ⟨cs, hl, hT⟩ := hL
    (repeat (first | refine ⟨_, rfl, ?_⟩ | refine ⟨_, _, rfl, rfl, ?_⟩ | refine ⟨_, _, rfl, ?_⟩ | refine ⟨rfl, ?_⟩))
    obtain ⟨u0, h0, t0⟩ := hT.at (first_at c)
    refine ⟨l, cs, _, _, rfl, rfl, SqL.of hl, atI_nat h0, ?_⟩
    (repeat (first | refine ⟨_, rfl, ?_⟩ | refine ⟨_, _, rfl, rfl, ?_⟩ | refine ⟨_, _, rfl, ?_⟩ | refine ⟨rfl, ?_⟩))
    refine ⟨l, cs, rfl, SqL.of hl, fun q nq => ?_⟩
    refine ⟨q, rfl, ⟨_, SqL.of upd_same⟩, ?_⟩
    have ec : cutV cs (some ((1 : Nat) : Int)) none = cs.drop 1 := cut_from cs 1
    generalize hG2 : upd H1 q (.lst (cutV cs (some ((1 : Nat) : Int)) none)) = G2
    rw [ec] at hG2
    have s2 : Same H1 G2 := by rw [← hG2]; exact Same.new nq
    have hq2 : G2 q = some (.lst (cs.drop 1)) := by rw [← hG2]; exact upd_same
    have hTd : Tps H1 placeV (cs.drop 1) ((corners c).drop 1) := hT.drop _
    have hfold : ((corners c).drop 1).foldl (lower i) (first c) = lowM i c := by
      rw [← lowF_corners]
      have := first_at c
      cases e : corners c with
      | nil => rw [e] at this; cases this
      | cons p r => rw [e] at this; cases this; rfl
    refine for_list (xs := cs.drop 1) (fun j σ G => ∃ a4 uf, σ = [some (.int i), some v, some (.ref l), some uf, a4] ∧ Same H1 G ∧ G q = some (.lst (cs.drop 1)) ∧ Tp G (placeV ((((corners c).drop 1).take j).foldl (lower i) (first c))) uf)
      ⟨none, u0, rfl, s2, hq2, t0.mono s2⟩ (fun j σ G _ p => by obtain ⟨a4, uf, rfl, _, h, _⟩ := p; exact SqL.of h) (fun j x σ G hx p => ?_) (fun σ G p => ?_)
    · obtain ⟨a4, uf, rfl, sG, hqG, tf⟩ := p
      obtain ⟨pc, hpc, tp⟩ := hTd.get hx
      (repeat (first | refine ⟨_, rfl, ?_⟩ | refine ⟨_, _, rfl, rfl, ?_⟩ | refine ⟨_, _, rfl, ?_⟩ | refine ⟨rfl, ?_⟩))
      refine ⟨i, pc, x, rfl, hi, tp.mono sG, ?_⟩
      (repeat (first | refine ⟨_, rfl, ?_⟩ | refine ⟨_, _, rfl, rfl, ?_⟩ | refine ⟨_, _, rfl, ?_⟩ | refine ⟨rfl, ?_⟩))
      refine ⟨i, _, uf, rfl, hi, tf, ?_⟩
      (repeat (first | refine ⟨_, rfl, ?_⟩ | refine ⟨_, _, rfl, rfl, ?_⟩ | refine ⟨_, _, rfl, ?_⟩ | refine ⟨rfl, ?_⟩))
      have e1 : ((((corners c).drop 1).take (j + 1)).foldl (lower i) (first c)) = lower i ((((corners c).drop 1).take j).foldl (lower i) (first c)) pc := by rw [take_snoc hpc, List.foldl_append]; rfl
      refine itD (fun h => ?_) (fun h => ?_)
      · (repeat (first | refine ⟨_, rfl, ?_⟩ | refine ⟨_, _, rfl, rfl, ?_⟩ | refine ⟨_, _, rfl, ?_⟩ | refine ⟨rfl, ?_⟩))
        refine ⟨sG, hqG, ?_⟩
        rw [e1, lower, if_pos h]
        exact tp.mono sG
      · refine ⟨_, uf, rfl, sG, hqG, ?_⟩
        rw [e1, lower, if_neg h]
        exact tf
    · obtain ⟨a4, uf, rfl, sG, hqG, tf⟩ := p
      (repeat (first | refine ⟨_, rfl, ?_⟩ | refine ⟨_, _, rfl, rfl, ?_⟩ | refine ⟨_, _, rfl, ?_⟩ | refine ⟨rfl, ?_⟩))
      rw [List.take_of_length_le (by rw [← hTd.length]; exact Nat.le_refl _), hfold] at tf
      exact k _ _ (s1.trans sG) tf
end
end SV
end

section
set_option Elab.async false
set_option linter.all false
set_option maxRecDepth 100000
set_option maxHeartbeats 4000000
/-! The classes: turnings, heaps of spots, views, sheets. -/
namespace SV
open PySem PySem.Spec PyProof.Rows L2
abbrev MDef (K : PySem.W.Frag) (x q : Str) (st : Stmt) (dvs : List V) (kws : List (Str × V)) (f : Addr) (fd : FuncData) : Prop := FunD K x q (defArgs st) (defBody st) (defScope st) dvs kws f fd
/-- what is of the object at t may change -/
def SameX (t : Addr) (H H' : Hp) : Prop := ∀ a u, a ≠ t → H a = some u → H' a = some u
theorem SameX.trans {t : Addr} {H H1 H2 : Hp} (a : SameX t H H1) (b : SameX t H1 H2) : SameX t H H2 := fun c u n h => b c u n (a c u n h)
theorem _root_.L2.Same.x {H H' : Hp} (h : Same H H') (t : Addr) : SameX t H H' := fun a u _ e => h a u e
theorem SameX.put {t : Addr} {H : Hp} {o : HO} : SameX t H (upd H t o) := fun a u n e => by rw [upd_ne n]; exact e
theorem SameX.same {t : Addr} {H0 H H' : Hp} (n : H0 t = none) (a : Same H0 H) (b : SameX t H H') : Same H0 H' := fun c u e => b c u (ne_of_none e n) (a c u e)
/-- the classes, their fields -/
structure TxtC (K : PySem.W.Frag) (cTu cSp cVi cSh : Addr) : Prop where
  tu : Cls K cTu
  sp : Cls K cSp
  vi : Cls K cVi
  sh : Cls K cSh
  a_turns : NoAttr K cTu "turns"
  a_mirrored : NoAttr K cTu "mirrored"
  a_inverted : NoAttr K cTu "inverted"
  a_spinks : NoAttr K cSp "inks"
  a_sprows : NoAttr K cSp "rows"
  a_heaps : NoAttr K cVi "heaps"
  a_rows : NoAttr K cSh "rows"
  a_inks : NoAttr K cSh "inks"
/-- the turning by three turns, inverted -/
def TuAt (cTu : Addr) (H : Hp) (t : Addr) : Prop := ∃ dx, H t = some (.ins cTu dx [("turns", .int 3), ("mirrored", .bl false), ("inverted", .bl true)])
theorem TuAt.mono {cTu : Addr} {H H' : Hp} {t : Addr} (e : Same H H') (h : TuAt cTu H t) : TuAt cTu H' t := let ⟨dx, h⟩ := h; ⟨dx, e _ _ h⟩
section
variable {P : Program} {w : World} {K : PySem.W.Frag} {mg : Str → Option Value} {base : Heap} {f : Addr} {fd : FuncData} {cTu cSp cVi cSh : Addr} {dvs : List V} {kws : List (Str × V)}
/- Turning.__init__ -/
abbrev N_Turning___init__ : List Str := ["self", "turns", "mirrored", "inverted"]
abbrev P_Turning___init__ : List Str := ["self", "turns", "mirrored", "inverted"]
theorem sc_Turning___init : FnScope N_Turning___init__ P_Turning___init__ (defScope s_Turning___init__) := ⟨rfl, rfl, rfl, by decide +kernel, rfl, by decide +kernel, by decide +kernel⟩
/- Turning.place_to -/
abbrev N_Turning_place_to : List Str := ["self", "place", "x", "y", "_"]
abbrev P_Turning_place_to : List Str := ["self", "place"]
theorem sc_Turning_place_to : FnScope N_Turning_place_to P_Turning_place_to (defScope s_Turning_place_to) := ⟨rfl, rfl, rfl, by decide +kernel, rfl, by decide +kernel, by decide +kernel⟩
/- Turning.cell_to -/
abbrev N_Turning_cell_to : List Str := ["self", "cell", "corner"]
abbrev P_Turning_cell_to : List Str := ["self", "cell"]
theorem sc_Turning_cell_to : FnScope N_Turning_cell_to P_Turning_cell_to (defScope s_Turning_cell_to) := ⟨rfl, rfl, rfl, by decide +kernel, rfl, by decide +kernel, by decide +kernel⟩
/-! ### turnings -/
def spTuInit (cTu : Addr) : Sp := fun vs H Q _ => ∃ t dx, vs = [.ref t, .int 3, .bl false, .bl true] ∧ H t = some (.ins cTu dx []) ∧ ∀ H', SameX t H H' → TuAt cTu H' t → Q .non H'
theorem ok_Tu_init (TC : TxtC K cTu cSp cVi cSh) (F : MDef K "__init__" "Turning.__init__" s_Turning___init__ dvs kws f fd) : FnOk P w K mg base CX0 1 f fd P_Turning___init__ (spTuInit cTu) := by
  refine F.ok sc_Turning___init (fun vs H Q E h => ?_) (fun cdv A outer s H vs Q E hr h => ?_)
  · obtain ⟨t, dx, rfl, _⟩ := h; rfl
  · obtain ⟨t, dx, rfl, h0, k⟩ := h
    refine ⟨_, PSs.nox (pss_cons (ps_fld (pv 0) (pe_op op_mod (pv 1) pe_int) rfl)
      (pss_cons (ps_fld (pv 0) (pv 2) rfl)
      (pss_one (ps_fld (pv 0) (pv 3) rfl)))), ?_⟩
    (repeat (first | refine ⟨_, rfl, ?_⟩ | refine ⟨_, _, rfl, rfl, ?_⟩ | refine ⟨_, _, rfl, ?_⟩ | refine ⟨rfl, ?_⟩))
    refine ⟨by decide, ?_⟩
    (repeat (first | refine ⟨_, rfl, ?_⟩ | refine ⟨_, _, rfl, rfl, ?_⟩ | refine ⟨_, _, rfl, ?_⟩ | refine ⟨rfl, ?_⟩))
    refine ⟨t, cTu, dx, [], rfl, h0, TC.tu, TC.a_turns, by decide, ?_⟩
    (repeat (first | refine ⟨_, rfl, ?_⟩ | refine ⟨_, _, rfl, rfl, ?_⟩ | refine ⟨_, _, rfl, ?_⟩ | refine ⟨rfl, ?_⟩))
    refine ⟨t, cTu, dx, _, rfl, upd_same, TC.tu, TC.a_mirrored, by decide, ?_⟩
    (repeat (first | refine ⟨_, rfl, ?_⟩ | refine ⟨_, _, rfl, rfl, ?_⟩ | refine ⟨_, _, rfl, ?_⟩ | refine ⟨rfl, ?_⟩))
    refine ⟨t, cTu, dx, _, rfl, upd_same, TC.tu, TC.a_inverted, by decide, ?_⟩
    exact k _ (SameX.put.trans (SameX.put.trans SameX.put)) ⟨dx, upd_same⟩
def spPlaceTo (cTu : Addr) : Sp := fun vs H Q _ => ∃ (t : Addr) (p : Place) (v : V), vs = [.ref t, v] ∧ TuAt cTu H t ∧ Tp H (placeV p) v ∧ ∀ u H', Same H H' → Tp H' (placeV (-p.1, -p.2)) u → Q u H'
def trn : Nat → Place → Place
  | 0, p => p
  | n + 1, p => (-(trn n p).2, (trn n p).1 + (trn n p).2)
theorem ok_place_to (T : Txt K w mg) (TC : TxtC K cTu cSp cVi cSh) (F : MDef K "place_to" "Turning.place_to" s_Turning_place_to [] [] f fd) : FnOk P w K mg base CX0 1 f fd P_Turning_place_to (spPlaceTo cTu) := by
  refine F.ok sc_Turning_place_to (fun vs H Q E h => ?_) (fun cdv A outer s H vs Q E hr h => ?_)
  · obtain ⟨t, p, v, rfl, _⟩ := h; rfl
  · obtain ⟨t, p, v, rfl, ⟨dx, ht⟩, ⟨a, rfl, ha⟩, k⟩ := h
    refine ⟨_, PSs.nox (pss_cons (ps_asg (pv 1) (pg_tup rfl (pgs_cons (pg_name (i := 2) sc_Turning_place_to.nd rfl (Or.inl rfl)) (pgs_cons (pg_name (i := 3) sc_Turning_place_to.nd rfl (Or.inl rfl)) pgs_nil))))
      (pss_cons (ps_if (pt_val (pe_fld (pv 0) rfl))
        (pss_one (ps_par (i := 2) (j := 3) rfl sc_Turning_place_to.nd rfl rfl (by decide) rfl rfl (pa_cons (pv 3) (pa_cons (pv 2) pa_nil)) (by rfl)))
        pss_nil)
      (pss_cons (ps_for PassesOwn.never rfl (pi_range1 rfl T.z_range (pa_cons (pe_fld (pv 0) rfl) pa_nil)) (pg_name (i := 4) sc_Turning_place_to.nd rfl (Or.inl rfl))
        (pss_one (ps_par (i := 2) (j := 3) rfl sc_Turning_place_to.nd rfl rfl (by decide) rfl rfl (pa_cons (pe_un un_neg (pv 3)) (pa_cons (pe_op op_add (pv 2) (pv 3)) pa_nil)) (by rfl))))
      (pss_one (ps_ret (pe_tup (pa_cons (pv 2) (pa_cons (pv 3) pa_nil)))))))), ?_⟩
    (repeat (first | refine ⟨_, rfl, ?_⟩ | refine ⟨_, _, rfl, rfl, ?_⟩ | refine ⟨_, _, rfl, ?_⟩ | refine ⟨rfl, ?_⟩))
    refine ⟨a, placeV p, rfl, .inl (.inl ha), rfl, ?_⟩
    (repeat (first | refine ⟨_, rfl, ?_⟩ | refine ⟨_, _, rfl, rfl, ?_⟩ | refine ⟨_, _, rfl, ?_⟩ | refine ⟨rfl, ?_⟩))
    refine ⟨t, cTu, dx, _, _, rfl, ht, TC.tu, TC.a_mirrored, rfl, ?_⟩
    (repeat (first | refine ⟨_, rfl, ?_⟩ | refine ⟨_, _, rfl, rfl, ?_⟩ | refine ⟨_, _, rfl, ?_⟩ | refine ⟨rfl, ?_⟩))
    refine ⟨t, cTu, dx, _, _, rfl, ht, TC.tu, TC.a_turns, rfl, ?_⟩
    (repeat (first | refine ⟨_, rfl, ?_⟩ | refine ⟨_, _, rfl, rfl, ?_⟩ | refine ⟨_, _, rfl, ?_⟩ | refine ⟨rfl, ?_⟩))
    refine ⟨by decide, by decide, ?_⟩
    refine for_range (n := 3) (fun i σ G => G = H ∧ ∃ a4, σ = [some (.ref t), some (.ref a), some (.int (trn i p).1), some (.int (trn i p).2), a4]) ⟨rfl, _, rfl⟩ (fun i σ G hi q => ?_) (fun σ G q => ?_)
    · obtain ⟨rfl, a4, rfl⟩ := q
      (repeat (first | refine ⟨_, rfl, ?_⟩ | refine ⟨_, _, rfl, rfl, ?_⟩ | refine ⟨_, _, rfl, ?_⟩ | refine ⟨rfl, ?_⟩))
      exact ⟨_, rfl⟩
    · obtain ⟨rfl, a4, rfl⟩ := q
      (repeat (first | refine ⟨_, rfl, ?_⟩ | refine ⟨_, _, rfl, rfl, ?_⟩ | refine ⟨_, _, rfl, ?_⟩ | refine ⟨rfl, ?_⟩))
      refine ⟨le_line (by simp), fun r nr => k _ _ (Same.new nr) ⟨r, rfl, ?_⟩⟩
      rw [upd_same]
      have e1 : (trn 3 p).1 = -p.1 := by simp [trn]; omega
      have e2 : (trn 3 p).2 = -p.2 := by simp [trn]; omega
      rw [e1, e2]
      rfl
def spCellTo (cTu : Addr) : Sp := fun vs H Q _ => ∃ (t : Addr) (c : Cell) (v : V), vs = [.ref t, v] ∧ TuAt cTu H t ∧ Tp H (cellV c) v ∧ ∀ u H', Same H H' → Tp H' (cellV (opp c)) u → Q u H'
theorem ok_cell_to (T : Txt K w mg) (F : MDef K "cell_to" "Turning.cell_to" s_Turning_cell_to [] [] f fd) (c_corners_of : Cal P w K mg base CX0 "corners_of" P_corners_of 2 spCorners) (c_cell_with : Cal P w K mg base CX0 "cell_with" P_cell_with 1 spCellWith)
    (c_place_to : Met P w K mg base CX0 cTu "place_to" P_Turning_place_to 1 (spPlaceTo cTu)) : FnOk P w K mg base CX0 3 f fd P_Turning_cell_to (spCellTo cTu) := by
  refine F.ok sc_Turning_cell_to (fun vs H Q E h => ?_) (fun cdv A outer s H vs Q E hr h => ?_)
  · obtain ⟨t, p, v, rfl, _⟩ := h; rfl
  · obtain ⟨t, c, v, rfl, ht, hv, k⟩ := h
    refine ⟨_, PSs.nox (pss_one (ps_ret (pe_cal c_cell_with (hr.mono (by decide)) rfl (pa_cons (pe_lc (own := [("corner", 2)]) (g := gName 2) rfl sc_Turning_cell_to.nd (pi_list (pe_cal c_corners_of (hr.mono (by decide)) rfl (pa_cons (pv 1) pa_nil))) (blkOk_by (N := N_Turning_cell_to) (sc := defScope s_Turning_cell_to) (own := [("corner", 2)]) (by decide +kernel)) (fun _ _ _ _ _ => (pg_name (i := 2) sc_Turning_cell_to.nd rfl (Or.inl rfl))) (fun _ _ _ _ _ => pts_nil) (fun _ _ _ _ _ => (pe_metC c_place_to (pv 0) (hr.mono (by decide)) (pa_cons (pv 2) pa_nil)))) pa_nil)))), ?_⟩
    (repeat (first | refine ⟨_, rfl, ?_⟩ | refine ⟨_, _, rfl, rfl, ?_⟩ | refine ⟨_, _, rfl, ?_⟩ | refine ⟨rfl, ?_⟩))
    refine ⟨c, v, rfl, hv, fun l H1 s1 hL => ?_⟩
    obtain ⟨cs, hl, hT⟩ := hL
    (repeat (first | refine ⟨_, rfl, ?_⟩ | refine ⟨_, _, rfl, rfl, ?_⟩ | refine ⟨_, _, rfl, ?_⟩ | refine ⟨rfl, ?_⟩))
    refine ⟨⟨cs, SqL.of hl⟩, fun D nD => ?_⟩
    have hlw : cs.length = (corners c).length := hT.length
    have hc3 := corners_len c
    have hz : cs.length ≤ 16000000 := by omega
    refine lc_lst placeV ((corners c).map fun p => (-p.1, -p.2)) hl (by rw [hlw, List.length_map]) hz nD (fun i x y H2 hxi hyi s N hN => ?_) (fun H2 s2 hL2 => ?_)
    · obtain ⟨pc, hpc, tp⟩ := hT.get hxi
      have ey : y = (-pc.1, -pc.2) := by
        rw [List.getElem?_map, hpc] at hyi
        exact (Option.some.inj hyi).symm
      subst ey
      (repeat (first | refine ⟨_, rfl, ?_⟩ | refine ⟨_, _, rfl, rfl, ?_⟩ | refine ⟨_, _, rfl, ?_⟩ | refine ⟨rfl, ?_⟩))
      obtain ⟨dx, ht2⟩ := (ht.mono s1).mono s
      refine ⟨t, dx, _, rfl, ht2, rfl, ?_⟩
      (repeat (first | refine ⟨_, rfl, ?_⟩ | refine ⟨_, _, rfl, rfl, ?_⟩ | refine ⟨_, _, rfl, ?_⟩ | refine ⟨rfl, ?_⟩))
      exact ⟨t, pc, x, rfl, ⟨dx, ht2⟩, tp.mono s, hN⟩
    · (repeat (first | refine ⟨_, rfl, ?_⟩ | refine ⟨_, _, rfl, rfl, ?_⟩ | refine ⟨_, _, rfl, ?_⟩ | refine ⟨rfl, ?_⟩))
      refine ⟨opp c, D, _, rfl, hL2, opp_corners c, fun u H3 s3 hu => ?_⟩
      exact k _ _ (s1.trans (s2.trans s3)) hu
end
end SV
end

section
set_option Elab.async false
set_option linter.all false
set_option maxRecDepth 100000
set_option maxHeartbeats 4000000
/-! Heaps of spots, views. -/
namespace SV
open PySem PySem.Spec PyProof.Rows L2
/-- a heap of spots that says s -/
def SpotsAt (cSp : Addr) (H : Hp) (a : Addr) (s : List Spot) : Prop := ∃ dx fi fs ws, H a = some (.ins cSp dx [("inks", fi), ("rows", .ref fs)]) ∧ H fs = some (.tup ws) ∧ Tps H spotV ws s
theorem SpotsAt.mono {cSp : Addr} {H H' : Hp} {a : Addr} {s : List Spot} (e : Same H H') (h : SpotsAt cSp H a s) : SpotsAt cSp H' a s :=
  let ⟨dx, fi, fs, ws, h1, h2, h3⟩ := h; ⟨dx, fi, fs, ws, e _ _ h1, e _ _ h2, h3.mono e⟩
section
variable {P : Program} {w : World} {K : PySem.W.Frag} {mg : Str → Option Value} {base : Heap} {f : Addr} {fd : FuncData} {cTu cSp cVi cSh : Addr} {dvs : List V} {kws : List (Str × V)}
/- Spots.__init__ -/
abbrev N_Spots___init__ : List Str := ["self", "rows", "inks", "x", "y", "ink", "places", "place"]
abbrev P_Spots___init__ : List Str := ["self", "rows"]
theorem sc_Spots___init : FnScope N_Spots___init__ P_Spots___init__ (defScope s_Spots___init__) := ⟨rfl, rfl, rfl, by decide +kernel, rfl, by decide +kernel, by decide +kernel⟩
/- Spots.single -/
abbrev N_Spots_single : List Str := ["self"]
abbrev P_Spots_single : List Str := ["self"]
theorem sc_Spots_single : FnScope N_Spots_single P_Spots_single (defScope s_Spots_single) := ⟨rfl, rfl, rfl, by decide +kernel, rfl, by decide +kernel, by decide +kernel⟩
def spSpInit (cSp : Addr) : Sp := fun vs H Q _ => ∃ (t l dx : Addr) (l0 : List Spot), vs = [.ref t, .ref l] ∧ l0.length ≤ 1000000 ∧ H t = some (.ins cSp dx []) ∧ Ls H spotV l l0 ∧ ∀ H' s, SameX t H H' → SpotsAt cSp H' t s → Canon l0 s → Q .non H'
theorem ok_Sp_init (T : Txt K w mg) (TC : TxtC K cTu cSp cVi cSh) (F : MDef K "__init__" "Spots.__init__" s_Spots___init__ dvs kws f fd) : FnOk P w K mg base CX0 1 f fd P_Spots___init__ (spSpInit cSp) := by
  refine F.ok sc_Spots___init (fun vs H Q E h => ?_) (fun cdv A outer s H vs Q E hr h => ?_)
  · obtain ⟨t, l, dx, l0, rfl, _⟩ := h; rfl
  · obtain ⟨t, l, dx, l0, rfl, hl0, ht, hL, k⟩ := h
    have hu16 := hu16_of hr
    have hu := hu1_of hr
    refine ⟨_, PSs.nox (pss_cons (ps_set (i := 2) sc_Spots___init.nd rfl (Or.inr rfl) pe_dnewT)
      (pss_cons (ps_for PassesOwn.never rfl (pi_list (pv 1)) (pg_tup rfl (pgs_cons (pg_name (i := 3) sc_Spots___init.nd rfl (Or.inl rfl)) (pgs_cons (pg_name (i := 4) sc_Spots___init.nd rfl (Or.inl rfl)) (pgs_cons (pg_name (i := 5) sc_Spots___init.nd rfl (Or.inl rfl)) pgs_nil))))
        (pss_one (ps_dput hu (pv 2) (pe_tup (pa_cons (pv 3) (pa_cons (pv 4) pa_nil))) (pe_op op_add (pe_dget2 hu (pv 2) (pe_tup (pa_cons (pv 3) (pa_cons (pv 4) pa_nil))) pe_int ⟨rfl, rfl, rfl, rfl⟩) (pv 5)) rfl)))
      (pss_cons (ps_setLc (own := [("place", 7)]) (i := 6) (g := gName 7) rfl sc_Spots___init.nd rfl rfl (sw_true rfl rfl rfl (by decide +kernel)) (pi_list (pe_callB (cr_sortedT rfl hu16) (by rfl) T.z_sorted (by decide +kernel) (pa_cons (pv 2) pa_nil))) (blkOk_by (N := N_Spots___init__) (sc := defScope s_Spots___init__) (own := [("place", 7)]) (by decide +kernel)) (fun _ _ _ _ _ => (pg_name (i := 7) sc_Spots___init.nd rfl (Or.inl rfl))) (fun _ _ _ _ _ => pts_one (pt_cmpR op_ne (pe_dget hu (pv 2) (pv 7) (fun _ _ => rfl)) pe_int (nomark _))) (fun _ _ _ _ _ => (pv 7)))
      (pss_cons (ps_fld (pv 0) (pe_dcT (own := [("place", 7)]) (g := gName 7) hu rfl sc_Spots___init.nd (pi_list (pv 6)) (blkOk_by (N := N_Spots___init__) (sc := defScope s_Spots___init__) (own := [("place", 7)]) (by decide +kernel)) (fun _ _ _ _ _ => (pg_name (i := 7) sc_Spots___init.nd rfl (Or.inl rfl))) (fun _ _ _ _ _ => pts_nil) (fun _ _ _ _ _ => (pv 7)) (fun _ _ _ _ _ => (pe_dget hu (pv 2) (pv 7) (fun _ _ => rfl)))) rfl)
      (pss_one (ps_fld (pv 0) (pe_callTy call_tuple_of (by rfl) T.z_tuple (by decide +kernel) (pa_cons (pe_lc (own := [("x", 3), ("y", 4)]) (g := gTup K 2 (gCons (gName 3) (gCons (gName 4) (gNil)))) rfl sc_Spots___init.nd (pi_list (pv 6)) (blkOk_by (N := N_Spots___init__) (sc := defScope s_Spots___init__) (own := [("x", 3), ("y", 4)]) (by decide +kernel)) (fun _ _ _ _ _ => (pg_tup rfl (pgs_cons (pg_name (i := 3) sc_Spots___init.nd rfl (Or.inl rfl)) (pgs_cons (pg_name (i := 4) sc_Spots___init.nd rfl (Or.inl rfl)) pgs_nil)))) (fun _ _ _ _ _ => pts_nil) (fun _ _ _ _ _ => (pe_tup (pa_cons (pv 3) (pa_cons (pv 4) (pa_cons (pe_dget hu (pv 2) (pe_tup (pa_cons (pv 3) (pa_cons (pv 4) pa_nil))) (fun _ _ => rfl)) pa_nil)))))) pa_nil)) rfl)))))), ?_⟩
    (repeat (first | refine ⟨_, rfl, ?_⟩ | refine ⟨_, _, rfl, rfl, ?_⟩ | refine ⟨_, _, rfl, ?_⟩ | refine ⟨rfl, ?_⟩))
    intro D nD
    obtain ⟨vs, hl, hT⟩ := hL
    have hlen : vs.length = l0.length := hT.length
    have s0 : Same H (upd H D (.dT [])) := Same.new nD
    (repeat (first | refine ⟨_, rfl, ?_⟩ | refine ⟨_, _, rfl, rfl, ?_⟩ | refine ⟨_, _, rfl, ?_⟩ | refine ⟨rfl, ?_⟩))
    refine ⟨⟨vs, SqL.of (s0 _ _ hl)⟩, ?_⟩
    refine for_list (xs := vs) (fun i σ G => (∃ a3 a4 a5, σ = [some (.ref t), some (.ref l), some (.ref D), a3, a4, a5, none, none]) ∧ Same H G ∧ G D = some (.dT (DtK placeK (tally (l0.take i)))))
      ⟨⟨_, _, _, rfl⟩, s0, upd_same⟩ (fun i σ G _ p => SqL.of (p.2.1 _ _ hl)) (fun i v σ G hv p => ?_) (fun σ G p => ?_)
    · obtain ⟨⟨a3, a4, a5, rfl⟩, sG, hD⟩ := p
      obtain ⟨s1, hs1, tv⟩ := hT.get hv
      obtain ⟨a, rfl, ha⟩ := tv.mono sG
      refine ⟨a, spotV s1, rfl, .inl (.inl ha), rfl, ?_⟩
      (repeat (first | refine ⟨_, rfl, ?_⟩ | refine ⟨_, _, rfl, rfl, ?_⟩ | refine ⟨_, _, rfl, ?_⟩ | refine ⟨rfl, ?_⟩))
      refine ⟨isD_t hD, ?_⟩
      (repeat (first | refine ⟨_, rfl, ?_⟩ | refine ⟨_, _, rfl, rfl, ?_⟩ | refine ⟨_, _, rfl, ?_⟩ | refine ⟨rfl, ?_⟩))
      refine ⟨le_line (by simp), fun p np => ?_⟩
      have e1 : (upd G p (.tup [.int s1.1.1, .int s1.1.2])) D = some (.dT (DtK placeK (tally (l0.take i)))) := (Same.new np) _ _ hD
      (repeat (first | refine ⟨_, rfl, ?_⟩ | refine ⟨_, _, rfl, rfl, ?_⟩ | refine ⟨_, _, rfl, ?_⟩ | refine ⟨rfl, ?_⟩))
      refine ⟨_, DGet.t (k := placeK s1.1) e1 upd_same, ?_⟩
      rw [dt_get ko_place (nodup_tally _)]
      (repeat (first | refine ⟨_, rfl, ?_⟩ | refine ⟨_, _, rfl, rfl, ?_⟩ | refine ⟨_, _, rfl, ?_⟩ | refine ⟨rfl, ?_⟩))
      refine ⟨le_line (by simp), fun q nq => ?_⟩
      have e2 : (upd (upd G p (.tup [.int s1.1.1, .int s1.1.2])) q (.tup [.int s1.1.1, .int s1.1.2])) D = some (.dT (DtK placeK (tally (l0.take i)))) := (Same.new nq) _ _ e1
      refine ⟨D, _, rfl, DPut.t (k := placeK s1.1) e2 upd_same ?_, ⟨_, _, _, rfl⟩, ((sG.trans (Same.new np)).trans (Same.new nq)).mut nD, ?_⟩
      · rw [dtK_length]
        have := length_tally (l0.take i)
        rw [List.length_take] at this
        exact lt_line (m := 1000001) (by omega) (by decide)
      · rw [upd_same, tally_snoc hs1, ← dt_put ko_place (nodup_tally _)]
    · obtain ⟨⟨a3, a4, a5, rfl⟩, sG, hD⟩ := p
      rw [List.take_of_length_le (by omega)] at hD
      have nd0 := nodup_tally l0
      (repeat (first | refine ⟨_, rfl, ?_⟩ | refine ⟨_, _, rfl, rfl, ?_⟩ | refine ⟨_, _, rfl, ?_⟩ | refine ⟨rfl, ?_⟩))
      refine r_sortT ko_place dat_place hD fun p ws ys np yp yw yT => ?_
      have s1 : Same G (upd G p (.lst ws)) := Same.new np
      have hlw : ws.length = ys.length := yT.length
      have hly : ys.length ≤ 1000000 := by
        rw [yp.length_eq]
        have := length_tally l0
        omega
      refine ⟨p, rfl, ⟨ws, SqL.of upd_same⟩, fun D2 nD2 => ?_⟩
      refine lc_lsF (J := Itl K p) (n := ws.length) (fun q : Spot => placeV q.1) (fun q => decide (q.2 ≠ 0)) ys hlw.symm (by omega) nD2 (fun i H hi s => ⟨ws, ws[i], SqL.of (s _ _ upd_same), List.getElem?_eq_getElem hi⟩) (fun H s => ⟨ws, SqL.of (s _ _ upd_same), Nat.le_refl _⟩) (fun i y H2 hyi s2 N M hN hM x H3 e => ?_) (fun H2 s2 hL2 => ?_)
      · obtain ⟨rfl, hx⟩ := e
        have hxi := hx ws (SqL.of (s2 _ _ upd_same))
        obtain ⟨y', ey, ty⟩ := yT.get hxi
        rw [hyi] at ey
        cases ey
        have ty3 := (ty.mono s1).mono s2
        obtain ⟨a, rfl, ha⟩ := ty3
        have hmem : y ∈ tally l0 := yp.mem_iff.mp (List.mem_of_getElem? hyi)
        (repeat (first | refine ⟨_, rfl, ?_⟩ | refine ⟨_, _, rfl, rfl, ?_⟩ | refine ⟨_, _, rfl, ?_⟩ | refine ⟨rfl, ?_⟩))
        refine ⟨D, _, rfl, dget_at ko_place nd0 (s2 _ _ (s1 _ _ hD)) hmem ha, ?_⟩
        (repeat (first | refine ⟨_, rfl, ?_⟩ | refine ⟨_, _, rfl, rfl, ?_⟩ | refine ⟨_, _, rfl, ?_⟩ | refine ⟨rfl, ?_⟩))
        refine itB (fun h => ?_) (fun h => ?_)
        · (repeat (first | refine ⟨_, rfl, ?_⟩ | refine ⟨_, _, rfl, rfl, ?_⟩ | refine ⟨_, _, rfl, ?_⟩ | refine ⟨rfl, ?_⟩))
          exact hN (by rw [← ne0]; exact h) _ _ (Same.refl _) ⟨a, rfl, ha⟩
        · exact hM (by rw [← ne0]; exact h) _ (Same.refl _)
      · obtain ⟨zs, hz1, hz2⟩ := hL2
        generalize hq : ys.filter (fun q => decide (q.2 ≠ 0)) = sp at hz2
        have hc : Canon l0 sp := by rw [← hq]; exact canon_filter yp yw
        have hlz : zs.length = sp.length := hz2.length
        have hls : sp.length ≤ 1000000 := by
          rw [← hq]
          exact Nat.le_trans (List.length_filter_le _ _) hly
        have hmem : ∀ q ∈ sp, q ∈ tally l0 := fun q h => yp.mem_iff.mp (List.mem_filter.mp (by rw [hq]; exact h)).1
        have hD2 : H2 D = some (.dT (DtK placeK (tally l0))) := s2 _ _ (s1 _ _ hD)
        have sH2 : Same H H2 := sG.trans (s1.trans s2)
        (repeat (first | refine ⟨_, rfl, ?_⟩ | refine ⟨_, _, rfl, rfl, ?_⟩ | refine ⟨_, _, rfl, ?_⟩ | refine ⟨rfl, ?_⟩))
        refine ⟨⟨zs, SqL.of hz1⟩, fun D3 nD3 => ?_⟩
        refine dc_dt (J := Itl K D2) ko_place (n := zs.length) sp hc.nd hlz.symm (by omega) nD3 (fun i H hi s => ⟨zs, zs[i], SqL.of (s _ _ hz1), List.getElem?_eq_getElem hi⟩) (fun H s => ⟨zs, SqL.of (s _ _ hz1), Nat.le_refl _⟩) (fun i y H3 hyi s3 N hN x H4 e => ?_) (fun H3 s3 hD3 => ?_)
        · obtain ⟨rfl, hx⟩ := e
          obtain ⟨y', ey, ty⟩ := hz2.get (hx zs (SqL.of (s3 _ _ hz1)))
          rw [hyi] at ey
          cases ey
          obtain ⟨a, rfl, ha⟩ := ty.mono s3
          (repeat (first | refine ⟨_, rfl, ?_⟩ | refine ⟨_, _, rfl, rfl, ?_⟩ | refine ⟨_, _, rfl, ?_⟩ | refine ⟨rfl, ?_⟩))
          refine ⟨D, _, rfl, dget_at ko_place nd0 (s3 _ _ hD2) (hmem y (List.mem_of_getElem? hyi)) ha, ?_⟩
          exact hN _ _ _ (Same.refl _) ⟨a, rfl, ha⟩ rfl
        · (repeat (first | refine ⟨_, rfl, ?_⟩ | refine ⟨_, _, rfl, rfl, ?_⟩ | refine ⟨_, _, rfl, ?_⟩ | refine ⟨rfl, ?_⟩))
          refine ⟨t, cSp, dx, [], rfl, s3 _ _ (sH2 _ _ ht), TC.sp, TC.a_spinks, by decide, ?_⟩
          have x3 : SameX t H3 (upd H3 t (.ins cSp dx (putF "inks" (.ref D3) []))) := SameX.put
          have ntz : t ≠ D2 := by
            rintro rfl
            rw [sH2 _ _ ht] at hz1
            cases hz1
          have hz3 := x3 _ _ (Ne.symm ntz) (s3 _ _ hz1)
          (repeat (first | refine ⟨_, rfl, ?_⟩ | refine ⟨_, _, rfl, rfl, ?_⟩ | refine ⟨_, _, rfl, ?_⟩ | refine ⟨rfl, ?_⟩))
          refine ⟨⟨zs, SqL.of hz3⟩, fun D4 nD4 => ?_⟩
          have nt0 : ∀ {A : Addr} {u : HO}, H2 A = some u → A ≠ t → (upd H3 t (.ins cSp dx (putF "inks" (.ref D3) []))) A = some u := fun e n => x3 _ _ n (s3 _ _ e)
          have ntD : D ≠ t := by
            rintro rfl
            rw [sH2 _ _ ht] at hD2
            cases hD2
          refine lc_lst (f := spotV) sp hz3 hlz.symm (by omega) nD4 (fun i x y H4 hxi hyi s4 N hN => ?_) (fun H4 s4 hL4 => ?_)
          · obtain ⟨y', ey, ty⟩ := hz2.get hxi
            rw [hyi] at ey
            cases ey
            obtain ⟨a, rfl, ha⟩ := ty
            have nta : a ≠ t := by
              rintro rfl
              rw [sH2 _ _ ht] at ha
              cases ha
            have ha4 := s4 _ _ (nt0 ha nta)
            refine ⟨a, _, rfl, .inl (.inl ha4), rfl, ?_⟩
            (repeat (first | refine ⟨_, rfl, ?_⟩ | refine ⟨_, _, rfl, rfl, ?_⟩ | refine ⟨_, _, rfl, ?_⟩ | refine ⟨rfl, ?_⟩))
            refine ⟨le_line (by simp), fun p np => ?_⟩
            refine ⟨D, _, rfl, dget_at ko_place nd0 ((Same.new np) _ _ (s4 _ _ (nt0 hD2 ntD))) (hmem y (List.mem_of_getElem? hyi)) upd_same, ?_⟩
            (repeat (first | refine ⟨_, rfl, ?_⟩ | refine ⟨_, _, rfl, rfl, ?_⟩ | refine ⟨_, _, rfl, ?_⟩ | refine ⟨rfl, ?_⟩))
            refine ⟨le_line (by simp), fun r nr => ?_⟩
            exact hN _ _ ((Same.new np).trans (Same.new nr)) ⟨r, rfl, upd_same⟩
          · obtain ⟨us, hu1, hu2⟩ := hL4
            (repeat (first | refine ⟨_, rfl, ?_⟩ | refine ⟨_, _, rfl, rfl, ?_⟩ | refine ⟨_, _, rfl, ?_⟩ | refine ⟨rfl, ?_⟩))
            refine ⟨D4, us, rfl, .inl ⟨SqL.of hu1, fun z nz => ?_⟩⟩
            (repeat (first | refine ⟨_, rfl, ?_⟩ | refine ⟨_, _, rfl, rfl, ?_⟩ | refine ⟨_, _, rfl, ?_⟩ | refine ⟨rfl, ?_⟩))
            have hz5 : (upd H4 z (.tup us)) t = some (.ins cSp dx [("inks", .ref D3)]) := (Same.new nz) _ _ (s4 _ _ upd_same)
            refine ⟨t, cSp, dx, _, rfl, hz5, TC.sp, TC.a_sprows, by simp, ?_⟩
            have ntz2 : z ≠ t := by
              rintro rfl
              rw [s4 _ _ upd_same] at nz
              cases nz
            exact k _ sp ((sH2.x t).trans ((s3.x t).trans (x3.trans ((s4.x t).trans (((Same.new nz).x t).trans SameX.put))))) ⟨dx, .ref D3, z, us, upd_same, by rw [upd_ne ntz2, upd_same], hu2.monoT ((Same.new nz).t.trans (SameT.ins hz5))⟩ hc
end
end SV
end

section
set_option Elab.async false
set_option linter.all false
set_option maxRecDepth 100000
set_option maxHeartbeats 4000000
/-! Sheets. -/
namespace SV
open PySem PySem.Spec PyProof.Rows L2
/-- a sheet that says s, its dict at d -/
def SheetD (cSh : Addr) (H : Hp) (a : Addr) (s : List Row) (d : Addr) : Prop := ∃ dx z ws, H a = some (.ins cSh dx [("rows", .ref z), ("inks", .ref d)]) ∧ H z = some (.tup ws) ∧ Tps H rowV ws s ∧ H d = some (.dT (DtK cellK s))
def SheetAt (cSh : Addr) (H : Hp) (a : Addr) (s : List Row) : Prop := ∃ dx z ws d, H a = some (.ins cSh dx [("rows", .ref z), ("inks", .ref d)]) ∧ H z = some (.tup ws) ∧ Tps H rowV ws s ∧ H d = some (.dT (DtK cellK s))
theorem SheetD.at {cSh : Addr} {H : Hp} {a d : Addr} {s : List Row} (h : SheetD cSh H a s d) : SheetAt cSh H a s := let ⟨dx, z, ws, h⟩ := h; ⟨dx, z, ws, d, h⟩
theorem SheetD.mono {cSh : Addr} {H H' : Hp} {a d : Addr} {s : List Row} (e : Same H H') (h : SheetD cSh H a s d) : SheetD cSh H' a s d :=
  let ⟨dx, z, ws, h1, h2, h3, h4⟩ := h; ⟨dx, z, ws, e _ _ h1, e _ _ h2, h3.mono e, e _ _ h4⟩
theorem SheetAt.mono {cSh : Addr} {H H' : Hp} {a : Addr} {s : List Row} (e : Same H H') (h : SheetAt cSh H a s) : SheetAt cSh H' a s :=
  let ⟨dx, z, ws, d, h1, h2, h3, h4⟩ := h; ⟨dx, z, ws, d, e _ _ h1, e _ _ h2, h3.mono e, e _ _ h4⟩
theorem none_back {t D : Addr} {H H' : Hp} (s : SameX t H H') (n : D ≠ t) (h : H' D = none) : H D = none := by
  cases e : H D with
  | none => rfl
  | some u => rw [s _ _ n e] at h; cases h
section
variable {P : Program} {w : World} {K : PySem.W.Frag} {mg : Str → Option Value} {base : Heap} {f : Addr} {fd : FuncData} {cTu cSp cVi cSh : Addr} {dvs : List V} {kws : List (Str × V)}
/- Sheet.__init__ -/
abbrev N_Sheet___init__ : List Str := ["self", "rows", "inks", "x", "y", "kind", "ink", "cell", "found"]
abbrev P_Sheet___init__ : List Str := ["self", "rows"]
theorem sc_Sheet___init : FnScope N_Sheet___init__ P_Sheet___init__ (defScope s_Sheet___init__) := ⟨rfl, rfl, rfl, by decide +kernel, rfl, by decide +kernel, by decide +kernel⟩
def spShInit (cSh : Addr) : Sp := fun vs H Q _ => ∃ (t l dx : Addr) (l0 : List Row), vs = [.ref t, .ref l] ∧ l0.length ≤ 1000000 ∧ H t = some (.ins cSh dx []) ∧ Sq H rowV l l0 ∧ ∀ H' s d, SameX t H H' → SheetD cSh H' t s d → H d = none → Canon l0 s → Q .non H'
theorem ok_Sh_init (T : Txt K w mg) (TC : TxtC K cTu cSp cVi cSh) (F : MDef K "__init__" "Sheet.__init__" s_Sheet___init__ dvs kws f fd) (c_check_kind : Cal P w K mg base CX0 "check_kind" P_check_kind 1 spCheckKind) : FnOk P w K mg base CX0 2 f fd P_Sheet___init__ (spShInit cSh) := by
  refine F.ok sc_Sheet___init (fun vs H Q E h => ?_) (fun cdv A outer s H vs Q E hr h => ?_)
  · obtain ⟨t, l, dx, l0, rfl, _⟩ := h; rfl
  · obtain ⟨t, l, dx, l0, rfl, hl0, ht, ⟨vs, hl, hT⟩, k⟩ := h
    have hu16 := hu16_of hr
    have hu := hu1_of hr
    have hlen : vs.length = l0.length := hT.length
    refine ⟨_, PSs.nox (pss_cons (ps_set (i := 2) sc_Sheet___init.nd rfl (Or.inl rfl) pe_dnewT)
      (pss_cons (ps_for PassesOwn.never rfl (pi_or (pi_list (pv 1)) (pi_tup (pv 1))) (pg_tup rfl (pgs_cons (pg_name (i := 3) sc_Sheet___init.nd rfl (Or.inl rfl)) (pgs_cons (pg_name (i := 4) sc_Sheet___init.nd rfl (Or.inl rfl)) (pgs_cons (pg_name (i := 5) sc_Sheet___init.nd rfl (Or.inl rfl)) (pgs_cons (pg_name (i := 6) sc_Sheet___init.nd rfl (Or.inl rfl)) pgs_nil)))))
        (pss_cons (ps_set (i := 7) sc_Sheet___init.nd rfl (Or.inl rfl) (pe_tup (pa_cons (pv 3) (pa_cons (pv 4) (pa_cons (pv 5) pa_nil)))))
        (pss_cons (ps_expr (pe_cal c_check_kind (hr.mono (by decide)) rfl (pa_cons (pv 7) pa_nil)))
        (pss_one (ps_dput hu (pv 2) (pv 7) (pe_op op_add (pe_dget2 hu (pv 2) (pv 7) pe_int ⟨rfl, rfl, rfl, rfl⟩) (pv 6)) rfl)))))
      (pss_cons (ps_lock (ps_setLc (own := [("cell", 7), ("ink", 6)]) (i := 8) (g := gTup K 2 (gCons (gName 7) (gCons (gName 6) (gNil)))) rfl sc_Sheet___init.nd rfl rfl (sw_true rfl rfl rfl (by decide +kernel)) (pi_itemsT (pv 2)) (blkOk_by (N := N_Sheet___init__) (sc := defScope s_Sheet___init__) (own := [("cell", 7), ("ink", 6)]) (by decide +kernel)) (fun _ _ _ _ _ => (pg_tup rfl (pgs_cons (pg_name (i := 7) sc_Sheet___init.nd rfl (Or.inl rfl)) (pgs_cons (pg_name (i := 6) sc_Sheet___init.nd rfl (Or.inl rfl)) pgs_nil)))) (fun _ _ _ _ _ => pts_one (pt_cmpR op_ne (pv 6) pe_int (nomark _))) (fun _ _ _ _ _ => (pe_tup (pa_cons (pe_ix (r := rIxT K) ix_tup (pv 7) pe_int (fun _ _ => rfl)) (pa_cons (pe_ix (r := rIxT K) ix_tup (pv 7) pe_int (fun _ _ => rfl)) (pa_cons (pe_ix (r := rIxT K) ix_tup (pv 7) pe_int (fun _ _ => rfl)) (pa_cons (pv 6) pa_nil))))))))
      (pss_cons (ps_fld (pv 0) (pe_callTy call_tuple_of (by rfl) T.z_tuple (by decide +kernel) (pa_cons (pe_callB (cr_sortedD hu16) (by rfl) T.z_sorted (by decide +kernel) (pa_cons (pv 8) pa_nil)) pa_nil)) rfl)
      (pss_one (ps_fld (pv 0) (pe_dcT (own := [("x", 3), ("y", 4), ("kind", 5), ("ink", 6)]) (g := gTup K 4 (gCons (gName 3) (gCons (gName 4) (gCons (gName 5) (gCons (gName 6) (gNil)))))) hu rfl sc_Sheet___init.nd (pi_tup (pe_fld (pv 0) rfl)) (blkOk_by (N := N_Sheet___init__) (sc := defScope s_Sheet___init__) (own := [("x", 3), ("y", 4), ("kind", 5), ("ink", 6)]) (by decide +kernel)) (fun _ _ _ _ _ => (pg_tup rfl (pgs_cons (pg_name (i := 3) sc_Sheet___init.nd rfl (Or.inl rfl)) (pgs_cons (pg_name (i := 4) sc_Sheet___init.nd rfl (Or.inl rfl)) (pgs_cons (pg_name (i := 5) sc_Sheet___init.nd rfl (Or.inl rfl)) (pgs_cons (pg_name (i := 6) sc_Sheet___init.nd rfl (Or.inl rfl)) pgs_nil)))))) (fun _ _ _ _ _ => pts_nil) (fun _ _ _ _ _ => (pe_tup (pa_cons (pv 3) (pa_cons (pv 4) (pa_cons (pv 5) pa_nil))))) (fun _ _ _ _ _ => (pv 6))) rfl)))))), ?_⟩
    (repeat (first | refine ⟨_, rfl, ?_⟩ | refine ⟨_, _, rfl, rfl, ?_⟩ | refine ⟨_, _, rfl, ?_⟩ | refine ⟨rfl, ?_⟩))
    intro D nD
    have s0 : Same H (upd H D (.dT [])) := Same.new nD
    (repeat (first | refine ⟨_, rfl, ?_⟩ | refine ⟨_, _, rfl, rfl, ?_⟩ | refine ⟨_, _, rfl, ?_⟩ | refine ⟨rfl, ?_⟩))
    refine for_seq (j := 1) (vs := vs) rfl (hl.mono s0) (fun i σ G => (∃ a3 a4 a5 a6 a7, σ = [some (.ref t), some (.ref l), some (.ref D), a3, a4, a5, a6, a7, none]) ∧ Same H G ∧ G D = some (.dT (DtK cellK (tally (l0.take i)))))
      ⟨⟨_, _, _, _, _, rfl⟩, s0, upd_same⟩ (fun i σ G p => hl.stays s0 p.2.1) (fun i v σ G hv p => ?_) (fun σ G p => ?_)
    · obtain ⟨⟨a3, a4, a5, a6, a7, rfl⟩, sG, hD⟩ := p
      obtain ⟨s1, hs1, tv⟩ := hT.get hv
      obtain ⟨a, rfl, ha⟩ := tv.mono sG
      refine ⟨a, rowV s1, rfl, .inl (.inl ha), rfl, ?_⟩
      (repeat (first | refine ⟨_, rfl, ?_⟩ | refine ⟨_, _, rfl, rfl, ?_⟩ | refine ⟨_, _, rfl, ?_⟩ | refine ⟨rfl, ?_⟩))
      refine ⟨le_line (by simp), fun p np => ?_⟩
      have sp := Same.new (o := .tup (cellV s1.1)) np
      (repeat (first | refine ⟨_, rfl, ?_⟩ | refine ⟨_, _, rfl, rfl, ?_⟩ | refine ⟨_, _, rfl, ?_⟩ | refine ⟨rfl, ?_⟩))
      have e1 := sp _ _ hD
      refine ⟨s1.1, _, rfl, ⟨p, rfl, upd_same⟩, ?_⟩
      (repeat (first | refine ⟨_, rfl, ?_⟩ | refine ⟨_, _, rfl, rfl, ?_⟩ | refine ⟨_, _, rfl, ?_⟩ | refine ⟨rfl, ?_⟩))
      refine ⟨isD_t e1, ?_⟩
      (repeat (first | refine ⟨_, rfl, ?_⟩ | refine ⟨_, _, rfl, rfl, ?_⟩ | refine ⟨_, _, rfl, ?_⟩ | refine ⟨rfl, ?_⟩))
      refine ⟨_, dget_coef ko_cell e1 upd_same, ?_⟩
      rw [dt_get ko_cell (nodup_tally _)]
      (repeat (first | refine ⟨_, rfl, ?_⟩ | refine ⟨_, _, rfl, rfl, ?_⟩ | refine ⟨_, _, rfl, ?_⟩ | refine ⟨rfl, ?_⟩))
      have := length_tally (l0.take i)
      rw [List.length_take] at this
      refine ⟨D, _, rfl, dput_bump ko_cell (nodup_tally _) e1 upd_same (by omega), ⟨_, _, _, _, _, rfl⟩, (sG.trans sp).mut nD, ?_⟩
      rw [upd_same, tally_snoc hs1]
    · obtain ⟨⟨a3, a4, a5, a6, a7, rfl⟩, sG, hD⟩ := p
      rw [List.take_of_length_le (by omega)] at hD
      have nd0 := nodup_tally l0
      have lt0 := length_tally l0
      refine ⟨D, _, hD, mut_dT, fun od => ?_⟩
      have hF : (upd G D (.frz od (.dT (DtK cellK (tally l0))))) D = some (.frz od (.dT (DtK cellK (tally l0)))) := upd_same
      have sT0 : SameT G (upd G D (.frz od (.dT (DtK cellK (tally l0))))) := SameT.dT hD
      generalize hG1 : upd G D (.frz od (.dT (DtK cellK (tally l0)))) = G1 at hF sT0
      (repeat (first | refine ⟨_, rfl, ?_⟩ | refine ⟨_, _, rfl, rfl, ?_⟩ | refine ⟨_, _, rfl, ?_⟩ | refine ⟨rfl, ?_⟩))
      refine ⟨D, od, DtK cellK (tally l0), rfl, hF, fun D2 nD2 => ?_⟩
      refine lc_lsF (J := ItiT D od (DtK cellK (tally l0))) (n := (tally l0).length) rowV (fun q => decide (q.2 ≠ 0)) (tally l0) rfl (by omega) nD2 (fun i H hi s => ⟨s _ _ hF, by rw [dtK_length]; exact hi⟩) (fun H s => ⟨s _ _ hF, by rw [dtK_length]; exact Nat.le_refl _⟩) (fun i y H2 hyi s2 N M hN hM x H3 e => ?_) (fun H2 s2 hL2 => ?_)
      · obtain ⟨t2, q, kk, v, hkv, rfl, nt2, hq, rfl⟩ := e
        have ekv : (kk, v) = (cellK y.1, V.int y.2) := by
          unfold DtK at hkv
          rw [List.getElem?_map, hyi] at hkv
          exact (Option.some.inj hkv).symm
        cases ekv
        have st := Same.new (o := .tup [.ref q, .int y.2]) nt2
        have hq3 : (upd H2 t2 (.tup [.ref q, .int y.2])) q = some (.tup (cellV y.1)) := st _ _ hq
        refine ⟨t2, _, rfl, .inl (.inl upd_same), rfl, ?_⟩
        (repeat (first | refine ⟨_, rfl, ?_⟩ | refine ⟨_, _, rfl, rfl, ?_⟩ | refine ⟨_, _, rfl, ?_⟩ | refine ⟨rfl, ?_⟩))
        refine itB (fun h => ?_) (fun h => ?_)
        · (repeat (first | refine ⟨_, rfl, ?_⟩ | refine ⟨_, _, rfl, rfl, ?_⟩ | refine ⟨_, _, rfl, ?_⟩ | refine ⟨rfl, ?_⟩))
          refine ⟨q, cellV y.1, 0, _, rfl, rfl, .inl (.inl hq3), rfl, ?_⟩
          (repeat (first | refine ⟨_, rfl, ?_⟩ | refine ⟨_, _, rfl, rfl, ?_⟩ | refine ⟨_, _, rfl, ?_⟩ | refine ⟨rfl, ?_⟩))
          refine ⟨q, cellV y.1, 1, _, rfl, rfl, .inl (.inl hq3), rfl, ?_⟩
          (repeat (first | refine ⟨_, rfl, ?_⟩ | refine ⟨_, _, rfl, rfl, ?_⟩ | refine ⟨_, _, rfl, ?_⟩ | refine ⟨rfl, ?_⟩))
          refine ⟨q, cellV y.1, 2, _, rfl, rfl, .inl (.inl hq3), rfl, ?_⟩
          (repeat (first | refine ⟨_, rfl, ?_⟩ | refine ⟨_, _, rfl, rfl, ?_⟩ | refine ⟨_, _, rfl, ?_⟩ | refine ⟨rfl, ?_⟩))
          exact ⟨le_line (by simp), fun r nr => hN (by rw [← ne0]; exact h) _ _ (st.trans (Same.new nr)) ⟨r, rfl, upd_same⟩⟩
        · exact hM (by rw [← ne0]; exact h) _ st
      · obtain ⟨zs, hz1, hz2⟩ := hL2
        refine ⟨s2 _ _ hF, ?_⟩
        generalize hG3 : upd H2 D (.dT (DtK cellK (tally l0))) = G3
        have sG3 : Same G G3 := by rw [← hG3]; exact same_unlock hD (by rw [hG1]; exact s2)
        have nDD : D2 ≠ D := by
          rintro rfl
          rw [hF] at nD2
          cases nD2
        have hz3 : G3 D2 = some (.lst zs) := by rw [← hG3, upd_ne nDD]; exact hz1
        have zT : Tps G3 rowV zs ((tally l0).filter fun q => decide (q.2 ≠ 0)) := by
          rw [← hG3]
          exact hz2.monoT fun a fs e => by
            rw [upd_ne (ne_of e (s2 _ _ hF) (fun z => nomatch z))]
            exact e
        (repeat (first | refine ⟨_, rfl, ?_⟩ | refine ⟨_, _, rfl, rfl, ?_⟩ | refine ⟨_, _, rfl, ?_⟩ | refine ⟨rfl, ?_⟩))
        refine r_sort dat_row (SqL.of hz3) zT fun p ws ys np yp yw yT => ?_
        have hc : Canon l0 ys := Canon.of_perm yp yw
        have lz : ys.length ≤ 1000000 := by
          rw [yp.length_eq]
          exact Nat.le_trans (List.length_filter_le _ _) (by omega)
        have s4 : Same G3 (upd G3 p (.lst ws)) := Same.new np
        refine ⟨p, ws, rfl, .inl ⟨SqL.of upd_same, fun z nz => ?_⟩⟩
        have s5 : Same (upd G3 p (.lst ws)) (upd (upd G3 p (.lst ws)) z (.tup ws)) := Same.new nz
        have sH5 := sG.trans (sG3.trans (s4.trans s5))
        have yT5 := (yT.mono s4).mono s5
        generalize hG5 : upd (upd G3 p (.lst ws)) z (.tup ws) = G5 at s5 sH5 yT5
        have hz5 : G5 z = some (.tup ws) := by rw [← hG5]; exact upd_same
        (repeat (first | refine ⟨_, rfl, ?_⟩ | refine ⟨_, _, rfl, rfl, ?_⟩ | refine ⟨_, _, rfl, ?_⟩ | refine ⟨rfl, ?_⟩))
        refine ⟨t, cSh, dx, [], rfl, sH5 _ _ ht, TC.sh, TC.a_rows, by decide, ?_⟩
        have x5 : SameX t G5 (upd G5 t (.ins cSh dx (putF "rows" (.ref z) []))) := SameX.put
        have ntz : z ≠ t := by
          rintro rfl
          rw [sH5 _ _ ht] at hz5
          cases hz5
        have hz6 : (upd G5 t (.ins cSh dx (putF "rows" (.ref z) []))) z = some (.tup ws) := x5 _ _ ntz hz5
        have yT6 : Tps (upd G5 t (.ins cSh dx (putF "rows" (.ref z) []))) rowV ws ys := yT5.monoT (SameT.ins (sH5 _ _ ht))
        have ht6 : (upd G5 t (.ins cSh dx (putF "rows" (.ref z) []))) t = some (.ins cSh dx [("rows", .ref z)]) := upd_same
        generalize hG6 : upd G5 t (.ins cSh dx (putF "rows" (.ref z) [])) = G6 at x5 hz6 yT6 ht6
        have lw : ws.length = ys.length := yT6.length
        (repeat (first | refine ⟨_, rfl, ?_⟩ | refine ⟨_, _, rfl, rfl, ?_⟩ | refine ⟨_, _, rfl, ?_⟩ | refine ⟨rfl, ?_⟩))
        refine ⟨t, cSh, dx, _, _, rfl, ht6, TC.sh, TC.a_rows, rfl, ?_⟩
        refine ⟨z, rfl, ⟨ws, .inl (.inl hz6)⟩, fun D3 nD3 => ?_⟩
        refine dc_dt (J := Itt K z) ko_cell (n := ws.length) ys hc.nd lw.symm (by omega) nD3 (fun i H hi s => ⟨ws, ws[i], .inl (.inl (s _ _ hz6)), List.getElem?_eq_getElem hi⟩) (fun H s => ⟨ws, .inl (.inl (s _ _ hz6)), Nat.le_refl _⟩) (fun i y H3 hyi s3 N hN x H4 e => ?_) (fun H3 s3 hD3 => ?_)
        · obtain ⟨rfl, hx⟩ := e
          obtain ⟨y', ey, ty⟩ := yT6.get (hx ws (.inl (.inl (s3 _ _ hz6))))
          rw [hyi] at ey
          cases ey
          obtain ⟨a, rfl, ha⟩ := ty.mono s3
          refine ⟨a, _, rfl, .inl (.inl ha), rfl, ?_⟩
          (repeat (first | refine ⟨_, rfl, ?_⟩ | refine ⟨_, _, rfl, rfl, ?_⟩ | refine ⟨_, _, rfl, ?_⟩ | refine ⟨rfl, ?_⟩))
          refine ⟨le_line (by simp), fun r nr => ?_⟩
          (repeat (first | refine ⟨_, rfl, ?_⟩ | refine ⟨_, _, rfl, rfl, ?_⟩ | refine ⟨_, _, rfl, ?_⟩ | refine ⟨rfl, ?_⟩))
          exact hN _ _ _ (Same.new nr) ⟨r, rfl, upd_same⟩ rfl
        · (repeat (first | refine ⟨_, rfl, ?_⟩ | refine ⟨_, _, rfl, rfl, ?_⟩ | refine ⟨_, _, rfl, ?_⟩ | refine ⟨rfl, ?_⟩))
          have ht7 := s3 _ _ ht6
          refine ⟨t, cSh, dx, _, rfl, ht7, TC.sh, TC.a_inks, by simp, ?_⟩
          have ntD3 : D3 ≠ t := by
            rintro rfl
            rw [ht6] at nD3
            cases nD3
          have x7 : SameX t H3 (upd H3 t (.ins cSh dx (putF "inks" (.ref D3) [("rows", .ref z)]))) := SameX.put
          exact k _ ys D3 ((sH5.x t).trans (x5.trans ((s3.x t).trans x7))) ⟨dx, z, ws, upd_same, x7 _ _ ntz (s3 _ _ hz6), (yT6.mono s3).monoT (SameT.ins ht7), x7 _ _ ntD3 hD3⟩ (none_back ((sH5.x t).trans x5) ntD3 nD3) hc
end
end SV
end

section
set_option Elab.async false
set_option linter.all false
set_option maxRecDepth 100000
set_option maxHeartbeats 4000000
/-! Views. -/
namespace SV
open PySem PySem.Spec PyProof.Rows L2
/-- six heaps in a Views -/
def ViewsAt (cVi cSp : Addr) (H : Hp) (a : Addr) (ss : List (List Spot)) : Prop := ∃ dx z ws, H a = some (.ins cVi dx [("heaps", .ref z)]) ∧ H z = some (.tup ws) ∧ Paired (fun v s => ∃ b, v = V.ref b ∧ SpotsAt cSp H b s) ws ss
theorem ViewsAt.mono {cVi cSp : Addr} {H H' : Hp} {a : Addr} {ss : List (List Spot)} (e : Same H H') (h : ViewsAt cVi cSp H a ss) : ViewsAt cVi cSp H' a ss :=
  let ⟨dx, z, ws, h1, h2, h3⟩ := h; ⟨dx, z, ws, e _ _ h1, e _ _ h2, L2.Paired.mapP h3 fun _ _ ⟨b, e1, e2⟩ => ⟨b, e1, e2.mono e⟩⟩
def Six (l : List Row) (ss : List (List Spot)) : Prop := ss.length = 6 ∧ ∀ i x, ss[i]? = some x → Canon (vl i l) x
theorem same_made {H : Hp} {x dx C : Addr} (nx : H x = none) (ndx : H dx = none) (ne : dx ≠ x) : Same H (upd (upd H dx (.own x)) x (.ins C dx [])) := fun a u e => by
  rw [upd_ne (ne_of_none e nx), upd_ne (ne_of_none e ndx)]
  exact e
theorem mk_sp {cSp : Addr} {H : Hp} {Q2 : VK} {E : XK} {l x dx : Addr} {l0 : List Spot} (nx : H x = none) (ndx : H dx = none) (ne : dx ≠ x) (hL : Ls H spotV l l0) (hz : l0.length ≤ 1000000) (k : ∀ H' s, Same H H' → SpotsAt cSp H' x s → Canon l0 s → Q2 .non H') :
    spSpInit cSp (.ref x :: ([.ref l] ++ [])) (upd (upd H dx (.own x)) x (.ins cSp dx [])) Q2 E :=
  ⟨x, l, dx, l0, rfl, hz, upd_same, hL.mono (same_made nx ndx ne), fun H' s sx hs hc => k H' s (SameX.same nx (same_made nx ndx ne) sx) hs hc⟩
theorem Sq.mono {α : Type} {H H' : Hp} {f : α → List V} {l : Addr} {xs : List α} (e : Same H H') (h : Sq H f l xs) : Sq H' f l xs := let ⟨vs, h1, h2⟩ := h; ⟨vs, h1.mono e, h2.mono e⟩
theorem mk_sh {cSh : Addr} {H : Hp} {Q2 : VK} {E : XK} {l x dx : Addr} {l0 : List Row} (nx : H x = none) (ndx : H dx = none) (ne : dx ≠ x) (hL : Sq H rowV l l0) (hz : l0.length ≤ 1000000) (k : ∀ H' s d, Same H H' → SheetD cSh H' x s d → H d = none → Canon l0 s → Q2 .non H') :
    spShInit cSh (.ref x :: ([.ref l] ++ [])) (upd (upd H dx (.own x)) x (.ins cSh dx [])) Q2 E :=
  ⟨x, l, dx, l0, rfl, hz, upd_same, hL.mono (same_made nx ndx ne), fun H' s d sx hs hd hc => k H' s d (SameX.same nx (same_made nx ndx ne) sx) hs (none_of_upd (none_of_upd hd)) hc⟩
theorem Paired.snoc {α β : Type} {R : α → β → Prop} {as : List α} {bs : List β} {a : α} {b : β} (h : Paired R as bs) (r : R a b) : Paired R (as ++ [a]) (bs ++ [b]) := by
  induction h with
  | nil => exact .cons r .nil
  | cons x _ ih => exact .cons x ih
section
variable {P : Program} {w : World} {K : PySem.W.Frag} {mg : Str → Option Value} {base : Heap} {f : Addr} {fd : FuncData} {cTu cSp cVi cSh : Addr} {dvs : List V} {kws : List (Str × V)}
/- Views.__init__ -/
abbrev N_Views___init__ : List Str := ["self", "heaps"]
abbrev P_Views___init__ : List Str := ["self", "heaps"]
theorem sc_Views___init : FnScope N_Views___init__ P_Views___init__ (defScope s_Views___init__) := ⟨rfl, rfl, rfl, by decide +kernel, rfl, by decide +kernel, by decide +kernel⟩
/- Views.of_sheet -/
abbrev N_Views_of_sheet : List Str := ["sheet", "heaps", "view", "rows", "x", "y", "kind", "ink", "a", "b"]
abbrev P_Views_of_sheet : List Str := ["sheet"]
theorem sc_Views_of_sheet : FnScope N_Views_of_sheet P_Views_of_sheet (defScope s_Views_of_sheet) := ⟨rfl, rfl, rfl, by decide +kernel, rfl, by decide +kernel, by decide +kernel⟩
def spViInit (cVi cSp : Addr) : Sp := fun vs H Q _ => ∃ (t l dx : Addr) (ws : List V) (ss : List (List Spot)), vs = [.ref t, .ref l] ∧ ss.length = 6 ∧ H t = some (.ins cVi dx []) ∧ H l = some (.lst ws) ∧ Paired (fun v s => ∃ b, v = V.ref b ∧ SpotsAt cSp H b s) ws ss ∧ ∀ H', SameX t H H' → ViewsAt cVi cSp H' t ss → Q .non H'
theorem ok_Vi_init (T : Txt K w mg) (TC : TxtC K cTu cSp cVi cSh) (F : MDef K "__init__" "Views.__init__" s_Views___init__ dvs kws f fd) : FnOk P w K mg base CX0 1 f fd P_Views___init__ (spViInit cVi cSp) := by
  refine F.ok sc_Views___init (fun vs H Q E h => ?_) (fun cdv A outer s H vs Q E hr h => ?_)
  · obtain ⟨t, l, dx, ws, ss, rfl, _⟩ := h; rfl
  · obtain ⟨t, l, dx, ws, ss, rfl, h6, ht, hl, hP, k⟩ := h
    have lw : ws.length = 6 := by rw [← h6]; exact Paired.length hP
    refine ⟨_, PSs.nox (pss_cons (ps_if (pt_cmpR op_ne (pe_callB call_len_seq (by rfl) T.z_len (by decide +kernel) (pa_cons (pv 1) pa_nil)) pe_int (nomark _))
        (pss_one ps_never)
        pss_nil)
      (pss_one (ps_fld (pv 0) (pe_callTy call_tuple_of (by rfl) T.z_tuple (by decide +kernel) (pa_cons (pv 1) pa_nil)) rfl))), ?_⟩
    (repeat (first | refine ⟨_, rfl, ?_⟩ | refine ⟨_, _, rfl, rfl, ?_⟩ | refine ⟨_, _, rfl, ?_⟩ | refine ⟨rfl, ?_⟩))
    refine ⟨l, ws, rfl, .inl (SqL.of hl), ?_⟩
    rw [lw]
    (repeat (first | refine ⟨_, rfl, ?_⟩ | refine ⟨_, _, rfl, rfl, ?_⟩ | refine ⟨_, _, rfl, ?_⟩ | refine ⟨rfl, ?_⟩))
    refine ⟨l, ws, rfl, .inl ⟨SqL.of hl, fun z nz => ?_⟩⟩
    (repeat (first | refine ⟨_, rfl, ?_⟩ | refine ⟨_, _, rfl, rfl, ?_⟩ | refine ⟨_, _, rfl, ?_⟩ | refine ⟨rfl, ?_⟩))
    have s1 : Same H (upd H z (.tup ws)) := Same.new nz
    refine ⟨t, cVi, dx, [], rfl, s1 _ _ ht, TC.vi, TC.a_heaps, by decide, ?_⟩
    have ntz : z ≠ t := by
      rintro rfl
      rw [ht] at nz
      cases nz
    have x1 : SameX t (upd H z (.tup ws)) (upd (upd H z (.tup ws)) t (.ins cVi dx (putF "heaps" (.ref z) []))) := SameX.put
    refine k _ ((s1.x t).trans x1) ⟨dx, z, ws, upd_same, x1 _ _ ntz upd_same, L2.Paired.mapP hP ?_⟩
    rintro v s ⟨b, rfl, d2, fi, fs, us, g1, g2, g3⟩
    have nbt : b ≠ t := by
      rintro rfl
      rw [ht] at g1
      cases g1
    have nft : fs ≠ t := by
      rintro rfl
      rw [ht] at g2
      cases g2
    exact ⟨b, rfl, d2, fi, fs, us, x1 _ _ nbt (s1 _ _ g1), x1 _ _ nft (s1 _ _ g2), (g3.mono s1).monoT (SameT.ins (s1 _ _ ht))⟩
theorem mk_vi {H : Hp} {Q2 : VK} {E : XK} {l x dx : Addr} {ws : List V} {ss : List (List Spot)} (nx : H x = none) (ndx : H dx = none) (ne : dx ≠ x) (h6 : ss.length = 6) (hl : H l = some (.lst ws)) (hP : Paired (fun v s => ∃ b, v = V.ref b ∧ SpotsAt cSp H b s) ws ss) (k : ∀ H', Same H H' → ViewsAt cVi cSp H' x ss → Q2 .non H') :
    spViInit cVi cSp (.ref x :: ([.ref l] ++ [])) (upd (upd H dx (.own x)) x (.ins cVi dx [])) Q2 E :=
  have s := same_made (C := cVi) nx ndx ne
  ⟨x, l, dx, ws, ss, rfl, h6, upd_same, s _ _ hl, L2.Paired.mapP hP fun _ _ ⟨b, e1, e2⟩ => ⟨b, e1, e2.mono s⟩, fun H' sx hs => k H' (SameX.same nx s sx) hs⟩
def spOfSheet (cSh cVi cSp : Addr) : Sp := fun vs H Q _ => ∃ (sh : Addr) (s : List Row), vs = [.ref sh] ∧ s.length ≤ 1000000 ∧ SheetAt cSh H sh s ∧ ∀ v H' ss, Same H H' → ViewsAt cVi cSp H' v ss → Six s ss → Q (.ref v) H'
theorem ok_of_sheet (T : Txt K w mg) (TC : TxtC K cTu cSp cVi cSh) (F : MDef K "of_sheet" "Views.of_sheet" s_Views_of_sheet dvs kws f fd) (c_lowest : Cal P w K mg base CX0 "lowest" P_lowest 3 spLowest) (c_sign_of : Cal P w K mg base CX0 "sign_of" P_sign_of 1 spSign)
    (mk_Spots : Mkr P w K mg base CX0 "Spots" cSp P_Spots___init__ 1 (spSpInit cSp)) (mk_Views : Mkr P w K mg base CX0 "Views" cVi P_Views___init__ 1 (spViInit cVi cSp)) : FnOk P w K mg base CX0 4 f fd P_Views_of_sheet (spOfSheet cSh cVi cSp) := by
  refine F.ok sc_Views_of_sheet (fun vs H Q E h => ?_) (fun cdv A outer s H vs Q E hr h => ?_)
  · obtain ⟨sh, s, rfl, _⟩ := h; rfl
  · obtain ⟨sh, s, rfl, hz, hs, k⟩ := h
    refine ⟨_, PSs.nox (pss_cons (ps_set (i := 1) sc_Views_of_sheet.nd rfl (Or.inl rfl) (pe_lst pa_nil))
      (pss_cons (ps_for PassesOwn.never rfl (pi_range1 rfl T.z_range (pa_cons pe_int pa_nil)) (pg_name (i := 2) sc_Views_of_sheet.nd rfl (Or.inl rfl))
        (pss_cons (ps_set (i := 3) sc_Views_of_sheet.nd rfl (Or.inl rfl) (pe_lst pa_nil))
        (pss_cons (ps_for PassesOwn.never rfl (pi_tup (pe_fld (pv 0) rfl)) (pg_tup rfl (pgs_cons (pg_name (i := 4) sc_Views_of_sheet.nd rfl (Or.inl rfl)) (pgs_cons (pg_name (i := 5) sc_Views_of_sheet.nd rfl (Or.inl rfl)) (pgs_cons (pg_name (i := 6) sc_Views_of_sheet.nd rfl (Or.inl rfl)) (pgs_cons (pg_name (i := 7) sc_Views_of_sheet.nd rfl (Or.inl rfl)) pgs_nil)))))
          (pss_cons (ps_asg (pe_cal c_lowest (hr.mono (by decide)) rfl (pa_cons (pv 2) (pa_cons (pe_tup (pa_cons (pv 4) (pa_cons (pv 5) (pa_cons (pv 6) pa_nil)))) pa_nil))) (pg_tup rfl (pgs_cons (pg_name (i := 8) sc_Views_of_sheet.nd rfl (Or.inl rfl)) (pgs_cons (pg_name (i := 9) sc_Views_of_sheet.nd rfl (Or.inl rfl)) pgs_nil))))
          (pss_one (ps_expr (pe_bm PySem.F.plainAttrs_list PySem.F.slot_list_append PySem.F.type_list_append mt_append (pv 3) (pa_cons (pe_tup (pa_cons (pv 8) (pa_cons (pv 9) (pa_cons (pe_op op_mul (pv 7) (pe_cal c_sign_of (hr.mono (by decide)) rfl (pa_cons (pe_tup (pa_cons (pv 4) (pa_cons (pv 5) (pa_cons (pv 6) pa_nil)))) pa_nil))) pa_nil)))) pa_nil))))))
        (pss_one (ps_expr (pe_bm PySem.F.plainAttrs_list PySem.F.slot_list_append PySem.F.type_list_append mt_append (pv 1) (pa_cons (pe_mkC mk_Spots (hr.mono (by decide)) rfl (pa_cons (pv 3) pa_nil)) pa_nil)))))))
      (pss_one (ps_ret (pe_mkC mk_Views (hr.mono (by decide)) rfl (pa_cons (pv 1) pa_nil)))))), ?_⟩
    (repeat (first | refine ⟨_, rfl, ?_⟩ | refine ⟨_, _, rfl, rfl, ?_⟩ | refine ⟨_, _, rfl, ?_⟩ | refine ⟨rfl, ?_⟩))
    refine ⟨le_line (by simp), fun D nD => ?_⟩
    have s0 : Same H (upd H D (.lst [])) := Same.new nD
    (repeat (first | refine ⟨_, rfl, ?_⟩ | refine ⟨_, _, rfl, rfl, ?_⟩ | refine ⟨_, _, rfl, ?_⟩ | refine ⟨rfl, ?_⟩))
    refine ⟨by decide, by decide, ?_⟩
    refine for_range (n := 6) (fun i σ G => (∃ a2 a3 a4 a5 a6 a7 a8 a9, σ = [some (.ref sh), some (.ref D), a2, a3, a4, a5, a6, a7, a8, a9]) ∧ Same H G ∧ ∃ ws ss, G D = some (.lst ws) ∧ Paired (fun v s => ∃ b, v = V.ref b ∧ SpotsAt cSp G b s) ws ss ∧ ss.length = i ∧ ∀ j x, ss[j]? = some x → Canon (vl j s) x)
      ⟨⟨_, _, _, _, _, _, _, _, rfl⟩, s0, [], [], upd_same, .nil, rfl, fun j x h => by simp at h⟩ (fun i σ G hi p => ?_) (fun σ G p => ?_)
    · obtain ⟨⟨a2, a3, a4, a5, a6, a7, a8, a9, rfl⟩, sG, ws, ss, hD, hP, hn, hc⟩ := p
      (repeat (first | refine ⟨_, rfl, ?_⟩ | refine ⟨_, _, rfl, rfl, ?_⟩ | refine ⟨_, _, rfl, ?_⟩ | refine ⟨rfl, ?_⟩))
      refine ⟨le_line (by simp), fun R nR => ?_⟩
      have sR : Same G (upd G R (.lst [])) := Same.new nR
      obtain ⟨dx, z, us, d, h1, hz0, h3', h4⟩ := hs.mono sG
      (repeat (first | refine ⟨_, rfl, ?_⟩ | refine ⟨_, _, rfl, rfl, ?_⟩ | refine ⟨_, _, rfl, ?_⟩ | refine ⟨rfl, ?_⟩))
      refine ⟨sh, cSh, dx, _, _, rfl, sR _ _ h1, TC.sh, TC.a_rows, rfl, ?_⟩
      refine ⟨z, rfl, ⟨us, .inl (.inl (sR _ _ hz0))⟩, ?_⟩
      have lu : us.length = s.length := h3'.length
      refine for_tup (xs := us) (fun j σ G2 => (∃ a4 a5 a6 a7 a8 a9, σ = [some (.ref sh), some (.ref D), some (.int (0 + (i : Nat))), some (.ref R), a4, a5, a6, a7, a8, a9]) ∧ Same G G2 ∧ Ls G2 spotV R ((vl i s).take j))
        ⟨⟨_, _, _, _, _, _, rfl⟩, sR, [], upd_same, .nil⟩ (fun j σ G2 _ p => .inl (.inl (p.2.1 _ _ hz0))) (fun j x σ G2 hx p => ?_) (fun σ G2 p => ?_)
      · obtain ⟨⟨a4, a5, a6, a7, a8, a9, rfl⟩, s2, acc, hR, hT⟩ := p
        obtain ⟨r, hr1, tr⟩ := h3'.get hx
        obtain ⟨a, rfl, ha⟩ := tr.mono s2
        refine ⟨a, rowV r, rfl, .inl (.inl ha), rfl, ?_⟩
        (repeat (first | refine ⟨_, rfl, ?_⟩ | refine ⟨_, _, rfl, rfl, ?_⟩ | refine ⟨_, _, rfl, ?_⟩ | refine ⟨rfl, ?_⟩))
        refine ⟨le_line (by simp), fun p np => ?_⟩
        have sp := Same.new (o := .tup (cellV r.1)) np
        (repeat (first | refine ⟨_, rfl, ?_⟩ | refine ⟨_, _, rfl, rfl, ?_⟩ | refine ⟨_, _, rfl, ?_⟩ | refine ⟨rfl, ?_⟩))
        refine ⟨i, r.1, .ref p, by simp, by omega, ⟨p, rfl, upd_same⟩, fun u G3 s3 hu => ?_⟩
        obtain ⟨c, rfl, hc3⟩ := hu
        (repeat (first | refine ⟨_, rfl, ?_⟩ | refine ⟨_, _, rfl, rfl, ?_⟩ | refine ⟨_, _, rfl, ?_⟩ | refine ⟨rfl, ?_⟩))
        refine ⟨c, _, rfl, .inl (.inl hc3), rfl, ?_⟩
        have s23 : Same G2 G3 := sp.trans s3
        (repeat (first | refine ⟨_, rfl, ?_⟩ | refine ⟨_, _, rfl, rfl, ?_⟩ | refine ⟨_, _, rfl, ?_⟩ | refine ⟨rfl, ?_⟩))
        refine ⟨ty_lst (s23 _ _ hR), ?_⟩
        (repeat (first | refine ⟨_, rfl, ?_⟩ | refine ⟨_, _, rfl, rfl, ?_⟩ | refine ⟨_, _, rfl, ?_⟩ | refine ⟨rfl, ?_⟩))
        refine ⟨le_line (by simp), fun q nq => ?_⟩
        have sq := Same.new (o := .tup (cellV r.1)) nq
        (repeat (first | refine ⟨_, rfl, ?_⟩ | refine ⟨_, _, rfl, rfl, ?_⟩ | refine ⟨_, _, rfl, ?_⟩ | refine ⟨rfl, ?_⟩))
        refine ⟨r.1, .ref q, rfl, ⟨q, rfl, upd_same⟩, ?_⟩
        have b1 : CMul r.2 (sgn r.1.2.2) := by
          refine .inr ?_
          cases r.1.2.2 <;> decide
        refine ⟨r.2, sgn r.1.2.2, rfl, rfl, b1, ?_⟩
        (repeat (first | refine ⟨_, rfl, ?_⟩ | refine ⟨_, _, rfl, rfl, ?_⟩ | refine ⟨_, _, rfl, ?_⟩ | refine ⟨rfl, ?_⟩))
        refine ⟨le_line (by simp), fun e ne => ?_⟩
        have se := Same.new (o := .tup (spotV (lowM i r.1, r.2 * sgn r.1.2.2))) ne
        have s2e := s23.trans (sq.trans se)
        refine ⟨R, acc, _, rfl, rfl, s2e _ _ hR, ?_, ⟨_, _, _, _, _, _, rfl⟩, (s2.trans s2e).mut nR, ?_⟩
        · have := hT.length
          rw [List.length_take] at this
          have l2 : (vl i s).length = s.length := List.length_map _
          exact lt_line (m := 1000001) (by omega) (by decide)
        · have hv : (vl i s)[j]? = some (lowM i r.1, r.2 * sgn r.1.2.2) := by
            unfold vl
            rw [List.getElem?_map, hr1]
            rfl
          rw [take_snoc hv]
          exact Ls.push (s2e _ _ hR) (hT.mono s2e) ⟨e, rfl, upd_same⟩
      · obtain ⟨⟨a4, a5, a6, a7, a8, a9, rfl⟩, s2, hL⟩ := p
        rw [List.take_of_length_le (by rw [lu]; unfold vl; rw [List.length_map]; exact Nat.le_refl _)] at hL
        (repeat (first | refine ⟨_, rfl, ?_⟩ | refine ⟨_, _, rfl, rfl, ?_⟩ | refine ⟨_, _, rfl, ?_⟩ | refine ⟨rfl, ?_⟩))
        refine ⟨ty_lst (s2 _ _ hD), ?_⟩
        (repeat (first | refine ⟨_, rfl, ?_⟩ | refine ⟨_, _, rfl, rfl, ?_⟩ | refine ⟨_, _, rfl, ?_⟩ | refine ⟨rfl, ?_⟩))
        intro x dx nx ndx ne
        refine mk_sp nx ndx ne hL (by unfold vl; rw [List.length_map]; exact hz) fun G3 sp s3 hx hcx => ⟨rfl, ?_⟩
        have s4 := s2.trans s3
        refine ⟨D, ws, _, rfl, rfl, s4 _ _ hD, ?_, ⟨_, _, _, _, _, _, _, _, rfl⟩, (sG.trans s4).mut nD, ws ++ [.ref x], ss ++ [sp], upd_same, ?_, by rw [List.length_append, hn]; rfl, ?_⟩
        · have := Paired.length hP
          exact lt_line (m := 1000001) (by omega) (by decide)
        · have sm : ∀ {b : Addr} {s : List Spot}, SpotsAt cSp G3 b s → SpotsAt cSp (upd G3 D (.lst (ws ++ [.ref x]))) b s := fun ⟨dx, fi, fs, us, g1, g2, g3⟩ =>
            ⟨dx, fi, fs, us, by rw [upd_ne (ne_of g1 (s4 _ _ hD) (fun z => nomatch z))]; exact g1, by rw [upd_ne (ne_of g2 (s4 _ _ hD) (fun z => nomatch z))]; exact g2, g3.monoT (SameT.lst (s4 _ _ hD))⟩
          exact Paired.snoc (L2.Paired.mapP hP fun _ _ ⟨b, e1, e2⟩ => ⟨b, e1, sm (e2.mono s4)⟩) ⟨x, rfl, sm hx⟩
        · intro j y hy
          by_cases hj : j < ss.length
          · rw [List.getElem?_append_left hj] at hy
            exact hc j y hy
          · rw [List.getElem?_append_right (by omega)] at hy
            have : j - ss.length = 0 := by
              have h2 := (List.getElem?_eq_some_iff.mp hy).1
              simp at h2
              omega
            rw [this] at hy
            cases hy
            have : j = i := by omega
            rw [this]
            exact hcx
    · obtain ⟨⟨a2, a3, a4, a5, a6, a7, a8, a9, rfl⟩, sG, ws, ss, hD, hP, hn, hc⟩ := p
      (repeat (first | refine ⟨_, rfl, ?_⟩ | refine ⟨_, _, rfl, rfl, ?_⟩ | refine ⟨_, _, rfl, ?_⟩ | refine ⟨rfl, ?_⟩))
      intro x dx nx ndx ne
      exact mk_vi nx ndx ne hn hD hP fun H' s' hv => ⟨rfl, k x H' ss (sG.trans s') hv ⟨hn, hc⟩⟩
end
end SV
end

section
set_option Elab.async false
set_option linter.all false
set_option maxRecDepth 100000
set_option maxHeartbeats 4000000
/-! Products of sheets. -/
namespace SV
open PySem PySem.Spec PyProof.Rows L2
structure TxtS (K : PySem.W.Frag) (w : World) (mg : Str → Option Value) : Prop where
  g_SWEEPS : mg "SWEEPS" = some (.ref (He.ga K "SWEEPS"))
  sweeps : ∀ a b : Kd, ∃ v, KDct K w (He.ga K "SWEEPS") (swKey a b) v ∧ ∀ H, Dp K H v (sweepD a b)
theorem kS_le (a b : Kd) : (!decide ((kS b).cps.toList < (kS a).cps.toList)) = decide (kn a ≤ kn b) := by cases a <;> cases b <;> decide +kernel
theorem kS_len (a b : Kd) : (kS a).length + (kS b).length ≤ 2 := by cases a <;> cases b <;> decide +kernel
theorem sw_key {σ : L2.St} {H : Hp} {Q : VK} {a b : Kd} {i j : Nat} (hi : σ[i]? = some (some (.str (kS a)))) (hj : σ[j]? = some (some (.str (kS b)))) (k : Q (.str (swKey a b)) H) :
    (fun (c : Bool) H1 => if c = true then tOp (fun x y H Q => ∃ i j, x = V.str i ∧ y = V.str j ∧ i.length + j.length ≤ sizeLine ∧ Q (V.str (i ++ j)) H) (tVar i) (tVar j) σ H1 Q
      else tOp (fun x y H Q => ∃ i j, x = V.str i ∧ y = V.str j ∧ i.length + j.length ≤ sizeLine ∧ Q (V.str (i ++ j)) H) (tVar j) (tVar i) σ H1 Q) (!decide ((kS b).cps.toList < (kS a).cps.toList)) H := by
  have l1 := kS_len a b
  have l2 := kS_len b a
  dsimp only
  rw [kS_le]
  unfold swKey at k
  refine itD (fun h => ?_) (fun h => ?_)
  · rw [if_pos h] at k
    exact ⟨_, hi, _, hj, _, _, rfl, rfl, le_line (by omega), k⟩
  · rw [if_neg h] at k
    exact ⟨_, hj, _, hi, _, _, rfl, rfl, le_line (by omega), k⟩
theorem s0_ {G : Hp} : Same (fun _ => none) G := fun _ _ e => nomatch e
theorem dget_frz {κ : Type} [DecidableEq κ] {f : κ → List V} {fk : κ → List L2.Key} (KO : KeyOf f fk) {H : Hp} {D a : Addr} {o : Obj} {t : List (κ × Int)} (nd : (t.map (·.1)).Nodup) (hD : H D = some (.frz o (.dT (DtK fk t)))) {p : κ × Int} (hp : p ∈ t) (ha : H a = some (.tup (f p.1))) : DGet H D (.ref a) (some (.int p.2)) :=
  .inr ⟨DtK fk t, fk p.1, a, .inr ⟨o, hD⟩, rfl, by rw [KO.map]; exact ha, (dt_at KO nd hp).symm⟩
theorem same_lock {H G : Hp} {d : Addr} {fz : HO} (s : Same H G) : Same (upd H d fz) (upd G d fz) := fun a u e => by
  by_cases h : a = d
  · subst h
    rw [upd_same] at e ⊢
    exact e
  · rw [upd_ne h] at e ⊢
    exact s _ _ e
theorem dp_cell {K : PySem.W.Frag} {H : Hp} {v : V} {c : Cell} (h : Dp K H v (.tuple [.int c.1, .int c.2.1, .str (kS c.2.2)])) : ∃ a, v = .ref a ∧ SqT K H a (cellV c) := by
  obtain ⟨a, xs, rfl, h1, h2⟩ := dp_tup h
  cases h2 with
  | cons a1 r1 =>
    cases r1 with
    | cons a2 r2 =>
      cases r2 with
      | cons a3 r3 =>
        cases r3
        rw [dp_int a1, dp_int a2, dp_str a3] at h1
        exact ⟨a, rfl, h1⟩
theorem tally_one {κ : Type} [DecidableEq κ] (l : List (κ × Int)) (p : κ × Int) : tally (l ++ [p]) = bump (tally l) p.1 p.2 := by
  unfold tally
  rw [List.foldl_append]
  rfl
section
variable {P : Program} {w : World} {K : PySem.W.Frag} {mg : Str → Option Value} {base : Heap} {f : Addr} {fd : FuncData} {cTu cSp cVi cSh : Addr} {dvs : List V} {kws : List (Str × V)}
/- sheet_with -/
abbrev N_sheet_with : List Str := ["inks", "cell", "ink"]
abbrev P_sheet_with : List Str := ["inks"]
theorem sc_sheet_with : FnScope N_sheet_with P_sheet_with (defScope s_sheet_with) := ⟨rfl, rfl, rfl, by decide +kernel, rfl, by decide +kernel, by decide +kernel⟩
/- swept_inks -/
abbrev N_swept_inks : List Str := ["first", "second", "inks", "x", "y", "kind", "ink", "a", "b", "other", "factor", "sign", "cells", "product", "dx", "dy", "part", "cell"]
abbrev P_swept_inks : List Str := ["first", "second"]
theorem sc_swept_inks : FnScope N_swept_inks P_swept_inks (defScope s_swept_inks) := ⟨rfl, rfl, rfl, by decide +kernel, rfl, by decide +kernel, by decide +kernel⟩
def spSheetWith (cSh : Addr) : Sp := fun vs H Q _ => ∃ (d : Addr) (l : List Row), vs = [.ref d] ∧ l.length ≤ 1000000 ∧ H d = some (.dT (DtK cellK l)) ∧ ∀ x H' s d2, Same H H' → SheetD cSh H' x s d2 → H d2 = none → Canon l s → Q (.ref x) H'
theorem ok_sheet_with (T : Txt K w mg) (TC : TxtC K cTu cSp cVi cSh) (F : GDef K "sheet_with" s_sheet_with f fd) (mk_Sheet : Mkr P w K mg base CX0 "Sheet" cSh P_Sheet___init__ 2 (spShInit cSh)) : FnOk P w K mg base CX0 4 f fd P_sheet_with (spSheetWith cSh) := by
  refine F.ok sc_sheet_with (fun vs H Q E h => ?_) (fun cdv A outer s H vs Q E hr h => ?_)
  · obtain ⟨d, l, rfl, _⟩ := h; rfl
  · obtain ⟨D, l, rfl, hz, hD, k⟩ := h
    refine ⟨_, PSs.nox (pss_one (ps_ret (pe_mkC mk_Sheet (hr.mono (by decide)) rfl (pa_cons (pe_lock (pe_lc (own := [("cell", 1), ("ink", 2)]) (g := gTup K 2 (gCons (gName 1) (gCons (gName 2) (gNil)))) rfl sc_sheet_with.nd (pi_itemsT (pv 0)) (blkOk_by (N := N_sheet_with) (sc := defScope s_sheet_with) (own := [("cell", 1), ("ink", 2)]) (by decide +kernel)) (fun _ _ _ _ _ => (pg_tup rfl (pgs_cons (pg_name (i := 1) sc_sheet_with.nd rfl (Or.inl rfl)) (pgs_cons (pg_name (i := 2) sc_sheet_with.nd rfl (Or.inl rfl)) pgs_nil)))) (fun _ _ _ _ _ => pts_nil) (fun _ _ _ _ _ => (pe_tup (pa_cons (pe_ix (r := rIxT K) ix_tup (pv 1) pe_int (fun _ _ => rfl)) (pa_cons (pe_ix (r := rIxT K) ix_tup (pv 1) pe_int (fun _ _ => rfl)) (pa_cons (pe_ix (r := rIxT K) ix_tup (pv 1) pe_int (fun _ _ => rfl)) (pa_cons (pv 2) pa_nil)))))))) pa_nil)))), ?_⟩
    (repeat (first | refine ⟨_, rfl, ?_⟩ | refine ⟨_, _, rfl, rfl, ?_⟩ | refine ⟨_, _, rfl, ?_⟩ | refine ⟨rfl, ?_⟩))
    refine ⟨D, _, hD, mut_dT, fun od => ?_⟩
    have hF : (upd H D (.frz od (.dT (DtK cellK l)))) D = some (.frz od (.dT (DtK cellK l))) := upd_same
    have sT0 : SameT H (upd H D (.frz od (.dT (DtK cellK l)))) := SameT.dT hD
    generalize hG1 : upd H D (.frz od (.dT (DtK cellK l))) = G1 at hF sT0
    (repeat (first | refine ⟨_, rfl, ?_⟩ | refine ⟨_, _, rfl, rfl, ?_⟩ | refine ⟨_, _, rfl, ?_⟩ | refine ⟨rfl, ?_⟩))
    refine ⟨D, od, DtK cellK l, rfl, hF, fun D2 nD2 => ?_⟩
    refine lc_ls (J := ItiT D od (DtK cellK l)) (n := l.length) rowV l rfl (by omega) nD2 (fun i H hi s => ⟨s _ _ hF, by rw [dtK_length]; exact hi⟩) (fun H s => ⟨s _ _ hF, by rw [dtK_length]; exact Nat.le_refl _⟩) (fun i y H2 hyi s2 N hN x H3 e => ?_) (fun H2 s2 hL2 => ?_)
    · obtain ⟨t2, q, kk, v, hkv, rfl, nt2, hq, rfl⟩ := e
      have ekv : (kk, v) = (cellK y.1, V.int y.2) := by
        unfold DtK at hkv
        rw [List.getElem?_map, hyi] at hkv
        exact (Option.some.inj hkv).symm
      cases ekv
      have st := Same.new (o := .tup [.ref q, .int y.2]) nt2
      have hq3 : (upd H2 t2 (.tup [.ref q, .int y.2])) q = some (.tup (cellV y.1)) := st _ _ hq
      refine ⟨t2, _, rfl, .inl (.inl upd_same), rfl, ?_⟩
      (repeat (first | refine ⟨_, rfl, ?_⟩ | refine ⟨_, _, rfl, rfl, ?_⟩ | refine ⟨_, _, rfl, ?_⟩ | refine ⟨rfl, ?_⟩))
      refine ⟨q, cellV y.1, 0, _, rfl, rfl, .inl (.inl hq3), rfl, ?_⟩
      (repeat (first | refine ⟨_, rfl, ?_⟩ | refine ⟨_, _, rfl, rfl, ?_⟩ | refine ⟨_, _, rfl, ?_⟩ | refine ⟨rfl, ?_⟩))
      refine ⟨q, cellV y.1, 1, _, rfl, rfl, .inl (.inl hq3), rfl, ?_⟩
      (repeat (first | refine ⟨_, rfl, ?_⟩ | refine ⟨_, _, rfl, rfl, ?_⟩ | refine ⟨_, _, rfl, ?_⟩ | refine ⟨rfl, ?_⟩))
      refine ⟨q, cellV y.1, 2, _, rfl, rfl, .inl (.inl hq3), rfl, ?_⟩
      (repeat (first | refine ⟨_, rfl, ?_⟩ | refine ⟨_, _, rfl, rfl, ?_⟩ | refine ⟨_, _, rfl, ?_⟩ | refine ⟨rfl, ?_⟩))
      exact ⟨le_line (by simp), fun r nr => hN _ _ (st.trans (Same.new nr)) ⟨r, rfl, upd_same⟩⟩
    · obtain ⟨zs, hz1, hz2⟩ := hL2
      refine ⟨s2 _ _ hF, ?_⟩
      generalize hG3 : upd H2 D (.dT (DtK cellK l)) = G3
      have sG3 : Same H G3 := by rw [← hG3]; exact same_unlock hD (by rw [hG1]; exact s2)
      have nDD : D2 ≠ D := by
        rintro rfl
        rw [hF] at nD2
        cases nD2
      have hz3 : G3 D2 = some (.lst zs) := by rw [← hG3, upd_ne nDD]; exact hz1
      have zT : Tps G3 rowV zs l := by
        rw [← hG3]
        exact hz2.monoT fun a fs e => by
          rw [upd_ne (ne_of e (s2 _ _ hF) (fun z => nomatch z))]
          exact e
      (repeat (first | refine ⟨_, rfl, ?_⟩ | refine ⟨_, _, rfl, rfl, ?_⟩ | refine ⟨_, _, rfl, ?_⟩ | refine ⟨rfl, ?_⟩))
      intro x dx nx ndx ne
      refine mk_sh nx ndx ne (Ls.sq ⟨zs, hz3, zT⟩) hz fun G4 s d2 s4 hs nd hc => ⟨rfl, ?_⟩
      refine k x G4 s d2 (sG3.trans s4) hs ?_ hc
      cases e : H d2 with
      | none => rfl
      | some u => rw [sG3 _ _ e] at nd; cases nd
def spSwept : Sp := fun vs H Q _ => ∃ (d1 d2 : Addr) (s t : List Row), vs = [.ref d1, .ref d2] ∧ d1 ≠ d2 ∧ H d1 = some (.dT (DtK cellK s)) ∧ H d2 = some (.dT (DtK cellK t)) ∧ s.length * t.length ≤ 4000 ∧ (∀ p ∈ s, -(2 ^ 64) < p.2 ∧ p.2 < 2 ^ 64) ∧
  ∀ d H', Same H H' → H' d = some (.dT (DtK cellK (nz (tally (sweepL s t))))) → Q (.ref d) H'
theorem ok_swept_inks (T : Txt K w mg) (TS : TxtS K w mg) (F : GDef K "swept_inks" s_swept_inks f fd) : FnOk P w K mg base CX0 1 f fd P_swept_inks spSwept := by
  refine F.ok sc_swept_inks (fun vs H Q E h => ?_) (fun cdv A outer s H vs Q E hr h => ?_)
  · obtain ⟨d1, d2, s, t, rfl, _⟩ := h; rfl
  · obtain ⟨d1, d2, s, t, rfl, n12, h1, h2, hz, hb, k⟩ := h
    have hu := hu1_of hr
    refine ⟨_, PSs.nox (pss_cons (ps_set (i := 2) sc_swept_inks.nd rfl (Or.inr rfl) pe_dnewT)
      (pss_cons (ps_lock (ps_for PassesOwn.never rfl (pi_itemsT (pv 0)) (pg_tup rfl (pgs_cons (pg_tup rfl (pgs_cons (pg_name (i := 3) sc_swept_inks.nd rfl (Or.inl rfl)) (pgs_cons (pg_name (i := 4) sc_swept_inks.nd rfl (Or.inl rfl)) (pgs_cons (pg_name (i := 5) sc_swept_inks.nd rfl (Or.inl rfl)) pgs_nil)))) (pgs_cons (pg_name (i := 6) sc_swept_inks.nd rfl (Or.inl rfl)) pgs_nil)))
        (pss_one (ps_lock (ps_for PassesOwn.never rfl (pi_itemsT (pv 1)) (pg_tup rfl (pgs_cons (pg_tup rfl (pgs_cons (pg_name (i := 7) sc_swept_inks.nd rfl (Or.inl rfl)) (pgs_cons (pg_name (i := 8) sc_swept_inks.nd rfl (Or.inl rfl)) (pgs_cons (pg_name (i := 9) sc_swept_inks.nd rfl (Or.inl rfl)) pgs_nil)))) (pgs_cons (pg_name (i := 10) sc_swept_inks.nd rfl (Or.inl rfl)) pgs_nil)))
          (pss_cons (ps_asg (pe_ix ix_kdict (pe_glob (v := .ref _) rfl TS.g_SWEEPS rfl) (pe_ifExp (pt_cmpR op_le_str (pv 5) (pv 9) (nomark _)) (pe_op op_add_str (pv 5) (pv 9)) (pe_op op_add_str (pv 9) (pv 5))) (fun _ _ => rfl)) (pg_tup rfl (pgs_cons (pg_name (i := 11) sc_swept_inks.nd rfl (Or.inl rfl)) (pgs_cons (pg_name (i := 12) sc_swept_inks.nd rfl (Or.inl rfl)) pgs_nil))))
          (pss_cons (ps_set (i := 13) sc_swept_inks.nd rfl (Or.inl rfl) (pe_op op_mul (pe_op op_mul (pv 11) (pv 6)) (pv 10)))
          (pss_one (ps_for PassesOwn.never rfl (pi_tup (pv 12)) (pg_tup rfl (pgs_cons (pg_name (i := 14) sc_swept_inks.nd rfl (Or.inl rfl)) (pgs_cons (pg_name (i := 15) sc_swept_inks.nd rfl (Or.inl rfl)) (pgs_cons (pg_name (i := 16) sc_swept_inks.nd rfl (Or.inl rfl)) pgs_nil))))
            (pss_cons (ps_set (i := 17) sc_swept_inks.nd rfl (Or.inl rfl) (pe_tup (pa_cons (pe_op op_add (pe_op op_add (pv 3) (pv 7)) (pv 14)) (pa_cons (pe_op op_add (pe_op op_add (pv 4) (pv 8)) (pv 15)) (pa_cons (pv 16) pa_nil)))))
            (pss_one (ps_dput hu (pv 2) (pv 17) (pe_op op_add (pe_dget2 hu (pv 2) (pv 17) pe_int ⟨rfl, rfl, rfl, rfl⟩) (pv 13)) rfl))))))))))))
      (pss_one (ps_ret (pe_lock (pe_dcT (own := [("cell", 17)]) (g := gName 17) hu rfl sc_swept_inks.nd (pi_keys (pv 2)) (blkOk_by (N := N_swept_inks) (sc := defScope s_swept_inks) (own := [("cell", 17)]) (by decide +kernel)) (fun _ _ _ _ _ => (pg_name (i := 17) sc_swept_inks.nd rfl (Or.inl rfl))) (fun _ _ _ _ _ => pts_one (pt_cmpR op_ne (pe_dget hu (pv 2) (pv 17) (fun _ _ => rfl)) pe_int (nomark _))) (fun _ _ _ _ _ => (pv 17)) (fun _ _ _ _ _ => (pe_dget hu (pv 2) (pv 17) (fun _ _ => rfl))))))))), ?_⟩
    (repeat (first | refine ⟨_, rfl, ?_⟩ | refine ⟨_, _, rfl, rfl, ?_⟩ | refine ⟨_, _, rfl, ?_⟩ | refine ⟨rfl, ?_⟩))
    intro D nD
    (repeat (first | refine ⟨_, rfl, ?_⟩ | refine ⟨_, _, rfl, rfl, ?_⟩ | refine ⟨_, _, rfl, ?_⟩ | refine ⟨rfl, ?_⟩))
    have nD1 : D ≠ d1 := by rintro rfl; rw [h1] at nD; cases nD
    have nD2 : D ≠ d2 := by rintro rfl; rw [h2] at nD; cases nD
    refine ⟨d1, _, by rw [upd_ne (Ne.symm nD1)]; exact h1, mut_dT, fun o1 => ?_⟩
    (repeat (first | refine ⟨_, rfl, ?_⟩ | refine ⟨_, _, rfl, rfl, ?_⟩ | refine ⟨_, _, rfl, ?_⟩ | refine ⟨rfl, ?_⟩))
    refine ⟨d1, o1, _, rfl, upd_same, ?_⟩
    generalize hHB : upd H d1 (.frz o1 (.dT (DtK cellK s))) = HB
    have nDB : HB D = none := by rw [← hHB, upd_ne nD1]; exact nD
    have hB1 : HB d1 = some (.frz o1 (.dT (DtK cellK s))) := by rw [← hHB]; exact upd_same
    have hB2 : HB d2 = some (.dT (DtK cellK t)) := by rw [← hHB, upd_ne (Ne.symm n12)]; exact h2
    have sB0 : Same HB (upd (upd H D (.dT [])) d1 (.frz o1 (.dT (DtK cellK s)))) := by rw [← hHB]; exact same_lock (Same.new nD)
    have lenB : ∀ l : List Row, l.length ≤ s.length * t.length * 13 → (tally l).length < 16000000 := fun l hl => by
      have := length_tally l
      have : s.length * t.length * 13 ≤ 4000 * 13 := Nat.mul_le_mul_right _ hz
      omega
    refine for_n (J := ItiT d1 o1 (DtK cellK s)) (n := s.length) (fun i σ G => (∃ a3 a4 a5 a6 a7 a8 a9 a10 a11 a12 a13 a14 a15 a16 a17, σ = [some (.ref d1), some (.ref d2), some (.ref D), a3, a4, a5, a6, a7, a8, a9, a10, a11, a12, a13, a14, a15, a16, a17]) ∧ Same HB G ∧ G D = some (.dT (DtK cellK (tally (sweepL (s.take i) t)))))
      ⟨⟨_, _, _, _, _, _, _, _, _, _, _, _, _, _, _, rfl⟩, sB0, by rw [upd_ne nD1, upd_same]; rfl⟩ (fun i σ G hi p => ⟨p.2.1 _ _ hB1, by rw [dtK_length]; exact hi⟩) (fun σ G p => ⟨p.2.1 _ _ hB1, by rw [dtK_length]; exact Nat.le_refl _⟩) (fun i σ G hi p x G' e => ?_) (fun σ G p => ?_)
    · obtain ⟨⟨a3, a4, a5, a6, a7, a8, a9, a10, a11, a12, a13, a14, a15, a16, a17, rfl⟩, sG, hD⟩ := p
      obtain ⟨t2, q, kk, v, hkv, rfl, nt2, hq, rfl⟩ := e
      obtain ⟨y, hy⟩ : ∃ y, s[i]? = some y := ⟨_, List.getElem?_eq_getElem hi⟩
      have ekv : (kk, v) = (cellK y.1, V.int y.2) := by
        unfold DtK at hkv
        rw [List.getElem?_map, hy] at hkv
        exact (Option.some.inj hkv).symm
      cases ekv
      have st := Same.new (o := .tup [.ref q, .int y.2]) nt2
      have hq3 : (upd G t2 (.tup [.ref q, .int y.2])) q = some (.tup (cellV y.1)) := st _ _ hq
      refine ⟨t2, _, rfl, .inl (.inl upd_same), rfl, ?_⟩
      (repeat (first | refine ⟨_, rfl, ?_⟩ | refine ⟨_, _, rfl, rfl, ?_⟩ | refine ⟨_, _, rfl, ?_⟩ | refine ⟨rfl, ?_⟩))
      refine ⟨q, cellV y.1, rfl, .inl (.inl hq3), rfl, ?_⟩
      (repeat (first | refine ⟨_, rfl, ?_⟩ | refine ⟨_, _, rfl, rfl, ?_⟩ | refine ⟨_, _, rfl, ?_⟩ | refine ⟨rfl, ?_⟩))
      have sG1 := sG.trans st
      have hD1 := st _ _ hD
      generalize hG1 : upd G t2 (.tup [.ref q, .int y.2]) = G1 at sG1 hD1
      refine ⟨d2, _, sG1 _ _ hB2, mut_dT, fun o2 => ?_⟩
      (repeat (first | refine ⟨_, rfl, ?_⟩ | refine ⟨_, _, rfl, rfl, ?_⟩ | refine ⟨_, _, rfl, ?_⟩ | refine ⟨rfl, ?_⟩))
      refine ⟨d2, o2, _, rfl, upd_same, ?_⟩
      have nDC : (upd HB d2 (.frz o2 (.dT (DtK cellK t)))) D = none := by rw [upd_ne nD2]; exact nDB
      have hC2 : (upd HB d2 (.frz o2 (.dT (DtK cellK t)))) d2 = some (.frz o2 (.dT (DtK cellK t))) := upd_same
      have sC0 : Same (upd HB d2 (.frz o2 (.dT (DtK cellK t)))) (upd G1 d2 (.frz o2 (.dT (DtK cellK t)))) := same_lock sG1
      generalize hHC : upd HB d2 (.frz o2 (.dT (DtK cellK t))) = HC at nDC hC2 sC0
      have esw : sweepL (s.take (i + 1)) t = sweepL (s.take i) t ++ t.flatMap fun q => sweep y q := by
        unfold sweepL
        rw [take_snoc hy, List.flatMap_append, List.flatMap_singleton]
      refine for_n (J := ItiT d2 o2 (DtK cellK t)) (n := t.length) (fun j σ G => (∃ a7 a8 a9 a10 a11 a12 a13 a14 a15 a16 a17, σ = [some (.ref d1), some (.ref d2), some (.ref D), some (.int y.1.1), some (.int y.1.2.1), some (.str (kS y.1.2.2)), some (.int y.2), a7, a8, a9, a10, a11, a12, a13, a14, a15, a16, a17]) ∧ Same HC G ∧ G D = some (.dT (DtK cellK (tally (sweepL (s.take i) t ++ (t.take j).flatMap fun q => sweep y q)))))
        ⟨⟨_, _, _, _, _, _, _, _, _, _, _, rfl⟩, sC0, by rw [upd_ne nD2]; simpa using hD1⟩ (fun j σ G hj p => ⟨p.2.1 _ _ hC2, by rw [dtK_length]; exact hj⟩) (fun σ G p => ⟨p.2.1 _ _ hC2, by rw [dtK_length]; exact Nat.le_refl _⟩) (fun j σ G2 hj p x G' e => ?_) (fun σ G2 p => ?_)
      · obtain ⟨⟨a7, a8, a9, a10, a11, a12, a13, a14, a15, a16, a17, rfl⟩, s2, hD2⟩ := p
        obtain ⟨t3, q2, kk, v, hkv, rfl, nt3, hq2, rfl⟩ := e
        obtain ⟨z, hzz⟩ : ∃ z, t[j]? = some z := ⟨_, List.getElem?_eq_getElem hj⟩
        have ekv : (kk, v) = (cellK z.1, V.int z.2) := by
          unfold DtK at hkv
          rw [List.getElem?_map, hzz] at hkv
          exact (Option.some.inj hkv).symm
        cases ekv
        have st3 := Same.new (o := .tup [.ref q2, .int z.2]) nt3
        have hq4 : (upd G2 t3 (.tup [.ref q2, .int z.2])) q2 = some (.tup (cellV z.1)) := st3 _ _ hq2
        refine ⟨t3, _, rfl, .inl (.inl upd_same), rfl, ?_⟩
        (repeat (first | refine ⟨_, rfl, ?_⟩ | refine ⟨_, _, rfl, rfl, ?_⟩ | refine ⟨_, _, rfl, ?_⟩ | refine ⟨rfl, ?_⟩))
        refine ⟨q2, cellV z.1, rfl, .inl (.inl hq4), rfl, ?_⟩
        (repeat (first | refine ⟨_, rfl, ?_⟩ | refine ⟨_, _, rfl, rfl, ?_⟩ | refine ⟨_, _, rfl, ?_⟩ | refine ⟨rfl, ?_⟩))
        refine sw_key rfl rfl ?_
        have s3 := s2.trans st3
        have hD3 := st3 _ _ hD2
        generalize hG3 : upd G2 t3 (.tup [.ref q2, .int z.2]) = G3 at s3 hD3
        obtain ⟨v, hk, hv⟩ := TS.sweeps y.1.2.2 z.1.2.2
        obtain ⟨b, xs, rfl, hb0, hx⟩ := dp_tup (hv fun _ => none)
        refine ⟨_, _, _, rfl, rfl, hk, ?_⟩
        cases hx with
        | cons e1 r1 =>
        cases r1 with
        | cons e2 r2 =>
        cases r2
        obtain rfl := dp_int e1
        obtain ⟨cs, us, rfl, hcs, hus⟩ := dp_tup e2
        refine ⟨b, _, rfl, same_sqt s0_ hb0, rfl, ?_⟩
        (repeat (first | refine ⟨_, rfl, ?_⟩ | refine ⟨_, _, rfl, rfl, ?_⟩ | refine ⟨_, _, rfl, ?_⟩ | refine ⟨rfl, ?_⟩))
        have hsg := sw_sgn y.1.2.2 z.1.2.2
        have hyb := hb y (List.mem_of_getElem? hy)
        refine ⟨.inl (by rcases hsg with e | e <;> rw [e] <;> decide), ?_⟩
        (repeat (first | refine ⟨_, rfl, ?_⟩ | refine ⟨_, _, rfl, rfl, ?_⟩ | refine ⟨_, _, rfl, ?_⟩ | refine ⟨rfl, ?_⟩))
        refine ⟨.inl (by rcases hsg with e | e <;> rw [e] <;> constructor <;> omega), ?_⟩
        (repeat (first | refine ⟨_, rfl, ?_⟩ | refine ⟨_, _, rfl, rfl, ?_⟩ | refine ⟨_, _, rfl, ?_⟩ | refine ⟨rfl, ?_⟩))
        refine ⟨⟨us, same_sqt s0_ hcs⟩, ?_⟩
        have lus : us.length = (swp y.1.2.2 z.1.2.2).2.length := by rw [dpAll_length hus, List.length_map]
        have esw2 : (t.take (j + 1)).flatMap (fun q => sweep y q) = (t.take j).flatMap (fun q => sweep y q) ++ sweep y z := by
          rw [take_snoc hzz, List.flatMap_append, List.flatMap_singleton]
        have lB : (sweepL (s.take i) t ++ (t.take j).flatMap fun q => sweep y q).length + 13 ≤ s.length * t.length * 13 := by
          have e1 : (sweepL (s.take i) t).length ≤ i * t.length * 13 := by
            have := sweepL_len (s.take i) t
            rw [List.length_take, Nat.min_eq_left (by omega)] at this
            exact this
          have e2 : ((t.take j).flatMap fun q => sweep y q).length ≤ j * 13 := by
            have := flat_len (t.take j) (fun q => sweep y q) 13 fun q _ => sweep_len y q
            rw [List.length_take, Nat.min_eq_left (by omega)] at this
            exact this
          have e3 : (i + 1) * t.length ≤ s.length * t.length := Nat.mul_le_mul_right _ hi
          rw [Nat.add_mul] at e3
          rw [List.length_append]
          omega
        generalize hBB : (sweepL (s.take i) t ++ (t.take j).flatMap fun q => sweep y q) = BB at hD3 lB
        refine for_tup (xs := us) (fun m σ G => (∃ a14 a15 a16 a17, σ = [some (.ref d1), some (.ref d2), some (.ref D), some (.int y.1.1), some (.int y.1.2.1), some (.str (kS y.1.2.2)), some (.int y.2), some (.int z.1.1), some (.int z.1.2.1), some (.str (kS z.1.2.2)), some (.int z.2), some (.int (swp y.1.2.2 z.1.2.2).1), some (.ref cs), some (.int ((swp y.1.2.2 z.1.2.2).1 * y.2 * z.2)), a14, a15, a16, a17]) ∧ Same HC G ∧ G D = some (.dT (DtK cellK (tally (BB ++ (sweep y z).take m)))))
          ⟨⟨_, _, _, _, rfl⟩, s3, by simpa using hD3⟩ (fun m σ G _ p => same_sqt s0_ hcs) (fun m x σ G hx p => ?_) (fun σ G p => ?_)
        · obtain ⟨⟨a14, a15, a16, a17, rfl⟩, s4, hD4⟩ := p
          have hm : m < us.length := (List.getElem?_eq_some_iff.mp hx).1
          obtain ⟨c, hc⟩ : ∃ c, (swp y.1.2.2 z.1.2.2).2[m]? = some c := ⟨_, List.getElem?_eq_getElem (by omega)⟩
          obtain ⟨u, hu1, hu2⟩ := dpAll_get (i := m) hus (d := .tuple [.int c.1, .int c.2.1, .str (kS c.2.2)]) (by rw [List.getElem?_map, hc]; rfl)
          rw [hx] at hu1
          cases hu1
          obtain ⟨a, rfl, ha⟩ := dp_cell hu2
          refine ⟨a, _, rfl, same_sqt s0_ ha, rfl, ?_⟩
          (repeat (first | refine ⟨_, rfl, ?_⟩ | refine ⟨_, _, rfl, rfl, ?_⟩ | refine ⟨_, _, rfl, ?_⟩ | refine ⟨rfl, ?_⟩))
          refine ⟨le_line (by simp), fun p np => ?_⟩
          have sp := Same.new (o := .tup (cellV (y.1.1 + z.1.1 + c.1, y.1.2.1 + z.1.2.1 + c.2.1, c.2.2))) np
          have hDp := sp _ _ hD4
          (repeat (first | refine ⟨_, rfl, ?_⟩ | refine ⟨_, _, rfl, rfl, ?_⟩ | refine ⟨_, _, rfl, ?_⟩ | refine ⟨rfl, ?_⟩))
          refine ⟨isD_t hDp, ?_⟩
          (repeat (first | refine ⟨_, rfl, ?_⟩ | refine ⟨_, _, rfl, rfl, ?_⟩ | refine ⟨_, _, rfl, ?_⟩ | refine ⟨rfl, ?_⟩))
          refine ⟨_, dget_coef (k := (y.1.1 + z.1.1 + c.1, y.1.2.1 + z.1.2.1 + c.2.1, c.2.2)) ko_cell hDp upd_same, ?_⟩
          rw [dt_get ko_cell (nodup_tally _)]
          (repeat (first | refine ⟨_, rfl, ?_⟩ | refine ⟨_, _, rfl, rfl, ?_⟩ | refine ⟨_, _, rfl, ?_⟩ | refine ⟨rfl, ?_⟩))
          have hs1 : (sweep y z)[m]? = some ((y.1.1 + z.1.1 + c.1, y.1.2.1 + z.1.2.1 + c.2.1, c.2.2), (swp y.1.2.2 z.1.2.2).1 * y.2 * z.2) := by
            unfold sweep
            rw [List.getElem?_map, hc]
            rfl
          refine ⟨D, _, rfl, dput_bump ko_cell (nodup_tally _) hDp upd_same (lenB _ ?_), ⟨_, _, _, _, rfl⟩, (s4.trans sp).mut nDC, ?_⟩
          · rw [List.length_append]
            have := List.length_take_le m (sweep y z)
            have := sweep_len y z
            have := List.length_take_le' m (sweep y z)
            omega
          · rw [upd_same, take_snoc hs1, ← List.append_assoc, tally_one]
        · obtain ⟨⟨a14, a15, a16, a17, rfl⟩, s4, hD4⟩ := p
          rw [List.take_of_length_le (by rw [lus]; unfold sweep; rw [List.length_map]; exact Nat.le_refl _)] at hD4
          refine ⟨⟨_, _, _, _, _, _, _, _, _, _, _, rfl⟩, s4, ?_⟩
          rw [esw2, ← List.append_assoc, hBB]
          exact hD4
      · obtain ⟨⟨a7, a8, a9, a10, a11, a12, a13, a14, a15, a16, a17, rfl⟩, s2, hD2⟩ := p
        rw [List.take_of_length_le (Nat.le_refl _)] at hD2
        refine ⟨s2 _ _ hC2, ⟨_, _, _, _, _, _, _, _, _, _, _, _, _, _, _, rfl⟩, same_unlock hB2 (by rw [hHC]; exact s2), ?_⟩
        rw [upd_ne nD2, esw]
        exact hD2
    · obtain ⟨⟨a3, a4, a5, a6, a7, a8, a9, a10, a11, a12, a13, a14, a15, a16, a17, rfl⟩, sG, hD⟩ := p
      rw [List.take_of_length_le (Nat.le_refl _)] at hD
      refine ⟨sG _ _ hB1, ?_⟩
      have sU : Same H (upd G d1 (.dT (DtK cellK s))) := same_unlock h1 (by rw [hHB]; exact sG)
      have hDU : (upd G d1 (.dT (DtK cellK s))) D = some (.dT (DtK cellK (tally (sweepL s t)))) := by rw [upd_ne nD1]; exact hD
      generalize hGU : upd G d1 (.dT (DtK cellK s)) = GU at sU hDU
      refine ⟨D, _, hDU, mut_dT, fun o3 => ?_⟩
      (repeat (first | refine ⟨_, rfl, ?_⟩ | refine ⟨_, _, rfl, rfl, ?_⟩ | refine ⟨_, _, rfl, ?_⟩ | refine ⟨rfl, ?_⟩))
      have hF : (upd GU D (.frz o3 (.dT (DtK cellK (tally (sweepL s t)))))) D = some (.frz o3 (.dT (DtK cellK (tally (sweepL s t))))) := upd_same
      generalize hG1 : upd GU D (.frz o3 (.dT (DtK cellK (tally (sweepL s t))))) = G1 at hF
      have nd0 := nodup_tally (sweepL s t)
      have lt0 := lenB (sweepL s t) (sweepL_len s t)
      refine ⟨D, o3, rfl, .inr ⟨DtK cellK (tally (sweepL s t)), hF, fun D4 nD4 => ?_⟩⟩
      refine dc_dtF (J := Itkt D o3 (DtK cellK (tally (sweepL s t)))) ko_cell (n := (tally (sweepL s t)).length) (fun q => decide (q.2 ≠ 0)) (tally (sweepL s t)) nd0 rfl (by omega) nD4 (fun i H hi s => ⟨s _ _ hF, by rw [dtK_length]; exact hi⟩) (fun H s => ⟨s _ _ hF, by rw [dtK_length]; exact Nat.le_refl _⟩) (fun i y H2 hyi s2 N M hN hM x H3 e => ?_) (fun H2 s2 hD5 => ?_)
      · obtain ⟨rfl, kk, v, q, hkv, rfl, hq⟩ := e
        have ekv : (kk, v) = (cellK y.1, V.int y.2) := by
          unfold DtK at hkv
          rw [List.getElem?_map, hyi] at hkv
          exact (Option.some.inj hkv).symm
        cases ekv
        have hmem := List.mem_of_getElem? hyi
        have hq' : H3 q = some (.tup (cellV y.1)) := hq
        (repeat (first | refine ⟨_, rfl, ?_⟩ | refine ⟨_, _, rfl, rfl, ?_⟩ | refine ⟨_, _, rfl, ?_⟩ | refine ⟨rfl, ?_⟩))
        refine ⟨D, _, rfl, dget_frz ko_cell nd0 (s2 _ _ hF) hmem hq', ?_⟩
        (repeat (first | refine ⟨_, rfl, ?_⟩ | refine ⟨_, _, rfl, rfl, ?_⟩ | refine ⟨_, _, rfl, ?_⟩ | refine ⟨rfl, ?_⟩))
        refine itB (fun h => ?_) (fun h => ?_)
        · (repeat (first | refine ⟨_, rfl, ?_⟩ | refine ⟨_, _, rfl, rfl, ?_⟩ | refine ⟨_, _, rfl, ?_⟩ | refine ⟨rfl, ?_⟩))
          refine ⟨D, _, rfl, dget_frz ko_cell nd0 (s2 _ _ hF) hmem hq', ?_⟩
          exact hN (by rw [← ne0]; exact h) _ _ _ (Same.refl _) ⟨q, rfl, hq'⟩ rfl
        · exact hM (by rw [← ne0]; exact h) _ (Same.refl _)
      · refine ⟨s2 _ _ hF, ?_⟩
        have nDD : D4 ≠ D := by
          rintro rfl
          rw [hF] at nD4
          cases nD4
        refine k _ _ (sU.trans (same_unlock hDU (by rw [hG1]; exact s2))) ?_
        rw [upd_ne nDD]
        exact hD5
end
end SV
end

section
set_option Elab.async false
set_option linter.all false
set_option maxRecDepth 100000
set_option maxHeartbeats 4000000
/-! Operators of sheets, counters, the first stubborn view. -/
namespace SV
open PySem PySem.Spec PyProof.Rows L2
section
variable (P : Program) (w : World) (K : PySem.W.Frag) (mg : Str → Option Value) (base : Heap)
/-- a static method -/
structure SCal (C : Addr) (m : Str) (ps : List Str) (k : Nat) (sp : Sp) : Prop where
  ex : ∃ (p g : Addr) (fd : FuncData) (mc : Value), ClX.CRead K C mc ∧ SMet K C mc m p g ∧ FnOk P w K mg base CX0 k g fd ps sp ∧ PySem.W.keepIn K (.ref g) = true ∧ Binds K fd ps []
end
section
variable {X : Cx} {k : Nat} {C : Addr} {ps : List Str} {sp : Sp} {x m : Str} {p pos apos : Pos} {e o : Expr} {es : List Expr} {ta : TE} {t : TA}
theorem pe_smC {pl : Sem Bool} (c : SCal X.prog X.w X.K X.mg X.base C m ps k sp) (he : PE X o ta) (hr : Room k X.A) (ha : PA X (e :: es) t)
    (hst : starEach (e :: es) X.env = (false, eval e X.env) :: starEach es X.env := by rfl) (hpl : (backTo pos (starEach es X.env)).any (·.1) = false := by rfl)
    (ht : eval (.Call (.Attribute o m apos) (e :: es) [] pos) X.env = (do
      let ov ← eval o X.env; standAt apos.atName
      let (f, first) ← holding [ov] (getMethod ov m pl)
      callWith pos f first (backTo pos (starEach (e :: es) X.env)) (backToKw pos (keywordEach [] X.env))) := by rfl) :
    PE X (.Call (.Attribute o m apos) (e :: es) [] pos) (tSMeth C sp [] E0 ta t) := by
  obtain ⟨p, g, fd, mc, r, c, F, hk, hb⟩ := c.ex
  exact pe_smeth he r c F hr hk hb .nil pass0 ha hst hpl ht
theorem un_invC (c : Met X.prog X.w X.K X.mg X.base CX0 C "__invert__" ps k sp) (hr : Room k X.A) : UnR X (unaryOp .Invert) (rOwnUn C sp E0) := by
  obtain ⟨f, fd, F, hm, hb⟩ := c.ex
  exact un_ownInv hm.at_ hm.fn F hr hb pass0
theorem op_mulC (sf : PySem.W.selfFirst X.K C = true) (c : Met X.prog X.w X.K X.mg X.base CX0 C "__mul__" ps k sp) (hr : Room k X.A) : OpR X (binaryOp .Mult) (rOwnBin C sp E0) := by
  obtain ⟨f, fd, F, hm, hb⟩ := c.ex
  exact op_ownBin sf hm.at_ hm.fn F hr hb pass0
end
/-- the classes' names and more -/
structure TxtM (K : PySem.W.Frag) (mg : Str → Option Value) (cTu cSp cVi cSh : Addr) : Prop where
  g_Sheet : mg "Sheet" = some (.ref cSh)
  g_Views : mg "Views" = some (.ref cVi)
  most : ∃ mc u, ClX.CRead K cSh mc ∧ ClX.CVal K cSh mc "MOST" (.int 4000) u
  sf : PySem.W.selfFirst K cSh = true
  k_sh : PySem.W.kitOne K (.ref cSh) (.ref cSh) = some true
  cl_ : PySem.W.findIn K (.ref cSh) "__class__" = some (some (.builtin "object.__class__"))
  cl_get : PySem.W.specialIn K (.builtin "object.__class__") "__get__" = some (some (.builtin "getset_descriptor.__get__"))
  cl_tk : PySem.W.takesIn K (.builtin "object.__class__") = some true
  cl_mro : PySem.W.mroIn K cSh (.type "object") = some true
section
variable {P : Program} {w : World} {K : PySem.W.Frag} {mg : Str → Option Value} {base : Heap} {f : Addr} {fd : FuncData} {cTu cSp cVi cSh : Addr} {dvs : List V} {kws : List (Str × V)}
theorem TxtM.ty (TM : TxtM K mg cTu cSp cVi cSh) (TC : TxtC K cTu cSp cVi cSh) {H : Hp} {a dx : Addr} {fs : List (Str × V)} (h : H a = some (.ins cSh dx fs)) : TyX K H (.ref a) (.ref cSh) := .base (.ins h TC.sh TM.cl_ TM.cl_get TM.cl_tk TM.cl_mro)
/- Sheet.__mul__ -/
abbrev N_Sheet___mul__ : List Str := ["self", "other", "weight", "x", "y", "kind", "ink"]
abbrev P_Sheet___mul__ : List Str := ["self", "other"]
theorem sc_Sheet___mul : FnScope N_Sheet___mul__ P_Sheet___mul__ (defScope s_Sheet___mul__) := ⟨rfl, rfl, rfl, by decide +kernel, rfl, by decide +kernel, by decide +kernel⟩
/- Sheet.__invert__ -/
abbrev N_Sheet___invert__ : List Str := ["self", "rows", "x", "y", "kind", "ink", "sign", "a", "b", "part"]
abbrev P_Sheet___invert__ : List Str := ["self"]
theorem sc_Sheet___invert : FnScope N_Sheet___invert__ P_Sheet___invert__ (defScope s_Sheet___invert__) := ⟨rfl, rfl, rfl, by decide +kernel, rfl, by decide +kernel, by decide +kernel⟩
/- Sheet.turned -/
abbrev N_Sheet_turned : List Str := ["self", "turning", "rows", "x", "y", "kind", "ink", "a", "b", "part", "carried"]
abbrev P_Sheet_turned : List Str := ["self", "turning"]
theorem sc_Sheet_turned : FnScope N_Sheet_turned P_Sheet_turned (defScope s_Sheet_turned) := ⟨rfl, rfl, rfl, by decide +kernel, rfl, by decide +kernel, by decide +kernel⟩
def spSingle (cSp : Addr) : Sp := fun vs H Q _ => ∃ (a : Addr) (s : List Spot), vs = [.ref a] ∧ SpotsAt cSp H a s ∧ (s.length ≠ 1 → Q .non H) ∧ ∀ p v, s = [p] → Tp H (spotV p) v → Q v H
theorem ok_single (T : Txt K w mg) (TC : TxtC K cTu cSp cVi cSh) (F : MDef K "single" "Spots.single" s_Spots_single dvs kws f fd) : FnOk P w K mg base CX0 1 f fd P_Spots_single (spSingle cSp) := by
  refine F.ok sc_Spots_single (fun vs H Q E h => ?_) (fun cdv A outer s H vs Q E hr h => ?_)
  · obtain ⟨a, s, rfl, _⟩ := h; rfl
  · obtain ⟨a, s, rfl, ⟨dx, fi, fs, ws, h1, h2, h3⟩, k1, k2⟩ := h
    have hl : ws.length = s.length := h3.length
    refine ⟨_, PSs.nox (pss_one (ps_ret (pe_ifExp (pt_cmpR op_eq (pe_callB call_len_seq (by rfl) T.z_len (by decide +kernel) (pa_cons (pe_fld (pv 0) rfl) pa_nil)) pe_int (nomark _)) (pe_ix ix_tup (pe_fld (pv 0) rfl) pe_int (fun _ _ => rfl)) pe_non))), ?_⟩
    (repeat (first | refine ⟨_, rfl, ?_⟩ | refine ⟨_, _, rfl, rfl, ?_⟩ | refine ⟨_, _, rfl, ?_⟩ | refine ⟨rfl, ?_⟩))
    refine ⟨a, cSp, dx, _, _, rfl, h1, TC.sp, TC.a_sprows, rfl, ?_⟩
    (repeat (first | refine ⟨_, rfl, ?_⟩ | refine ⟨_, _, rfl, rfl, ?_⟩ | refine ⟨_, _, rfl, ?_⟩ | refine ⟨rfl, ?_⟩))
    refine ⟨fs, ws, rfl, .inr (.inl (.inl h2)), ?_⟩
    (repeat (first | refine ⟨_, rfl, ?_⟩ | refine ⟨_, _, rfl, rfl, ?_⟩ | refine ⟨_, _, rfl, ?_⟩ | refine ⟨rfl, ?_⟩))
    refine itD (fun h => ?_) (fun h => ?_)
    · have h1' : ws.length = 1 := by
        have : ((ws.length : Nat) : Int) = 1 := by injection h
        omega
      (repeat (first | refine ⟨_, rfl, ?_⟩ | refine ⟨_, _, rfl, rfl, ?_⟩ | refine ⟨_, _, rfl, ?_⟩ | refine ⟨rfl, ?_⟩))
      refine ⟨a, cSp, dx, _, _, rfl, h1, TC.sp, TC.a_sprows, rfl, ?_⟩
      (repeat (first | refine ⟨_, rfl, ?_⟩ | refine ⟨_, _, rfl, rfl, ?_⟩ | refine ⟨_, _, rfl, ?_⟩ | refine ⟨rfl, ?_⟩))
      cases h3 with
      | nil => simp at h1'
      | cons t r =>
        cases r with
        | nil => exact ⟨fs, _, 0, _, rfl, rfl, .inl (.inl h2), rfl, k2 _ _ rfl t⟩
        | cons _ _ => simp at h1'
    · (repeat (first | refine ⟨_, rfl, ?_⟩ | refine ⟨_, _, rfl, rfl, ?_⟩ | refine ⟨_, _, rfl, ?_⟩ | refine ⟨rfl, ?_⟩))
      refine k1 fun e => h ?_
      rw [hl, e]
      rfl
def spMul (cSh : Addr) : Sp := fun vs H Q _ => ∃ (a b d1 d2 : Addr) (s t : List Row), vs = [.ref a, .ref b] ∧ SheetD cSh H a s d1 ∧ SheetD cSh H b t d2 ∧ d1 ≠ d2 ∧ s.length ≤ 1000000 ∧ s.length * t.length ≤ 4000 ∧ (∀ p ∈ s, -(2 ^ 64) < p.2 ∧ p.2 < 2 ^ 64) ∧
  ∀ x H' u d, Same H H' → SheetD cSh H' x u d → H d = none → Canon (sweepL s t) u → Q (.ref x) H'
theorem ok_mul (T : Txt K w mg) (TC : TxtC K cTu cSp cVi cSh) (TM : TxtM K mg cTu cSp cVi cSh) (F : MDef K "__mul__" "Sheet.__mul__" s_Sheet___mul__ dvs kws f fd) (c_sheet_with : Cal P w K mg base CX0 "sheet_with" P_sheet_with 4 (spSheetWith cSh)) (c_swept_inks : Cal P w K mg base CX0 "swept_inks" P_swept_inks 1 spSwept)
    (mk_Sheet : Mkr P w K mg base CX0 "Sheet" cSh P_Sheet___init__ 2 (spShInit cSh)) : FnOk P w K mg base CX0 5 f fd P_Sheet___mul__ (spMul cSh) := by
  refine F.ok sc_Sheet___mul (fun vs H Q E h => ?_) (fun cdv A outer s H vs Q E hr h => ?_)
  · obtain ⟨a, b, d1, d2, s, t, rfl, _⟩ := h; rfl
  · obtain ⟨a, b, d1, d2, s, t, rfl, ⟨dx, z, ws, g1, g2, g3, g4⟩, ⟨dy, z', us, e1, e2, e3, e4⟩, nd, hz1, hz, hb, k⟩ := h
    have hl : ws.length = s.length := g3.length
    have hl2 : us.length = t.length := e3.length
    refine ⟨_, PSs.nox (pss_cons (ps_if (pt_val (pe_callB call_isi (by rfl) T.z_isinstance (by decide +kernel) (pa_cons (pv 1) (pa_cons (pe_glob (v := .ref _) rfl TM.g_Sheet rfl) pa_nil))))
        (pss_cons (ps_set (i := 2) sc_Sheet___mul.nd rfl (Or.inl rfl) (pe_op op_mul (pe_callB call_len_seq (by rfl) T.z_len (by decide +kernel) (pa_cons (pe_fld (pv 0) rfl) pa_nil)) (pe_callB call_len_seq (by rfl) T.z_len (by decide +kernel) (pa_cons (pe_fld (pv 1) rfl) pa_nil))))
        (pss_cons (ps_if (pt_cmpR op_gt (pv 2) (ClX.pe_cval (pe_glob (v := .ref _) rfl TM.g_Sheet rfl)) (nomark _))
          (pss_one ps_never)
          pss_nil)
        (pss_one (ps_ret (pe_cal c_sheet_with (hr.mono (by decide)) rfl (pa_cons (pe_cal c_swept_inks (hr.mono (by decide)) rfl (pa_cons (pe_fld (pv 0) rfl) (pa_cons (pe_fld (pv 1) rfl) pa_nil))) pa_nil))))))
        pss_nil)
      (pss_one (ps_ret (pe_mkC mk_Sheet (hr.mono (by decide)) rfl (pa_cons (pe_lc (own := [("x", 3), ("y", 4), ("kind", 5), ("ink", 6)]) (g := gTup K 4 (gCons (gName 3) (gCons (gName 4) (gCons (gName 5) (gCons (gName 6) (gNil)))))) rfl sc_Sheet___mul.nd (pi_tup (pe_fld (pv 0) rfl)) (blkOk_by (N := N_Sheet___mul__) (sc := defScope s_Sheet___mul__) (own := [("x", 3), ("y", 4), ("kind", 5), ("ink", 6)]) (by decide +kernel)) (fun _ _ _ _ _ => (pg_tup rfl (pgs_cons (pg_name (i := 3) sc_Sheet___mul.nd rfl (Or.inl rfl)) (pgs_cons (pg_name (i := 4) sc_Sheet___mul.nd rfl (Or.inl rfl)) (pgs_cons (pg_name (i := 5) sc_Sheet___mul.nd rfl (Or.inl rfl)) (pgs_cons (pg_name (i := 6) sc_Sheet___mul.nd rfl (Or.inl rfl)) pgs_nil)))))) (fun _ _ _ _ _ => pts_nil) (fun _ _ _ _ _ => (pe_tup (pa_cons (pv 3) (pa_cons (pv 4) (pa_cons (pv 5) (pa_cons (pe_op op_mul (pv 6) (pv 1)) pa_nil))))))) pa_nil))))), ?_⟩
    (repeat (first | refine ⟨_, rfl, ?_⟩ | refine ⟨_, _, rfl, rfl, ?_⟩ | refine ⟨_, _, rfl, ?_⟩ | refine ⟨rfl, ?_⟩))
    refine ⟨_, _, _, _, true, rfl, .own cSh, TM.ty TC e1, TM.k_sh, ?_⟩
    (repeat (first | refine ⟨_, rfl, ?_⟩ | refine ⟨_, _, rfl, rfl, ?_⟩ | refine ⟨_, _, rfl, ?_⟩ | refine ⟨rfl, ?_⟩))
    refine ⟨a, cSh, dx, _, _, rfl, g1, TC.sh, TC.a_rows, rfl, ?_⟩
    refine ⟨z, ws, rfl, .inr (.inl (.inl g2)), ?_⟩
    (repeat (first | refine ⟨_, rfl, ?_⟩ | refine ⟨_, _, rfl, rfl, ?_⟩ | refine ⟨_, _, rfl, ?_⟩ | refine ⟨rfl, ?_⟩))
    refine ⟨b, cSh, dy, _, _, rfl, e1, TC.sh, TC.a_rows, rfl, ?_⟩
    refine ⟨z', us, rfl, .inr (.inl (.inl e2)), ?_⟩
    (repeat (first | refine ⟨_, rfl, ?_⟩ | refine ⟨_, _, rfl, rfl, ?_⟩ | refine ⟨_, _, rfl, ?_⟩ | refine ⟨rfl, ?_⟩))
    refine ⟨.inl (by constructor <;> omega), ?_⟩
    (repeat (first | refine ⟨_, rfl, ?_⟩ | refine ⟨_, _, rfl, rfl, ?_⟩ | refine ⟨_, _, rfl, ?_⟩ | refine ⟨rfl, ?_⟩))
    obtain ⟨mc, u, r1, r2⟩ := TM.most
    refine ⟨cSh, mc, _, u, rfl, r1, r2, ?_⟩
    (repeat (first | refine ⟨_, rfl, ?_⟩ | refine ⟨_, _, rfl, rfl, ?_⟩ | refine ⟨_, _, rfl, ?_⟩ | refine ⟨rfl, ?_⟩))
    have hw : ¬ ((4000 : Int) < (ws.length : Int) * (us.length : Int)) := by
      rw [hl, hl2]
      have : ((s.length * t.length : Nat) : Int) ≤ 4000 := by omega
      rw [Int.natCast_mul] at this
      omega
    refine itN hw ?_
    (repeat (first | refine ⟨_, rfl, ?_⟩ | refine ⟨_, _, rfl, rfl, ?_⟩ | refine ⟨_, _, rfl, ?_⟩ | refine ⟨rfl, ?_⟩))
    refine ⟨a, cSh, dx, _, _, rfl, g1, TC.sh, TC.a_inks, rfl, ?_⟩
    (repeat (first | refine ⟨_, rfl, ?_⟩ | refine ⟨_, _, rfl, rfl, ?_⟩ | refine ⟨_, _, rfl, ?_⟩ | refine ⟨rfl, ?_⟩))
    refine ⟨b, cSh, dy, _, _, rfl, e1, TC.sh, TC.a_inks, rfl, ?_⟩
    (repeat (first | refine ⟨_, rfl, ?_⟩ | refine ⟨_, _, rfl, rfl, ?_⟩ | refine ⟨_, _, rfl, ?_⟩ | refine ⟨rfl, ?_⟩))
    refine ⟨d1, d2, s, t, rfl, nd, g4, e4, hz, hb, fun d H' s1 hd => ?_⟩
    (repeat (first | refine ⟨_, rfl, ?_⟩ | refine ⟨_, _, rfl, rfl, ?_⟩ | refine ⟨_, _, rfl, ?_⟩ | refine ⟨rfl, ?_⟩))
    refine ⟨d, _, rfl, ?_, hd, fun x H2 v d3 s2 hs hn hc => ?_⟩
    · have e1 := length_nz (tally (sweepL s t))
      have e2 := length_tally (sweepL s t)
      have e3 := sweepL_len s t
      have e4 : s.length * t.length * 13 ≤ 4000 * 13 := Nat.mul_le_mul_right _ hz
      omega
    · refine k x H2 v d3 (s1.trans s2) hs ?_ hc.nzt
      cases e : H d3 with
      | none => rfl
      | some u => rw [s1 _ _ e] at hn; cases hn
def spInv (cSh : Addr) : Sp := fun vs H Q _ => ∃ (a : Addr) (s : List Row), vs = [.ref a] ∧ SheetAt cSh H a s ∧ s.length ≤ 100000 ∧ ∀ x H' u d, Same H H' → SheetD cSh H' x u d → H d = none → Canon (closL s) u → Q (.ref x) H'
theorem ok_invert (T : Txt K w mg) (TC : TxtC K cTu cSp cVi cSh) (F : MDef K "__invert__" "Sheet.__invert__" s_Sheet___invert__ dvs kws f fd) (c_sign_of : Cal P w K mg base CX0 "sign_of" P_sign_of 1 spSign) (c_closure : Cal P w K mg base CX0 "closure" P_closure 3 spClosure)
    (mk_Sheet : Mkr P w K mg base CX0 "Sheet" cSh P_Sheet___init__ 2 (spShInit cSh)) : FnOk P w K mg base CX0 4 f fd P_Sheet___invert__ (spInv cSh) := by
  refine F.ok sc_Sheet___invert (fun vs H Q E h => ?_) (fun cdv A outer s H vs Q E hr h => ?_)
  · obtain ⟨a, s, rfl, _⟩ := h; rfl
  · obtain ⟨a, s, rfl, ⟨dx, z, ws, d, g1, g2, g3, g4⟩, hz, k⟩ := h
    have hl : ws.length = s.length := g3.length
    refine ⟨_, PSs.nox (pss_cons (ps_set (i := 1) sc_Sheet___invert.nd rfl (Or.inl rfl) (pe_lst pa_nil))
      (pss_cons (ps_for PassesOwn.never rfl (pi_tup (pe_fld (pv 0) rfl)) (pg_tup rfl (pgs_cons (pg_name (i := 2) sc_Sheet___invert.nd rfl (Or.inl rfl)) (pgs_cons (pg_name (i := 3) sc_Sheet___invert.nd rfl (Or.inl rfl)) (pgs_cons (pg_name (i := 4) sc_Sheet___invert.nd rfl (Or.inl rfl)) (pgs_cons (pg_name (i := 5) sc_Sheet___invert.nd rfl (Or.inl rfl)) pgs_nil)))))
        (pss_cons (ps_set (i := 6) sc_Sheet___invert.nd rfl (Or.inl rfl) (pe_cal c_sign_of (hr.mono (by decide)) rfl (pa_cons (pe_tup (pa_cons (pv 2) (pa_cons (pv 3) (pa_cons (pv 4) pa_nil)))) pa_nil)))
        (pss_one (ps_for PassesOwn.never rfl (pi_list (pe_cal c_closure (hr.mono (by decide)) rfl (pa_cons (pe_tup (pa_cons (pv 2) (pa_cons (pv 3) (pa_cons (pv 4) pa_nil)))) pa_nil))) (pg_tup rfl (pgs_cons (pg_name (i := 7) sc_Sheet___invert.nd rfl (Or.inl rfl)) (pgs_cons (pg_name (i := 8) sc_Sheet___invert.nd rfl (Or.inl rfl)) (pgs_cons (pg_name (i := 9) sc_Sheet___invert.nd rfl (Or.inl rfl)) pgs_nil))))
          (pss_one (ps_expr (pe_bm PySem.F.plainAttrs_list PySem.F.slot_list_append PySem.F.type_list_append mt_append (pv 1) (pa_cons (pe_tup (pa_cons (pv 7) (pa_cons (pv 8) (pa_cons (pv 9) (pa_cons (pe_op op_mul (pv 6) (pv 5)) pa_nil))))) pa_nil))))))))
      (pss_one (ps_ret (pe_mkC mk_Sheet (hr.mono (by decide)) rfl (pa_cons (pv 1) pa_nil)))))), ?_⟩
    (repeat (first | refine ⟨_, rfl, ?_⟩ | refine ⟨_, _, rfl, rfl, ?_⟩ | refine ⟨_, _, rfl, ?_⟩ | refine ⟨rfl, ?_⟩))
    refine ⟨le_line (by simp), fun R nR => ?_⟩
    have sR : Same H (upd H R (.lst [])) := Same.new nR
    (repeat (first | refine ⟨_, rfl, ?_⟩ | refine ⟨_, _, rfl, rfl, ?_⟩ | refine ⟨_, _, rfl, ?_⟩ | refine ⟨rfl, ?_⟩))
    refine ⟨a, cSh, dx, _, _, rfl, sR _ _ g1, TC.sh, TC.a_rows, rfl, ?_⟩
    refine ⟨z, rfl, ⟨ws, .inl (.inl (sR _ _ g2))⟩, ?_⟩
    refine for_tup (xs := ws) (fun j σ G => (∃ a2 a3 a4 a5 a6 a7 a8 a9, σ = [some (.ref a), some (.ref R), a2, a3, a4, a5, a6, a7, a8, a9]) ∧ Same H G ∧ ∃ L, Ls G rowV R L ∧ L.Perm (closL (s.take j)))
      ⟨⟨_, _, _, _, _, _, _, _, rfl⟩, sR, [], ⟨[], upd_same, .nil⟩, List.Perm.refl _⟩ (fun j σ G _ p => .inl (.inl (p.2.1 _ _ g2))) (fun j x σ G hx p => ?_) (fun σ G p => ?_)
    · obtain ⟨⟨a2, a3, a4, a5, a6, a7, a8, a9, rfl⟩, sG, L, hL, hP⟩ := p
      obtain ⟨r, hr1, tr⟩ := g3.get hx
      obtain ⟨q, rfl, hq⟩ := tr.mono sG
      refine ⟨q, rowV r, rfl, .inl (.inl hq), rfl, ?_⟩
      (repeat (first | refine ⟨_, rfl, ?_⟩ | refine ⟨_, _, rfl, rfl, ?_⟩ | refine ⟨_, _, rfl, ?_⟩ | refine ⟨rfl, ?_⟩))
      refine ⟨le_line (by simp), fun p np => ?_⟩
      have sp := Same.new (o := .tup (cellV r.1)) np
      (repeat (first | refine ⟨_, rfl, ?_⟩ | refine ⟨_, _, rfl, rfl, ?_⟩ | refine ⟨_, _, rfl, ?_⟩ | refine ⟨rfl, ?_⟩))
      refine ⟨r.1, .ref p, rfl, ⟨p, rfl, upd_same⟩, ?_⟩
      (repeat (first | refine ⟨_, rfl, ?_⟩ | refine ⟨_, _, rfl, rfl, ?_⟩ | refine ⟨_, _, rfl, ?_⟩ | refine ⟨rfl, ?_⟩))
      refine ⟨le_line (by simp), fun p2 np2 => ?_⟩
      have sp2 := Same.new (o := .tup (cellV r.1)) np2
      (repeat (first | refine ⟨_, rfl, ?_⟩ | refine ⟨_, _, rfl, rfl, ?_⟩ | refine ⟨_, _, rfl, ?_⟩ | refine ⟨rfl, ?_⟩))
      refine ⟨r.1, .ref p2, rfl, ⟨p2, rfl, upd_same⟩, fun l H2 ys s2 hln hys hyp => ?_⟩
      have sG2 := sp.trans (sp2.trans s2)
      obtain ⟨vs, hv1, hv2⟩ := hys
      refine ⟨l, rfl, ⟨vs, SqL.of hv1⟩, ?_⟩
      have hLen := hP.length_eq
      have hB : (closL (s.take j)).length ≤ j * 7 := by
        have := closL_len (s.take j)
        rw [List.length_take] at this
        have h3 : min j s.length ≤ j := Nat.min_le_left _ _
        omega
      have hj : j < s.length := (List.getElem?_eq_some_iff.mp hr1).1
      have hlv : vs.length = ys.length := hv2.length
      have hly : ys.length ≤ 7 := by rw [hyp.length_eq]; exact clos_len _
      obtain ⟨acc0, hR0, hT0⟩ := hL
      have nlR : l ≠ R := by
        rintro rfl
        have h9 := sp.none (sp2.none hln)
        rw [hR0] at h9
        cases h9
      refine for_list (xs := vs) (fun m σ G2 => (∃ a7 a8 a9, σ = [some (.ref a), some (.ref R), some (.int r.1.1), some (.int r.1.2.1), some (.str (kS r.1.2.2)), some (.int r.2), some (.int (sgn r.1.2.2)), a7, a8, a9]) ∧ Same H G2 ∧ G2 l = some (.lst vs) ∧ Tps G2 cellV vs ys ∧ Ls G2 rowV R (L ++ (ys.take m).map fun c => (c, sgn r.1.2.2 * r.2)))
        ⟨⟨_, _, _, rfl⟩, sG.trans sG2, hv1, hv2, acc0, sG2 _ _ hR0, by simpa using hT0.mono sG2⟩ (fun m σ G2 _ p => SqL.of p.2.2.1) (fun m x σ G2 hx p => ?_) (fun σ G2 p => ?_)
      · obtain ⟨⟨a7, a8, a9, rfl⟩, s3, hl3, hv3, acc, hR3, hT3⟩ := p
        obtain ⟨c, hc, tc⟩ := hv3.get hx
        obtain ⟨b, rfl, hb⟩ := tc
        refine ⟨b, cellV c, rfl, .inl (.inl hb), rfl, ?_⟩
        (repeat (first | refine ⟨_, rfl, ?_⟩ | refine ⟨_, _, rfl, rfl, ?_⟩ | refine ⟨_, _, rfl, ?_⟩ | refine ⟨rfl, ?_⟩))
        refine ⟨ty_lst hR3, ?_⟩
        (repeat (first | refine ⟨_, rfl, ?_⟩ | refine ⟨_, _, rfl, rfl, ?_⟩ | refine ⟨_, _, rfl, ?_⟩ | refine ⟨rfl, ?_⟩))
        refine ⟨.inl (by cases r.1.2.2 <;> decide), ?_⟩
        (repeat (first | refine ⟨_, rfl, ?_⟩ | refine ⟨_, _, rfl, rfl, ?_⟩ | refine ⟨_, _, rfl, ?_⟩ | refine ⟨rfl, ?_⟩))
        refine ⟨le_line (by simp), fun e ne => ?_⟩
        have se := Same.new (o := .tup (rowV (c, sgn r.1.2.2 * r.2))) ne
        have hR4 := se _ _ hR3
        refine ⟨R, acc, _, rfl, rfl, hR4, ?_, ⟨_, _, _, rfl⟩, (s3.trans se).mut nR, ?_, ?_, ?_⟩
        · have h1 := hT3.length
          rw [List.length_append, List.length_map, List.length_take] at h1
          have h2 : min m ys.length ≤ 7 := Nat.le_trans (Nat.min_le_right _ _) hly
          exact lt_line (m := 1000001) (by omega) (by decide)
        · rw [upd_ne nlR]
          exact se _ _ hl3
        · exact (hv3.mono se).monoT (SameT.lst hR4)
        · have : (ys.take (m + 1)).map (fun c => (c, sgn r.1.2.2 * r.2)) = (ys.take m).map (fun c => (c, sgn r.1.2.2 * r.2)) ++ [(c, sgn r.1.2.2 * r.2)] := by
            rw [take_snoc hc, List.map_append]
            rfl
          rw [this, ← List.append_assoc]
          exact Ls.push hR4 (hT3.mono se) ⟨e, rfl, upd_same⟩
      · obtain ⟨⟨a7, a8, a9, rfl⟩, s3, hl3, hv3, hL3⟩ := p
        rw [List.take_of_length_le (by omega)] at hL3
        refine ⟨⟨_, _, _, _, _, _, _, _, rfl⟩, s3, _, hL3, ?_⟩
        have e1 : closL (s.take (j + 1)) = closL (s.take j) ++ closR r := flat_snoc closR hr1
        rw [e1]
        exact hP.append (hyp.map _)
    · obtain ⟨⟨a2, a3, a4, a5, a6, a7, a8, a9, rfl⟩, sG, L, hL, hP⟩ := p
      rw [List.take_of_length_le (by omega)] at hP
      (repeat (first | refine ⟨_, rfl, ?_⟩ | refine ⟨_, _, rfl, rfl, ?_⟩ | refine ⟨_, _, rfl, ?_⟩ | refine ⟨rfl, ?_⟩))
      intro x dx' nx ndx ne
      refine mk_sh nx ndx ne hL.sq ?_ fun H' u d2 s' hs hn hc => ⟨rfl, k x H' u d2 (sG.trans s') hs ?_ (hc.perm hP)⟩
      · rw [hP.length_eq]
        have := closL_len s
        omega
      · cases e : H d2 with
        | none => rfl
        | some u => rw [sG _ _ e] at hn; cases hn
def spTurned (cSh cTu : Addr) : Sp := fun vs H Q _ => ∃ (a t : Addr) (s : List Row), vs = [.ref a, .ref t] ∧ SheetAt cSh H a s ∧ TuAt cTu H t ∧ s.length ≤ 100000 ∧ ∀ x H' u d, Same H H' → SheetD cSh H' x u d → H d = none → Canon (closL (oppL s)) u → Q (.ref x) H'
theorem ok_turned (T : Txt K w mg) (TC : TxtC K cTu cSp cVi cSh) (F : MDef K "turned" "Sheet.turned" s_Sheet_turned dvs kws f fd) (c_cell_to : Met P w K mg base CX0 cTu "cell_to" P_Turning_cell_to 3 (spCellTo cTu)) (c___invert__ : Met P w K mg base CX0 cSh "__invert__" P_Sheet___invert__ 4 (spInv cSh))
    (mk_Sheet : Mkr P w K mg base CX0 "Sheet" cSh P_Sheet___init__ 2 (spShInit cSh)) : FnOk P w K mg base CX0 5 f fd P_Sheet_turned (spTurned cSh cTu) := by
  refine F.ok sc_Sheet_turned (fun vs H Q E h => ?_) (fun cdv A outer s H vs Q E hr h => ?_)
  · obtain ⟨a, t, s, rfl, _⟩ := h; rfl
  · obtain ⟨a, t, s, rfl, ⟨dx, z, ws, d, g1, g2, g3, g4⟩, ht, hz, k⟩ := h
    have hl : ws.length = s.length := g3.length
    refine ⟨_, PSs.nox (pss_cons (ps_set (i := 2) sc_Sheet_turned.nd rfl (Or.inl rfl) (pe_lst pa_nil))
      (pss_cons (ps_for PassesOwn.never rfl (pi_tup (pe_fld (pv 0) rfl)) (pg_tup rfl (pgs_cons (pg_name (i := 3) sc_Sheet_turned.nd rfl (Or.inl rfl)) (pgs_cons (pg_name (i := 4) sc_Sheet_turned.nd rfl (Or.inl rfl)) (pgs_cons (pg_name (i := 5) sc_Sheet_turned.nd rfl (Or.inl rfl)) (pgs_cons (pg_name (i := 6) sc_Sheet_turned.nd rfl (Or.inl rfl)) pgs_nil)))))
        (pss_cons (ps_asg (pe_metC c_cell_to (pv 1) (hr.mono (by decide)) (pa_cons (pe_tup (pa_cons (pv 3) (pa_cons (pv 4) (pa_cons (pv 5) pa_nil)))) pa_nil)) (pg_tup rfl (pgs_cons (pg_name (i := 7) sc_Sheet_turned.nd rfl (Or.inl rfl)) (pgs_cons (pg_name (i := 8) sc_Sheet_turned.nd rfl (Or.inl rfl)) (pgs_cons (pg_name (i := 9) sc_Sheet_turned.nd rfl (Or.inl rfl)) pgs_nil)))))
        (pss_one (ps_expr (pe_bm PySem.F.plainAttrs_list PySem.F.slot_list_append PySem.F.type_list_append mt_append (pv 2) (pa_cons (pe_tup (pa_cons (pv 7) (pa_cons (pv 8) (pa_cons (pv 9) (pa_cons (pv 6) pa_nil))))) pa_nil))))))
      (pss_cons (ps_set (i := 10) sc_Sheet_turned.nd rfl (Or.inl rfl) (pe_mkC mk_Sheet (hr.mono (by decide)) rfl (pa_cons (pv 2) pa_nil)))
      (pss_cons (ps_if (pt_val (pe_fld (pv 1) rfl))
        (pss_one (ps_ret (pe_un (un_invC c___invert__ (hr.mono (by decide))) (pv 10))))
        pss_nil)
      (pss_one (ps_ret (pv 10))))))), ?_⟩
    (repeat (first | refine ⟨_, rfl, ?_⟩ | refine ⟨_, _, rfl, rfl, ?_⟩ | refine ⟨_, _, rfl, ?_⟩ | refine ⟨rfl, ?_⟩))
    refine ⟨le_line (by simp), fun R nR => ?_⟩
    have sR : Same H (upd H R (.lst [])) := Same.new nR
    (repeat (first | refine ⟨_, rfl, ?_⟩ | refine ⟨_, _, rfl, rfl, ?_⟩ | refine ⟨_, _, rfl, ?_⟩ | refine ⟨rfl, ?_⟩))
    refine ⟨a, cSh, dx, _, _, rfl, sR _ _ g1, TC.sh, TC.a_rows, rfl, ?_⟩
    refine ⟨z, rfl, ⟨ws, .inl (.inl (sR _ _ g2))⟩, ?_⟩
    refine for_tup (xs := ws) (fun j σ G => (∃ a3 a4 a5 a6 a7 a8 a9, σ = [some (.ref a), some (.ref t), some (.ref R), a3, a4, a5, a6, a7, a8, a9, none]) ∧ Same H G ∧ Ls G rowV R (oppL (s.take j)))
      ⟨⟨_, _, _, _, _, _, _, rfl⟩, sR, [], upd_same, .nil⟩ (fun j σ G _ p => .inl (.inl (p.2.1 _ _ g2))) (fun j x σ G hx p => ?_) (fun σ G p => ?_)
    · obtain ⟨⟨a3, a4, a5, a6, a7, a8, a9, rfl⟩, sG, acc, hR, hT⟩ := p
      obtain ⟨r, hr1, tr⟩ := g3.get hx
      obtain ⟨q, rfl, hq⟩ := tr.mono sG
      refine ⟨q, rowV r, rfl, .inl (.inl hq), rfl, ?_⟩
      (repeat (first | refine ⟨_, rfl, ?_⟩ | refine ⟨_, _, rfl, rfl, ?_⟩ | refine ⟨_, _, rfl, ?_⟩ | refine ⟨rfl, ?_⟩))
      obtain ⟨dt, ht1⟩ := ht.mono sG
      refine ⟨t, dt, _, rfl, ht1, rfl, ?_⟩
      (repeat (first | refine ⟨_, rfl, ?_⟩ | refine ⟨_, _, rfl, rfl, ?_⟩ | refine ⟨_, _, rfl, ?_⟩ | refine ⟨rfl, ?_⟩))
      refine ⟨le_line (by simp), fun p np => ?_⟩
      have sp := Same.new (o := .tup (cellV r.1)) np
      (repeat (first | refine ⟨_, rfl, ?_⟩ | refine ⟨_, _, rfl, rfl, ?_⟩ | refine ⟨_, _, rfl, ?_⟩ | refine ⟨rfl, ?_⟩))
      refine ⟨t, r.1, .ref p, rfl, ⟨dt, sp _ _ ht1⟩, ⟨p, rfl, upd_same⟩, fun u H2 s2 hu => ?_⟩
      obtain ⟨c, rfl, hc⟩ := hu
      have s12 := sp.trans s2
      refine ⟨c, _, rfl, .inl (.inl hc), rfl, ?_⟩
      (repeat (first | refine ⟨_, rfl, ?_⟩ | refine ⟨_, _, rfl, rfl, ?_⟩ | refine ⟨_, _, rfl, ?_⟩ | refine ⟨rfl, ?_⟩))
      refine ⟨ty_lst (s12 _ _ hR), ?_⟩
      (repeat (first | refine ⟨_, rfl, ?_⟩ | refine ⟨_, _, rfl, rfl, ?_⟩ | refine ⟨_, _, rfl, ?_⟩ | refine ⟨rfl, ?_⟩))
      refine ⟨le_line (by simp), fun e ne => ?_⟩
      have se := Same.new (o := .tup (rowV (opp r.1, r.2))) ne
      have s1e := s12.trans se
      refine ⟨R, acc, _, rfl, rfl, s1e _ _ hR, ?_, ⟨_, _, _, _, _, _, _, rfl⟩, (sG.trans s1e).mut nR, ?_⟩
      · have h1 := hT.length
        unfold oppL at h1
        rw [List.length_map, List.length_take] at h1
        have h2 : min j s.length ≤ 100000 := Nat.le_trans (Nat.min_le_right _ _) hz
        exact lt_line (m := 1000001) (by omega) (by decide)
      · have : oppL (s.take (j + 1)) = oppL (s.take j) ++ [(opp r.1, r.2)] := by
          unfold oppL
          rw [take_snoc hr1, List.map_append]
          rfl
        rw [this]
        exact Ls.push (s1e _ _ hR) (hT.mono s1e) ⟨e, rfl, upd_same⟩
    · obtain ⟨⟨a3, a4, a5, a6, a7, a8, a9, rfl⟩, sG, hL⟩ := p
      rw [List.take_of_length_le (by omega)] at hL
      have hlo : (oppL s).length = s.length := List.length_map _
      (repeat (first | refine ⟨_, rfl, ?_⟩ | refine ⟨_, _, rfl, rfl, ?_⟩ | refine ⟨_, _, rfl, ?_⟩ | refine ⟨rfl, ?_⟩))
      intro x dx' nx ndx ne
      refine mk_sh nx ndx ne hL.sq (by omega) fun H' u d2 s' hs hn hc => ⟨rfl, ?_⟩
      have sH := sG.trans s'
      obtain ⟨dt, ht1⟩ := ht.mono sH
      have hlu : u.length ≤ 100000 := by
        have := hc.length
        omega
      (repeat (first | refine ⟨_, rfl, ?_⟩ | refine ⟨_, _, rfl, rfl, ?_⟩ | refine ⟨_, _, rfl, ?_⟩ | refine ⟨rfl, ?_⟩))
      refine ⟨t, cTu, dt, _, _, rfl, ht1, TC.tu, TC.a_inverted, rfl, ?_⟩
      obtain ⟨e1, e2, e3, e4, e5, e6⟩ := hs
      (repeat (first | refine ⟨_, rfl, ?_⟩ | refine ⟨_, _, rfl, rfl, ?_⟩ | refine ⟨_, _, rfl, ?_⟩ | refine ⟨rfl, ?_⟩))
      refine ⟨x, e1, _, rfl, e4, x, u, rfl, ⟨e1, e2, e3, d2, e4, e5, e6⟩, hlu, fun y H2 v d3 s2 hv hn3 hc3 => ?_⟩
      exact k y H2 v d3 (sH.trans s2) hv (sH.none hn3) (hc3.congr (closL_congr hc.eq))
end
end SV
end

section
set_option Elab.async false
set_option linter.all false
set_option maxRecDepth 100000
set_option maxHeartbeats 4000000
/-! Counters and erasers. -/
namespace SV
open PySem PySem.Spec PyProof.Rows L2
section
variable (P : Program) (w : World) (K : PySem.W.Frag) (mg : Str → Option Value) (base : Heap)
/-- Turning(3, inverted=True) -/
structure MkTu (C : Addr) (ps : List Str) (k : Nat) (sp : Sp) : Prop where
  ex : ∃ (f : Addr) (fd : FuncData) (mv : List Value), FnOk P w K mg base CX0 k f fd ps sp ∧ Mk K C f ∧ mg "Turning" = some (.ref C) ∧ KBn K fd ps 2 (["inverted"] : List Str) (fun us ws => us ++ mv ++ ws) (fun vs zs => vs ++ [.bl false] ++ zs)
end
theorem pe_mkTu {X : Cx} {k : Nat} {C : Addr} {ps : List Str} {sp : Sp} {p pos kpos : Pos} {e e2 : Expr} {t tk : TA} (c : MkTu X.prog X.w X.K X.mg X.base C ps k sp) (hr : Room (k + 1) X.A) (hg : Gl X "Turning") (ha : PA X [e] t) (hk : PK X [⟨some "inverted", e2, kpos⟩] tk)
    (hall : (backToKw pos (keywordEach [⟨some "inverted", e2, kpos⟩] X.env)).all (·.1.isSome) = true := by rfl) (hks : (backToKw pos (keywordEach [⟨some "inverted", e2, kpos⟩] X.env)).filterMap (·.1) = (["inverted"] : List Str) := by rfl)
    (he : starEach [e] X.env = (false, eval e X.env) :: starEach [] X.env := by rfl) (hpl : ((backTo pos (starEach [e] X.env)).any (·.1) || (backToKw pos (keywordEach [⟨some "inverted", e2, kpos⟩] X.env)).any (·.1.isNone)) = false := by rfl) :
    PE X (.Call (.Name "Turning" p) [e] [⟨some "inverted", e2, kpos⟩] pos) (tMakeK C 1 1 sp (fun vs zs => vs ++ [.bl false] ++ zs) E0 t tk) := by
  obtain ⟨f, fd, mv, F, M, hm, hb⟩ := c.ex
  exact pe_makeK (ks := (["inverted"] : List Str)) M F hr hg hm hb pass0 ha hk hall hks (by decide) he hpl
/-- a view that is one spot of ink 1 or -1 -/
def good (s : List Spot) : Bool := match s with
  | [p] => decide (p.2 = 1) || decide (p.2 = -1)
  | _ => false
theorem in_pm (i : Int) : inV (.int i) [.int 1, .int (-1)] = (decide (i = 1) || decide (i = -1)) := by
  show ((1 : Int) == i || ((-1 : Int) == i || false)) = _
  rw [Bool.or_false]
  have e : ∀ a : Int, (a == i) = decide (i = a) := fun a => by
    by_cases h : i = a
    · rw [h, decide_eq_true rfl]
      exact beq_self_eq_true a
    · rw [decide_eq_false h]
      exact beq_false_of_ne (Ne.symm h)
  rw [e, e]
def Stub (ss : List (List Spot)) : Option Nat → Prop
  | some i => (∀ (j : Nat) (x : List Spot), j < i → ss[j]? = some x → good x = true) ∧ ∃ x, ss[i]? = some x ∧ good x = false
  | none => ∀ (j : Nat) (x : List Spot), ss[j]? = some x → good x = true
def optV : Option Nat → V
  | some i => .int (i : Nat)
  | none => .non
section
variable {P : Program} {w : World} {K : PySem.W.Frag} {mg : Str → Option Value} {base : Heap} {f : Addr} {fd : FuncData} {cTu cSp cVi cSh : Addr} {dvs : List V} {kws : List (Str × V)}
/- Sheet.__iter__ -/
abbrev N_Sheet___iter__ : List Str := ["self"]
abbrev P_Sheet___iter__ : List Str := ["self"]
theorem sc_Sheet___iter : FnScope N_Sheet___iter__ P_Sheet___iter__ (defScope s_Sheet___iter__) := ⟨rfl, rfl, rfl, by decide +kernel, rfl, by decide +kernel, by decide +kernel⟩
/- Views.__iter__ -/
abbrev N_Views___iter__ : List Str := ["self"]
abbrev P_Views___iter__ : List Str := ["self"]
theorem sc_Views___iter : FnScope N_Views___iter__ P_Views___iter__ (defScope s_Views___iter__) := ⟨rfl, rfl, rfl, by decide +kernel, rfl, by decide +kernel, by decide +kernel⟩
/- counter -/
abbrev N_counter : List Str := ["sheet"]
abbrev P_counter : List Str := ["sheet"]
theorem sc_counter : FnScope N_counter P_counter (defScope s_counter) := ⟨rfl, rfl, rfl, by decide +kernel, rfl, by decide +kernel, by decide +kernel⟩
/- stubborn_view -/
abbrev N_stubborn_view : List Str := ["views", "view", "heap", "spot"]
abbrev P_stubborn_view : List Str := ["views"]
theorem sc_stubborn_view : FnScope N_stubborn_view P_stubborn_view (defScope s_stubborn_view) := ⟨rfl, rfl, rfl, by decide +kernel, rfl, by decide +kernel, by decide +kernel⟩
/- is_erasable -/
abbrev N_is_erasable : List Str := ["sheet"]
abbrev P_is_erasable : List Str := ["sheet"]
theorem sc_is_erasable : FnScope N_is_erasable P_is_erasable (defScope s_is_erasable) := ⟨rfl, rfl, rfl, by decide +kernel, rfl, by decide +kernel, by decide +kernel⟩
theorem ok_Sh_iter (T : Txt K w mg) (TC : TxtC K cTu cSp cVi cSh) (F : MDef K "__iter__" "Sheet.__iter__" s_Sheet___iter__ dvs kws f fd) : FnN P w K mg base 1 f fd P_Sheet___iter__ (spIterN K cSh "rows") := by
  obtain ⟨oc, od, dV, kV, doc, pm, an, cdv, ct, osl, rfl, lk, hcd, _, _⟩ := F.ex
  refine fn_ofN lk hcd sc_Sheet___iter (fun n vs H Q E h => ?_) (fun A outer s H vs Q E hr h => ?_)
  · obtain ⟨a, dx, fs, t, zs, rfl, _⟩ := h; rfl
  · obtain ⟨a, dx, fs, t, zs, rfl, ha, hf, hz, k⟩ := h
    refine ⟨_, PSs.nox (pss_one (ps_ret (pe_callB call_iterTN (by rfl) T.z_iter (by decide +kernel) (pa_cons (pe_fld (pv 0) rfl) pa_nil)))), ?_⟩
    (repeat (first | refine ⟨_, rfl, ?_⟩ | refine ⟨_, _, rfl, rfl, ?_⟩ | refine ⟨_, _, rfl, ?_⟩ | refine ⟨rfl, ?_⟩))
    refine ⟨a, cSh, dx, fs, _, rfl, ha, TC.sh, TC.a_rows, hf, ?_⟩
    exact ⟨t, zs, rfl, hz, k⟩
theorem ok_Vi_iter (T : Txt K w mg) (TC : TxtC K cTu cSp cVi cSh) (F : MDef K "__iter__" "Views.__iter__" s_Views___iter__ dvs kws f fd) : FnN P w K mg base 1 f fd P_Views___iter__ (spIterN K cVi "heaps") := by
  obtain ⟨oc, od, dV, kV, doc, pm, an, cdv, ct, osl, rfl, lk, hcd, _, _⟩ := F.ex
  refine fn_ofN lk hcd sc_Views___iter (fun n vs H Q E h => ?_) (fun A outer s H vs Q E hr h => ?_)
  · obtain ⟨a, dx, fs, t, zs, rfl, _⟩ := h; rfl
  · obtain ⟨a, dx, fs, t, zs, rfl, ha, hf, hz, k⟩ := h
    refine ⟨_, PSs.nox (pss_one (ps_ret (pe_callB call_iterTN (by rfl) T.z_iter (by decide +kernel) (pa_cons (pe_fld (pv 0) rfl) pa_nil)))), ?_⟩
    (repeat (first | refine ⟨_, rfl, ?_⟩ | refine ⟨_, _, rfl, rfl, ?_⟩ | refine ⟨_, _, rfl, ?_⟩ | refine ⟨rfl, ?_⟩))
    refine ⟨a, cVi, dx, fs, _, rfl, ha, TC.vi, TC.a_heaps, hf, ?_⟩
    exact ⟨t, zs, rfl, hz, k⟩
def spCounter (cSh : Addr) : Sp := fun vs H Q _ => ∃ (a : Addr) (s : List Row), vs = [.ref a] ∧ SheetAt cSh H a s ∧ s.length ≤ 100000 ∧ ∀ x H' u d, Same H H' → SheetD cSh H' x u d → H d = none → Canon (closL (oppL s)) u → Q (.ref x) H'
theorem ok_counter (F : GDef K "counter" s_counter f fd) (c_turned : Met P w K mg base CX0 cSh "turned" P_Sheet_turned 5 (spTurned cSh cTu)) (mk_Turning : MkTu P w K mg base cTu P_Turning___init__ 1 (spTuInit cTu)) : FnOk P w K mg base CX0 6 f fd P_counter (spCounter cSh) := by
  refine F.ok sc_counter (fun vs H Q E h => ?_) (fun cdv A outer s H vs Q E hr h => ?_)
  · obtain ⟨a, s, rfl, _⟩ := h; rfl
  · obtain ⟨a, s, rfl, hs, hz, k⟩ := h
    refine ⟨_, PSs.nox (pss_one (ps_ret (pe_metC c_turned (pv 0) (hr.mono (by decide)) (pa_cons (pe_mkTu mk_Turning (hr.mono (by decide)) rfl (pa_cons pe_int pa_nil) (pk_cons pe_bl pk_nil)) pa_nil)))), ?_⟩
    (repeat (first | refine ⟨_, rfl, ?_⟩ | refine ⟨_, _, rfl, rfl, ?_⟩ | refine ⟨_, _, rfl, ?_⟩ | refine ⟨rfl, ?_⟩))
    obtain ⟨dx, z, ws, d, g1, g2⟩ := hs
    refine ⟨a, dx, _, rfl, g1, rfl, ?_⟩
    (repeat (first | refine ⟨_, rfl, ?_⟩ | refine ⟨_, _, rfl, rfl, ?_⟩ | refine ⟨_, _, rfl, ?_⟩ | refine ⟨rfl, ?_⟩))
    intro x dt nx ndt ne
    have sm := same_made (C := cTu) nx ndt ne
    refine ⟨x, dt, rfl, upd_same, fun H' sx ht => ⟨rfl, ?_⟩⟩
    have s1 : Same H H' := SameX.same nx sm sx
    refine ⟨a, x, s, rfl, (show SheetAt cSh H a s from ⟨dx, z, ws, d, g1, g2⟩).mono s1, ht, hz, fun y H2 u d2 s2 hy hd hc => k y H2 u d2 (s1.trans s2) hy (s1.none hd) hc⟩
def spStub (cVi cSp : Addr) : Sp := fun vs H Q _ => ∃ (v : Addr) (ss : List (List Spot)), vs = [.ref v] ∧ ViewsAt cVi cSp H v ss ∧ ∀ r H', Same H H' → Stub ss r → Q (optV r) H'
theorem ok_stubborn (T : Txt K w mg) (F : GDef K "stubborn_view" s_stubborn_view f fd) (IV : ItbC P w K mg base cVi "heaps" 1) (c_single : Met P w K mg base CX0 cSp "single" P_Spots_single 1 (spSingle cSp)) : FnOk P w K mg base CX0 6 f fd P_stubborn_view (spStub cVi cSp) := by
  refine F.ok sc_stubborn_view (fun vs H Q E h => ?_) (fun cdv A outer s H vs Q E hr h => ?_)
  · obtain ⟨a, s, rfl, _⟩ := h; rfl
  · obtain ⟨v, ss, rfl, ⟨dx, z, ws, g1, g2, g3⟩, k⟩ := h
    have hl : ws.length = ss.length := Paired.length g3
    refine ⟨_, PSs.nox (pss_cons (ps_for PassesOwn.never rfl (pi_enumO IV (hr.mono (by decide)) rfl T.z_enumerate (pa_cons (pv 0) pa_nil)) (pg_tup rfl (pgs_cons (pg_name (i := 1) sc_stubborn_view.nd rfl (Or.inl rfl)) (pgs_cons (pg_name (i := 2) sc_stubborn_view.nd rfl (Or.inl rfl)) pgs_nil)))
        (pss_cons (ps_set (i := 3) sc_stubborn_view.nd rfl (Or.inl rfl) (pe_metC0 c_single (pv 2) (hr.mono (by decide))))
        (pss_one (ps_if (PW.pt (pw_or (pt_cmpR op_isN (pv 3) pe_non (nomark _)) (pw_or1 (pt_cmpR op_notIn_seq (pe_ix ix_tup (pv 3) pe_int (fun _ _ => rfl)) (pe_tup (pa_cons pe_int (pa_cons (pe_un un_neg pe_int) pa_nil))) (by rfl)))))
          (pss_one (ps_ret (pv 1)))
          pss_nil))))
      (pss_one (ps_ret pe_non))), ?_⟩
    (repeat (first | refine ⟨_, rfl, ?_⟩ | refine ⟨_, _, rfl, rfl, ?_⟩ | refine ⟨_, _, rfl, ?_⟩ | refine ⟨rfl, ?_⟩))
    refine ⟨v, dx, _, z, ws, rfl, g1, rfl, .inl (.inl g2), ?_⟩
    refine for_n (J := IteT K z) (n := ws.length) (fun i σ G => (∃ a1 a2 a3, σ = [some (.ref v), a1, a2, a3]) ∧ Same H G ∧ ∀ j x, j < i → ss[j]? = some x → good x = true)
      ⟨⟨_, _, _, rfl⟩, Same.refl _, fun j x h => absurd h (Nat.not_lt_zero _)⟩ (fun i σ G hi p => ⟨ws, ws[i], .inl (.inl (p.2.1 _ _ g2)), List.getElem?_eq_getElem hi⟩) (fun σ G p => ⟨ws, .inl (.inl (p.2.1 _ _ g2)), rfl⟩) (fun i σ G hi p x G' e => ?_) (fun σ G p => ?_)
    · obtain ⟨⟨a1, a2, a3, rfl⟩, sG, hg⟩ := p
      obtain ⟨t, x, rfl, nt, rfl, hx⟩ := e
      obtain ⟨sp, hsp, b, rfl, hb⟩ := paired_get g3 (hx ws (.inl (.inl (sG _ _ g2))))
      have st := Same.new (o := .tup [.int (i : Nat), .ref b]) nt
      refine ⟨t, _, rfl, .inl (.inl upd_same), rfl, ?_⟩
      (repeat (first | refine ⟨_, rfl, ?_⟩ | refine ⟨_, _, rfl, rfl, ?_⟩ | refine ⟨_, _, rfl, ?_⟩ | refine ⟨rfl, ?_⟩))
      have hb2 := (hb.mono sG).mono st
      obtain ⟨dy, fi, fs, us, b1, b2, b3⟩ := hb2
      refine ⟨b, dy, _, rfl, b1, rfl, b, sp, rfl, ⟨dy, fi, fs, us, b1, b2, b3⟩, fun hne => ?_, fun p u e tp => ?_⟩
      · (repeat (first | refine ⟨_, rfl, ?_⟩ | refine ⟨_, _, rfl, rfl, ?_⟩ | refine ⟨_, _, rfl, ?_⟩ | refine ⟨rfl, ?_⟩))
        refine k (some i) _ (sG.trans st) ⟨hg, sp, hsp, ?_⟩
        cases sp with
        | nil => rfl
        | cons p r =>
          cases r with
          | nil => exact absurd rfl hne
          | cons _ _ => rfl
      · subst e
        obtain ⟨c, rfl, hc⟩ := tp
        (repeat (first | refine ⟨_, rfl, ?_⟩ | refine ⟨_, _, rfl, rfl, ?_⟩ | refine ⟨_, _, rfl, ?_⟩ | refine ⟨rfl, ?_⟩))
        refine ⟨c, _, 2, _, rfl, rfl, .inl (.inl hc), rfl, ?_⟩
        (repeat (first | refine ⟨_, rfl, ?_⟩ | refine ⟨_, _, rfl, rfl, ?_⟩ | refine ⟨_, _, rfl, ?_⟩ | refine ⟨rfl, ?_⟩))
        refine ⟨le_line (by simp), fun q nq => ?_⟩
        have sq := Same.new (o := .tup [.int 1, .int (-1)]) nq
        refine ⟨q, _, rfl, .inr (.inl (.inl upd_same)), rfl, rfl, ?_⟩
        (repeat (first | refine ⟨_, rfl, ?_⟩ | refine ⟨_, _, rfl, rfl, ?_⟩ | refine ⟨_, _, rfl, ?_⟩ | refine ⟨rfl, ?_⟩))
        have eg : good [p] = inV (.int p.2) [.int 1, .int (-1)] := by
          rw [in_pm]
          rfl
        refine itB (fun h => ?_) (fun h => ?_)
        · (repeat (first | refine ⟨_, rfl, ?_⟩ | refine ⟨_, _, rfl, rfl, ?_⟩ | refine ⟨_, _, rfl, ?_⟩ | refine ⟨rfl, ?_⟩))
          refine k (some i) _ (sG.trans (st.trans sq)) ⟨hg, _, hsp, ?_⟩
          rw [eg]
          simpa using h
        · refine ⟨⟨_, _, _, rfl⟩, sG.trans (st.trans sq), fun j x hj hxj => ?_⟩
          by_cases hji : j = i
          · subst hji
            rw [hsp] at hxj
            cases hxj
            rw [eg]
            simpa using h
          · exact hg j x (by omega) hxj
    · obtain ⟨⟨a1, a2, a3, rfl⟩, sG, hg⟩ := p
      (repeat (first | refine ⟨_, rfl, ?_⟩ | refine ⟨_, _, rfl, rfl, ?_⟩ | refine ⟨_, _, rfl, ?_⟩ | refine ⟨rfl, ?_⟩))
      exact k none _ sG fun j x hx => hg j x (by have := (List.getElem?_eq_some_iff.mp hx).1; omega) hx
def spIsE (cSh : Addr) : Sp := fun vs H Q _ => ∃ (a : Addr) (s : List Row), vs = [.ref a] ∧ SheetAt cSh H a s ∧ s.length ≤ 1000000 ∧ ∀ r ss H', Same H H' → Six s ss → Stub ss r → Q (.bl r.isNone) H'
theorem ok_is_erasable (T : Txt K w mg) (TM : TxtM K mg cTu cSp cVi cSh) (F : GDef K "is_erasable" s_is_erasable f fd) (c_of_sheet : SCal P w K mg base cVi "of_sheet" P_Views_of_sheet 4 (spOfSheet cSh cVi cSp)) (c_stubborn_view : Cal P w K mg base CX0 "stubborn_view" P_stubborn_view 6 (spStub cVi cSp)) :
    FnOk P w K mg base CX0 7 f fd P_is_erasable (spIsE cSh) := by
  refine F.ok sc_is_erasable (fun vs H Q E h => ?_) (fun cdv A outer s H vs Q E hr h => ?_)
  · obtain ⟨a, s, rfl, _⟩ := h; rfl
  · obtain ⟨a, s, rfl, hs, hz, k⟩ := h
    refine ⟨_, PSs.nox (pss_one (ps_ret (pe_cmpR op_isN (pe_cal c_stubborn_view (hr.mono (by decide)) rfl (pa_cons (pe_smC c_of_sheet (pe_glob (v := .ref _) rfl TM.g_Views rfl) (hr.mono (by decide)) (pa_cons (pv 0) pa_nil)) pa_nil)) pe_non (nomark _)))), ?_⟩
    (repeat (first | refine ⟨_, rfl, ?_⟩ | refine ⟨_, _, rfl, rfl, ?_⟩ | refine ⟨_, _, rfl, ?_⟩ | refine ⟨rfl, ?_⟩))
    refine ⟨a, s, rfl, hz, hs, fun v H' ss s1 hv h6 => ?_⟩
    (repeat (first | refine ⟨_, rfl, ?_⟩ | refine ⟨_, _, rfl, rfl, ?_⟩ | refine ⟨_, _, rfl, ?_⟩ | refine ⟨rfl, ?_⟩))
    refine ⟨v, ss, rfl, hv, fun r H2 s2 hr2 => ?_⟩
    (repeat (first | refine ⟨_, rfl, ?_⟩ | refine ⟨_, _, rfl, rfl, ?_⟩ | refine ⟨_, _, rfl, ?_⟩ | refine ⟨rfl, ?_⟩))
    have := k r ss H2 (s1.trans s2) h6 hr2
    cases r with
    | none => exact this
    | some i => exact this
end
end SV
end

section
set_option Elab.async false
set_option linter.all false
set_option maxRecDepth 100000
set_option maxHeartbeats 4000000
/-! Erasers: what is refused. -/
namespace SV
open PySem PySem.Spec PyProof.Rows L2
section
variable {P : Program} {w : World} {K : PySem.W.Frag} {mg : Str → Option Value} {base : Heap} {f : Addr} {fd : FuncData} {cTu cSp cVi cSh cNo : Addr} {dvs : List V} {kws : List (Str × V)}
/-- the error's class -/
structure TxtE (P : Program) (w : World) (K : PySem.W.Frag) (mg : Str → Option Value) (base : Heap) (cNo : Addr) (ps : List Str) (k : Nat) (sp : Sp) : Prop where
  g_NoEraser : mg "NoEraser" = some (.ref cNo)
  oex : OexC K cNo
  ex : ∃ (fI : Addr) (fd : FuncData), PySem.W.findIn K (.ref cNo) "__init__" = some (some (.ref fI)) ∧ PySem.W.typeIn K (.ref fI) = some (.type "function") ∧ FnOk P w K mg base CX0 k fI fd ps sp ∧ Binds K fd ps []
theorem pmk_no {X : Cx} {ps : List Str} {k : Nat} {sp : Sp} {e : Expr} {p pos : Pos} {ta : TA} (T : TxtE X.prog X.w X.K X.mg X.base cNo ps k sp) (hr : Room (k + 1) X.A) (hg : Gl X "NoEraser") (ha : PA X [e] ta)
    (he : starEach [e] X.env = (false, eval e X.env) :: starEach [] X.env := by rfl) (hpl : (backTo pos (starEach [] X.env)).any (·.1) = false := by rfl) : PMk X (.Call (.Name "NoEraser" p) [e] [] pos) (tMkO cNo sp [] ta) := by
  obtain ⟨fI, fd, h1, h2, F, hb⟩ := T.ex
  exact pmk_oex T.oex h1 h2 F hr hb .nil pass0 hg T.g_NoEraser ha (by decide) he hpl
/- NoEraser.__init__ -/
abbrev N_NoEraser___init__ : List Str := ["self", "view"]
abbrev P_NoEraser___init__ : List Str := ["self", "view"]
theorem sc_NoEraser___init : FnScope N_NoEraser___init__ P_NoEraser___init__ (defScope s_NoEraser___init__) := ⟨rfl, rfl, rfl, by decide +kernel, rfl, by decide +kernel, by decide +kernel⟩
/- erasable_views -/
abbrev N_erasable_views : List Str := ["sheet", "views", "view"]
abbrev P_erasable_views : List Str := ["sheet"]
theorem sc_erasable_views : FnScope N_erasable_views P_erasable_views (defScope s_erasable_views) := ⟨rfl, rfl, rfl, by decide +kernel, rfl, by decide +kernel, by decide +kernel⟩
/- eraser -/
abbrev N_eraser : List Str := ["sheet"]
abbrev P_eraser : List Str := ["sheet"]
theorem sc_eraser : FnScope N_eraser P_eraser (defScope s_eraser) := ⟨rfl, rfl, rfl, by decide +kernel, rfl, by decide +kernel, by decide +kernel⟩
def spNoInit (cNo : Addr) : Sp := fun vs H Q _ => ∃ (a : Addr) (v : V), vs = [.ref a, v] ∧ H a = some (exo a cNo none) ∧ ∀ dx, H dx = none → dx ≠ a → Q .non (upd (upd H dx (exd dx [("view", v)])) a (exo a cNo (some dx)))
theorem ok_No_init (oex : OexC K cNo) (hno : PySem.W.findIn K (.ref cNo) "view" = some none) (F : MDef K "__init__" "NoEraser.__init__" s_NoEraser___init__ dvs kws f fd) : FnOk P w K mg base CX0 1 f fd P_NoEraser___init__ (spNoInit cNo) := by
  refine F.ok sc_NoEraser___init (fun vs H Q E h => ?_) (fun cdv A outer s H vs Q E hr h => ?_)
  · obtain ⟨a, v, rfl, _⟩ := h; rfl
  · obtain ⟨a, v, rfl, h0, k⟩ := h
    refine ⟨_, PSs.nox (pss_one (ps_ost (pv 0) (pv 1))), ?_⟩
    (repeat (first | refine ⟨_, rfl, ?_⟩ | refine ⟨_, _, rfl, rfl, ?_⟩ | refine ⟨_, _, rfl, ?_⟩ | refine ⟨rfl, ?_⟩))
    exact ⟨a, cNo, rfl, oex, hno, .inl ⟨h0, k⟩⟩
def spErV (cSh cVi cSp cNo : Addr) : Sp := fun vs H Q E => ∃ (a : Addr) (s : List Row), vs = [.ref a] ∧ SheetAt cSh H a s ∧ s.length ≤ 1000000 ∧ (∀ v H' ss, Same H H' → ViewsAt cVi cSp H' v ss → Six s ss → Stub ss none → Q (.ref v) H') ∧
  ∀ d H' i ss, Same H H' → Six s ss → Stub ss (some i) → H' d = some (.xd [("view", .int (i : Nat))]) → E (.ref cNo) (some d) H'
theorem ok_erasable_views (TM : TxtM K mg cTu cSp cVi cSh) (TE : TxtE P w K mg base cNo P_NoEraser___init__ 1 (spNoInit cNo)) (F : GDef K "erasable_views" s_erasable_views f fd) (c_of_sheet : SCal P w K mg base cVi "of_sheet" P_Views_of_sheet 4 (spOfSheet cSh cVi cSp)) (c_stubborn_view : Cal P w K mg base CX0 "stubborn_view" P_stubborn_view 6 (spStub cVi cSp)) :
    FnOk P w K mg base (L2.CX P w) 7 f fd P_erasable_views (spErV cSh cVi cSp cNo) := by
  refine F.ok sc_erasable_views (fun vs H Q E h => ?_) (fun cdv A outer s H vs Q E hr h => ?_)
  · obtain ⟨a, s, rfl, _⟩ := h; rfl
  · obtain ⟨a, s, rfl, hs, hz, k1, k2⟩ := h
    refine ⟨_, pss_cons (ps_set (i := 1) sc_erasable_views.nd rfl (Or.inl rfl) (pe_smC c_of_sheet (pe_glob (v := .ref _) rfl TM.g_Views rfl) (hr.mono (by decide)) (pa_cons (pv 0) pa_nil)))
      (pss_cons (ps_set (i := 2) sc_erasable_views.nd rfl (Or.inl rfl) (pe_cal c_stubborn_view (hr.mono (by decide)) rfl (pa_cons (pv 1) pa_nil)))
      (pss_cons (ps_if (pt_cmpR op_notN (pv 2) pe_non (nomark _)) (pss_one (ps_raise rfl (takes_of rfl rfl rfl rfl) (pmk_no TE (hr.mono (by decide)) rfl (pa_cons (pv 2) pa_nil)))) pss_nil)
      (pss_one (ps_ret (pv 1))))), ?_⟩
    (repeat (first | refine ⟨_, rfl, ?_⟩ | refine ⟨_, _, rfl, rfl, ?_⟩ | refine ⟨_, _, rfl, ?_⟩ | refine ⟨rfl, ?_⟩))
    refine ⟨a, s, rfl, hz, hs, fun v H' ss s1 hv h6 => ?_⟩
    (repeat (first | refine ⟨_, rfl, ?_⟩ | refine ⟨_, _, rfl, rfl, ?_⟩ | refine ⟨_, _, rfl, ?_⟩ | refine ⟨rfl, ?_⟩))
    refine ⟨v, ss, rfl, hv, fun r H2 s2 hr2 => ?_⟩
    cases r with
    | none =>
      (repeat (first | refine ⟨_, rfl, ?_⟩ | refine ⟨_, _, rfl, rfl, ?_⟩ | refine ⟨_, _, rfl, ?_⟩ | refine ⟨rfl, ?_⟩))
      exact k1 v H2 ss (s1.trans s2) (hv.mono s2) h6 hr2
    | some i =>
      (repeat (first | refine ⟨_, rfl, ?_⟩ | refine ⟨_, _, rfl, rfl, ?_⟩ | refine ⟨_, _, rfl, ?_⟩ | refine ⟨rfl, ?_⟩))
      refine ⟨by simp, fun e ne => ?_⟩
      refine ⟨e, _, rfl, upd_same, fun dx ndx hne => ⟨rfl, dx, [("view", optV (some i))], upd_same, ?_, ?_, ?_⟩⟩
      · rw [upd_ne hne, upd_same]
      · rw [upd_ne hne] at ndx
        exact ndx
      · rw [upd_ne hne] at ndx
        refine k2 dx _ i ss ((s1.trans s2).trans fun c u hc => ?_) h6 hr2 upd_same
        have c1 : c ≠ dx := by rintro rfl; rw [hc] at ndx; cases ndx
        have c2 : c ≠ e := by rintro rfl; rw [hc] at ne; cases ne
        rw [upd_ne c1, del_ne c2, upd_ne c2, upd_ne c1, upd_ne c2]
        exact hc
def spEraser (cSh cNo : Addr) : Sp := fun vs H Q E => ∃ (a : Addr) (s : List Row), vs = [.ref a] ∧ SheetAt cSh H a s ∧ s.length ≤ 100000 ∧ (∀ ss x H' u d, Same H H' → Six s ss → Stub ss none → SheetD cSh H' x u d → H d = none → Canon (closL (oppL s)) u → Q (.ref x) H') ∧
  ∀ d H' i ss, Same H H' → Six s ss → Stub ss (some i) → H' d = some (.xd [("view", .int (i : Nat))]) → E (.ref cNo) (some d) H'
theorem ok_eraser (F : GDef K "eraser" s_eraser f fd) (c_erasable_views : Cal P w K mg base (L2.CX P w) "erasable_views" P_erasable_views 7 (spErV cSh cVi cSp cNo)) (c_counter : Cal P w K mg base CX0 "counter" P_counter 6 (spCounter cSh)) :
    FnOk P w K mg base (L2.CX P w) 8 f fd P_eraser (spEraser cSh cNo) := by
  refine F.ok sc_eraser (fun vs H Q E h => ?_) (fun cdv A outer s H vs Q E hr h => ?_)
  · obtain ⟨a, s, rfl, _⟩ := h; rfl
  · obtain ⟨a, s, rfl, hs, hz, k1, k2⟩ := h
    refine ⟨_, pss_cons (ps_expr (pe_calX c_erasable_views (hr.mono (by decide)) (passes_call (takes_of rfl rfl rfl rfl) (fun _ _ _ _ h => h)) rfl (pa_cons (pv 0) pa_nil))) (pss_one (ps_ret (pe_cal c_counter (hr.mono (by decide)) rfl (pa_cons (pv 0) pa_nil)))), ?_⟩
    (repeat (first | refine ⟨_, rfl, ?_⟩ | refine ⟨_, _, rfl, rfl, ?_⟩ | refine ⟨_, _, rfl, ?_⟩ | refine ⟨rfl, ?_⟩))
    refine ⟨a, s, rfl, hs, by omega, fun v H' ss s1 hv h6 h7 => ?_, k2⟩
    (repeat (first | refine ⟨_, rfl, ?_⟩ | refine ⟨_, _, rfl, rfl, ?_⟩ | refine ⟨_, _, rfl, ?_⟩ | refine ⟨rfl, ?_⟩))
    exact ⟨a, s, rfl, hs.mono s1, hz, fun x H2 u d s2 hx hd hc => k1 ss x H2 u d (s1.trans s2) h6 h7 hx (s1.none hd) hc⟩
end
end SV
end

section
set_option Elab.async false
set_option linter.all false
set_option maxRecDepth 100000
set_option maxHeartbeats 4000000
/-! The law's small defs: draws. -/
namespace SV
open PySem PySem.Spec PyProof.Rows L2
theorem at0 {x : V} {xs : List V} : atI (x :: xs) 0 = some x := atI_nat (j := 0) rfl
theorem ix0 (n : Nat) : ixN (n + 1) 0 = some 0 := by simp [ixN, seqIndex?]
theorem for_rangeB {lo : Int} {n : Nat} {g : TG} {tb : TS} {D : Ends} {σ : L2.St} {H : Hp} (Pv : Nat → L2.St → Hp → Prop) (Pb : L2.St → Hp → Prop) (h0 : Pv 0 σ H)
    (hs : ∀ i σ H, i < n → Pv i σ H → ∀ B : L2.St → Hp → Prop, (∀ σ H, Pb σ H → B σ H) → g (.int (lo + i)) σ H fun σ2 H2 => tb { D with nx := Pv (i + 1), ct := Pv (i + 1), bk := B } σ2 H2) (hn : ∀ σ H, Pv n σ H → Pb σ H) (hd : ∀ σ H, Pb σ H → D.nx σ H) :
    ∃ W : Nat → Nat → L2.St → Hp → Prop, (∃ m, W 0 m σ H) ∧ ∀ i m σ H, W i m σ H →
      ((Itr lo n).stop i H ∧ D.nx σ H) ∨ ((Itr lo n).go i H ∧ ∃ N : L2.St → Hp → Prop, (∀ σ' H', N σ' H' → ∃ m', m' < m ∧ W (i + 1) m' σ' H') ∧ ∀ x H', (Itr lo n).yld i H x H' → g x σ H' fun σ2 H2 => tb { D with nx := N, ct := N, bk := D.nx } σ2 H2) :=
  for_range Pv h0 (fun i σ H hi p => hs i σ H hi p D.nx hd) fun σ H p => hd σ H (hn σ H p)
/-- the pot: a list of whole numbers -/
def PotAt (H : Hp) (p : Addr) : Prop := ∃ ns : List Int, H p = some (.lst (ns.map V.int)) ∧ ns.length ≤ 63
theorem SameX.mut {t p : Addr} {H H' : Hp} {o : HO} (e : SameX t H H') (h : H p = none) : SameX t H (upd H' p o) := fun a u n ha => by rw [upd_ne (ne_of_none ha h)]; exact e a u n ha
theorem SameX.t {p : Addr} {H H' : Hp} (e : SameX p H H') (hp : PotAt H p) : SameT H H' := fun a fs h => by
  obtain ⟨ns, hn, _⟩ := hp
  exact e a _ (ne_of h hn (fun z => nomatch z)) h
theorem PotAt.put {p R : Addr} {H : Hp} {o : HO} (h : PotAt H p) (n : p ≠ R) : PotAt (upd H R o) p := let ⟨ns, h1, h2⟩ := h; ⟨ns, by rw [upd_ne n]; exact h1, h2⟩
theorem PotAt.mono {p : Addr} {H H' : Hp} (h : PotAt H p) (e : Same H H') : PotAt H' p := let ⟨ns, h1, h2⟩ := h; ⟨ns, e _ _ h1, h2⟩
theorem PotAt.ne {p R : Addr} {H : Hp} (h : PotAt H p) (n : H R = none) : p ≠ R := let ⟨ns, h1, _⟩ := h; ne_of_none h1 n
section
variable {P : Program} {w : World} {K : PySem.W.Frag} {mg : Str → Option Value} {base : Heap} {f : Addr} {fd : FuncData}
/- _law_draw -/
abbrev N__law_draw : List Str := ["_law_pot", "_law_many", "_law_turn", "_law_digit"]
abbrev P__law_draw : List Str := ["_law_pot", "_law_many"]
theorem sc_law_draw : FnScope N__law_draw P__law_draw (defScope s__law_draw) := ⟨rfl, rfl, rfl, by decide +kernel, rfl, by decide +kernel, by decide +kernel⟩
/- _law_whole -/
abbrev N__law_whole : List Str := ["_law_thing"]
abbrev P__law_whole : List Str := ["_law_thing"]
theorem sc_law_whole : FnScope N__law_whole P__law_whole (defScope s__law_whole) := ⟨rfl, rfl, rfl, by decide +kernel, rfl, by decide +kernel, by decide +kernel⟩
/- _law_drawn_ink -/
abbrev N__law_drawn_ink : List Str := ["_law_pot", "_law_ink"]
abbrev P__law_drawn_ink : List Str := ["_law_pot"]
theorem sc_law_drawn_ink : FnScope N__law_drawn_ink P__law_drawn_ink (defScope s__law_drawn_ink) := ⟨rfl, rfl, rfl, by decide +kernel, rfl, by decide +kernel, by decide +kernel⟩
/- _law_shift -/
abbrev N__law_shift : List Str := ["_law_pot", "_law_x", "_law_y", "_law_far"]
abbrev P__law_shift : List Str := ["_law_pot"]
theorem sc_law_shift : FnScope N__law_shift P__law_shift (defScope s__law_shift) := ⟨rfl, rfl, rfl, by decide +kernel, rfl, by decide +kernel, by decide +kernel⟩
/- _law_kind_at -/
abbrev N__law_kind_at : List Str := ["_law_number"]
abbrev P__law_kind_at : List Str := ["_law_number"]
theorem sc_law_kind_at : FnScope N__law_kind_at P__law_kind_at (defScope s__law_kind_at) := ⟨rfl, rfl, rfl, by decide +kernel, rfl, by decide +kernel, by decide +kernel⟩
/- _law_some_cells -/
abbrev N__law_some_cells : List Str := ["_law_pot", "_law_most", "_law_by", "_law_rows", "_law_at", "_law_x", "_law_y", "_law_kind"]
abbrev P__law_some_cells : List Str := ["_law_pot", "_law_most", "_law_by"]
theorem sc_law_some_cells : FnScope N__law_some_cells P__law_some_cells (defScope s__law_some_cells) := ⟨rfl, rfl, rfl, by decide +kernel, rfl, by decide +kernel, by decide +kernel⟩
def spDraw : Sp := fun vs H Q _ => ∃ (p : Addr) (m : Int), vs = [.ref p, .int m] ∧ 0 < m ∧ m < 1000000 ∧ PotAt H p ∧ ∀ d H', 0 ≤ d → d < m → SameX p H H' → PotAt H' p → Q (.int d) H'
theorem ok_draw (T : Txt K w mg) (F : GDef K "_law_draw" s__law_draw f fd) : FnOk P w K mg base CX0 1 f fd P__law_draw spDraw := by
  refine F.ok sc_law_draw (fun vs H Q E h => ?_) (fun cdv A outer s H vs Q E hr h => ?_)
  · obtain ⟨p, m, rfl, _⟩ := h; rfl
  · obtain ⟨p, m, rfl, h0, h1, hp, k⟩ := h
    refine ⟨_, PSs.nox (pss_cons (ps_for PassesOwn.never rfl (pi_range1 rfl T.z_range (pa_cons pe_int pa_nil)) (pg_name (i := 2) sc_law_draw.nd rfl (Or.inl rfl))
        (pss_cons (ps_if (PW.pt (pw_or (pt_cmpR op_eq (pe_callB call_len_seq (by rfl) T.z_len (by decide +kernel) (pa_cons (pv 0) pa_nil)) pe_int (nomark _)) (pw_or1 (pt_cmpR op_ne (pe_ix ix_list (pv 0) pe_int (fun _ _ => rfl)) pe_int (nomark _)))))
          (pss_one ps_break)
          pss_nil)
        (pss_one (ps_expr (pe_bm PySem.F.plainAttrs_list PySem.F.slot_list_pop PySem.F.type_list_pop mt_popAt (pv 0) (pa_cons pe_int pa_nil))))))
      (pss_cons (ps_if (pt_cmpR op_eq (pe_callB call_len_seq (by rfl) T.z_len (by decide +kernel) (pa_cons (pv 0) pa_nil)) pe_int (nomark _))
        (pss_one (ps_ret pe_int))
        pss_nil)
      (pss_cons (ps_set (i := 3) sc_law_draw.nd rfl (Or.inl rfl) (pe_op op_mod (pe_callTy call_int1 (by rfl) T.z_int (by decide +kernel) (pa_cons (pe_ix ix_list (pv 0) pe_int (fun _ _ => rfl)) pa_nil)) (pv 1)))
      (pss_cons (ps_asg (pe_op op_fdiv (pe_callTy call_int1 (by rfl) T.z_int (by decide +kernel) (pa_cons (pe_ix ix_list (pv 0) pe_int (fun _ _ => rfl)) pa_nil)) (pv 1)) (pg_sub (pv 0) pe_int set_list))
      (pss_one (ps_ret (pv 3))))))), ?_⟩
    (repeat (first | refine ⟨_, rfl, ?_⟩ | refine ⟨_, _, rfl, rfl, ?_⟩ | refine ⟨_, _, rfl, ?_⟩ | refine ⟨rfl, ?_⟩))
    refine ⟨by decide, by decide, ?_⟩
    refine for_rangeB (n := 64) (fun _ σ G => (∃ a2, σ = [some (.ref p), some (.int m), a2, none]) ∧ SameX p H G ∧ PotAt G p) (fun σ G => (∃ a2, σ = [some (.ref p), some (.int m), a2, none]) ∧ SameX p H G ∧ PotAt G p) ⟨⟨_, rfl⟩, (Same.refl _).x p, hp⟩ (fun i σ G hi q B hB => ?_) (fun σ G q => q) (fun σ G q => ?_)
    · obtain ⟨⟨a2, rfl⟩, sx, ns, hn, hl⟩ := q
      (repeat (first | refine ⟨_, rfl, ?_⟩ | refine ⟨_, _, rfl, rfl, ?_⟩ | refine ⟨_, _, rfl, ?_⟩ | refine ⟨rfl, ?_⟩))
      refine ⟨p, _, rfl, .inl (SqL.of hn), ?_⟩
      (repeat (first | refine ⟨_, rfl, ?_⟩ | refine ⟨_, _, rfl, rfl, ?_⟩ | refine ⟨_, _, rfl, ?_⟩ | refine ⟨rfl, ?_⟩))
      rw [List.length_map]
      refine itD (fun h => ?_) (fun h => ?_)
      · exact hB _ _ ⟨⟨_, rfl⟩, sx, ns, hn, hl⟩
      · cases ns with
        | nil => exact absurd rfl h
        | cons n ns =>
        (repeat (first | refine ⟨_, rfl, ?_⟩ | refine ⟨_, _, rfl, rfl, ?_⟩ | refine ⟨_, _, rfl, ?_⟩ | refine ⟨rfl, ?_⟩))
        refine ⟨p, _, 0, .int n, rfl, rfl, SqL.of hn, at0, ?_⟩
        (repeat (first | refine ⟨_, rfl, ?_⟩ | refine ⟨_, _, rfl, rfl, ?_⟩ | refine ⟨_, _, rfl, ?_⟩ | refine ⟨rfl, ?_⟩))
        refine itB (fun h2 => ?_) (fun h2 => ?_)
        · exact hB _ _ ⟨⟨_, rfl⟩, sx, _, hn, hl⟩
        · (repeat (first | refine ⟨_, rfl, ?_⟩ | refine ⟨_, _, rfl, rfl, ?_⟩ | refine ⟨_, _, rfl, ?_⟩ | refine ⟨rfl, ?_⟩))
          refine ⟨ty_lst hn, ?_⟩
          (repeat (first | refine ⟨_, rfl, ?_⟩ | refine ⟨_, _, rfl, rfl, ?_⟩ | refine ⟨_, _, rfl, ?_⟩ | refine ⟨rfl, ?_⟩))
          refine ⟨p, _, 0, 0, _, rfl, rfl, hn, by decide, by decide, ?_, rfl, ⟨_, rfl⟩, sx.trans SameX.put, ns, upd_same, ?_⟩
          · rw [List.length_map]
            simp [seqIndex?]
          · simp only [List.length_cons] at hl
            omega
    · obtain ⟨⟨a2, rfl⟩, sx, ns, hn, hl⟩ := q
      (repeat (first | refine ⟨_, rfl, ?_⟩ | refine ⟨_, _, rfl, rfl, ?_⟩ | refine ⟨_, _, rfl, ?_⟩ | refine ⟨rfl, ?_⟩))
      refine ⟨p, _, rfl, .inl (SqL.of hn), ?_⟩
      (repeat (first | refine ⟨_, rfl, ?_⟩ | refine ⟨_, _, rfl, rfl, ?_⟩ | refine ⟨_, _, rfl, ?_⟩ | refine ⟨rfl, ?_⟩))
      rw [List.length_map]
      refine itD (fun h => ?_) (fun h => ?_)
      · (repeat (first | refine ⟨_, rfl, ?_⟩ | refine ⟨_, _, rfl, rfl, ?_⟩ | refine ⟨_, _, rfl, ?_⟩ | refine ⟨rfl, ?_⟩))
        exact k 0 _ (Int.le_refl _) h0 sx ⟨ns, hn, hl⟩
      · cases ns with
        | nil => exact absurd rfl h
        | cons n ns =>
        (repeat (first | refine ⟨_, rfl, ?_⟩ | refine ⟨_, _, rfl, rfl, ?_⟩ | refine ⟨_, _, rfl, ?_⟩ | refine ⟨rfl, ?_⟩))
        refine ⟨p, _, 0, .int n, rfl, rfl, SqL.of hn, at0, ?_⟩
        refine .inl ⟨n, rfl, ?_⟩
        (repeat (first | refine ⟨_, rfl, ?_⟩ | refine ⟨_, _, rfl, rfl, ?_⟩ | refine ⟨_, _, rfl, ?_⟩ | refine ⟨rfl, ?_⟩))
        refine ⟨h0, ?_⟩
        (repeat (first | refine ⟨_, rfl, ?_⟩ | refine ⟨_, _, rfl, rfl, ?_⟩ | refine ⟨_, _, rfl, ?_⟩ | refine ⟨rfl, ?_⟩))
        refine ⟨p, _, 0, .int n, rfl, rfl, SqL.of hn, at0, ?_⟩
        refine .inl ⟨n, rfl, ?_⟩
        (repeat (first | refine ⟨_, rfl, ?_⟩ | refine ⟨_, _, rfl, rfl, ?_⟩ | refine ⟨_, _, rfl, ?_⟩ | refine ⟨rfl, ?_⟩))
        refine ⟨⟨h0, by omega⟩, ?_⟩
        (repeat (first | refine ⟨_, rfl, ?_⟩ | refine ⟨_, _, rfl, rfl, ?_⟩ | refine ⟨_, _, rfl, ?_⟩ | refine ⟨rfl, ?_⟩))
        refine ⟨p, _, 0, 0, rfl, rfl, hn, (by rw [List.length_map]; exact ix0 _), ?_⟩
        (repeat (first | refine ⟨_, rfl, ?_⟩ | refine ⟨_, _, rfl, rfl, ?_⟩ | refine ⟨_, _, rfl, ?_⟩ | refine ⟨rfl, ?_⟩))
        exact k _ _ (Int.emod_nonneg _ (by omega)) (Int.emod_lt_of_pos _ h0) (sx.trans SameX.put) ⟨n / m :: ns, upd_same, hl⟩
def spWhole : Sp := fun vs H Q _ => ∃ i : Int, vs = [.int i] ∧ Q (.bl true) H
theorem ok_whole (T : Txt K w mg) (ki : PySem.W.kitOne K (.type "int") (.type "int") = some true) (kb : PySem.W.kitOne K (.type "int") (.type "bool") = some false) (F : GDef K "_law_whole" s__law_whole f fd) : FnOk P w K mg base CX0 1 f fd P__law_whole spWhole := by
  refine F.ok sc_law_whole (fun vs H Q E h => ?_) (fun cdv A outer s H vs Q E hr h => ?_)
  · obtain ⟨i, rfl, _⟩ := h; rfl
  · obtain ⟨i, rfl, k⟩ := h
    refine ⟨_, PSs.nox (pss_one (ps_ret (pe_and (pe_callB call_isi (by rfl) T.z_isinstance (by decide +kernel) (pa_cons (pv 0) (pa_cons (pe_bltn (v := .ty "int") (u := .type "int") (by rfl) T.z_int (by kernel_rfl) rfl) pa_nil))) (pe_one (pe_not (pe_callB call_isi (by rfl) T.z_isinstance (by decide +kernel) (pa_cons (pv 0) (pa_cons (pe_bltn (v := .ty "bool") (u := .type "bool") (by rfl) T.z_bool (by kernel_rfl) rfl) pa_nil)))))))), ?_⟩
    (repeat (first | refine ⟨_, rfl, ?_⟩ | refine ⟨_, _, rfl, rfl, ?_⟩ | refine ⟨_, _, rfl, ?_⟩ | refine ⟨rfl, ?_⟩))
    refine ⟨_, _, _, _, true, rfl, .ty "int", .base (.int i), ki, ?_⟩
    (repeat (first | refine ⟨_, rfl, ?_⟩ | refine ⟨_, _, rfl, rfl, ?_⟩ | refine ⟨_, _, rfl, ?_⟩ | refine ⟨rfl, ?_⟩))
    refine ⟨_, _, _, _, false, rfl, .ty "bool", .base (.int i), kb, ?_⟩
    (repeat (first | refine ⟨_, rfl, ?_⟩ | refine ⟨_, _, rfl, rfl, ?_⟩ | refine ⟨_, _, rfl, ?_⟩ | refine ⟨rfl, ?_⟩))
    exact k
def spInk : Sp := fun vs H Q _ => ∃ p : Addr, vs = [.ref p] ∧ PotAt H p ∧ ∀ i H', i ≠ 0 → -3 ≤ i → i ≤ 3 → SameX p H H' → PotAt H' p → Q (.int i) H'
theorem ok_drawn_ink (F : GDef K "_law_drawn_ink" s__law_drawn_ink f fd) (c__law_draw : Cal P w K mg base CX0 "_law_draw" P__law_draw 1 spDraw) : FnOk P w K mg base CX0 2 f fd P__law_drawn_ink spInk := by
  refine F.ok sc_law_drawn_ink (fun vs H Q E h => ?_) (fun cdv A outer s H vs Q E hr h => ?_)
  · obtain ⟨i, rfl, _⟩ := h; rfl
  · obtain ⟨p, rfl, hp, k⟩ := h
    refine ⟨_, PSs.nox (pss_cons (ps_set (i := 1) sc_law_drawn_ink.nd rfl (Or.inl rfl) (pe_op op_add pe_int (pe_cal c__law_draw (hr.mono (by decide)) rfl (pa_cons (pv 0) (pa_cons pe_int pa_nil)))))
      (pss_cons (ps_if (pt_cmpR op_eq (pe_cal c__law_draw (hr.mono (by decide)) rfl (pa_cons (pv 0) (pa_cons pe_int pa_nil))) pe_int (nomark _))
        (pss_one (ps_ret (pe_un un_neg (pv 1))))
        pss_nil)
      (pss_one (ps_ret (pv 1))))), ?_⟩
    (repeat (first | refine ⟨_, rfl, ?_⟩ | refine ⟨_, _, rfl, rfl, ?_⟩ | refine ⟨_, _, rfl, ?_⟩ | refine ⟨rfl, ?_⟩))
    refine ⟨by decide, by decide, hp, fun d H1 g1 g2 s1 p1 => ?_⟩
    (repeat (first | refine ⟨_, rfl, ?_⟩ | refine ⟨_, _, rfl, rfl, ?_⟩ | refine ⟨_, _, rfl, ?_⟩ | refine ⟨rfl, ?_⟩))
    refine ⟨by decide, by decide, p1, fun e H2 g3 g4 s2 p2 => ?_⟩
    (repeat (first | refine ⟨_, rfl, ?_⟩ | refine ⟨_, _, rfl, rfl, ?_⟩ | refine ⟨_, _, rfl, ?_⟩ | refine ⟨rfl, ?_⟩))
    refine itD (fun h => ?_) (fun h => ?_)
    · (repeat (first | refine ⟨_, rfl, ?_⟩ | refine ⟨_, _, rfl, rfl, ?_⟩ | refine ⟨_, _, rfl, ?_⟩ | refine ⟨rfl, ?_⟩))
      exact k _ _ (by omega) (by omega) (by omega) (s1.trans s2) p2
    · (repeat (first | refine ⟨_, rfl, ?_⟩ | refine ⟨_, _, rfl, rfl, ?_⟩ | refine ⟨_, _, rfl, ?_⟩ | refine ⟨rfl, ?_⟩))
      exact k _ _ (by omega) (by omega) (by omega) (s1.trans s2) p2
def spShift : Sp := fun vs H Q _ => ∃ p : Addr, vs = [.ref p] ∧ PotAt H p ∧ ∀ (z : Place) u H', SameX p H H' → PotAt H' p → Tp H' (placeV z) u → Q u H'
theorem ok_shift (F : GDef K "_law_shift" s__law_shift f fd) (c__law_draw : Cal P w K mg base CX0 "_law_draw" P__law_draw 1 spDraw) : FnOk P w K mg base CX0 2 f fd P__law_shift spShift := by
  refine F.ok sc_law_shift (fun vs H Q E h => ?_) (fun cdv A outer s H vs Q E hr h => ?_)
  · obtain ⟨i, rfl, _⟩ := h; rfl
  · obtain ⟨p, rfl, hp, k⟩ := h
    refine ⟨_, PSs.nox (pss_cons (ps_set (i := 1) sc_law_shift.nd rfl (Or.inl rfl) (pe_op op_sub (pe_cal c__law_draw (hr.mono (by decide)) rfl (pa_cons (pv 0) (pa_cons pe_int pa_nil))) pe_int))
      (pss_cons (ps_set (i := 2) sc_law_shift.nd rfl (Or.inl rfl) (pe_op op_sub (pe_cal c__law_draw (hr.mono (by decide)) rfl (pa_cons (pv 0) (pa_cons pe_int pa_nil))) pe_int))
      (pss_cons (ps_if (pt_cmpR op_ne (pe_cal c__law_draw (hr.mono (by decide)) rfl (pa_cons (pv 0) (pa_cons pe_int pa_nil))) pe_int (nomark _))
        (pss_one (ps_ret (pe_tup (pa_cons (pv 1) (pa_cons (pv 2) pa_nil)))))
        pss_nil)
      (pss_cons (ps_set (i := 3) sc_law_shift.nd rfl (Or.inl rfl) (pe_op op_add (pe_op op_pow pe_int pe_int) (pe_cal c__law_draw (hr.mono (by decide)) rfl (pa_cons (pv 0) (pa_cons pe_int pa_nil)))))
      (pss_cons (ps_if (pt_cmpR op_eq (pe_cal c__law_draw (hr.mono (by decide)) rfl (pa_cons (pv 0) (pa_cons pe_int pa_nil))) pe_int (nomark _))
        (pss_one (ps_set (i := 3) sc_law_shift.nd rfl (Or.inl rfl) (pe_un un_neg (pv 3))))
        pss_nil)
      (pss_cons (ps_if (pt_cmpR op_eq (pe_cal c__law_draw (hr.mono (by decide)) rfl (pa_cons (pv 0) (pa_cons pe_int pa_nil))) pe_int (nomark _))
        (pss_one (ps_ret (pe_tup (pa_cons (pv 1) (pa_cons (pv 3) pa_nil)))))
        pss_nil)
      (pss_one (ps_ret (pe_tup (pa_cons (pv 3) (pa_cons (pv 2) pa_nil))))))))))), ?_⟩
    have fin : ∀ {G : Hp} (z : Place), SameX p H G → PotAt G p → [V.int z.1, V.int z.2].length ≤ sizeLine ∧ ∀ a, G a = none → Q (.ref a) (upd G a (.tup [.int z.1, .int z.2])) := fun {G} z sx ⟨ns, hn, hl⟩ =>
      ⟨le_line (by simp), fun a na => k z _ _ (sx.trans ((Same.new na).x p)) ⟨ns, (Same.new na) _ _ hn, hl⟩ ⟨a, rfl, upd_same⟩⟩
    (repeat (first | refine ⟨_, rfl, ?_⟩ | refine ⟨_, _, rfl, rfl, ?_⟩ | refine ⟨_, _, rfl, ?_⟩ | refine ⟨rfl, ?_⟩))
    refine ⟨by decide, by decide, hp, fun x H1 g1 g2 s1 p1 => ?_⟩
    (repeat (first | refine ⟨_, rfl, ?_⟩ | refine ⟨_, _, rfl, rfl, ?_⟩ | refine ⟨_, _, rfl, ?_⟩ | refine ⟨rfl, ?_⟩))
    refine ⟨by decide, by decide, p1, fun y H2 g3 g4 s2 p2 => ?_⟩
    (repeat (first | refine ⟨_, rfl, ?_⟩ | refine ⟨_, _, rfl, rfl, ?_⟩ | refine ⟨_, _, rfl, ?_⟩ | refine ⟨rfl, ?_⟩))
    refine ⟨by decide, by decide, p2, fun z H3 g5 g6 s3 p3 => ?_⟩
    have s123 := s1.trans (s2.trans s3)
    (repeat (first | refine ⟨_, rfl, ?_⟩ | refine ⟨_, _, rfl, rfl, ?_⟩ | refine ⟨_, _, rfl, ?_⟩ | refine ⟨rfl, ?_⟩))
    refine itB (fun h => ?_) (fun h => ?_)
    · (repeat (first | refine ⟨_, rfl, ?_⟩ | refine ⟨_, _, rfl, rfl, ?_⟩ | refine ⟨_, _, rfl, ?_⟩ | refine ⟨rfl, ?_⟩))
      exact fin (x - 3, y - 3) s123 p3
    · (repeat (first | refine ⟨_, rfl, ?_⟩ | refine ⟨_, _, rfl, rfl, ?_⟩ | refine ⟨_, _, rfl, ?_⟩ | refine ⟨rfl, ?_⟩))
      refine ⟨⟨by decide, by decide, by decide⟩, ?_⟩
      (repeat (first | refine ⟨_, rfl, ?_⟩ | refine ⟨_, _, rfl, rfl, ?_⟩ | refine ⟨_, _, rfl, ?_⟩ | refine ⟨rfl, ?_⟩))
      refine ⟨by decide, by decide, p3, fun z H4 g5 g6 s4 p4 => ?_⟩
      (repeat (first | refine ⟨_, rfl, ?_⟩ | refine ⟨_, _, rfl, rfl, ?_⟩ | refine ⟨_, _, rfl, ?_⟩ | refine ⟨rfl, ?_⟩))
      refine ⟨by decide, by decide, p4, fun e H5 g7 g8 s5 p5 => ?_⟩
      (repeat (first | refine ⟨_, rfl, ?_⟩ | refine ⟨_, _, rfl, rfl, ?_⟩ | refine ⟨_, _, rfl, ?_⟩ | refine ⟨rfl, ?_⟩))
      have s5' := s123.trans (s4.trans s5)
      refine itD (fun h => ?_) (fun h => ?_)
      · (repeat (first | refine ⟨_, rfl, ?_⟩ | refine ⟨_, _, rfl, rfl, ?_⟩ | refine ⟨_, _, rfl, ?_⟩ | refine ⟨rfl, ?_⟩))
        refine ⟨by decide, by decide, p5, fun e H6 g7 g8 s6 p6 => ?_⟩
        (repeat (first | refine ⟨_, rfl, ?_⟩ | refine ⟨_, _, rfl, rfl, ?_⟩ | refine ⟨_, _, rfl, ?_⟩ | refine ⟨rfl, ?_⟩))
        refine itD (fun h => ?_) (fun h => ?_)
        · (repeat (first | refine ⟨_, rfl, ?_⟩ | refine ⟨_, _, rfl, rfl, ?_⟩ | refine ⟨_, _, rfl, ?_⟩ | refine ⟨rfl, ?_⟩))
          exact fin (x - 3, _) (s5'.trans s6) p6
        · (repeat (first | refine ⟨_, rfl, ?_⟩ | refine ⟨_, _, rfl, rfl, ?_⟩ | refine ⟨_, _, rfl, ?_⟩ | refine ⟨rfl, ?_⟩))
          exact fin (_, y - 3) (s5'.trans s6) p6
      · (repeat (first | refine ⟨_, rfl, ?_⟩ | refine ⟨_, _, rfl, rfl, ?_⟩ | refine ⟨_, _, rfl, ?_⟩ | refine ⟨rfl, ?_⟩))
        refine ⟨by decide, by decide, p5, fun e H6 g7 g8 s6 p6 => ?_⟩
        (repeat (first | refine ⟨_, rfl, ?_⟩ | refine ⟨_, _, rfl, rfl, ?_⟩ | refine ⟨_, _, rfl, ?_⟩ | refine ⟨rfl, ?_⟩))
        refine itD (fun h => ?_) (fun h => ?_)
        · (repeat (first | refine ⟨_, rfl, ?_⟩ | refine ⟨_, _, rfl, rfl, ?_⟩ | refine ⟨_, _, rfl, ?_⟩ | refine ⟨rfl, ?_⟩))
          exact fin (x - 3, _) (s5'.trans s6) p6
        · (repeat (first | refine ⟨_, rfl, ?_⟩ | refine ⟨_, _, rfl, rfl, ?_⟩ | refine ⟨_, _, rfl, ?_⟩ | refine ⟨rfl, ?_⟩))
          exact fin (_, y - 3) (s5'.trans s6) p6
def kd6 : Nat → Kd
  | 0 => .d
  | 1 => .e
  | 2 => .n
  | 3 => .w
  | 4 => .u
  | _ => .v
def spKindAt : Sp := fun vs H Q _ => ∃ n : Int, vs = [.int n] ∧ ∀ H', Same H H' → Q (.str (kS (kd6 (n % 6).toNat))) H'
theorem ok_kind_at (T : Txt K w mg) (F : GDef K "_law_kind_at" s__law_kind_at f fd) : FnOk P w K mg base CX0 1 f fd P__law_kind_at spKindAt := by
  refine F.ok sc_law_kind_at (fun vs H Q E h => ?_) (fun cdv A outer s H vs Q E hr h => ?_)
  · obtain ⟨i, rfl, _⟩ := h; rfl
  · obtain ⟨n, rfl, k⟩ := h
    refine ⟨_, PSs.nox (pss_one (ps_ret (pe_ix ix_list (pe_lst (pa_cons pe_str (pa_cons pe_str (pa_cons pe_str (pa_cons pe_str (pa_cons pe_str (pa_cons pe_str pa_nil))))))) (pe_op op_mod (pe_callTy call_int1 (by rfl) T.z_int (by decide +kernel) (pa_cons (pv 0) pa_nil)) pe_int) (fun _ _ => rfl)))), ?_⟩
    (repeat (first | refine ⟨_, rfl, ?_⟩ | refine ⟨_, _, rfl, rfl, ?_⟩ | refine ⟨_, _, rfl, ?_⟩ | refine ⟨rfl, ?_⟩))
    refine ⟨le_line (by simp), fun p np => ?_⟩
    refine ⟨_, rfl, .inl ⟨n, rfl, ?_⟩⟩
    (repeat (first | refine ⟨_, rfl, ?_⟩ | refine ⟨_, _, rfl, rfl, ?_⟩ | refine ⟨_, _, rfl, ?_⟩ | refine ⟨rfl, ?_⟩))
    refine ⟨(show (0 : Int) < 6 by decide), ?_⟩
    have h1 := Int.emod_nonneg n (show (6 : Int) ≠ 0 by decide)
    have h2 := Int.emod_lt_of_pos n (show (0 : Int) < 6 by decide)
    have h3 : n % 6 = (((n % 6).toNat : Nat) : Int) := by omega
    have h4 : (n % 6).toNat < 6 := by omega
    have h5 : [V.str "d", .str "e", .str "n", .str "w", .str "u", .str "v"][(n % 6).toNat]? = some (.str (kS (kd6 (n % 6).toNat))) := by
      generalize (n % 6).toNat = j at h4
      match j, h4 with
      | 0, _ => rfl
      | 1, _ => rfl
      | 2, _ => rfl
      | 3, _ => rfl
      | 4, _ => rfl
      | 5, _ => rfl
    exact ⟨p, _, _, _, rfl, rfl, SqL.of upd_same, (by rw [h3]; exact atI_nat h5), k _ (Same.new np)⟩
def spSomeCells : Sp := fun vs H Q _ => ∃ p : Addr, vs = [.ref p, .int 4, .int 0] ∧ PotAt H p ∧ ∀ l L H', SameX p H H' → PotAt H' p → H l = none → Ls H' rowV l L → L.length ≤ 4 → (∀ r ∈ L, r.2 ≠ 0 ∧ -3 ≤ r.2 ∧ r.2 ≤ 3) → Q (.ref l) H'
theorem ok_some_cells (T : Txt K w mg) (F : GDef K "_law_some_cells" s__law_some_cells f fd) (c__law_draw : Cal P w K mg base CX0 "_law_draw" P__law_draw 1 spDraw) (c__law_kind_at : Cal P w K mg base CX0 "_law_kind_at" P__law_kind_at 1 spKindAt) (c__law_drawn_ink : Cal P w K mg base CX0 "_law_drawn_ink" P__law_drawn_ink 2 spInk) :
    FnOk P w K mg base CX0 3 f fd P__law_some_cells spSomeCells := by
  refine F.ok sc_law_some_cells (fun vs H Q E h => ?_) (fun cdv A outer s H vs Q E hr h => ?_)
  · obtain ⟨i, rfl, _⟩ := h; rfl
  · obtain ⟨p, rfl, hp, k⟩ := h
    refine ⟨_, PSs.nox (pss_cons (ps_set (i := 3) sc_law_some_cells.nd rfl (Or.inl rfl) (pe_lst pa_nil))
      (pss_cons (ps_for PassesOwn.never rfl (pi_range1 rfl T.z_range (pa_cons (pe_op op_sub (pv 1) (pe_cal c__law_draw (hr.mono (by decide)) rfl (pa_cons (pv 0) (pa_cons (pe_op op_add (pv 1) pe_int) pa_nil)))) pa_nil)) (pg_name (i := 4) sc_law_some_cells.nd rfl (Or.inl rfl))
        (pss_cons (ps_set (i := 5) sc_law_some_cells.nd rfl (Or.inl rfl) (pe_op op_sub (pe_op op_mod (pe_callTy call_int1 (by rfl) T.z_int (by decide +kernel) (pa_cons (pe_op op_add (pe_op op_add (pe_cal c__law_draw (hr.mono (by decide)) rfl (pa_cons (pv 0) (pa_cons pe_int pa_nil))) (pe_op op_mul pe_int (pv 4))) (pv 2)) pa_nil)) pe_int) pe_int))
        (pss_cons (ps_set (i := 6) sc_law_some_cells.nd rfl (Or.inl rfl) (pe_op op_sub (pe_op op_mod (pe_callTy call_int1 (by rfl) T.z_int (by decide +kernel) (pa_cons (pe_op op_add (pe_cal c__law_draw (hr.mono (by decide)) rfl (pa_cons (pv 0) (pa_cons pe_int pa_nil))) (pe_op op_mul pe_int (pv 4))) pa_nil)) pe_int) pe_int))
        (pss_cons (ps_set (i := 7) sc_law_some_cells.nd rfl (Or.inl rfl) (pe_cal c__law_kind_at (hr.mono (by decide)) rfl (pa_cons (pe_op op_add (pe_cal c__law_draw (hr.mono (by decide)) rfl (pa_cons (pv 0) (pa_cons pe_int pa_nil))) (pv 4)) pa_nil)))
        (pss_one (ps_expr (pe_bm PySem.F.plainAttrs_list PySem.F.slot_list_append PySem.F.type_list_append mt_append (pv 3) (pa_cons (pe_tup (pa_cons (pv 5) (pa_cons (pv 6) (pa_cons (pv 7) (pa_cons (pe_cal c__law_drawn_ink (hr.mono (by decide)) rfl (pa_cons (pv 0) pa_nil)) pa_nil))))) pa_nil))))))))
      (pss_one (ps_ret (pv 3))))), ?_⟩
    (repeat (first | refine ⟨_, rfl, ?_⟩ | refine ⟨_, _, rfl, rfl, ?_⟩ | refine ⟨_, _, rfl, ?_⟩ | refine ⟨rfl, ?_⟩))
    refine ⟨le_line (by simp), fun R nR => ?_⟩
    have npR := hp.ne nR
    have sR : Same H (upd H R (.lst [])) := Same.new nR
    (repeat (first | refine ⟨_, rfl, ?_⟩ | refine ⟨_, _, rfl, rfl, ?_⟩ | refine ⟨_, _, rfl, ?_⟩ | refine ⟨rfl, ?_⟩))
    refine ⟨by decide, by decide, hp.put npR, fun d G0 g1 g2 s0 p0 => ?_⟩
    have sx0 : SameX p H G0 := (sR.x p).trans s0
    have hR0 : G0 R = some (.lst []) := s0 _ _ (Ne.symm npR) upd_same
    (repeat (first | refine ⟨_, rfl, ?_⟩ | refine ⟨_, _, rfl, rfl, ?_⟩ | refine ⟨_, _, rfl, ?_⟩ | refine ⟨rfl, ?_⟩))
    refine ⟨by omega, by omega, ?_⟩
    refine for_range (lo := 0) (n := (4 - d).toNat) (fun i σ G => (∃ a4 a5 a6 a7, σ = [some (.ref p), some (.int 4), some (.int 0), some (.ref R), a4, a5, a6, a7]) ∧ SameX p H G ∧ PotAt G p ∧ ∃ L, Ls G rowV R L ∧ L.length = i ∧ ∀ r ∈ L, r.2 ≠ 0 ∧ -3 ≤ r.2 ∧ r.2 ≤ 3)
      ⟨⟨_, _, _, _, rfl⟩, sx0, p0, [], ⟨[], hR0, .nil⟩, rfl, fun r h => by simp at h⟩ (fun i σ G hi q => ?_) (fun σ G q => ?_)
    · obtain ⟨⟨a4, a5, a6, a7, rfl⟩, sx, pG, L, ⟨acc, hR, hT⟩, hn, hb⟩ := q
      (repeat (first | refine ⟨_, rfl, ?_⟩ | refine ⟨_, _, rfl, rfl, ?_⟩ | refine ⟨_, _, rfl, ?_⟩ | refine ⟨rfl, ?_⟩))
      refine ⟨by decide, by decide, pG, fun d1 G1 _ _ s1 p1 => ?_⟩
      (repeat (first | refine ⟨_, rfl, ?_⟩ | refine ⟨_, _, rfl, rfl, ?_⟩ | refine ⟨_, _, rfl, ?_⟩ | refine ⟨rfl, ?_⟩))
      refine ⟨.inl (by decide), ?_⟩
      (repeat (first | refine ⟨_, rfl, ?_⟩ | refine ⟨_, _, rfl, rfl, ?_⟩ | refine ⟨_, _, rfl, ?_⟩ | refine ⟨rfl, ?_⟩))
      refine .inl ⟨_, rfl, ?_⟩
      (repeat (first | refine ⟨_, rfl, ?_⟩ | refine ⟨_, _, rfl, rfl, ?_⟩ | refine ⟨_, _, rfl, ?_⟩ | refine ⟨rfl, ?_⟩))
      refine ⟨(show (0 : Int) < 7 by decide), ?_⟩
      (repeat (first | refine ⟨_, rfl, ?_⟩ | refine ⟨_, _, rfl, rfl, ?_⟩ | refine ⟨_, _, rfl, ?_⟩ | refine ⟨rfl, ?_⟩))
      refine ⟨by decide, by decide, p1, fun d2 G2 _ _ s2 p2 => ?_⟩
      (repeat (first | refine ⟨_, rfl, ?_⟩ | refine ⟨_, _, rfl, rfl, ?_⟩ | refine ⟨_, _, rfl, ?_⟩ | refine ⟨rfl, ?_⟩))
      refine ⟨.inl (by decide), ?_⟩
      (repeat (first | refine ⟨_, rfl, ?_⟩ | refine ⟨_, _, rfl, rfl, ?_⟩ | refine ⟨_, _, rfl, ?_⟩ | refine ⟨rfl, ?_⟩))
      refine .inl ⟨_, rfl, ?_⟩
      (repeat (first | refine ⟨_, rfl, ?_⟩ | refine ⟨_, _, rfl, rfl, ?_⟩ | refine ⟨_, _, rfl, ?_⟩ | refine ⟨rfl, ?_⟩))
      refine ⟨(show (0 : Int) < 7 by decide), ?_⟩
      (repeat (first | refine ⟨_, rfl, ?_⟩ | refine ⟨_, _, rfl, rfl, ?_⟩ | refine ⟨_, _, rfl, ?_⟩ | refine ⟨rfl, ?_⟩))
      refine ⟨by decide, by decide, p2, fun d3 G3 _ _ s3 p3 => ?_⟩
      (repeat (first | refine ⟨_, rfl, ?_⟩ | refine ⟨_, _, rfl, rfl, ?_⟩ | refine ⟨_, _, rfl, ?_⟩ | refine ⟨rfl, ?_⟩))
      intro G4 s4
      (repeat (first | refine ⟨_, rfl, ?_⟩ | refine ⟨_, _, rfl, rfl, ?_⟩ | refine ⟨_, _, rfl, ?_⟩ | refine ⟨rfl, ?_⟩))
      have p4 := p3.mono s4
      have s14 : SameX p G G4 := s1.trans (s2.trans (s3.trans (s4.x p)))
      have hR4 := s14 _ _ (Ne.symm npR) hR
      refine ⟨ty_lst hR4, ?_⟩
      (repeat (first | refine ⟨_, rfl, ?_⟩ | refine ⟨_, _, rfl, rfl, ?_⟩ | refine ⟨_, _, rfl, ?_⟩ | refine ⟨rfl, ?_⟩))
      refine ⟨p4, fun ink G5 i1 i2 i3 s5 p5 => ?_⟩
      (repeat (first | refine ⟨_, rfl, ?_⟩ | refine ⟨_, _, rfl, rfl, ?_⟩ | refine ⟨_, _, rfl, ?_⟩ | refine ⟨rfl, ?_⟩))
      refine ⟨le_line (by simp), fun e ne => ?_⟩
      have s15 := s14.trans s5
      have hR5 := s15 _ _ (Ne.symm npR) hR
      have se := Same.new (o := .tup (rowV (((d1 + 4 * (0 + (i : Nat)) + 0) % 7 - 3, (d2 + 3 * (0 + (i : Nat))) % 7 - 3, kd6 ((d3 + (0 + (i : Nat))) % 6).toNat), ink))) ne
      have hR6 := se _ _ hR5
      have l1 := hT.length
      have i4 : i < 4 := by omega
      refine ⟨R, acc, _, rfl, rfl, hR6, lt_line (m := 100) (by omega) (by decide), ⟨_, _, _, _, rfl⟩, ((sx.trans s15).trans (se.x p)).mut nR, (p5.mono se).put npR, L ++ [(((d1 + 4 * (0 + (i : Nat)) + 0) % 7 - 3, (d2 + 3 * (0 + (i : Nat))) % 7 - 3, kd6 ((d3 + (0 + (i : Nat))) % 6).toNat), ink)], Ls.push hR6 (hT.monoT (((s15).t pG).trans se.t)) ⟨e, rfl, upd_same⟩, by rw [List.length_append, hn]; rfl, ?_⟩
      intro r hr'
      rcases List.mem_append.mp hr' with h | h
      · exact hb r h
      · rw [List.mem_singleton.mp h]
        exact ⟨i1, i2, i3⟩
    · obtain ⟨⟨a4, a5, a6, a7, rfl⟩, sx, pG, L, hL, hn, hb⟩ := q
      (repeat (first | refine ⟨_, rfl, ?_⟩ | refine ⟨_, _, rfl, rfl, ?_⟩ | refine ⟨_, _, rfl, ?_⟩ | refine ⟨rfl, ?_⟩))
      exact k R L G sx pG nR hL (by omega) hb
end
end SV
end

section
set_option Elab.async false
set_option linter.all false
set_option maxRecDepth 100000
set_option maxHeartbeats 4000000
/-! The law's views. -/
namespace SV
open PySem PySem.Spec PyProof.Rows L2
theorem six_ls {α : Type} {f : α → List V} {H : Hp} {p1 p2 p3 p4 p5 p6 l : Addr} {a1 a2 a3 a4 a5 a6 : α} (n1 : H p1 = none) (n2 : (upd H p1 (.tup (f a1))) p2 = none) (n3 : (upd (upd H p1 (.tup (f a1))) p2 (.tup (f a2))) p3 = none)
    (n4 : (upd (upd (upd H p1 (.tup (f a1))) p2 (.tup (f a2))) p3 (.tup (f a3))) p4 = none) (n5 : (upd (upd (upd (upd H p1 (.tup (f a1))) p2 (.tup (f a2))) p3 (.tup (f a3))) p4 (.tup (f a4))) p5 = none)
    (n6 : (upd (upd (upd (upd (upd H p1 (.tup (f a1))) p2 (.tup (f a2))) p3 (.tup (f a3))) p4 (.tup (f a4))) p5 (.tup (f a5))) p6 = none)
    (nl : (upd (upd (upd (upd (upd (upd H p1 (.tup (f a1))) p2 (.tup (f a2))) p3 (.tup (f a3))) p4 (.tup (f a4))) p5 (.tup (f a5))) p6 (.tup (f a6))) l = none) :
    Same H (upd (upd (upd (upd (upd (upd (upd H p1 (.tup (f a1))) p2 (.tup (f a2))) p3 (.tup (f a3))) p4 (.tup (f a4))) p5 (.tup (f a5))) p6 (.tup (f a6))) l (.lst [.ref p1, .ref p2, .ref p3, .ref p4, .ref p5, .ref p6])) ∧
    Ls (upd (upd (upd (upd (upd (upd (upd H p1 (.tup (f a1))) p2 (.tup (f a2))) p3 (.tup (f a3))) p4 (.tup (f a4))) p5 (.tup (f a5))) p6 (.tup (f a6))) l (.lst [.ref p1, .ref p2, .ref p3, .ref p4, .ref p5, .ref p6])) f l [a1, a2, a3, a4, a5, a6] := by
  have s1 := Same.new (o := .tup (f a1)) n1
  have s2 := Same.new (o := .tup (f a2)) n2
  have s3 := Same.new (o := .tup (f a3)) n3
  have s4 := Same.new (o := .tup (f a4)) n4
  have s5 := Same.new (o := .tup (f a5)) n5
  have s6 := Same.new (o := .tup (f a6)) n6
  have sl := Same.new (o := .lst [.ref p1, .ref p2, .ref p3, .ref p4, .ref p5, .ref p6]) nl
  have t6 : Same (upd (upd (upd (upd (upd (upd H p1 (.tup (f a1))) p2 (.tup (f a2))) p3 (.tup (f a3))) p4 (.tup (f a4))) p5 (.tup (f a5))) p6 (.tup (f a6))) _ := sl
  have t5 := s6.trans t6
  have t4 := s5.trans t5
  have t3 := s4.trans t4
  have t2 := s3.trans t3
  have t1 := s2.trans t2
  refine ⟨s1.trans t1, _, upd_same, .cons ?_ (.cons ?_ (.cons ?_ (.cons ?_ (.cons ?_ (.cons ?_ .nil)))))⟩
  · exact Tp.mono t1 ⟨p1, rfl, upd_same⟩
  · exact Tp.mono t2 ⟨p2, rfl, upd_same⟩
  · exact Tp.mono t3 ⟨p3, rfl, upd_same⟩
  · exact Tp.mono t4 ⟨p4, rfl, upd_same⟩
  · exact Tp.mono t5 ⟨p5, rfl, upd_same⟩
  · exact Tp.mono t6 ⟨p6, rfl, upd_same⟩
def lowsL (k : Kd) : List Place := [low 0 k, low 1 k, low 2 k, low 3 k, low 4 k, low 5 k]
section
variable {P : Program} {w : World} {K : PySem.W.Frag} {mg : Str → Option Value} {base : Heap} {f : Addr} {fd : FuncData}
/- _law_lows -/
abbrev N__law_lows : List Str := ["_law_kind"]
abbrev P__law_lows : List Str := ["_law_kind"]
theorem sc_law_lows : FnScope N__law_lows P__law_lows (defScope s__law_lows) := ⟨rfl, rfl, rfl, by decide +kernel, rfl, by decide +kernel, by decide +kernel⟩
/- _law_spots_of -/
abbrev N__law_spots_of : List Str := ["_law_heap", "_law_at"]
abbrev P__law_spots_of : List Str := ["_law_heap"]
theorem sc_law_spots_of : FnScope N__law_spots_of P__law_spots_of (defScope s__law_spots_of) := ⟨rfl, rfl, rfl, by decide +kernel, rfl, by decide +kernel, by decide +kernel⟩
def spLows : Sp := fun vs H Q _ => ∃ k : Kd, vs = [.str (kS k)] ∧ ∀ l H', Same H H' → H l = none → Ls H' placeV l (lowsL k) → Q (.ref l) H'
theorem ok_lows (F : GDef K "_law_lows" s__law_lows f fd) : FnOk P w K mg base CX0 1 f fd P__law_lows spLows := by
  refine F.ok sc_law_lows (fun vs H Q E h => ?_) (fun cdv A outer s H vs Q E hr h => ?_)
  · obtain ⟨i, rfl, _⟩ := h; rfl
  · obtain ⟨c, rfl, k⟩ := h
    refine ⟨_, PSs.nox (pss_cons (ps_if (pt_cmpR op_eq (pv 0) pe_str (nomark _))
        (pss_one (ps_ret (pe_lst (pa_cons (pe_tup (pa_cons pe_int (pa_cons pe_int pa_nil))) (pa_cons (pe_tup (pa_cons pe_int (pa_cons pe_int pa_nil))) (pa_cons (pe_tup (pa_cons pe_int (pa_cons pe_int pa_nil))) (pa_cons (pe_tup (pa_cons pe_int (pa_cons pe_int pa_nil))) (pa_cons (pe_tup (pa_cons pe_int (pa_cons pe_int pa_nil))) (pa_cons (pe_tup (pa_cons pe_int (pa_cons pe_int pa_nil))) pa_nil)))))))))
        pss_nil)
      (pss_cons (ps_if (pt_cmpR op_eq (pv 0) pe_str (nomark _))
        (pss_one (ps_ret (pe_lst (pa_cons (pe_tup (pa_cons pe_int (pa_cons pe_int pa_nil))) (pa_cons (pe_tup (pa_cons pe_int (pa_cons pe_int pa_nil))) (pa_cons (pe_tup (pa_cons pe_int (pa_cons pe_int pa_nil))) (pa_cons (pe_tup (pa_cons pe_int (pa_cons pe_int pa_nil))) (pa_cons (pe_tup (pa_cons pe_int (pa_cons pe_int pa_nil))) (pa_cons (pe_tup (pa_cons pe_int (pa_cons pe_int pa_nil))) pa_nil)))))))))
        pss_nil)
      (pss_cons (ps_if (pt_cmpR op_eq (pv 0) pe_str (nomark _))
        (pss_one (ps_ret (pe_lst (pa_cons (pe_tup (pa_cons (pe_un un_neg pe_int) (pa_cons pe_int pa_nil))) (pa_cons (pe_tup (pa_cons pe_int (pa_cons pe_int pa_nil))) (pa_cons (pe_tup (pa_cons pe_int (pa_cons pe_int pa_nil))) (pa_cons (pe_tup (pa_cons pe_int (pa_cons pe_int pa_nil))) (pa_cons (pe_tup (pa_cons (pe_un un_neg pe_int) (pa_cons pe_int pa_nil))) (pa_cons (pe_tup (pa_cons (pe_un un_neg pe_int) (pa_cons pe_int pa_nil))) pa_nil)))))))))
        pss_nil)
      (pss_cons (ps_if (pt_cmpR op_eq (pv 0) pe_str (nomark _))
        (pss_one (ps_ret (pe_lst (pa_cons (pe_tup (pa_cons pe_int (pa_cons pe_int pa_nil))) (pa_cons (pe_tup (pa_cons pe_int (pa_cons pe_int pa_nil))) (pa_cons (pe_tup (pa_cons pe_int (pa_cons pe_int pa_nil))) (pa_cons (pe_tup (pa_cons pe_int (pa_cons pe_int pa_nil))) (pa_cons (pe_tup (pa_cons pe_int (pa_cons pe_int pa_nil))) (pa_cons (pe_tup (pa_cons pe_int (pa_cons pe_int pa_nil))) pa_nil)))))))))
        pss_nil)
      (pss_cons (ps_if (pt_cmpR op_eq (pv 0) pe_str (nomark _))
        (pss_one (ps_ret (pe_lst (pa_cons (pe_tup (pa_cons (pe_un un_neg pe_int) (pa_cons pe_int pa_nil))) (pa_cons (pe_tup (pa_cons pe_int (pa_cons pe_int pa_nil))) (pa_cons (pe_tup (pa_cons pe_int (pa_cons pe_int pa_nil))) (pa_cons (pe_tup (pa_cons pe_int (pa_cons pe_int pa_nil))) (pa_cons (pe_tup (pa_cons pe_int (pa_cons pe_int pa_nil))) (pa_cons (pe_tup (pa_cons (pe_un un_neg pe_int) (pa_cons pe_int pa_nil))) pa_nil)))))))))
        pss_nil)
      (pss_one (ps_ret (pe_lst (pa_cons (pe_tup (pa_cons pe_int (pa_cons pe_int pa_nil))) (pa_cons (pe_tup (pa_cons pe_int (pa_cons pe_int pa_nil))) (pa_cons (pe_tup (pa_cons pe_int (pa_cons pe_int pa_nil))) (pa_cons (pe_tup (pa_cons pe_int (pa_cons pe_int pa_nil))) (pa_cons (pe_tup (pa_cons pe_int (pa_cons pe_int pa_nil))) (pa_cons (pe_tup (pa_cons pe_int (pa_cons pe_int pa_nil))) pa_nil)))))))))))))), ?_⟩
    have fin : ∀ {p1 p2 p3 p4 p5 p6 l : Addr} (a1 a2 a3 a4 a5 a6 : Place) (n1 : H p1 = none) (n2 : (upd H p1 (.tup (placeV a1))) p2 = none) (n3 : (upd (upd H p1 (.tup (placeV a1))) p2 (.tup (placeV a2))) p3 = none)
        (n4 : (upd (upd (upd H p1 (.tup (placeV a1))) p2 (.tup (placeV a2))) p3 (.tup (placeV a3))) p4 = none) (n5 : (upd (upd (upd (upd H p1 (.tup (placeV a1))) p2 (.tup (placeV a2))) p3 (.tup (placeV a3))) p4 (.tup (placeV a4))) p5 = none)
        (n6 : (upd (upd (upd (upd (upd H p1 (.tup (placeV a1))) p2 (.tup (placeV a2))) p3 (.tup (placeV a3))) p4 (.tup (placeV a4))) p5 (.tup (placeV a5))) p6 = none)
        (nl : (upd (upd (upd (upd (upd (upd H p1 (.tup (placeV a1))) p2 (.tup (placeV a2))) p3 (.tup (placeV a3))) p4 (.tup (placeV a4))) p5 (.tup (placeV a5))) p6 (.tup (placeV a6))) l = none), [a1, a2, a3, a4, a5, a6] = lowsL c →
        Q (.ref l) (upd (upd (upd (upd (upd (upd (upd H p1 (.tup (placeV a1))) p2 (.tup (placeV a2))) p3 (.tup (placeV a3))) p4 (.tup (placeV a4))) p5 (.tup (placeV a5))) p6 (.tup (placeV a6))) l (.lst [.ref p1, .ref p2, .ref p3, .ref p4, .ref p5, .ref p6])) := by
      intro p1 p2 p3 p4 p5 p6 l a1 a2 a3 a4 a5 a6 n1 n2 n3 n4 n5 n6 nl e
      have h := six_ls n1 n2 n3 n4 n5 n6 nl
      exact k l _ h.1 (none_of_upd (none_of_upd (none_of_upd (none_of_upd (none_of_upd (none_of_upd nl)))))) (e ▸ h.2)
    cases c with
    | d =>
      (((repeat (first | refine ⟨_, rfl, ?_⟩ | refine ⟨_, _, rfl, rfl, ?_⟩ | refine ⟨_, _, rfl, ?_⟩ | refine ⟨rfl, ?_⟩)); refine ⟨le_line (by simp), fun _ _ => ?_⟩)); (((repeat (first | refine ⟨_, rfl, ?_⟩ | refine ⟨_, _, rfl, rfl, ?_⟩ | refine ⟨_, _, rfl, ?_⟩ | refine ⟨rfl, ?_⟩)); refine ⟨le_line (by simp), fun _ _ => ?_⟩)); (((repeat (first | refine ⟨_, rfl, ?_⟩ | refine ⟨_, _, rfl, rfl, ?_⟩ | refine ⟨_, _, rfl, ?_⟩ | refine ⟨rfl, ?_⟩)); refine ⟨le_line (by simp), fun _ _ => ?_⟩)); (((repeat (first | refine ⟨_, rfl, ?_⟩ | refine ⟨_, _, rfl, rfl, ?_⟩ | refine ⟨_, _, rfl, ?_⟩ | refine ⟨rfl, ?_⟩)); refine ⟨le_line (by simp), fun _ _ => ?_⟩)); (((repeat (first | refine ⟨_, rfl, ?_⟩ | refine ⟨_, _, rfl, rfl, ?_⟩ | refine ⟨_, _, rfl, ?_⟩ | refine ⟨rfl, ?_⟩)); refine ⟨le_line (by simp), fun _ _ => ?_⟩)); (((repeat (first | refine ⟨_, rfl, ?_⟩ | refine ⟨_, _, rfl, rfl, ?_⟩ | refine ⟨_, _, rfl, ?_⟩ | refine ⟨rfl, ?_⟩)); refine ⟨le_line (by simp), fun _ _ => ?_⟩)); (((repeat (first | refine ⟨_, rfl, ?_⟩ | refine ⟨_, _, rfl, rfl, ?_⟩ | refine ⟨_, _, rfl, ?_⟩ | refine ⟨rfl, ?_⟩)); refine ⟨le_line (by simp), fun _ _ => ?_⟩))
      rename_i p1 n1 p2 n2 p3 n3 p4 n4 p5 n5 p6 n6 l nl
      exact fin (0, 0) (0, 0) (0, 0) (0, 0) (0, 0) (0, 0) n1 n2 n3 n4 n5 n6 nl (by decide)
    | e =>
      (((repeat (first | refine ⟨_, rfl, ?_⟩ | refine ⟨_, _, rfl, rfl, ?_⟩ | refine ⟨_, _, rfl, ?_⟩ | refine ⟨rfl, ?_⟩)); refine ⟨le_line (by simp), fun _ _ => ?_⟩)); (((repeat (first | refine ⟨_, rfl, ?_⟩ | refine ⟨_, _, rfl, rfl, ?_⟩ | refine ⟨_, _, rfl, ?_⟩ | refine ⟨rfl, ?_⟩)); refine ⟨le_line (by simp), fun _ _ => ?_⟩)); (((repeat (first | refine ⟨_, rfl, ?_⟩ | refine ⟨_, _, rfl, rfl, ?_⟩ | refine ⟨_, _, rfl, ?_⟩ | refine ⟨rfl, ?_⟩)); refine ⟨le_line (by simp), fun _ _ => ?_⟩)); (((repeat (first | refine ⟨_, rfl, ?_⟩ | refine ⟨_, _, rfl, rfl, ?_⟩ | refine ⟨_, _, rfl, ?_⟩ | refine ⟨rfl, ?_⟩)); refine ⟨le_line (by simp), fun _ _ => ?_⟩)); (((repeat (first | refine ⟨_, rfl, ?_⟩ | refine ⟨_, _, rfl, rfl, ?_⟩ | refine ⟨_, _, rfl, ?_⟩ | refine ⟨rfl, ?_⟩)); refine ⟨le_line (by simp), fun _ _ => ?_⟩)); (((repeat (first | refine ⟨_, rfl, ?_⟩ | refine ⟨_, _, rfl, rfl, ?_⟩ | refine ⟨_, _, rfl, ?_⟩ | refine ⟨rfl, ?_⟩)); refine ⟨le_line (by simp), fun _ _ => ?_⟩)); (((repeat (first | refine ⟨_, rfl, ?_⟩ | refine ⟨_, _, rfl, rfl, ?_⟩ | refine ⟨_, _, rfl, ?_⟩ | refine ⟨rfl, ?_⟩)); refine ⟨le_line (by simp), fun _ _ => ?_⟩))
      rename_i p1 n1 p2 n2 p3 n3 p4 n4 p5 n5 p6 n6 l nl
      exact fin (0, 0) (0, 0) (1, 0) (1, 0) (1, 0) (0, 0) n1 n2 n3 n4 n5 n6 nl (by decide)
    | n =>
      (((repeat (first | refine ⟨_, rfl, ?_⟩ | refine ⟨_, _, rfl, rfl, ?_⟩ | refine ⟨_, _, rfl, ?_⟩ | refine ⟨rfl, ?_⟩)); refine ⟨le_line (by simp), fun _ _ => ?_⟩)); (((repeat (first | refine ⟨_, rfl, ?_⟩ | refine ⟨_, _, rfl, rfl, ?_⟩ | refine ⟨_, _, rfl, ?_⟩ | refine ⟨rfl, ?_⟩)); refine ⟨le_line (by simp), fun _ _ => ?_⟩)); (((repeat (first | refine ⟨_, rfl, ?_⟩ | refine ⟨_, _, rfl, rfl, ?_⟩ | refine ⟨_, _, rfl, ?_⟩ | refine ⟨rfl, ?_⟩)); refine ⟨le_line (by simp), fun _ _ => ?_⟩)); (((repeat (first | refine ⟨_, rfl, ?_⟩ | refine ⟨_, _, rfl, rfl, ?_⟩ | refine ⟨_, _, rfl, ?_⟩ | refine ⟨rfl, ?_⟩)); refine ⟨le_line (by simp), fun _ _ => ?_⟩)); (((repeat (first | refine ⟨_, rfl, ?_⟩ | refine ⟨_, _, rfl, rfl, ?_⟩ | refine ⟨_, _, rfl, ?_⟩ | refine ⟨rfl, ?_⟩)); refine ⟨le_line (by simp), fun _ _ => ?_⟩)); (((repeat (first | refine ⟨_, rfl, ?_⟩ | refine ⟨_, _, rfl, rfl, ?_⟩ | refine ⟨_, _, rfl, ?_⟩ | refine ⟨rfl, ?_⟩)); refine ⟨le_line (by simp), fun _ _ => ?_⟩)); (((repeat (first | refine ⟨_, rfl, ?_⟩ | refine ⟨_, _, rfl, rfl, ?_⟩ | refine ⟨_, _, rfl, ?_⟩ | refine ⟨rfl, ?_⟩)); refine ⟨le_line (by simp), fun _ _ => ?_⟩))
      rename_i p1 n1 p2 n2 p3 n3 p4 n4 p5 n5 p6 n6 l nl
      exact fin (0, 0) (0, 0) (0, 0) (0, 1) (0, 1) (0, 1) n1 n2 n3 n4 n5 n6 nl (by decide)
    | w =>
      (((repeat (first | refine ⟨_, rfl, ?_⟩ | refine ⟨_, _, rfl, rfl, ?_⟩ | refine ⟨_, _, rfl, ?_⟩ | refine ⟨rfl, ?_⟩)); refine ⟨le_line (by simp), fun _ _ => ?_⟩)); (((repeat (first | refine ⟨_, rfl, ?_⟩ | refine ⟨_, _, rfl, rfl, ?_⟩ | refine ⟨_, _, rfl, ?_⟩ | refine ⟨rfl, ?_⟩)); refine ⟨le_line (by simp), fun _ _ => ?_⟩)); (((repeat (first | refine ⟨_, rfl, ?_⟩ | refine ⟨_, _, rfl, rfl, ?_⟩ | refine ⟨_, _, rfl, ?_⟩ | refine ⟨rfl, ?_⟩)); refine ⟨le_line (by simp), fun _ _ => ?_⟩)); (((repeat (first | refine ⟨_, rfl, ?_⟩ | refine ⟨_, _, rfl, rfl, ?_⟩ | refine ⟨_, _, rfl, ?_⟩ | refine ⟨rfl, ?_⟩)); refine ⟨le_line (by simp), fun _ _ => ?_⟩)); (((repeat (first | refine ⟨_, rfl, ?_⟩ | refine ⟨_, _, rfl, rfl, ?_⟩ | refine ⟨_, _, rfl, ?_⟩ | refine ⟨rfl, ?_⟩)); refine ⟨le_line (by simp), fun _ _ => ?_⟩)); (((repeat (first | refine ⟨_, rfl, ?_⟩ | refine ⟨_, _, rfl, rfl, ?_⟩ | refine ⟨_, _, rfl, ?_⟩ | refine ⟨rfl, ?_⟩)); refine ⟨le_line (by simp), fun _ _ => ?_⟩)); (((repeat (first | refine ⟨_, rfl, ?_⟩ | refine ⟨_, _, rfl, rfl, ?_⟩ | refine ⟨_, _, rfl, ?_⟩ | refine ⟨rfl, ?_⟩)); refine ⟨le_line (by simp), fun _ _ => ?_⟩))
      rename_i p1 n1 p2 n2 p3 n3 p4 n4 p5 n5 p6 n6 l nl
      exact fin (-1, 1) (0, 0) (0, 0) (0, 0) (-1, 1) (-1, 1) n1 n2 n3 n4 n5 n6 nl (by decide)
    | u =>
      (((repeat (first | refine ⟨_, rfl, ?_⟩ | refine ⟨_, _, rfl, rfl, ?_⟩ | refine ⟨_, _, rfl, ?_⟩ | refine ⟨rfl, ?_⟩)); refine ⟨le_line (by simp), fun _ _ => ?_⟩)); (((repeat (first | refine ⟨_, rfl, ?_⟩ | refine ⟨_, _, rfl, rfl, ?_⟩ | refine ⟨_, _, rfl, ?_⟩ | refine ⟨rfl, ?_⟩)); refine ⟨le_line (by simp), fun _ _ => ?_⟩)); (((repeat (first | refine ⟨_, rfl, ?_⟩ | refine ⟨_, _, rfl, rfl, ?_⟩ | refine ⟨_, _, rfl, ?_⟩ | refine ⟨rfl, ?_⟩)); refine ⟨le_line (by simp), fun _ _ => ?_⟩)); (((repeat (first | refine ⟨_, rfl, ?_⟩ | refine ⟨_, _, rfl, rfl, ?_⟩ | refine ⟨_, _, rfl, ?_⟩ | refine ⟨rfl, ?_⟩)); refine ⟨le_line (by simp), fun _ _ => ?_⟩)); (((repeat (first | refine ⟨_, rfl, ?_⟩ | refine ⟨_, _, rfl, rfl, ?_⟩ | refine ⟨_, _, rfl, ?_⟩ | refine ⟨rfl, ?_⟩)); refine ⟨le_line (by simp), fun _ _ => ?_⟩)); (((repeat (first | refine ⟨_, rfl, ?_⟩ | refine ⟨_, _, rfl, rfl, ?_⟩ | refine ⟨_, _, rfl, ?_⟩ | refine ⟨rfl, ?_⟩)); refine ⟨le_line (by simp), fun _ _ => ?_⟩)); (((repeat (first | refine ⟨_, rfl, ?_⟩ | refine ⟨_, _, rfl, rfl, ?_⟩ | refine ⟨_, _, rfl, ?_⟩ | refine ⟨rfl, ?_⟩)); refine ⟨le_line (by simp), fun _ _ => ?_⟩))
      rename_i p1 n1 p2 n2 p3 n3 p4 n4 p5 n5 p6 n6 l nl
      exact fin (0, 0) (0, 0) (1, 0) (1, 0) (0, 1) (0, 1) n1 n2 n3 n4 n5 n6 nl (by decide)
    | v =>
      (((repeat (first | refine ⟨_, rfl, ?_⟩ | refine ⟨_, _, rfl, rfl, ?_⟩ | refine ⟨_, _, rfl, ?_⟩ | refine ⟨rfl, ?_⟩)); refine ⟨le_line (by simp), fun _ _ => ?_⟩)); (((repeat (first | refine ⟨_, rfl, ?_⟩ | refine ⟨_, _, rfl, rfl, ?_⟩ | refine ⟨_, _, rfl, ?_⟩ | refine ⟨rfl, ?_⟩)); refine ⟨le_line (by simp), fun _ _ => ?_⟩)); (((repeat (first | refine ⟨_, rfl, ?_⟩ | refine ⟨_, _, rfl, rfl, ?_⟩ | refine ⟨_, _, rfl, ?_⟩ | refine ⟨rfl, ?_⟩)); refine ⟨le_line (by simp), fun _ _ => ?_⟩)); (((repeat (first | refine ⟨_, rfl, ?_⟩ | refine ⟨_, _, rfl, rfl, ?_⟩ | refine ⟨_, _, rfl, ?_⟩ | refine ⟨rfl, ?_⟩)); refine ⟨le_line (by simp), fun _ _ => ?_⟩)); (((repeat (first | refine ⟨_, rfl, ?_⟩ | refine ⟨_, _, rfl, rfl, ?_⟩ | refine ⟨_, _, rfl, ?_⟩ | refine ⟨rfl, ?_⟩)); refine ⟨le_line (by simp), fun _ _ => ?_⟩)); (((repeat (first | refine ⟨_, rfl, ?_⟩ | refine ⟨_, _, rfl, rfl, ?_⟩ | refine ⟨_, _, rfl, ?_⟩ | refine ⟨rfl, ?_⟩)); refine ⟨le_line (by simp), fun _ _ => ?_⟩)); (((repeat (first | refine ⟨_, rfl, ?_⟩ | refine ⟨_, _, rfl, rfl, ?_⟩ | refine ⟨_, _, rfl, ?_⟩ | refine ⟨rfl, ?_⟩)); refine ⟨le_line (by simp), fun _ _ => ?_⟩))
      rename_i p1 n1 p2 n2 p3 n3 p4 n4 p5 n5 p6 n6 l nl
      exact fin (-1, 1) (0, 0) (0, 0) (0, 1) (0, 1) (-1, 1) n1 n2 n3 n4 n5 n6 nl (by decide)
def spSpotsOf : Sp := fun vs H Q _ => ∃ (d : Addr) (l0 : List Spot), vs = [.ref d] ∧ l0.length ≤ 1000000 ∧ H d = some (.dT (DtK placeK (tally l0))) ∧ ∀ l s H', Same H H' → H l = none → Ls H' spotV l s → Canon l0 s → Q (.ref l) H'
theorem ok_spots_of (T : Txt K w mg) (F : GDef K "_law_spots_of" s__law_spots_of f fd) : FnOk P w K mg base CX0 1 f fd P__law_spots_of spSpotsOf := by
  refine F.ok sc_law_spots_of (fun vs H Q E h => ?_) (fun cdv A outer s H vs Q E hr h => ?_)
  · obtain ⟨d, l0, rfl, _⟩ := h; rfl
  · obtain ⟨D, l0, rfl, hz, hD, k⟩ := h
    have hu16 := hu16_of hr
    have hu := hu1_of hr
    have nd0 := nodup_tally l0
    have lt0 := length_tally l0
    refine ⟨_, PSs.nox (pss_one (ps_ret (pe_callB (cr_sortedD hu16) (by rfl) T.z_sorted (by decide +kernel) (pa_cons (pe_lock (pe_lc (own := [("_law_at", 1)]) (g := gName 1) rfl sc_law_spots_of.nd (pi_keys (pv 0)) (blkOk_by (N := N__law_spots_of) (sc := defScope s__law_spots_of) (own := [("_law_at", 1)]) (by decide +kernel)) (fun _ _ _ _ _ => (pg_name (i := 1) sc_law_spots_of.nd rfl (Or.inl rfl))) (fun _ _ _ _ _ => pts_one (pt_cmpR op_ne (pe_dget hu (pv 0) (pv 1) (fun _ _ => rfl)) pe_int (nomark _))) (fun _ _ _ _ _ => (pe_op (r := rCatA K) op_catA (pv 1) (pe_tup (pa_cons (pe_dget hu (pv 0) (pv 1) (fun _ _ => rfl)) pa_nil)))))) pa_nil)))), ?_⟩
    (repeat (first | refine ⟨_, rfl, ?_⟩ | refine ⟨_, _, rfl, rfl, ?_⟩ | refine ⟨_, _, rfl, ?_⟩ | refine ⟨rfl, ?_⟩))
    refine ⟨D, _, hD, mut_dT, fun od => ?_⟩
    have hF : (upd H D (.frz od (.dT (DtK placeK (tally l0))))) D = some (.frz od (.dT (DtK placeK (tally l0)))) := upd_same
    generalize hG1 : upd H D (.frz od (.dT (DtK placeK (tally l0)))) = G1 at hF
    (repeat (first | refine ⟨_, rfl, ?_⟩ | refine ⟨_, _, rfl, rfl, ?_⟩ | refine ⟨_, _, rfl, ?_⟩ | refine ⟨rfl, ?_⟩))
    refine ⟨D, od, rfl, .inr ⟨DtK placeK (tally l0), hF, fun D2 nD2 => ?_⟩⟩
    refine lc_lsF (J := Itkt D od (DtK placeK (tally l0))) (n := (tally l0).length) spotV (fun q => decide (q.2 ≠ 0)) (tally l0) rfl (by omega) nD2 (fun i H hi s => ⟨s _ _ hF, by rw [dtK_length]; exact hi⟩) (fun H s => ⟨s _ _ hF, by rw [dtK_length]; exact Nat.le_refl _⟩) (fun i y H2 hyi s2 N M hN hM x H3 e => ?_) (fun H2 s2 hL2 => ?_)
    · obtain ⟨rfl, kk, v, q, hkv, rfl, hq⟩ := e
      have ekv : (kk, v) = (placeK y.1, V.int y.2) := by
        unfold DtK at hkv
        rw [List.getElem?_map, hyi] at hkv
        exact (Option.some.inj hkv).symm
      cases ekv
      have hmem := List.mem_of_getElem? hyi
      have hq' : H3 q = some (.tup (placeV y.1)) := hq
      (repeat (first | refine ⟨_, rfl, ?_⟩ | refine ⟨_, _, rfl, rfl, ?_⟩ | refine ⟨_, _, rfl, ?_⟩ | refine ⟨rfl, ?_⟩))
      refine ⟨D, _, rfl, dget_frz ko_place nd0 (s2 _ _ hF) hmem hq', ?_⟩
      (repeat (first | refine ⟨_, rfl, ?_⟩ | refine ⟨_, _, rfl, rfl, ?_⟩ | refine ⟨_, _, rfl, ?_⟩ | refine ⟨rfl, ?_⟩))
      refine itB (fun h => ?_) (fun h => ?_)
      · (repeat (first | refine ⟨_, rfl, ?_⟩ | refine ⟨_, _, rfl, rfl, ?_⟩ | refine ⟨_, _, rfl, ?_⟩ | refine ⟨rfl, ?_⟩))
        refine ⟨D, _, rfl, dget_frz ko_place nd0 (s2 _ _ hF) hmem hq', ?_⟩
        (repeat (first | refine ⟨_, rfl, ?_⟩ | refine ⟨_, _, rfl, rfl, ?_⟩ | refine ⟨_, _, rfl, ?_⟩ | refine ⟨rfl, ?_⟩))
        refine ⟨le_line (by simp), fun p np => ?_⟩
        have sp := Same.new (o := .tup [.int y.2]) np
        exact ⟨q, p, placeV y.1, [.int y.2], rfl, rfl, .inl (.inl (sp _ _ hq')), .inl (.inl upd_same), le_line (by simp [placeV]), (fun e => nomatch e), (fun _ e => nomatch e), fun _ _ r nr => hN (by rw [← ne0]; exact h) _ _ (sp.trans (Same.new nr)) ⟨r, rfl, upd_same⟩⟩
      · exact hM (by rw [← ne0]; exact h) _ (Same.refl _)
    · obtain ⟨zs, hz1, hz2⟩ := hL2
      refine ⟨s2 _ _ hF, ?_⟩
      generalize hG3 : upd H2 D (.dT (DtK placeK (tally l0))) = G3
      have sG3 : Same H G3 := by rw [← hG3]; exact same_unlock hD (by rw [hG1]; exact s2)
      have nDD : D2 ≠ D := by
        rintro rfl
        rw [hF] at nD2
        cases nD2
      have hz3 : G3 D2 = some (.lst zs) := by rw [← hG3, upd_ne nDD]; exact hz1
      have zT : Tps G3 spotV zs ((tally l0).filter fun q => decide (q.2 ≠ 0)) := by
        rw [← hG3]
        exact hz2.monoT fun a fs e => by
          rw [upd_ne (ne_of e (s2 _ _ hF) (fun z => nomatch z))]
          exact e
      (repeat (first | refine ⟨_, rfl, ?_⟩ | refine ⟨_, _, rfl, rfl, ?_⟩ | refine ⟨_, _, rfl, ?_⟩ | refine ⟨rfl, ?_⟩))
      refine r_sort dat_spot (SqL.of hz3) zT fun p ws ys np yp yw yT => ?_
      exact k p ys _ (sG3.trans (Same.new np)) (sG3.none np) ⟨ws, upd_same, yT.mono (Same.new np)⟩ (Canon.of_perm yp yw)
end
/-- a list of six lists of spots -/
def VwL (H : Hp) (o : Addr) (ss : List (List Spot)) : Prop := ∃ ws, H o = some (.lst ws) ∧ Paired (fun v s => ∃ b, v = V.ref b ∧ Ls H spotV b s) ws ss
theorem VwL.mono {H H' : Hp} {o : Addr} {ss : List (List Spot)} (e : Same H H') (h : VwL H o ss) : VwL H' o ss := let ⟨ws, h1, h2⟩ := h; ⟨ws, e _ _ h1, L2.Paired.mapP h2 fun _ _ ⟨b, e1, e2⟩ => ⟨b, e1, e2.mono e⟩⟩
/-- the dicts at ds, heap i says f i -/
def Dcs (H : Hp) (ds : List Addr) (f : Nat → List Spot) : Prop := ∀ (i : Nat) (d : Addr), ds[i]? = some d → H d = some (.dT (DtK placeK (tally (f i))))
theorem Dcs.mono {H H' : Hp} {ds : List Addr} {f : Nat → List Spot} (e : Same H H') (h : Dcs H ds f) : Dcs H' ds f := fun i d hd => e _ _ (h i d hd)
theorem kS_enw (k : Kd) : inV (.str (kS k)) [.str "e", .str "n", .str "w"] = decide (sgn k = -1) := by cases k <;> decide +kernel
theorem sign_step {D : Ends} {σ : L2.St} {G : Hp} {k : Kd} {ink : Int} {b : Bool} (i j : Nat) (hb : b = decide (sgn k = -1)) (hi : σ[i]? = some (some (.int ink))) (hj : σ.set j (some (.int ink)) = σ) (h : D.nx (σ.set j (some (.int (ink * sgn k)))) G) :
    if b = true then tAsg (tUn (rU fun i => V.int (-i)) (tVar i)) (gName j) D σ G else tNext D σ G := by
  rw [hb]
  refine itD (fun e => ?_) (fun e => ?_)
  · refine ⟨_, hi, _, rfl, ?_⟩
    have e2 : ink * sgn k = -ink := by rw [e]; omega
    rw [e2] at h
    exact h
  · have e1 : sgn k = 1 := by cases k <;> first | rfl | exact absurd rfl e
    rw [e1, Int.mul_one, hj] at h
    exact h
theorem vl_snoc {i n : Nat} {l : List Row} {r : Row} (h : l[n]? = some r) : vl i (l.take (n + 1)) = vl i (l.take n) ++ [(lowM i r.1, r.2 * sgn r.1.2.2)] := by
  unfold vl
  rw [take_snoc h, List.map_append]
  rfl
section
variable {P : Program} {w : World} {K : PySem.W.Frag} {mg : Str → Option Value} {base : Heap} {f : Addr} {fd : FuncData}
/- _law_six_views -/
abbrev N__law_six_views : List Str := ["_law_rows", "_law_heaps", "_law_x", "_law_y", "_law_kind", "_law_ink", "_law_low", "_law_sign", "_law_view", "_law_at", "_law_heap"]
abbrev P__law_six_views : List Str := ["_law_rows"]
theorem sc_law_six_views : FnScope N__law_six_views P__law_six_views (defScope s__law_six_views) := ⟨rfl, rfl, rfl, by decide +kernel, rfl, by decide +kernel, by decide +kernel⟩
/- _law_first_bad -/
abbrev N__law_first_bad : List Str := ["_law_views", "_law_view"]
abbrev P__law_first_bad : List Str := ["_law_views"]
theorem sc_law_first_bad : FnScope N__law_first_bad P__law_first_bad (defScope s__law_first_bad) := ⟨rfl, rfl, rfl, by decide +kernel, rfl, by decide +kernel, by decide +kernel⟩
def spSixViews : Sp := fun vs H Q _ => ∃ (l : Addr) (L : List Row), vs = [.ref l] ∧ L.length ≤ 1000000 ∧ Ls H rowV l L ∧ ∀ o ss H', Same H H' → H o = none → VwL H' o ss → Six L ss → Q (.ref o) H'
theorem ok_six_views (T : Txt K w mg) (F : GDef K "_law_six_views" s__law_six_views f fd) (c__law_lows : Cal P w K mg base CX0 "_law_lows" P__law_lows 1 spLows) (c__law_spots_of : Cal P w K mg base CX0 "_law_spots_of" P__law_spots_of 1 spSpotsOf) : FnOk P w K mg base CX0 2 f fd P__law_six_views spSixViews := by
  refine F.ok sc_law_six_views (fun vs H Q E h => ?_) (fun cdv A outer s H vs Q E hr h => ?_)
  · obtain ⟨d, l0, rfl, _⟩ := h; rfl
  · obtain ⟨l, L, rfl, hz, ⟨vs, hl, hT⟩, k⟩ := h
    have hu := hu1_of hr
    have hlen : vs.length = L.length := hT.length
    refine ⟨_, PSs.nox (pss_cons (ps_setLc (own := [("_law_view", 8)]) (i := 1) (g := gName 8) rfl sc_law_six_views.nd rfl rfl (sw_true rfl rfl rfl (by decide +kernel)) (pi_range1 rfl T.z_range (pa_cons pe_int pa_nil)) (blkOk_by (N := N__law_six_views) (sc := defScope s__law_six_views) (own := [("_law_view", 8)]) (by decide +kernel)) (fun _ _ _ _ _ => (pg_name (i := 8) sc_law_six_views.nd rfl (Or.inl rfl))) (fun _ _ _ _ _ => pts_nil) (fun _ _ _ _ _ => pe_dnewT))
      (pss_cons (ps_for PassesOwn.never rfl (pi_list (pv 0)) (pg_tup rfl (pgs_cons (pg_name (i := 2) sc_law_six_views.nd rfl (Or.inl rfl)) (pgs_cons (pg_name (i := 3) sc_law_six_views.nd rfl (Or.inl rfl)) (pgs_cons (pg_name (i := 4) sc_law_six_views.nd rfl (Or.inl rfl)) (pgs_cons (pg_name (i := 5) sc_law_six_views.nd rfl (Or.inl rfl)) pgs_nil)))))
        (pss_cons (ps_set (i := 6) sc_law_six_views.nd rfl (Or.inl rfl) (pe_cal c__law_lows (hr.mono (by decide)) rfl (pa_cons (pv 4) pa_nil)))
        (pss_cons (ps_set (i := 7) sc_law_six_views.nd rfl (Or.inl rfl) (pv 5))
        (pss_cons (ps_if (pt_cmpR op_in_seq (pv 4) (pe_tup (pa_cons pe_str (pa_cons pe_str (pa_cons pe_str pa_nil)))) (by rfl))
          (pss_one (ps_set (i := 7) sc_law_six_views.nd rfl (Or.inl rfl) (pe_un un_neg (pv 5))))
          pss_nil)
        (pss_one (ps_for PassesOwn.never rfl (pi_range1 rfl T.z_range (pa_cons pe_int pa_nil)) (pg_name (i := 8) sc_law_six_views.nd rfl (Or.inl rfl))
          (pss_cons (ps_set (i := 9) sc_law_six_views.nd rfl (Or.inl rfl) (pe_tup (pa_cons (pe_op op_add (pv 2) (pe_ix ix_tup (pe_ix ix_list (pv 6) (pv 8) (fun _ _ => rfl)) pe_int (fun _ _ => rfl))) (pa_cons (pe_op op_add (pv 3) (pe_ix ix_tup (pe_ix ix_list (pv 6) (pv 8) (fun _ _ => rfl)) pe_int (fun _ _ => rfl))) pa_nil))))
          (pss_one (ps_dput hu (pe_ix ix_list (pv 1) (pv 8) (fun _ _ => rfl)) (pv 9) (pe_op op_add (pe_dget2 hu (pe_ix ix_list (pv 1) (pv 8) (fun _ _ => rfl)) (pv 9) pe_int ⟨rfl, rfl, rfl, rfl⟩) (pv 7)) rfl)))))))))
      (pss_one (ps_ret (pe_lc (own := [("_law_heap", 10)]) (g := gName 10) rfl sc_law_six_views.nd (pi_list (pv 1)) (blkOk_by (N := N__law_six_views) (sc := defScope s__law_six_views) (own := [("_law_heap", 10)]) (by decide +kernel)) (fun _ _ _ _ _ => (pg_name (i := 10) sc_law_six_views.nd rfl (Or.inl rfl))) (fun _ _ _ _ _ => pts_nil) (fun _ _ _ _ _ => (pe_cal c__law_spots_of (hr.mono (by decide)) rfl (pa_cons (pv 10) pa_nil)))))))), ?_⟩
    (repeat (first | refine ⟨_, rfl, ?_⟩ | refine ⟨_, _, rfl, rfl, ?_⟩ | refine ⟨_, _, rfl, ?_⟩ | refine ⟨rfl, ?_⟩))
    refine ⟨by decide, by decide, fun D nD => ?_⟩
    refine lc_n (n := 6) (fun i G => Same H G ∧ ∃ ds : List Addr, G D = some (.lst (ds.map V.ref)) ∧ ds.length = i ∧ ds.Nodup ∧ (∀ d ∈ ds, G d = some (.dT []) ∧ H d = none ∧ d ≠ D)) ⟨Same.new nD, [], upd_same, rfl, List.nodup_nil, fun d h => by simp at h⟩
      (fun i G hi p => hi) (fun G p => Nat.le_refl _) (fun i G hi p x G' e => ?_) (fun G p => ?_)
    · obtain ⟨rfl, rfl⟩ := e
      obtain ⟨sG, ds, hD, hn, hnd, hds⟩ := p
      (repeat (first | refine ⟨_, rfl, ?_⟩ | refine ⟨_, _, rfl, rfl, ?_⟩ | refine ⟨_, _, rfl, ?_⟩ | refine ⟨rfl, ?_⟩))
      intro d nd
      have sd := Same.new (o := .dT []) nd
      have hD2 := sd _ _ hD
      have ndD : d ≠ D := by rintro rfl; rw [hD] at nd; cases nd
      refine ⟨_, hD2, lt_line (m := 100) (by rw [List.length_map]; omega) (by decide), (sG.trans sd).mut nD, ds ++ [d], by rw [upd_same, List.map_append]; rfl, by rw [List.length_append, hn]; rfl, ?_, ?_⟩
      · rw [List.nodup_append]
        refine ⟨hnd, by simp, fun a ha b hb => ?_⟩
        rw [List.mem_singleton.mp hb]
        rintro rfl
        rw [(hds a ha).1] at nd
        cases nd
      · intro d' hd'
        rcases List.mem_append.mp hd' with h | h
        · obtain ⟨h1, h2, h3⟩ := hds d' h
          exact ⟨by rw [upd_ne h3]; exact sd _ _ h1, h2, h3⟩
        · rw [List.mem_singleton.mp h]
          exact ⟨by rw [upd_ne ndD, upd_same], sG.none nd, ndD⟩
    · obtain ⟨s0, ds, hD, hn, hnd, hds⟩ := p
      (repeat (first | refine ⟨_, rfl, ?_⟩ | refine ⟨_, _, rfl, rfl, ?_⟩ | refine ⟨_, _, rfl, ?_⟩ | refine ⟨rfl, ?_⟩))
      refine ⟨⟨vs, SqL.of (s0 _ _ hl)⟩, ?_⟩
      refine for_list (xs := vs) (fun n σ G => (∃ a2 a3 a4 a5 a6 a7 a8 a9, σ = [some (.ref l), some (.ref D), a2, a3, a4, a5, a6, a7, a8, a9, none]) ∧ Same H G ∧ G D = some (.lst (ds.map V.ref)) ∧ Dcs G ds (fun i => vl i (L.take n)))
        ⟨⟨_, _, _, _, _, _, _, _, rfl⟩, s0, hD, fun i d hd => (hds d (List.mem_of_getElem? hd)).1⟩ (fun n σ G _ p => SqL.of (p.2.1 _ _ hl)) (fun n x σ G hx p => ?_) (fun σ G p => ?_)
      · obtain ⟨⟨a2, a3, a4, a5, a6, a7, a8, a9, rfl⟩, sG, hDG, hdc⟩ := p
        obtain ⟨r, hr1, tr⟩ := hT.get hx
        obtain ⟨q, rfl, hq⟩ := tr.mono sG
        refine ⟨q, rowV r, rfl, .inl (.inl hq), rfl, ?_⟩
        (repeat (first | refine ⟨_, rfl, ?_⟩ | refine ⟨_, _, rfl, rfl, ?_⟩ | refine ⟨_, _, rfl, ?_⟩ | refine ⟨rfl, ?_⟩))
        intro lw G1 s1 hlwn hlw
        obtain ⟨lv, hlv1, hlv2⟩ := hlw
        (repeat (first | refine ⟨_, rfl, ?_⟩ | refine ⟨_, _, rfl, rfl, ?_⟩ | refine ⟨_, _, rfl, ?_⟩ | refine ⟨rfl, ?_⟩))
        refine ⟨le_line (by simp), fun p np => ?_⟩
        refine ⟨p, _, rfl, .inr (.inl (.inl upd_same)), rfl, rfl, ?_⟩
        have sp := Same.new (o := .tup [.str "e", .str "n", .str "w"]) np
        have s2 := s1.trans sp
        have hlv3 := sp _ _ hlv1
        have hlv4 := hlv2.mono sp
        have hD2 := s2 _ _ hDG
        have hdc2 := hdc.mono s2
        have sG2 := sG.trans s2
        generalize hG2 : upd G1 p (.tup [.str "e", .str "n", .str "w"]) = G2 at hlv3 hlv4 hD2 hdc2 sG2
        (repeat (first | refine ⟨_, rfl, ?_⟩ | refine ⟨_, _, rfl, rfl, ?_⟩ | refine ⟨_, _, rfl, ?_⟩ | refine ⟨rfl, ?_⟩))
        refine sign_step (σ := [some (.ref l), some (.ref D), some (.int r.1.1), some (.int r.1.2.1), some (.str (kS r.1.2.2)), some (.int r.2), some (.ref lw), some (.int r.2), a8, a9, none]) (k := r.1.2.2) (ink := r.2) 5 7 (kS_enw _) rfl rfl ?_
        (repeat (first | refine ⟨_, rfl, ?_⟩ | refine ⟨_, _, rfl, rfl, ?_⟩ | refine ⟨_, _, rfl, ?_⟩ | refine ⟨rfl, ?_⟩))
        refine ⟨by decide, by decide, ?_⟩
        refine for_range (lo := 0) (n := 6) (fun j σ G => (∃ a8 a9, σ = [some (.ref l), some (.ref D), some (.int r.1.1), some (.int r.1.2.1), some (.str (kS r.1.2.2)), some (.int r.2), some (.ref lw), some (.int (r.2 * sgn r.1.2.2)), a8, a9, none]) ∧ Same H G ∧ G D = some (.lst (ds.map V.ref)) ∧ (G lw = some (.lst lv) ∧ Tps G placeV lv (lowsL r.1.2.2)) ∧ Dcs G ds (fun i => vl i (L.take (if i < j then n + 1 else n))))
          ⟨⟨_, _, rfl⟩, sG2, hD2, ⟨hlv3, hlv4⟩, by simpa using hdc2⟩ (fun j σ G hj p => ?_) (fun σ G p => ?_)
        · obtain ⟨⟨a8, a9, rfl⟩, s3, hD3, ⟨hlw3, hlt3⟩, hdc3⟩ := p
          have hlj : (lowsL r.1.2.2)[j]? = some (low j r.1.2.2) := by
            match j, hj with
            | 0, _ => rfl
            | 1, _ => rfl
            | 2, _ => rfl
            | 3, _ => rfl
            | 4, _ => rfl
            | 5, _ => rfl
          obtain ⟨u, hu1', b, rfl, hb⟩ := hlt3.at hlj
          obtain ⟨d, hdj⟩ : ∃ d, ds[j]? = some d := ⟨_, List.getElem?_eq_getElem (by omega)⟩
          have hdv : (ds.map V.ref)[j]? = some (.ref d) := by rw [List.getElem?_map, hdj]; rfl
          have e0 : (0 : Int) + ((j : Nat) : Int) = ((j : Nat) : Int) := Int.zero_add _
          rw [e0]
          (repeat (first | refine ⟨_, rfl, ?_⟩ | refine ⟨_, _, rfl, rfl, ?_⟩ | refine ⟨_, _, rfl, ?_⟩ | refine ⟨rfl, ?_⟩))
          refine ⟨lw, lv, _, _, rfl, rfl, SqL.of hlw3, atI_nat hu1', ?_⟩
          refine ⟨b, placeV (low j r.1.2.2), 0, _, rfl, rfl, .inl (.inl hb), rfl, ?_⟩
          (repeat (first | refine ⟨_, rfl, ?_⟩ | refine ⟨_, _, rfl, rfl, ?_⟩ | refine ⟨_, _, rfl, ?_⟩ | refine ⟨rfl, ?_⟩))
          refine ⟨lw, lv, _, _, rfl, rfl, SqL.of hlw3, atI_nat hu1', ?_⟩
          refine ⟨b, placeV (low j r.1.2.2), 1, _, rfl, rfl, .inl (.inl hb), rfl, ?_⟩
          (repeat (first | refine ⟨_, rfl, ?_⟩ | refine ⟨_, _, rfl, rfl, ?_⟩ | refine ⟨_, _, rfl, ?_⟩ | refine ⟨rfl, ?_⟩))
          refine ⟨le_line (by simp), fun p np => ?_⟩
          have sp := Same.new (o := .tup (placeV (lowM j r.1))) np
          have hD4 := sp _ _ hD3
          have hdc4 := hdc3.mono sp
          (repeat (first | refine ⟨_, rfl, ?_⟩ | refine ⟨_, _, rfl, rfl, ?_⟩ | refine ⟨_, _, rfl, ?_⟩ | refine ⟨rfl, ?_⟩))
          refine ⟨D, _, _, _, rfl, rfl, SqL.of hD4, atI_nat hdv, ?_⟩
          have hdd : (upd G p (.tup (placeV (lowM j r.1)))) d = some (.dT (DtK placeK (tally (vl j (L.take n))))) := by
            have := hdc4 j d hdj
            simpa using this
          (repeat (first | refine ⟨_, rfl, ?_⟩ | refine ⟨_, _, rfl, rfl, ?_⟩ | refine ⟨_, _, rfl, ?_⟩ | refine ⟨rfl, ?_⟩))
          refine ⟨isD_t hdd, ?_⟩
          (repeat (first | refine ⟨_, rfl, ?_⟩ | refine ⟨_, _, rfl, rfl, ?_⟩ | refine ⟨_, _, rfl, ?_⟩ | refine ⟨rfl, ?_⟩))
          refine ⟨_, dget_coef (k := lowM j r.1) ko_place hdd upd_same, ?_⟩
          rw [dt_get ko_place (nodup_tally _)]
          (repeat (first | refine ⟨_, rfl, ?_⟩ | refine ⟨_, _, rfl, rfl, ?_⟩ | refine ⟨_, _, rfl, ?_⟩ | refine ⟨rfl, ?_⟩))
          refine ⟨D, _, _, _, rfl, rfl, SqL.of hD4, atI_nat hdv, ?_⟩
          (repeat (first | refine ⟨_, rfl, ?_⟩ | refine ⟨_, _, rfl, rfl, ?_⟩ | refine ⟨_, _, rfl, ?_⟩ | refine ⟨rfl, ?_⟩))
          have hbz : (tally (vl j (L.take n))).length < 16000000 := by
            have h1 := length_tally (vl j (L.take n))
            unfold vl at h1
            rw [List.length_map, List.length_take] at h1
            have : min n L.length ≤ L.length := Nat.min_le_right _ _
            unfold vl
            omega
          have hdmem := hds d (List.mem_of_getElem? hdj)
          have nlwd : lw ≠ d := by
            rintro rfl
            have h9 := sp _ _ hlw3
            rw [hdd] at h9
            cases h9
          refine ⟨d, _, rfl, dput_bump ko_place (nodup_tally _) hdd upd_same hbz, ⟨_, _, rfl⟩, (s3.trans sp).mut hdmem.2.1, ?_, ⟨?_, ?_⟩, ?_⟩
          · rw [upd_ne (Ne.symm hdmem.2.2)]
            exact hD4
          · rw [upd_ne nlwd]
            exact sp _ _ hlw3
          · exact (hlt3.mono sp).monoT (SameT.dT hdd)
          · intro i d' hd'
            by_cases hij : i = j
            · subst hij
              rw [hdj] at hd'
              cases hd'
              rw [upd_same]
              dsimp only
              rw [if_pos (by omega), vl_snoc hr1, tally_one]
            · have hne : d' ≠ d := by
                rintro rfl
                exact hij ((List.getElem?_inj (List.getElem?_eq_some_iff.mp hd').1 hnd).mp (hd'.trans hdj.symm))
              rw [upd_ne hne]
              refine (hdc4 i d' hd').trans ?_
              dsimp only
              by_cases h7 : i < j
              · rw [if_pos h7, if_pos (by omega)]
              · rw [if_neg h7, if_neg (by omega)]
        · obtain ⟨⟨a8, a9, rfl⟩, s3, hD3, _, hdc3⟩ := p
          refine ⟨⟨_, _, _, _, _, _, _, _, rfl⟩, s3, hD3, fun i d hd => ?_⟩
          have := (List.getElem?_eq_some_iff.mp hd).1
          have h := hdc3 i d hd
          dsimp only at h
          rw [if_pos (by omega)] at h
          exact h
      · obtain ⟨⟨a2, a3, a4, a5, a6, a7, a8, a9, rfl⟩, sG, hDG, hdc⟩ := p
        rw [List.take_of_length_le (by omega)] at hdc
        (repeat (first | refine ⟨_, rfl, ?_⟩ | refine ⟨_, _, rfl, rfl, ?_⟩ | refine ⟨_, _, rfl, ?_⟩ | refine ⟨rfl, ?_⟩))
        refine ⟨⟨_, SqL.of hDG⟩, fun O nO => ?_⟩
        refine lc_n (J := Itl K D) (n := 6) (fun i G2 => Same G G2 ∧ ∃ ws ss, G2 O = some (.lst ws) ∧ Paired (fun v s => ∃ b, v = V.ref b ∧ b ≠ O ∧ Ls G2 spotV b s) ws ss ∧ ss.length = i ∧ ∀ j x, ss[j]? = some x → Canon (vl j L) x) ⟨Same.new nO, [], [], upd_same, .nil, rfl, fun j x h => by simp at h⟩
          (fun i G2 hi p => ⟨_, (ds.map V.ref)[i]'(by rw [List.length_map]; omega), SqL.of (p.1 _ _ hDG), List.getElem?_eq_getElem _⟩) (fun G2 p => ⟨_, SqL.of (p.1 _ _ hDG), by rw [List.length_map]; omega⟩) (fun i G2 hi p x G3 e => ?_) (fun G2 p => ?_)
        · obtain ⟨s2, ws, ss, hO, hP, hns, hc⟩ := p
          obtain ⟨rfl, hx⟩ := e
          obtain ⟨d, hdi⟩ : ∃ d, ds[i]? = some d := ⟨_, List.getElem?_eq_getElem (by omega)⟩
          have hxi := hx _ (SqL.of (s2 _ _ hDG))
          rw [List.getElem?_map, hdi] at hxi
          cases hxi
          (repeat (first | refine ⟨_, rfl, ?_⟩ | refine ⟨_, _, rfl, rfl, ?_⟩ | refine ⟨_, _, rfl, ?_⟩ | refine ⟨rfl, ?_⟩))
          refine ⟨d, vl i L, rfl, by unfold vl; rw [List.length_map]; exact hz, s2 _ _ (hdc i d hdi), fun b s' G4 s4 hb hbl hcan => ?_⟩
          have nbO : b ≠ O := by rintro rfl; rw [hO] at hb; cases hb
          have hO4 := s4 _ _ hO
          have lws := Paired.length hP
          have keep : ∀ {c : Addr} {s : List Spot}, c ≠ O → Ls G4 spotV c s → Ls (upd G4 O (.lst (ws ++ [.ref b]))) spotV c s := fun {c s} nb ⟨us, u1, u2⟩ => ⟨us, by rw [upd_ne nb]; exact u1, u2.monoT (SameT.lst hO4)⟩
          refine ⟨ws, hO4, lt_line (m := 100) (by omega) (by decide), (s2.trans s4).mut nO, ws ++ [.ref b], ss ++ [s'], upd_same, Paired.snoc (L2.Paired.mapP hP fun _ _ ⟨c, e1, e2, e3⟩ => ⟨c, e1, e2, keep e2 (e3.mono s4)⟩) ⟨b, rfl, nbO, keep nbO hbl⟩, by rw [List.length_append, hns]; rfl, ?_⟩
          intro j y hy
          by_cases hj : j < ss.length
          · rw [List.getElem?_append_left hj] at hy
            exact hc j y hy
          · rw [List.getElem?_append_right (by omega)] at hy
            have h0 : j - ss.length = 0 := by
              have h2 := (List.getElem?_eq_some_iff.mp hy).1
              simp at h2
              omega
            rw [h0] at hy
            cases hy
            have : j = i := by omega
            rw [this]
            exact hcan
        · obtain ⟨s2, ws, ss, hO, hP, hns, hc⟩ := p
          exact k O ss G2 (sG.trans s2) (sG.none nO) ⟨ws, hO, L2.Paired.mapP hP fun _ _ ⟨c, e1, e2, e3⟩ => ⟨c, e1, e3⟩⟩ ⟨hns, hc⟩
end
end SV
end

section
set_option Elab.async false
set_option linter.all false
set_option maxRecDepth 100000
set_option maxHeartbeats 4000000
/-! The law's readers. -/
namespace SV
open PySem PySem.Spec PyProof.Rows L2
section
variable {P : Program} {w : World} {K : PySem.W.Frag} {mg : Str → Option Value} {base : Heap} {f : Addr} {fd : FuncData} {cTu cSp cVi cSh : Addr}
def spFirstBad : Sp := fun vs H Q _ => ∃ (o : Addr) (ss : List (List Spot)), vs = [.ref o] ∧ VwL H o ss ∧ ss.length = 6 ∧ ∀ r H', Same H H' → Stub ss r → Q (optV r) H'
theorem ok_first_bad (T : Txt K w mg) (F : GDef K "_law_first_bad" s__law_first_bad f fd) : FnOk P w K mg base CX0 1 f fd P__law_first_bad spFirstBad := by
  refine F.ok sc_law_first_bad (fun vs H Q E h => ?_) (fun cdv A outer s H vs Q E hr h => ?_)
  · obtain ⟨d, l0, rfl, _⟩ := h; rfl
  · obtain ⟨o, ss, rfl, ⟨ws, hw, hP⟩, h6, k⟩ := h
    have hlw : ws.length = 6 := by rw [← h6]; exact Paired.length hP
    refine ⟨_, PSs.nox (pss_cons (ps_for PassesOwn.never rfl (pi_range1 rfl T.z_range (pa_cons pe_int pa_nil)) (pg_name (i := 1) sc_law_first_bad.nd rfl (Or.inl rfl))
        (pss_one (ps_if (PW.pt (pw_or (pt_cmpR op_ne (pe_callB call_len_seq (by rfl) T.z_len (by decide +kernel) (pa_cons (pe_ix ix_list (pv 0) (pv 1) (fun _ _ => rfl)) pa_nil)) pe_int (nomark _)) (pw_or1 (pt_cmpR op_notIn_seq (pe_ix ix_tup (pe_ix ix_list (pe_ix ix_list (pv 0) (pv 1) (fun _ _ => rfl)) pe_int (fun _ _ => rfl)) pe_int (fun _ _ => rfl)) (pe_tup (pa_cons pe_int (pa_cons (pe_un un_neg pe_int) pa_nil))) (by rfl)))))
          (pss_one (ps_ret (pv 1)))
          pss_nil)))
      (pss_one (ps_ret pe_non))), ?_⟩
    (repeat (first | refine ⟨_, rfl, ?_⟩ | refine ⟨_, _, rfl, rfl, ?_⟩ | refine ⟨_, _, rfl, ?_⟩ | refine ⟨rfl, ?_⟩))
    refine ⟨by decide, by decide, ?_⟩
    refine for_range (lo := 0) (n := 6) (fun i σ G => (∃ a1, σ = [some (.ref o), a1]) ∧ Same H G ∧ ∀ j x, j < i → ss[j]? = some x → good x = true) ⟨⟨_, rfl⟩, Same.refl _, fun j x h => absurd h (Nat.not_lt_zero _)⟩ (fun i σ G hi p => ?_) (fun σ G p => ?_)
    · obtain ⟨⟨a1, rfl⟩, sG, hg⟩ := p
      obtain ⟨v, hv⟩ : ∃ v, ws[i]? = some v := ⟨_, List.getElem?_eq_getElem (by omega)⟩
      obtain ⟨sp, hsp, b, rfl, us, hu1, hu2⟩ := paired_get hP hv
      have e0 : (0 : Int) + ((i : Nat) : Int) = ((i : Nat) : Int) := Int.zero_add _
      rw [e0]
      have hwG := sG _ _ hw
      have huG := sG _ _ hu1
      have hlu : us.length = sp.length := hu2.length
      (repeat (first | refine ⟨_, rfl, ?_⟩ | refine ⟨_, _, rfl, rfl, ?_⟩ | refine ⟨_, _, rfl, ?_⟩ | refine ⟨rfl, ?_⟩))
      refine ⟨o, ws, _, _, rfl, rfl, SqL.of hwG, atI_nat hv, ?_⟩
      refine ⟨b, us, rfl, .inl (SqL.of huG), ?_⟩
      (repeat (first | refine ⟨_, rfl, ?_⟩ | refine ⟨_, _, rfl, rfl, ?_⟩ | refine ⟨_, _, rfl, ?_⟩ | refine ⟨rfl, ?_⟩))
      refine itB (fun h => ?_) (fun h => ?_)
      · (repeat (first | refine ⟨_, rfl, ?_⟩ | refine ⟨_, _, rfl, rfl, ?_⟩ | refine ⟨_, _, rfl, ?_⟩ | refine ⟨rfl, ?_⟩))
        refine k (some i) _ sG ⟨hg, sp, hsp, ?_⟩
        have hne : ¬ us.length = 1 := by
          intro e
          rw [e] at h
          cases h
        cases sp with
        | nil => rfl
        | cons p r =>
          cases r with
          | nil => exact absurd hlu hne
          | cons _ _ => rfl
      · have h1 : us.length = 1 := by
          by_cases e : us.length = 1
          · exact e
          · have : (V.int (us.length : Nat) = V.int 1) = False := by
              apply propext
              constructor
              · intro z
                injection z with z
                omega
              · exact False.elim
            simp only [this, decide_false, Bool.not_false, Bool.true_eq_false] at h
        (repeat (first | refine ⟨_, rfl, ?_⟩ | refine ⟨_, _, rfl, rfl, ?_⟩ | refine ⟨_, _, rfl, ?_⟩ | refine ⟨rfl, ?_⟩))
        refine ⟨o, ws, _, _, rfl, rfl, SqL.of hwG, atI_nat hv, ?_⟩
        cases hu2 with
        | nil => simp at h1
        | cons t r =>
          cases r with
          | cons _ _ => simp at h1
          | nil =>
            obtain ⟨c, rfl, hc⟩ := t
            (repeat (first | refine ⟨_, rfl, ?_⟩ | refine ⟨_, _, rfl, rfl, ?_⟩ | refine ⟨_, _, rfl, ?_⟩ | refine ⟨rfl, ?_⟩))
            refine ⟨b, _, 0, _, rfl, rfl, SqL.of huG, at0, ?_⟩
            have hcG := sG _ _ hc
            (repeat (first | refine ⟨_, rfl, ?_⟩ | refine ⟨_, _, rfl, rfl, ?_⟩ | refine ⟨_, _, rfl, ?_⟩ | refine ⟨rfl, ?_⟩))
            refine ⟨c, _, 2, _, rfl, rfl, .inl (.inl hcG), rfl, ?_⟩
            (repeat (first | refine ⟨_, rfl, ?_⟩ | refine ⟨_, _, rfl, rfl, ?_⟩ | refine ⟨_, _, rfl, ?_⟩ | refine ⟨rfl, ?_⟩))
            refine ⟨le_line (by simp), fun q nq => ?_⟩
            have sq := Same.new (o := .tup [.int 1, .int (-1)]) nq
            refine ⟨q, _, rfl, .inr (.inl (.inl upd_same)), rfl, rfl, ?_⟩
            (repeat (first | refine ⟨_, rfl, ?_⟩ | refine ⟨_, _, rfl, rfl, ?_⟩ | refine ⟨_, _, rfl, ?_⟩ | refine ⟨rfl, ?_⟩))
            rename_i p0
            have eg : good [p0] = inV (.int p0.2) [.int 1, .int (-1)] := by
              rw [in_pm]
              rfl
            refine itB (fun h => ?_) (fun h => ?_)
            · (repeat (first | refine ⟨_, rfl, ?_⟩ | refine ⟨_, _, rfl, rfl, ?_⟩ | refine ⟨_, _, rfl, ?_⟩ | refine ⟨rfl, ?_⟩))
              refine k (some i) _ (sG.trans sq) ⟨hg, _, hsp, ?_⟩
              rw [eg]
              simpa using h
            · refine ⟨⟨_, rfl⟩, sG.trans sq, fun j x hj hxj => ?_⟩
              by_cases hji : j = i
              · subst hji
                rw [hsp] at hxj
                cases hxj
                rw [eg]
                simpa using h
              · exact hg j x (by omega) hxj
    · obtain ⟨⟨a1, rfl⟩, sG, hg⟩ := p
      (repeat (first | refine ⟨_, rfl, ?_⟩ | refine ⟨_, _, rfl, rfl, ?_⟩ | refine ⟨_, _, rfl, ?_⟩ | refine ⟨rfl, ?_⟩))
      exact k none _ sG fun j x hx => hg j x (by have := (List.getElem?_eq_some_iff.mp hx).1; omega) hx
/- _law_sorted_cells -/
abbrev N__law_sorted_cells : List Str := ["_law_rows", "_law_inks", "_law_x", "_law_y", "_law_kind", "_law_ink", "_law_cell"]
abbrev P__law_sorted_cells : List Str := ["_law_rows"]
theorem sc_law_sorted_cells : FnScope N__law_sorted_cells P__law_sorted_cells (defScope s__law_sorted_cells) := ⟨rfl, rfl, rfl, by decide +kernel, rfl, by decide +kernel, by decide +kernel⟩
/- _law_rows_of -/
abbrev N__law_rows_of : List Str := ["_law_sheet", "_law_rows", "_law_row", "_law_at"]
abbrev P__law_rows_of : List Str := ["_law_sheet"]
theorem sc_law_rows_of : FnScope N__law_rows_of P__law_rows_of (defScope s__law_rows_of) := ⟨rfl, rfl, rfl, by decide +kernel, rfl, by decide +kernel, by decide +kernel⟩
def spSortedCells : Sp := fun vs H Q _ => ∃ (l : Addr) (L : List Row), vs = [.ref l] ∧ L.length ≤ 1000000 ∧ Ls H rowV l L ∧ ∀ o s H', Same H H' → H o = none → Ls H' rowV o s → Canon L s → Q (.ref o) H'
theorem ok_sorted_cells (T : Txt K w mg) (F : GDef K "_law_sorted_cells" s__law_sorted_cells f fd) : FnOk P w K mg base CX0 1 f fd P__law_sorted_cells spSortedCells := by
  refine F.ok sc_law_sorted_cells (fun vs H Q E h => ?_) (fun cdv A outer s H vs Q E hr h => ?_)
  · obtain ⟨d, l0, rfl, _⟩ := h; rfl
  · obtain ⟨l, L, rfl, hz, ⟨vs, hl, hT⟩, k⟩ := h
    have hu16 := hu16_of hr
    have hu := hu1_of hr
    have hlen : vs.length = L.length := hT.length
    refine ⟨_, PSs.nox (pss_cons (ps_set (i := 1) sc_law_sorted_cells.nd rfl (Or.inr rfl) pe_dnewT)
      (pss_cons (ps_for PassesOwn.never rfl (pi_list (pv 0)) (pg_tup rfl (pgs_cons (pg_name (i := 2) sc_law_sorted_cells.nd rfl (Or.inl rfl)) (pgs_cons (pg_name (i := 3) sc_law_sorted_cells.nd rfl (Or.inl rfl)) (pgs_cons (pg_name (i := 4) sc_law_sorted_cells.nd rfl (Or.inl rfl)) (pgs_cons (pg_name (i := 5) sc_law_sorted_cells.nd rfl (Or.inl rfl)) pgs_nil)))))
        (pss_one (ps_dput hu (pv 1) (pe_tup (pa_cons (pv 2) (pa_cons (pv 3) (pa_cons (pv 4) pa_nil)))) (pe_op op_add (pe_dget2 hu (pv 1) (pe_tup (pa_cons (pv 2) (pa_cons (pv 3) (pa_cons (pv 4) pa_nil)))) pe_int ⟨rfl, rfl, rfl, rfl⟩) (pv 5)) rfl)))
      (pss_one (ps_ret (pe_callB (cr_sortedD hu16) (by rfl) T.z_sorted (by decide +kernel) (pa_cons (pe_lock (pe_lc (own := [("_law_cell", 6)]) (g := gName 6) rfl sc_law_sorted_cells.nd (pi_keys (pv 1)) (blkOk_by (N := N__law_sorted_cells) (sc := defScope s__law_sorted_cells) (own := [("_law_cell", 6)]) (by decide +kernel)) (fun _ _ _ _ _ => (pg_name (i := 6) sc_law_sorted_cells.nd rfl (Or.inl rfl))) (fun _ _ _ _ _ => pts_one (pt_cmpR op_ne (pe_dget hu (pv 1) (pv 6) (fun _ _ => rfl)) pe_int (nomark _))) (fun _ _ _ _ _ => (pe_op (r := rCatA K) op_catA (pv 6) (pe_tup (pa_cons (pe_dget hu (pv 1) (pv 6) (fun _ _ => rfl)) pa_nil)))))) pa_nil)))))), ?_⟩
    (repeat (first | refine ⟨_, rfl, ?_⟩ | refine ⟨_, _, rfl, rfl, ?_⟩ | refine ⟨_, _, rfl, ?_⟩ | refine ⟨rfl, ?_⟩))
    intro D nD
    have s0 : Same H (upd H D (.dT [])) := Same.new nD
    (repeat (first | refine ⟨_, rfl, ?_⟩ | refine ⟨_, _, rfl, rfl, ?_⟩ | refine ⟨_, _, rfl, ?_⟩ | refine ⟨rfl, ?_⟩))
    refine ⟨⟨vs, SqL.of (s0 _ _ hl)⟩, ?_⟩
    refine for_list (xs := vs) (fun i σ G => (∃ a2 a3 a4 a5, σ = [some (.ref l), some (.ref D), a2, a3, a4, a5, none]) ∧ Same H G ∧ G D = some (.dT (DtK cellK (tally (L.take i)))))
      ⟨⟨_, _, _, _, rfl⟩, s0, upd_same⟩ (fun i σ G _ p => SqL.of (p.2.1 _ _ hl)) (fun i v σ G hv p => ?_) (fun σ G p => ?_)
    · obtain ⟨⟨a2, a3, a4, a5, rfl⟩, sG, hD⟩ := p
      obtain ⟨s1, hs1, tv⟩ := hT.get hv
      obtain ⟨a, rfl, ha⟩ := tv.mono sG
      refine ⟨a, rowV s1, rfl, .inl (.inl ha), rfl, ?_⟩
      (repeat (first | refine ⟨_, rfl, ?_⟩ | refine ⟨_, _, rfl, rfl, ?_⟩ | refine ⟨_, _, rfl, ?_⟩ | refine ⟨rfl, ?_⟩))
      refine ⟨isD_t hD, ?_⟩
      (repeat (first | refine ⟨_, rfl, ?_⟩ | refine ⟨_, _, rfl, rfl, ?_⟩ | refine ⟨_, _, rfl, ?_⟩ | refine ⟨rfl, ?_⟩))
      refine ⟨le_line (by simp), fun p np => ?_⟩
      have sp := Same.new (o := .tup (cellV s1.1)) np
      have e1 := sp _ _ hD
      (repeat (first | refine ⟨_, rfl, ?_⟩ | refine ⟨_, _, rfl, rfl, ?_⟩ | refine ⟨_, _, rfl, ?_⟩ | refine ⟨rfl, ?_⟩))
      refine ⟨_, dget_coef ko_cell e1 upd_same, ?_⟩
      rw [dt_get ko_cell (nodup_tally _)]
      (repeat (first | refine ⟨_, rfl, ?_⟩ | refine ⟨_, _, rfl, rfl, ?_⟩ | refine ⟨_, _, rfl, ?_⟩ | refine ⟨rfl, ?_⟩))
      refine ⟨le_line (by simp), fun q nq => ?_⟩
      have sq := Same.new (o := .tup (cellV s1.1)) nq
      have e2 := sq _ _ e1
      have := length_tally (L.take i)
      rw [List.length_take] at this
      refine ⟨D, _, rfl, dput_bump ko_cell (nodup_tally _) e2 upd_same (by omega), ⟨_, _, _, _, rfl⟩, ((sG.trans sp).trans sq).mut nD, ?_⟩
      rw [upd_same, tally_snoc hs1]
    · obtain ⟨⟨a2, a3, a4, a5, rfl⟩, sG, hD⟩ := p
      rw [List.take_of_length_le (by omega)] at hD
      have nd0 := nodup_tally L
      have lt0 := length_tally L
      (repeat (first | refine ⟨_, rfl, ?_⟩ | refine ⟨_, _, rfl, rfl, ?_⟩ | refine ⟨_, _, rfl, ?_⟩ | refine ⟨rfl, ?_⟩))
      refine ⟨D, _, hD, mut_dT, fun od => ?_⟩
      have hF : (upd G D (.frz od (.dT (DtK cellK (tally L))))) D = some (.frz od (.dT (DtK cellK (tally L)))) := upd_same
      generalize hG1 : upd G D (.frz od (.dT (DtK cellK (tally L)))) = G1 at hF
      (repeat (first | refine ⟨_, rfl, ?_⟩ | refine ⟨_, _, rfl, rfl, ?_⟩ | refine ⟨_, _, rfl, ?_⟩ | refine ⟨rfl, ?_⟩))
      refine ⟨D, od, rfl, .inr ⟨DtK cellK (tally L), hF, fun D2 nD2 => ?_⟩⟩
      refine lc_lsF (J := Itkt D od (DtK cellK (tally L))) (n := (tally L).length) rowV (fun q => decide (q.2 ≠ 0)) (tally L) rfl (by omega) nD2 (fun i H hi s => ⟨s _ _ hF, by rw [dtK_length]; exact hi⟩) (fun H s => ⟨s _ _ hF, by rw [dtK_length]; exact Nat.le_refl _⟩) (fun i y H2 hyi s2 N M hN hM x H3 e => ?_) (fun H2 s2 hL2 => ?_)
      · obtain ⟨rfl, kk, v, q, hkv, rfl, hq⟩ := e
        have ekv : (kk, v) = (cellK y.1, V.int y.2) := by
          unfold DtK at hkv
          rw [List.getElem?_map, hyi] at hkv
          exact (Option.some.inj hkv).symm
        cases ekv
        have hmem := List.mem_of_getElem? hyi
        have hq' : H3 q = some (.tup (cellV y.1)) := hq
        (repeat (first | refine ⟨_, rfl, ?_⟩ | refine ⟨_, _, rfl, rfl, ?_⟩ | refine ⟨_, _, rfl, ?_⟩ | refine ⟨rfl, ?_⟩))
        refine ⟨D, _, rfl, dget_frz ko_cell nd0 (s2 _ _ hF) hmem hq', ?_⟩
        (repeat (first | refine ⟨_, rfl, ?_⟩ | refine ⟨_, _, rfl, rfl, ?_⟩ | refine ⟨_, _, rfl, ?_⟩ | refine ⟨rfl, ?_⟩))
        refine itB (fun h => ?_) (fun h => ?_)
        · (repeat (first | refine ⟨_, rfl, ?_⟩ | refine ⟨_, _, rfl, rfl, ?_⟩ | refine ⟨_, _, rfl, ?_⟩ | refine ⟨rfl, ?_⟩))
          refine ⟨D, _, rfl, dget_frz ko_cell nd0 (s2 _ _ hF) hmem hq', ?_⟩
          (repeat (first | refine ⟨_, rfl, ?_⟩ | refine ⟨_, _, rfl, rfl, ?_⟩ | refine ⟨_, _, rfl, ?_⟩ | refine ⟨rfl, ?_⟩))
          refine ⟨le_line (by simp), fun p np => ?_⟩
          have sp := Same.new (o := .tup [.int y.2]) np
          exact ⟨q, p, cellV y.1, [.int y.2], rfl, rfl, .inl (.inl (sp _ _ hq')), .inl (.inl upd_same), le_line (by simp [cellV]), (fun e => nomatch e), (fun _ e => nomatch e), fun _ _ r nr => hN (by rw [← ne0]; exact h) _ _ (sp.trans (Same.new nr)) ⟨r, rfl, upd_same⟩⟩
        · exact hM (by rw [← ne0]; exact h) _ (Same.refl _)
      · obtain ⟨zs, hz1, hz2⟩ := hL2
        refine ⟨s2 _ _ hF, ?_⟩
        generalize hG3 : upd H2 D (.dT (DtK cellK (tally L))) = G3
        have sG3 : Same G G3 := by rw [← hG3]; exact same_unlock hD (by rw [hG1]; exact s2)
        have nDD : D2 ≠ D := by
          rintro rfl
          rw [hF] at nD2
          cases nD2
        have hz3 : G3 D2 = some (.lst zs) := by rw [← hG3, upd_ne nDD]; exact hz1
        have zT : Tps G3 rowV zs ((tally L).filter fun q => decide (q.2 ≠ 0)) := by
          rw [← hG3]
          exact hz2.monoT fun a fs e => by
            rw [upd_ne (ne_of e (s2 _ _ hF) (fun z => nomatch z))]
            exact e
        (repeat (first | refine ⟨_, rfl, ?_⟩ | refine ⟨_, _, rfl, rfl, ?_⟩ | refine ⟨_, _, rfl, ?_⟩ | refine ⟨rfl, ?_⟩))
        refine r_sort dat_row (SqL.of hz3) zT fun p ws ys np yp yw yT => ?_
        exact k p ys _ ((sG.trans sG3).trans (Same.new np)) ((sG.trans sG3).none np) ⟨ws, upd_same, yT.mono (Same.new np)⟩ (Canon.of_perm yp yw)
/-- the builtin types -/
structure TxtI (K : PySem.W.Frag) : Prop where
  k_int : PySem.W.kitOne K (.type "int") (.type "int") = some true
  k_intb : PySem.W.kitOne K (.type "int") (.type "bool") = some false
  k_tup : PySem.W.kitOne K (.type "tuple") (.type "tuple") = some true
  k_str : PySem.W.kitOne K (.type "str") (.type "str") = some true
theorem inKinds2 (k : Kd) : inV (.str (kS k)) [.str "d", .str "e", .str "n", .str "u", .str "v", .str "w"] = true := inKinds k
theorem cut3 (r : Row) : cutV (rowV r) none (some 3) = cellV r.1 := rfl
theorem asc_at {κ : Type} [Lin κ] {s : List (κ × Int)} (h : s.Pairwise fun p q => Lin.lt p.1 q.1) {i : Nat} {p q : κ × Int} (hp : s[i]? = some p) (hq : s[i + 1]? = some q) : Lin.lt p.1 q.1 := by
  obtain ⟨hi, rfl⟩ := List.getElem?_eq_some_iff.mp hp
  obtain ⟨hj, rfl⟩ := List.getElem?_eq_some_iff.mp hq
  exact List.pairwise_iff_getElem.mp h i (i + 1) hi hj (Nat.lt_succ_self i)
def spRowsOf (cSh : Addr) : Sp := fun vs H Q _ => ∃ (a : Addr) (l s : List Row), vs = [.ref a] ∧ s.length ≤ 1000000 ∧ SheetAt cSh H a s ∧ Canon l s ∧ ∀ o H', Same H H' → H o = none → Ls H' rowV o s → Q (.ref o) H'
theorem ok_rows_of (T : Txt K w mg) (TC : TxtC K cTu cSp cVi cSh) (TM : TxtM K mg cTu cSp cVi cSh) (TI : TxtI K) (F : GDef K "_law_rows_of" s__law_rows_of f fd) (IS : ItbC P w K mg base cSh "rows" 1) (c__law_whole : Cal P w K mg base CX0 "_law_whole" P__law_whole 1 spWhole) : FnOk P w K mg base CX0 6 f fd P__law_rows_of (spRowsOf cSh) := by
  refine F.ok sc_law_rows_of (fun vs H Q E h => ?_) (fun cdv A outer s H vs Q E hr h => ?_)
  · obtain ⟨d, l0, s0, rfl, _⟩ := h; rfl
  · obtain ⟨a, l, s, rfl, hz, ⟨dx, z, ws, d, g1, g2, g3, g4⟩, hc, k⟩ := h
    have hu16 := hu16_of hr
    have hl : ws.length = s.length := g3.length
    refine ⟨_, PSs.nox (pss_cons (ps_if (pt_not (pt_val (pe_callB call_isi (by rfl) T.z_isinstance (by decide +kernel) (pa_cons (pv 0) (pa_cons (pe_glob (v := .ref _) rfl TM.g_Sheet rfl) pa_nil)))))
        (pss_one (ps_ret pe_non))
        pss_nil)
      (pss_cons (ps_set (i := 1) sc_law_rows_of.nd rfl (Or.inl rfl) (pe_callTy (call_listO IS (hr.mono (by decide)) rfl) (by rfl) T.z_list (by decide +kernel) (pa_cons (pv 0) pa_nil)))
      (pss_cons (ps_for PassesOwn.never rfl (pi_list (pv 1)) (pg_name (i := 2) sc_law_rows_of.nd rfl (Or.inl rfl))
        (pss_cons (ps_if (PW.pt (pw_or (pt_not (pt_val (pe_callB call_isi (by rfl) T.z_isinstance (by decide +kernel) (pa_cons (pv 2) (pa_cons (pe_bltn (v := .ty "tuple") (u := .type "tuple") (by rfl) T.z_tuple (by kernel_rfl) rfl) pa_nil))))) (pw_or1 (pt_cmpR op_ne (pe_callB call_len_seq (by rfl) T.z_len (by decide +kernel) (pa_cons (pv 2) pa_nil)) pe_int (nomark _)))))
          (pss_one (ps_ret pe_non))
          pss_nil)
        (pss_cons (ps_if (PW.pt (pw_or (pt_not (pt_val (pe_callB call_isi (by rfl) T.z_isinstance (by decide +kernel) (pa_cons (pe_ix ix_tup (pv 2) pe_int (fun _ _ => rfl)) (pa_cons (pe_bltn (v := .ty "str") (u := .type "str") (by rfl) T.z_str (by kernel_rfl) rfl) pa_nil))))) (pw_or1 (pt_cmpR op_notIn_seq (pe_ix ix_tup (pv 2) pe_int (fun _ _ => rfl)) (pe_tup (pa_cons pe_str (pa_cons pe_str (pa_cons pe_str (pa_cons pe_str (pa_cons pe_str (pa_cons pe_str pa_nil))))))) (by rfl)))))
          (pss_one (ps_ret pe_non))
          pss_nil)
        (pss_cons (ps_if (PW.pt (pw_or (pt_not (pt_val (pe_cal c__law_whole (hr.mono (by decide)) rfl (pa_cons (pe_ix ix_tup (pv 2) pe_int (fun _ _ => rfl)) pa_nil)))) (pw_or1 (pt_not (pt_val (pe_cal c__law_whole (hr.mono (by decide)) rfl (pa_cons (pe_ix ix_tup (pv 2) pe_int (fun _ _ => rfl)) pa_nil)))))))
          (pss_one (ps_ret pe_non))
          pss_nil)
        (pss_one (ps_if (PW.pt (pw_or (pt_not (pt_val (pe_cal c__law_whole (hr.mono (by decide)) rfl (pa_cons (pe_ix ix_tup (pv 2) pe_int (fun _ _ => rfl)) pa_nil)))) (pw_or1 (pt_cmpR op_eq (pe_ix ix_tup (pv 2) pe_int (fun _ _ => rfl)) pe_int (nomark _)))))
          (pss_one (ps_ret pe_non))
          pss_nil))))))
      (pss_cons (ps_for PassesOwn.never rfl (pi_range2 rfl T.z_range (pa_cons pe_int (pa_cons (pe_callB call_len_seq (by rfl) T.z_len (by decide +kernel) (pa_cons (pv 1) pa_nil)) pa_nil))) (pg_name (i := 3) sc_law_rows_of.nd rfl (Or.inl rfl))
        (pss_one (ps_if (pt_not (pt_cmpR (op_ltD hu16) (pe_slice sl_tupA (pe_ix ix_list (pv 1) (pe_op op_sub (pv 3) pe_int) (fun _ _ => rfl)) po_none (po_some pe_int)) (pe_slice sl_tupA (pe_ix ix_list (pv 1) (pv 3) (fun _ _ => rfl)) po_none (po_some pe_int)) (nomark _)))
          (pss_one (ps_ret pe_non))
          pss_nil)))
      (pss_one (ps_ret (pv 1))))))), ?_⟩
    (repeat (first | refine ⟨_, rfl, ?_⟩ | refine ⟨_, _, rfl, rfl, ?_⟩ | refine ⟨_, _, rfl, ?_⟩ | refine ⟨rfl, ?_⟩))
    refine ⟨_, _, _, _, true, rfl, .own cSh, TM.ty TC g1, TM.k_sh, ?_⟩
    (repeat (first | refine ⟨_, rfl, ?_⟩ | refine ⟨_, _, rfl, rfl, ?_⟩ | refine ⟨_, _, rfl, ?_⟩ | refine ⟨rfl, ?_⟩))
    refine ⟨a, dx, _, z, ws, rfl, g1, rfl, .inl (.inl g2), fun o no => ?_⟩
    have s0 : Same H (upd H o (.lst ws)) := Same.new no
    have ho : (upd H o (.lst ws)) o = some (.lst ws) := upd_same
    have hT := g3.mono s0
    generalize hG0 : upd H o (.lst ws) = G0 at s0 ho hT
    (repeat (first | refine ⟨_, rfl, ?_⟩ | refine ⟨_, _, rfl, rfl, ?_⟩ | refine ⟨_, _, rfl, ?_⟩ | refine ⟨rfl, ?_⟩))
    refine ⟨⟨ws, SqL.of ho⟩, ?_⟩
    refine for_list (xs := ws) (fun i σ G => (∃ a2, σ = [some (.ref a), some (.ref o), a2, none]) ∧ Same G0 G) ⟨⟨_, rfl⟩, Same.refl _⟩ (fun i σ G _ p => SqL.of (p.2 _ _ ho)) (fun i v σ G hv p => ?_) (fun σ G p => ?_)
    · obtain ⟨⟨a2, rfl⟩, sG⟩ := p
      obtain ⟨r, hr1, tr⟩ := hT.get hv
      obtain ⟨q, rfl, hq⟩ := tr.mono sG
      have hq0 : SqT K G q (rowV r) := .inl (.inl hq)
      (repeat (first | refine ⟨_, rfl, ?_⟩ | refine ⟨_, _, rfl, rfl, ?_⟩ | refine ⟨_, _, rfl, ?_⟩ | refine ⟨rfl, ?_⟩))
      refine ⟨_, _, _, _, true, rfl, .ty "tuple", .base (.tup hq), TI.k_tup, ?_⟩
      (repeat (first | refine ⟨_, rfl, ?_⟩ | refine ⟨_, _, rfl, rfl, ?_⟩ | refine ⟨_, _, rfl, ?_⟩ | refine ⟨rfl, ?_⟩))
      refine ⟨q, rowV r, rfl, .inr hq0, ?_⟩
      (repeat (first | refine ⟨_, rfl, ?_⟩ | refine ⟨_, _, rfl, rfl, ?_⟩ | refine ⟨_, _, rfl, ?_⟩ | refine ⟨rfl, ?_⟩))
      refine ⟨q, rowV r, 2, _, rfl, rfl, hq0, rfl, ?_⟩
      (repeat (first | refine ⟨_, rfl, ?_⟩ | refine ⟨_, _, rfl, rfl, ?_⟩ | refine ⟨_, _, rfl, ?_⟩ | refine ⟨rfl, ?_⟩))
      refine ⟨_, _, _, _, true, rfl, .ty "str", .base (.str _), TI.k_str, ?_⟩
      (repeat (first | refine ⟨_, rfl, ?_⟩ | refine ⟨_, _, rfl, rfl, ?_⟩ | refine ⟨_, _, rfl, ?_⟩ | refine ⟨rfl, ?_⟩))
      refine ⟨q, rowV r, 2, _, rfl, rfl, hq0, rfl, ?_⟩
      (repeat (first | refine ⟨_, rfl, ?_⟩ | refine ⟨_, _, rfl, rfl, ?_⟩ | refine ⟨_, _, rfl, ?_⟩ | refine ⟨rfl, ?_⟩))
      refine ⟨le_line (by simp), fun p np => ?_⟩
      have sp := Same.new (o := .tup [.str "d", .str "e", .str "n", .str "u", .str "v", .str "w"]) np
      refine ⟨p, _, rfl, .inr (.inl (.inl upd_same)), rfl, rfl, ?_⟩
      (repeat (first | refine ⟨_, rfl, ?_⟩ | refine ⟨_, _, rfl, rfl, ?_⟩ | refine ⟨_, _, rfl, ?_⟩ | refine ⟨rfl, ?_⟩))
      have ein : inV (.str (kS r.1.2.2)) [.str "d", .str "e", .str "n", .str "u", .str "v", .str "w"] = true := inKinds r.1.2.2
      refine itB (fun h => ?_) (fun h => ?_)
      · exfalso
        rw [ein] at h
        cases h
      have hq1 : SqT K (upd G p (.tup [.str "d", .str "e", .str "n", .str "u", .str "v", .str "w"])) q (rowV r) := same_sqt sp hq0
      have sG1 := sG.trans sp
      generalize hG1 : upd G p (.tup [.str "d", .str "e", .str "n", .str "u", .str "v", .str "w"]) = G1 at hq1 sG1
      (repeat (first | refine ⟨_, rfl, ?_⟩ | refine ⟨_, _, rfl, rfl, ?_⟩ | refine ⟨_, _, rfl, ?_⟩ | refine ⟨rfl, ?_⟩))
      refine ⟨q, rowV r, 0, _, rfl, rfl, hq1, rfl, ?_⟩
      (repeat (first | refine ⟨_, rfl, ?_⟩ | refine ⟨_, _, rfl, rfl, ?_⟩ | refine ⟨_, _, rfl, ?_⟩ | refine ⟨rfl, ?_⟩))
      refine ⟨q, rowV r, 1, _, rfl, rfl, hq1, rfl, ?_⟩
      (repeat (first | refine ⟨_, rfl, ?_⟩ | refine ⟨_, _, rfl, rfl, ?_⟩ | refine ⟨_, _, rfl, ?_⟩ | refine ⟨rfl, ?_⟩))
      refine ⟨q, rowV r, 3, _, rfl, rfl, hq1, rfl, ?_⟩
      (repeat (first | refine ⟨_, rfl, ?_⟩ | refine ⟨_, _, rfl, rfl, ?_⟩ | refine ⟨_, _, rfl, ?_⟩ | refine ⟨rfl, ?_⟩))
      refine ⟨q, rowV r, 3, _, rfl, rfl, hq1, rfl, ?_⟩
      (repeat (first | refine ⟨_, rfl, ?_⟩ | refine ⟨_, _, rfl, rfl, ?_⟩ | refine ⟨_, _, rfl, ?_⟩ | refine ⟨rfl, ?_⟩))
      have hne := hc.non r (List.mem_of_getElem? hr1)
      refine itD (fun h => ?_) (fun h => ?_)
      · injection h with h
        exact absurd h hne
      · exact ⟨⟨_, rfl⟩, sG1⟩
    · obtain ⟨⟨a2, rfl⟩, sG⟩ := p
      (repeat (first | refine ⟨_, rfl, ?_⟩ | refine ⟨_, _, rfl, rfl, ?_⟩ | refine ⟨_, _, rfl, ?_⟩ | refine ⟨rfl, ?_⟩))
      refine ⟨o, ws, rfl, .inl (SqL.of (sG _ _ ho)), ?_⟩
      have hlw : ws.length ≤ 1000000 := by omega
      (repeat (first | refine ⟨_, rfl, ?_⟩ | refine ⟨_, _, rfl, rfl, ?_⟩ | refine ⟨_, _, rfl, ?_⟩ | refine ⟨rfl, ?_⟩))
      refine ⟨⟨by decide, by decide, by omega, by omega⟩, ?_⟩
      refine for_range (lo := 1) (n := ((ws.length : Int) - 1).toNat) (fun i σ G => (∃ a2 a3, σ = [some (.ref a), some (.ref o), a2, a3]) ∧ Same G0 G) ⟨⟨_, _, rfl⟩, sG⟩ (fun i σ G hi p => ?_) (fun σ G p => ?_)
      · obtain ⟨⟨a2, a3, rfl⟩, sG⟩ := p
        obtain ⟨v1, h1⟩ : ∃ v, ws[i]? = some v := ⟨_, List.getElem?_eq_getElem (by omega)⟩
        obtain ⟨v2, h2⟩ : ∃ v, ws[i + 1]? = some v := ⟨_, List.getElem?_eq_getElem (by omega)⟩
        obtain ⟨r1, hr1, q1, rfl, hq1⟩ := hT.get h1
        obtain ⟨r2, hr2, q2, rfl, hq2⟩ := hT.get h2
        have hlt := asc_at hc.asc hr1 hr2
        have e1 : (1 : Int) + ((i : Nat) : Int) - 1 = ((i : Nat) : Int) := by omega
        have e2 : (1 : Int) + ((i : Nat) : Int) = (((i + 1 : Nat)) : Int) := by omega
        have a1 : atI ws ((1 : Int) + ((i : Nat) : Int) - 1) = some (.ref q1) := by rw [e1]; exact atI_nat h1
        have a2' : atI ws ((1 : Int) + ((i : Nat) : Int)) = some (.ref q2) := by rw [e2]; exact atI_nat h2
        (repeat (first | refine ⟨_, rfl, ?_⟩ | refine ⟨_, _, rfl, rfl, ?_⟩ | refine ⟨_, _, rfl, ?_⟩ | refine ⟨rfl, ?_⟩))
        refine ⟨o, ws, _, _, rfl, rfl, SqL.of (sG _ _ ho), a1, ?_⟩
        (repeat (first | refine ⟨_, rfl, ?_⟩ | refine ⟨_, _, rfl, rfl, ?_⟩ | refine ⟨_, _, rfl, ?_⟩ | refine ⟨rfl, ?_⟩))
        refine ⟨q1, rowV r1, rfl, .inl (.inl (sG _ _ hq1)), (fun h => absurd (show (3 : Nat) = 4 from h.2) (by decide)), fun _ p1 np1 => ?_⟩
        have sp1 := Same.new (o := .tup (cellV r1.1)) np1
        (repeat (first | refine ⟨_, rfl, ?_⟩ | refine ⟨_, _, rfl, rfl, ?_⟩ | refine ⟨_, _, rfl, ?_⟩ | refine ⟨rfl, ?_⟩))
        refine ⟨o, ws, _, _, rfl, rfl, SqL.of (sp1 _ _ (sG _ _ ho)), a2', ?_⟩
        (repeat (first | refine ⟨_, rfl, ?_⟩ | refine ⟨_, _, rfl, rfl, ?_⟩ | refine ⟨_, _, rfl, ?_⟩ | refine ⟨rfl, ?_⟩))
        refine ⟨q2, rowV r2, rfl, .inl (.inl (sp1 _ _ (sG _ _ hq2))), (fun h => absurd (show (3 : Nat) = 4 from h.2) (by decide)), fun _ p2 np2 => ?_⟩
        have sp2 := Same.new (o := .tup (cellV r2.1)) np2
        refine ⟨encF cellV r1.1, encF cellV r2.1, dat_cell.dp ⟨p1, rfl, sp2 _ _ upd_same⟩, dat_cell.dp ⟨p2, rfl, upd_same⟩, ?_, (fun h => nomatch h), dat_cell.depth _, ?_⟩
        · have := dat_cell.al r1.1 r2.1
          simp only [encF, PySem.W.alike]
          exact this
        · (repeat (first | refine ⟨_, rfl, ?_⟩ | refine ⟨_, _, rfl, rfl, ?_⟩ | refine ⟨_, _, rfl, ?_⟩ | refine ⟨rfl, ?_⟩))
          rw [dat_cell.lt_ _ _ hlt]
          exact ⟨⟨_, _, rfl⟩, sG.trans (sp1.trans sp2)⟩
      · obtain ⟨⟨a2, a3, rfl⟩, sG⟩ := p
        (repeat (first | refine ⟨_, rfl, ?_⟩ | refine ⟨_, _, rfl, rfl, ?_⟩ | refine ⟨_, _, rfl, ?_⟩ | refine ⟨rfl, ?_⟩))
        exact k o G (s0.trans sG) no ⟨ws, sG _ _ ho, hT.mono sG⟩
end
end SV
end

section
set_option Elab.async false
set_option linter.all false
set_option maxRecDepth 100000
set_option maxHeartbeats 4000000
/-! The law's builders. -/
namespace SV
open PySem PySem.Spec PyProof.Rows L2
theorem one_ls {α : Type} {f : α → List V} {H : Hp} {p1 l : Addr} {a1 : α} (n1 : H p1 = none) (nl : (upd H p1 (.tup (f a1))) l = none) :
    Same H (upd (upd H p1 (.tup (f a1))) l (.lst [.ref p1])) ∧ Ls (upd (upd H p1 (.tup (f a1))) l (.lst [.ref p1])) f l [a1] := by
  have s1 := Same.new (o := .tup (f a1)) n1
  have sl := Same.new (o := .lst [.ref p1]) nl
  exact ⟨s1.trans sl, _, upd_same, .cons (Tp.mono sl ⟨p1, rfl, upd_same⟩) .nil⟩
theorem two_ls {α : Type} {f : α → List V} {H : Hp} {p1 p2 l : Addr} {a1 a2 : α} (n1 : H p1 = none) (n2 : (upd H p1 (.tup (f a1))) p2 = none) (nl : (upd (upd H p1 (.tup (f a1))) p2 (.tup (f a2))) l = none) :
    Same H (upd (upd (upd H p1 (.tup (f a1))) p2 (.tup (f a2))) l (.lst [.ref p1, .ref p2])) ∧ Ls (upd (upd (upd H p1 (.tup (f a1))) p2 (.tup (f a2))) l (.lst [.ref p1, .ref p2])) f l [a1, a2] := by
  have s1 := Same.new (o := .tup (f a1)) n1
  have s2 := Same.new (o := .tup (f a2)) n2
  have sl := Same.new (o := .lst [.ref p1, .ref p2]) nl
  have t1 := s2.trans sl
  exact ⟨s1.trans t1, _, upd_same, .cons (Tp.mono t1 ⟨p1, rfl, upd_same⟩) (.cons (Tp.mono sl ⟨p2, rfl, upd_same⟩) .nil)⟩
theorem three_ls {α : Type} {f : α → List V} {H : Hp} {p1 p2 p3 l : Addr} {a1 a2 a3 : α} (n1 : H p1 = none) (n2 : (upd H p1 (.tup (f a1))) p2 = none) (n3 : (upd (upd H p1 (.tup (f a1))) p2 (.tup (f a2))) p3 = none) (nl : (upd (upd (upd H p1 (.tup (f a1))) p2 (.tup (f a2))) p3 (.tup (f a3))) l = none) :
    Same H (upd (upd (upd (upd H p1 (.tup (f a1))) p2 (.tup (f a2))) p3 (.tup (f a3))) l (.lst [.ref p1, .ref p2, .ref p3])) ∧ Ls (upd (upd (upd (upd H p1 (.tup (f a1))) p2 (.tup (f a2))) p3 (.tup (f a3))) l (.lst [.ref p1, .ref p2, .ref p3])) f l [a1, a2, a3] := by
  have s1 := Same.new (o := .tup (f a1)) n1
  have s2 := Same.new (o := .tup (f a2)) n2
  have s3 := Same.new (o := .tup (f a3)) n3
  have sl := Same.new (o := .lst [.ref p1, .ref p2, .ref p3]) nl
  have t2 := s3.trans sl
  have t1 := s2.trans t2
  exact ⟨s1.trans t1, _, upd_same, .cons (Tp.mono t1 ⟨p1, rfl, upd_same⟩) (.cons (Tp.mono t2 ⟨p2, rfl, upd_same⟩) (.cons (Tp.mono sl ⟨p3, rfl, upd_same⟩) .nil))⟩
theorem ls_cat {α : Type} {f : α → List V} {H : Hp} {l m : Addr} {xs ys : List α} {Q : VK} (h1 : Ls H f l xs) (h2 : Ls H f m ys) (hz : xs.length + ys.length ≤ 16000000) (k : ∀ p H', Same H H' → H p = none → Ls H' f p (xs ++ ys) → Q (.ref p) H') : rCat (.ref l) (.ref m) H Q := by
  obtain ⟨vs, v1, v2⟩ := h1
  obtain ⟨us, u1, u2⟩ := h2
  have l1 := v2.length
  have l2 := u2.length
  exact ⟨l, m, vs, us, rfl, rfl, v1, u1, le_line (by omega), fun p np => k p _ (Same.new np) np ⟨_, upd_same, (v2.append u2).mono (Same.new np)⟩⟩
def Il (H : Hp) (l : Addr) (ns : List Int) : Prop := H l = some (.lst (ns.map V.int))
section
variable {P : Program} {w : World} {K : PySem.W.Frag} {mg : Str → Option Value} {base : Heap} {f : Addr} {fd : FuncData} {cTu cSp cVi cSh : Addr}
/- _law_unit -/
abbrev N__law_unit : List Str := ["_law_kind"]
abbrev P__law_unit : List Str := ["_law_kind"]
theorem sc_law_unit : FnScope N__law_unit P__law_unit (defScope s__law_unit) := ⟨rfl, rfl, rfl, by decide +kernel, rfl, by decide +kernel, by decide +kernel⟩
/- _law_added -/
abbrev N__law_added : List Str := ["_law_reaches", "_law_others", "_law_times", "_law_seam"]
abbrev P__law_added : List Str := ["_law_reaches", "_law_others", "_law_times"]
theorem sc_law_added : FnScope N__law_added P__law_added (defScope s__law_added) := ⟨rfl, rfl, rfl, by decide +kernel, rfl, by decide +kernel, by decide +kernel⟩
/- _law_six_corners -/
abbrev N__law_six_corners : List Str := ["_law_reaches", "_law_a", "_law_b", "_law_c", "_law_d", "_law_e", "_law_f", "_law_half"]
abbrev P__law_six_corners : List Str := ["_law_reaches"]
theorem sc_law_six_corners : FnScope N__law_six_corners P__law_six_corners (defScope s__law_six_corners) := ⟨rfl, rfl, rfl, by decide +kernel, rfl, by decide +kernel, by decide +kernel⟩
/- _law_opposite -/
abbrev N__law_opposite : List Str := ["_law_x", "_law_y", "_law_kind"]
abbrev P__law_opposite : List Str := ["_law_x", "_law_y", "_law_kind"]
theorem sc_law_opposite : FnScope N__law_opposite P__law_opposite (defScope s__law_opposite) := ⟨rfl, rfl, rfl, by decide +kernel, rfl, by decide +kernel, by decide +kernel⟩
/- _law_closed -/
abbrev N__law_closed : List Str := ["_law_x", "_law_y", "_law_kind", "_law_cells"]
abbrev P__law_closed : List Str := ["_law_x", "_law_y", "_law_kind"]
theorem sc_law_closed : FnScope N__law_closed P__law_closed (defScope s__law_closed) := ⟨rfl, rfl, rfl, by decide +kernel, rfl, by decide +kernel, by decide +kernel⟩
/- _law_moved -/
abbrev N__law_moved : List Str := ["_law_rows", "_law_dx", "_law_dy", "_law_times", "_law_made", "_law_x", "_law_y", "_law_kind", "_law_ink"]
abbrev P__law_moved : List Str := ["_law_rows", "_law_dx", "_law_dy", "_law_times"]
theorem sc_law_moved : FnScope N__law_moved P__law_moved (defScope s__law_moved) := ⟨rfl, rfl, rfl, by decide +kernel, rfl, by decide +kernel, by decide +kernel⟩
def spUnit : Sp := fun vs H Q _ => ∃ k : Kd, vs = [.str (kS k)] ∧ ∀ l H', Same H H' → H l = none → Il H' l (unitL k) → Q (.ref l) H'
theorem ok_unit (F : GDef K "_law_unit" s__law_unit f fd) : FnOk P w K mg base CX0 1 f fd P__law_unit spUnit := by
  refine F.ok sc_law_unit (fun vs H Q E h => ?_) (fun cdv A outer s H vs Q E hr h => ?_)
  · obtain ⟨d, rfl, _⟩ := h; rfl
  · obtain ⟨c, rfl, k⟩ := h
    refine ⟨_, PSs.nox (pss_cons (ps_if (pt_cmpR op_eq (pv 0) pe_str (nomark _))
        (pss_one (ps_ret (pe_lst (pa_cons pe_int (pa_cons pe_int (pa_cons pe_int (pa_cons pe_int (pa_cons pe_int (pa_cons pe_int pa_nil)))))))))
        pss_nil)
      (pss_cons (ps_if (pt_cmpR op_eq (pv 0) pe_str (nomark _))
        (pss_one (ps_ret (pe_lst (pa_cons pe_int (pa_cons pe_int (pa_cons pe_int (pa_cons pe_int (pa_cons pe_int (pa_cons pe_int pa_nil)))))))))
        pss_nil)
      (pss_cons (ps_if (pt_cmpR op_eq (pv 0) pe_str (nomark _))
        (pss_one (ps_ret (pe_lst (pa_cons pe_int (pa_cons pe_int (pa_cons pe_int (pa_cons pe_int (pa_cons pe_int (pa_cons pe_int pa_nil)))))))))
        pss_nil)
      (pss_cons (ps_if (pt_cmpR op_eq (pv 0) pe_str (nomark _))
        (pss_one (ps_ret (pe_lst (pa_cons pe_int (pa_cons pe_int (pa_cons pe_int (pa_cons pe_int (pa_cons pe_int (pa_cons pe_int pa_nil)))))))))
        pss_nil)
      (pss_cons (ps_if (pt_cmpR op_eq (pv 0) pe_str (nomark _))
        (pss_one (ps_ret (pe_lst (pa_cons pe_int (pa_cons pe_int (pa_cons pe_int (pa_cons pe_int (pa_cons pe_int (pa_cons pe_int pa_nil)))))))))
        pss_nil)
      (pss_one (ps_ret (pe_lst (pa_cons pe_int (pa_cons pe_int (pa_cons pe_int (pa_cons pe_int (pa_cons pe_int (pa_cons pe_int pa_nil)))))))))))))), ?_⟩
    cases c <;> ((((repeat (first | refine ⟨_, rfl, ?_⟩ | refine ⟨_, _, rfl, rfl, ?_⟩ | refine ⟨_, _, rfl, ?_⟩ | refine ⟨rfl, ?_⟩)); refine ⟨le_line (by simp), fun _ _ => ?_⟩)); rename_i l nl; exact k l _ (Same.new nl) nl upd_same)
def spAdded : Sp := fun vs H Q _ => ∃ (r o : Addr) (ns ms : List Int) (t : Int), vs = [.ref r, .ref o, .int t] ∧ ns.length = 6 ∧ ms.length = 6 ∧ -100 ≤ t ∧ t ≤ 100 ∧ Il H r ns ∧ Il H o ms ∧ ∀ l H', Same H H' → H l = none → Il H' l (addL ns ms t) → Q (.ref l) H'
theorem ok_added (T : Txt K w mg) (F : GDef K "_law_added" s__law_added f fd) : FnOk P w K mg base CX0 1 f fd P__law_added spAdded := by
  refine F.ok sc_law_added (fun vs H Q E h => ?_) (fun cdv A outer s H vs Q E hr h => ?_)
  · obtain ⟨d, _, _, _, _, rfl, _⟩ := h; rfl
  · obtain ⟨r, o, ns, ms, t, rfl, hn, hm, t1, t2, hr1, ho, k⟩ := h
    refine ⟨_, PSs.nox (pss_one (ps_ret (pe_lc (own := [("_law_seam", 3)]) (g := gName 3) rfl sc_law_added.nd (pi_range1 rfl T.z_range (pa_cons pe_int pa_nil)) (blkOk_by (N := N__law_added) (sc := defScope s__law_added) (own := [("_law_seam", 3)]) (by decide +kernel)) (fun _ _ _ _ _ => (pg_name (i := 3) sc_law_added.nd rfl (Or.inl rfl))) (fun _ _ _ _ _ => pts_nil) (fun _ _ _ _ _ => (pe_op op_add (pe_ix (r := rIxL K) ix_list (pv 0) (pv 3) (fun _ _ => rfl)) (pe_op op_mul (pe_ix (r := rIxL K) ix_list (pv 1) (pv 3) (fun _ _ => rfl)) (pv 2))))))), ?_⟩
    (repeat (first | refine ⟨_, rfl, ?_⟩ | refine ⟨_, _, rfl, rfl, ?_⟩ | refine ⟨_, _, rfl, ?_⟩ | refine ⟨rfl, ?_⟩))
    refine ⟨by decide, by decide, fun D nD => ?_⟩
    refine lc_n (n := 6) (fun i G => Same H G ∧ G D = some (.lst (((addL ns ms t).take i).map V.int))) ⟨Same.new nD, upd_same⟩ (fun i G hi p => hi) (fun G p => Nat.le_refl _) (fun i G hi p x G' e => ?_) (fun G p => ?_)
    · obtain ⟨rfl, rfl⟩ := e
      obtain ⟨sG, hD⟩ := p
      have e0 : (0 : Int) + ((i : Nat) : Int) = ((i : Nat) : Int) := Int.zero_add _
      rw [e0]
      have n1 : ns[i]? = some (ns.getD i 0) := by
        rw [List.getD_eq_getElem?_getD, List.getElem?_eq_getElem (by omega)]
        rfl
      have m1 : ms[i]? = some (ms.getD i 0) := by
        rw [List.getD_eq_getElem?_getD, List.getElem?_eq_getElem (by omega)]
        rfl
      have vn : (ns.map V.int)[i]? = some (.int (ns.getD i 0)) := by rw [List.getElem?_map, n1]; rfl
      have vm : (ms.map V.int)[i]? = some (.int (ms.getD i 0)) := by rw [List.getElem?_map, m1]; rfl
      (repeat (first | refine ⟨_, rfl, ?_⟩ | refine ⟨_, _, rfl, rfl, ?_⟩ | refine ⟨_, _, rfl, ?_⟩ | refine ⟨rfl, ?_⟩))
      refine ⟨r, _, _, _, rfl, rfl, SqL.of (sG _ _ hr1), atI_nat vn, ?_⟩
      (repeat (first | refine ⟨_, rfl, ?_⟩ | refine ⟨_, _, rfl, rfl, ?_⟩ | refine ⟨_, _, rfl, ?_⟩ | refine ⟨rfl, ?_⟩))
      refine ⟨o, _, _, _, rfl, rfl, SqL.of (sG _ _ ho), atI_nat vm, ?_⟩
      (repeat (first | refine ⟨_, rfl, ?_⟩ | refine ⟨_, _, rfl, rfl, ?_⟩ | refine ⟨_, _, rfl, ?_⟩ | refine ⟨rfl, ?_⟩))
      refine ⟨.inr ⟨by omega, by omega⟩, ?_⟩
      (repeat (first | refine ⟨_, rfl, ?_⟩ | refine ⟨_, _, rfl, rfl, ?_⟩ | refine ⟨_, _, rfl, ?_⟩ | refine ⟨rfl, ?_⟩))
      have ha : (addL ns ms t)[i]? = some (ns.getD i 0 + ms.getD i 0 * t) := by
        unfold addL
        rw [List.getElem?_map, List.getElem?_range hi]
        rfl
      refine ⟨_, hD, lt_line (m := 100) ?_ (by decide), sG.mut nD, ?_⟩
      · rw [List.length_map, List.length_take]
        have : min i (addL ns ms t).length ≤ i := Nat.min_le_left _ _
        omega
      · rw [upd_same, take_snoc ha, List.map_append]
        rfl
    · obtain ⟨sG, hD⟩ := p
      rw [List.take_of_length_le (by unfold addL; simp)] at hD
      exact k D G sG nD hD
def spSixCorners : Sp := fun vs H Q _ => ∃ (r : Addr) (ns : List Int), vs = [.ref r] ∧ ns.length = 6 ∧ Il H r ns ∧ ∀ l H', Same H H' → H l = none → Ls H' placeV l (cornL ns) → Q (.ref l) H'
theorem ok_six_corners (F : GDef K "_law_six_corners" s__law_six_corners f fd) : FnOk P w K mg base CX0 1 f fd P__law_six_corners spSixCorners := by
  refine F.ok sc_law_six_corners (fun vs H Q E h => ?_) (fun cdv A outer s H vs Q E hr h => ?_)
  · obtain ⟨d, _, rfl, _⟩ := h; rfl
  · obtain ⟨r, ns, rfl, hn, hr1, k⟩ := h
    match ns, hn, hr1, k with
    | [a, b, c, d, e, g], _, hr1, k =>
    refine ⟨_, PSs.nox (pss_cons (ps_asg (pv 0) (pg_unl rfl (pgs_cons (pg_name (i := 1) sc_law_six_corners.nd rfl (Or.inl rfl)) (pgs_cons (pg_name (i := 2) sc_law_six_corners.nd rfl (Or.inl rfl)) (pgs_cons (pg_name (i := 3) sc_law_six_corners.nd rfl (Or.inl rfl)) (pgs_cons (pg_name (i := 4) sc_law_six_corners.nd rfl (Or.inl rfl)) (pgs_cons (pg_name (i := 5) sc_law_six_corners.nd rfl (Or.inl rfl)) (pgs_cons (pg_name (i := 6) sc_law_six_corners.nd rfl (Or.inl rfl)) pgs_nil))))))))
      (pss_cons (ps_set (i := 7) sc_law_six_corners.nd rfl (Or.inl rfl) (pe_lst (pa_cons (pe_tup (pa_cons (pv 6) (pa_cons (pe_op op_sub (pv 1) (pv 6)) pa_nil))) (pa_cons (pe_tup (pa_cons (pe_op op_sub (pv 1) (pv 2)) (pa_cons (pv 2) pa_nil))) (pa_cons (pe_tup (pa_cons (pe_un un_neg (pv 3)) (pa_cons (pv 2) pa_nil))) pa_nil)))))
      (pss_one (ps_ret (pe_op op_cat (pv 7) (pe_lst (pa_cons (pe_tup (pa_cons (pe_un un_neg (pv 3)) (pa_cons (pe_op op_sub (pv 3) (pv 4)) pa_nil))) (pa_cons (pe_tup (pa_cons (pe_op op_sub (pv 5) (pv 4)) (pa_cons (pe_un un_neg (pv 5)) pa_nil))) (pa_cons (pe_tup (pa_cons (pv 6) (pa_cons (pe_un un_neg (pv 5)) pa_nil))) pa_nil))))))))), ?_⟩
    (repeat (first | refine ⟨_, rfl, ?_⟩ | refine ⟨_, _, rfl, rfl, ?_⟩ | refine ⟨_, _, rfl, ?_⟩ | refine ⟨rfl, ?_⟩))
    refine ⟨r, _, rfl, SqL.of hr1, rfl, ?_⟩
    (((repeat (first | refine ⟨_, rfl, ?_⟩ | refine ⟨_, _, rfl, rfl, ?_⟩ | refine ⟨_, _, rfl, ?_⟩ | refine ⟨rfl, ?_⟩)); refine ⟨le_line (by simp), fun _ _ => ?_⟩)); (((repeat (first | refine ⟨_, rfl, ?_⟩ | refine ⟨_, _, rfl, rfl, ?_⟩ | refine ⟨_, _, rfl, ?_⟩ | refine ⟨rfl, ?_⟩)); refine ⟨le_line (by simp), fun _ _ => ?_⟩)); (((repeat (first | refine ⟨_, rfl, ?_⟩ | refine ⟨_, _, rfl, rfl, ?_⟩ | refine ⟨_, _, rfl, ?_⟩ | refine ⟨rfl, ?_⟩)); refine ⟨le_line (by simp), fun _ _ => ?_⟩)); (((repeat (first | refine ⟨_, rfl, ?_⟩ | refine ⟨_, _, rfl, rfl, ?_⟩ | refine ⟨_, _, rfl, ?_⟩ | refine ⟨rfl, ?_⟩)); refine ⟨le_line (by simp), fun _ _ => ?_⟩))
    rename_i p1 n1 p2 n2 p3 n3 l1 m1
    obtain ⟨s1, e1⟩ := three_ls (f := placeV) (a1 := (g, a - g)) (a2 := (a - b, b)) (a3 := (-c, b)) n1 n2 n3 m1
    (repeat (first | refine ⟨_, rfl, ?_⟩ | refine ⟨_, _, rfl, rfl, ?_⟩ | refine ⟨_, _, rfl, ?_⟩ | refine ⟨rfl, ?_⟩))
    have fin : ∀ G : Hp, Same H G → Ls G placeV l1 [(g, a - g), (a - b, b), (-c, b)] → ∀ {p4 p5 p6 l2 : Addr} (n4 : G p4 = none) (n5 : (upd G p4 (.tup (placeV (-c, c - d)))) p5 = none) (n6 : (upd (upd G p4 (.tup (placeV (-c, c - d)))) p5 (.tup (placeV (e - d, -e)))) p6 = none)
        (m2 : (upd (upd (upd G p4 (.tup (placeV (-c, c - d)))) p5 (.tup (placeV (e - d, -e)))) p6 (.tup (placeV (g, -e)))) l2 = none),
        rCat (.ref l1) (.ref l2) (upd (upd (upd (upd G p4 (.tup (placeV (-c, c - d)))) p5 (.tup (placeV (e - d, -e)))) p6 (.tup (placeV (g, -e)))) l2 (.lst [.ref p4, .ref p5, .ref p6])) Q := fun G sG hL p4 p5 p6 l2 n4 n5 n6 m2 => by
      obtain ⟨s2, e2⟩ := three_ls (f := placeV) (a1 := (-c, c - d)) (a2 := (e - d, -e)) (a3 := (g, -e)) n4 n5 n6 m2
      refine ls_cat (hL.mono s2) e2 (by simp) fun p H' s3 np hp => k p H' ((sG.trans s2).trans s3) ((sG.trans s2).none np) hp
    (((repeat (first | refine ⟨_, rfl, ?_⟩ | refine ⟨_, _, rfl, rfl, ?_⟩ | refine ⟨_, _, rfl, ?_⟩ | refine ⟨rfl, ?_⟩)); refine ⟨le_line (by simp), fun _ _ => ?_⟩)); (((repeat (first | refine ⟨_, rfl, ?_⟩ | refine ⟨_, _, rfl, rfl, ?_⟩ | refine ⟨_, _, rfl, ?_⟩ | refine ⟨rfl, ?_⟩)); refine ⟨le_line (by simp), fun _ _ => ?_⟩)); (((repeat (first | refine ⟨_, rfl, ?_⟩ | refine ⟨_, _, rfl, rfl, ?_⟩ | refine ⟨_, _, rfl, ?_⟩ | refine ⟨rfl, ?_⟩)); refine ⟨le_line (by simp), fun _ _ => ?_⟩)); (((repeat (first | refine ⟨_, rfl, ?_⟩ | refine ⟨_, _, rfl, rfl, ?_⟩ | refine ⟨_, _, rfl, ?_⟩ | refine ⟨rfl, ?_⟩)); refine ⟨le_line (by simp), fun _ _ => ?_⟩))
    rename_i p4 n4 p5 n5 p6 n6 l2 m2
    exact fin _ s1 e1 n4 n5 n6 m2
def spOpposite : Sp := fun vs H Q _ => ∃ c : Cell, vs = cellV c ∧ ∀ u H', Same H H' → Tp H' (cellV (opp c)) u → Q u H'
theorem ok_opposite (F : GDef K "_law_opposite" s__law_opposite f fd) : FnOk P w K mg base CX0 1 f fd P__law_opposite spOpposite := by
  refine F.ok sc_law_opposite (fun vs H Q E h => ?_) (fun cdv A outer s H vs Q E hr h => ?_)
  · obtain ⟨d, rfl, _⟩ := h; rfl
  · obtain ⟨⟨x, y, c⟩, rfl, k⟩ := h
    refine ⟨_, PSs.nox (pss_cons (ps_if (pt_cmpR op_eq (pv 2) pe_str (nomark _))
        (pss_one (ps_ret (pe_tup (pa_cons (pe_un un_neg (pv 0)) (pa_cons (pe_un un_neg (pv 1)) (pa_cons pe_str pa_nil))))))
        pss_nil)
      (pss_cons (ps_if (pt_cmpR op_eq (pv 2) pe_str (nomark _))
        (pss_one (ps_ret (pe_tup (pa_cons (pe_op op_sub (pe_un un_neg (pv 0)) pe_int) (pa_cons (pe_un un_neg (pv 1)) (pa_cons pe_str pa_nil))))))
        pss_nil)
      (pss_cons (ps_if (pt_cmpR op_eq (pv 2) pe_str (nomark _))
        (pss_one (ps_ret (pe_tup (pa_cons (pe_un un_neg (pv 0)) (pa_cons (pe_op op_sub (pe_un un_neg (pv 1)) pe_int) (pa_cons pe_str pa_nil))))))
        pss_nil)
      (pss_cons (ps_if (pt_cmpR op_eq (pv 2) pe_str (nomark _))
        (pss_one (ps_ret (pe_tup (pa_cons (pe_op op_add (pe_un un_neg (pv 0)) pe_int) (pa_cons (pe_op op_sub (pe_un un_neg (pv 1)) pe_int) (pa_cons pe_str pa_nil))))))
        pss_nil)
      (pss_cons (ps_if (pt_cmpR op_eq (pv 2) pe_str (nomark _))
        (pss_one (ps_ret (pe_tup (pa_cons (pe_un un_neg (pv 0)) (pa_cons (pe_op op_sub (pe_un un_neg (pv 1)) pe_int) (pa_cons pe_str pa_nil))))))
        pss_nil)
      (pss_one (ps_ret (pe_tup (pa_cons (pe_un un_neg (pv 0)) (pa_cons (pe_op op_sub (pe_un un_neg (pv 1)) pe_int) (pa_cons pe_str pa_nil))))))))))), ?_⟩
    have fin : ∀ (z : Cell) (p : Addr), z = opp (x, y, c) → H p = none → Q (.ref p) (upd H p (.tup (cellV z))) := fun z p e np => k _ _ (Same.new np) ⟨p, rfl, by rw [← e]; exact upd_same⟩
    cases c with
    | d => (((repeat (first | refine ⟨_, rfl, ?_⟩ | refine ⟨_, _, rfl, rfl, ?_⟩ | refine ⟨_, _, rfl, ?_⟩ | refine ⟨rfl, ?_⟩)); refine ⟨le_line (by simp), fun _ _ => ?_⟩)); rename_i p np; exact fin (-x, -y, .d) p (by simp [opp, opp0]) np
    | e => (((repeat (first | refine ⟨_, rfl, ?_⟩ | refine ⟨_, _, rfl, rfl, ?_⟩ | refine ⟨_, _, rfl, ?_⟩ | refine ⟨rfl, ?_⟩)); refine ⟨le_line (by simp), fun _ _ => ?_⟩)); rename_i p np; exact fin (-x - 1, -y, .e) p (by simp [opp, opp0]; omega) np
    | n => (((repeat (first | refine ⟨_, rfl, ?_⟩ | refine ⟨_, _, rfl, rfl, ?_⟩ | refine ⟨_, _, rfl, ?_⟩ | refine ⟨rfl, ?_⟩)); refine ⟨le_line (by simp), fun _ _ => ?_⟩)); rename_i p np; exact fin (-x, -y - 1, .n) p (by simp [opp, opp0]; omega) np
    | w => (((repeat (first | refine ⟨_, rfl, ?_⟩ | refine ⟨_, _, rfl, rfl, ?_⟩ | refine ⟨_, _, rfl, ?_⟩ | refine ⟨rfl, ?_⟩)); refine ⟨le_line (by simp), fun _ _ => ?_⟩)); rename_i p np; exact fin (-x + 1, -y - 1, .w) p (by simp [opp, opp0]; omega) np
    | u => (((repeat (first | refine ⟨_, rfl, ?_⟩ | refine ⟨_, _, rfl, rfl, ?_⟩ | refine ⟨_, _, rfl, ?_⟩ | refine ⟨rfl, ?_⟩)); refine ⟨le_line (by simp), fun _ _ => ?_⟩)); rename_i p np; exact fin (-x, -y - 1, .v) p (by simp [opp, opp0]; omega) np
    | v => (((repeat (first | refine ⟨_, rfl, ?_⟩ | refine ⟨_, _, rfl, rfl, ?_⟩ | refine ⟨_, _, rfl, ?_⟩ | refine ⟨rfl, ?_⟩)); refine ⟨le_line (by simp), fun _ _ => ?_⟩)); rename_i p np; exact fin (-x, -y - 1, .u) p (by simp [opp, opp0]; omega) np
def lclos0 : Kd → List Cell
  | .d => [(0, 0, .d)]
  | .e => [(0, 0, .e), (0, 0, .d), (1, 0, .d)]
  | .n => [(0, 0, .n), (0, 0, .d), (0, 1, .d)]
  | .w => [(0, 0, .w), (0, 0, .d), (-1, 1, .d)]
  | .u => [(0, 0, .u), (0, 0, .d), (0, 1, .d), (0, 0, .n), (1, 0, .d), (0, 0, .e), (1, 0, .w)]
  | .v => [(0, 0, .v), (0, 0, .d), (0, 1, .d), (0, 0, .n), (-1, 1, .d), (0, 0, .w), (-1, 1, .e)]
theorem lclos_perm (c : Kd) : (lclos0 c).Perm (clos0 c) := by cases c <;> decide
def spClosed : Sp := fun vs H Q _ => ∃ c : Cell, vs = cellV c ∧ ∀ l ys H', Same H H' → H l = none → Ls H' cellV l ys → ys.Perm (clos c) → Q (.ref l) H'
theorem ok_closed (F : GDef K "_law_closed" s__law_closed f fd) : FnOk P w K mg base CX0 1 f fd P__law_closed spClosed := by
  refine F.ok sc_law_closed (fun vs H Q E h => ?_) (fun cdv A outer s H vs Q E hr h => ?_)
  · obtain ⟨d, rfl, _⟩ := h; rfl
  · obtain ⟨⟨x, y, c⟩, rfl, k⟩ := h
    refine ⟨_, PSs.nox (pss_cons (ps_set (i := 3) sc_law_closed.nd rfl (Or.inl rfl) (pe_lst (pa_cons (pe_tup (pa_cons (pv 0) (pa_cons (pv 1) (pa_cons (pv 2) pa_nil)))) pa_nil)))
      (pss_cons (ps_if (pt_cmpR op_eq (pv 2) pe_str (nomark _))
        (pss_one (ps_ret (pv 3)))
        pss_nil)
      (pss_cons (ps_if (pt_cmpR op_eq (pv 2) pe_str (nomark _))
        (pss_one (ps_ret (pe_op op_cat (pv 3) (pe_lst (pa_cons (pe_tup (pa_cons (pv 0) (pa_cons (pv 1) (pa_cons pe_str pa_nil)))) (pa_cons (pe_tup (pa_cons (pe_op op_add (pv 0) pe_int) (pa_cons (pv 1) (pa_cons pe_str pa_nil)))) pa_nil))))))
        pss_nil)
      (pss_cons (ps_if (pt_cmpR op_eq (pv 2) pe_str (nomark _))
        (pss_one (ps_ret (pe_op op_cat (pv 3) (pe_lst (pa_cons (pe_tup (pa_cons (pv 0) (pa_cons (pv 1) (pa_cons pe_str pa_nil)))) (pa_cons (pe_tup (pa_cons (pv 0) (pa_cons (pe_op op_add (pv 1) pe_int) (pa_cons pe_str pa_nil)))) pa_nil))))))
        pss_nil)
      (pss_cons (ps_if (pt_cmpR op_eq (pv 2) pe_str (nomark _))
        (pss_one (ps_ret (pe_op op_cat (pv 3) (pe_lst (pa_cons (pe_tup (pa_cons (pv 0) (pa_cons (pv 1) (pa_cons pe_str pa_nil)))) (pa_cons (pe_tup (pa_cons (pe_op op_sub (pv 0) pe_int) (pa_cons (pe_op op_add (pv 1) pe_int) (pa_cons pe_str pa_nil)))) pa_nil))))))
        pss_nil)
      (pss_cons (ps_set (i := 3) sc_law_closed.nd rfl (Or.inl rfl) (pe_op op_cat (pv 3) (pe_lst (pa_cons (pe_tup (pa_cons (pv 0) (pa_cons (pv 1) (pa_cons pe_str pa_nil)))) (pa_cons (pe_tup (pa_cons (pv 0) (pa_cons (pe_op op_add (pv 1) pe_int) (pa_cons pe_str pa_nil)))) (pa_cons (pe_tup (pa_cons (pv 0) (pa_cons (pv 1) (pa_cons pe_str pa_nil)))) pa_nil))))))
      (pss_cons (ps_if (pt_cmpR op_eq (pv 2) pe_str (nomark _))
        (pss_one (ps_ret (pe_op op_cat (pv 3) (pe_lst (pa_cons (pe_tup (pa_cons (pe_op op_add (pv 0) pe_int) (pa_cons (pv 1) (pa_cons pe_str pa_nil)))) (pa_cons (pe_tup (pa_cons (pv 0) (pa_cons (pv 1) (pa_cons pe_str pa_nil)))) (pa_cons (pe_tup (pa_cons (pe_op op_add (pv 0) pe_int) (pa_cons (pv 1) (pa_cons pe_str pa_nil)))) pa_nil)))))))
        pss_nil)
      (pss_one (ps_ret (pe_op op_cat (pv 3) (pe_lst (pa_cons (pe_tup (pa_cons (pe_op op_sub (pv 0) pe_int) (pa_cons (pe_op op_add (pv 1) pe_int) (pa_cons pe_str pa_nil)))) (pa_cons (pe_tup (pa_cons (pv 0) (pa_cons (pv 1) (pa_cons pe_str pa_nil)))) (pa_cons (pe_tup (pa_cons (pe_op op_sub (pv 0) pe_int) (pa_cons (pe_op op_add (pv 1) pe_int) (pa_cons pe_str pa_nil)))) pa_nil)))))))))))))), ?_⟩
    have fin : ∀ (l : Addr) (ys : List Cell) (H' : Hp), Same H H' → H l = none → Ls H' cellV l ys → ys = (lclos0 c).map (shiftC x y) → Q (.ref l) H' := fun l ys H' s n h e => k l ys H' s n h (by rw [e]; exact (lclos_perm c).map _)
    (((repeat (first | refine ⟨_, rfl, ?_⟩ | refine ⟨_, _, rfl, rfl, ?_⟩ | refine ⟨_, _, rfl, ?_⟩ | refine ⟨rfl, ?_⟩)); refine ⟨le_line (by simp), fun _ _ => ?_⟩)); (((repeat (first | refine ⟨_, rfl, ?_⟩ | refine ⟨_, _, rfl, rfl, ?_⟩ | refine ⟨_, _, rfl, ?_⟩ | refine ⟨rfl, ?_⟩)); refine ⟨le_line (by simp), fun _ _ => ?_⟩))
    rename_i p1 n1 l1 m1
    obtain ⟨s1, e1⟩ := one_ls (f := cellV) (a1 := (x, y, c)) n1 m1
    cases c with
    | d =>
      (repeat (first | refine ⟨_, rfl, ?_⟩ | refine ⟨_, _, rfl, rfl, ?_⟩ | refine ⟨_, _, rfl, ?_⟩ | refine ⟨rfl, ?_⟩))
      exact fin l1 _ _ s1 (none_of_upd m1) e1 (by simp [lclos0, shiftC])
    | e =>
      (((repeat (first | refine ⟨_, rfl, ?_⟩ | refine ⟨_, _, rfl, rfl, ?_⟩ | refine ⟨_, _, rfl, ?_⟩ | refine ⟨rfl, ?_⟩)); refine ⟨le_line (by simp), fun _ _ => ?_⟩)); (((repeat (first | refine ⟨_, rfl, ?_⟩ | refine ⟨_, _, rfl, rfl, ?_⟩ | refine ⟨_, _, rfl, ?_⟩ | refine ⟨rfl, ?_⟩)); refine ⟨le_line (by simp), fun _ _ => ?_⟩)); (((repeat (first | refine ⟨_, rfl, ?_⟩ | refine ⟨_, _, rfl, rfl, ?_⟩ | refine ⟨_, _, rfl, ?_⟩ | refine ⟨rfl, ?_⟩)); refine ⟨le_line (by simp), fun _ _ => ?_⟩))
      rename_i p4 n4 p5 n5 l2 m2
      have n4 := n4
      obtain ⟨s2, e2⟩ := two_ls (f := cellV) (a1 := (x, y, .d)) (a2 := (x + 1, y, .d)) n4 n5 m2
      exact ls_cat (e1.mono s2) e2 (by simp) fun p H' s3 np hl => fin _ _ _ ((s1.trans s2).trans s3) ((s1.trans s2).none np) hl (by simp [lclos0, shiftC, Int.sub_eq_add_neg])
    | n =>
      (((repeat (first | refine ⟨_, rfl, ?_⟩ | refine ⟨_, _, rfl, rfl, ?_⟩ | refine ⟨_, _, rfl, ?_⟩ | refine ⟨rfl, ?_⟩)); refine ⟨le_line (by simp), fun _ _ => ?_⟩)); (((repeat (first | refine ⟨_, rfl, ?_⟩ | refine ⟨_, _, rfl, rfl, ?_⟩ | refine ⟨_, _, rfl, ?_⟩ | refine ⟨rfl, ?_⟩)); refine ⟨le_line (by simp), fun _ _ => ?_⟩)); (((repeat (first | refine ⟨_, rfl, ?_⟩ | refine ⟨_, _, rfl, rfl, ?_⟩ | refine ⟨_, _, rfl, ?_⟩ | refine ⟨rfl, ?_⟩)); refine ⟨le_line (by simp), fun _ _ => ?_⟩))
      rename_i p4 n4 p5 n5 l2 m2
      have n4 := n4
      obtain ⟨s2, e2⟩ := two_ls (f := cellV) (a1 := (x, y, .d)) (a2 := (x, y + 1, .d)) n4 n5 m2
      exact ls_cat (e1.mono s2) e2 (by simp) fun p H' s3 np hl => fin _ _ _ ((s1.trans s2).trans s3) ((s1.trans s2).none np) hl (by simp [lclos0, shiftC, Int.sub_eq_add_neg])
    | w =>
      (((repeat (first | refine ⟨_, rfl, ?_⟩ | refine ⟨_, _, rfl, rfl, ?_⟩ | refine ⟨_, _, rfl, ?_⟩ | refine ⟨rfl, ?_⟩)); refine ⟨le_line (by simp), fun _ _ => ?_⟩)); (((repeat (first | refine ⟨_, rfl, ?_⟩ | refine ⟨_, _, rfl, rfl, ?_⟩ | refine ⟨_, _, rfl, ?_⟩ | refine ⟨rfl, ?_⟩)); refine ⟨le_line (by simp), fun _ _ => ?_⟩)); (((repeat (first | refine ⟨_, rfl, ?_⟩ | refine ⟨_, _, rfl, rfl, ?_⟩ | refine ⟨_, _, rfl, ?_⟩ | refine ⟨rfl, ?_⟩)); refine ⟨le_line (by simp), fun _ _ => ?_⟩))
      rename_i p4 n4 p5 n5 l2 m2
      have n4 := n4
      obtain ⟨s2, e2⟩ := two_ls (f := cellV) (a1 := (x, y, .d)) (a2 := (x - 1, y + 1, .d)) n4 n5 m2
      exact ls_cat (e1.mono s2) e2 (by simp) fun p H' s3 np hl => fin _ _ _ ((s1.trans s2).trans s3) ((s1.trans s2).none np) hl (by simp [lclos0, shiftC, Int.sub_eq_add_neg])
    | u =>
      (((repeat (first | refine ⟨_, rfl, ?_⟩ | refine ⟨_, _, rfl, rfl, ?_⟩ | refine ⟨_, _, rfl, ?_⟩ | refine ⟨rfl, ?_⟩)); refine ⟨le_line (by simp), fun _ _ => ?_⟩)); (((repeat (first | refine ⟨_, rfl, ?_⟩ | refine ⟨_, _, rfl, rfl, ?_⟩ | refine ⟨_, _, rfl, ?_⟩ | refine ⟨rfl, ?_⟩)); refine ⟨le_line (by simp), fun _ _ => ?_⟩)); (((repeat (first | refine ⟨_, rfl, ?_⟩ | refine ⟨_, _, rfl, rfl, ?_⟩ | refine ⟨_, _, rfl, ?_⟩ | refine ⟨rfl, ?_⟩)); refine ⟨le_line (by simp), fun _ _ => ?_⟩)); (((repeat (first | refine ⟨_, rfl, ?_⟩ | refine ⟨_, _, rfl, rfl, ?_⟩ | refine ⟨_, _, rfl, ?_⟩ | refine ⟨rfl, ?_⟩)); refine ⟨le_line (by simp), fun _ _ => ?_⟩))
      rename_i p4 n4 p5 n5 p6 n6 l2 m2
      obtain ⟨s2, e2⟩ := three_ls (f := cellV) (a1 := (x, y, .d)) (a2 := (x, y + 1, .d)) (a3 := (x, y, .n)) n4 n5 n6 m2
      refine ls_cat (e1.mono s2) e2 (by simp) fun l3 G3 s3 nl3 h3 => ?_
      have s13 := (s1.trans s2).trans s3
      (((repeat (first | refine ⟨_, rfl, ?_⟩ | refine ⟨_, _, rfl, rfl, ?_⟩ | refine ⟨_, _, rfl, ?_⟩ | refine ⟨rfl, ?_⟩)); refine ⟨le_line (by simp), fun _ _ => ?_⟩)); (((repeat (first | refine ⟨_, rfl, ?_⟩ | refine ⟨_, _, rfl, rfl, ?_⟩ | refine ⟨_, _, rfl, ?_⟩ | refine ⟨rfl, ?_⟩)); refine ⟨le_line (by simp), fun _ _ => ?_⟩)); (((repeat (first | refine ⟨_, rfl, ?_⟩ | refine ⟨_, _, rfl, rfl, ?_⟩ | refine ⟨_, _, rfl, ?_⟩ | refine ⟨rfl, ?_⟩)); refine ⟨le_line (by simp), fun _ _ => ?_⟩)); (((repeat (first | refine ⟨_, rfl, ?_⟩ | refine ⟨_, _, rfl, rfl, ?_⟩ | refine ⟨_, _, rfl, ?_⟩ | refine ⟨rfl, ?_⟩)); refine ⟨le_line (by simp), fun _ _ => ?_⟩))
      rename_i p4 n4 p5 n5 p6 n6 l2 m2
      obtain ⟨s4, e4⟩ := three_ls (f := cellV) (a1 := (x + 1, y, .d)) (a2 := (x, y, .e)) (a3 := (x + 1, y, .w)) n4 n5 n6 m2
      exact ls_cat (h3.mono s4) e4 (by simp) fun p H' s5 np hl => fin _ _ _ ((s13.trans s4).trans s5) ((s13.trans s4).none np) hl (by simp [lclos0, shiftC, Int.sub_eq_add_neg])
    | v =>
      (((repeat (first | refine ⟨_, rfl, ?_⟩ | refine ⟨_, _, rfl, rfl, ?_⟩ | refine ⟨_, _, rfl, ?_⟩ | refine ⟨rfl, ?_⟩)); refine ⟨le_line (by simp), fun _ _ => ?_⟩)); (((repeat (first | refine ⟨_, rfl, ?_⟩ | refine ⟨_, _, rfl, rfl, ?_⟩ | refine ⟨_, _, rfl, ?_⟩ | refine ⟨rfl, ?_⟩)); refine ⟨le_line (by simp), fun _ _ => ?_⟩)); (((repeat (first | refine ⟨_, rfl, ?_⟩ | refine ⟨_, _, rfl, rfl, ?_⟩ | refine ⟨_, _, rfl, ?_⟩ | refine ⟨rfl, ?_⟩)); refine ⟨le_line (by simp), fun _ _ => ?_⟩)); (((repeat (first | refine ⟨_, rfl, ?_⟩ | refine ⟨_, _, rfl, rfl, ?_⟩ | refine ⟨_, _, rfl, ?_⟩ | refine ⟨rfl, ?_⟩)); refine ⟨le_line (by simp), fun _ _ => ?_⟩))
      rename_i p4 n4 p5 n5 p6 n6 l2 m2
      obtain ⟨s2, e2⟩ := three_ls (f := cellV) (a1 := (x, y, .d)) (a2 := (x, y + 1, .d)) (a3 := (x, y, .n)) n4 n5 n6 m2
      refine ls_cat (e1.mono s2) e2 (by simp) fun l3 G3 s3 nl3 h3 => ?_
      have s13 := (s1.trans s2).trans s3
      (((repeat (first | refine ⟨_, rfl, ?_⟩ | refine ⟨_, _, rfl, rfl, ?_⟩ | refine ⟨_, _, rfl, ?_⟩ | refine ⟨rfl, ?_⟩)); refine ⟨le_line (by simp), fun _ _ => ?_⟩)); (((repeat (first | refine ⟨_, rfl, ?_⟩ | refine ⟨_, _, rfl, rfl, ?_⟩ | refine ⟨_, _, rfl, ?_⟩ | refine ⟨rfl, ?_⟩)); refine ⟨le_line (by simp), fun _ _ => ?_⟩)); (((repeat (first | refine ⟨_, rfl, ?_⟩ | refine ⟨_, _, rfl, rfl, ?_⟩ | refine ⟨_, _, rfl, ?_⟩ | refine ⟨rfl, ?_⟩)); refine ⟨le_line (by simp), fun _ _ => ?_⟩)); (((repeat (first | refine ⟨_, rfl, ?_⟩ | refine ⟨_, _, rfl, rfl, ?_⟩ | refine ⟨_, _, rfl, ?_⟩ | refine ⟨rfl, ?_⟩)); refine ⟨le_line (by simp), fun _ _ => ?_⟩))
      rename_i p4 n4 p5 n5 p6 n6 l2 m2
      obtain ⟨s4, e4⟩ := three_ls (f := cellV) (a1 := (x - 1, y + 1, .d)) (a2 := (x, y, .w)) (a3 := (x - 1, y + 1, .e)) n4 n5 n6 m2
      exact ls_cat (h3.mono s4) e4 (by simp) fun p H' s5 np hl => fin _ _ _ ((s13.trans s4).trans s5) ((s13.trans s4).none np) hl (by simp [lclos0, shiftC, Int.sub_eq_add_neg])
def spMoved : Sp := fun vs H Q _ => ∃ (l : Addr) (L : List Row) (dx dy t : Int), vs = [.ref l, .int dx, .int dy, .int t] ∧ L.length ≤ 1000000 ∧ -100 ≤ t ∧ t ≤ 100 ∧ Ls H rowV l L ∧ ∀ o H', Same H H' → H o = none → Ls H' rowV o (movL L dx dy t) → Q (.ref o) H'
theorem ok_moved (F : GDef K "_law_moved" s__law_moved f fd) : FnOk P w K mg base CX0 1 f fd P__law_moved spMoved := by
  refine F.ok sc_law_moved (fun vs H Q E h => ?_) (fun cdv A outer s H vs Q E hr h => ?_)
  · obtain ⟨d, _, _, _, _, rfl, _⟩ := h; rfl
  · obtain ⟨l, L, dx, dy, t, rfl, hz, t1, t2, ⟨vs, hl, hT⟩, k⟩ := h
    have hlen : vs.length = L.length := hT.length
    refine ⟨_, PSs.nox (pss_cons (ps_set (i := 4) sc_law_moved.nd rfl (Or.inl rfl) (pe_lst pa_nil))
      (pss_cons (ps_for PassesOwn.never rfl (pi_list (pv 0)) (pg_tup rfl (pgs_cons (pg_name (i := 5) sc_law_moved.nd rfl (Or.inl rfl)) (pgs_cons (pg_name (i := 6) sc_law_moved.nd rfl (Or.inl rfl)) (pgs_cons (pg_name (i := 7) sc_law_moved.nd rfl (Or.inl rfl)) (pgs_cons (pg_name (i := 8) sc_law_moved.nd rfl (Or.inl rfl)) pgs_nil)))))
        (pss_one (ps_expr (pe_bm PySem.F.plainAttrs_list PySem.F.slot_list_append PySem.F.type_list_append mt_append (pv 4) (pa_cons (pe_tup (pa_cons (pe_op op_add (pv 5) (pv 1)) (pa_cons (pe_op op_add (pv 6) (pv 2)) (pa_cons (pv 7) (pa_cons (pe_op op_mul (pv 8) (pv 3)) pa_nil))))) pa_nil)))))
      (pss_one (ps_ret (pv 4))))), ?_⟩
    (repeat (first | refine ⟨_, rfl, ?_⟩ | refine ⟨_, _, rfl, rfl, ?_⟩ | refine ⟨_, _, rfl, ?_⟩ | refine ⟨rfl, ?_⟩))
    refine ⟨le_line (by simp), fun D nD => ?_⟩
    have s0 : Same H (upd H D (.lst [])) := Same.new nD
    (repeat (first | refine ⟨_, rfl, ?_⟩ | refine ⟨_, _, rfl, rfl, ?_⟩ | refine ⟨_, _, rfl, ?_⟩ | refine ⟨rfl, ?_⟩))
    refine ⟨⟨vs, SqL.of (s0 _ _ hl)⟩, ?_⟩
    refine for_list (xs := vs) (fun i σ G => (∃ a5 a6 a7 a8, σ = [some (.ref l), some (.int dx), some (.int dy), some (.int t), some (.ref D), a5, a6, a7, a8]) ∧ Same H G ∧ Ls G rowV D ((movL L dx dy t).take i))
      ⟨⟨_, _, _, _, rfl⟩, s0, [], upd_same, .nil⟩ (fun i σ G _ p => SqL.of (p.2.1 _ _ hl)) (fun i v σ G hv p => ?_) (fun σ G p => ?_)
    · obtain ⟨⟨a5, a6, a7, a8, rfl⟩, sG, acc, hD, hA⟩ := p
      obtain ⟨r, hr1, tv⟩ := hT.get hv
      obtain ⟨a, rfl, ha⟩ := tv.mono sG
      refine ⟨a, rowV r, rfl, .inl (.inl ha), rfl, ?_⟩
      (repeat (first | refine ⟨_, rfl, ?_⟩ | refine ⟨_, _, rfl, rfl, ?_⟩ | refine ⟨_, _, rfl, ?_⟩ | refine ⟨rfl, ?_⟩))
      refine ⟨ty_lst hD, ?_⟩
      (repeat (first | refine ⟨_, rfl, ?_⟩ | refine ⟨_, _, rfl, rfl, ?_⟩ | refine ⟨_, _, rfl, ?_⟩ | refine ⟨rfl, ?_⟩))
      refine ⟨.inr ⟨by omega, by omega⟩, ?_⟩
      (repeat (first | refine ⟨_, rfl, ?_⟩ | refine ⟨_, _, rfl, rfl, ?_⟩ | refine ⟨_, _, rfl, ?_⟩ | refine ⟨rfl, ?_⟩))
      refine ⟨le_line (by simp), fun p np => ?_⟩
      have sp := Same.new (o := .tup (rowV ((r.1.1 + dx, r.1.2.1 + dy, r.1.2.2), r.2 * t))) np
      have hD2 := sp _ _ hD
      have hm : (movL L dx dy t)[i]? = some ((r.1.1 + dx, r.1.2.1 + dy, r.1.2.2), r.2 * t) := by
        unfold movL
        rw [List.getElem?_map, hr1]
        rfl
      refine ⟨D, acc, _, rfl, rfl, hD2, ?_, ⟨_, _, _, _, rfl⟩, (sG.trans sp).mut nD, ?_⟩
      · have h1 := hA.length
        rw [List.length_take] at h1
        have h2 : (movL L dx dy t).length = L.length := List.length_map _
        have h3 : min i (movL L dx dy t).length ≤ (movL L dx dy t).length := Nat.min_le_right _ _
        exact lt_line (m := 1000001) (by omega) (by decide)
      · rw [take_snoc hm]
        exact Ls.push hD2 (hA.mono sp) ⟨p, rfl, upd_same⟩
    · obtain ⟨⟨a5, a6, a7, a8, rfl⟩, sG, hA⟩ := p
      rw [List.take_of_length_le (by unfold movL; rw [List.length_map]; omega)] at hA
      (repeat (first | refine ⟨_, rfl, ?_⟩ | refine ⟨_, _, rfl, rfl, ?_⟩ | refine ⟨_, _, rfl, ?_⟩ | refine ⟨rfl, ?_⟩))
      exact k D G sG nD hA
end
end SV
end

section
set_option Elab.async false
set_option linter.all false
set_option maxRecDepth 100000
set_option maxHeartbeats 4000000
/-! The law's counter, tufts, filled pens. -/
namespace SV
open PySem PySem.Spec PyProof.Rows L2
section
variable {P : Program} {w : World} {K : PySem.W.Frag} {mg : Str → Option Value} {base : Heap} {f : Addr} {fd : FuncData} {cTu cSp cVi cSh : Addr}
/- _law_counter -/
abbrev N__law_counter : List Str := ["_law_rows", "_law_inks", "_law_x", "_law_y", "_law_kind", "_law_ink", "_law_sign", "_law_at", "_law_cell"]
abbrev P__law_counter : List Str := ["_law_rows"]
theorem sc_law_counter : FnScope N__law_counter P__law_counter (defScope s__law_counter) := ⟨rfl, rfl, rfl, by decide +kernel, rfl, by decide +kernel, by decide +kernel⟩
/- _law_tuft -/
abbrev N__law_tuft : List Str := ["_law_view", "_law_x", "_law_y", "_law_ink", "_law_rows", "_law_kind", "_law_high"]
abbrev P__law_tuft : List Str := ["_law_view", "_law_x", "_law_y", "_law_ink"]
theorem sc_law_tuft : FnScope N__law_tuft P__law_tuft (defScope s__law_tuft) := ⟨rfl, rfl, rfl, by decide +kernel, rfl, by decide +kernel, by decide +kernel⟩
/- _law_filled -/
abbrev N__law_filled : List Str := ["_law_reaches", "_law_dots", "_law_x", "_law_y", "_law_rows"]
abbrev P__law_filled : List Str := ["_law_reaches"]
theorem sc_law_filled : FnScope N__law_filled P__law_filled (defScope s__law_filled) := ⟨rfl, rfl, rfl, by decide +kernel, rfl, by decide +kernel, by decide +kernel⟩
def spLCounter : Sp := fun vs H Q _ => ∃ (l : Addr) (L : List Row), vs = [.ref l] ∧ L.length ≤ 100000 ∧ Ls H rowV l L ∧ ∀ o s H', Same H H' → H o = none → Ls H' rowV o s → Canon (ctrL L) s → Q (.ref o) H'
theorem ok_lcounter (T : Txt K w mg) (F : GDef K "_law_counter" s__law_counter f fd) (c__law_opposite : Cal P w K mg base CX0 "_law_opposite" P__law_opposite 1 spOpposite) (c__law_closed : Cal P w K mg base CX0 "_law_closed" P__law_closed 1 spClosed) : FnOk P w K mg base CX0 2 f fd P__law_counter spLCounter := by
  refine F.ok sc_law_counter (fun vs H Q E h => ?_) (fun cdv A outer s H vs Q E hr h => ?_)
  · obtain ⟨d, _, rfl, _⟩ := h; rfl
  · obtain ⟨l, L, rfl, hz, ⟨vs, hl, hT⟩, k⟩ := h
    have hu16 := hu16_of hr
    have hu := hu1_of hr
    have hlen : vs.length = L.length := hT.length
    refine ⟨_, PSs.nox (pss_cons (ps_set (i := 1) sc_law_counter.nd rfl (Or.inr rfl) pe_dnewT)
      (pss_cons (ps_for PassesOwn.never rfl (pi_list (pv 0)) (pg_tup rfl (pgs_cons (pg_name (i := 2) sc_law_counter.nd rfl (Or.inl rfl)) (pgs_cons (pg_name (i := 3) sc_law_counter.nd rfl (Or.inl rfl)) (pgs_cons (pg_name (i := 4) sc_law_counter.nd rfl (Or.inl rfl)) (pgs_cons (pg_name (i := 5) sc_law_counter.nd rfl (Or.inl rfl)) pgs_nil)))))
        (pss_cons (ps_set (i := 6) sc_law_counter.nd rfl (Or.inl rfl) (pv 5))
        (pss_cons (ps_if (pt_cmpR op_in_seq (pv 4) (pe_tup (pa_cons pe_str (pa_cons pe_str (pa_cons pe_str pa_nil)))) (by rfl))
          (pss_one (ps_set (i := 6) sc_law_counter.nd rfl (Or.inl rfl) (pe_un un_neg (pv 5))))
          pss_nil)
        (pss_cons (ps_set (i := 7) sc_law_counter.nd rfl (Or.inl rfl) (pe_cal c__law_opposite (hr.mono (by decide)) rfl (pa_cons (pv 2) (pa_cons (pv 3) (pa_cons (pv 4) pa_nil)))))
        (pss_one (ps_for PassesOwn.never rfl (pi_list (pe_cal c__law_closed (hr.mono (by decide)) rfl (pa_cons (pe_ix ix_tup (pv 7) pe_int (fun _ _ => rfl)) (pa_cons (pe_ix ix_tup (pv 7) pe_int (fun _ _ => rfl)) (pa_cons (pe_ix ix_tup (pv 7) pe_int (fun _ _ => rfl)) pa_nil))))) (pg_name (i := 8) sc_law_counter.nd rfl (Or.inl rfl))
          (pss_one (ps_dput hu (pv 1) (pv 8) (pe_op op_add (pe_dget2 hu (pv 1) (pv 8) pe_int ⟨rfl, rfl, rfl, rfl⟩) (pv 6)) rfl))))))))
      (pss_one (ps_ret (pe_callB (cr_sortedD hu16) (by rfl) T.z_sorted (by decide +kernel) (pa_cons (pe_lock (pe_lc (own := [("_law_cell", 8)]) (g := gName 8) rfl sc_law_counter.nd (pi_keys (pv 1)) (blkOk_by (N := N__law_counter) (sc := defScope s__law_counter) (own := [("_law_cell", 8)]) (by decide +kernel)) (fun _ _ _ _ _ => (pg_name (i := 8) sc_law_counter.nd rfl (Or.inl rfl))) (fun _ _ _ _ _ => pts_one (pt_cmpR op_ne (pe_dget hu (pv 1) (pv 8) (fun _ _ => rfl)) pe_int (nomark _))) (fun _ _ _ _ _ => (pe_op (r := rCatA K) op_catA (pv 8) (pe_tup (pa_cons (pe_dget hu (pv 1) (pv 8) (fun _ _ => rfl)) pa_nil)))))) pa_nil)))))), ?_⟩
    (repeat (first | refine ⟨_, rfl, ?_⟩ | refine ⟨_, _, rfl, rfl, ?_⟩ | refine ⟨_, _, rfl, ?_⟩ | refine ⟨rfl, ?_⟩))
    intro D nD
    have s0 : Same H (upd H D (.dT [])) := Same.new nD
    (repeat (first | refine ⟨_, rfl, ?_⟩ | refine ⟨_, _, rfl, rfl, ?_⟩ | refine ⟨_, _, rfl, ?_⟩ | refine ⟨rfl, ?_⟩))
    refine ⟨⟨vs, SqL.of (s0 _ _ hl)⟩, ?_⟩
    refine for_list (xs := vs) (fun i σ G => (∃ a2 a3 a4 a5 a6 a7 a8, σ = [some (.ref l), some (.ref D), a2, a3, a4, a5, a6, a7, a8]) ∧ Same H G ∧ ∃ M : List Row, M.Perm (ctrL (L.take i)) ∧ G D = some (.dT (DtK cellK (tally M))))
      ⟨⟨_, _, _, _, _, _, _, rfl⟩, s0, [], List.Perm.refl _, upd_same⟩ (fun i σ G _ p => SqL.of (p.2.1 _ _ hl)) (fun i v σ G hv p => ?_) (fun σ G p => ?_)
    · obtain ⟨⟨a2, a3, a4, a5, a6, a7, a8, rfl⟩, sG, M, hM, hD⟩ := p
      obtain ⟨r, hr1, tv⟩ := hT.get hv
      obtain ⟨a, rfl, ha⟩ := tv.mono sG
      have hi : i < L.length := (List.getElem?_eq_some_iff.mp hr1).1
      have lM : M.length ≤ i * 7 := by
        rw [hM.length_eq]
        have := flat_len (L.take i) ctrR 7 fun r _ => ctrR_len r
        rw [List.length_take, Nat.min_eq_left (by omega)] at this
        exact this
      refine ⟨a, rowV r, rfl, .inl (.inl ha), rfl, ?_⟩
      (repeat (first | refine ⟨_, rfl, ?_⟩ | refine ⟨_, _, rfl, rfl, ?_⟩ | refine ⟨_, _, rfl, ?_⟩ | refine ⟨rfl, ?_⟩))
      refine ⟨le_line (by simp), fun p np => ?_⟩
      have sp := Same.new (o := .tup [.str "e", .str "n", .str "w"]) np
      refine ⟨p, _, rfl, .inr (.inl (.inl upd_same)), rfl, rfl, ?_⟩
      (repeat (first | refine ⟨_, rfl, ?_⟩ | refine ⟨_, _, rfl, rfl, ?_⟩ | refine ⟨_, _, rfl, ?_⟩ | refine ⟨rfl, ?_⟩))
      refine sign_step (σ := [some (.ref l), some (.ref D), some (.int r.1.1), some (.int r.1.2.1), some (.str (kS r.1.2.2)), some (.int r.2), some (.int r.2), a7, a8]) (k := r.1.2.2) (ink := r.2) 5 6 (kS_enw _) rfl rfl ?_
      (repeat (first | refine ⟨_, rfl, ?_⟩ | refine ⟨_, _, rfl, rfl, ?_⟩ | refine ⟨_, _, rfl, ?_⟩ | refine ⟨rfl, ?_⟩))
      intro u G2 s2 hu2
      obtain ⟨c, rfl, hc⟩ := hu2
      (repeat (first | refine ⟨_, rfl, ?_⟩ | refine ⟨_, _, rfl, rfl, ?_⟩ | refine ⟨_, _, rfl, ?_⟩ | refine ⟨rfl, ?_⟩))
      refine ⟨c, _, 0, _, rfl, rfl, .inl (.inl hc), rfl, ?_⟩
      (repeat (first | refine ⟨_, rfl, ?_⟩ | refine ⟨_, _, rfl, rfl, ?_⟩ | refine ⟨_, _, rfl, ?_⟩ | refine ⟨rfl, ?_⟩))
      refine ⟨c, _, 1, _, rfl, rfl, .inl (.inl hc), rfl, ?_⟩
      (repeat (first | refine ⟨_, rfl, ?_⟩ | refine ⟨_, _, rfl, rfl, ?_⟩ | refine ⟨_, _, rfl, ?_⟩ | refine ⟨rfl, ?_⟩))
      refine ⟨c, _, 2, _, rfl, rfl, .inl (.inl hc), rfl, ?_⟩
      (repeat (first | refine ⟨_, rfl, ?_⟩ | refine ⟨_, _, rfl, rfl, ?_⟩ | refine ⟨_, _, rfl, ?_⟩ | refine ⟨rfl, ?_⟩))
      intro l2 ys G3 s3 nl2 hl2 hp2
      obtain ⟨us, hu1, huT⟩ := hl2
      have s13 := sp.trans (s2.trans s3)
      have hD3 := s13 _ _ hD
      have nlD : l2 ≠ D := by
        rintro rfl
        rw [s2 _ _ (sp _ _ hD)] at nl2
        cases nl2
      refine ⟨l2, rfl, ⟨us, SqL.of hu1⟩, ?_⟩
      have lus : us.length = ys.length := huT.length
      have lys : ys.length ≤ 7 := by rw [hp2.length_eq]; exact clos_len _
      refine for_list (xs := us) (fun j σ G => (∃ a8, σ = [some (.ref l), some (.ref D), some (.int r.1.1), some (.int r.1.2.1), some (.str (kS r.1.2.2)), some (.int r.2), some (.int (r.2 * sgn r.1.2.2)), some (.ref c), a8]) ∧ Same H G ∧ (G l2 = some (.lst us) ∧ Tps G cellV us ys) ∧ G D = some (.dT (DtK cellK (tally (M ++ (ys.take j).map fun c => (c, r.2 * sgn r.1.2.2))))))
        ⟨⟨_, rfl⟩, sG.trans s13, ⟨hu1, huT⟩, by simpa using hD3⟩ (fun j σ G _ p => SqL.of p.2.2.1.1) (fun j x σ G hx p => ?_) (fun σ G p => ?_)
      · obtain ⟨⟨a8, rfl⟩, s4, ⟨hl4, hT4⟩, hD4⟩ := p
        obtain ⟨z, hz1, b, rfl, hb⟩ := hT4.get hx
        (repeat (first | refine ⟨_, rfl, ?_⟩ | refine ⟨_, _, rfl, rfl, ?_⟩ | refine ⟨_, _, rfl, ?_⟩ | refine ⟨rfl, ?_⟩))
        refine ⟨isD_t hD4, ?_⟩
        (repeat (first | refine ⟨_, rfl, ?_⟩ | refine ⟨_, _, rfl, rfl, ?_⟩ | refine ⟨_, _, rfl, ?_⟩ | refine ⟨rfl, ?_⟩))
        refine ⟨_, dget_coef ko_cell hD4 hb, ?_⟩
        rw [dt_get ko_cell (nodup_tally _)]
        (repeat (first | refine ⟨_, rfl, ?_⟩ | refine ⟨_, _, rfl, rfl, ?_⟩ | refine ⟨_, _, rfl, ?_⟩ | refine ⟨rfl, ?_⟩))
        have lt := length_tally (M ++ (ys.take j).map fun c => (c, r.2 * sgn r.1.2.2))
        rw [List.length_append, List.length_map, List.length_take] at lt
        have : min j ys.length ≤ ys.length := Nat.min_le_right _ _
        refine ⟨D, _, rfl, dput_bump ko_cell (nodup_tally _) hD4 hb (by omega), ⟨_, rfl⟩, s4.mut nD, ⟨?_, ?_⟩, ?_⟩
        · rw [upd_ne nlD]
          exact hl4
        · exact hT4.monoT (SameT.dT hD4)
        · rw [upd_same, take_snoc hz1, List.map_append, ← List.append_assoc]
          rw [show M ++ (ys.take j).map (fun c => (c, r.2 * sgn r.1.2.2)) ++ [z].map (fun c => (c, r.2 * sgn r.1.2.2)) = (M ++ (ys.take j).map fun c => (c, r.2 * sgn r.1.2.2)) ++ [(z, r.2 * sgn r.1.2.2)] from rfl, tally_one]
      · obtain ⟨⟨a8, rfl⟩, s4, _, hD4⟩ := p
        rw [List.take_of_length_le (by omega)] at hD4
        refine ⟨⟨_, _, _, _, _, _, _, rfl⟩, s4, _, ?_, hD4⟩
        have e1 : ctrL (L.take (i + 1)) = ctrL (L.take i) ++ ctrR r := flat_snoc ctrR hr1
        rw [e1]
        exact hM.append (hp2.map _)
    · obtain ⟨⟨a2, a3, a4, a5, a6, a7, a8, rfl⟩, sG, M, hM, hD⟩ := p
      rw [List.take_of_length_le (by omega)] at hM
      have nd0 := nodup_tally M
      have lt0 := length_tally M
      have lM : M.length ≤ L.length * 7 := by
        rw [hM.length_eq]
        exact flat_len L ctrR 7 fun r _ => ctrR_len r
      (repeat (first | refine ⟨_, rfl, ?_⟩ | refine ⟨_, _, rfl, rfl, ?_⟩ | refine ⟨_, _, rfl, ?_⟩ | refine ⟨rfl, ?_⟩))
      refine ⟨D, _, hD, mut_dT, fun od => ?_⟩
      have hF : (upd G D (.frz od (.dT (DtK cellK (tally M))))) D = some (.frz od (.dT (DtK cellK (tally M)))) := upd_same
      generalize hG1 : upd G D (.frz od (.dT (DtK cellK (tally M)))) = G1 at hF
      (repeat (first | refine ⟨_, rfl, ?_⟩ | refine ⟨_, _, rfl, rfl, ?_⟩ | refine ⟨_, _, rfl, ?_⟩ | refine ⟨rfl, ?_⟩))
      refine ⟨D, od, rfl, .inr ⟨DtK cellK (tally M), hF, fun D2 nD2 => ?_⟩⟩
      refine lc_lsF (J := Itkt D od (DtK cellK (tally M))) (n := (tally M).length) rowV (fun q => decide (q.2 ≠ 0)) (tally M) rfl (by omega) nD2 (fun i H hi s => ⟨s _ _ hF, by rw [dtK_length]; exact hi⟩) (fun H s => ⟨s _ _ hF, by rw [dtK_length]; exact Nat.le_refl _⟩) (fun i y H2 hyi s2 N M' hN hM' x H3 e => ?_) (fun H2 s2 hL2 => ?_)
      · obtain ⟨rfl, kk, v, q, hkv, rfl, hq⟩ := e
        have ekv : (kk, v) = (cellK y.1, V.int y.2) := by
          unfold DtK at hkv
          rw [List.getElem?_map, hyi] at hkv
          exact (Option.some.inj hkv).symm
        cases ekv
        have hmem := List.mem_of_getElem? hyi
        have hq' : H3 q = some (.tup (cellV y.1)) := hq
        (repeat (first | refine ⟨_, rfl, ?_⟩ | refine ⟨_, _, rfl, rfl, ?_⟩ | refine ⟨_, _, rfl, ?_⟩ | refine ⟨rfl, ?_⟩))
        refine ⟨D, _, rfl, dget_frz ko_cell nd0 (s2 _ _ hF) hmem hq', ?_⟩
        (repeat (first | refine ⟨_, rfl, ?_⟩ | refine ⟨_, _, rfl, rfl, ?_⟩ | refine ⟨_, _, rfl, ?_⟩ | refine ⟨rfl, ?_⟩))
        refine itB (fun h => ?_) (fun h => ?_)
        · (repeat (first | refine ⟨_, rfl, ?_⟩ | refine ⟨_, _, rfl, rfl, ?_⟩ | refine ⟨_, _, rfl, ?_⟩ | refine ⟨rfl, ?_⟩))
          refine ⟨D, _, rfl, dget_frz ko_cell nd0 (s2 _ _ hF) hmem hq', ?_⟩
          (repeat (first | refine ⟨_, rfl, ?_⟩ | refine ⟨_, _, rfl, rfl, ?_⟩ | refine ⟨_, _, rfl, ?_⟩ | refine ⟨rfl, ?_⟩))
          refine ⟨le_line (by simp), fun p np => ?_⟩
          have sp := Same.new (o := .tup [.int y.2]) np
          exact ⟨q, p, cellV y.1, [.int y.2], rfl, rfl, .inl (.inl (sp _ _ hq')), .inl (.inl upd_same), le_line (by simp [cellV]), (fun e => nomatch e), (fun _ e => nomatch e), fun _ _ r nr => hN (by rw [← ne0]; exact h) _ _ (sp.trans (Same.new nr)) ⟨r, rfl, upd_same⟩⟩
        · exact hM' (by rw [← ne0]; exact h) _ (Same.refl _)
      · obtain ⟨zs, hz1, hz2⟩ := hL2
        refine ⟨s2 _ _ hF, ?_⟩
        generalize hG3 : upd H2 D (.dT (DtK cellK (tally M))) = G3
        have sG3 : Same G G3 := by rw [← hG3]; exact same_unlock hD (by rw [hG1]; exact s2)
        have nDD : D2 ≠ D := by
          rintro rfl
          rw [hF] at nD2
          cases nD2
        have hz3 : G3 D2 = some (.lst zs) := by rw [← hG3, upd_ne nDD]; exact hz1
        have zT : Tps G3 rowV zs ((tally M).filter fun q => decide (q.2 ≠ 0)) := by
          rw [← hG3]
          exact hz2.monoT fun a fs e => by
            rw [upd_ne (ne_of e (s2 _ _ hF) (fun z => nomatch z))]
            exact e
        (repeat (first | refine ⟨_, rfl, ?_⟩ | refine ⟨_, _, rfl, rfl, ?_⟩ | refine ⟨_, _, rfl, ?_⟩ | refine ⟨rfl, ?_⟩))
        refine r_sort dat_row (SqL.of hz3) zT fun p ws ys np yp yw yT => ?_
        exact k p ys _ ((sG.trans sG3).trans (Same.new np)) ((sG.trans sG3).none np) ⟨ws, upd_same, yT.mono (Same.new np)⟩ ((Canon.of_perm yp yw).perm hM)
def spTuft : Sp := fun vs H Q _ => ∃ (i : Nat) (x y ink : Int), vs = [.int i, .int x, .int y, .int ink] ∧ ∀ o L H', Same H H' → H o = none → Ls H' rowV o L → L.length = 6 → (∀ r ∈ L, r.2 = ink) → Q (.ref o) H'
theorem ok_tuft (F : GDef K "_law_tuft" s__law_tuft f fd) (T : Txt K w mg) (c__law_lows : Cal P w K mg base CX0 "_law_lows" P__law_lows 1 spLows) : FnOk P w K mg base CX0 2 f fd P__law_tuft spTuft := by
  refine F.ok sc_law_tuft (fun vs H Q E h => ?_) (fun cdv A outer s H vs Q E hr h => ?_)
  · obtain ⟨d, _, _, _, rfl, _⟩ := h; rfl
  · obtain ⟨v, x, y, ink, rfl, k⟩ := h
    refine ⟨_, PSs.nox (pss_cons (ps_set (i := 4) sc_law_tuft.nd rfl (Or.inl rfl) (pe_lst pa_nil))
      (pss_cons (ps_for PassesOwn.never rfl (pi_list (pe_lst (pa_cons pe_str (pa_cons pe_str (pa_cons pe_str (pa_cons pe_str (pa_cons pe_str (pa_cons pe_str pa_nil)))))))) (pg_name (i := 5) sc_law_tuft.nd rfl (Or.inl rfl))
        (pss_cons (ps_set (i := 6) sc_law_tuft.nd rfl (Or.inl rfl) (pe_ix ix_list (pe_cal c__law_lows (hr.mono (by decide)) rfl (pa_cons (pv 5) pa_nil)) (pe_op op_mod (pe_callTy call_int1 (by rfl) T.z_int (by decide +kernel) (pa_cons (pe_op op_add (pv 0) pe_int) pa_nil)) pe_int) (fun _ _ => rfl)))
        (pss_one (ps_expr (pe_bm PySem.F.plainAttrs_list PySem.F.slot_list_append PySem.F.type_list_append mt_append (pv 4) (pa_cons (pe_tup (pa_cons (pe_op op_sub (pv 1) (pe_ix ix_tup (pv 6) pe_int (fun _ _ => rfl))) (pa_cons (pe_op op_sub (pv 2) (pe_ix ix_tup (pv 6) pe_int (fun _ _ => rfl))) (pa_cons (pv 5) (pa_cons (pv 3) pa_nil))))) pa_nil))))))
      (pss_one (ps_ret (pv 4))))), ?_⟩
    (repeat (first | refine ⟨_, rfl, ?_⟩ | refine ⟨_, _, rfl, rfl, ?_⟩ | refine ⟨_, _, rfl, ?_⟩ | refine ⟨rfl, ?_⟩))
    refine ⟨le_line (by simp), fun R nR => ?_⟩
    have sR : Same H (upd H R (.lst [])) := Same.new nR
    (repeat (first | refine ⟨_, rfl, ?_⟩ | refine ⟨_, _, rfl, rfl, ?_⟩ | refine ⟨_, _, rfl, ?_⟩ | refine ⟨rfl, ?_⟩))
    refine ⟨le_line (by simp), fun l nl => ?_⟩
    have sl := Same.new (o := .lst ([V.str "d", .str "e", .str "n", .str "w", .str "u", .str "v"])) nl
    have h0 : (upd (upd H R (.lst [])) l (.lst ([V.str "d", .str "e", .str "n", .str "w", .str "u", .str "v"]))) R = some (.lst []) := sl _ _ upd_same
    have nlR : l ≠ R := by rintro rfl; rw [upd_same] at nl; cases nl
    have hl0 : (upd (upd H R (.lst [])) l (.lst ([V.str "d", .str "e", .str "n", .str "w", .str "u", .str "v"]))) l = some (.lst ([V.str "d", .str "e", .str "n", .str "w", .str "u", .str "v"])) := upd_same
    have s0 := sR.trans sl
    refine ⟨l, rfl, ⟨[V.str "d", .str "e", .str "n", .str "w", .str "u", .str "v"], SqL.of hl0⟩, ?_⟩
    generalize hG0 : upd (upd H R (.lst [])) l (.lst ([V.str "d", .str "e", .str "n", .str "w", .str "u", .str "v"])) = G0 at h0 hl0 s0
    have e6 : (v : Int) + 3 = (((v + 3 : Nat)) : Int) := by omega
    have h1 := Int.emod_nonneg ((v : Int) + 3) (show (6 : Int) ≠ 0 by decide)
    have h2 := Int.emod_lt_of_pos ((v : Int) + 3) (show (0 : Int) < 6 by decide)
    obtain ⟨m, hm⟩ : ∃ m : Nat, ((v : Int) + 3) % 6 = (m : Int) := ⟨_, (Int.toNat_of_nonneg h1).symm⟩
    refine for_list (xs := [V.str "d", .str "e", .str "n", .str "w", .str "u", .str "v"]) (fun i σ G => (∃ a5 a6, σ = [some (.int v), some (.int x), some (.int y), some (.int ink), some (.ref R), a5, a6]) ∧ Same H G ∧ G l = some (.lst ([V.str "d", .str "e", .str "n", .str "w", .str "u", .str "v"])) ∧ ∃ L, Ls G rowV R L ∧ L.length = i ∧ ∀ r ∈ L, r.2 = ink)
      ⟨⟨_, _, rfl⟩, s0, hl0, [], ⟨[], h0, .nil⟩, rfl, fun r h => by simp at h⟩ (fun i σ G _ p => SqL.of p.2.2.1) (fun i z σ G hz p => ?_) (fun σ G p => ?_)
    · obtain ⟨⟨a5, a6, rfl⟩, sG, hlG, L, ⟨acc, hR, hT⟩, hn, hb⟩ := p
      have hi : i < 6 := (List.getElem?_eq_some_iff.mp hz).1
      obtain ⟨c, rfl⟩ : ∃ c : Kd, z = .str (kS c) := by
        match i, hi, hz with
        | 0, _, hz => exact ⟨.d, (Option.some.inj hz).symm⟩
        | 1, _, hz => exact ⟨.e, (Option.some.inj hz).symm⟩
        | 2, _, hz => exact ⟨.n, (Option.some.inj hz).symm⟩
        | 3, _, hz => exact ⟨.w, (Option.some.inj hz).symm⟩
        | 4, _, hz => exact ⟨.u, (Option.some.inj hz).symm⟩
        | 5, _, hz => exact ⟨.v, (Option.some.inj hz).symm⟩
      (repeat (first | refine ⟨_, rfl, ?_⟩ | refine ⟨_, _, rfl, rfl, ?_⟩ | refine ⟨_, _, rfl, ?_⟩ | refine ⟨rfl, ?_⟩))
      intro lw G1 s1 nlw hlw
      obtain ⟨lv, hlv1, hlv2⟩ := hlw
      (repeat (first | refine ⟨_, rfl, ?_⟩ | refine ⟨_, _, rfl, rfl, ?_⟩ | refine ⟨_, _, rfl, ?_⟩ | refine ⟨rfl, ?_⟩))
      refine .inl ⟨_, rfl, ?_⟩
      (repeat (first | refine ⟨_, rfl, ?_⟩ | refine ⟨_, _, rfl, rfl, ?_⟩ | refine ⟨_, _, rfl, ?_⟩ | refine ⟨rfl, ?_⟩))
      refine ⟨(show (0 : Int) < 6 by decide), ?_⟩
      have hlen : lv.length = 6 := hlv2.length
      obtain ⟨u, hu1⟩ : ∃ u, lv[m]? = some u := ⟨_, List.getElem?_eq_getElem (by omega)⟩
      obtain ⟨q, hq, b, rfl, hb2⟩ := hlv2.get hu1
      refine ⟨lw, lv, _, _, rfl, rfl, SqL.of hlv1, (by rw [hm]; exact atI_nat hu1), ?_⟩
      (repeat (first | refine ⟨_, rfl, ?_⟩ | refine ⟨_, _, rfl, rfl, ?_⟩ | refine ⟨_, _, rfl, ?_⟩ | refine ⟨rfl, ?_⟩))
      refine ⟨ty_lst (s1 _ _ hR), ?_⟩
      (repeat (first | refine ⟨_, rfl, ?_⟩ | refine ⟨_, _, rfl, rfl, ?_⟩ | refine ⟨_, _, rfl, ?_⟩ | refine ⟨rfl, ?_⟩))
      refine ⟨b, placeV q, 0, _, rfl, rfl, .inl (.inl hb2), rfl, ?_⟩
      (repeat (first | refine ⟨_, rfl, ?_⟩ | refine ⟨_, _, rfl, rfl, ?_⟩ | refine ⟨_, _, rfl, ?_⟩ | refine ⟨rfl, ?_⟩))
      refine ⟨b, placeV q, 1, _, rfl, rfl, .inl (.inl hb2), rfl, ?_⟩
      (repeat (first | refine ⟨_, rfl, ?_⟩ | refine ⟨_, _, rfl, rfl, ?_⟩ | refine ⟨_, _, rfl, ?_⟩ | refine ⟨rfl, ?_⟩))
      refine ⟨le_line (by simp), fun e ne => ?_⟩
      have se := Same.new (o := .tup (rowV ((x - q.1, y - q.2, c), ink))) ne
      have hR2 := se _ _ (s1 _ _ hR)
      have l1 := hT.length
      refine ⟨R, acc, _, rfl, rfl, hR2, lt_line (m := 100) (by omega) (by decide), ⟨_, _, rfl⟩, ((sG.trans s1).trans se).mut nR, ?_, L ++ [((x - q.1, y - q.2, c), ink)], Ls.push hR2 ((hT.mono s1).mono se) ⟨e, rfl, upd_same⟩, by rw [List.length_append, hn]; rfl, ?_⟩
      · rw [upd_ne nlR]
        exact se _ _ (s1 _ _ hlG)
      · intro r hr'
        rcases List.mem_append.mp hr' with h | h
        · exact hb r h
        · rw [List.mem_singleton.mp h]
    · obtain ⟨⟨a5, a6, rfl⟩, sG, hlG, L, hL, hn, hb⟩ := p
      (repeat (first | refine ⟨_, rfl, ?_⟩ | refine ⟨_, _, rfl, rfl, ?_⟩ | refine ⟨_, _, rfl, ?_⟩ | refine ⟨rfl, ?_⟩))
      exact k R L G sG nR hL hn hb
/-! ### filled pens -/
def DtB (t : List Place) : List (List L2.Key × V) := t.map fun p => (placeK p, .bl true)
theorem colF_succ (ns : List Int) (x : Int) (m : Nat) (t : List Place) : colF ns x (m + 1) t = if cnd ns x (-(ns.getD 4 0) + (m : Int)) = true then insB (colF ns x m t) (x, -(ns.getD 4 0) + (m : Int)) else colF ns x m t := by
  unfold colF
  rw [List.range_succ, List.foldl_append]
  rfl
theorem dotF_succ (ns : List Int) (n : Nat) : dotF ns (n + 1) = colF ns (-(ns.getD 2 0) + (n : Int)) (nY ns) (dotF ns n) := by
  unfold dotF
  rw [List.range_succ, List.foldl_append]
  rfl
theorem insB_len (t : List Place) (p : Place) : (insB t p).length ≤ t.length + 1 := by
  unfold insB
  split <;> simp
theorem colF_len (ns : List Int) (x : Int) (t : List Place) : ∀ m, (colF ns x m t).length ≤ t.length + m
  | 0 => Nat.le_refl _
  | m + 1 => by
    have := colF_len ns x t m
    rw [colF_succ]
    split
    · have := insB_len (colF ns x m t) (x, -(ns.getD 4 0) + (m : Int))
      omega
    · omega
theorem dotF_len (ns : List Int) : ∀ n, (dotF ns n).length ≤ n * nY ns
  | 0 => Nat.zero_le _
  | n + 1 => by
    have h1 := dotF_len ns n
    rw [dotF_succ, Nat.succ_mul]
    have := colF_len ns (-(ns.getD 2 0) + (n : Int)) (dotF ns n) (nY ns)
    omega
theorem dtB_val (t : List Place) (z : Place) : (valV (DtB t) (placeK z)).isSome = decide (z ∈ t) := by
  induction t with
  | nil => rfl
  | cons a r ih =>
    show (valV ((placeK a, V.bl true) :: DtB r) (placeK z)).isSome = _
    by_cases h : a = z
    · subst h
      rw [valV_pos rfl]
      simp
    · rw [valV_neg (fun e => h (ko_place.inj _ _ e)), ih]
      have : (z ∈ a :: r) ↔ z ∈ r := by
        rw [List.mem_cons]
        exact ⟨fun q => q.elim (fun q => absurd q.symm h) id, .inr⟩
      by_cases h2 : z ∈ r
      · rw [decide_eq_true h2, decide_eq_true (this.mpr h2)]
      · rw [decide_eq_false h2, decide_eq_false (fun q => h2 (this.mp q))]
theorem dtB_put (t : List Place) (z : Place) : putK (DtB t) (placeK z) (.bl true) = DtB (insB t z) := by
  unfold putK insB
  have ha : ((DtB t).any fun kv => decide (kv.1 = placeK z)) = decide (z ∈ t) := by
    rw [← dtB_val, ← valV_any]
  rw [ha]
  by_cases h : z ∈ t
  · rw [decide_eq_true h, if_pos rfl, if_pos h]
    conv => rhs; rw [← List.map_id (DtB t)]
    apply List.map_congr_left
    intro x hx
    obtain ⟨p, hp, rfl⟩ := List.mem_map.mp hx
    simp
  · rw [decide_eq_false h, if_neg (by simp), if_neg h]
    simp [DtB]
theorem keysB {H : Hp} : ∀ {t : List Place} {bs : List Addr}, IsKeys H (DtB t) bs → Tps H placeV (bs.map V.ref) t
  | [], _, h => by cases h; exact .nil
  | a :: t, _, h => by
    cases h with
    | cons e r => exact .cons ⟨_, rfl, e⟩ (keysB r)
theorem il_at {ns : List Int} {i : Nat} (hi : i < ns.length) : atI (ns.map V.int) (i : Nat) = some (.int (ns.getD i 0)) := by
  apply atI_nat
  rw [List.getElem?_map, List.getD_eq_getElem?_getD, List.getElem?_eq_getElem hi]
  rfl
theorem getD_b {ns : List Int} (hb : ∀ n ∈ ns, -20 ≤ n ∧ n ≤ 20) (i : Nat) : -20 ≤ ns.getD i 0 ∧ ns.getD i 0 ≤ 20 := by
  rw [List.getD_eq_getElem?_getD]
  cases h : ns[i]? with
  | none => exact ⟨by decide, by decide⟩
  | some n => exact hb n (List.mem_of_getElem? h)
theorem app_if {K : PySem.W.Frag} {D : Ends} {σ : L2.St} {G : Hp} {tk te : TE} {t : List Place} {z : Place} {r : Row} {dD R : Addr} {L : List Row} (hd1 : σ[1]? = some (some (.ref dD))) (hR4 : σ[4]? = some (some (.ref R)))
    (hk : ∀ G Q, (∀ p, G p = none → Q (V.ref p) (upd G p (.tup (placeV z)))) → tk σ G Q) (he : ∀ G Q, (∀ p, G p = none → Q (V.ref p) (upd G p (.tup (rowV r)))) → te σ G Q)
    (hd : G dD = some (.dT (DtB t))) (hL : Ls G rowV R L) (hz : L.length ≤ 1000000) (k : ∀ G', SameX R G G' → Ls G' rowV R (L ++ oneIf t z r) → D.nx σ G') :
    tIfS (tB (tDIn tk (tVar 1))) (tDrop (tBM K "list" rAppend (tVar 4) (tCons te tNil))) tNext D σ G := by
  refine hk G _ fun p np => ?_
  have sp := Same.new (o := .tup (placeV z)) np
  refine ⟨_, hd1, dD, _, rfl, DGet.t (k := placeK z) (sp _ _ hd) upd_same, ?_⟩
  refine ⟨_, rfl, ?_⟩
  rw [dtB_val]
  obtain ⟨acc, hR, hT⟩ := hL
  refine itD (fun h => ?_) (fun h => ?_)
  · refine ⟨_, hR4, ty_lst (sp _ _ hR), ?_⟩
    refine he _ _ fun q nq => ?_
    have sq := Same.new (o := .tup (rowV r)) nq
    have hR2 := sq _ _ (sp _ _ hR)
    have l1 := hT.length
    refine ⟨R, acc, _, rfl, rfl, hR2, lt_line (m := 1000001) (by omega) (by decide), ?_⟩
    refine k _ (((sp.trans sq).x R).trans SameX.put) ?_
    rw [oneIf, if_pos h]
    exact Ls.push hR2 ((hT.mono sp).mono sq) ⟨q, rfl, upd_same⟩
  · refine k _ (sp.x R) ?_
    rw [oneIf, if_neg h, List.append_nil]
    exact ⟨acc, sp _ _ hR, hT.mono sp⟩
theorem cellsAt_len (t : List Place) (p : Place) : (cellsAt t p).length ≤ 6 := by
  have h : ∀ z r, (oneIf t z r).length ≤ 1 := fun z r => by unfold oneIf; split <;> simp
  unfold cellsAt
  split
  · simp only [List.length_append, List.length_singleton]
    have h1 := h (p.1 + 1, p.2) ((p.1, p.2, .e), 1)
    have h2 := h (p.1 - 1, p.2 + 1) ((p.1, p.2, .w), 1)
    have h3 := h (p.1 + 1, p.2) ((p.1, p.2, .u), 1)
    have h4 := h (p.1 - 1, p.2 + 1) ((p.1, p.2, .v), 1)
    omega
  · simp only [List.length_append, List.length_singleton, List.length_nil]
    have h1 := h (p.1 + 1, p.2) ((p.1, p.2, .e), 1)
    have h2 := h (p.1 - 1, p.2 + 1) ((p.1, p.2, .w), 1)
    omega
def spFilled : Sp := fun vs H Q _ => ∃ (r : Addr) (ns : List Int), vs = [.ref r] ∧ ns.length = 6 ∧ (∀ n ∈ ns, -20 ≤ n ∧ n ≤ 20) ∧ Il H r ns ∧ ∀ l s H', Same H H' → H l = none → Ls H' rowV l s → s.Perm (filledL ns) → Q (.ref l) H'
theorem ok_filled (T : Txt K w mg) (F : GDef K "_law_filled" s__law_filled f fd) : FnOk P w K mg base CX0 1 f fd P__law_filled spFilled := by
  refine F.ok sc_law_filled (fun vs H Q E h => ?_) (fun cdv A outer s H vs Q E hr h => ?_)
  · obtain ⟨d, _, rfl, _⟩ := h; rfl
  · obtain ⟨r, ns, rfl, h6, hb, hr1, k⟩ := h
    have hu16 := hu16_of hr
    have hu := hu1_of hr
    refine ⟨_, PSs.nox (pss_cons (ps_set (i := 1) sc_law_filled.nd rfl (Or.inl rfl) pe_dnewT)
      (pss_cons (ps_for PassesOwn.never rfl (pi_range2 rfl T.z_range (pa_cons (pe_un un_neg (pe_ix ix_list (pv 0) pe_int (fun _ _ => rfl))) (pa_cons (pe_op op_add (pe_ix ix_list (pv 0) pe_int (fun _ _ => rfl)) pe_int) pa_nil))) (pg_name (i := 2) sc_law_filled.nd rfl (Or.inl rfl))
        (pss_one (ps_for PassesOwn.never rfl (pi_range2 rfl T.z_range (pa_cons (pe_un un_neg (pe_ix ix_list (pv 0) pe_int (fun _ _ => rfl))) (pa_cons (pe_op op_add (pe_ix ix_list (pv 0) pe_int (fun _ _ => rfl)) pe_int) pa_nil))) (pg_name (i := 3) sc_law_filled.nd rfl (Or.inl rfl))
          (pss_one (ps_if (pt_chain op_le op_le (pe_un un_neg (pe_ix ix_list (pv 0) pe_int (fun _ _ => rfl))) (pe_op op_add (pv 2) (pv 3)) (pe_ix ix_list (pv 0) pe_int (fun _ _ => rfl)))
            (pss_one (ps_dput hu (pv 1) (pe_tup (pa_cons (pv 2) (pa_cons (pv 3) pa_nil))) pe_bl rfl))
            pss_nil)))))
      (pss_cons (ps_set (i := 4) sc_law_filled.nd rfl (Or.inl rfl) (pe_lst pa_nil))
      (pss_cons (ps_for PassesOwn.never rfl (pi_list (pe_callTy (call_list_dT rfl) (by rfl) T.z_list (by decide +kernel) (pa_cons (pv 1) pa_nil))) (pg_tup rfl (pgs_cons (pg_name (i := 2) sc_law_filled.nd rfl (Or.inl rfl)) (pgs_cons (pg_name (i := 3) sc_law_filled.nd rfl (Or.inl rfl)) pgs_nil)))
        (pss_cons (ps_expr (pe_bm PySem.F.plainAttrs_list PySem.F.slot_list_append PySem.F.type_list_append mt_append (pv 4) (pa_cons (pe_tup (pa_cons (pv 2) (pa_cons (pv 3) (pa_cons pe_str (pa_cons pe_int pa_nil))))) pa_nil)))
        (pss_cons (ps_if (pt_cmp (pc_din hu (pe_tup (pa_cons (pe_op op_add (pv 2) pe_int) (pa_cons (pv 3) pa_nil))) (pv 1)))
          (pss_one (ps_expr (pe_bm PySem.F.plainAttrs_list PySem.F.slot_list_append PySem.F.type_list_append mt_append (pv 4) (pa_cons (pe_tup (pa_cons (pv 2) (pa_cons (pv 3) (pa_cons pe_str (pa_cons pe_int pa_nil))))) pa_nil))))
          pss_nil)
        (pss_cons (ps_if (pt_cmp (pc_din hu (pe_tup (pa_cons (pe_op op_sub (pv 2) pe_int) (pa_cons (pe_op op_add (pv 3) pe_int) pa_nil))) (pv 1)))
          (pss_one (ps_expr (pe_bm PySem.F.plainAttrs_list PySem.F.slot_list_append PySem.F.type_list_append mt_append (pv 4) (pa_cons (pe_tup (pa_cons (pv 2) (pa_cons (pv 3) (pa_cons pe_str (pa_cons pe_int pa_nil))))) pa_nil))))
          pss_nil)
        (pss_one (ps_if (pt_cmp (pc_din hu (pe_tup (pa_cons (pv 2) (pa_cons (pe_op op_add (pv 3) pe_int) pa_nil))) (pv 1)))
          (pss_cons (ps_expr (pe_bm PySem.F.plainAttrs_list PySem.F.slot_list_append PySem.F.type_list_append mt_append (pv 4) (pa_cons (pe_tup (pa_cons (pv 2) (pa_cons (pv 3) (pa_cons pe_str (pa_cons pe_int pa_nil))))) pa_nil)))
          (pss_cons (ps_if (pt_cmp (pc_din hu (pe_tup (pa_cons (pe_op op_add (pv 2) pe_int) (pa_cons (pv 3) pa_nil))) (pv 1)))
            (pss_one (ps_expr (pe_bm PySem.F.plainAttrs_list PySem.F.slot_list_append PySem.F.type_list_append mt_append (pv 4) (pa_cons (pe_tup (pa_cons (pv 2) (pa_cons (pv 3) (pa_cons pe_str (pa_cons pe_int pa_nil))))) pa_nil))))
            pss_nil)
          (pss_one (ps_if (pt_cmp (pc_din hu (pe_tup (pa_cons (pe_op op_sub (pv 2) pe_int) (pa_cons (pe_op op_add (pv 3) pe_int) pa_nil))) (pv 1)))
            (pss_one (ps_expr (pe_bm PySem.F.plainAttrs_list PySem.F.slot_list_append PySem.F.type_list_append mt_append (pv 4) (pa_cons (pe_tup (pa_cons (pv 2) (pa_cons (pv 3) (pa_cons pe_str (pa_cons pe_int pa_nil))))) pa_nil))))
            pss_nil))))
          pss_nil))))))
      (pss_one (ps_ret (pe_callB (cr_sortedD hu16) (by rfl) T.z_sorted (by decide +kernel) (pa_cons (pv 4) pa_nil)))))))), ?_⟩
    (repeat (first | refine ⟨_, rfl, ?_⟩ | refine ⟨_, _, rfl, rfl, ?_⟩ | refine ⟨_, _, rfl, ?_⟩ | refine ⟨rfl, ?_⟩))
    intro D nD
    have s0 : Same H (upd H D (.dT [])) := Same.new nD
    have b0 := getD_b hb 0
    have b1 := getD_b hb 1
    have b2 := getD_b hb 2
    have b3 := getD_b hb 3
    have b4 := getD_b hb 4
    have b5 := getD_b hb 5
    have bX : nX ns ≤ 41 := by unfold nX; omega
    have bY : nY ns ≤ 41 := by unfold nY; omega
    have at_ : ∀ i, i < 6 → atI (ns.map V.int) (i : Nat) = some (.int (ns.getD i 0)) := fun i hi => il_at (by omega)
    (repeat (first | refine ⟨_, rfl, ?_⟩ | refine ⟨_, _, rfl, rfl, ?_⟩ | refine ⟨_, _, rfl, ?_⟩ | refine ⟨rfl, ?_⟩))
    refine ⟨r, _, 2, _, rfl, rfl, SqL.of (s0 _ _ hr1), at_ 2 (by decide), ?_⟩
    (repeat (first | refine ⟨_, rfl, ?_⟩ | refine ⟨_, _, rfl, rfl, ?_⟩ | refine ⟨_, _, rfl, ?_⟩ | refine ⟨rfl, ?_⟩))
    refine ⟨r, _, 5, _, rfl, rfl, SqL.of (s0 _ _ hr1), at_ 5 (by decide), ?_⟩
    (repeat (first | refine ⟨_, rfl, ?_⟩ | refine ⟨_, _, rfl, rfl, ?_⟩ | refine ⟨_, _, rfl, ?_⟩ | refine ⟨rfl, ?_⟩))
    refine ⟨⟨by omega, by omega, by omega, by omega⟩, ?_⟩
    refine for_range (lo := -(ns.getD 2 0)) (n := nX ns) (fun i σ G => (∃ a2 a3, σ = [some (.ref r), some (.ref D), a2, a3, none]) ∧ Same H G ∧ G D = some (.dT (DtB (dotF ns i)))) ⟨⟨_, _, rfl⟩, s0, upd_same⟩ (fun i σ G hi p => ?_) (fun σ G p => ?_)
    · obtain ⟨⟨a2, a3, rfl⟩, sG, hD⟩ := p
      (repeat (first | refine ⟨_, rfl, ?_⟩ | refine ⟨_, _, rfl, rfl, ?_⟩ | refine ⟨_, _, rfl, ?_⟩ | refine ⟨rfl, ?_⟩))
      refine ⟨r, _, 4, _, rfl, rfl, SqL.of (sG _ _ hr1), at_ 4 (by decide), ?_⟩
      (repeat (first | refine ⟨_, rfl, ?_⟩ | refine ⟨_, _, rfl, rfl, ?_⟩ | refine ⟨_, _, rfl, ?_⟩ | refine ⟨rfl, ?_⟩))
      refine ⟨r, _, 1, _, rfl, rfl, SqL.of (sG _ _ hr1), at_ 1 (by decide), ?_⟩
      (repeat (first | refine ⟨_, rfl, ?_⟩ | refine ⟨_, _, rfl, rfl, ?_⟩ | refine ⟨_, _, rfl, ?_⟩ | refine ⟨rfl, ?_⟩))
      refine ⟨⟨by omega, by omega, by omega, by omega⟩, ?_⟩
      refine for_range (lo := -(ns.getD 4 0)) (n := nY ns) (fun j σ G => (∃ a3, σ = [some (.ref r), some (.ref D), some (.int (-(ns.getD 2 0) + (i : Nat))), a3, none]) ∧ Same H G ∧ G D = some (.dT (DtB (colF ns (-(ns.getD 2 0) + (i : Nat)) j (dotF ns i))))) ⟨⟨_, rfl⟩, sG, hD⟩ (fun j σ G hj p => ?_) (fun σ G p => ?_)
      · obtain ⟨⟨a3, rfl⟩, s1, hD1⟩ := p
        (repeat (first | refine ⟨_, rfl, ?_⟩ | refine ⟨_, _, rfl, rfl, ?_⟩ | refine ⟨_, _, rfl, ?_⟩ | refine ⟨rfl, ?_⟩))
        refine ⟨r, _, 3, _, rfl, rfl, SqL.of (s1 _ _ hr1), at_ 3 (by decide), ?_⟩
        (repeat (first | refine ⟨_, rfl, ?_⟩ | refine ⟨_, _, rfl, rfl, ?_⟩ | refine ⟨_, _, rfl, ?_⟩ | refine ⟨rfl, ?_⟩))
        have stay : cnd ns (-(ns.getD 2 0) + (i : Nat)) (-(ns.getD 4 0) + (j : Nat)) = false → G D = some (.dT (DtB (colF ns (-(ns.getD 2 0) + (i : Nat)) (j + 1) (dotF ns i)))) := fun h => by
          rw [colF_succ, h]
          exact hD1
        refine itD (fun h1 => ?_) (fun h1 => ?_)
        · (repeat (first | refine ⟨_, rfl, ?_⟩ | refine ⟨_, _, rfl, rfl, ?_⟩ | refine ⟨_, _, rfl, ?_⟩ | refine ⟨rfl, ?_⟩))
          refine ⟨r, _, 0, _, rfl, rfl, SqL.of (s1 _ _ hr1), at_ 0 (by decide), ?_⟩
          (repeat (first | refine ⟨_, rfl, ?_⟩ | refine ⟨_, _, rfl, rfl, ?_⟩ | refine ⟨_, _, rfl, ?_⟩ | refine ⟨rfl, ?_⟩))
          refine itD (fun h2 => ?_) (fun h2 => ?_)
          · (repeat (first | refine ⟨_, rfl, ?_⟩ | refine ⟨_, _, rfl, rfl, ?_⟩ | refine ⟨_, _, rfl, ?_⟩ | refine ⟨rfl, ?_⟩))
            refine ⟨le_line (by simp), fun p np => ?_⟩
            have sp := Same.new (o := .tup (placeV (-(ns.getD 2 0) + (i : Nat), -(ns.getD 4 0) + (j : Nat)))) np
            have hD2 := sp _ _ hD1
            have hc : cnd ns (-(ns.getD 2 0) + (i : Nat)) (-(ns.getD 4 0) + (j : Nat)) = true := by
              unfold cnd
              rw [decide_eq_true h1, decide_eq_true h2]
              rfl
            have l1 := colF_len ns (-(ns.getD 2 0) + (i : Nat)) (dotF ns i) j
            have l2 := dotF_len ns i
            have l3 : i * nY ns ≤ 41 * 41 := Nat.mul_le_mul (by omega) bY
            refine ⟨D, _, rfl, DPut.t (k := placeK (-(ns.getD 2 0) + (i : Nat), -(ns.getD 4 0) + (j : Nat))) hD2 upd_same ?_, ⟨_, rfl⟩, (s1.trans sp).mut nD, ?_⟩
            · unfold DtB
              rw [List.length_map]
              exact lt_line (m := 100000) (by omega) (by decide)
            · rw [upd_same, dtB_put, colF_succ, hc]
              rfl
          · exact ⟨⟨_, rfl⟩, s1, stay (by unfold cnd; rw [decide_eq_false h2, Bool.and_false])⟩
        · (repeat (first | refine ⟨_, rfl, ?_⟩ | refine ⟨_, _, rfl, rfl, ?_⟩ | refine ⟨_, _, rfl, ?_⟩ | refine ⟨rfl, ?_⟩))
          exact ⟨⟨_, rfl⟩, s1, stay (by unfold cnd; rw [decide_eq_false h1, Bool.false_and])⟩
      · obtain ⟨⟨a3, rfl⟩, s1, hD1⟩ := p
        rw [← dotF_succ] at hD1
        exact ⟨⟨_, _, rfl⟩, s1, hD1⟩
    · obtain ⟨⟨a2, a3, rfl⟩, sG, hD⟩ := p
      have lt : (dotsL ns).length ≤ 1681 := by
        have h1 := dotF_len ns (nX ns)
        have : nX ns * nY ns ≤ 41 * 41 := Nat.mul_le_mul bX bY
        unfold dotsL
        omega
      have hD' : G D = some (.dT (DtB (dotsL ns))) := hD
      (repeat (first | refine ⟨_, rfl, ?_⟩ | refine ⟨_, _, rfl, rfl, ?_⟩ | refine ⟨_, _, rfl, ?_⟩ | refine ⟨rfl, ?_⟩))
      refine ⟨le_line (by simp), fun R nR => ?_⟩
      have sR : Same G (upd G R (.lst [])) := Same.new nR
      (repeat (first | refine ⟨_, rfl, ?_⟩ | refine ⟨_, _, rfl, rfl, ?_⟩ | refine ⟨_, _, rfl, ?_⟩ | refine ⟨rfl, ?_⟩))
      refine ⟨D, _, rfl, .inl (sR _ _ hD'), fun l bs nl ik => ?_⟩
      have hT0 := keysB ik
      have sl := Same.new (o := .lst (bs.map V.ref)) nl
      have nHR := sG.none nR
      have nlR : l ≠ R := by rintro rfl; rw [upd_same] at nl; cases nl
      have nDR : D ≠ R := by rintro rfl; rw [hD'] at nR; cases nR
      have hR0 : (upd (upd G R (.lst [])) l (.lst (bs.map V.ref))) R = some (.lst []) := sl _ _ upd_same
      have hl0 : (upd (upd G R (.lst [])) l (.lst (bs.map V.ref))) l = some (.lst (bs.map V.ref)) := upd_same
      have hT1 := hT0.mono sl
      have sH0 : Same H (upd (upd G R (.lst [])) l (.lst (bs.map V.ref))) := sG.trans (sR.trans sl)
      have hD0 := sl _ _ (sR _ _ hD')
      refine ⟨l, rfl, ⟨_, SqL.of hl0⟩, ?_⟩
      generalize hG0 : upd (upd G R (.lst [])) l (.lst (bs.map V.ref)) = G0 at hR0 hl0 hT1 sH0 hD0
      have lb : (bs.map V.ref).length = (dotsL ns).length := hT1.length
      refine for_list (xs := bs.map V.ref) (fun n σ G => (∃ a2 a3, σ = [some (.ref r), some (.ref D), a2, a3, some (.ref R)]) ∧ Same H G ∧ SameX R G0 G ∧ Ls G rowV R (((dotsL ns).take n).flatMap (cellsAt (dotsL ns))))
        ⟨⟨_, _, rfl⟩, sH0, (Same.refl _).x R, [], hR0, .nil⟩ (fun n σ G _ p => SqL.of (p.2.2.1 _ _ nlR hl0)) (fun n v σ G2 hv p => ?_) (fun σ G2 p => ?_)
      · obtain ⟨⟨a2, a3, rfl⟩, s2, sx, hL⟩ := p
        obtain ⟨z, hz1, tz⟩ := hT1.get hv
        obtain ⟨a, rfl, ha⟩ := tz
        have naR : a ≠ R := ne_of ha hR0 (fun z => nomatch z)
        have ha2 := sx _ _ naR ha
        refine ⟨a, placeV z, rfl, .inl (.inl ha2), rfl, ?_⟩
        (repeat (first | refine ⟨_, rfl, ?_⟩ | refine ⟨_, _, rfl, rfl, ?_⟩ | refine ⟨_, _, rfl, ?_⟩ | refine ⟨rfl, ?_⟩))
        obtain ⟨acc, hR, hT⟩ := hL
        refine ⟨ty_lst hR, ?_⟩
        (repeat (first | refine ⟨_, rfl, ?_⟩ | refine ⟨_, _, rfl, rfl, ?_⟩ | refine ⟨_, _, rfl, ?_⟩ | refine ⟨rfl, ?_⟩))
        refine ⟨le_line (by simp), fun p np => ?_⟩
        have sp := Same.new (o := .tup (rowV ((z.1, z.2, .d), 1))) np
        have hn : n < (dotsL ns).length := (List.getElem?_eq_some_iff.mp hz1).1
        have lA : (((dotsL ns).take n).flatMap (cellsAt (dotsL ns))).length ≤ 10086 := by
          have h1 := flat_len ((dotsL ns).take n) (cellsAt (dotsL ns)) 6 fun p _ => cellsAt_len _ p
          rw [List.length_take] at h1
          have : min n (dotsL ns).length ≤ 1681 := Nat.le_trans (Nat.min_le_right _ _) lt
          omega
        have l1 := hT.length
        refine ⟨R, acc, _, rfl, rfl, sp _ _ hR, lt_line (m := 100000) (by omega) (by decide), ?_⟩
        have hL2 : Ls (upd (upd G2 p (.tup (rowV ((z.1, z.2, .d), 1)))) R (.lst (acc ++ [.ref p]))) rowV R _ := Ls.push (sp _ _ hR) (hT.mono sp) ⟨p, rfl, upd_same⟩
        have sx2 : SameX R G0 (upd (upd G2 p (.tup (rowV ((z.1, z.2, .d), 1)))) R (.lst (acc ++ [.ref p]))) := sx.trans ((sp.x R).trans SameX.put)
        have hone : ∀ z r, (oneIf (dotsL ns) z r).length ≤ 1 := fun z r => by unfold oneIf; split <;> simp
        have esn : ((dotsL ns).take (n + 1)).flatMap (cellsAt (dotsL ns)) = ((dotsL ns).take n).flatMap (cellsAt (dotsL ns)) ++ cellsAt (dotsL ns) z := flat_snoc _ hz1
        generalize hAA : ((dotsL ns).take n).flatMap (cellsAt (dotsL ns)) = AA at hL2 lA esn
        dsimp only [tSeq]
        refine app_if (dD := D) (R := R) (t := dotsL ns) (z := (z.1 + 1, z.2)) (r := ((z.1, z.2, .e), 1)) (by rfl) (by rfl) (fun G Q h => by (repeat (first | refine ⟨_, rfl, ?_⟩ | refine ⟨_, _, rfl, rfl, ?_⟩ | refine ⟨_, _, rfl, ?_⟩ | refine ⟨rfl, ?_⟩)); exact ⟨le_line (by simp), h⟩) (fun G Q h => by (repeat (first | refine ⟨_, rfl, ?_⟩ | refine ⟨_, _, rfl, rfl, ?_⟩ | refine ⟨_, _, rfl, ?_⟩ | refine ⟨rfl, ?_⟩)); exact ⟨le_line (by simp), h⟩) (sx2 _ _ nDR hD0) hL2 (by rw [List.length_append]; simp; omega) fun Gb sb hLb => ?_
        have sxb := sx2.trans sb
        have o1 := hone (z.1 + 1, z.2) ((z.1, z.2, .e), 1)
        dsimp only [tSeq]
        refine app_if (dD := D) (R := R) (t := dotsL ns) (z := (z.1 - 1, z.2 + 1)) (r := ((z.1, z.2, .w), 1)) (by rfl) (by rfl) (fun G Q h => by (repeat (first | refine ⟨_, rfl, ?_⟩ | refine ⟨_, _, rfl, rfl, ?_⟩ | refine ⟨_, _, rfl, ?_⟩ | refine ⟨rfl, ?_⟩)); exact ⟨le_line (by simp), h⟩) (fun G Q h => by (repeat (first | refine ⟨_, rfl, ?_⟩ | refine ⟨_, _, rfl, rfl, ?_⟩ | refine ⟨_, _, rfl, ?_⟩ | refine ⟨rfl, ?_⟩)); exact ⟨le_line (by simp), h⟩) (sxb _ _ nDR hD0) hLb (by simp only [List.length_append, List.length_singleton]; omega) fun Gc sc hLc => ?_
        have sxc := sxb.trans sc
        have o2 := hone (z.1 - 1, z.2 + 1) ((z.1, z.2, .w), 1)
        have hDc := sxc _ _ nDR hD0
        have endG : ∀ G', SameX R G0 G' → Same H G' := fun G' s => SameX.same nHR sH0 s
        (repeat (first | refine ⟨_, rfl, ?_⟩ | refine ⟨_, _, rfl, rfl, ?_⟩ | refine ⟨_, _, rfl, ?_⟩ | refine ⟨rfl, ?_⟩))
        refine ⟨le_line (by simp), fun q nq => ?_⟩
        have sq := Same.new (o := .tup (placeV (z.1, z.2 + 1))) nq
        (repeat (first | refine ⟨_, rfl, ?_⟩ | refine ⟨_, _, rfl, rfl, ?_⟩ | refine ⟨_, _, rfl, ?_⟩ | refine ⟨rfl, ?_⟩))
        refine ⟨D, _, rfl, DGet.t (k := placeK (z.1, z.2 + 1)) (sq _ _ hDc) upd_same, ?_⟩
        (repeat (first | refine ⟨_, rfl, ?_⟩ | refine ⟨_, _, rfl, rfl, ?_⟩ | refine ⟨_, _, rfl, ?_⟩ | refine ⟨rfl, ?_⟩))
        rw [dtB_val]
        refine itD (fun h => ?_) (fun h => ?_)
        · (repeat (first | refine ⟨_, rfl, ?_⟩ | refine ⟨_, _, rfl, rfl, ?_⟩ | refine ⟨_, _, rfl, ?_⟩ | refine ⟨rfl, ?_⟩))
          obtain ⟨acc3, hR3, hT3⟩ := hLc
          refine ⟨ty_lst (sq _ _ hR3), ?_⟩
          (repeat (first | refine ⟨_, rfl, ?_⟩ | refine ⟨_, _, rfl, rfl, ?_⟩ | refine ⟨_, _, rfl, ?_⟩ | refine ⟨rfl, ?_⟩))
          refine ⟨le_line (by simp), fun e ne => ?_⟩
          have se := Same.new (o := .tup (rowV ((z.1, z.2, .n), 1))) ne
          have l3 := hT3.length
          have hR4 := se _ _ (sq _ _ hR3)
          simp only [List.length_append, List.length_singleton] at l3
          refine ⟨R, acc3, _, rfl, rfl, hR4, lt_line (m := 100000) (by omega) (by decide), ?_⟩
          have hL4 := Ls.push (f := rowV) (x := ((z.1, z.2, .n), 1)) hR4 ((hT3.mono sq).mono se) ⟨e, rfl, upd_same⟩
          have sx4 := sxc.trans (((sq.trans se).x R).trans (SameX.put (o := .lst (acc3 ++ [.ref e]))))
          dsimp only [tSeq]
          refine app_if (dD := D) (R := R) (t := dotsL ns) (z := (z.1 + 1, z.2)) (r := ((z.1, z.2, .u), 1)) (by rfl) (by rfl) (fun G Q h => by (repeat (first | refine ⟨_, rfl, ?_⟩ | refine ⟨_, _, rfl, rfl, ?_⟩ | refine ⟨_, _, rfl, ?_⟩ | refine ⟨rfl, ?_⟩)); exact ⟨le_line (by simp), h⟩) (fun G Q h => by (repeat (first | refine ⟨_, rfl, ?_⟩ | refine ⟨_, _, rfl, rfl, ?_⟩ | refine ⟨_, _, rfl, ?_⟩ | refine ⟨rfl, ?_⟩)); exact ⟨le_line (by simp), h⟩) (sx4 _ _ nDR hD0) hL4 (by simp only [List.length_append, List.length_singleton]; omega) fun Gd sd hLd => ?_
          have sxd := sx4.trans sd
          have o3 := hone (z.1 + 1, z.2) ((z.1, z.2, .u), 1)
          dsimp only [tSeq]
          refine app_if (dD := D) (R := R) (t := dotsL ns) (z := (z.1 - 1, z.2 + 1)) (r := ((z.1, z.2, .v), 1)) (by rfl) (by rfl) (fun G Q h => by (repeat (first | refine ⟨_, rfl, ?_⟩ | refine ⟨_, _, rfl, rfl, ?_⟩ | refine ⟨_, _, rfl, ?_⟩ | refine ⟨rfl, ?_⟩)); exact ⟨le_line (by simp), h⟩) (fun G Q h => by (repeat (first | refine ⟨_, rfl, ?_⟩ | refine ⟨_, _, rfl, rfl, ?_⟩ | refine ⟨_, _, rfl, ?_⟩ | refine ⟨rfl, ?_⟩)); exact ⟨le_line (by simp), h⟩) (sxd _ _ nDR hD0) hLd (by simp only [List.length_append, List.length_singleton]; omega) fun Ge se2 hLe => ?_
          have sxe := sxd.trans se2
          refine ⟨⟨_, _, rfl⟩, endG _ sxe, sxe, ?_⟩
          rw [esn]
          unfold cellsAt
          rw [if_pos h]
          simpa only [List.append_assoc] using hLe
        · have sxq := sxc.trans (sq.x R)
          refine ⟨⟨_, _, rfl⟩, endG _ sxq, sxq, ?_⟩
          rw [esn]
          unfold cellsAt
          rw [if_neg h, List.append_nil]
          have h9 := hLc.mono sq
          simp only [List.append_assoc] at h9 ⊢
          exact h9
      · obtain ⟨⟨a2, a3, rfl⟩, s2, sx, ⟨acc, hR, hT⟩⟩ := p
        rw [List.take_of_length_le (by omega)] at hT
        (repeat (first | refine ⟨_, rfl, ?_⟩ | refine ⟨_, _, rfl, rfl, ?_⟩ | refine ⟨_, _, rfl, ?_⟩ | refine ⟨rfl, ?_⟩))
        refine r_sort dat_row (SqL.of hR) hT fun p ws ys np yp yw yT => ?_
        exact k p ys _ (s2.trans (Same.new np)) (s2.none np) ⟨ws, upd_same, yT.mono (Same.new np)⟩ yp
end
end SV
end

section
set_option Elab.async false
set_option linter.all false
set_option maxRecDepth 100000
set_option maxHeartbeats 4000000
/-! Any pen, what lies beside. -/
namespace SV
open PySem PySem.Spec PyProof.Rows L2
theorem SheetD.ne {cSh : Addr} {H : Hp} {a d d2 : Addr} {s : List Row} (h : SheetD cSh H a s d) (n : H d2 = none) : d ≠ d2 := by
  obtain ⟨_, _, _, _, _, _, h4⟩ := h
  exact ne_of_none h4 n
theorem addL_len (ns ms : List Int) (t : Int) : (addL ns ms t).length = 6 := by unfold addL; simp
theorem reachOf_len (cs : List Kd) : (reachOf cs).length = 6 := by
  unfold reachOf
  have : ∀ (l : List Kd) (ns : List Int), ns.length = 6 → (l.foldl (fun ns k => addL ns (unitL k) 1) ns).length = 6 := by
    intro l
    induction l with
    | nil => exact fun ns h => h
    | cons k r ih => exact fun ns h => ih _ (addL_len _ _ _)
  exact this cs _ rfl
theorem reachOf_snoc (cs : List Kd) (c : Kd) : reachOf (cs ++ [c]) = addL (reachOf cs) (unitL c) 1 := by
  unfold reachOf
  rw [List.foldl_append]
  rfl
theorem unitL_len (c : Kd) : (unitL c).length = 6 := by cases c <;> rfl
theorem Ls.monoX {α : Type} {f : α → List V} {H H' : Hp} {p l : Addr} {xs : List α} (h : Ls H f l xs) (sx : SameX p H H') (hp : PotAt H p) (n : l ≠ p) : Ls H' f l xs := let ⟨vs, h1, h2⟩ := h; ⟨vs, sx _ _ n h1, h2.monoT (sx.t hp)⟩
section
variable {P : Program} {w : World} {K : PySem.W.Frag} {mg : Str → Option Value} {base : Heap} {f : Addr} {fd : FuncData} {cTu cSp cVi cSh : Addr}
/- _law_any_pen -/
abbrev N__law_any_pen : List Str := ["_law_pot", "_law_reaches", "_law_many", "_law_kind", "_law_rows", "_law_taken", "_law_less", "_law_brush"]
abbrev P__law_any_pen : List Str := ["_law_pot"]
theorem sc_law_any_pen : FnScope N__law_any_pen P__law_any_pen (defScope s__law_any_pen) := ⟨rfl, rfl, rfl, by decide +kernel, rfl, by decide +kernel, by decide +kernel⟩
/- _law_beside -/
abbrev N__law_beside : List Str := ["_law_pot", "_law_form", "_law_base", "_law_move", "_law_times", "_law_x", "_law_y", "_law_pick", "_law_ink"]
abbrev P__law_beside : List Str := ["_law_pot", "_law_form", "_law_base", "_law_move"]
theorem sc_law_beside : FnScope N__law_beside P__law_beside (defScope s__law_beside) := ⟨rfl, rfl, rfl, by decide +kernel, rfl, by decide +kernel, by decide +kernel⟩
def spAnyPen : Sp := fun vs H Q _ => ∃ p : Addr, vs = [.ref p] ∧ PotAt H p ∧ ∀ a r l ns L H', SameX p H H' → PotAt H' p → H' a = some (.tup [.ref r, .ref l]) → p ≠ r → p ≠ l → Il H' r ns → Ls H' rowV l L → PenOk ns L → Q (.ref a) H'
theorem ok_any_pen (T : Txt K w mg) (TC : TxtC K cTu cSp cVi cSh) (TM : TxtM K mg cTu cSp cVi cSh) (F : GDef K "_law_any_pen" s__law_any_pen f fd) (c__law_draw : Cal P w K mg base CX0 "_law_draw" P__law_draw 1 spDraw) (c__law_added : Cal P w K mg base CX0 "_law_added" P__law_added 1 spAdded) (c__law_unit : Cal P w K mg base CX0 "_law_unit" P__law_unit 1 spUnit)
    (c__law_filled : Cal P w K mg base CX0 "_law_filled" P__law_filled 1 spFilled) (c__law_kind_at : Cal P w K mg base CX0 "_law_kind_at" P__law_kind_at 1 spKindAt) (c__law_counter : Cal P w K mg base CX0 "_law_counter" P__law_counter 2 spLCounter) (c__law_rows_of : Cal P w K mg base CX0 "_law_rows_of" P__law_rows_of 6 (spRowsOf cSh))
    (mk_Sheet : Mkr P w K mg base CX0 "Sheet" cSh P_Sheet___init__ 2 (spShInit cSh)) (c___mul__ : Met P w K mg base CX0 cSh "__mul__" P_Sheet___mul__ 5 (spMul cSh)) : FnOk P w K mg base CX0 7 f fd P__law_any_pen spAnyPen := by
  refine F.ok sc_law_any_pen (fun vs H Q E h => ?_) (fun cdv A outer s H vs Q E hr h => ?_)
  · obtain ⟨d, rfl, _⟩ := h; rfl
  · obtain ⟨p, rfl, hp, k⟩ := h
    refine ⟨_, PSs.nox (pss_cons (ps_set (i := 1) sc_law_any_pen.nd rfl (Or.inl rfl) (pe_lst (pa_cons pe_int (pa_cons pe_int (pa_cons pe_int (pa_cons pe_int (pa_cons pe_int (pa_cons pe_int pa_nil))))))))
      (pss_cons (ps_set (i := 2) sc_law_any_pen.nd rfl (Or.inl rfl) pe_int)
      (pss_cons (ps_for PassesOwn.never rfl (pi_list (pe_lst (pa_cons pe_str (pa_cons pe_str (pa_cons pe_str (pa_cons pe_str (pa_cons pe_str pa_nil))))))) (pg_name (i := 3) sc_law_any_pen.nd rfl (Or.inl rfl))
        (pss_one (ps_if (PW.pt (pw_and (pt_cmpR op_eq (pe_cal c__law_draw (hr.mono (by decide)) rfl (pa_cons (pv 0) (pa_cons pe_int pa_nil))) pe_int (nomark _)) (pw_and1 (pt_cmpR op_lt (pv 2) pe_int (nomark _)))))
          (pss_cons (ps_set (i := 1) sc_law_any_pen.nd rfl (Or.inl rfl) (pe_cal c__law_added (hr.mono (by decide)) rfl (pa_cons (pv 1) (pa_cons (pe_cal c__law_unit (hr.mono (by decide)) rfl (pa_cons (pv 3) pa_nil)) (pa_cons pe_int pa_nil)))))
          (pss_one (ps_set (i := 2) sc_law_any_pen.nd rfl (Or.inl rfl) (pe_op op_add (pv 2) pe_int))))
          pss_nil)))
      (pss_cons (ps_set (i := 4) sc_law_any_pen.nd rfl (Or.inl rfl) (pe_cal c__law_filled (hr.mono (by decide)) rfl (pa_cons (pv 1) pa_nil)))
      (pss_cons (ps_set (i := 5) sc_law_any_pen.nd rfl (Or.inl rfl) (pe_cal c__law_draw (hr.mono (by decide)) rfl (pa_cons (pv 0) (pa_cons pe_int pa_nil))))
      (pss_cons (ps_if (pt_cmpR op_eq (pv 5) pe_int (nomark _))
        (pss_one (ps_ret (pe_tup (pa_cons (pv 1) (pa_cons (pv 4) pa_nil)))))
        pss_nil)
      (pss_cons (ps_set (i := 3) sc_law_any_pen.nd rfl (Or.inl rfl) (pe_cal c__law_kind_at (hr.mono (by decide)) rfl (pa_cons (pe_op op_add pe_int (pe_cal c__law_draw (hr.mono (by decide)) rfl (pa_cons (pv 0) (pa_cons pe_int pa_nil)))) pa_nil)))
      (pss_cons (ps_set (i := 6) sc_law_any_pen.nd rfl (Or.inl rfl) (pe_cal c__law_added (hr.mono (by decide)) rfl (pa_cons (pe_lst (pa_cons pe_int (pa_cons pe_int (pa_cons pe_int (pa_cons pe_int (pa_cons pe_int (pa_cons pe_int pa_nil))))))) (pa_cons (pe_cal c__law_unit (hr.mono (by decide)) rfl (pa_cons (pv 3) pa_nil)) (pa_cons (pv 5) pa_nil)))))
      (pss_cons (ps_set (i := 7) sc_law_any_pen.nd rfl (Or.inl rfl) (pe_mkC mk_Sheet (hr.mono (by decide)) rfl (pa_cons (pe_cal c__law_counter (hr.mono (by decide)) rfl (pa_cons (pe_cal c__law_filled (hr.mono (by decide)) rfl (pa_cons (pv 6) pa_nil)) pa_nil)) pa_nil)))
      (pss_one (ps_ret (pe_tup (pa_cons (pe_cal c__law_added (hr.mono (by decide)) rfl (pa_cons (pv 1) (pa_cons (pv 6) (pa_cons (pe_un un_neg pe_int) pa_nil)))) (pa_cons (pe_cal c__law_rows_of (hr.mono (by decide)) rfl (pa_cons (pe_op (op_mulC TM.sf c___mul__ (hr.mono (by decide))) (pe_mkC mk_Sheet (hr.mono (by decide)) rfl (pa_cons (pv 4) pa_nil)) (pv 7)) pa_nil)) pa_nil)))))))))))))), ?_⟩
    (repeat (first | refine ⟨_, rfl, ?_⟩ | refine ⟨_, _, rfl, rfl, ?_⟩ | refine ⟨_, _, rfl, ?_⟩ | refine ⟨rfl, ?_⟩))
    refine ⟨le_line (by simp), fun R nR => ?_⟩
    have sR := Same.new (o := .lst [.int 0, .int 0, .int 0, .int 0, .int 0, .int 0]) nR
    (repeat (first | refine ⟨_, rfl, ?_⟩ | refine ⟨_, _, rfl, rfl, ?_⟩ | refine ⟨_, _, rfl, ?_⟩ | refine ⟨rfl, ?_⟩))
    refine ⟨le_line (by simp), fun l nl => ?_⟩
    have sl := Same.new (o := .lst [.str "e", .str "n", .str "w", .str "u", .str "v"]) nl
    have s0 := sR.trans sl
    refine ⟨l, rfl, ⟨_, SqL.of upd_same⟩, ?_⟩
    have pl : p ≠ l := hp.ne (sR.none nl)
    refine for_list (xs := [.str "e", .str "n", .str "w", .str "u", .str "v"]) (fun i σ G => (∃ (rr : Addr) (cs : List Kd) (a3 : Option V), σ = [some (.ref p), some (.ref rr), some (.int (cs.length : Nat)), a3, none, none, none, none] ∧ Il G rr (reachOf cs) ∧ p ≠ rr ∧ cs.Sublist (([.e, .n, .w, .u, .v] : List Kd).take i) ∧ cs.length ≤ 3) ∧ SameX p H G ∧ PotAt G p ∧ G l = some (.lst [.str "e", .str "n", .str "w", .str "u", .str "v"]))
      ⟨⟨R, [], none, rfl, sl _ _ upd_same, hp.ne nR, List.Sublist.refl _, by decide⟩, s0.x p, hp.mono s0, upd_same⟩ (fun i σ G _ q => SqL.of q.2.2.2) (fun i v σ G hv q => ?_) (fun σ G q => ?_)
    · obtain ⟨⟨rr, cs, a3, rfl, hrr, npr, hsub, hlen⟩, sx, pG, hlG⟩ := q
      have hi : i < 5 := (List.getElem?_eq_some_iff.mp hv).1
      obtain ⟨c, hc, rfl⟩ : ∃ c : Kd, ([.e, .n, .w, .u, .v] : List Kd)[i]? = some c ∧ v = .str (kS c) := by
        match i, hi, hv with
        | 0, _, hv => exact ⟨.e, rfl, (Option.some.inj hv).symm⟩
        | 1, _, hv => exact ⟨.n, rfl, (Option.some.inj hv).symm⟩
        | 2, _, hv => exact ⟨.w, rfl, (Option.some.inj hv).symm⟩
        | 3, _, hv => exact ⟨.u, rfl, (Option.some.inj hv).symm⟩
        | 4, _, hv => exact ⟨.v, rfl, (Option.some.inj hv).symm⟩
      (repeat (first | refine ⟨_, rfl, ?_⟩ | refine ⟨_, _, rfl, rfl, ?_⟩ | refine ⟨_, _, rfl, ?_⟩ | refine ⟨rfl, ?_⟩))
      refine ⟨by decide, by decide, pG, fun d G1 g1 g2 s1 p1 => ?_⟩
      (repeat (first | refine ⟨_, rfl, ?_⟩ | refine ⟨_, _, rfl, rfl, ?_⟩ | refine ⟨_, _, rfl, ?_⟩ | refine ⟨rfl, ?_⟩))
      have hrr1 : Il G1 rr (reachOf cs) := s1 _ _ (Ne.symm npr) hrr
      have hl1 := s1 _ _ (Ne.symm pl) hlG
      have sub1 : cs.Sublist (([.e, .n, .w, .u, .v] : List Kd).take (i + 1)) := hsub.trans (by rw [take_snoc hc]; exact List.sublist_append_left _ _)
      have skip : SameX p H G1 := sx.trans s1
      refine itD (fun h => ?_) (fun h => ?_)
      · (repeat (first | refine ⟨_, rfl, ?_⟩ | refine ⟨_, _, rfl, rfl, ?_⟩ | refine ⟨_, _, rfl, ?_⟩ | refine ⟨rfl, ?_⟩))
        refine itD (fun h2 => ?_) (fun h2 => ?_)
        · (repeat (first | refine ⟨_, rfl, ?_⟩ | refine ⟨_, _, rfl, rfl, ?_⟩ | refine ⟨_, _, rfl, ?_⟩ | refine ⟨rfl, ?_⟩))
          intro u G2 s2 nu hu2
          (repeat (first | refine ⟨_, rfl, ?_⟩ | refine ⟨_, _, rfl, rfl, ?_⟩ | refine ⟨_, _, rfl, ?_⟩ | refine ⟨rfl, ?_⟩))
          refine ⟨rr, u, reachOf cs, unitL c, 1, rfl, reachOf_len cs, unitL_len c, by decide, by decide, s2 _ _ hrr1, hu2, fun r2 G3 s3 nr2 hr2 => ?_⟩
          (repeat (first | refine ⟨_, rfl, ?_⟩ | refine ⟨_, _, rfl, rfl, ?_⟩ | refine ⟨_, _, rfl, ?_⟩ | refine ⟨rfl, ?_⟩))
          refine ⟨⟨r2, cs ++ [c], some (.str (kS c)), ?_, ?_, ?_, ?_, ?_⟩, skip.trans ((s2.trans s3).x p), p1.mono (s2.trans s3), (s2.trans s3) _ _ hl1⟩
          · rw [List.length_append]
            rfl
          · rw [reachOf_snoc]
            exact hr2
          · exact (p1.mono s2).ne nr2
          · rw [take_snoc hc]
            exact hsub.append_right _
          · rw [List.length_append]
            have : (cs.length : Int) < 3 := h2
            simp
            omega
        · exact ⟨⟨rr, cs, _, rfl, hrr1, npr, sub1, hlen⟩, skip, p1, hl1⟩
      · exact ⟨⟨rr, cs, _, rfl, hrr1, npr, sub1, hlen⟩, skip, p1, hl1⟩
    · obtain ⟨⟨rr, cs, a3, rfl, hrr, npr, hsub, hlen⟩, sx, pG, hlG⟩ := q
      have hpen : PenB (reachOf cs) := penB_ok (pens_ok cs (sub_mem hsub) hlen)
      (repeat (first | refine ⟨_, rfl, ?_⟩ | refine ⟨_, _, rfl, rfl, ?_⟩ | refine ⟨_, _, rfl, ?_⟩ | refine ⟨rfl, ?_⟩))
      refine ⟨rr, reachOf cs, rfl, hpen.len, hpen.small, hrr, fun lf F G1 s1 nlf hF hperm => ?_⟩
      (repeat (first | refine ⟨_, rfl, ?_⟩ | refine ⟨_, _, rfl, rfl, ?_⟩ | refine ⟨_, _, rfl, ?_⟩ | refine ⟨rfl, ?_⟩))
      have p1 := pG.mono s1
      have hrr1 : Il G1 rr (reachOf cs) := s1 _ _ hrr
      have nplf : p ≠ lf := pG.ne nlf
      refine ⟨by decide, by decide, p1, fun d G2 g1 g2 s2 p2 => ?_⟩
      (repeat (first | refine ⟨_, rfl, ?_⟩ | refine ⟨_, _, rfl, rfl, ?_⟩ | refine ⟨_, _, rfl, ?_⟩ | refine ⟨rfl, ?_⟩))
      have sx2 : SameX p H G2 := sx.trans ((s1.x p).trans s2)
      have hF2 := hF.monoX s2 p1 (Ne.symm nplf)
      have hrr2 : Il G2 rr (reachOf cs) := s2 _ _ (Ne.symm npr) hrr1
      refine itD (fun h => ?_) (fun h => ?_)
      · (repeat (first | refine ⟨_, rfl, ?_⟩ | refine ⟨_, _, rfl, rfl, ?_⟩ | refine ⟨_, _, rfl, ?_⟩ | refine ⟨rfl, ?_⟩))
        refine ⟨le_line (by simp), fun a na => ?_⟩
        have sa := Same.new (o := .tup [.ref rr, .ref lf]) na
        exact k a rr lf (reachOf cs) F _ (sx2.trans (sa.x p)) (p2.mono sa) upd_same npr nplf (sa _ _ hrr2) (hF2.mono sa) (hpen.ok hperm)
      · have hd : d = 1 ∨ d = 2 := by
          have : ¬ d = 0 := fun e => h (by rw [e])
          omega
        (repeat (first | refine ⟨_, rfl, ?_⟩ | refine ⟨_, _, rfl, rfl, ?_⟩ | refine ⟨_, _, rfl, ?_⟩ | refine ⟨rfl, ?_⟩))
        refine ⟨by decide, by decide, p2, fun e G3 g3 g4 s3 p3 => ?_⟩
        (repeat (first | refine ⟨_, rfl, ?_⟩ | refine ⟨_, _, rfl, rfl, ?_⟩ | refine ⟨_, _, rfl, ?_⟩ | refine ⟨rfl, ?_⟩))
        intro G4 s4
        have p4 := p3.mono s4
        have s34 : SameX p G2 G4 := s3.trans (s4.x p)
        have hF4 := hF2.monoX s34 p2 (Ne.symm nplf)
        have hrr4 : Il G4 rr (reachOf cs) := s34 _ _ (Ne.symm npr) hrr2
        have sx4 := sx2.trans s34
        have hc : kd6 ((1 + e) % 6).toNat ≠ .d := by
          have h1 : (1 + e) % 6 = 1 + e := Int.emod_eq_of_lt (by omega) (by omega)
          rw [h1]
          have : (1 + e).toNat = 1 ∨ (1 + e).toNat = 2 ∨ (1 + e).toNat = 3 ∨ (1 + e).toNat = 4 ∨ (1 + e).toNat = 5 := by omega
          rcases this with e | e | e | e | e <;> rw [e] <;> exact fun z => nomatch z
        have hless := less_ok _ hc d hd
        have hpl : PenB (lessOf (kd6 ((1 + e) % 6).toNat) d) := penB_ok (by unfold lessB at hless; rw [Bool.and_eq_true] at hless; exact hless.1)
        (repeat (first | refine ⟨_, rfl, ?_⟩ | refine ⟨_, _, rfl, rfl, ?_⟩ | refine ⟨_, _, rfl, ?_⟩ | refine ⟨rfl, ?_⟩))
        refine ⟨le_line (by simp), fun z0 nz0 => ?_⟩
        have sz0 := Same.new (o := .lst [.int 0, .int 0, .int 0, .int 0, .int 0, .int 0]) nz0
        (repeat (first | refine ⟨_, rfl, ?_⟩ | refine ⟨_, _, rfl, rfl, ?_⟩ | refine ⟨_, _, rfl, ?_⟩ | refine ⟨rfl, ?_⟩))
        intro u G5 s5 nu hu5
        (repeat (first | refine ⟨_, rfl, ?_⟩ | refine ⟨_, _, rfl, rfl, ?_⟩ | refine ⟨_, _, rfl, ?_⟩ | refine ⟨rfl, ?_⟩))
        have s45 := sz0.trans s5
        refine ⟨z0, u, [0, 0, 0, 0, 0, 0], unitL _, d, rfl, rfl, unitL_len _, by omega, by omega, s5 _ _ upd_same, hu5, fun le G6 s6 nle hle => ?_⟩
        (repeat (first | refine ⟨_, rfl, ?_⟩ | refine ⟨_, _, rfl, rfl, ?_⟩ | refine ⟨_, _, rfl, ?_⟩ | refine ⟨rfl, ?_⟩))
        have s46 := s45.trans s6
        refine ⟨le, lessOf (kd6 ((1 + e) % 6).toNat) d, rfl, hpl.len, hpl.small, hle, fun lf2 F2 G7 s7 nlf2 hF2' hperm2 => ?_⟩
        (repeat (first | refine ⟨_, rfl, ?_⟩ | refine ⟨_, _, rfl, rfl, ?_⟩ | refine ⟨_, _, rfl, ?_⟩ | refine ⟨rfl, ?_⟩))
        refine ⟨lf2, F2, rfl, ?_, hF2', fun o os G8 s8 no hos hcan => ?_⟩
        · rw [hperm2.length_eq]
          have := hpl.few
          omega
        have hosl : os.length ≤ 273 := by
          have h1 := hcan.length
          have h2 : (ctrL F2).length ≤ F2.length * 7 := flat_len _ ctrR 7 fun r _ => ctrR_len r
          have h3 := hperm2.length_eq
          have h4 := hpl.few
          omega
        (repeat (first | refine ⟨_, rfl, ?_⟩ | refine ⟨_, _, rfl, rfl, ?_⟩ | refine ⟨_, _, rfl, ?_⟩ | refine ⟨rfl, ?_⟩))
        intro x dx nx ndx ne
        refine mk_sh nx ndx ne hos.sq (by omega) fun G9 t dt s9 hst hndt hct => ⟨rfl, ?_⟩
        have s49 := s46.trans (s7.trans (s8.trans s9))
        have p9 := p4.mono s49
        have hrr9 : Il G9 rr (reachOf cs) := s49 _ _ hrr4
        have hle9 : Il G9 le (lessOf (kd6 ((1 + e) % 6).toNat) d) := (s7.trans (s8.trans s9)) _ _ hle
        have hF9 := hF4.mono s49
        (repeat (first | refine ⟨_, rfl, ?_⟩ | refine ⟨_, _, rfl, rfl, ?_⟩ | refine ⟨_, _, rfl, ?_⟩ | refine ⟨rfl, ?_⟩))
        refine ⟨rr, le, reachOf cs, lessOf (kd6 ((1 + e) % 6).toNat) d, _, rfl, hpen.len, hpl.len, by decide, by decide, hrr9, hle9, fun rl G10 s10 nrl hrl => ?_⟩
        (repeat (first | refine ⟨_, rfl, ?_⟩ | refine ⟨_, _, rfl, rfl, ?_⟩ | refine ⟨_, _, rfl, ?_⟩ | refine ⟨rfl, ?_⟩))
        intro x2 dx2 nx2 ndx2 ne2
        have hFl : F.length ≤ 39 := by rw [hperm.length_eq]; exact hpen.few
        refine mk_sh nx2 ndx2 ne2 (hF9.mono s10).sq (by omega) fun G11 sA dA s11 hsA hndA hcA => ⟨rfl, ?_⟩
        have hB11 := hst.mono (s10.trans s11)
        have nAB : dA ≠ dt := Ne.symm ((hst.mono s10).ne hndA)
        obtain ⟨q1, q2, q3, q4⟩ := pen_less (u := []) hpen hless hperm hperm2 hcA hcan hct
        (repeat (first | refine ⟨_, rfl, ?_⟩ | refine ⟨_, _, rfl, rfl, ?_⟩ | refine ⟨_, _, rfl, ?_⟩ | refine ⟨rfl, ?_⟩))
        obtain ⟨dx3, z3, ws3, f1, f2⟩ := hsA
        obtain ⟨dx4, z4, ws4, f3, f4⟩ := hB11
        refine ⟨x2, x, _, _, _, _, rfl, rfl, f1, f3, x2, x, dA, dt, sA, t, rfl, ⟨dx3, z3, ws3, f1, f2⟩, ⟨dx4, z4, ws4, f3, f4⟩, nAB, by omega, q1, fun p hp => by have := q3 p hp; omega, fun y G12 v dv s12 hv hnv hcv => ?_⟩
        (repeat (first | refine ⟨_, rfl, ?_⟩ | refine ⟨_, _, rfl, rfl, ?_⟩ | refine ⟨_, _, rfl, ?_⟩ | refine ⟨rfl, ?_⟩))
        have hpo : PenOk (addL (reachOf cs) (lessOf (kd6 ((1 + e) % 6).toNat) d) (-1)) v := (pen_less hpen hless hperm hperm2 hcA hcan hct).2.2.2 hcv
        refine ⟨y, _, v, rfl, by have := hpo.few; omega, hv.at, hcv, fun ol G13 s13 nol hol => ?_⟩
        (repeat (first | refine ⟨_, rfl, ?_⟩ | refine ⟨_, _, rfl, rfl, ?_⟩ | refine ⟨_, _, rfl, ?_⟩ | refine ⟨rfl, ?_⟩))
        have s1013 := s11.trans (s12.trans s13)
        refine ⟨le_line (by simp), fun a na => ?_⟩
        have sa := Same.new (o := .tup [.ref rl, .ref ol]) na
        exact k a rl ol _ v _ (sx4.trans (((s49.trans s10).trans (s1013.trans sa)).x p)) (p9.mono (s10.trans (s1013.trans sa))) upd_same (p9.ne nrl) ((p9.mono (s10.trans (s11.trans s12))).ne nol) ((s1013.trans sa) _ _ hrl) (hol.mono sa) hpo
def spBeside : Sp := fun vs H Q _ => ∃ (p lb : Addr) (fm : Int) (mv : V) (B : List Row) (z : Place), vs = [.ref p, .int fm, .ref lb, mv] ∧ PotAt H p ∧ p ≠ lb ∧ Ls H rowV lb B ∧ B.length ≤ 60000 ∧ (∀ r ∈ B, -1000000000 ≤ r.2 ∧ r.2 ≤ 1000000000) ∧ Tp H (placeV z) mv ∧
  ∀ l O H', SameX p H H' → H l = none → Ls H' rowV l O → O.length ≤ 60010 → (∀ r ∈ O, -4000000000 ≤ r.2 ∧ r.2 ≤ 4000000000) → Q (.ref l) H'
theorem ok_beside (T : Txt K w mg) (F : GDef K "_law_beside" s__law_beside f fd) (c__law_draw : Cal P w K mg base CX0 "_law_draw" P__law_draw 1 spDraw) (c__law_moved : Cal P w K mg base CX0 "_law_moved" P__law_moved 1 spMoved) (c__law_some_cells : Cal P w K mg base CX0 "_law_some_cells" P__law_some_cells 3 spSomeCells)
    (c__law_drawn_ink : Cal P w K mg base CX0 "_law_drawn_ink" P__law_drawn_ink 2 spInk) (c__law_tuft : Cal P w K mg base CX0 "_law_tuft" P__law_tuft 2 spTuft) (c__law_kind_at : Cal P w K mg base CX0 "_law_kind_at" P__law_kind_at 1 spKindAt) : FnOk P w K mg base CX0 4 f fd P__law_beside spBeside := by
  refine F.ok sc_law_beside (fun vs H Q E h => ?_) (fun cdv A outer s H vs Q E hr h => ?_)
  · obtain ⟨p, lb, fm, mv, B, z, rfl, _⟩ := h; rfl
  · obtain ⟨p, lb, fm, mv, B, z, rfl, hp, npl, hB, hz, hb, ⟨m, rfl, hm⟩, k⟩ := h
    refine ⟨_, PSs.nox (pss_cons (ps_if (pt_cmpR op_eq (pv 1) pe_int (nomark _))
        (pss_cons (ps_set (i := 4) sc_law_beside.nd rfl (Or.inl rfl) (pe_ix ix_list (pe_lst (pa_cons pe_int (pa_cons (pe_un un_neg pe_int) (pa_cons pe_int (pa_cons pe_int (pa_cons (pe_un un_neg pe_int) pa_nil)))))) (pe_cal c__law_draw (hr.mono (by decide)) rfl (pa_cons (pv 0) (pa_cons pe_int pa_nil))) (fun _ _ => rfl)))
        (pss_one (ps_ret (pe_cal c__law_moved (hr.mono (by decide)) rfl (pa_cons (pv 2) (pa_cons pe_int (pa_cons pe_int (pa_cons (pv 4) pa_nil))))))))
        pss_nil)
      (pss_cons (ps_if (pt_cmpR op_eq (pv 1) pe_int (nomark _))
        (pss_one (ps_ret (pe_cal c__law_some_cells (hr.mono (by decide)) rfl (pa_cons (pv 0) (pa_cons pe_int (pa_cons pe_int pa_nil))))))
        pss_nil)
      (pss_cons (ps_set (i := 5) sc_law_beside.nd rfl (Or.inl rfl) (pe_op op_add (pe_op op_sub (pe_cal c__law_draw (hr.mono (by decide)) rfl (pa_cons (pv 0) (pa_cons pe_int pa_nil))) pe_int) (pe_ix ix_tup (pv 3) pe_int (fun _ _ => rfl))))
      (pss_cons (ps_set (i := 6) sc_law_beside.nd rfl (Or.inl rfl) (pe_op op_add (pe_op op_sub (pe_cal c__law_draw (hr.mono (by decide)) rfl (pa_cons (pv 0) (pa_cons pe_int pa_nil))) pe_int) (pe_ix ix_tup (pv 3) pe_int (fun _ _ => rfl))))
      (pss_cons (ps_set (i := 7) sc_law_beside.nd rfl (Or.inl rfl) (pe_cal c__law_draw (hr.mono (by decide)) rfl (pa_cons (pv 0) (pa_cons pe_int pa_nil))))
      (pss_cons (ps_set (i := 8) sc_law_beside.nd rfl (Or.inl rfl) (pe_cal c__law_drawn_ink (hr.mono (by decide)) rfl (pa_cons (pv 0) pa_nil)))
      (pss_cons (ps_if (pt_cmpR op_lt (pv 7) pe_int (nomark _))
        (pss_one (ps_ret (pe_op op_cat (pv 2) (pe_cal c__law_tuft (hr.mono (by decide)) rfl (pa_cons (pv 7) (pa_cons (pv 5) (pa_cons (pv 6) (pa_cons (pv 8) pa_nil))))))))
        pss_nil)
      (pss_one (ps_ret (pe_op op_cat (pv 2) (pe_lst (pa_cons (pe_tup (pa_cons (pv 5) (pa_cons (pv 6) (pa_cons (pe_cal c__law_kind_at (hr.mono (by decide)) rfl (pa_cons (pv 7) pa_nil)) (pa_cons (pv 8) pa_nil))))) pa_nil)))))))))))), ?_⟩
    have npm : m ≠ p := by
      obtain ⟨ns, hn, _⟩ := hp
      exact ne_of hm hn (fun z => nomatch z)
    (repeat (first | refine ⟨_, rfl, ?_⟩ | refine ⟨_, _, rfl, rfl, ?_⟩ | refine ⟨_, _, rfl, ?_⟩ | refine ⟨rfl, ?_⟩))
    refine itD (fun h => ?_) (fun h => ?_)
    · (repeat (first | refine ⟨_, rfl, ?_⟩ | refine ⟨_, _, rfl, rfl, ?_⟩ | refine ⟨_, _, rfl, ?_⟩ | refine ⟨rfl, ?_⟩))
      refine ⟨le_line (by simp), fun q nq => ?_⟩
      have sq := Same.new (o := .lst [.int 2, .int (-1), .int 0, .int 3, .int (-2)]) nq
      (repeat (first | refine ⟨_, rfl, ?_⟩ | refine ⟨_, _, rfl, rfl, ?_⟩ | refine ⟨_, _, rfl, ?_⟩ | refine ⟨rfl, ?_⟩))
      refine ⟨by decide, by decide, hp.mono sq, fun d G1 g1 g2 s1 p1 => ?_⟩
      have npq := hp.ne nq
      have hq1 : G1 q = some (.lst [.int 2, .int (-1), .int 0, .int 3, .int (-2)]) := s1 _ _ (Ne.symm npq) upd_same
      obtain ⟨t, ht, t1, t2⟩ : ∃ t : Int, [V.int 2, .int (-1), .int 0, .int 3, .int (-2)][d.toNat]? = some (.int t) ∧ -3 ≤ t ∧ t ≤ 3 := by
        have : d.toNat < 5 := by omega
        generalize d.toNat = n at this
        match n, this with
        | 0, _ => exact ⟨2, rfl, by decide, by decide⟩
        | 1, _ => exact ⟨-1, rfl, by decide, by decide⟩
        | 2, _ => exact ⟨0, rfl, by decide, by decide⟩
        | 3, _ => exact ⟨3, rfl, by decide, by decide⟩
        | 4, _ => exact ⟨-2, rfl, by decide, by decide⟩
      have hat : atI [V.int 2, .int (-1), .int 0, .int 3, .int (-2)] d = some (.int t) := by
        have h1 : d = ((d.toNat : Nat) : Int) := (Int.toNat_of_nonneg g1).symm
        rw [h1]
        exact atI_nat ht
      refine ⟨q, _, d, _, rfl, rfl, SqL.of hq1, hat, ?_⟩
      (repeat (first | refine ⟨_, rfl, ?_⟩ | refine ⟨_, _, rfl, rfl, ?_⟩ | refine ⟨_, _, rfl, ?_⟩ | refine ⟨rfl, ?_⟩))
      have sx1 : SameX p H G1 := (sq.x p).trans s1
      refine ⟨lb, B, 0, 0, t, rfl, by omega, by omega, by omega, hB.monoX sx1 hp (Ne.symm npl), fun o G2 s2 no ho => ?_⟩
      refine k o _ G2 (sx1.trans (s2.x p)) ?_ ho (by unfold movL; rw [List.length_map]; omega) fun r hr' => ?_
      · cases e : H o with
        | none => rfl
        | some u =>
          by_cases e2 : o = p
          · rw [e2] at no
            obtain ⟨ns, hn, _⟩ := p1
            rw [hn] at no
            cases no
          · rw [sx1 _ _ e2 e] at no
            cases no
      · unfold movL at hr'
        obtain ⟨r0, h0, rfl⟩ := List.mem_map.mp hr'
        have h3 := hb r0 h0
        have := mul_abs (a := r0.2) (b := t) (A := 1000000000) (B := 3) ⟨by omega, by omega⟩ ⟨by omega, by omega⟩ (by decide)
        show -4000000000 ≤ r0.2 * t ∧ r0.2 * t ≤ 4000000000
        omega
    · (repeat (first | refine ⟨_, rfl, ?_⟩ | refine ⟨_, _, rfl, rfl, ?_⟩ | refine ⟨_, _, rfl, ?_⟩ | refine ⟨rfl, ?_⟩))
      refine itD (fun h2 => ?_) (fun h2 => ?_)
      · (repeat (first | refine ⟨_, rfl, ?_⟩ | refine ⟨_, _, rfl, rfl, ?_⟩ | refine ⟨_, _, rfl, ?_⟩ | refine ⟨rfl, ?_⟩))
        refine ⟨hp, fun l L H' s1 p1 nl hL hl hi => ?_⟩
        exact k l L H' s1 nl hL (by omega) fun r hr' => by have := hi r hr'; omega
      · (repeat (first | refine ⟨_, rfl, ?_⟩ | refine ⟨_, _, rfl, rfl, ?_⟩ | refine ⟨_, _, rfl, ?_⟩ | refine ⟨rfl, ?_⟩))
        refine ⟨by decide, by decide, hp, fun d1 G1 _ _ s1 p1 => ?_⟩
        (repeat (first | refine ⟨_, rfl, ?_⟩ | refine ⟨_, _, rfl, rfl, ?_⟩ | refine ⟨_, _, rfl, ?_⟩ | refine ⟨rfl, ?_⟩))
        refine ⟨m, _, 0, _, rfl, rfl, .inl (.inl (s1 _ _ npm hm)), rfl, ?_⟩
        (repeat (first | refine ⟨_, rfl, ?_⟩ | refine ⟨_, _, rfl, rfl, ?_⟩ | refine ⟨_, _, rfl, ?_⟩ | refine ⟨rfl, ?_⟩))
        refine ⟨by decide, by decide, p1, fun d2 G2 _ _ s2 p2 => ?_⟩
        (repeat (first | refine ⟨_, rfl, ?_⟩ | refine ⟨_, _, rfl, rfl, ?_⟩ | refine ⟨_, _, rfl, ?_⟩ | refine ⟨rfl, ?_⟩))
        refine ⟨m, _, 1, _, rfl, rfl, .inl (.inl (s2 _ _ npm (s1 _ _ npm hm))), rfl, ?_⟩
        (repeat (first | refine ⟨_, rfl, ?_⟩ | refine ⟨_, _, rfl, rfl, ?_⟩ | refine ⟨_, _, rfl, ?_⟩ | refine ⟨rfl, ?_⟩))
        refine ⟨by decide, by decide, p2, fun pk G3 k1 k2 s3 p3 => ?_⟩
        (repeat (first | refine ⟨_, rfl, ?_⟩ | refine ⟨_, _, rfl, rfl, ?_⟩ | refine ⟨_, _, rfl, ?_⟩ | refine ⟨rfl, ?_⟩))
        refine ⟨p3, fun ink G4 i1 i2 i3 s4 p4 => ?_⟩
        have sx4 : SameX p H G4 := s1.trans (s2.trans (s3.trans s4))
        have hB4 := hB.monoX sx4 hp (Ne.symm npl)
        have fresh : ∀ (o : Addr), G4 o = none → H o = none := fun o no => by
          cases e : H o with
          | none => rfl
          | some u =>
            by_cases e2 : o = p
            · rw [e2] at no
              obtain ⟨ns, hn, _⟩ := p4
              rw [hn] at no
              cases no
            · rw [sx4 _ _ e2 e] at no
              cases no
        have fin : ∀ (o : Addr) (L : List Row) (H' : Hp), Same G4 H' → G4 o = none → Ls H' rowV o (B ++ L) → L.length ≤ 6 → (∀ r ∈ L, r.2 = ink) → Q (.ref o) H' := fun o L H' s n hl hL6 hi =>
          k o (B ++ L) H' (sx4.trans (s.x p)) (fresh o n) hl (by rw [List.length_append]; omega) fun r hr' => by
            rcases List.mem_append.mp hr' with h | h
            · have := hb r h; omega
            · rw [hi r h]; omega
        (repeat (first | refine ⟨_, rfl, ?_⟩ | refine ⟨_, _, rfl, rfl, ?_⟩ | refine ⟨_, _, rfl, ?_⟩ | refine ⟨rfl, ?_⟩))
        refine itD (fun h3 => ?_) (fun h3 => ?_)
        · (repeat (first | refine ⟨_, rfl, ?_⟩ | refine ⟨_, _, rfl, rfl, ?_⟩ | refine ⟨_, _, rfl, ?_⟩ | refine ⟨rfl, ?_⟩))
          refine ⟨pk.toNat, d1 - 3 + z.1, d2 - 3 + z.2, ink, by rw [Int.toNat_of_nonneg k1]; rfl, fun o L H' s5 no ho hl6 hi => ?_⟩
          exact ls_cat (hB4.mono s5) ho (by omega) fun q H2 s6 nq hq => fin q L H2 (s5.trans s6) (s5.none nq) hq (by omega) hi
        · (repeat (first | refine ⟨_, rfl, ?_⟩ | refine ⟨_, _, rfl, rfl, ?_⟩ | refine ⟨_, _, rfl, ?_⟩ | refine ⟨rfl, ?_⟩))
          intro G5 s5
          (repeat (first | refine ⟨_, rfl, ?_⟩ | refine ⟨_, _, rfl, rfl, ?_⟩ | refine ⟨_, _, rfl, ?_⟩ | refine ⟨rfl, ?_⟩))
          refine ⟨le_line (by simp), fun e ne => ?_⟩
          (repeat (first | refine ⟨_, rfl, ?_⟩ | refine ⟨_, _, rfl, rfl, ?_⟩ | refine ⟨_, _, rfl, ?_⟩ | refine ⟨rfl, ?_⟩))
          refine ⟨le_line (by simp), fun l nl => ?_⟩
          obtain ⟨s6, e6⟩ := one_ls (f := rowV) (a1 := ((d1 - 3 + z.1, d2 - 3 + z.2, kd6 (pk % 6).toNat), ink)) ne nl
          exact ls_cat (hB4.mono (s5.trans s6)) e6 (by simp; omega) fun q H2 s7 nq hq => fin q _ H2 ((s5.trans s6).trans s7) ((s5.trans s6).none nq) hq (by simp) (fun r h => by rw [List.mem_singleton.mp h])
end
end SV
end

section
set_option Elab.async false
set_option linter.all false
set_option maxRecDepth 100000
set_option maxHeartbeats 4000000
/-! The law's eraser, what is right. -/
namespace SV
open PySem PySem.Spec PyProof.Rows L2
section
variable {X : Cx} {k : Nat} {ps : List Str} {sp : Sp} {W : WX} {x : Str} {p pos : Pos} {e : Expr} {es : List Expr} {t : TA}
theorem pe_calE (c : Cal X.prog X.w X.K X.mg X.base (L2.CX X.prog X.w) x ps k sp) (hr : Room k X.A) (hg : Gl X x) (tk : Takes X W) (ha : PA X (e :: es) t) (hdb : (x == ("__debug__" : Str)) = false := by decide)
    (he : starEach (e :: es) X.env = (false, eval e X.env) :: starEach es X.env := by rfl) (hpl : (backTo pos (starEach es X.env)).any (·.1) = false := by rfl) : PE X (.Call (.Name x p) (e :: es) [] pos) (tCallS sp (WE W) t) := by
  obtain ⟨f, fd, F, hm, hk, hb⟩ := c.ex
  exact pe_callS F hr hg hm hk hb (fun σ => passAt tk σ) ha hdb he hpl
/-- isinstance(e, c), e the exception that the suite holds, with its dict -/
def rIsEd (K : PySem.W.Frag) (D a : Addr) (cls : Value) (d : Option Addr) : List V → Hp → VK → Prop := fun xs H Q => ∃ (c : V) (cv : Value) (b : Bool) (dd : Addr) (fs : List (Str × V)), xs = [.ref a, c] ∧ cls = .ref D ∧ d = some dd ∧ H dd = some (.xd fs) ∧ (∀ u, RelV c u → u = cv) ∧ PySem.W.kitOne K (.ref D) cv = some b ∧ Q (.bl b) H
theorem call_isEd {X : Cx} {a D : Addr} {oe : Obj} {cls : Value} {d : Option Addr} {pn : List (Addr × Obj)} (C : ExcC X.K D) (hz : Zc cls d oe) (hf : ∃ vs, oe.data = .fields vs) : CallR (X.suite a ((a, oe) :: pn)) (.builtin "isinstance") (rIsEd X.K D a cls d) := by
  intro pins s σ H xs us Q I r h
  obtain ⟨c, cv, b, dd, fs, rfl, rfl, rfl, hdd, hcv, e, q⟩ := h
  cases r with
  | cons rx rr =>
    cases rr with
    | cons rt rr =>
      cases rr
      cases rx
      have ec := hcv _ rt
      subst ec
      obtain ⟨hget, _⟩ := I.pin (a, oe) (List.mem_append.mpr (.inl List.mem_cons_self))
      obtain ⟨vs, hv⟩ := hf
      have hx : ObjOk X.prog X.w H s.heap dd (.xd fs) := I.hok dd _ hdd
      obtain ⟨mA, hns, hr⟩ := hx
      obtain ⟨od, ho, hl⟩ := lookIn_ns hns
      have J : PySem.W.InstAt s.heap a oe D (some od) := ⟨hget, hz.1, by unfold PySem.W.notCls; rw [hv] <;> rfl, by rw [hz.2]; exact ho⟩
      have hcl : (PySem.W.clsIn X.K D).isSome = true := by
        have := C.hd
        unfold PySem.W.hasDictIn at this
        cases h : PySem.W.clsIn X.K D with
        | none => rw [h] at this; cases this
        | some c => rfl
      exact PySem.W.kia_one (PySem.W.kitx_exc hcl C.hg C.hk C.hs C.ha C.hn C.ht C.hm) I.kIn J e (fun z => nomatch z) fun tk => ⟨.bl b, H, I.kept (t' := tk) fun _ _ z => z, rfl, q⟩
end
/-- the errors that the law asks for -/
structure TxtX (K : PySem.W.Frag) (mg : Str → Option Value) (cNo cDr cBl cNk : Addr) : Prop where
  g_NoEraser : mg "NoEraser" = some (.ref cNo)
  g_DrawingError : mg "DrawingError" = some (.ref cDr)
  g_BlankView : mg "BlankView" = some (.ref cBl)
  g_NoKiller : mg "NoKiller" = some (.ref cNk)
  exc : ExcC K cNo
  xf : XfC K cNo
  no_view : PySem.W.findIn K (.ref cNo) "view" = some none
  ex_dr : PySem.W.exmOne K (.ref cNo) (.ref cDr) = some true
  k_no : PySem.W.kitOne K (.ref cNo) (.ref cNo) = some true
  k_ve : PySem.W.kitOne K (.ref cNo) (.type "ValueError") = some true
  k_bl : PySem.W.kitOne K (.ref cNo) (.ref cBl) = some false
  k_nk : PySem.W.kitOne K (.ref cNo) (.ref cNk) = some false
section
variable {P : Program} {w : World} {K : PySem.W.Frag} {mg : Str → Option Value} {base : Heap} {f : Addr} {fd : FuncData} {cTu cSp cVi cSh cNo cDr cBl cNk : Addr}
/- _law_eraser -/
abbrev N__law_eraser : List Str := ["_law_sheet", "_law_e"]
abbrev P__law_eraser : List Str := ["_law_sheet"]
theorem sc_law_eraser : FnScope N__law_eraser P__law_eraser (defScope s__law_eraser) := ⟨rfl, rfl, rfl, by decide +kernel, rfl, by decide +kernel, by decide +kernel⟩
def spLEraser (cSh : Addr) : Sp := fun vs H Q _ => ∃ (a : Addr) (s : List Row), vs = [.ref a] ∧ SheetAt cSh H a s ∧ s.length ≤ 100000 ∧
  (∀ ss x H' u d t, Same H H' → Six s ss → Stub ss none → SheetD cSh H' x u d → H d = none → Canon (closL (oppL s)) u → H' t = some (.tup [.str "told", .ref x]) → Q (.ref t) H') ∧
  ∀ t H' i ss, Same H H' → Six s ss → Stub ss (some i) → H' t = some (.tup [.str "refused", .int (i : Nat)]) → Q (.ref t) H'
theorem ok_leraser (T : Txt K w mg) (TX : TxtX K mg cNo cDr cBl cNk) (F : GDef K "_law_eraser" s__law_eraser f fd) (c_eraser : Cal P w K mg base (L2.CX P w) "eraser" P_eraser 8 (spEraser cSh cNo)) : FnOk P w K mg base CX0 9 f fd P__law_eraser (spLEraser cSh) := by
  refine F.ok sc_law_eraser (fun vs H Q E h => ?_) (fun cdv A outer s H vs Q E hr h => ?_)
  · obtain ⟨a, s, rfl, _⟩ := h; rfl
  · obtain ⟨a, s, rfl, hs, hz, k1, k2⟩ := h
    refine ⟨_, (pss_one (ps_try_as (i := 1) rfl rfl sc_law_eraser.nd rfl rfl ⟨rfl, by decide, .inl TX.g_DrawingError⟩ takes0 (fun W pn xe tk _ => (pss_one (ps_ret (pe_tup (pa_cons pe_str (pa_cons (pe_calE c_eraser (hr.mono (by decide)) rfl tk (pa_cons (pv 0) pa_nil)) pa_nil)))))) (fun a oe cls d pn hz hf => (pss_cons (ps_if (PW.pt (pw_or (pt_not (pt_val (pe_callB (call_isEd TX.exc hz hf) (by rfl) T.z_isinstance (by decide +kernel) (pa_cons (pv 1) (pa_cons (pe_glob (v := .ref _) rfl TX.g_NoEraser rfl) pa_nil))))) (pw_or1 (pt_not (pt_val (pe_callB (call_isEd TX.exc hz hf) (by rfl) T.z_isinstance (by decide +kernel) (pa_cons (pv 1) (pa_cons (pe_bltn (v := .ty "ValueError") (u := .type "ValueError") (by rfl) T.z_ValueError (by kernel_rfl) rfl) pa_nil))))))))
        (pss_one (ps_ret (pe_tup (pa_cons pe_str (pa_cons pe_non pa_nil)))))
        pss_nil)
      (pss_cons (ps_if (PW.pt (pw_or (pt_val (pe_callB (call_isEd TX.exc hz hf) (by rfl) T.z_isinstance (by decide +kernel) (pa_cons (pv 1) (pa_cons (pe_glob (v := .ref _) rfl TX.g_BlankView rfl) pa_nil)))) (pw_or1 (pt_val (pe_callB (call_isEd TX.exc hz hf) (by rfl) T.z_isinstance (by decide +kernel) (pa_cons (pv 1) (pa_cons (pe_glob (v := .ref _) rfl TX.g_NoKiller rfl) pa_nil)))))))
        (pss_one (ps_ret (pe_tup (pa_cons pe_str (pa_cons pe_non pa_nil)))))
        pss_nil)
      (pss_one (ps_ret (pe_tup (pa_cons pe_str (pa_cons (pe_xf TX.xf TX.no_view hz hf (pv 1)) pa_nil)))))))))), ?_⟩
    (repeat (first | refine ⟨_, rfl, ?_⟩ | refine ⟨_, _, rfl, rfl, ?_⟩ | refine ⟨_, _, rfl, ?_⟩ | refine ⟨rfl, ?_⟩))
    refine ⟨a, s, rfl, hs, hz, fun ss x H' u d s1 h6 hst hx hd hc => ?_, fun d H' i ss s1 h6 hst hd => ?_⟩
    · (repeat (first | refine ⟨_, rfl, ?_⟩ | refine ⟨_, _, rfl, rfl, ?_⟩ | refine ⟨_, _, rfl, ?_⟩ | refine ⟨rfl, ?_⟩))
      refine ⟨le_line (by simp), fun t nt => ?_⟩
      have st := Same.new (o := .tup [.str "told", .ref x]) nt
      exact k1 ss x _ u d t (s1.trans st) h6 hst (hx.mono st) hd hc upd_same
    · refine ⟨true, TX.ex_dr, fun _ b nb => ?_, fun h => nomatch h⟩
      (repeat (first | refine ⟨_, rfl, ?_⟩ | refine ⟨_, _, rfl, rfl, ?_⟩ | refine ⟨_, _, rfl, ?_⟩ | refine ⟨rfl, ?_⟩))
      refine ⟨_, _, true, d, _, rfl, rfl, rfl, hd, fun u h => h, TX.k_no, ?_⟩
      (repeat (first | refine ⟨_, rfl, ?_⟩ | refine ⟨_, _, rfl, rfl, ?_⟩ | refine ⟨_, _, rfl, ?_⟩ | refine ⟨rfl, ?_⟩))
      refine ⟨_, _, true, d, _, rfl, rfl, rfl, hd, fun u h => h, TX.k_ve, ?_⟩
      (repeat (first | refine ⟨_, rfl, ?_⟩ | refine ⟨_, _, rfl, rfl, ?_⟩ | refine ⟨_, _, rfl, ?_⟩ | refine ⟨rfl, ?_⟩))
      refine ⟨_, _, false, d, _, rfl, rfl, rfl, hd, fun u h => h, TX.k_bl, ?_⟩
      (repeat (first | refine ⟨_, rfl, ?_⟩ | refine ⟨_, _, rfl, rfl, ?_⟩ | refine ⟨_, _, rfl, ?_⟩ | refine ⟨rfl, ?_⟩))
      refine ⟨_, _, false, d, _, rfl, rfl, rfl, hd, fun u h => h, TX.k_nk, ?_⟩
      (repeat (first | refine ⟨_, rfl, ?_⟩ | refine ⟨_, _, rfl, rfl, ?_⟩ | refine ⟨_, _, rfl, ?_⟩ | refine ⟨rfl, ?_⟩))
      refine ⟨d, _, .int (i : Nat), rfl, hd, rfl, ?_⟩
      (repeat (first | refine ⟨_, rfl, ?_⟩ | refine ⟨_, _, rfl, rfl, ?_⟩ | refine ⟨_, _, rfl, ?_⟩ | refine ⟨rfl, ?_⟩))
      refine ⟨le_line (by simp), fun t nt => ?_⟩
      have st := Same.new (o := .tup [.str "refused", .int (i : Nat)]) nt
      exact k2 t _ i ss (s1.trans st) h6 hst upd_same
end
/-! ### lists of data, equal or not -/
section
variable {α : Type} {f : α → List V} {lt : α → α → Prop} {K : PySem.W.Frag} {H : Hp}
theorem dpAll_ls (D : Dat f lt) {vs : List V} {xs : List α} (h : Tps H f vs xs) : DpAll K H vs (xs.map (encF f)) := by
  induction h with
  | nil => exact .nil
  | cons a _ ih => exact .cons (D.dp a) ih
theorem Ls.dp (D : Dat f lt) {l : Addr} {xs : List α} (h : Ls H f l xs) : Dp K H (.ref l) (.list (xs.map (encF f))) := by
  obtain ⟨vs, h1, h2⟩ := h
  exact .lst (SqL.of h1) (dpAll_ls D h2)
theorem shaped_ls (D : Dat f lt) (cf : ∀ x, (encF f x).canLay0 = true) (xs : List α) : SeqAt.shaped (.list (xs.map (encF f))) = true := by
  have h1 : PyData.canLayAll0 (xs.map (encF f)) = true := by
    induction xs with
    | nil => rfl
    | cons x r ih => simp only [List.map_cons, PyData.canLayAll0, cf x, ih, Bool.and_self]
  have h2 : PyData.depthAll (xs.map (encF f)) ≤ 8 := by
    induction xs with
    | nil => simp [PyData.depthAll]
    | cons x r ih =>
      have h3 : PyData.canLayAll0 (r.map (encF f)) = true := by
        simp only [List.map_cons, PyData.canLayAll0, Bool.and_eq_true] at h1
        exact h1.2
      have := ih h3
      have := D.depth x
      simp only [List.map_cons, PyData.depthAll]
      omega
  unfold SeqAt.shaped
  simp only [PyData.canLay0, PyData.depth, h1, Bool.true_and]
  exact decide_eq_true (by omega)
theorem eqv_ls (D : Dat f lt) (xs : List α) : PyData.eqv (.list (xs.map (encF f))) (.list (xs.map (encF f))) = true := by
  refine PySem.W.eqv_refl_alike _ ?_
  simp only [PySem.W.alike]
  induction xs with
  | nil => rfl
  | cons x r ih =>
    have := D.al x x
    simp only [List.map_cons, PySem.W.alikeAll, ih, Bool.and_true, encF, PySem.W.alike, this]
theorem ne_ls (D : Dat f lt) (cf : ∀ x, (encF f x).canLay0 = true) {a b : Addr} {xs : List α} {Q : VK} (h1 : Ls H f a xs) (h2 : Ls H f b xs) (k : Q (.bl false) H) : rNeD K (.ref a) (.ref b) H Q :=
  ⟨_, _, h1.dp D, h2.dp D, shaped_ls D cf xs, shaped_ls D cf xs, by rw [eqv_ls D]; exact k⟩
theorem eq_ls (D : Dat f lt) (cf : ∀ x, (encF f x).canLay0 = true) {a b : Addr} {xs : List α} {Q : VK} (h1 : Ls H f a xs) (h2 : Ls H f b xs) (k : Q (.bl true) H) : rEqD K (.ref a) (.ref b) H Q :=
  ⟨_, _, h1.dp D, h2.dp D, shaped_ls D cf xs, shaped_ls D cf xs, by rw [eqv_ls D]; exact k⟩
end
theorem cf_row (r : Row) : (encF rowV r).canLay0 = true := by
  obtain ⟨⟨x, y, k⟩, i⟩ := r
  have : PyData.strOk (kS k) = true := by cases k <;> decide +kernel
  simp [encF, rowV, dV, PyData.canLay0, PyData.canLayAll0, this]
theorem cf_spot (r : Spot) : (encF spotV r).canLay0 = true := by
  simp [encF, spotV, dV, PyData.canLay0, PyData.canLayAll0]
theorem six_unique {L : List Row} {ss tt : List (List Spot)} (h1 : Six L ss) (h2 : Six L tt) : ss = tt := by
  apply List.ext_getElem?
  intro i
  by_cases hi : i < 6
  · obtain ⟨x, hx⟩ : ∃ x, ss[i]? = some x := ⟨_, List.getElem?_eq_getElem (by rw [h1.1]; exact hi)⟩
    obtain ⟨y, hy⟩ : ∃ y, tt[i]? = some y := ⟨_, List.getElem?_eq_getElem (by rw [h2.1]; exact hi)⟩
    rw [hx, hy, (h1.2 i x hx).unique (h2.2 i y hy) fun _ => rfl]
  · rw [List.getElem?_eq_none (by rw [h1.1]; omega), List.getElem?_eq_none (by rw [h2.1]; omega)]
theorem stub_unique {ss : List (List Spot)} : ∀ {r q : Option Nat}, Stub ss r → Stub ss q → r = q
  | none, none, _, _ => rfl
  | none, some i, h1, ⟨_, x, hx, hb⟩ => by have := h1 i x hx; rw [hb] at this; cases this
  | some i, none, ⟨_, x, hx, hb⟩, h2 => by have := h2 i x hx; rw [hb] at this; cases this
  | some i, some j, ⟨a1, x, hx, hb⟩, ⟨a2, y, hy, hc⟩ => by
    by_cases h : i < j
    · have := a2 i x h hx; rw [hb] at this; cases this
    · by_cases h2 : j < i
      · have := a1 j y h2 hy; rw [hc] at this; cases this
      · have : i = j := by omega
        rw [this]
theorem good_one {s : List Spot} (h : good s = true) : ∃ p : Spot, s = [p] ∧ (p.2 = 1 ∨ p.2 = -1) := by
  cases s with
  | nil => cases h
  | cons p r =>
    cases r with
    | cons _ _ => cases h
    | nil =>
      refine ⟨p, rfl, ?_⟩
      unfold good at h
      simpa using h
/-- what the counter of an erasable sheet shows -/
theorem back_one {s u : List Row} {ss bb : List (List Spot)} (h6 : Six s ss) (hb : Six u bb) (hc : Canon (closL (oppL s)) u) {i : Nat} (hi : i < 6) {p : Spot} (hp : ss[i]? = some [p]) (hne : p.2 ≠ 0) : bb[i]? = some [(negP p.1, p.2)] := by
  obtain ⟨x, hx⟩ : ∃ x, bb[i]? = some x := ⟨_, List.getElem?_eq_getElem (by rw [hb.1]; exact hi)⟩
  rw [hx]
  congr 1
  have h1 := (h6.2 i _ hp).of_single
  refine (hb.2 i x hx).single (fun k => ?_) hne
  rw [vl_congr hc.eq i k, ← ctrL_eq]
  exact vl_ctr hi h1 k
theorem sweep_unit {s u v : List Row} {ss : List (List Spot)} (h6 : Six s ss) (hg : ∀ (j : Nat) (x : List Spot), ss[j]? = some x → good x = true) (hc : Canon (closL (oppL s)) u) (hv : Canon (sweepL s u) v) : v = [((0, 0, .d), 1)] := by
  have h : ∀ c, coef (sweepL s u) c = coef [((0, 0, Kd.d), (1 : Int))] c := six_tell fun i hi k => by
    obtain ⟨x, hx⟩ : ∃ x, ss[i]? = some x := ⟨_, List.getElem?_eq_getElem (by rw [h6.1]; exact hi)⟩
    obtain ⟨p, rfl, hp⟩ := good_one (hg i x hx)
    have h1 := (h6.2 i _ hx).of_single
    have h2 : ∀ k, coef (vl i u) k = if negP p.1 = k then p.2 else 0 := fun k => by
      rw [vl_congr hc.eq i k, ← ctrL_eq]
      exact vl_ctr hi h1 k
    rw [vl_singles hi h1 h2 k, unit_views i hi k]
    have e1 : addP p.1 (negP p.1) = (0, 0) := by unfold addP negP; ext <;> simp <;> omega
    have e2 : p.2 * p.2 = 1 := by rcases hp with e | e <;> rw [e] <;> rfl
    rw [e1, e2]
  refine hv.single (k := (0, 0, .d)) (i := 1) (fun q => ?_) (by decide)
  rw [h q, coef_cons, coef_nil]
  exact Int.add_zero _
theorem hu64_of {A : Around} {k : Nat} (hr : Room k A) : A.units + 64 < cLine := by have := hr.units; omega
section
variable {P : Program} {w : World} {K : PySem.W.Frag} {mg : Str → Option Value} {base : Heap} {f : Addr} {fd : FuncData} {cTu cSp cVi cSh cNo cDr cBl cNk : Addr}
/- _law_right -/
abbrev N__law_right : List Str := ["_law_sheet", "_law_table", "_law_sweeps", "_law_views", "_law_bad", "_law_answer", "_law_found", "_law_back", "_law_view", "_law_x", "_law_y", "_law_ink"]
abbrev P__law_right : List Str := ["_law_sheet", "_law_table", "_law_sweeps"]
theorem sc_law_right : FnScope N__law_right P__law_right (defScope s__law_right) := ⟨rfl, rfl, rfl, by decide +kernel, rfl, by decide +kernel, by decide +kernel⟩
def spRight (cSh : Addr) : Sp := fun vs H Q _ => ∃ (a tb d : Addr) (sw : Bool) (L s : List Row), vs = [.ref a, .ref tb, .bl sw] ∧ SheetD cSh H a s d ∧ Canon L s ∧ Ls H rowV tb s ∧ s.length ≤ 100000 ∧ (∀ p ∈ s, -(2 ^ 64) < p.2 ∧ p.2 < 2 ^ 64) ∧ ∀ H', Same H H' → Q (.bl true) H'
theorem ok_right (T : Txt K w mg) (TC : TxtC K cTu cSp cVi cSh) (TM : TxtM K mg cTu cSp cVi cSh) (F : GDef K "_law_right" s__law_right f fd) (c__law_six_views : Cal P w K mg base CX0 "_law_six_views" P__law_six_views 2 spSixViews) (c__law_first_bad : Cal P w K mg base CX0 "_law_first_bad" P__law_first_bad 1 spFirstBad)
    (c__law_eraser : Cal P w K mg base CX0 "_law_eraser" P__law_eraser 9 (spLEraser cSh)) (c__law_rows_of : Cal P w K mg base CX0 "_law_rows_of" P__law_rows_of 6 (spRowsOf cSh)) (c__law_whole : Cal P w K mg base CX0 "_law_whole" P__law_whole 1 spWhole) (c_is_erasable : Cal P w K mg base CX0 "is_erasable" P_is_erasable 7 (spIsE cSh))
    (c___mul__ : Met P w K mg base CX0 cSh "__mul__" P_Sheet___mul__ 5 (spMul cSh)) : FnOk P w K mg base CX0 10 f fd P__law_right (spRight cSh) := by
  refine F.ok sc_law_right (fun vs H Q E h => ?_) (fun cdv A outer s H vs Q E hr h => ?_)
  · obtain ⟨a, tb, d, sw, L, s, rfl, _⟩ := h; rfl
  · obtain ⟨a, tb, d, sw, L, s, rfl, hs, hcan, htb, hz, hb, k⟩ := h
    have hu64 := hu64_of hr
    refine ⟨_, PSs.nox (pss_cons (ps_set (i := 3) sc_law_right.nd rfl (Or.inl rfl) (pe_cal c__law_six_views (hr.mono (by decide)) rfl (pa_cons (pv 1) pa_nil)))
      (pss_cons (ps_set (i := 4) sc_law_right.nd rfl (Or.inl rfl) (pe_cal c__law_first_bad (hr.mono (by decide)) rfl (pa_cons (pv 3) pa_nil)))
      (pss_cons (ps_set (i := 5) sc_law_right.nd rfl (Or.inl rfl) (pe_cal c__law_eraser (hr.mono (by decide)) rfl (pa_cons (pv 0) pa_nil)))
      (pss_cons (ps_if (pt_cmpR (op_neD hu64) (pe_cal c__law_rows_of (hr.mono (by decide)) rfl (pa_cons (pv 0) pa_nil)) (pv 1) (nomark _))
        (pss_one (ps_ret pe_bl))
        pss_nil)
      (pss_cons (ps_if (pt_cmpR op_notN (pv 4) pe_non (nomark _))
        (pss_cons (ps_if (PW.pt (pw_or (pt_cmpR op_ne (pe_ix ix_tup (pv 5) pe_int (fun _ _ => rfl)) pe_str (nomark _)) (pw_or1 (pt_not (pt_val (pe_cal c__law_whole (hr.mono (by decide)) rfl (pa_cons (pe_ix ix_tup (pv 5) pe_int (fun _ _ => rfl)) pa_nil)))))))
          (pss_one (ps_ret pe_bl))
          pss_nil)
        (pss_one (ps_ret (pe_and (pe_cmpR op_eq (pe_ix ix_tup (pv 5) pe_int (fun _ _ => rfl)) (pv 4) (nomark _)) (pe_one (pe_cmpR op_isBl (pe_cal c_is_erasable (hr.mono (by decide)) rfl (pa_cons (pv 0) pa_nil)) pe_bl (nomark _)))))))
        pss_nil)
      (pss_cons (ps_if (PW.pt (pw_or (pt_cmpR op_ne (pe_ix ix_tup (pv 5) pe_int (fun _ _ => rfl)) pe_str (nomark _)) (pw_or1 (pt_cmpR op_notBl (pe_cal c_is_erasable (hr.mono (by decide)) rfl (pa_cons (pv 0) pa_nil)) pe_bl (nomark _)))))
        (pss_one (ps_ret pe_bl))
        pss_nil)
      (pss_cons (ps_set (i := 6) sc_law_right.nd rfl (Or.inl rfl) (pe_cal c__law_rows_of (hr.mono (by decide)) rfl (pa_cons (pe_ix ix_tup (pv 5) pe_int (fun _ _ => rfl)) pa_nil)))
      (pss_cons (ps_if (pt_cmpR op_isN (pv 6) pe_non (nomark _))
        (pss_one (ps_ret pe_bl))
        pss_nil)
      (pss_cons (ps_set (i := 7) sc_law_right.nd rfl (Or.inl rfl) (pe_cal c__law_six_views (hr.mono (by decide)) rfl (pa_cons (pv 6) pa_nil)))
      (pss_cons (ps_for PassesOwn.never rfl (pi_range1 rfl T.z_range (pa_cons pe_int pa_nil)) (pg_name (i := 8) sc_law_right.nd rfl (Or.inl rfl))
        (pss_cons (ps_asg (pe_ix ix_list (pe_ix ix_list (pv 3) (pv 8) (fun _ _ => rfl)) pe_int (fun _ _ => rfl)) (pg_tup rfl (pgs_cons (pg_name (i := 9) sc_law_right.nd rfl (Or.inl rfl)) (pgs_cons (pg_name (i := 10) sc_law_right.nd rfl (Or.inl rfl)) (pgs_cons (pg_name (i := 11) sc_law_right.nd rfl (Or.inl rfl)) pgs_nil)))))
        (pss_one (ps_if (pt_cmpR (op_neD hu64) (pe_ix ix_list (pv 7) (pv 8) (fun _ _ => rfl)) (pe_lst (pa_cons (pe_tup (pa_cons (pe_un un_neg (pv 9)) (pa_cons (pe_un un_neg (pv 10)) (pa_cons (pv 11) pa_nil)))) pa_nil)) (nomark _))
          (pss_one (ps_ret pe_bl))
          pss_nil))))
      (pss_cons (ps_if (PW.pt (pw_and (pt_val (pv 2)) (pw_and1 (pt_cmpR op_le (pe_op op_mul (pe_callB call_len_seq (by rfl) T.z_len (by decide +kernel) (pa_cons (pv 1) pa_nil)) (pe_callB call_len_seq (by rfl) T.z_len (by decide +kernel) (pa_cons (pv 6) pa_nil))) pe_int (nomark _)))))
        (pss_one (ps_ret (pe_cmpR (op_eqD hu64) (pe_cal c__law_rows_of (hr.mono (by decide)) rfl (pa_cons (pe_op (op_mulC TM.sf c___mul__ (hr.mono (by decide))) (pv 0) (pe_ix ix_tup (pv 5) pe_int (fun _ _ => rfl))) pa_nil)) (pe_lst (pa_cons (pe_tup (pa_cons pe_int (pa_cons pe_int (pa_cons pe_str (pa_cons pe_int pa_nil))))) pa_nil)) (nomark _))))
        pss_nil)
      (pss_one (ps_ret pe_bl))))))))))))), ?_⟩
    (repeat (first | refine ⟨_, rfl, ?_⟩ | refine ⟨_, _, rfl, rfl, ?_⟩ | refine ⟨_, _, rfl, ?_⟩ | refine ⟨rfl, ?_⟩))
    refine ⟨tb, s, rfl, by omega, htb, fun o1 ss H1 s1 no1 hv1 h6 => ?_⟩
    (repeat (first | refine ⟨_, rfl, ?_⟩ | refine ⟨_, _, rfl, rfl, ?_⟩ | refine ⟨_, _, rfl, ?_⟩ | refine ⟨rfl, ?_⟩))
    refine ⟨o1, ss, rfl, hv1, h6.1, fun r H2 s2 hst => ?_⟩
    (repeat (first | refine ⟨_, rfl, ?_⟩ | refine ⟨_, _, rfl, rfl, ?_⟩ | refine ⟨_, _, rfl, ?_⟩ | refine ⟨rfl, ?_⟩))
    have s12 := s1.trans s2
    refine ⟨a, s, rfl, hs.at.mono s12, hz, fun ss' x H3 u d2 t s3 h6' hst' hx hd2 hc ht => ?_, fun t H3 i ss' s3 h6' hst' ht => ?_⟩
    · obtain rfl := six_unique h6 h6'
      obtain rfl := stub_unique hst hst'
      have s13 := s12.trans s3
      (repeat (first | refine ⟨_, rfl, ?_⟩ | refine ⟨_, _, rfl, rfl, ?_⟩ | refine ⟨_, _, rfl, ?_⟩ | refine ⟨rfl, ?_⟩))
      refine ⟨a, L, s, rfl, by omega, hs.at.mono s13, hcan, fun o4 H4 s4 no4 ho4 => ?_⟩
      (repeat (first | refine ⟨_, rfl, ?_⟩ | refine ⟨_, _, rfl, rfl, ?_⟩ | refine ⟨_, _, rfl, ?_⟩ | refine ⟨rfl, ?_⟩))
      have s14 := s13.trans s4
      refine ne_ls dat_row cf_row ho4 (htb.mono s14) ?_
      (repeat (first | refine ⟨_, rfl, ?_⟩ | refine ⟨_, _, rfl, rfl, ?_⟩ | refine ⟨_, _, rfl, ?_⟩ | refine ⟨rfl, ?_⟩))
      have ht4 := s4 _ _ ht
      have hq4 : SqT K H4 t [.str "told", .ref x] := .inl (.inl ht4)
      refine ⟨t, _, 0, _, rfl, rfl, hq4, rfl, ?_⟩
      (repeat (first | refine ⟨_, rfl, ?_⟩ | refine ⟨_, _, rfl, rfl, ?_⟩ | refine ⟨_, _, rfl, ?_⟩ | refine ⟨rfl, ?_⟩))
      refine ⟨a, s, rfl, hs.at.mono s14, by omega, fun r' ss5 H5 s5 h65 hst5 => ?_⟩
      obtain rfl := six_unique h6 h65
      obtain rfl := stub_unique hst hst5
      (repeat (first | refine ⟨_, rfl, ?_⟩ | refine ⟨_, _, rfl, rfl, ?_⟩ | refine ⟨_, _, rfl, ?_⟩ | refine ⟨rfl, ?_⟩))
      have s15 := s14.trans s5
      refine ⟨t, _, 1, _, rfl, rfl, same_sqt s5 hq4, rfl, ?_⟩
      (repeat (first | refine ⟨_, rfl, ?_⟩ | refine ⟨_, _, rfl, rfl, ?_⟩ | refine ⟨_, _, rfl, ?_⟩ | refine ⟨rfl, ?_⟩))
      have hx5 := hx.mono (s4.trans s5)
      have hul : u.length ≤ 700000 := by
        have h1 := hc.length
        have h2 := closL_len (oppL s)
        have h3 : (oppL s).length = s.length := List.length_map _
        omega
      refine ⟨x, _, u, rfl, by omega, hx5.at, hc, fun o6 H6 s6 no6 ho6 => ?_⟩
      (repeat (first | refine ⟨_, rfl, ?_⟩ | refine ⟨_, _, rfl, rfl, ?_⟩ | refine ⟨_, _, rfl, ?_⟩ | refine ⟨rfl, ?_⟩))
      refine ⟨o6, u, rfl, by omega, ho6, fun o7 bb H7 s7 no7 hv7 hb6 => ?_⟩
      (repeat (first | refine ⟨_, rfl, ?_⟩ | refine ⟨_, _, rfl, rfl, ?_⟩ | refine ⟨_, _, rfl, ?_⟩ | refine ⟨rfl, ?_⟩))
      have s57 := s6.trans s7
      have s17 := s15.trans s57
      have hv17 := hv1.mono (s2.trans (s3.trans (s4.trans (s5.trans s57))))
      obtain ⟨ws, w1, w2⟩ := hv17
      obtain ⟨bs, b1, b2⟩ := hv7
      have lws : ws.length = 6 := by rw [← h6.1]; exact Paired.length w2
      have lbs : bs.length = 6 := by rw [← hb6.1]; exact Paired.length b2
      refine ⟨by decide, by decide, ?_⟩
      refine for_range (lo := 0) (n := 6) (fun i σ G => (∃ a8 a9 a10 a11, σ = [some (.ref a), some (.ref tb), some (.bl sw), some (.ref o1), some .non, some (.ref t), some (.ref o6), some (.ref o7), a8, a9, a10, a11]) ∧ Same H7 G) ⟨⟨_, _, _, _, rfl⟩, Same.refl _⟩ (fun i σ G hi p => ?_) (fun σ G p => ?_)
      · obtain ⟨⟨a8, a9, a10, a11, rfl⟩, sG⟩ := p
        have e0 : (0 : Int) + ((i : Nat) : Int) = ((i : Nat) : Int) := Int.zero_add _
        rw [e0]
        obtain ⟨v, hv⟩ : ∃ v, ws[i]? = some v := ⟨_, List.getElem?_eq_getElem (by omega)⟩
        obtain ⟨sp, hsp, b, rfl, us, hu1, hu2⟩ := paired_get w2 hv
        obtain ⟨p0, rfl, hp0⟩ := good_one (hst i sp hsp)
        cases hu2 with
        | cons tc rc =>
        cases rc
        obtain ⟨c, rfl, hcc⟩ := tc
        (repeat (first | refine ⟨_, rfl, ?_⟩ | refine ⟨_, _, rfl, rfl, ?_⟩ | refine ⟨_, _, rfl, ?_⟩ | refine ⟨rfl, ?_⟩))
        refine ⟨o1, ws, _, _, rfl, rfl, SqL.of (sG _ _ w1), atI_nat hv, ?_⟩
        (repeat (first | refine ⟨_, rfl, ?_⟩ | refine ⟨_, _, rfl, rfl, ?_⟩ | refine ⟨_, _, rfl, ?_⟩ | refine ⟨rfl, ?_⟩))
        refine ⟨b, _, 0, _, rfl, rfl, SqL.of (sG _ _ hu1), at0, ?_⟩
        (repeat (first | refine ⟨_, rfl, ?_⟩ | refine ⟨_, _, rfl, rfl, ?_⟩ | refine ⟨_, _, rfl, ?_⟩ | refine ⟨rfl, ?_⟩))
        refine ⟨c, _, rfl, .inl (.inl (sG _ _ hcc)), rfl, ?_⟩
        (repeat (first | refine ⟨_, rfl, ?_⟩ | refine ⟨_, _, rfl, rfl, ?_⟩ | refine ⟨_, _, rfl, ?_⟩ | refine ⟨rfl, ?_⟩))
        obtain ⟨v2, hv2⟩ : ∃ v, bs[i]? = some v := ⟨_, List.getElem?_eq_getElem (by omega)⟩
        obtain ⟨sp2, hsp2, b', rfl, hls2⟩ := paired_get b2 hv2
        have hne : p0.2 ≠ 0 := by rcases hp0 with e | e <;> rw [e] <;> decide
        have e2 := back_one h6 hb6 hc hi hsp hne
        rw [hsp2] at e2
        cases e2
        refine ⟨o7, bs, _, _, rfl, rfl, SqL.of (sG _ _ b1), atI_nat hv2, ?_⟩
        (repeat (first | refine ⟨_, rfl, ?_⟩ | refine ⟨_, _, rfl, rfl, ?_⟩ | refine ⟨_, _, rfl, ?_⟩ | refine ⟨rfl, ?_⟩))
        refine ⟨le_line (by simp), fun q nq => ?_⟩
        (repeat (first | refine ⟨_, rfl, ?_⟩ | refine ⟨_, _, rfl, rfl, ?_⟩ | refine ⟨_, _, rfl, ?_⟩ | refine ⟨rfl, ?_⟩))
        refine ⟨le_line (by simp), fun l nl => ?_⟩
        obtain ⟨sl, hl⟩ := one_ls (f := spotV) (a1 := (negP p0.1, p0.2)) nq nl
        refine ne_ls dat_spot cf_spot ((hls2.mono sG).mono sl) hl ?_
        (repeat (first | refine ⟨_, rfl, ?_⟩ | refine ⟨_, _, rfl, rfl, ?_⟩ | refine ⟨_, _, rfl, ?_⟩ | refine ⟨rfl, ?_⟩))
        exact ⟨⟨_, _, _, _, rfl⟩, sG.trans sl⟩
      · obtain ⟨⟨a8, a9, a10, a11, rfl⟩, sG⟩ := p
        have s1G := s17.trans sG
        have hall := k _ s1G
        (repeat (first | refine ⟨_, rfl, ?_⟩ | refine ⟨_, _, rfl, rfl, ?_⟩ | refine ⟨_, _, rfl, ?_⟩ | refine ⟨rfl, ?_⟩))
        refine itB (fun h => ?_) (fun h => ?_)
        · obtain ⟨tv, t1, t2⟩ := htb.mono s1G
          obtain ⟨fv, f1, f2⟩ := ho6.mono (s7.trans sG)
          have lt1 : tv.length = s.length := t2.length
          have lf1 : fv.length = u.length := f2.length
          (repeat (first | refine ⟨_, rfl, ?_⟩ | refine ⟨_, _, rfl, rfl, ?_⟩ | refine ⟨_, _, rfl, ?_⟩ | refine ⟨rfl, ?_⟩))
          refine ⟨tb, tv, rfl, .inl (SqL.of t1), ?_⟩
          (repeat (first | refine ⟨_, rfl, ?_⟩ | refine ⟨_, _, rfl, rfl, ?_⟩ | refine ⟨_, _, rfl, ?_⟩ | refine ⟨rfl, ?_⟩))
          refine ⟨o6, fv, rfl, .inl (SqL.of f1), ?_⟩
          (repeat (first | refine ⟨_, rfl, ?_⟩ | refine ⟨_, _, rfl, rfl, ?_⟩ | refine ⟨_, _, rfl, ?_⟩ | refine ⟨rfl, ?_⟩))
          refine ⟨.inl ⟨by omega, by omega⟩, ?_⟩
          (repeat (first | refine ⟨_, rfl, ?_⟩ | refine ⟨_, _, rfl, rfl, ?_⟩ | refine ⟨_, _, rfl, ?_⟩ | refine ⟨rfl, ?_⟩))
          refine itD (fun h4 => ?_) (fun h4 => ?_)
          · have hw : s.length * u.length ≤ 4000 := by
              have h5 : (tv.length : Int) * (fv.length : Int) ≤ 400 := h4
              rw [lt1, lf1] at h5
              have : ((s.length * u.length : Nat) : Int) ≤ 400 := by rw [Int.natCast_mul]; exact h5
              omega
            have htG := ((s4.trans s5).trans (s57.trans sG)) _ _ ht
            have hsG := hs.mono s1G
            have hxG := hx5.mono (s57.trans sG)
            have ndd : d ≠ d2 := (hs.mono s12).ne hd2
            (repeat (first | refine ⟨_, rfl, ?_⟩ | refine ⟨_, _, rfl, rfl, ?_⟩ | refine ⟨_, _, rfl, ?_⟩ | refine ⟨rfl, ?_⟩))
            refine ⟨t, _, 1, _, rfl, rfl, .inl (.inl htG), rfl, ?_⟩
            have hsG' := hsG
            have hxG' := hxG
            obtain ⟨q1, q2, q3, q4, q5⟩ := hsG'
            obtain ⟨r1, r2, r3, r4, r5⟩ := hxG'
            refine ⟨a, x, _, _, _, _, rfl, rfl, q4, r4, a, x, d, d2, s, u, rfl, hsG, hxG, ndd, by omega, hw, hb, fun y G2 v dv s8 hv hnv hcv => ?_⟩
            obtain rfl := sweep_unit h6 hst hc hcv
            (repeat (first | refine ⟨_, rfl, ?_⟩ | refine ⟨_, _, rfl, rfl, ?_⟩ | refine ⟨_, _, rfl, ?_⟩ | refine ⟨rfl, ?_⟩))
            refine ⟨y, _, _, rfl, by simp, hv.at, hcv, fun o9 G3 s9 no9 ho9 => ?_⟩
            (repeat (first | refine ⟨_, rfl, ?_⟩ | refine ⟨_, _, rfl, rfl, ?_⟩ | refine ⟨_, _, rfl, ?_⟩ | refine ⟨rfl, ?_⟩))
            refine ⟨le_line (by simp), fun q nq => ?_⟩
            (repeat (first | refine ⟨_, rfl, ?_⟩ | refine ⟨_, _, rfl, rfl, ?_⟩ | refine ⟨_, _, rfl, ?_⟩ | refine ⟨rfl, ?_⟩))
            refine ⟨le_line (by simp), fun l nl => ?_⟩
            obtain ⟨sl, hl⟩ := one_ls (f := rowV) (a1 := (((0, 0, .d), 1) : Row)) nq nl
            refine eq_ls dat_row cf_row (ho9.mono sl) hl ?_
            exact k _ (s1G.trans (s8.trans (s9.trans sl)))
          · (repeat (first | refine ⟨_, rfl, ?_⟩ | refine ⟨_, _, rfl, rfl, ?_⟩ | refine ⟨_, _, rfl, ?_⟩ | refine ⟨rfl, ?_⟩))
            exact hall
        · (repeat (first | refine ⟨_, rfl, ?_⟩ | refine ⟨_, _, rfl, rfl, ?_⟩ | refine ⟨_, _, rfl, ?_⟩ | refine ⟨rfl, ?_⟩))
          exact hall
    · obtain rfl := six_unique h6 h6'
      obtain rfl := stub_unique hst hst'
      have s13 := s12.trans s3
      (repeat (first | refine ⟨_, rfl, ?_⟩ | refine ⟨_, _, rfl, rfl, ?_⟩ | refine ⟨_, _, rfl, ?_⟩ | refine ⟨rfl, ?_⟩))
      refine ⟨a, L, s, rfl, by omega, hs.at.mono s13, hcan, fun o4 H4 s4 no4 ho4 => ?_⟩
      (repeat (first | refine ⟨_, rfl, ?_⟩ | refine ⟨_, _, rfl, rfl, ?_⟩ | refine ⟨_, _, rfl, ?_⟩ | refine ⟨rfl, ?_⟩))
      have s14 := s13.trans s4
      refine ne_ls dat_row cf_row ho4 (htb.mono s14) ?_
      (repeat (first | refine ⟨_, rfl, ?_⟩ | refine ⟨_, _, rfl, rfl, ?_⟩ | refine ⟨_, _, rfl, ?_⟩ | refine ⟨rfl, ?_⟩))
      have ht4 := s4 _ _ ht
      have hq4 : SqT K H4 t [.str "refused", .int (i : Nat)] := .inl (.inl ht4)
      refine ⟨t, _, 0, _, rfl, rfl, hq4, rfl, ?_⟩
      (repeat (first | refine ⟨_, rfl, ?_⟩ | refine ⟨_, _, rfl, rfl, ?_⟩ | refine ⟨_, _, rfl, ?_⟩ | refine ⟨rfl, ?_⟩))
      refine ⟨t, _, 1, _, rfl, rfl, hq4, rfl, ?_⟩
      (repeat (first | refine ⟨_, rfl, ?_⟩ | refine ⟨_, _, rfl, rfl, ?_⟩ | refine ⟨_, _, rfl, ?_⟩ | refine ⟨rfl, ?_⟩))
      refine ⟨t, _, 1, _, rfl, rfl, hq4, rfl, ?_⟩
      (repeat (first | refine ⟨_, rfl, ?_⟩ | refine ⟨_, _, rfl, rfl, ?_⟩ | refine ⟨_, _, rfl, ?_⟩ | refine ⟨rfl, ?_⟩))
      refine itY rfl ?_
      (repeat (first | refine ⟨_, rfl, ?_⟩ | refine ⟨_, _, rfl, rfl, ?_⟩ | refine ⟨_, _, rfl, ?_⟩ | refine ⟨rfl, ?_⟩))
      refine ⟨a, s, rfl, hs.at.mono s14, by omega, fun r' ss5 H5 s5 h65 hst5 => ?_⟩
      obtain rfl := six_unique h6 h65
      obtain rfl := stub_unique hst hst5
      (repeat (first | refine ⟨_, rfl, ?_⟩ | refine ⟨_, _, rfl, rfl, ?_⟩ | refine ⟨_, _, rfl, ?_⟩ | refine ⟨rfl, ?_⟩))
      exact k _ (s14.trans s5)
end
end SV
end

section
set_option Elab.async false
set_option linter.all false
set_option maxRecDepth 100000
set_option maxHeartbeats 4000000
/-! The law. -/
namespace SV
open PySem PySem.Spec PyProof.Rows L2
theorem vl_mov (i : Nat) (L : List Row) (dx dy t : Int) (k : Place) : coef (vl i (movL L dx dy t)) k = t * coef (vl i L) (k.1 - dx, k.2 - dy) := by
  have e : vl i (movL L dx dy t) = (vl i L).map fun p => ((dx + p.1.1, dy + p.1.2), t * p.2) := by
    unfold vl movL
    rw [List.map_map, List.map_map]
    apply List.map_congr_left
    intro r _
    simp only [Function.comp, lowM, shift, Prod.mk.injEq]
    refine ⟨⟨by omega, by omega⟩, ?_⟩
    rw [Int.mul_comm r.2 t, Int.mul_assoc]
  rw [e, coef_shift]
theorem base_one {ns : List Int} {L : List Row} (h : PenOk ns L) {dx dy t : Int} (ht : t ≠ 0) {ss : List (List Spot)} (h6 : Six (movL L dx dy t) ss) {i : Nat} (hi : i < 6) : ss[i]? = some [((((cornL ns).getD i (0, 0)).1 + dx, ((cornL ns).getD i (0, 0)).2 + dy), t)] := by
  obtain ⟨x, hx⟩ : ∃ x, ss[i]? = some x := ⟨_, List.getElem?_eq_getElem (by rw [h6.1]; exact hi)⟩
  rw [hx]
  congr 1
  refine (h6.2 i x hx).single (fun k => ?_) ht
  rw [vl_mov, h.views i hi]
  by_cases e : ((((cornL ns).getD i (0, 0)).1 + dx, ((cornL ns).getD i (0, 0)).2 + dy) : Place) = k
  · rw [if_pos e, ← e, if_pos (by ext <;> simp <;> omega), Int.mul_one]
  · rw [if_neg e, if_neg, Int.mul_zero]
    intro z
    apply e
    rw [z]
    obtain ⟨a, b⟩ := k
    simp only [Prod.mk.injEq]
    omega
theorem cornL_len {ns : List Int} (h : ns.length = 6) : (cornL ns).length = 6 := by
  match ns, h with
  | [_, _, _, _, _, _], _ => rfl
theorem at1 {x y : V} {xs : List V} : atI (x :: y :: xs) 1 = some y := atI_nat (j := 1) rfl
theorem cut_to (xs : List V) (i : Nat) : cutV xs none (some ((i : Nat) : Int)) = xs.take i := by
  unfold cutV
  rw [HT.sIx_none, HT.sIx_nat, Nat.sub_zero, List.drop_zero]
  by_cases h : i ≤ xs.length
  · rw [Nat.min_eq_left h]
  · rw [Nat.min_eq_right (by omega), List.take_of_length_le (Nat.le_refl _), List.take_of_length_le (by omega)]
/-- only the list at h changes -/
theorem Ls.put {α : Type} {f : α → List V} {H : Hp} {h l : Addr} {vs : List V} {o : HO} {xs : List α} (hl : Ls H f l xs) (hh : H h = some (.lst vs)) (n : l ≠ h) : Ls (upd H h o) f l xs := let ⟨us, u1, u2⟩ := hl; ⟨us, by rw [upd_ne n]; exact u1, u2.monoT (SameT.lst hh)⟩
theorem SheetD.put {cSh : Addr} {H : Hp} {h a d : Addr} {vs : List V} {o : HO} {s : List Row} (hs : SheetD cSh H a s d) (hh : H h = some (.lst vs)) : SheetD cSh (upd H h o) a s d := by
  obtain ⟨dx, z, ws, h1, h2, h3, h4⟩ := hs
  exact ⟨dx, z, ws, by rw [upd_ne (ne_of h1 hh (fun z => nomatch z))]; exact h1, by rw [upd_ne (ne_of h2 hh (fun z => nomatch z))]; exact h2, h3.monoT (SameT.lst hh), by rw [upd_ne (ne_of h4 hh (fun z => nomatch z))]; exact h4⟩
section
variable {P : Program} {w : World} {K : PySem.W.Frag} {mg : Str → Option Value} {base : Heap} {f : Addr} {fd : FuncData} {cTu cSp cVi cSh cNo cDr cBl cNk : Addr}
/- law -/
abbrev N_law : List Str := ["_law_script", "_law_pot", "_law_form", "_law_reaches", "_law_rows", "_law_sign", "_law_move", "_law_base", "_law_views", "_law_corners", "_law_view", "_law_x", "_law_y", "_law_other", "_law_handed", "_law_sheets", "_law_tables", "_law_turn", "_law_at", "_law_cell"]
abbrev P_law : List Str := ["_law_script"]
theorem sc_law : FnScope N_law P_law (defScope s_law) := ⟨rfl, rfl, rfl, by decide +kernel, rfl, by decide +kernel, by decide +kernel⟩
def spLaw (K : PySem.W.Frag) : Sp := fun vs H Q _ => ∃ (l : Addr) (ns : List Int), vs = [.ref l] ∧ SqL K H l (ns.map V.int) ∧ ∀ H', Q (.bl true) H'
theorem ok_law (T : Txt K w mg) (TC : TxtC K cTu cSp cVi cSh) (TM : TxtM K mg cTu cSp cVi cSh) (F : GDef K "law" s_law f fd) (c__law_draw : Cal P w K mg base CX0 "_law_draw" P__law_draw 1 spDraw) (c__law_any_pen : Cal P w K mg base CX0 "_law_any_pen" P__law_any_pen 7 spAnyPen) (c__law_shift : Cal P w K mg base CX0 "_law_shift" P__law_shift 2 spShift)
    (c__law_moved : Cal P w K mg base CX0 "_law_moved" P__law_moved 1 spMoved) (c__law_six_views : Cal P w K mg base CX0 "_law_six_views" P__law_six_views 2 spSixViews) (c__law_six_corners : Cal P w K mg base CX0 "_law_six_corners" P__law_six_corners 1 spSixCorners) (c__law_beside : Cal P w K mg base CX0 "_law_beside" P__law_beside 4 spBeside)
    (c__law_sorted_cells : Cal P w K mg base CX0 "_law_sorted_cells" P__law_sorted_cells 1 spSortedCells) (c__law_right : Cal P w K mg base CX0 "_law_right" P__law_right 10 (spRight cSh)) (mk_Sheet : Mkr P w K mg base CX0 "Sheet" cSh P_Sheet___init__ 2 (spShInit cSh)) : FnOk P w K mg base CX0 11 f fd P_law (spLaw K) := by
  refine F.ok sc_law (fun vs H Q E h => ?_) (fun cdv A outer s H vs Q E hr h => ?_)
  · obtain ⟨l, ns, rfl, _⟩ := h; rfl
  · obtain ⟨l, ns, rfl, hl, k⟩ := h
    have hu64 := hu64_of hr
    refine ⟨_, PSs.nox (pss_cons (ps_setLc (own := [("_law_cell", 19)]) (i := 1) (g := gName 19) rfl sc_law.nd rfl rfl (sw_true rfl rfl rfl (by decide +kernel)) (pi_list (pe_slice sl_list (pv 0) po_none (po_some pe_int))) (blkOk_by (N := N_law) (sc := defScope s_law) (own := [("_law_cell", 19)]) (by decide +kernel)) (fun _ _ _ _ _ => (pg_name (i := 19) sc_law.nd rfl (Or.inl rfl))) (fun _ _ _ _ _ => pts_nil) (fun _ _ _ _ _ => (pe_ifExp (pt_cmpR op_ge (pv 19) pe_int (nomark _)) (pv 19) (pe_op op_sub (pe_un un_neg (pv 19)) pe_int))))
      (pss_cons (ps_set (i := 2) sc_law.nd rfl (Or.inl rfl) (pe_cal c__law_draw (hr.mono (by decide)) rfl (pa_cons (pv 1) (pa_cons pe_int pa_nil))))
      (pss_cons (ps_asg (pe_cal c__law_any_pen (hr.mono (by decide)) rfl (pa_cons (pv 1) pa_nil)) (pg_tup rfl (pgs_cons (pg_name (i := 3) sc_law.nd rfl (Or.inl rfl)) (pgs_cons (pg_name (i := 4) sc_law.nd rfl (Or.inl rfl)) pgs_nil))))
      (pss_cons (ps_if (pt_cmpR op_isN (pv 4) pe_non (nomark _))
        (pss_one (ps_ret pe_bl))
        pss_nil)
      (pss_cons (ps_set (i := 5) sc_law.nd rfl (Or.inl rfl) (pe_op op_sub pe_int (pe_op op_mul pe_int (pe_cal c__law_draw (hr.mono (by decide)) rfl (pa_cons (pv 1) (pa_cons pe_int pa_nil))))))
      (pss_cons (ps_set (i := 6) sc_law.nd rfl (Or.inl rfl) (pe_cal c__law_shift (hr.mono (by decide)) rfl (pa_cons (pv 1) pa_nil)))
      (pss_cons (ps_set (i := 7) sc_law.nd rfl (Or.inl rfl) (pe_cal c__law_moved (hr.mono (by decide)) rfl (pa_cons (pv 4) (pa_cons (pe_ix ix_tup (pv 6) pe_int (fun _ _ => rfl)) (pa_cons (pe_ix ix_tup (pv 6) pe_int (fun _ _ => rfl)) (pa_cons (pv 5) pa_nil))))))
      (pss_cons (ps_set (i := 8) sc_law.nd rfl (Or.inl rfl) (pe_cal c__law_six_views (hr.mono (by decide)) rfl (pa_cons (pv 7) pa_nil)))
      (pss_cons (ps_set (i := 9) sc_law.nd rfl (Or.inl rfl) (pe_cal c__law_six_corners (hr.mono (by decide)) rfl (pa_cons (pv 3) pa_nil)))
      (pss_cons (ps_for PassesOwn.never rfl (pi_range1 rfl T.z_range (pa_cons pe_int pa_nil)) (pg_name (i := 10) sc_law.nd rfl (Or.inl rfl))
        (pss_cons (ps_asg (pe_ix ix_list (pv 9) (pv 10) (fun _ _ => rfl)) (pg_tup rfl (pgs_cons (pg_name (i := 11) sc_law.nd rfl (Or.inl rfl)) (pgs_cons (pg_name (i := 12) sc_law.nd rfl (Or.inl rfl)) pgs_nil))))
        (pss_one (ps_if (pt_cmpR (op_neD hu64) (pe_ix ix_list (pv 8) (pv 10) (fun _ _ => rfl)) (pe_lst (pa_cons (pe_tup (pa_cons (pe_op op_add (pv 11) (pe_ix ix_tup (pv 6) pe_int (fun _ _ => rfl))) (pa_cons (pe_op op_add (pv 12) (pe_ix ix_tup (pv 6) pe_int (fun _ _ => rfl))) (pa_cons (pv 5) pa_nil)))) pa_nil)) (nomark _))
          (pss_one (ps_ret pe_bl))
          pss_nil))))
      (pss_cons (ps_set (i := 13) sc_law.nd rfl (Or.inl rfl) (pe_cal c__law_beside (hr.mono (by decide)) rfl (pa_cons (pv 1) (pa_cons (pv 2) (pa_cons (pv 7) (pa_cons (pv 6) pa_nil))))))
      (pss_cons (ps_set (i := 14) sc_law.nd rfl (Or.inl rfl) (pe_callTy call_list_of (by rfl) T.z_list (by decide +kernel) (pa_cons (pv 7) pa_nil)))
      (pss_cons (ps_set (i := 15) sc_law.nd rfl (Or.inl rfl) (pe_lst (pa_cons (pe_mkC mk_Sheet (hr.mono (by decide)) rfl (pa_cons (pv 14) pa_nil)) (pa_cons (pe_mkC mk_Sheet (hr.mono (by decide)) rfl (pa_cons (pe_callTy call_tuple_of (by rfl) T.z_tuple (by decide +kernel) (pa_cons (pv 13) pa_nil)) pa_nil)) pa_nil))))
      (pss_cons (ps_expr (pe_bm PySem.F.plainAttrs_list PySem.F.slot_list_append PySem.F.type_list_append mt_append (pv 14) (pa_cons (pe_tup (pa_cons pe_int (pa_cons pe_int (pa_cons pe_str (pa_cons pe_int pa_nil))))) pa_nil)))
      (pss_cons (ps_set (i := 16) sc_law.nd rfl (Or.inl rfl) (pe_lst (pa_cons (pe_cal c__law_sorted_cells (hr.mono (by decide)) rfl (pa_cons (pv 7) pa_nil)) (pa_cons (pe_cal c__law_sorted_cells (hr.mono (by decide)) rfl (pa_cons (pv 13) pa_nil)) pa_nil))))
      (pss_cons (ps_for PassesOwn.never rfl (pi_range1 rfl T.z_range (pa_cons pe_int pa_nil)) (pg_name (i := 17) sc_law.nd rfl (Or.inl rfl))
        (pss_cons (ps_set (i := 18) sc_law.nd rfl (Or.inl rfl) (pe_op op_mod (pv 17) pe_int))
        (pss_one (ps_if (pt_not (pt_val (pe_cal c__law_right (hr.mono (by decide)) rfl (pa_cons (pe_ix ix_list (pv 15) (pv 18) (fun _ _ => rfl)) (pa_cons (pe_ix ix_list (pv 16) (pv 18) (fun _ _ => rfl)) (pa_cons (pe_cmpR op_lt (pv 17) pe_int (nomark _)) pa_nil))))))
          (pss_one (ps_ret pe_bl))
          pss_nil))))
      (pss_one (ps_ret pe_bl)))))))))))))))))), ?_⟩
    (repeat (first | refine ⟨_, rfl, ?_⟩ | refine ⟨_, _, rfl, rfl, ?_⟩ | refine ⟨_, _, rfl, ?_⟩ | refine ⟨rfl, ?_⟩))
    refine ⟨l, _, rfl, hl, fun q nq => ?_⟩
    have ec : cutV (ns.map V.int) none (some ((63 : Nat) : Int)) = (ns.take 63).map V.int := by rw [cut_to, List.map_take]
    have sq := Same.new (o := .lst (cutV (ns.map V.int) none (some ((63 : Nat) : Int)))) nq
    have hq : (upd H q (.lst (cutV (ns.map V.int) none (some ((63 : Nat) : Int))))) q = some (.lst ((ns.take 63).map V.int)) := by rw [upd_same, ec]
    (repeat (first | refine ⟨_, rfl, ?_⟩ | refine ⟨_, _, rfl, rfl, ?_⟩ | refine ⟨_, _, rfl, ?_⟩ | refine ⟨rfl, ?_⟩))
    refine ⟨⟨_, SqL.of hq⟩, fun p np => ?_⟩
    have hl63 : (ns.take 63).length ≤ 63 := by rw [List.length_take]; exact Nat.min_le_left _ _
    refine lc_list (xs := (ns.take 63).map V.int) (fun i G => G q = some (.lst ((ns.take 63).map V.int)) ∧ ∃ ms : List Int, G p = some (.lst (ms.map V.int)) ∧ ms.length = i) ⟨(Same.new np) _ _ hq, [], upd_same, rfl⟩ (fun i G hi t => SqL.of t.1) (fun i x G hx t => ?_) (fun G t => ?_)
    · obtain ⟨hqG, ms, hm, hn⟩ := t
      have npq : q ≠ p := by rintro rfl; rw [upd_same] at np; cases np
      rw [List.getElem?_map] at hx
      cases hc : (ns.take 63)[i]? with
      | none => rw [hc] at hx; cases hx
      | some c =>
      rw [hc] at hx
      cases hx
      have hi : i < 63 := by have := (List.getElem?_eq_some_iff.mp hc).1; omega
      have fin : ∀ y : Int, ∃ acc, G p = some (.lst acc) ∧ acc.length < sizeLine ∧ (upd G p (.lst (acc ++ [V.int y]))) q = some (.lst ((ns.take 63).map V.int)) ∧ ∃ ms' : List Int, (upd G p (.lst (acc ++ [V.int y]))) p = some (.lst (ms'.map V.int)) ∧ ms'.length = i + 1 := fun y =>
        ⟨_, hm, lt_line (m := 100) (by rw [List.length_map]; omega) (by decide), by rw [upd_ne npq]; exact hqG, ms ++ [y], by rw [upd_same, List.map_append]; rfl, by rw [List.length_append, hn]; rfl⟩
      (repeat (first | refine ⟨_, rfl, ?_⟩ | refine ⟨_, _, rfl, rfl, ?_⟩ | refine ⟨_, _, rfl, ?_⟩ | refine ⟨rfl, ?_⟩))
      refine itD (fun h => ?_) (fun h => ?_)
      · (repeat (first | refine ⟨_, rfl, ?_⟩ | refine ⟨_, _, rfl, rfl, ?_⟩ | refine ⟨_, _, rfl, ?_⟩ | refine ⟨rfl, ?_⟩))
        exact fin c
      · (repeat (first | refine ⟨_, rfl, ?_⟩ | refine ⟨_, _, rfl, rfl, ?_⟩ | refine ⟨_, _, rfl, ?_⟩ | refine ⟨rfl, ?_⟩))
        exact fin _
    · obtain ⟨hqG, ms, hm, hn⟩ := t
      have hp : PotAt G p := ⟨ms, hm, by rw [List.length_map] at hn; omega⟩
      (repeat (first | refine ⟨_, rfl, ?_⟩ | refine ⟨_, _, rfl, rfl, ?_⟩ | refine ⟨_, _, rfl, ?_⟩ | refine ⟨rfl, ?_⟩))
      refine ⟨by decide, by decide, hp, fun fm G1 f0 f1 s1 p1 => ?_⟩
      (repeat (first | refine ⟨_, rfl, ?_⟩ | refine ⟨_, _, rfl, rfl, ?_⟩ | refine ⟨_, _, rfl, ?_⟩ | refine ⟨rfl, ?_⟩))
      refine ⟨p1, fun a r lr rs L G2 s2 p2 ha npr npl hrs hL hpen => ?_⟩
      (repeat (first | refine ⟨_, rfl, ?_⟩ | refine ⟨_, _, rfl, rfl, ?_⟩ | refine ⟨_, _, rfl, ?_⟩ | refine ⟨rfl, ?_⟩))
      refine ⟨a, _, rfl, .inl (.inl ha), rfl, ?_⟩
      (repeat (first | refine ⟨_, rfl, ?_⟩ | refine ⟨_, _, rfl, rfl, ?_⟩ | refine ⟨_, _, rfl, ?_⟩ | refine ⟨rfl, ?_⟩))
      refine ⟨by decide, by decide, p2, fun d G3 d0 d1 s3 p3 => ?_⟩
      (repeat (first | refine ⟨_, rfl, ?_⟩ | refine ⟨_, _, rfl, rfl, ?_⟩ | refine ⟨_, _, rfl, ?_⟩ | refine ⟨rfl, ?_⟩))
      refine ⟨.inl (by decide), ?_⟩
      (repeat (first | refine ⟨_, rfl, ?_⟩ | refine ⟨_, _, rfl, rfl, ?_⟩ | refine ⟨_, _, rfl, ?_⟩ | refine ⟨rfl, ?_⟩))
      refine ⟨p3, fun z u G4 s4 p4 hu => ?_⟩
      obtain ⟨mv, rfl, hmv⟩ := hu
      have s34 := s3.trans s4
      have hL4 := hL.monoX s34 p2 (Ne.symm npl)
      have hrs4 : Il G4 r rs := s34 _ _ (Ne.symm npr) hrs
      obtain ⟨t, et, ht0, ht1, ht2⟩ : ∃ t : Int, 1 - 2 * d = t ∧ t ≠ 0 ∧ -1 ≤ t ∧ t ≤ 1 := ⟨1 - 2 * d, rfl, by omega, by omega, by omega⟩
      (repeat (first | refine ⟨_, rfl, ?_⟩ | refine ⟨_, _, rfl, rfl, ?_⟩ | refine ⟨_, _, rfl, ?_⟩ | refine ⟨rfl, ?_⟩))
      refine ⟨mv, _, 0, _, rfl, rfl, .inl (.inl hmv), rfl, ?_⟩
      (repeat (first | refine ⟨_, rfl, ?_⟩ | refine ⟨_, _, rfl, rfl, ?_⟩ | refine ⟨_, _, rfl, ?_⟩ | refine ⟨rfl, ?_⟩))
      refine ⟨mv, _, 1, _, rfl, rfl, .inl (.inl hmv), rfl, ?_⟩
      (repeat (first | refine ⟨_, rfl, ?_⟩ | refine ⟨_, _, rfl, rfl, ?_⟩ | refine ⟨_, _, rfl, ?_⟩ | refine ⟨rfl, ?_⟩))
      have hfew := hpen.few
      refine ⟨lr, L, z.1, z.2, t, by rw [← et]; rfl, by omega, by omega, by omega, hL4, fun lb G5 s5 nlb hB => ?_⟩
      have lB : (movL L z.1 z.2 t).length ≤ 60000 := by unfold movL; rw [List.length_map]; exact hfew
      have iB : ∀ r ∈ movL L z.1 z.2 t, -1000000000 ≤ r.2 ∧ r.2 ≤ 1000000000 := fun r hr' => by
        unfold movL at hr'
        obtain ⟨r0, h0, rfl⟩ := List.mem_map.mp hr'
        have h3 := hpen.inks r0 h0
        have := mul_abs (a := r0.2) (b := t) (A := 1000000000) (B := 1) ⟨by omega, by omega⟩ ⟨by omega, by omega⟩ (by decide)
        show -1000000000 ≤ r0.2 * t ∧ r0.2 * t ≤ 1000000000
        omega
      have npb := p4.ne nlb
      generalize hBB : movL L z.1 z.2 t = B at hB lB iB
      (repeat (first | refine ⟨_, rfl, ?_⟩ | refine ⟨_, _, rfl, rfl, ?_⟩ | refine ⟨_, _, rfl, ?_⟩ | refine ⟨rfl, ?_⟩))
      refine ⟨lb, B, rfl, by omega, hB, fun o ss G6 s6 no hv h6 => ?_⟩
      (repeat (first | refine ⟨_, rfl, ?_⟩ | refine ⟨_, _, rfl, rfl, ?_⟩ | refine ⟨_, _, rfl, ?_⟩ | refine ⟨rfl, ?_⟩))
      refine ⟨r, rs, rfl, hpen.len, s6 _ _ (s5 _ _ hrs4), fun c G7 s7 nc hc => ?_⟩
      (repeat (first | refine ⟨_, rfl, ?_⟩ | refine ⟨_, _, rfl, rfl, ?_⟩ | refine ⟨_, _, rfl, ?_⟩ | refine ⟨rfl, ?_⟩))
      obtain ⟨ws, w1, w2⟩ := hv.mono s7
      obtain ⟨cs, c1, c2⟩ := hc
      have lws : ws.length = 6 := by rw [← h6.1]; exact Paired.length w2
      have lcs : cs.length = 6 := by rw [c2.length]; exact cornL_len hpen.len
      have s47 := s5.trans (s6.trans s7)
      have p7 := p4.mono s47
      have hmv7 := s47 _ _ hmv
      have hB7 := hB.mono (s6.trans s7)
      refine ⟨by decide, by decide, ?_⟩
      refine for_range (lo := 0) (n := 6) (fun i σ G => (∃ a10 a11 a12, σ = [some (.ref l), some (.ref p), some (.int fm), some (.ref r), some (.ref lr), some (.int t), some (.ref mv), some (.ref lb), some (.ref o), some (.ref c), a10, a11, a12, none, none, none, none, none, none, none]) ∧ Same G7 G) ⟨⟨none, none, none, by rw [← et]; rfl⟩, Same.refl _⟩ (fun i σ G hi q => ?_) (fun σ G q => ?_)
      · obtain ⟨⟨a10, a11, a12, rfl⟩, sG⟩ := q
        have e0 : (0 : Int) + ((i : Nat) : Int) = ((i : Nat) : Int) := Int.zero_add _
        rw [e0]
        obtain ⟨v, hv'⟩ : ∃ v, ws[i]? = some v := ⟨_, List.getElem?_eq_getElem (by omega)⟩
        obtain ⟨sp, hsp, b, rfl, hls⟩ := paired_get w2 hv'
        have hone := base_one hpen ht0 (by rw [hBB]; exact h6) hi
        rw [hsp] at hone
        cases hone
        obtain ⟨cv, hcv⟩ : ∃ v, cs[i]? = some v := ⟨_, List.getElem?_eq_getElem (by omega)⟩
        obtain ⟨cp, hcp, e, rfl, he⟩ := c2.get hcv
        have ecp : (cornL rs).getD i (0, 0) = cp := by rw [List.getD_eq_getElem?_getD, hcp]; rfl
        rw [ecp] at hls
        (repeat (first | refine ⟨_, rfl, ?_⟩ | refine ⟨_, _, rfl, rfl, ?_⟩ | refine ⟨_, _, rfl, ?_⟩ | refine ⟨rfl, ?_⟩))
        refine ⟨c, cs, _, _, rfl, rfl, SqL.of (sG _ _ c1), atI_nat hcv, ?_⟩
        (repeat (first | refine ⟨_, rfl, ?_⟩ | refine ⟨_, _, rfl, rfl, ?_⟩ | refine ⟨_, _, rfl, ?_⟩ | refine ⟨rfl, ?_⟩))
        refine ⟨e, _, rfl, .inl (.inl (sG _ _ he)), rfl, ?_⟩
        (repeat (first | refine ⟨_, rfl, ?_⟩ | refine ⟨_, _, rfl, rfl, ?_⟩ | refine ⟨_, _, rfl, ?_⟩ | refine ⟨rfl, ?_⟩))
        refine ⟨o, ws, _, _, rfl, rfl, SqL.of (sG _ _ w1), atI_nat hv', ?_⟩
        (repeat (first | refine ⟨_, rfl, ?_⟩ | refine ⟨_, _, rfl, rfl, ?_⟩ | refine ⟨_, _, rfl, ?_⟩ | refine ⟨rfl, ?_⟩))
        refine ⟨mv, _, 0, _, rfl, rfl, .inl (.inl (sG _ _ hmv7)), rfl, ?_⟩
        (repeat (first | refine ⟨_, rfl, ?_⟩ | refine ⟨_, _, rfl, rfl, ?_⟩ | refine ⟨_, _, rfl, ?_⟩ | refine ⟨rfl, ?_⟩))
        refine ⟨mv, _, 1, _, rfl, rfl, .inl (.inl (sG _ _ hmv7)), rfl, ?_⟩
        (repeat (first | refine ⟨_, rfl, ?_⟩ | refine ⟨_, _, rfl, rfl, ?_⟩ | refine ⟨_, _, rfl, ?_⟩ | refine ⟨rfl, ?_⟩))
        refine ⟨le_line (by simp), fun q nq => ?_⟩
        (repeat (first | refine ⟨_, rfl, ?_⟩ | refine ⟨_, _, rfl, rfl, ?_⟩ | refine ⟨_, _, rfl, ?_⟩ | refine ⟨rfl, ?_⟩))
        refine ⟨le_line (by simp), fun l' nl => ?_⟩
        obtain ⟨sl, hl'⟩ := one_ls (f := spotV) (a1 := (((cp.1 + z.1, cp.2 + z.2), t) : Spot)) nq nl
        refine ne_ls dat_spot cf_spot ((hls.mono sG).mono sl) hl' ?_
        (repeat (first | refine ⟨_, rfl, ?_⟩ | refine ⟨_, _, rfl, rfl, ?_⟩ | refine ⟨_, _, rfl, ?_⟩ | refine ⟨rfl, ?_⟩))
        exact ⟨⟨_, _, _, rfl⟩, sG.trans sl⟩
      · obtain ⟨⟨a10, a11, a12, rfl⟩, sG⟩ := q
        have pG := p7.mono sG
        have hBG := hB7.mono sG
        (repeat (first | refine ⟨_, rfl, ?_⟩ | refine ⟨_, _, rfl, rfl, ?_⟩ | refine ⟨_, _, rfl, ?_⟩ | refine ⟨rfl, ?_⟩))
        refine ⟨p, lb, fm, .ref mv, B, z, rfl, pG, npb, hBG, lB, iB, ⟨mv, rfl, sG _ _ hmv7⟩, fun lo O G8 s8 nlo hO lO iO => ?_⟩
        have hB8 := hBG.monoX s8 pG (Ne.symm npb)
        obtain ⟨bv, b1, b2⟩ := hB8
        have lbv : bv.length = B.length := b2.length
        (repeat (first | refine ⟨_, rfl, ?_⟩ | refine ⟨_, _, rfl, rfl, ?_⟩ | refine ⟨_, _, rfl, ?_⟩ | refine ⟨rfl, ?_⟩))
        refine ⟨lb, bv, rfl, .inl (SqL.of b1), fun h nh => ?_⟩
        have sh := Same.new (o := .lst bv) nh
        have hlbh : lb ≠ h := by rintro rfl; rw [b1] at nh; cases nh
        have hloh : lo ≠ h := by
          rintro rfl
          obtain ⟨_, v1, _⟩ := hO
          rw [v1] at nh
          cases nh
        (repeat (first | refine ⟨_, rfl, ?_⟩ | refine ⟨_, _, rfl, rfl, ?_⟩ | refine ⟨_, _, rfl, ?_⟩ | refine ⟨rfl, ?_⟩))
        intro x dx nx ndx ne
        refine mk_sh nx ndx ne (Ls.sq ⟨bv, upd_same, b2.mono sh⟩) (by omega) fun G9 sa da s9 hsa hnda hca => ⟨rfl, ?_⟩
        (repeat (first | refine ⟨_, rfl, ?_⟩ | refine ⟨_, _, rfl, rfl, ?_⟩ | refine ⟨_, _, rfl, ?_⟩ | refine ⟨rfl, ?_⟩))
        obtain ⟨ov, v1, v2⟩ := (hO.mono sh).mono s9
        refine ⟨lo, ov, rfl, .inl ⟨SqL.of v1, fun tt ntt => ?_⟩⟩
        have st := Same.new (o := .tup ov) ntt
        (repeat (first | refine ⟨_, rfl, ?_⟩ | refine ⟨_, _, rfl, rfl, ?_⟩ | refine ⟨_, _, rfl, ?_⟩ | refine ⟨rfl, ?_⟩))
        intro x2 dx2 nx2 ndx2 ne2
        refine mk_sh nx2 ndx2 ne2 (show Sq _ rowV tt O from ⟨ov, .inr upd_same, v2.mono st⟩) (by omega) fun G11 sb db s11 hsb hndb hcb => ⟨rfl, ?_⟩
        (repeat (first | refine ⟨_, rfl, ?_⟩ | refine ⟨_, _, rfl, rfl, ?_⟩ | refine ⟨_, _, rfl, ?_⟩ | refine ⟨rfl, ?_⟩))
        refine ⟨le_line (by simp), fun S nS => ?_⟩
        have sS := Same.new (o := .lst [.ref x, .ref x2]) nS
        have s812 := s9.trans (st.trans (s11.trans sS))
        have hh12 := s812 _ _ (show (upd G8 h (.lst bv)) h = some (.lst bv) from upd_same)
        have hS12 : (upd G11 S (.lst [.ref x, .ref x2])) S = some (.lst [.ref x, .ref x2]) := upd_same
        have hSh : S ≠ h := by
          rintro rfl
          have := (s9.trans (st.trans s11)) _ _ (show (upd G8 S (.lst bv)) S = some (.lst bv) from upd_same)
          rw [this] at nS
          cases nS
        have hsa12 := hsa.mono (st.trans (s11.trans sS))
        have hsb12 := hsb.mono sS
        have hB12 : Ls (upd G11 S (.lst [.ref x, .ref x2])) rowV lb B := (Ls.mono sh ⟨bv, b1, b2⟩).mono s812
        have hO12 : Ls (upd G11 S (.lst [.ref x, .ref x2])) rowV lo O := (hO.mono sh).mono s812
        generalize hG12 : upd G11 S (.lst [.ref x, .ref x2]) = G12 at hh12 hS12 hsa12 hsb12 hB12 hO12
        (repeat (first | refine ⟨_, rfl, ?_⟩ | refine ⟨_, _, rfl, rfl, ?_⟩ | refine ⟨_, _, rfl, ?_⟩ | refine ⟨rfl, ?_⟩))
        refine ⟨ty_lst hh12, ?_⟩
        (repeat (first | refine ⟨_, rfl, ?_⟩ | refine ⟨_, _, rfl, rfl, ?_⟩ | refine ⟨_, _, rfl, ?_⟩ | refine ⟨rfl, ?_⟩))
        refine ⟨le_line (by simp), fun e ne => ?_⟩
        have se := Same.new (o := .tup [.int 0, .int 0, .str "d", .int 7]) ne
        refine ⟨h, bv, _, rfl, rfl, se _ _ hh12, lt_line (m := 1000001) (by omega) (by decide), ?_⟩
        have hh13 := se _ _ hh12
        have hsa13 := (hsa12.mono se).put (o := .lst (bv ++ [.ref e])) hh13
        have hsb13 := (hsb12.mono se).put (o := .lst (bv ++ [.ref e])) hh13
        have hB13 := (hB12.mono se).put (o := .lst (bv ++ [.ref e])) hh13 hlbh
        have hO13 := (hO12.mono se).put (o := .lst (bv ++ [.ref e])) hh13 hloh
        have hS13 : (upd (upd G12 e (.tup [.int 0, .int 0, .str "d", .int 7])) h (.lst (bv ++ [.ref e]))) S = some (.lst [.ref x, .ref x2]) := by rw [upd_ne hSh]; exact se _ _ hS12
        (repeat (first | refine ⟨_, rfl, ?_⟩ | refine ⟨_, _, rfl, rfl, ?_⟩ | refine ⟨_, _, rfl, ?_⟩ | refine ⟨rfl, ?_⟩))
        generalize hG13 : upd (upd G12 e (.tup [.int 0, .int 0, .str "d", .int 7])) h (.lst (bv ++ [.ref e])) = G13 at hsa13 hsb13 hB13 hO13 hS13
        refine ⟨lb, B, rfl, by omega, hB13, fun ta ra G14 s14 nta hta hcta => ?_⟩
        (repeat (first | refine ⟨_, rfl, ?_⟩ | refine ⟨_, _, rfl, rfl, ?_⟩ | refine ⟨_, _, rfl, ?_⟩ | refine ⟨rfl, ?_⟩))
        refine ⟨lo, O, rfl, by omega, hO13.mono s14, fun tb rb G15 s15 ntb htb hctb => ?_⟩
        obtain rfl := hca.unique hcta fun _ => rfl
        obtain rfl := hcb.unique hctb fun _ => rfl
        (repeat (first | refine ⟨_, rfl, ?_⟩ | refine ⟨_, _, rfl, rfl, ?_⟩ | refine ⟨_, _, rfl, ?_⟩ | refine ⟨rfl, ?_⟩))
        refine ⟨le_line (by simp), fun TT nTT => ?_⟩
        have sT := Same.new (o := .lst [.ref ta, .ref tb]) nTT
        have s1316 := s14.trans (s15.trans sT)
        have hsa16 := hsa13.mono s1316
        have hsb16 := hsb13.mono s1316
        have hta16 := (hta.mono s15).mono sT
        have htb16 := htb.mono sT
        have hS16 := s1316 _ _ hS13
        have hT16 : (upd G15 TT (.lst [.ref ta, .ref tb])) TT = some (.lst [.ref ta, .ref tb]) := upd_same
        generalize hG16 : upd G15 TT (.lst [.ref ta, .ref tb]) = G16 at hsa16 hsb16 hta16 htb16 hS16 hT16
        have bnd : ∀ {M s : List Row} {b : Int}, Canon M s → M.length ≤ 60010 → 0 ≤ b → b ≤ 4000000000 → (∀ r ∈ M, -b ≤ r.2 ∧ r.2 ≤ b) → s.length ≤ 100000 ∧ ∀ p ∈ s, -(2 ^ 64) < p.2 ∧ p.2 < 2 ^ 64 := fun {M s b} hc hl b0 b4 hi => by
          refine ⟨by have := hc.length; omega, fun p hp => ?_⟩
          have h1 := hc.inks b0 hi p hp
          have h2 : (M.length : Int) * b ≤ 60010 * 4000000000 := by
            have : M.length * b.toNat ≤ 60010 * 4000000000 := Nat.mul_le_mul hl (by omega)
            have e : ((M.length * b.toNat : Nat) : Int) = (M.length : Int) * b := by rw [Int.natCast_mul, Int.toNat_of_nonneg b0]
            omega
          omega
        obtain ⟨la, ia⟩ := bnd hca (by omega) (by decide) (by decide) iB
        obtain ⟨lb', ib⟩ := bnd hcb lO (by decide) (by decide) iO
        (repeat (first | refine ⟨_, rfl, ?_⟩ | refine ⟨_, _, rfl, rfl, ?_⟩ | refine ⟨_, _, rfl, ?_⟩ | refine ⟨rfl, ?_⟩))
        refine ⟨by decide, by decide, ?_⟩
        refine for_range (lo := 0) (n := 3) (fun i σ G => (∃ a10 a11 a12 a17 a18, σ = [some (.ref l), some (.ref p), some (.int fm), some (.ref r), some (.ref lr), some (.int t), some (.ref mv), some (.ref lb), some (.ref o), some (.ref c), a10, a11, a12, some (.ref lo), some (.ref h), some (.ref S), some (.ref TT), a17, a18, none]) ∧ Same G16 G) ⟨⟨_, _, _, _, _, rfl⟩, Same.refl _⟩ (fun i σ G hi q => ?_) (fun σ G q => ?_)
        · obtain ⟨⟨a10, a11, a12, a17, a18, rfl⟩, sG⟩ := q
          (repeat (first | refine ⟨_, rfl, ?_⟩ | refine ⟨_, _, rfl, rfl, ?_⟩ | refine ⟨_, _, rfl, ?_⟩ | refine ⟨rfl, ?_⟩))
          refine ⟨(show (0 : Int) < 2 by decide), ?_⟩
          (repeat (first | refine ⟨_, rfl, ?_⟩ | refine ⟨_, _, rfl, rfl, ?_⟩ | refine ⟨_, _, rfl, ?_⟩ | refine ⟨rfl, ?_⟩))
          have hat : (0 + ((i : Nat) : Int)) % 2 = 0 ∨ (0 + ((i : Nat) : Int)) % 2 = 1 := by omega
          rcases hat with hat | hat
          · refine ⟨S, _, _, .ref x, rfl, rfl, SqL.of (sG _ _ hS16), (by rw [hat]; exact at0), ?_⟩
            (repeat (first | refine ⟨_, rfl, ?_⟩ | refine ⟨_, _, rfl, rfl, ?_⟩ | refine ⟨_, _, rfl, ?_⟩ | refine ⟨rfl, ?_⟩))
            refine ⟨TT, _, _, .ref ta, rfl, rfl, SqL.of (sG _ _ hT16), (by rw [hat]; exact at0), ?_⟩
            (repeat (first | refine ⟨_, rfl, ?_⟩ | refine ⟨_, _, rfl, rfl, ?_⟩ | refine ⟨_, _, rfl, ?_⟩ | refine ⟨rfl, ?_⟩))
            refine ⟨x, ta, da, _, B, sa, rfl, hsa16.mono sG, hca, hta16.mono sG, la, ia, fun H' s' => ?_⟩
            (repeat (first | refine ⟨_, rfl, ?_⟩ | refine ⟨_, _, rfl, rfl, ?_⟩ | refine ⟨_, _, rfl, ?_⟩ | refine ⟨rfl, ?_⟩))
            exact ⟨⟨_, _, _, _, _, rfl⟩, sG.trans s'⟩
          · refine ⟨S, _, _, .ref x2, rfl, rfl, SqL.of (sG _ _ hS16), (by rw [hat]; exact at1), ?_⟩
            (repeat (first | refine ⟨_, rfl, ?_⟩ | refine ⟨_, _, rfl, rfl, ?_⟩ | refine ⟨_, _, rfl, ?_⟩ | refine ⟨rfl, ?_⟩))
            refine ⟨TT, _, _, .ref tb, rfl, rfl, SqL.of (sG _ _ hT16), (by rw [hat]; exact at1), ?_⟩
            (repeat (first | refine ⟨_, rfl, ?_⟩ | refine ⟨_, _, rfl, rfl, ?_⟩ | refine ⟨_, _, rfl, ?_⟩ | refine ⟨rfl, ?_⟩))
            refine ⟨x2, tb, db, _, O, sb, rfl, hsb16.mono sG, hcb, htb16.mono sG, lb', ib, fun H' s' => ?_⟩
            (repeat (first | refine ⟨_, rfl, ?_⟩ | refine ⟨_, _, rfl, rfl, ?_⟩ | refine ⟨_, _, rfl, ?_⟩ | refine ⟨rfl, ?_⟩))
            exact ⟨⟨_, _, _, _, _, rfl⟩, sG.trans s'⟩
        · obtain ⟨⟨a10, a11, a12, a17, a18, rfl⟩, sG⟩ := q
          (repeat (first | refine ⟨_, rfl, ?_⟩ | refine ⟨_, _, rfl, rfl, ?_⟩ | refine ⟨_, _, rfl, ?_⟩ | refine ⟨rfl, ?_⟩))
          exact k _
end
end SV
end

section
set_option Elab.async false
set_option linter.all false
set_option maxRecDepth 100000
set_option maxHeartbeats 0
/-! The chain: from what the top has left to the law's promise. Printed by chain.py. -/
namespace SV
open PySem PySem.Spec PyProof.Rows L2
structure Lay (K : PySem.W.Frag) (mg : Str → Option Value) (cTu cSp cVi cSh cNo : Addr) (d_Sp d_Sh : V) : Prop where
  f_check_view : ∃ fd, GDef K "check_view" s_check_view (He.ga K "check_view") fd
  g_check_view : mg "check_view" = some (.ref (He.ga K "check_view"))
  f_check_kind : ∃ fd, GDef K "check_kind" s_check_kind (He.ga K "check_kind") fd
  g_check_kind : mg "check_kind" = some (.ref (He.ga K "check_kind"))
  f_height : ∃ fd, GDef K "height" s_height (He.ga K "height") fd
  g_height : mg "height" = some (.ref (He.ga K "height"))
  f_sign_of : ∃ fd, GDef K "sign_of" s_sign_of (He.ga K "sign_of") fd
  g_sign_of : mg "sign_of" = some (.ref (He.ga K "sign_of"))
  f_corners_of : ∃ fd, GDef K "corners_of" s_corners_of (He.ga K "corners_of") fd
  g_corners_of : mg "corners_of" = some (.ref (He.ga K "corners_of"))
  f_cell_with : ∃ fd, GDef K "cell_with" s_cell_with (He.ga K "cell_with") fd
  g_cell_with : mg "cell_with" = some (.ref (He.ga K "cell_with"))
  f_closure : ∃ fd, GDef K "closure" s_closure (He.ga K "closure") fd
  g_closure : mg "closure" = some (.ref (He.ga K "closure"))
  f_lowest : ∃ fd, GDef K "lowest" s_lowest (He.ga K "lowest") fd
  g_lowest : mg "lowest" = some (.ref (He.ga K "lowest"))
  m_Turning___init__ : ∃ f fd, MDef K "__init__" "Turning.__init__" s_Turning___init__ [.int 0] [("mirrored", .bl false), ("inverted", .bl false)] f fd ∧ Mk K cTu f
  g_Turning : mg "Turning" = some (.ref cTu)
  m_Turning_place_to : ∃ f fd, MDef K "place_to" "Turning.place_to" s_Turning_place_to [] [] f fd ∧ Meth K cTu "place_to" f
  m_Turning_cell_to : ∃ f fd, MDef K "cell_to" "Turning.cell_to" s_Turning_cell_to [] [] f fd ∧ Meth K cTu "cell_to" f
  m_Spots___init__ : ∃ f fd, MDef K "__init__" "Spots.__init__" s_Spots___init__ [d_Sp] [] f fd ∧ Mk K cSp f
  g_Spots : mg "Spots" = some (.ref cSp)
  m_Sheet___init__ : ∃ f fd, MDef K "__init__" "Sheet.__init__" s_Sheet___init__ [d_Sh] [] f fd ∧ Mk K cSh f
  g_Sheet : mg "Sheet" = some (.ref cSh)
  m_Views___init__ : ∃ f fd, MDef K "__init__" "Views.__init__" s_Views___init__ [] [] f fd ∧ Mk K cVi f
  g_Views : mg "Views" = some (.ref cVi)
  m_Views_of_sheet : ∃ p f fd mc, MDef K "of_sheet" "Views.of_sheet" s_Views_of_sheet [] [] f fd ∧ ClX.CRead K cVi mc ∧ SMet K cVi mc "of_sheet" p f
  f_sheet_with : ∃ fd, GDef K "sheet_with" s_sheet_with (He.ga K "sheet_with") fd
  g_sheet_with : mg "sheet_with" = some (.ref (He.ga K "sheet_with"))
  f_swept_inks : ∃ fd, GDef K "swept_inks" s_swept_inks (He.ga K "swept_inks") fd
  g_swept_inks : mg "swept_inks" = some (.ref (He.ga K "swept_inks"))
  m_Spots_single : ∃ f fd, MDef K "single" "Spots.single" s_Spots_single [] [] f fd ∧ Meth K cSp "single" f
  m_Sheet___mul__ : ∃ f fd, MDef K "__mul__" "Sheet.__mul__" s_Sheet___mul__ [] [] f fd ∧ Meth K cSh "__mul__" f
  m_Sheet___invert__ : ∃ f fd, MDef K "__invert__" "Sheet.__invert__" s_Sheet___invert__ [] [] f fd ∧ Meth K cSh "__invert__" f
  m_Sheet_turned : ∃ f fd, MDef K "turned" "Sheet.turned" s_Sheet_turned [] [] f fd ∧ Meth K cSh "turned" f
  m_Sheet___iter__ : ∃ f fd, MDef K "__iter__" "Sheet.__iter__" s_Sheet___iter__ [] [] f fd ∧ PySem.W.findIn K (.ref cSh) "__iter__" = some (some (.ref f)) ∧ PySem.W.isFn K (.ref f) = true ∧ PySem.W.findIn K (.ref cSh) "__len__" = some none ∧ PySem.W.findIn K (.ref cSh) "__length_hint__" = some none
  m_Views___iter__ : ∃ f fd, MDef K "__iter__" "Views.__iter__" s_Views___iter__ [] [] f fd ∧ PySem.W.findIn K (.ref cVi) "__iter__" = some (some (.ref f)) ∧ PySem.W.isFn K (.ref f) = true ∧ PySem.W.findIn K (.ref cVi) "__len__" = some none ∧ PySem.W.findIn K (.ref cVi) "__length_hint__" = some none
  f_counter : ∃ fd, GDef K "counter" s_counter (He.ga K "counter") fd
  g_counter : mg "counter" = some (.ref (He.ga K "counter"))
  f_stubborn_view : ∃ fd, GDef K "stubborn_view" s_stubborn_view (He.ga K "stubborn_view") fd
  g_stubborn_view : mg "stubborn_view" = some (.ref (He.ga K "stubborn_view"))
  f_is_erasable : ∃ fd, GDef K "is_erasable" s_is_erasable (He.ga K "is_erasable") fd
  g_is_erasable : mg "is_erasable" = some (.ref (He.ga K "is_erasable"))
  m_NoEraser___init__ : ∃ f fd, MDef K "__init__" "NoEraser.__init__" s_NoEraser___init__ [] [] f fd ∧ PySem.W.findIn K (.ref cNo) "__init__" = some (some (.ref f)) ∧ PySem.W.typeIn K (.ref f) = some (.type "function")
  f_erasable_views : ∃ fd, GDef K "erasable_views" s_erasable_views (He.ga K "erasable_views") fd
  g_erasable_views : mg "erasable_views" = some (.ref (He.ga K "erasable_views"))
  f_eraser : ∃ fd, GDef K "eraser" s_eraser (He.ga K "eraser") fd
  g_eraser : mg "eraser" = some (.ref (He.ga K "eraser"))
  f__law_draw : ∃ fd, GDef K "_law_draw" s__law_draw (He.ga K "_law_draw") fd
  g__law_draw : mg "_law_draw" = some (.ref (He.ga K "_law_draw"))
  f__law_whole : ∃ fd, GDef K "_law_whole" s__law_whole (He.ga K "_law_whole") fd
  g__law_whole : mg "_law_whole" = some (.ref (He.ga K "_law_whole"))
  f__law_drawn_ink : ∃ fd, GDef K "_law_drawn_ink" s__law_drawn_ink (He.ga K "_law_drawn_ink") fd
  g__law_drawn_ink : mg "_law_drawn_ink" = some (.ref (He.ga K "_law_drawn_ink"))
  f__law_shift : ∃ fd, GDef K "_law_shift" s__law_shift (He.ga K "_law_shift") fd
  g__law_shift : mg "_law_shift" = some (.ref (He.ga K "_law_shift"))
  f__law_kind_at : ∃ fd, GDef K "_law_kind_at" s__law_kind_at (He.ga K "_law_kind_at") fd
  g__law_kind_at : mg "_law_kind_at" = some (.ref (He.ga K "_law_kind_at"))
  f__law_some_cells : ∃ fd, GDef K "_law_some_cells" s__law_some_cells (He.ga K "_law_some_cells") fd
  g__law_some_cells : mg "_law_some_cells" = some (.ref (He.ga K "_law_some_cells"))
  f__law_lows : ∃ fd, GDef K "_law_lows" s__law_lows (He.ga K "_law_lows") fd
  g__law_lows : mg "_law_lows" = some (.ref (He.ga K "_law_lows"))
  f__law_spots_of : ∃ fd, GDef K "_law_spots_of" s__law_spots_of (He.ga K "_law_spots_of") fd
  g__law_spots_of : mg "_law_spots_of" = some (.ref (He.ga K "_law_spots_of"))
  f__law_six_views : ∃ fd, GDef K "_law_six_views" s__law_six_views (He.ga K "_law_six_views") fd
  g__law_six_views : mg "_law_six_views" = some (.ref (He.ga K "_law_six_views"))
  f__law_first_bad : ∃ fd, GDef K "_law_first_bad" s__law_first_bad (He.ga K "_law_first_bad") fd
  g__law_first_bad : mg "_law_first_bad" = some (.ref (He.ga K "_law_first_bad"))
  f__law_sorted_cells : ∃ fd, GDef K "_law_sorted_cells" s__law_sorted_cells (He.ga K "_law_sorted_cells") fd
  g__law_sorted_cells : mg "_law_sorted_cells" = some (.ref (He.ga K "_law_sorted_cells"))
  f__law_rows_of : ∃ fd, GDef K "_law_rows_of" s__law_rows_of (He.ga K "_law_rows_of") fd
  g__law_rows_of : mg "_law_rows_of" = some (.ref (He.ga K "_law_rows_of"))
  f__law_unit : ∃ fd, GDef K "_law_unit" s__law_unit (He.ga K "_law_unit") fd
  g__law_unit : mg "_law_unit" = some (.ref (He.ga K "_law_unit"))
  f__law_added : ∃ fd, GDef K "_law_added" s__law_added (He.ga K "_law_added") fd
  g__law_added : mg "_law_added" = some (.ref (He.ga K "_law_added"))
  f__law_six_corners : ∃ fd, GDef K "_law_six_corners" s__law_six_corners (He.ga K "_law_six_corners") fd
  g__law_six_corners : mg "_law_six_corners" = some (.ref (He.ga K "_law_six_corners"))
  f__law_opposite : ∃ fd, GDef K "_law_opposite" s__law_opposite (He.ga K "_law_opposite") fd
  g__law_opposite : mg "_law_opposite" = some (.ref (He.ga K "_law_opposite"))
  f__law_closed : ∃ fd, GDef K "_law_closed" s__law_closed (He.ga K "_law_closed") fd
  g__law_closed : mg "_law_closed" = some (.ref (He.ga K "_law_closed"))
  f__law_moved : ∃ fd, GDef K "_law_moved" s__law_moved (He.ga K "_law_moved") fd
  g__law_moved : mg "_law_moved" = some (.ref (He.ga K "_law_moved"))
  f__law_counter : ∃ fd, GDef K "_law_counter" s__law_counter (He.ga K "_law_counter") fd
  g__law_counter : mg "_law_counter" = some (.ref (He.ga K "_law_counter"))
  f__law_tuft : ∃ fd, GDef K "_law_tuft" s__law_tuft (He.ga K "_law_tuft") fd
  g__law_tuft : mg "_law_tuft" = some (.ref (He.ga K "_law_tuft"))
  f__law_filled : ∃ fd, GDef K "_law_filled" s__law_filled (He.ga K "_law_filled") fd
  g__law_filled : mg "_law_filled" = some (.ref (He.ga K "_law_filled"))
  f__law_any_pen : ∃ fd, GDef K "_law_any_pen" s__law_any_pen (He.ga K "_law_any_pen") fd
  g__law_any_pen : mg "_law_any_pen" = some (.ref (He.ga K "_law_any_pen"))
  f__law_beside : ∃ fd, GDef K "_law_beside" s__law_beside (He.ga K "_law_beside") fd
  g__law_beside : mg "_law_beside" = some (.ref (He.ga K "_law_beside"))
  f__law_eraser : ∃ fd, GDef K "_law_eraser" s__law_eraser (He.ga K "_law_eraser") fd
  g__law_eraser : mg "_law_eraser" = some (.ref (He.ga K "_law_eraser"))
  f__law_right : ∃ fd, GDef K "_law_right" s__law_right (He.ga K "_law_right") fd
  g__law_right : mg "_law_right" = some (.ref (He.ga K "_law_right"))
theorem chain {P : Program} {w : World} {K : PySem.W.Frag} {mg : Str → Option Value} {base : Heap} {f : Addr} {fd : FuncData} {cTu cSp cVi cSh cNo cDr cBl cNk : Addr} {d_Sp d_Sh : V} (T : Txt K w mg) (TC : TxtC K cTu cSp cVi cSh) (TM : TxtM K mg cTu cSp cVi cSh) (TS : TxtS K w mg) (TI : TxtI K) (TX : TxtX K mg cNo cDr cBl cNk) (oex : OexC K cNo)
    (L : Lay K mg cTu cSp cVi cSh cNo d_Sp d_Sh) (F0 : GDef K "law" s_law f fd) : FnOk P w K mg base CX0 11 f fd P_law (spLaw K) := by
  obtain ⟨_, F⟩ := L.f_check_view
  have c_check_view : Cal P w K mg base CX0 "check_view" P_check_view 1 spCheckView := ⟨_, _, ok_check_view (F := F) , L.g_check_view, F.kp, F.bindsN (ps := P_check_view) fun _ _ _ _ _ _ us hl => match us, hl with | [_], _ => rfl⟩
  clear F
  obtain ⟨_, F⟩ := L.f_check_kind
  have c_check_kind : Cal P w K mg base CX0 "check_kind" P_check_kind 1 spCheckKind := ⟨_, _, ok_check_kind (F := F) (T := T), L.g_check_kind, F.kp, F.bindsN (ps := P_check_kind) fun _ _ _ _ _ _ us hl => match us, hl with | [_], _ => rfl⟩
  clear F
  obtain ⟨_, F⟩ := L.f_height
  have c_height : Cal P w K mg base CX0 "height" P_height 2 spHeight := ⟨_, _, ok_height (F := F) (T := T) (c_check_view := c_check_view), L.g_height, F.kp, F.bindsN (ps := P_height) fun _ _ _ _ _ _ us hl => match us, hl with | [_, _], _ => rfl⟩
  clear F
  obtain ⟨_, F⟩ := L.f_sign_of
  have c_sign_of : Cal P w K mg base CX0 "sign_of" P_sign_of 1 spSign := ⟨_, _, ok_sign_of (F := F) (T := T), L.g_sign_of, F.kp, F.bindsN (ps := P_sign_of) fun _ _ _ _ _ _ us hl => match us, hl with | [_], _ => rfl⟩
  clear F
  obtain ⟨_, F⟩ := L.f_corners_of
  have c_corners_of : Cal P w K mg base CX0 "corners_of" P_corners_of 2 spCorners := ⟨_, _, ok_corners_of (F := F) (T := T) (c_check_kind := c_check_kind), L.g_corners_of, F.kp, F.bindsN (ps := P_corners_of) fun _ _ _ _ _ _ us hl => match us, hl with | [_], _ => rfl⟩
  clear F
  obtain ⟨_, F⟩ := L.f_cell_with
  have c_cell_with : Cal P w K mg base CX0 "cell_with" P_cell_with 1 spCellWith := ⟨_, _, ok_cell_with (F := F) (T := T), L.g_cell_with, F.kp, F.bindsN (ps := P_cell_with) fun _ _ _ _ _ _ us hl => match us, hl with | [_], _ => rfl⟩
  clear F
  obtain ⟨_, F⟩ := L.f_closure
  have c_closure : Cal P w K mg base CX0 "closure" P_closure 3 spClosure := ⟨_, _, ok_closure (F := F) (T := T) (c_corners_of := c_corners_of) (c_cell_with := c_cell_with), L.g_closure, F.kp, F.bindsN (ps := P_closure) fun _ _ _ _ _ _ us hl => match us, hl with | [_], _ => rfl⟩
  clear F
  obtain ⟨_, F⟩ := L.f_lowest
  have c_lowest : Cal P w K mg base CX0 "lowest" P_lowest 3 spLowest := ⟨_, _, ok_lowest (F := F) (T := T) (c_check_view := c_check_view) (c_corners_of := c_corners_of) (c_height := c_height), L.g_lowest, F.kp, F.bindsN (ps := P_lowest) fun _ _ _ _ _ _ us hl => match us, hl with | [_, _], _ => rfl⟩
  clear F
  obtain ⟨_, _, F, M⟩ := L.m_Turning___init__
  obtain ⟨its, mv, B⟩ := F.kbinds (ps := P_Turning___init__) 2 ["inverted"] [("mirrored", .bl false)] (fun us _ mv ws => us ++ mv ++ ws) (by decide) (by decide) (by simp) (fun h1 _ h3 h4 => (h1.append h3).append h4) (fun T D doc pm an cdv ct us its mv ws hu hi hm hw => match us, its, mv, ws, hu, hi, hm, hw with | [_, _], [_], [_], [_], _, _, _, _ => ⟨_, rfl, ⟨_, _, _, _, _, _, rfl, rfl, rfl⟩⟩)
  have mk_Turning : MkTu P w K mg base cTu P_Turning___init__ 1 (spTuInit cTu) := ⟨_, _, mv, ok_Tu_init (F := F) (TC := TC), M, L.g_Turning, B⟩
  clear F
  obtain ⟨_, _, F, M⟩ := L.m_Turning_place_to
  have c_place_to : Met P w K mg base CX0 cTu "place_to" P_Turning_place_to 1 (spPlaceTo cTu) := ⟨TC.tu, _, _, ok_place_to (F := F) (T := T) (TC := TC), M, F.bindsN (ps := P_Turning_place_to) fun _ _ _ _ _ _ us hl => match us, hl with | [_, _], _ => rfl⟩
  clear F
  obtain ⟨_, _, F, M⟩ := L.m_Turning_cell_to
  have c_cell_to : Met P w K mg base CX0 cTu "cell_to" P_Turning_cell_to 3 (spCellTo cTu) := ⟨TC.tu, _, _, ok_cell_to (F := F) (T := T) (c_corners_of := c_corners_of) (c_cell_with := c_cell_with) (c_place_to := c_place_to), M, F.bindsN (ps := P_Turning_cell_to) fun _ _ _ _ _ _ us hl => match us, hl with | [_, _], _ => rfl⟩
  clear F
  obtain ⟨_, _, F, M⟩ := L.m_Spots___init__
  obtain ⟨ds, hv, B⟩ := F.binds1 (ps := P_Spots___init__) 2 1 (List.cons_ne_nil _ _) rfl (fun T kV doc pm an cdv ct us its hu hi => match us, its, hu, hi with | [_, _], [_], _, _ => ⟨_, rfl, rfl⟩)
  cases hv
  have mk_Spots : Mkr P w K mg base CX0 "Spots" cSp P_Spots___init__ 1 (spSpInit cSp) := ⟨_, _, ok_Sp_init (F := F) (T := T) (TC := TC), M, L.g_Spots, B⟩
  clear B
  clear F
  obtain ⟨_, _, F, M⟩ := L.m_Sheet___init__
  obtain ⟨ds, hv, B⟩ := F.binds1 (ps := P_Sheet___init__) 2 1 (List.cons_ne_nil _ _) rfl (fun T kV doc pm an cdv ct us its hu hi => match us, its, hu, hi with | [_, _], [_], _, _ => ⟨_, rfl, rfl⟩)
  cases hv
  have mk_Sheet : Mkr P w K mg base CX0 "Sheet" cSh P_Sheet___init__ 2 (spShInit cSh) := ⟨_, _, ok_Sh_init (F := F) (T := T) (TC := TC) (c_check_kind := c_check_kind), M, L.g_Sheet, B⟩
  clear B
  clear F
  obtain ⟨_, _, F, M⟩ := L.m_Views___init__
  have mk_Views : Mkr P w K mg base CX0 "Views" cVi P_Views___init__ 1 (spViInit cVi cSp) := ⟨_, _, ok_Vi_init (F := F) (T := T) (TC := TC), M, L.g_Views, F.bindsN (ps := P_Views___init__) fun _ _ _ _ _ _ us hl => match us, hl with | [_, _], _ => rfl⟩
  clear F
  obtain ⟨_, _, _, _, F, h1, h2⟩ := L.m_Views_of_sheet
  have c_of_sheet : SCal P w K mg base cVi "of_sheet" P_Views_of_sheet 4 (spOfSheet cSh cVi cSp) := ⟨_, _, _, _, h1, h2, ok_of_sheet (F := F) (T := T) (TC := TC) (c_lowest := c_lowest) (c_sign_of := c_sign_of) (mk_Spots := mk_Spots) (mk_Views := mk_Views), F.kp, F.bindsN (ps := P_Views_of_sheet) fun _ _ _ _ _ _ us hl => match us, hl with | [_], _ => rfl⟩
  clear F
  obtain ⟨_, F⟩ := L.f_sheet_with
  have c_sheet_with : Cal P w K mg base CX0 "sheet_with" P_sheet_with 4 (spSheetWith cSh) := ⟨_, _, ok_sheet_with (F := F) (T := T) (TC := TC) (mk_Sheet := mk_Sheet), L.g_sheet_with, F.kp, F.bindsN (ps := P_sheet_with) fun _ _ _ _ _ _ us hl => match us, hl with | [_], _ => rfl⟩
  clear F
  obtain ⟨_, F⟩ := L.f_swept_inks
  have c_swept_inks : Cal P w K mg base CX0 "swept_inks" P_swept_inks 1 spSwept := ⟨_, _, ok_swept_inks (F := F) (T := T) (TS := TS), L.g_swept_inks, F.kp, F.bindsN (ps := P_swept_inks) fun _ _ _ _ _ _ us hl => match us, hl with | [_, _], _ => rfl⟩
  clear F
  obtain ⟨_, _, F, M⟩ := L.m_Spots_single
  have c_single : Met P w K mg base CX0 cSp "single" P_Spots_single 1 (spSingle cSp) := ⟨TC.sp, _, _, ok_single (F := F) (T := T) (TC := TC), M, F.bindsN (ps := P_Spots_single) fun _ _ _ _ _ _ us hl => match us, hl with | [_], _ => rfl⟩
  clear F
  obtain ⟨_, _, F, M⟩ := L.m_Sheet___mul__
  have c___mul__ : Met P w K mg base CX0 cSh "__mul__" P_Sheet___mul__ 5 (spMul cSh) := ⟨TC.sh, _, _, ok_mul (F := F) (T := T) (TC := TC) (TM := TM) (c_sheet_with := c_sheet_with) (c_swept_inks := c_swept_inks) (mk_Sheet := mk_Sheet), M, F.bindsN (ps := P_Sheet___mul__) fun _ _ _ _ _ _ us hl => match us, hl with | [_, _], _ => rfl⟩
  clear F
  obtain ⟨_, _, F, M⟩ := L.m_Sheet___invert__
  have c___invert__ : Met P w K mg base CX0 cSh "__invert__" P_Sheet___invert__ 4 (spInv cSh) := ⟨TC.sh, _, _, ok_invert (F := F) (T := T) (TC := TC) (c_sign_of := c_sign_of) (c_closure := c_closure) (mk_Sheet := mk_Sheet), M, F.bindsN (ps := P_Sheet___invert__) fun _ _ _ _ _ _ us hl => match us, hl with | [_], _ => rfl⟩
  clear F
  obtain ⟨_, _, F, M⟩ := L.m_Sheet_turned
  have c_turned : Met P w K mg base CX0 cSh "turned" P_Sheet_turned 5 (spTurned cSh cTu) := ⟨TC.sh, _, _, ok_turned (F := F) (T := T) (TC := TC) (c_cell_to := c_cell_to) (c___invert__ := c___invert__) (mk_Sheet := mk_Sheet), M, F.bindsN (ps := P_Sheet_turned) fun _ _ _ _ _ _ us hl => match us, hl with | [_, _], _ => rfl⟩
  clear F
  obtain ⟨_, _, F, h1, h2, h3, h4⟩ := L.m_Sheet___iter__
  have IS : ItbC P w K mg base cSh "rows" 1 := ⟨⟨_, _, _, h1, h2, ok_Sh_iter (F := F) (T := T) (TC := TC), F.bindsN (ps := P_Sheet___iter__) fun _ _ _ _ _ _ us hl => match us, hl with | [_], _ => rfl⟩, h3, h4⟩
  clear F
  obtain ⟨_, _, F, h1, h2, h3, h4⟩ := L.m_Views___iter__
  have IV : ItbC P w K mg base cVi "heaps" 1 := ⟨⟨_, _, _, h1, h2, ok_Vi_iter (F := F) (T := T) (TC := TC), F.bindsN (ps := P_Views___iter__) fun _ _ _ _ _ _ us hl => match us, hl with | [_], _ => rfl⟩, h3, h4⟩
  clear F
  obtain ⟨_, F⟩ := L.f_counter
  have c_counter : Cal P w K mg base CX0 "counter" P_counter 6 (spCounter cSh) := ⟨_, _, ok_counter (F := F) (c_turned := c_turned) (mk_Turning := mk_Turning), L.g_counter, F.kp, F.bindsN (ps := P_counter) fun _ _ _ _ _ _ us hl => match us, hl with | [_], _ => rfl⟩
  clear F
  obtain ⟨_, F⟩ := L.f_stubborn_view
  have c_stubborn_view : Cal P w K mg base CX0 "stubborn_view" P_stubborn_view 6 (spStub cVi cSp) := ⟨_, _, ok_stubborn (F := F) (T := T) (IV := IV) (c_single := c_single), L.g_stubborn_view, F.kp, F.bindsN (ps := P_stubborn_view) fun _ _ _ _ _ _ us hl => match us, hl with | [_], _ => rfl⟩
  clear F
  obtain ⟨_, F⟩ := L.f_is_erasable
  have c_is_erasable : Cal P w K mg base CX0 "is_erasable" P_is_erasable 7 (spIsE cSh) := ⟨_, _, ok_is_erasable (F := F) (T := T) (TM := TM) (c_of_sheet := c_of_sheet) (c_stubborn_view := c_stubborn_view), L.g_is_erasable, F.kp, F.bindsN (ps := P_is_erasable) fun _ _ _ _ _ _ us hl => match us, hl with | [_], _ => rfl⟩
  clear F
  obtain ⟨_, _, F, h1, h2⟩ := L.m_NoEraser___init__
  have TE : TxtE P w K mg base cNo P_NoEraser___init__ 1 (spNoInit cNo) := ⟨TX.g_NoEraser, oex, _, _, h1, h2, ok_No_init (F := F) (oex := oex) (hno := TX.no_view), F.bindsN (ps := P_NoEraser___init__) fun _ _ _ _ _ _ us hl => match us, hl with | [_, _], _ => rfl⟩
  clear F
  obtain ⟨_, F⟩ := L.f_erasable_views
  have c_erasable_views : Cal P w K mg base (L2.CX P w) "erasable_views" P_erasable_views 7 (spErV cSh cVi cSp cNo) := ⟨_, _, ok_erasable_views (F := F) (TM := TM) (TE := TE) (c_of_sheet := c_of_sheet) (c_stubborn_view := c_stubborn_view), L.g_erasable_views, F.kp, F.bindsN (ps := P_erasable_views) fun _ _ _ _ _ _ us hl => match us, hl with | [_], _ => rfl⟩
  clear F
  obtain ⟨_, F⟩ := L.f_eraser
  have c_eraser : Cal P w K mg base (L2.CX P w) "eraser" P_eraser 8 (spEraser cSh cNo) := ⟨_, _, ok_eraser (F := F) (c_erasable_views := c_erasable_views) (c_counter := c_counter), L.g_eraser, F.kp, F.bindsN (ps := P_eraser) fun _ _ _ _ _ _ us hl => match us, hl with | [_], _ => rfl⟩
  clear F
  obtain ⟨_, F⟩ := L.f__law_draw
  have c__law_draw : Cal P w K mg base CX0 "_law_draw" P__law_draw 1 spDraw := ⟨_, _, ok_draw (F := F) (T := T), L.g__law_draw, F.kp, F.bindsN (ps := P__law_draw) fun _ _ _ _ _ _ us hl => match us, hl with | [_, _], _ => rfl⟩
  clear F
  obtain ⟨_, F⟩ := L.f__law_whole
  have c__law_whole : Cal P w K mg base CX0 "_law_whole" P__law_whole 1 spWhole := ⟨_, _, ok_whole (F := F) (T := T) (ki := TI.k_int) (kb := TI.k_intb), L.g__law_whole, F.kp, F.bindsN (ps := P__law_whole) fun _ _ _ _ _ _ us hl => match us, hl with | [_], _ => rfl⟩
  clear F
  obtain ⟨_, F⟩ := L.f__law_drawn_ink
  have c__law_drawn_ink : Cal P w K mg base CX0 "_law_drawn_ink" P__law_drawn_ink 2 spInk := ⟨_, _, ok_drawn_ink (F := F) (c__law_draw := c__law_draw), L.g__law_drawn_ink, F.kp, F.bindsN (ps := P__law_drawn_ink) fun _ _ _ _ _ _ us hl => match us, hl with | [_], _ => rfl⟩
  clear F
  obtain ⟨_, F⟩ := L.f__law_shift
  have c__law_shift : Cal P w K mg base CX0 "_law_shift" P__law_shift 2 spShift := ⟨_, _, ok_shift (F := F) (c__law_draw := c__law_draw), L.g__law_shift, F.kp, F.bindsN (ps := P__law_shift) fun _ _ _ _ _ _ us hl => match us, hl with | [_], _ => rfl⟩
  clear F
  obtain ⟨_, F⟩ := L.f__law_kind_at
  have c__law_kind_at : Cal P w K mg base CX0 "_law_kind_at" P__law_kind_at 1 spKindAt := ⟨_, _, ok_kind_at (F := F) (T := T), L.g__law_kind_at, F.kp, F.bindsN (ps := P__law_kind_at) fun _ _ _ _ _ _ us hl => match us, hl with | [_], _ => rfl⟩
  clear F
  obtain ⟨_, F⟩ := L.f__law_some_cells
  have c__law_some_cells : Cal P w K mg base CX0 "_law_some_cells" P__law_some_cells 3 spSomeCells := ⟨_, _, ok_some_cells (F := F) (T := T) (c__law_draw := c__law_draw) (c__law_kind_at := c__law_kind_at) (c__law_drawn_ink := c__law_drawn_ink), L.g__law_some_cells, F.kp, F.bindsN (ps := P__law_some_cells) fun _ _ _ _ _ _ us hl => match us, hl with | [_, _, _], _ => rfl⟩
  clear F
  obtain ⟨_, F⟩ := L.f__law_lows
  have c__law_lows : Cal P w K mg base CX0 "_law_lows" P__law_lows 1 spLows := ⟨_, _, ok_lows (F := F) , L.g__law_lows, F.kp, F.bindsN (ps := P__law_lows) fun _ _ _ _ _ _ us hl => match us, hl with | [_], _ => rfl⟩
  clear F
  obtain ⟨_, F⟩ := L.f__law_spots_of
  have c__law_spots_of : Cal P w K mg base CX0 "_law_spots_of" P__law_spots_of 1 spSpotsOf := ⟨_, _, ok_spots_of (F := F) (T := T), L.g__law_spots_of, F.kp, F.bindsN (ps := P__law_spots_of) fun _ _ _ _ _ _ us hl => match us, hl with | [_], _ => rfl⟩
  clear F
  obtain ⟨_, F⟩ := L.f__law_six_views
  have c__law_six_views : Cal P w K mg base CX0 "_law_six_views" P__law_six_views 2 spSixViews := ⟨_, _, ok_six_views (F := F) (T := T) (c__law_lows := c__law_lows) (c__law_spots_of := c__law_spots_of), L.g__law_six_views, F.kp, F.bindsN (ps := P__law_six_views) fun _ _ _ _ _ _ us hl => match us, hl with | [_], _ => rfl⟩
  clear F
  obtain ⟨_, F⟩ := L.f__law_first_bad
  have c__law_first_bad : Cal P w K mg base CX0 "_law_first_bad" P__law_first_bad 1 spFirstBad := ⟨_, _, ok_first_bad (F := F) (T := T), L.g__law_first_bad, F.kp, F.bindsN (ps := P__law_first_bad) fun _ _ _ _ _ _ us hl => match us, hl with | [_], _ => rfl⟩
  clear F
  obtain ⟨_, F⟩ := L.f__law_sorted_cells
  have c__law_sorted_cells : Cal P w K mg base CX0 "_law_sorted_cells" P__law_sorted_cells 1 spSortedCells := ⟨_, _, ok_sorted_cells (F := F) (T := T), L.g__law_sorted_cells, F.kp, F.bindsN (ps := P__law_sorted_cells) fun _ _ _ _ _ _ us hl => match us, hl with | [_], _ => rfl⟩
  clear F
  obtain ⟨_, F⟩ := L.f__law_rows_of
  have c__law_rows_of : Cal P w K mg base CX0 "_law_rows_of" P__law_rows_of 6 (spRowsOf cSh) := ⟨_, _, ok_rows_of (F := F) (T := T) (TC := TC) (TM := TM) (TI := TI) (IS := IS) (c__law_whole := c__law_whole), L.g__law_rows_of, F.kp, F.bindsN (ps := P__law_rows_of) fun _ _ _ _ _ _ us hl => match us, hl with | [_], _ => rfl⟩
  clear F
  obtain ⟨_, F⟩ := L.f__law_unit
  have c__law_unit : Cal P w K mg base CX0 "_law_unit" P__law_unit 1 spUnit := ⟨_, _, ok_unit (F := F) , L.g__law_unit, F.kp, F.bindsN (ps := P__law_unit) fun _ _ _ _ _ _ us hl => match us, hl with | [_], _ => rfl⟩
  clear F
  obtain ⟨_, F⟩ := L.f__law_added
  have c__law_added : Cal P w K mg base CX0 "_law_added" P__law_added 1 spAdded := ⟨_, _, ok_added (F := F) (T := T), L.g__law_added, F.kp, F.bindsN (ps := P__law_added) fun _ _ _ _ _ _ us hl => match us, hl with | [_, _, _], _ => rfl⟩
  clear F
  obtain ⟨_, F⟩ := L.f__law_six_corners
  have c__law_six_corners : Cal P w K mg base CX0 "_law_six_corners" P__law_six_corners 1 spSixCorners := ⟨_, _, ok_six_corners (F := F) , L.g__law_six_corners, F.kp, F.bindsN (ps := P__law_six_corners) fun _ _ _ _ _ _ us hl => match us, hl with | [_], _ => rfl⟩
  clear F
  obtain ⟨_, F⟩ := L.f__law_opposite
  have c__law_opposite : Cal P w K mg base CX0 "_law_opposite" P__law_opposite 1 spOpposite := ⟨_, _, ok_opposite (F := F) , L.g__law_opposite, F.kp, F.bindsN (ps := P__law_opposite) fun _ _ _ _ _ _ us hl => match us, hl with | [_, _, _], _ => rfl⟩
  clear F
  obtain ⟨_, F⟩ := L.f__law_closed
  have c__law_closed : Cal P w K mg base CX0 "_law_closed" P__law_closed 1 spClosed := ⟨_, _, ok_closed (F := F) , L.g__law_closed, F.kp, F.bindsN (ps := P__law_closed) fun _ _ _ _ _ _ us hl => match us, hl with | [_, _, _], _ => rfl⟩
  clear F
  obtain ⟨_, F⟩ := L.f__law_moved
  have c__law_moved : Cal P w K mg base CX0 "_law_moved" P__law_moved 1 spMoved := ⟨_, _, ok_moved (F := F) , L.g__law_moved, F.kp, F.bindsN (ps := P__law_moved) fun _ _ _ _ _ _ us hl => match us, hl with | [_, _, _, _], _ => rfl⟩
  clear F
  obtain ⟨_, F⟩ := L.f__law_counter
  have c__law_counter : Cal P w K mg base CX0 "_law_counter" P__law_counter 2 spLCounter := ⟨_, _, ok_lcounter (F := F) (T := T) (c__law_opposite := c__law_opposite) (c__law_closed := c__law_closed), L.g__law_counter, F.kp, F.bindsN (ps := P__law_counter) fun _ _ _ _ _ _ us hl => match us, hl with | [_], _ => rfl⟩
  clear F
  obtain ⟨_, F⟩ := L.f__law_tuft
  have c__law_tuft : Cal P w K mg base CX0 "_law_tuft" P__law_tuft 2 spTuft := ⟨_, _, ok_tuft (F := F) (T := T) (c__law_lows := c__law_lows), L.g__law_tuft, F.kp, F.bindsN (ps := P__law_tuft) fun _ _ _ _ _ _ us hl => match us, hl with | [_, _, _, _], _ => rfl⟩
  clear F
  obtain ⟨_, F⟩ := L.f__law_filled
  have c__law_filled : Cal P w K mg base CX0 "_law_filled" P__law_filled 1 spFilled := ⟨_, _, ok_filled (F := F) (T := T), L.g__law_filled, F.kp, F.bindsN (ps := P__law_filled) fun _ _ _ _ _ _ us hl => match us, hl with | [_], _ => rfl⟩
  clear F
  obtain ⟨_, F⟩ := L.f__law_any_pen
  have c__law_any_pen : Cal P w K mg base CX0 "_law_any_pen" P__law_any_pen 7 spAnyPen := ⟨_, _, ok_any_pen (F := F) (T := T) (TC := TC) (TM := TM) (c__law_draw := c__law_draw) (c__law_added := c__law_added) (c__law_unit := c__law_unit) (c__law_filled := c__law_filled) (c__law_kind_at := c__law_kind_at) (c__law_counter := c__law_counter) (c__law_rows_of := c__law_rows_of) (mk_Sheet := mk_Sheet) (c___mul__ := c___mul__), L.g__law_any_pen, F.kp, F.bindsN (ps := P__law_any_pen) fun _ _ _ _ _ _ us hl => match us, hl with | [_], _ => rfl⟩
  clear F
  obtain ⟨_, F⟩ := L.f__law_beside
  have c__law_beside : Cal P w K mg base CX0 "_law_beside" P__law_beside 4 spBeside := ⟨_, _, ok_beside (F := F) (T := T) (c__law_draw := c__law_draw) (c__law_moved := c__law_moved) (c__law_some_cells := c__law_some_cells) (c__law_drawn_ink := c__law_drawn_ink) (c__law_tuft := c__law_tuft) (c__law_kind_at := c__law_kind_at), L.g__law_beside, F.kp, F.bindsN (ps := P__law_beside) fun _ _ _ _ _ _ us hl => match us, hl with | [_, _, _, _], _ => rfl⟩
  clear F
  obtain ⟨_, F⟩ := L.f__law_eraser
  have c__law_eraser : Cal P w K mg base CX0 "_law_eraser" P__law_eraser 9 (spLEraser cSh) := ⟨_, _, ok_leraser (F := F) (T := T) (TX := TX) (c_eraser := c_eraser), L.g__law_eraser, F.kp, F.bindsN (ps := P__law_eraser) fun _ _ _ _ _ _ us hl => match us, hl with | [_], _ => rfl⟩
  clear F
  obtain ⟨_, F⟩ := L.f__law_right
  have c__law_right : Cal P w K mg base CX0 "_law_right" P__law_right 10 (spRight cSh) := ⟨_, _, ok_right (F := F) (T := T) (TC := TC) (TM := TM) (c__law_six_views := c__law_six_views) (c__law_first_bad := c__law_first_bad) (c__law_eraser := c__law_eraser) (c__law_rows_of := c__law_rows_of) (c__law_whole := c__law_whole) (c_is_erasable := c_is_erasable) (c___mul__ := c___mul__), L.g__law_right, F.kp, F.bindsN (ps := P__law_right) fun _ _ _ _ _ _ us hl => match us, hl with | [_, _, _], _ => rfl⟩
  clear F
  exact ok_law (F := F0) (T := T) (TC := TC) (TM := TM) (c__law_draw := c__law_draw) (c__law_any_pen := c__law_any_pen) (c__law_shift := c__law_shift) (c__law_moved := c__law_moved) (c__law_six_views := c__law_six_views) (c__law_six_corners := c__law_six_corners) (c__law_beside := c__law_beside) (c__law_sorted_cells := c__law_sorted_cells) (c__law_right := c__law_right) (mk_Sheet := mk_Sheet)
end SV
end

section
set_option Elab.async false
set_option linter.all false
set_option maxRecDepth 100000
set_option maxHeartbeats 0
/-! The facts from the Booleans. Printed by head.py. -/
namespace SV
open PySem PySem.Spec PyProof.Rows L2
theorem lay_ok {ts : List He.Tab} {w : World} {K : PySem.W.Frag} {h : Heap} {mg : Str → Option Value} (X : K.In h) (G : h.Ns mainGlobals mg) (c : SaysZ exZ fnZ ts w K) : Lay K mg (He.ga K "Turning") (He.ga K "Spots") (He.ga K "Views") (He.ga K "Sheet") (He.ga K "NoEraser") (.ref (He.dflAt ("Spots", some "__init__") 0 K)) (.ref (He.dflAt ("Sheet", some "__init__") 0 K)) := by
  have hx := c.bool
  have h0 := exZ_at hx 0 rfl
  have h1 := exZ_at hx 1 rfl
  have h2 := exZ_at hx 2 rfl
  have h3 := exZ_at hx 3 rfl
  have h4 := exZ_at hx 4 rfl
  have h5 := exZ_at hx 5 rfl
  have h6 := exZ_at hx 6 rfl
  have h7 := exZ_at hx 7 rfl
  have h8 := exZ_at hx 8 rfl
  have h9 := exZ_at hx 9 rfl
  have h10 := exZ_at hx 10 rfl
  have h11 := exZ_at hx 11 rfl
  have h12 := exZ_at hx 12 rfl
  have h13 := exZ_at hx 13 rfl
  have h14 := exZ_at hx 14 rfl
  have h15 := exZ_at hx 15 rfl
  have h16 := exZ_at hx 16 rfl
  have h17 := exZ_at hx 17 rfl
  have h18 := exZ_at hx 18 rfl
  have h19 := exZ_at hx 19 rfl
  have h20 := exZ_at hx 20 rfl
  have h21 := exZ_at hx 21 rfl
  have h22 := exZ_at hx 22 rfl
  have h23 := exZ_at hx 23 rfl
  have h24 := exZ_at hx 24 rfl
  have h25 := exZ_at hx 25 rfl
  have h26 := exZ_at hx 26 rfl
  have h27 := exZ_at hx 27 rfl
  have h28 := exZ_at hx 28 rfl
  have h29 := exZ_at hx 29 rfl
  have h30 := exZ_at hx 30 rfl
  have h31 := exZ_at hx 31 rfl
  have h32 := exZ_at hx 32 rfl
  have h33 := exZ_at hx 33 rfl
  have h34 := exZ_at hx 34 rfl
  have h35 := exZ_at hx 35 rfl
  have h36 := exZ_at hx 36 rfl
  have h37 := exZ_at hx 37 rfl
  have h38 := exZ_at hx 38 rfl
  have h39 := exZ_at hx 39 rfl
  have h40 := exZ_at hx 40 rfl
  have h41 := exZ_at hx 41 rfl
  have h42 := exZ_at hx 42 rfl
  have h43 := exZ_at hx 43 rfl
  have h44 := exZ_at hx 44 rfl
  have h45 := exZ_at hx 45 rfl
  have h46 := exZ_at hx 46 rfl
  have h47 := exZ_at hx 47 rfl
  have h48 := exZ_at hx 48 rfl
  have h49 := exZ_at hx 49 rfl
  have h50 := exZ_at hx 50 rfl
  have h51 := exZ_at hx 51 rfl
  have h52 := exZ_at hx 52 rfl
  have h53 := exZ_at hx 53 rfl
  have h54 := exZ_at hx 54 rfl
  have h55 := exZ_at hx 55 rfl
  have h56 := exZ_at hx 56 rfl
  have h57 := exZ_at hx 57 rfl
  have h58 := exZ_at hx 58 rfl
  have h59 := exZ_at hx 59 rfl
  have h60 := exZ_at hx 60 rfl
  have h61 := exZ_at hx 61 rfl
  have h62 := exZ_at hx 62 rfl
  have h63 := exZ_at hx 63 rfl
  have h64 := exZ_at hx 64 rfl
  exact {
    f_check_view := c.def_ (d := d_0) (by simp [fnZ]),
    g_check_view := He.glo_ok X G h0,
    f_check_kind := c.def_ (d := d_1) (by simp [fnZ]),
    g_check_kind := He.glo_ok X G h1,
    f_height := c.def_ (d := d_2) (by simp [fnZ]),
    g_height := He.glo_ok X G h2,
    f_sign_of := c.def_ (d := d_3) (by simp [fnZ]),
    g_sign_of := He.glo_ok X G h3,
    f_corners_of := c.def_ (d := d_4) (by simp [fnZ]),
    g_corners_of := He.glo_ok X G h4,
    f_cell_with := c.def_ (d := d_5) (by simp [fnZ]),
    g_cell_with := He.glo_ok X G h5,
    f_closure := c.def_ (d := d_6) (by simp [fnZ]),
    g_closure := He.glo_ok X G h6,
    f_lowest := c.def_ (d := d_7) (by simp [fnZ]),
    g_lowest := He.glo_ok X G h7,
    m_Turning___init__ := let ⟨fd, F⟩ := c.def_ (d := d_8) (by simp [fnZ]); ⟨_, fd, F, He.mkr_ok h8⟩,
    g_Turning := He.glo_ok X G h9,
    m_Turning_place_to := let ⟨fd, F⟩ := c.def_ (d := d_9) (by simp [fnZ]); ⟨_, fd, F, He.meth_ok h10⟩,
    m_Turning_cell_to := let ⟨fd, F⟩ := c.def_ (d := d_10) (by simp [fnZ]); ⟨_, fd, F, He.meth_ok h11⟩,
    m_Spots___init__ := let ⟨fd, F⟩ := c.def_ (d := d_11) (by simp [fnZ]); ⟨_, fd, F, He.mkr_ok h12⟩,
    g_Spots := He.glo_ok X G h13,
    m_Sheet___init__ := let ⟨fd, F⟩ := c.def_ (d := d_12) (by simp [fnZ]); ⟨_, fd, F, He.mkr_ok h14⟩,
    g_Sheet := He.glo_ok X G h15,
    m_Views___init__ := let ⟨fd, F⟩ := c.def_ (d := d_13) (by simp [fnZ]); ⟨_, fd, F, He.mkr_ok h16⟩,
    g_Views := He.glo_ok X G h17,
    m_Views_of_sheet := let ⟨fd, F⟩ := c.def_ (d := d_14) (by simp [fnZ]); let W := He5.wrapB_ok h20; ⟨_, _, fd, _, F, ⟨h18, He.eqO_ok h19⟩, ⟨W.1, W.2⟩⟩,
    f_sheet_with := c.def_ (d := d_15) (by simp [fnZ]),
    g_sheet_with := He.glo_ok X G h21,
    f_swept_inks := c.def_ (d := d_16) (by simp [fnZ]),
    g_swept_inks := He.glo_ok X G h22,
    m_Spots_single := let ⟨fd, F⟩ := c.def_ (d := d_17) (by simp [fnZ]); ⟨_, fd, F, He.meth_ok h23⟩,
    m_Sheet___mul__ := let ⟨fd, F⟩ := c.def_ (d := d_18) (by simp [fnZ]); ⟨_, fd, F, He.meth_ok h24⟩,
    m_Sheet___invert__ := let ⟨fd, F⟩ := c.def_ (d := d_19) (by simp [fnZ]); ⟨_, fd, F, He.meth_ok h25⟩,
    m_Sheet_turned := let ⟨fd, F⟩ := c.def_ (d := d_20) (by simp [fnZ]); ⟨_, fd, F, He.meth_ok h26⟩,
    m_Sheet___iter__ := let ⟨fd, F⟩ := c.def_ (d := d_21) (by simp [fnZ]); let M := He.meth_ok h27; ⟨_, fd, F, M.at_, M.fn, He.eqO_ok h28, He.eqO_ok h29⟩,
    m_Views___iter__ := let ⟨fd, F⟩ := c.def_ (d := d_22) (by simp [fnZ]); let M := He.meth_ok h30; ⟨_, fd, F, M.at_, M.fn, He.eqO_ok h31, He.eqO_ok h32⟩,
    f_counter := c.def_ (d := d_23) (by simp [fnZ]),
    g_counter := He.glo_ok X G h33,
    f_stubborn_view := c.def_ (d := d_24) (by simp [fnZ]),
    g_stubborn_view := He.glo_ok X G h34,
    f_is_erasable := c.def_ (d := d_25) (by simp [fnZ]),
    g_is_erasable := He.glo_ok X G h35,
    m_NoEraser___init__ := let ⟨fd, F⟩ := c.def_ (d := d_26) (by simp [fnZ]); ⟨_, fd, F, He.eqO_ok h36, of_decide_eq_true h37⟩,
    f_erasable_views := c.def_ (d := d_27) (by simp [fnZ]),
    g_erasable_views := He.glo_ok X G h38,
    f_eraser := c.def_ (d := d_28) (by simp [fnZ]),
    g_eraser := He.glo_ok X G h39,
    f__law_draw := c.def_ (d := d_29) (by simp [fnZ]),
    g__law_draw := He.glo_ok X G h40,
    f__law_whole := c.def_ (d := d_30) (by simp [fnZ]),
    g__law_whole := He.glo_ok X G h41,
    f__law_drawn_ink := c.def_ (d := d_31) (by simp [fnZ]),
    g__law_drawn_ink := He.glo_ok X G h42,
    f__law_shift := c.def_ (d := d_32) (by simp [fnZ]),
    g__law_shift := He.glo_ok X G h43,
    f__law_kind_at := c.def_ (d := d_33) (by simp [fnZ]),
    g__law_kind_at := He.glo_ok X G h44,
    f__law_some_cells := c.def_ (d := d_34) (by simp [fnZ]),
    g__law_some_cells := He.glo_ok X G h45,
    f__law_lows := c.def_ (d := d_35) (by simp [fnZ]),
    g__law_lows := He.glo_ok X G h46,
    f__law_spots_of := c.def_ (d := d_36) (by simp [fnZ]),
    g__law_spots_of := He.glo_ok X G h47,
    f__law_six_views := c.def_ (d := d_37) (by simp [fnZ]),
    g__law_six_views := He.glo_ok X G h48,
    f__law_first_bad := c.def_ (d := d_38) (by simp [fnZ]),
    g__law_first_bad := He.glo_ok X G h49,
    f__law_sorted_cells := c.def_ (d := d_39) (by simp [fnZ]),
    g__law_sorted_cells := He.glo_ok X G h50,
    f__law_rows_of := c.def_ (d := d_40) (by simp [fnZ]),
    g__law_rows_of := He.glo_ok X G h51,
    f__law_unit := c.def_ (d := d_41) (by simp [fnZ]),
    g__law_unit := He.glo_ok X G h52,
    f__law_added := c.def_ (d := d_42) (by simp [fnZ]),
    g__law_added := He.glo_ok X G h53,
    f__law_six_corners := c.def_ (d := d_43) (by simp [fnZ]),
    g__law_six_corners := He.glo_ok X G h54,
    f__law_opposite := c.def_ (d := d_44) (by simp [fnZ]),
    g__law_opposite := He.glo_ok X G h55,
    f__law_closed := c.def_ (d := d_45) (by simp [fnZ]),
    g__law_closed := He.glo_ok X G h56,
    f__law_moved := c.def_ (d := d_46) (by simp [fnZ]),
    g__law_moved := He.glo_ok X G h57,
    f__law_counter := c.def_ (d := d_47) (by simp [fnZ]),
    g__law_counter := He.glo_ok X G h58,
    f__law_tuft := c.def_ (d := d_48) (by simp [fnZ]),
    g__law_tuft := He.glo_ok X G h59,
    f__law_filled := c.def_ (d := d_49) (by simp [fnZ]),
    g__law_filled := He.glo_ok X G h60,
    f__law_any_pen := c.def_ (d := d_50) (by simp [fnZ]),
    g__law_any_pen := He.glo_ok X G h61,
    f__law_beside := c.def_ (d := d_51) (by simp [fnZ]),
    g__law_beside := He.glo_ok X G h62,
    f__law_eraser := c.def_ (d := d_52) (by simp [fnZ]),
    g__law_eraser := He.glo_ok X G h63,
    f__law_right := c.def_ (d := d_53) (by simp [fnZ]),
    g__law_right := He.glo_ok X G h64
  }
theorem Txt_ok {w : World} {K : PySem.W.Frag} {h : Heap} {mg : Str → Option Value} (X : K.In h) (G : h.Ns mainGlobals mg) (c : SaysZ exZ fnZ tsZ w K) : Txt K w mg := by
  have hx := c.bool
  obtain ⟨es1, n1, kC⟩ := c.tab 0
  obtain ⟨es2, n2, kS_⟩ := c.tab 1
  have h65 := exZ_at hx 65 rfl
  have h66 := exZ_at hx 66 rfl
  have h67 := exZ_at hx 67 rfl
  have h68 := exZ_at hx 68 rfl
  have h69 := exZ_at hx 69 rfl
  have h70 := exZ_at hx 70 rfl
  have h71 := exZ_at hx 71 rfl
  have h72 := exZ_at hx 72 rfl
  have h73 := exZ_at hx 73 rfl
  have h74 := exZ_at hx 74 rfl
  have h75 := exZ_at hx 75 rfl
  have h76 := exZ_at hx 76 rfl
  have h77 := exZ_at hx 77 rfl
  have h78 := exZ_at hx 78 rfl
  have h79 := exZ_at hx 79 rfl
  have h80 := exZ_at hx 80 rfl
  have h81 := exZ_at hx 81 rfl
  have h82 := exZ_at hx 82 rfl
  have h83 := exZ_at hx 83 rfl
  have h84 := exZ_at hx 84 rfl
  exact {
    z_len := He.free_ok X G h65,
    z_range := He.free_ok X G h66,
    z_sorted := He.free_ok X G h67,
    z_int := He.free_ok X G h68,
    z_isinstance := He.free_ok X G h69,
    z_list := He.free_ok X G h70,
    z_tuple := He.free_ok X G h71,
    z_enumerate := He.free_ok X G h72,
    z_iter := He.free_ok X G h73,
    z_str := He.free_ok X G h74,
    z_bool := He.free_ok X G h75,
    z_ValueError := He.free_ok X G h76,
    g_KINDS := He.glo_ok X G h77,
    g_HEIGHTS := He.glo_ok X G h78,
    g_CORNERS := He.glo_ok X G h79,
    g_SHAPES := He.glo_ok X G h80,
    kinds := fun H => He.tupB_ok h81 H,
    heights := dpB_ref h82,
    corners := fun k => kdB_ok kC (List.all_eq_true.mp h83 k (mem_kds k)),
    shapes := h84
  }
theorem TxtS_ok {w : World} {K : PySem.W.Frag} {h : Heap} {mg : Str → Option Value} (X : K.In h) (G : h.Ns mainGlobals mg) (c : SaysZ exZ fnZ tsZ w K) : TxtS K w mg := by
  have hx := c.bool
  obtain ⟨es1, n1, kC⟩ := c.tab 0
  obtain ⟨es2, n2, kS_⟩ := c.tab 1
  have h85 := exZ_at hx 85 rfl
  have h86 := exZ_at hx 86 rfl
  exact {
    g_SWEEPS := He.glo_ok X G h85,
    sweeps := fun a b => kdB_ok kS_ (List.all_eq_true.mp (List.all_eq_true.mp h86 a (mem_kds a)) b (mem_kds b))
  }
theorem TxtC_ok {w : World} {K : PySem.W.Frag} {h : Heap} {mg : Str → Option Value} (X : K.In h) (G : h.Ns mainGlobals mg) (c : SaysZ exZ fnZ tsZ w K) : TxtC K (He.ga K "Turning") (He.ga K "Spots") (He.ga K "Views") (He.ga K "Sheet") := by
  have hx := c.bool
  obtain ⟨es1, n1, kC⟩ := c.tab 0
  obtain ⟨es2, n2, kS_⟩ := c.tab 1
  have h87 := exZ_at hx 87 rfl
  have h88 := exZ_at hx 88 rfl
  have h89 := exZ_at hx 89 rfl
  have h90 := exZ_at hx 90 rfl
  have h91 := exZ_at hx 91 rfl
  have h92 := exZ_at hx 92 rfl
  have h93 := exZ_at hx 93 rfl
  have h94 := exZ_at hx 94 rfl
  have h95 := exZ_at hx 95 rfl
  have h96 := exZ_at hx 96 rfl
  have h97 := exZ_at hx 97 rfl
  have h98 := exZ_at hx 98 rfl
  exact {
    tu := He.cls_ok h87,
    sp := He.cls_ok h88,
    vi := He.cls_ok h89,
    sh := He.cls_ok h90,
    a_turns := He.noat_ok h91,
    a_mirrored := He.noat_ok h92,
    a_inverted := He.noat_ok h93,
    a_spinks := He.noat_ok h94,
    a_sprows := He.noat_ok h95,
    a_heaps := He.noat_ok h96,
    a_rows := He.noat_ok h97,
    a_inks := He.noat_ok h98
  }
theorem TxtM_ok {w : World} {K : PySem.W.Frag} {h : Heap} {mg : Str → Option Value} (X : K.In h) (G : h.Ns mainGlobals mg) (c : SaysZ exZ fnZ tsZ w K) : TxtM K mg (He.ga K "Turning") (He.ga K "Spots") (He.ga K "Views") (He.ga K "Sheet") := by
  have hx := c.bool
  obtain ⟨es1, n1, kC⟩ := c.tab 0
  obtain ⟨es2, n2, kS_⟩ := c.tab 1
  have h99 := exZ_at hx 99 rfl
  have h100 := exZ_at hx 100 rfl
  have h101 := exZ_at hx 101 rfl
  have h102 := exZ_at hx 102 rfl
  have h103 := exZ_at hx 103 rfl
  have h104 := exZ_at hx 104 rfl
  have h105 := exZ_at hx 105 rfl
  have h106 := exZ_at hx 106 rfl
  have h107 := exZ_at hx 107 rfl
  have h108 := exZ_at hx 108 rfl
  have h109 := exZ_at hx 109 rfl
  exact {
    g_Sheet := He.glo_ok X G h99,
    g_Views := He.glo_ok X G h100,
    most := let ⟨u, hu⟩ := cvB_ok h103; ⟨_, u, ⟨h101, He.eqO_ok h102⟩, hu⟩,
    sf := h104,
    k_sh := of_decide_eq_true h105,
    cl_ := He.eqO_ok h106,
    cl_get := He.eqO_ok h107,
    cl_tk := of_decide_eq_true h108,
    cl_mro := of_decide_eq_true h109
  }
theorem TxtI_ok {w : World} {K : PySem.W.Frag} {h : Heap} {mg : Str → Option Value} (X : K.In h) (G : h.Ns mainGlobals mg) (c : SaysZ exZ fnZ tsZ w K) : TxtI K := by
  have hx := c.bool
  obtain ⟨es1, n1, kC⟩ := c.tab 0
  obtain ⟨es2, n2, kS_⟩ := c.tab 1
  have h110 := exZ_at hx 110 rfl
  have h111 := exZ_at hx 111 rfl
  have h112 := exZ_at hx 112 rfl
  have h113 := exZ_at hx 113 rfl
  exact {
    k_int := of_decide_eq_true h110,
    k_intb := of_decide_eq_true h111,
    k_tup := of_decide_eq_true h112,
    k_str := of_decide_eq_true h113
  }
theorem TxtX_ok {w : World} {K : PySem.W.Frag} {h : Heap} {mg : Str → Option Value} (X : K.In h) (G : h.Ns mainGlobals mg) (c : SaysZ exZ fnZ tsZ w K) : TxtX K mg (He.ga K "NoEraser") (He.ga K "DrawingError") (He.ga K "BlankView") (He.ga K "NoKiller") := by
  have hx := c.bool
  obtain ⟨es1, n1, kC⟩ := c.tab 0
  obtain ⟨es2, n2, kS_⟩ := c.tab 1
  have h114 := exZ_at hx 114 rfl
  have h115 := exZ_at hx 115 rfl
  have h116 := exZ_at hx 116 rfl
  have h117 := exZ_at hx 117 rfl
  have h118 := exZ_at hx 118 rfl
  have h119 := exZ_at hx 119 rfl
  have h120 := exZ_at hx 120 rfl
  have h121 := exZ_at hx 121 rfl
  have h122 := exZ_at hx 122 rfl
  have h123 := exZ_at hx 123 rfl
  have h124 := exZ_at hx 124 rfl
  have h125 := exZ_at hx 125 rfl
  have h126 := exZ_at hx 126 rfl
  have h127 := exZ_at hx 127 rfl
  have h128 := exZ_at hx 128 rfl
  have h129 := exZ_at hx 129 rfl
  have h130 := exZ_at hx 130 rfl
  have h131 := exZ_at hx 131 rfl
  have h132 := exZ_at hx 132 rfl
  exact {
    g_NoEraser := He.glo_ok X G h114,
    g_DrawingError := He.glo_ok X G h115,
    g_BlankView := He.glo_ok X G h116,
    g_NoKiller := He.glo_ok X G h117,
    exc := { hg := He.eqO_ok h118, hk := He.eqO_ok h119, hs := of_decide_eq_true h120, hd := h121, ha := He.eqO_ok h122, hn := He.eqO_ok h123, ht := of_decide_eq_true h124, hm := of_decide_eq_true h125 },
    xf := xfB_ok h126,
    no_view := He.eqO_ok h127,
    ex_dr := of_decide_eq_true h128,
    k_no := of_decide_eq_true h129,
    k_ve := of_decide_eq_true h130,
    k_bl := of_decide_eq_true h131,
    k_nk := of_decide_eq_true h132
  }
theorem OexC_ok {w : World} {K : PySem.W.Frag} {h : Heap} {mg : Str → Option Value} (X : K.In h) (G : h.Ns mainGlobals mg) (c : SaysZ exZ fnZ tsZ w K) : OexC K (He.ga K "NoEraser") := by
  have hx := c.bool
  obtain ⟨es1, n1, kC⟩ := c.tab 0
  obtain ⟨es2, n2, kS_⟩ := c.tab 1
  have h133 := exZ_at hx 133 rfl
  have h134 := exZ_at hx 134 rfl
  have h135 := exZ_at hx 135 rfl
  have h136 := exZ_at hx 136 rfl
  have h137 := exZ_at hx 137 rfl
  exact {
    cls := oexCls_ok h133,
    sa := He.eqO_ok h134,
    exC := of_decide_eq_true h135,
    tyC := of_decide_eq_true h136,
    kC := h137
  }
theorem factsZ {P : Program} {w : World} {K : PySem.W.Frag} {h : Heap} {mg : Str → Option Value} {f : Addr} (X : K.In h) (G : h.Ns mainGlobals mg) (hfa : mg ("law" : Str) = some (.ref f)) (c : SaysZ exZ fnZ tsZ w K) :
    ∃ fd : FuncData, (∀ (s : Shared) (v : Value), BindsTo s fd ⟨[v], []⟩ [("_law_script", v)]) ∧ ∀ base : Heap, K.In base → base.Ns mainGlobals mg → FnOk P w K mg base CX0 11 f fd P_law (spLaw K) := by
  obtain ⟨fd, F⟩ := c.def_ (d := d_54) (by simp [fnZ])
  have e := hfa.symm.trans (He.glo_ok X G (exZ_at c.bool 138 rfl))
  cases e
  have b := FunD.bindsA (ps := P_law) F fun _ _ _ _ _ _ us hl => match us, hl with | [_], _ => rfl
  exact ⟨fd, fun s v => b s [v] rfl, fun base _ _ => chain (Txt_ok X G c) (TxtC_ok X G c) (TxtM_ok X G c) (TxtS_ok X G c) (TxtI_ok X G c) (TxtX_ok X G c) (OexC_ok X G c) (lay_ok X G c) F⟩
end SV
end

section
set_option Elab.async false
set_option linter.all false
set_option maxRecDepth 100000
set_option maxHeartbeats 0
namespace SV
open PySem PySem.W PySem.Calls PyProof.Rows
abbrev dZ : DefRec := HandSHeadRun.topDef RwZ.prog 77
theorem e_open : opening RwZ.prog = plainProg RwZ.prog.main.scope.names := by kernel_rfl
theorem e_fence (s : _) : fenceModules? RwZ.prog s = some s := by kernel_rfl
theorem e_def : defOf qvZ RwZ.name = some (dZ, []) := by kernel_rfl
theorem e_the : RwZ.prog.theDef RwZ.name = some (dZ.params, dZ.body, dZ.scope) := by kernel_rfl
theorem e_kw : kwWritten? dZ.params.kwonlyargs dZ.params.kw_defaults = some [] := by kernel_rfl
theorem e_wr : (!RwZ.writes || RwZ.records.isEmpty) = true := by rfl
theorem e_ok : (chainsOk qvZ && opensWell RwZ.prog && (frees RwZ.toRowW && RwZ.within.isEmpty)) = true := by decide +kernel
theorem e_whole : RwZ.prog.tablesWhole = true := by decide +kernel
theorem e_bare : RwZ.prog.bare := ⟨rfl, rfl, rfl, rfl, rfl, e_whole⟩
theorem e_name : dZ.name = ("law" : PySem.Str) := by kernel_rfl
theorem e_prom : RwZ.toRowW.promised := by w_witness2
theorem e_dflt : dZ.params.defaults = [] := by kernel_rfl
theorem walkZ : WalkO qvZ names (XL qvZ []) hkZ.says RwZ.toRowW dZ [] (fun f vs => PySem.call f vs) := by
  refine L2.walk_ofE (l := PySem.Challenge.rw_sixviews_k36_whole_erasers) (n := 63) (k := 11) (x := "_law_script") (CX := L2.CX0) rfl (by decide) e_dflt ⟨rfl, by decide, by decide⟩ ?F (fun _ _ _ _ z => z)
  intro w mg fa h Y G hmg0
  obtain ⟨K, KX, c⟩ := Y
  have hmg : mg ("law" : PySem.Str) = some (.ref fa) := by
    rw [← e_name]
    exact hmg0
  obtain ⟨fd, hb, hF⟩ := factsZ (P := (PySem.Challenge.rw_sixviews_k36_whole_erasers).prog) (w := w) KX G hmg c
  exact ⟨K, fd, spLaw K, KX, hb, fun H a ns hl _ hS => ⟨a, ns, rfl, hS, fun _ => rfl⟩, hF⟩
theorem holdsZ (said : RwZ.wellSaid = true) : RwZ.Holds :=
  HandSHeadRun.head_any (r := RwZ) (q := qvZ) (H := hkZ) (ob := obZ) (M := 20000) (loose := names) (d := dZ) (kwd := []) obZ_eq e_open e_fence runZ e_def e_the e_kw e_wr said e_ok e_bare e_prom walkZ
end SV
open PySem PySem.W PySem.Calls PyProof.Rows
theorem PySem.Challenge.cw_sixviews_k36_whole_erasers_holds : PySem.Challenge.rw_sixviews_k36_whole_erasers.Holds := by
  w_on; o_law
  exact SV.holdsZ (by assumption)
end

