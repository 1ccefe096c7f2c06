import PyProof.Rows.All
import Wide.All
import OpenK.AllK
import Wide.FinOn
import HandS.ForMost
import HandS.Evl
import HandS.Walk
import HandS.Codes
import HandS.IsInst
import HandS.Style
import HandS.DictComp
import HandS.TupLe
import HandS.Replace
import HandS.Deep
import KE.GoesMore
import KE.GoesComp
import KE.GoesEnum
import HandS.WordsDict
import PySem.Challenge.RW_oncewords_k50_whole_duels
set_option Elab.async false
set_option linter.all false
set_option maxRecDepth 100000
set_option maxHeartbeats 4000000
section
/-! The plain law: letters, friends, the least order, rising friends, the play. No program here. -/
namespace K5
/-- the letters are numbers: 97 is a -/
def alph : List Nat := [97, 98, 99, 100, 101, 102, 103]
def lets (n : Nat) : List Nat := alph.take n
/-- whether two letters are friends -/
def fr (ps : List (Nat × Nat)) (c d : Nat) : Bool := ps.contains (min c d - 97, max c d - 97)
/-- the friends of a letter, in the order in which the pairs tell them -/
def fl (ps : List (Nat × Nat)) (c : Nat) : List Nat :=
  ps.filterMap fun p => if 97 + p.1 = c then some (97 + p.2) else if 97 + p.2 = c then some (97 + p.1) else none
structure Good (n : Nat) (ps : List (Nat × Nat)) : Prop where
  n1 : 1 ≤ n
  n5 : n ≤ 5
  lt : ∀ p ∈ ps, p.1 < p.2 ∧ p.2 < n
  up : ps.Pairwise fun p q => p.1 < q.1 ∨ (p.1 = q.1 ∧ p.2 < q.2)
theorem fr_comm (ps : List (Nat × Nat)) (c d : Nat) : fr ps c d = fr ps d c := by
  unfold fr; rw [Nat.min_comm, Nat.max_comm]
theorem lets_eq (n : Nat) (h : n ≤ 7) : lets n = (List.range n).map (97 + ·) := by
  have : n = 0 ∨ n = 1 ∨ n = 2 ∨ n = 3 ∨ n = 4 ∨ n = 5 ∨ n = 6 ∨ n = 7 := by omega
  rcases this with rfl | rfl | rfl | rfl | rfl | rfl | rfl | rfl <;> decide
theorem mem_lets {n c : Nat} (h : n ≤ 7) : c ∈ lets n ↔ 97 ≤ c ∧ c < 97 + n := by
  rw [lets_eq n h, List.mem_map]
  constructor
  · rintro ⟨k, hk, rfl⟩
    rw [List.mem_range] at hk
    omega
  · intro hc
    exact ⟨c - 97, by rw [List.mem_range]; omega, by omega⟩
theorem nodup_alph : alph.Nodup := by decide
theorem nodup_lets (n : Nat) : (lets n).Nodup := nodup_alph.sublist (List.take_sublist n alph)
theorem up_lets (n : Nat) : (lets n).Pairwise (· < ·) := List.Pairwise.sublist (List.take_sublist n alph) (by decide)
theorem len_lets (n : Nat) (h : n ≤ 7) : (lets n).length = n := by rw [lets_eq n h]; simp
theorem mem_fl {n : Nat} {ps : List (Nat × Nat)} (g : Good n ps) {c d : Nat} : d ∈ fl ps c ↔ (97 ≤ c ∧ 97 ≤ d ∧ fr ps d c = true) := by
  unfold fl fr
  rw [List.mem_filterMap, List.contains_iff_mem]
  constructor
  · rintro ⟨p, hp, e⟩
    have h1 := g.lt p hp
    by_cases h : 97 + p.1 = c
    · rw [if_pos h] at e
      have e := Option.some.inj e
      refine ⟨by omega, by omega, ?_⟩
      have e1 : min d c - 97 = p.1 := by omega
      have e2 : max d c - 97 = p.2 := by omega
      rw [e1, e2]; exact hp
    · rw [if_neg h] at e
      by_cases h2 : 97 + p.2 = c
      · rw [if_pos h2] at e
        have e := Option.some.inj e
        refine ⟨by omega, by omega, ?_⟩
        have e1 : min d c - 97 = p.1 := by omega
        have e2 : max d c - 97 = p.2 := by omega
        rw [e1, e2]; exact hp
      · rw [if_neg h2] at e; cases e
  · rintro ⟨hc, hd, hp⟩
    refine ⟨_, hp, ?_⟩
    have h1 := g.lt _ hp
    have h1 : min d c - 97 < max d c - 97 := h1.1
    show (if 97 + (min d c - 97) = c then some (97 + (max d c - 97)) else if 97 + (max d c - 97) = c then some (97 + (min d c - 97)) else none) = some d
    by_cases h : 97 + (min d c - 97) = c
    · rw [if_pos h]; congr 1; omega
    · rw [if_neg h, if_pos (by omega)]; congr 1; omega
theorem fr_irrefl {n : Nat} {ps : List (Nat × Nat)} (g : Good n ps) (c : Nat) : fr ps c c = false := by
  cases h : fr ps c c with
  | false => rfl
  | true =>
    unfold fr at h
    rw [List.contains_iff_mem] at h
    have := (g.lt _ h).1
    have h3 : min c c - 97 < max c c - 97 := this
    omega
theorem fl_nodup {n : Nat} {ps : List (Nat × Nat)} (g : Good n ps) (c : Nat) : (fl ps c).Nodup := by
  unfold fl
  have hlt := g.lt
  have hup := g.up
  clear g
  induction ps with
  | nil => exact List.nodup_nil
  | cons p r ih =>
    have hr := ih (fun q hq => hlt q (List.mem_cons_of_mem _ hq)) (List.pairwise_cons.mp hup).2
    rw [List.filterMap_cons]
    split
    · exact hr
    · rename_i b hb
      refine List.nodup_cons.mpr ⟨fun hm => ?_, hr⟩
      obtain ⟨q, hq, e⟩ := List.mem_filterMap.mp hm
      have h1 := (List.pairwise_cons.mp hup).1 q hq
      have h2 := hlt p List.mem_cons_self
      have h3 := hlt q (List.mem_cons_of_mem _ hq)
      by_cases a1 : 97 + p.1 = c
      · rw [if_pos a1] at hb
        have hb := Option.some.inj hb
        by_cases b1 : 97 + q.1 = c
        · rw [if_pos b1] at e
          have e := Option.some.inj e
          omega
        · rw [if_neg b1] at e
          by_cases b2 : 97 + q.2 = c
          · rw [if_pos b2] at e
            have e := Option.some.inj e
            omega
          · rw [if_neg b2] at e; cases e
      · rw [if_neg a1] at hb
        by_cases a2 : 97 + p.2 = c
        · rw [if_pos a2] at hb
          have hb := Option.some.inj hb
          by_cases b1 : 97 + q.1 = c
          · rw [if_pos b1] at e
            have e := Option.some.inj e
            omega
          · rw [if_neg b1] at e
            by_cases b2 : 97 + q.2 = c
            · rw [if_pos b2] at e
              have e := Option.some.inj e
              omega
            · rw [if_neg b2] at e; cases e
        · rw [if_neg a2] at hb; cases hb
end K5
end
section
namespace K5
/-! ### lists -/
theorem perm_of_mem {l m : List Nat} (hl : l.Nodup) (hm : m.Nodup) (h : ∀ x, x ∈ l ↔ x ∈ m) : l.Perm m := by
  induction l generalizing m with
  | nil =>
    have : m = [] := by
      cases m with
      | nil => rfl
      | cons y r => exact absurd ((h y).mpr List.mem_cons_self) (by simp)
    subst this; exact .nil
  | cons x r ih =>
    have hx : x ∈ m := (h x).mp List.mem_cons_self
    have hp := List.perm_cons_erase hx
    refine .trans (.cons x (ih (List.nodup_cons.mp hl).2 (hm.erase x) fun y => ?_)) hp.symm
    have hxr := (List.nodup_cons.mp hl).1
    rw [hm.mem_erase_iff]
    constructor
    · intro hy
      exact ⟨fun e => hxr (e ▸ hy), (h y).mp (List.mem_cons_of_mem _ hy)⟩
    · rintro ⟨hne, hy⟩
      have := (h y).mpr hy
      rcases List.mem_cons.mp this with e | e
      · exact absurd e hne
      · exact e
theorem len_of_mem {l m : List Nat} (hl : l.Nodup) (hm : m.Nodup) (h : ∀ x, x ∈ l ↔ x ∈ m) : l.length = m.length := (perm_of_mem hl hm h).length_eq

/-! ### who stands ahead -/
def ahead (w : List Nat) (c : Nat) : List Nat := w.takeWhile (· != c)
theorem ahead_nodup {w : List Nat} (hw : w.Nodup) (c : Nat) : (ahead w c).Nodup := hw.sublist (List.takeWhile_sublist _)
theorem ahead_mem {w : List Nat} {c x : Nat} (h : x ∈ ahead w c) : x ∈ w ∧ x ≠ c := by
  refine ⟨(List.takeWhile_sublist _).mem h, ?_⟩
  have := List.all_takeWhile (p := (· != c)) (l := w)
  rw [List.all_eq_true] at this
  have h2 := this x h
  simpa using h2
theorem ahead_cons_self (c : Nat) (r : List Nat) : ahead (c :: r) c = [] := by simp [ahead]
theorem ahead_cons_ne {x c : Nat} (r : List Nat) (h : x ≠ c) : ahead (x :: r) c = x :: ahead r c := by simp [ahead, h]
theorem ahead_of_not_mem {w : List Nat} {c : Nat} (h : c ∉ w) : ahead w c = w := by
  induction w with
  | nil => rfl
  | cons x r ih =>
    have h1 : x ≠ c := fun e => h (e ▸ List.mem_cons_self)
    rw [ahead_cons_ne r h1, ih fun hm => h (List.mem_cons_of_mem _ hm)]
theorem ahead_append {w v : List Nat} {c : Nat} (h : c ∈ w) : ahead (w ++ v) c = ahead w c := by
  induction w with
  | nil => cases h
  | cons x r ih =>
    by_cases e : x = c
    · subst e; rw [List.cons_append, ahead_cons_self, ahead_cons_self]
    · rw [List.cons_append, ahead_cons_ne _ e, ahead_cons_ne _ e]
      rcases List.mem_cons.mp h with q | q
      · exact absurd q.symm e
      · rw [ih q]
theorem ahead_append' {w v : List Nat} {c : Nat} (h : c ∉ w) : ahead (w ++ v) c = w ++ ahead v c := by
  induction w with
  | nil => rfl
  | cons x r ih =>
    have h1 : x ≠ c := fun e => h (e ▸ List.mem_cons_self)
    rw [List.cons_append, ahead_cons_ne _ h1, ih fun hm => h (List.mem_cons_of_mem _ hm)]; rfl
theorem ahead_filter {w : List Nat} {p c : Nat} (hc : c ≠ p) : ahead (w.filter (· != p)) c = (ahead w c).filter (· != p) := by
  induction w with
  | nil => rfl
  | cons x r ih =>
    by_cases e : x = p
    · subst e
      rw [List.filter_cons_of_neg (by simp), ahead_cons_ne _ (Ne.symm hc), List.filter_cons_of_neg (by simp), ih]
    · rw [List.filter_cons_of_pos (by simp [e])]
      by_cases e2 : x = c
      · subst e2; rw [ahead_cons_self, ahead_cons_self]; rfl
      · rw [ahead_cons_ne _ e2, ahead_cons_ne _ e2, List.filter_cons_of_pos (by simp [e]), ih]
/-- of two letters of a word one stands ahead -/
theorem ahead_total {w : List Nat} {x y : Nat} (hx : x ∈ w) (hy : y ∈ w) (h : x ≠ y) : x ∈ ahead w y ∨ y ∈ ahead w x := by
  induction w with
  | nil => cases hx
  | cons z r ih =>
    by_cases e : z = x
    · subst e; left; rw [ahead_cons_ne _ h]; exact List.mem_cons_self
    · by_cases e2 : z = y
      · subst e2; right; rw [ahead_cons_ne _ e]; exact List.mem_cons_self
      · rw [ahead_cons_ne _ e, ahead_cons_ne _ e2]
        have hx' : x ∈ r := (List.mem_cons.mp hx).resolve_left fun q => e q.symm
        have hy' : y ∈ r := (List.mem_cons.mp hy).resolve_left fun q => e2 q.symm
        exact (ih hx' hy').imp (List.mem_cons_of_mem _) (List.mem_cons_of_mem _)

/-! ### the least order -/
section
variable (ps : List (Nat × Nat))
/-- no friend stands ahead -/
def free (w : List Nat) (c : Nat) : Bool := (ahead w c).all fun d => !fr ps d c
def frees (w : List Nat) : List Nat := w.filter (free ps w)
def IsLeast (m : Nat) (l : List Nat) : Prop := m ∈ l ∧ ∀ x ∈ l, m ≤ x
theorem IsLeast.uniq {m m' : Nat} {l : List Nat} (h : IsLeast m l) (h' : IsLeast m' l) : m = m' := Nat.le_antisymm (h.2 _ h'.1) (h'.2 _ h.1)
def least : List Nat → Nat
  | [] => 0
  | [x] => x
  | x :: r => min x (least r)
theorem least_is : ∀ {l : List Nat}, l ≠ [] → IsLeast (least l) l
  | [], h => absurd rfl h
  | [x], _ => ⟨List.mem_cons_self, fun y hy => by rw [List.mem_singleton.mp hy]; exact Nat.le_refl _⟩
  | x :: y :: r, _ => by
    have ih := least_is (l := y :: r) (by simp)
    show IsLeast (min x (least (y :: r))) (x :: y :: r)
    generalize least (y :: r) = m at ih
    obtain ⟨h1, h2⟩ := ih
    refine ⟨?_, fun z hz => ?_⟩
    · by_cases e : x ≤ m
      · rw [Nat.min_eq_left e]; exact List.mem_cons_self
      · rw [Nat.min_eq_right (by omega)]; exact List.mem_cons_of_mem _ h1
    · rcases List.mem_cons.mp hz with e | e
      · omega
      · have := h2 z e; omega
theorem frees_ne {w : List Nat} (h : w ≠ []) : frees ps w ≠ [] := by
  cases w with
  | nil => exact absurd rfl h
  | cons x r =>
    have hx : x ∈ frees ps (x :: r) := List.mem_filter.mpr ⟨List.mem_cons_self, by simp [free, ahead_cons_self]⟩
    exact fun e => by rw [e] at hx; cases hx
def pick (w : List Nat) : Nat := least (frees ps w)
theorem pick_is {w : List Nat} (h : w ≠ []) : IsLeast (pick ps w) (frees ps w) := least_is (frees_ne ps h)
theorem pick_mem {w : List Nat} (h : w ≠ []) : pick ps w ∈ w := (List.mem_filter.mp (pick_is ps h).1).1
theorem pick_free {w : List Nat} (h : w ≠ []) : free ps w (pick ps w) = true := (List.mem_filter.mp (pick_is ps h).1).2
def canonN : Nat → List Nat → List Nat
  | 0, _ => []
  | k + 1, w => if w = [] then [] else pick ps w :: canonN k (w.filter (· != pick ps w))
def canon (w : List Nat) : List Nat := canonN ps w.length w
theorem len_less {w : List Nat} {p : Nat} (hw : w.Nodup) (hp : p ∈ w) : (w.filter (· != p)).length + 1 = w.length := by
  have h := (List.perm_cons_erase hp).length_eq
  rw [hw.erase_eq_filter] at h
  rw [h]; rfl
theorem canonN_perm : ∀ (k : Nat) {w : List Nat}, w.Nodup → w.length = k → (canonN ps k w).Perm w
  | 0, w, _, h => by
    have : w = [] := List.length_eq_zero_iff.mp h
    subst this; exact .nil
  | k + 1, w, hw, h => by
    have hne : w ≠ [] := fun e => by rw [e] at h; cases h
    have hp := pick_mem ps hne
    show (if w = [] then [] else pick ps w :: canonN ps k (w.filter (· != pick ps w))).Perm w
    rw [if_neg hne]
    have hl := len_less hw hp
    have ih := canonN_perm k (w := w.filter (· != pick ps w)) (hw.filter _) (by omega)
    refine (ih.cons _).trans ?_
    have := List.perm_cons_erase hp
    rw [hw.erase_eq_filter] at this
    exact this.symm
theorem canon_perm {w : List Nat} (hw : w.Nodup) : (canon ps w).Perm w := canonN_perm ps _ hw rfl
theorem canon_nodup {w : List Nat} (hw : w.Nodup) : (canon ps w).Nodup := (canon_perm ps hw).nodup_iff.mpr hw
/-- of friends the same one stands ahead -/
def Alike (w v : List Nat) : Prop := ∀ x y, x ∈ w → y ∈ w → fr ps x y = true → (x ∈ ahead w y ↔ x ∈ ahead v y)
theorem canonN_alike : ∀ (k : Nat) {w : List Nat}, w.Nodup → w.length = k → Alike ps w (canonN ps k w)
  | 0, w, _, h => by
    have : w = [] := List.length_eq_zero_iff.mp h
    subst this; intro x y hx; cases hx
  | k + 1, w, hw, h => by
    have hne : w ≠ [] := fun e => by rw [e] at h; cases h
    have hp := pick_mem ps hne
    have hf := pick_free ps hne
    have hl := len_less hw hp
    show Alike ps w (if w = [] then [] else pick ps w :: canonN ps k (w.filter (· != pick ps w)))
    rw [if_neg hne]
    have ih := canonN_alike k (w := w.filter (· != pick ps w)) (hw.filter _) (by omega)
    have hpm := canonN_perm ps k (w := w.filter (· != pick ps w)) (hw.filter _) (by omega)
    generalize pick ps w = p at *
    intro x y hx hy hxy
    by_cases e2 : p = y
    · subst e2
      rw [ahead_cons_self]
      constructor
      · intro ha
        unfold free at hf
        rw [List.all_eq_true] at hf
        have := hf x ha
        rw [hxy] at this; cases this
      · intro ha; cases ha
    · rw [ahead_cons_ne _ e2]
      by_cases e1 : p = x
      · subst e1
        constructor
        · intro _; exact List.mem_cons_self
        · intro _
          rcases ahead_total hx hy e2 with q | q
          · exact q
          · unfold free at hf
            rw [List.all_eq_true] at hf
            have := hf y q
            rw [fr_comm, hxy] at this; cases this
      · have a := ih x y (List.mem_filter.mpr ⟨hx, by simp [Ne.symm e1]⟩) (List.mem_filter.mpr ⟨hy, by simp [Ne.symm e2]⟩) hxy
        rw [ahead_filter (Ne.symm e2)] at a
        constructor
        · intro ha
          exact List.mem_cons_of_mem _ (a.mp (List.mem_filter.mpr ⟨ha, by simp [Ne.symm e1]⟩))
        · intro ha
          have := (List.mem_cons.mp ha).resolve_left fun q => e1 q.symm
          exact (List.mem_filter.mp (a.mpr this)).1
theorem canon_alike {w : List Nat} (hw : w.Nodup) : Alike ps w (canon ps w) := canonN_alike ps _ hw rfl
theorem free_alike {w v : List Nat} (hp : w.Perm v) (ha : Alike ps w v) {c : Nat} (hc : c ∈ w) : free ps w c = free ps v c := by
  rw [Bool.eq_iff_iff]
  unfold free
  rw [List.all_eq_true, List.all_eq_true]
  constructor
  · intro h d hd
    cases hf : fr ps d c with
    | false => rfl
    | true =>
      have hdw : d ∈ w := hp.mem_iff.mpr (ahead_mem hd).1
      have := h d ((ha d c hdw hc hf).mpr hd)
      rw [hf] at this; cases this
  · intro h d hd
    cases hf : fr ps d c with
    | false => rfl
    | true =>
      have := h d ((ha d c (ahead_mem hd).1 hc hf).mp hd)
      rw [hf] at this; cases this
theorem pick_alike {w v : List Nat} (hp : w.Perm v) (ha : Alike ps w v) (hne : w ≠ []) : pick ps w = pick ps v := by
  have hv : v ≠ [] := fun e => hne (by rw [e] at hp; exact hp.eq_nil)
  have h1 := pick_is ps hne
  have h2 := pick_is ps hv
  have hm : ∀ c, c ∈ frees ps w ↔ c ∈ frees ps v := fun c => by
    unfold frees
    rw [List.mem_filter, List.mem_filter]
    constructor
    · rintro ⟨a, b⟩
      exact ⟨hp.mem_iff.mp a, by rw [← free_alike ps hp ha a]; exact b⟩
    · rintro ⟨a, b⟩
      have a' := hp.mem_iff.mpr a
      exact ⟨a', by rw [free_alike ps hp ha a']; exact b⟩
  exact Nat.le_antisymm (h1.2 _ ((hm _).mpr h2.1)) (h2.2 _ ((hm _).mp h1.1))
theorem canonN_eq : ∀ (k : Nat) {w v : List Nat}, w.Nodup → w.Perm v → Alike ps w v → canonN ps k w = canonN ps k v
  | 0, _, _, _, _, _ => rfl
  | k + 1, w, v, hw, hp, ha => by
    show (if w = [] then [] else pick ps w :: canonN ps k (w.filter (· != pick ps w))) = (if v = [] then [] else pick ps v :: canonN ps k (v.filter (· != pick ps v)))
    by_cases hne : w = []
    · subst hne
      have : v = [] := hp.symm.eq_nil
      subst this; rfl
    · have hv : v ≠ [] := fun e => hne (by rw [e] at hp; exact hp.eq_nil)
      rw [if_neg hne, if_neg hv, pick_alike ps hp ha hne]
      congr 1
      refine canonN_eq k (hw.filter _) (hp.filter _) fun x y hx hy hxy => ?_
      have hx' := List.mem_filter.mp hx
      have hy' := List.mem_filter.mp hy
      have hyp : y ≠ pick ps v := by simpa using hy'.2
      rw [ahead_filter hyp, ahead_filter hyp, List.mem_filter, List.mem_filter]
      have := ha x y hx'.1 hy'.1 hxy
      rw [this]
/-- what is least stays -/
theorem canon_canon {w : List Nat} (hw : w.Nodup) : canon ps (canon ps w) = canon ps w := by
  have hp := canon_perm ps hw
  unfold canon at *
  rw [hp.length_eq]
  exact (canonN_eq ps _ hw hp.symm (canonN_alike ps _ hw rfl)).symm
theorem canon_step {w : List Nat} (hw : w.Nodup) (hne : w ≠ []) : canon ps w = pick ps w :: canon ps (w.filter (· != pick ps w)) := by
  have hl := len_less hw (pick_mem ps hne)
  unfold canon
  rw [← hl]
  show (if w = [] then [] else _) = _
  rw [if_neg hne]
theorem canon_nil : canon ps [] = [] := rfl
end
end K5
end
section
namespace K5
section
variable (ps : List (Nat × Nat))
/-! ### rising friends -/
/-- the lesser friends of y among w -/
def cnt (w : List Nat) (y : Nat) : Nat := (w.filter fun x => decide (x < y) && fr ps x y).length
/-- as the law counts: from each letter on, its greater friends -/
def rise : List Nat → Nat
  | [] => 0
  | x :: r => (r.filter fun y => decide (x < y) && fr ps x y).length + rise r
theorem rise_snoc : ∀ (w : List Nat) (s : Nat), rise ps (w ++ [s]) = rise ps w + cnt ps w s
  | [], s => rfl
  | x :: r, s => by
    show ((r ++ [s]).filter fun y => decide (x < y) && fr ps x y).length + rise ps (r ++ [s]) = (r.filter fun y => decide (x < y) && fr ps x y).length + rise ps r + ((x :: r).filter fun z => decide (z < s) && fr ps z s).length
    rw [rise_snoc r s, List.filter_append, List.length_append]
    unfold cnt
    cases h : (decide (x < s) && fr ps x s) with
    | true =>
      simp only [List.filter_cons, List.filter_nil, h, if_true, List.length_cons, List.length_nil]
      omega
    | false =>
      simp only [List.filter_cons, List.filter_nil, h, Bool.false_eq_true, if_false, List.length_nil]
      omega
theorem cnt_mem {w v : List Nat} (hw : w.Nodup) (hv : v.Nodup) (h : ∀ x, x ∈ w ↔ x ∈ v) (y : Nat) : cnt ps w y = cnt ps v y := by
  unfold cnt
  refine len_of_mem (hw.filter _) (hv.filter _) fun x => ?_
  rw [List.mem_filter, List.mem_filter, h]
/-- as a sum over the letters -/
theorem rise_sum {w : List Nat} (hw : w.Nodup) : rise ps w = (w.map fun y => cnt ps (ahead w y) y).sum := by
  have key : ∀ (k : Nat) (w : List Nat), w.length = k → w.Nodup → rise ps w = (w.map fun y => cnt ps (ahead w y) y).sum := by
    intro k
    induction k with
    | zero =>
      intro w h _
      have : w = [] := List.length_eq_zero_iff.mp h
      subst this; rfl
    | succ k ih =>
      intro w h hw
      have hne : w ≠ [] := fun e => by rw [e] at h; cases h
      have e := List.dropLast_concat_getLast hne
      generalize w.getLast hne = s at e
      generalize hv : w.dropLast = v at e
      subst e
      have hn := List.nodup_append.mp hw
      have hs : s ∉ v := fun hm => hn.2.2 s hm s (by simp) rfl
      rw [rise_snoc, List.map_append, List.sum_append, ih v (by simpa using h) hn.1]
      congr 1
      · congr 1
        refine List.map_congr_left fun y hy => ?_
        rw [ahead_append hy]
      · show cnt ps v s = cnt ps (ahead (v ++ [s]) s) s + 0
        rw [ahead_append' hs, ahead_cons_self, List.append_nil]; omega
  exact key _ w rfl hw
theorem cnt_alike {w v : List Nat} (hw : w.Nodup) (hv : v.Nodup) (hp : w.Perm v) (ha : Alike ps w v) {y : Nat} (hy : y ∈ w) : cnt ps (ahead w y) y = cnt ps (ahead v y) y := by
  unfold cnt
  refine len_of_mem ((ahead_nodup hw y).filter _) ((ahead_nodup hv y).filter _) fun x => ?_
  rw [List.mem_filter, List.mem_filter]
  constructor
  · rintro ⟨h1, h2⟩
    have h3 := (Bool.and_eq_true_iff.mp h2).2
    exact ⟨(ha x y (ahead_mem h1).1 hy h3).mp h1, h2⟩
  · rintro ⟨h1, h2⟩
    have h3 := (Bool.and_eq_true_iff.mp h2).2
    exact ⟨(ha x y (hp.mem_iff.mpr (ahead_mem h1).1) hy h3).mpr h1, h2⟩
theorem rise_alike {w v : List Nat} (hw : w.Nodup) (hp : w.Perm v) (ha : Alike ps w v) : rise ps w = rise ps v := by
  have hv := hp.nodup_iff.mp hw
  rw [rise_sum ps hw, rise_sum ps hv]
  have e : (w.map fun y => cnt ps (ahead w y) y) = w.map fun y => cnt ps (ahead v y) y := List.map_congr_left fun y hy => cnt_alike ps hw hv hp ha hy
  rw [e]
  exact (hp.map _).sum_nat
theorem rise_canon {w : List Nat} (hw : w.Nodup) : rise ps (canon ps w) = rise ps w :=
  (rise_alike ps hw (canon_perm ps hw).symm (canon_alike ps hw)).symm

/-! ### the ends of a kind -/
theorem sum_le {l : List Nat} {f g : Nat → Nat} (h : ∀ x ∈ l, f x ≤ g x) : (l.map f).sum ≤ (l.map g).sum := by
  induction l with
  | nil => exact Nat.le_refl _
  | cons x r ih =>
    rw [List.map_cons, List.map_cons, List.sum_cons, List.sum_cons]
    exact Nat.add_le_add (h x List.mem_cons_self) (ih fun y hy => h y (List.mem_cons_of_mem _ hy))
theorem cnt_append (w v : List Nat) (y : Nat) : cnt ps (w ++ v) y = cnt ps w y + cnt ps v y := by
  unfold cnt; rw [List.filter_append, List.length_append]
theorem cnt_le {w v : List Nat} (hw : w.Nodup) (hv : v.Nodup) (h : ∀ x, x ∈ w → x ∈ v) (y : Nat) : cnt ps w y ≤ cnt ps v y := by
  unfold cnt
  have e : ((v.filter fun x => decide (x < y) && fr ps x y).filter fun x => decide (x ∈ w)).length = (w.filter fun x => decide (x < y) && fr ps x y).length := by
    refine len_of_mem ((hv.filter _).filter _) (hw.filter _) fun x => ?_
    rw [List.mem_filter, List.mem_filter, List.mem_filter, decide_eq_true_iff]
    exact ⟨fun q => ⟨q.2, q.1.2⟩, fun q => ⟨⟨h x q.1, q.2⟩, q.1⟩⟩
  rw [← e]
  exact List.length_filter_le _ _
/-- rising friends of a kind and an order behind it -/
theorem rise_app {k o : List Nat} (hn : (k ++ o).Nodup) : rise ps (k ++ o) = rise ps k + (o.map fun y => cnt ps k y + cnt ps (ahead o y) y).sum := by
  have h := List.nodup_append.mp hn
  have hk : ∀ y ∈ o, y ∉ k := fun y hy hm => h.2.2 y hm y hy rfl
  rw [rise_sum ps hn, List.map_append, List.sum_append, rise_sum ps h.1]
  congr 1
  · congr 1
    exact List.map_congr_left fun y hy => by rw [ahead_append hy]
  · congr 1
    refine List.map_congr_left fun y hy => ?_
    rw [ahead_append' (hk y hy), cnt_append]
theorem rise_most {k r o : List Nat} (hn : (k ++ r).Nodup) (hr : r.Pairwise (· < ·)) (hp : o.Perm r) : rise ps (k ++ o) ≤ rise ps (k ++ r) := by
  have hno : (k ++ o).Nodup := (List.Perm.append_left k hp).nodup_iff.mpr hn
  have h := List.nodup_append.mp hn
  have ho := (List.nodup_append.mp hno).2.1
  rw [rise_app ps hn, rise_app ps hno]
  refine Nat.add_le_add_left ?_ _
  have e : (r.map fun y => cnt ps k y + cnt ps (ahead r y) y).sum = (o.map fun y => cnt ps k y + cnt ps (ahead r y) y).sum := ((hp.symm).map _).sum_nat
  rw [e]
  refine sum_le fun y hy => Nat.add_le_add_left ?_ _
  -- the lesser ones all stand ahead in an ascending row
  have hyr : y ∈ r := hp.mem_iff.mp hy
  have up : ∀ x, x ∈ r → x < y → x ∈ ahead r y := fun x hx hlt => by
    rcases ahead_total hx hyr (Nat.ne_of_lt hlt) with q | q
    · exact q
    · exfalso
      have key : ∀ (l : List Nat), l.Pairwise (· < ·) → ∀ a b, a ∈ ahead l b → b ∈ l → a < b := by
        intro l
        induction l with
        | nil => intro _ a b ha; cases ha
        | cons z t ih =>
          intro hl a b ha hb
          by_cases e : z = b
          · subst e; rw [ahead_cons_self] at ha; cases ha
          · rw [ahead_cons_ne _ e] at ha
            have hb' := (List.mem_cons.mp hb).resolve_left fun q => e q.symm
            have hl' := List.pairwise_cons.mp hl
            rcases List.mem_cons.mp ha with q | q
            · subst q; exact hl'.1 b hb'
            · exact ih hl'.2 a b q hb'
      have := key r hr y x q hx
      omega
  unfold cnt
  have e2 : ((ahead o y).filter fun x => decide (x < y) && fr ps x y).length ≤ ((ahead r y).filter fun x => decide (x < y) && fr ps x y).length := by
    have : ((ahead o y).filter fun x => decide (x < y) && fr ps x y).length = cnt ps ((ahead o y).filter fun x => decide (x < y)) y := by
      unfold cnt
      rw [List.filter_filter]
      congr 1
      refine List.filter_congr fun x _ => ?_
      cases decide (x < y) <;> simp
    rw [this]
    refine cnt_le ps ((ahead_nodup ho y).filter _) (ahead_nodup h.2.1 y) (fun x hx => ?_) y
    have hx' := List.mem_filter.mp hx
    exact up x (hp.mem_iff.mp (ahead_mem hx'.1).1) (by simpa using hx'.2)
  exact e2
theorem rise_fewest {k r o : List Nat} (hn : (k ++ r).Nodup) (hr : r.Pairwise (· > ·)) (hp : o.Perm r) : rise ps (k ++ r) ≤ rise ps (k ++ o) := by
  have hno : (k ++ o).Nodup := (List.Perm.append_left k hp).nodup_iff.mpr hn
  rw [rise_app ps hn, rise_app ps hno]
  refine Nat.add_le_add_left ?_ _
  have e : (r.map fun y => cnt ps k y + cnt ps (ahead r y) y).sum = (o.map fun y => cnt ps k y + cnt ps (ahead r y) y).sum := ((hp.symm).map _).sum_nat
  rw [e]
  refine sum_le fun y hy => Nat.add_le_add_left ?_ _
  have hyr : y ∈ r := hp.mem_iff.mp hy
  have key : ∀ (l : List Nat), l.Pairwise (· > ·) → ∀ a b, a ∈ ahead l b → b ∈ l → a > b := by
    intro l
    induction l with
    | nil => intro _ a b ha; cases ha
    | cons z t ih =>
      intro hl a b ha hb
      by_cases e : z = b
      · subst e; rw [ahead_cons_self] at ha; cases ha
      · rw [ahead_cons_ne _ e] at ha
        have hb' := (List.mem_cons.mp hb).resolve_left fun q => e q.symm
        have hl' := List.pairwise_cons.mp hl
        rcases List.mem_cons.mp ha with q | q
        · subst q; exact hl'.1 b hb'
        · exact ih hl'.2 a b q hb'
  have z : cnt ps (ahead r y) y = 0 := by
    unfold cnt
    rw [List.length_eq_zero_iff, List.filter_eq_nil_iff]
    intro x hx
    have := key r hr x y hx hyr
    have hd : decide (x < y) = false := decide_eq_false (by omega)
    rw [hd]; simp
  rw [z]; exact Nat.zero_le _
end
end K5
end
section
namespace K5
/-! ### greatest and least -/
def mx : List Int → Int
  | [] => 0
  | [x] => x
  | x :: r => max x (mx r)
def mn : List Int → Int
  | [] => 0
  | [x] => x
  | x :: r => min x (mn r)
theorem mx_is : ∀ {l : List Int}, l ≠ [] → mx l ∈ l ∧ ∀ y ∈ l, y ≤ mx l
  | [], h => absurd rfl h
  | [x], _ => ⟨List.mem_cons_self, fun y hy => by rw [List.mem_singleton.mp hy]; exact Int.le_refl _⟩
  | x :: y :: r, _ => by
    have ih := mx_is (l := y :: r) (by simp)
    show max x (mx (y :: r)) ∈ x :: y :: r ∧ ∀ z ∈ x :: y :: r, z ≤ max x (mx (y :: r))
    generalize mx (y :: r) = m at ih
    obtain ⟨h1, h2⟩ := ih
    refine ⟨?_, fun z hz => ?_⟩
    · by_cases e : m ≤ x
      · have : max x m = x := by omega
        rw [this]; exact List.mem_cons_self
      · have : max x m = m := by omega
        rw [this]; exact List.mem_cons_of_mem _ h1
    · rcases List.mem_cons.mp hz with e | e
      · omega
      · have := h2 z e; omega
theorem mn_is : ∀ {l : List Int}, l ≠ [] → mn l ∈ l ∧ ∀ y ∈ l, mn l ≤ y
  | [], h => absurd rfl h
  | [x], _ => ⟨List.mem_cons_self, fun y hy => by rw [List.mem_singleton.mp hy]; exact Int.le_refl _⟩
  | x :: y :: r, _ => by
    have ih := mn_is (l := y :: r) (by simp)
    show min x (mn (y :: r)) ∈ x :: y :: r ∧ ∀ z ∈ x :: y :: r, min x (mn (y :: r)) ≤ z
    generalize mn (y :: r) = m at ih
    obtain ⟨h1, h2⟩ := ih
    refine ⟨?_, fun z hz => ?_⟩
    · by_cases e : x ≤ m
      · have : min x m = x := by omega
        rw [this]; exact List.mem_cons_self
      · have : min x m = m := by omega
        rw [this]; exact List.mem_cons_of_mem _ h1
    · rcases List.mem_cons.mp hz with e | e
      · omega
      · have := h2 z e; omega
theorem mx_uniq {l : List Int} {m : Int} (h : m ∈ l) (h2 : ∀ y ∈ l, y ≤ m) : m = mx l := by
  have hne : l ≠ [] := fun e => by rw [e] at h; cases h
  have := mx_is hne
  exact Int.le_antisymm (this.2 m h) (h2 _ this.1)
theorem mn_uniq {l : List Int} {m : Int} (h : m ∈ l) (h2 : ∀ y ∈ l, m ≤ y) : m = mn l := by
  have hne : l ≠ [] := fun e => by rw [e] at h; cases h
  have := mn_is hne
  exact Int.le_antisymm (h2 _ this.1) (this.2 m h)
/-- who moves takes the greatest (0) or the least -/
def best (t : Int) (l : List Int) : Int := if t = 0 then mx l else mn l
theorem best_mem {t : Int} {l : List Int} (h : l ≠ []) : best t l ∈ l := by
  unfold best; split
  · exact (mx_is h).1
  · exact (mn_is h).1
theorem best_add {t c : Int} {l : List Int} (h : l ≠ []) : best t (l.map (c + ·)) = c + best t l := by
  have hm : l.map (c + ·) ≠ [] := by simpa using h
  unfold best; split
  · refine (mx_uniq ?_ fun y hy => ?_).symm
    · exact List.mem_map.mpr ⟨_, (mx_is h).1, rfl⟩
    · obtain ⟨z, hz, rfl⟩ := List.mem_map.mp hy
      have := (mx_is h).2 z hz; omega
  · refine (mn_uniq ?_ fun y hy => ?_).symm
    · exact List.mem_map.mpr ⟨_, (mn_is h).1, rfl⟩
    · obtain ⟨z, hz, rfl⟩ := List.mem_map.mp hy
      have := (mn_is h).2 z hz; omega

section
variable (ps : List (Nat × Nat)) (n : Nat)
/-- the letters that a word lacks -/
def rst (w : List Nat) : List Nat := (lets n).filter fun c => !w.contains c
theorem mem_rst {w : List Nat} {c : Nat} : c ∈ rst n w ↔ c ∈ lets n ∧ c ∉ w := by
  unfold rst; rw [List.mem_filter]; simp
theorem rst_congr {w v : List Nat} (h : ∀ x, x ∈ w ↔ x ∈ v) : rst n w = rst n v := by
  unfold rst
  refine List.filter_congr fun c _ => ?_
  have : w.contains c = v.contains c := by rw [Bool.eq_iff_iff, List.contains_iff_mem, List.contains_iff_mem]; exact h c
  rw [this]
theorem rst_nodup (w : List Nat) : (rst n w).Nodup := (nodup_lets n).filter _
theorem rst_up (w : List Nat) : (rst n w).Pairwise (· < ·) := (up_lets n).filter _
theorem rst_len {w : List Nat} {s : Nat} (h : s ∈ rst n w) : (rst n (w ++ [s])).length + 1 = (rst n w).length := by
  have e : rst n (w ++ [s]) = (rst n w).filter (· != s) := by
    unfold rst
    rw [List.filter_filter]
    refine List.filter_congr fun c _ => ?_
    have : (w ++ [s]).contains c = (w.contains c || (c == s)) := by
      rw [Bool.eq_iff_iff, List.contains_iff_mem, List.mem_append, Bool.or_eq_true, List.contains_iff_mem, beq_iff_eq, List.mem_singleton]
    rw [this]
    cases w.contains c <;> cases hcs : (c == s) <;> simp [bne, hcs]
  rw [e]
  exact len_less (rst_nodup n w) h
/-- how many lesser friends of s stand already, told the friends -/
def gn (w : List Nat) (s : Nat) : Nat := ((fl ps s).filter fun o => w.contains o && decide (o < s)).length
theorem gn_congr {w v : List Nat} (h : ∀ x, x ∈ w ↔ x ∈ v) (s : Nat) : gn ps w s = gn ps v s := by
  unfold gn
  congr 1
  refine List.filter_congr fun c _ => ?_
  have : w.contains c = v.contains c := by rw [Bool.eq_iff_iff, List.contains_iff_mem, List.contains_iff_mem]; exact h c
  rw [this]
variable {ps n} in
theorem gn_cnt (g : Good n ps) {w : List Nat} (hw : w.Nodup) (hl : ∀ x ∈ w, x ∈ lets n) {s : Nat} (hs : s ∈ lets n) : gn ps w s = cnt ps w s := by
  unfold gn cnt
  have n7 : n ≤ 7 := Nat.le_trans g.n5 (by decide)
  refine len_of_mem ((fl_nodup g s).filter _) (hw.filter _) fun x => ?_
  rw [List.mem_filter, List.mem_filter, mem_fl g, Bool.and_eq_true, Bool.and_eq_true, List.contains_iff_mem, decide_eq_true_iff]
  constructor
  · rintro ⟨⟨h1, h2, h3⟩, h4, h5⟩
    exact ⟨h4, h5, h3⟩
  · rintro ⟨h4, h5, h3⟩
    exact ⟨⟨((mem_lets n7).mp hs).1, ((mem_lets n7).mp (hl x h4)).1, h3⟩, h4, h5⟩
/-- how many more friends will rise at best play -/
def val : Nat → List Nat → Int → Int
  | 0, _, _ => 0
  | k + 1, w, t => if rst n w = [] then 0 else best t ((rst n w).map fun s => (gn ps w s : Int) + val k (w ++ [s]) (1 - t))
def Vp (w : List Nat) (t : Int) : Int := val ps n (rst n w).length w t
theorem val_congr : ∀ (k : Nat) {w v : List Nat} (t : Int), (∀ x, x ∈ w ↔ x ∈ v) → val ps n k w t = val ps n k v t
  | 0, _, _, _, _ => rfl
  | k + 1, w, v, t, h => by
    unfold val
    rw [rst_congr n h]
    have e : ((rst n v).map fun s => (gn ps w s : Int) + val ps n k (w ++ [s]) (1 - t)) = (rst n v).map fun s => (gn ps v s : Int) + val ps n k (v ++ [s]) (1 - t) := by
      refine List.map_congr_left fun s _ => ?_
      rw [gn_congr ps h, val_congr k (1 - t) (w := w ++ [s]) (v := v ++ [s]) fun x => by rw [List.mem_append, List.mem_append, h]]
    rw [e]
theorem Vp_congr {w v : List Nat} (h : ∀ x, x ∈ w ↔ x ∈ v) (t : Int) : Vp ps n w t = Vp ps n v t := by
  unfold Vp; rw [rst_congr n h]; exact val_congr ps n _ t h
def worths (w : List Nat) (t : Int) : List Int := (rst n w).map fun s => (gn ps w s : Int) + Vp ps n (w ++ [s]) (1 - t)
theorem Vp_eq (w : List Nat) (t : Int) : Vp ps n w t = if rst n w = [] then 0 else best t (worths ps n w t) := by
  unfold Vp worths
  cases h : (rst n w).length with
  | zero =>
    have e : rst n w = [] := List.length_eq_zero_iff.mp h
    rw [if_pos e]; rfl
  | succ k =>
    have e : rst n w ≠ [] := fun e => by rw [e] at h; cases h
    unfold val
    rw [if_neg e, if_neg e]
    congr 1
    refine List.map_congr_left fun s hs => ?_
    unfold Vp
    have := rst_len n hs
    have e2 : (rst n (w ++ [s])).length = k := by omega
    rw [e2]
/-- the law's own: by all plays -/
def lval : Nat → List Nat → Int → Int
  | 0, w, _ => rise ps w
  | k + 1, w, t => if rst n w = [] then rise ps w else best t ((rst n w).map fun s => lval k (w ++ [s]) (1 - t))
def LV (w : List Nat) (t : Int) : Int := lval ps n (rst n w).length w t
theorem LV_eq (w : List Nat) (t : Int) : LV ps n w t = if rst n w = [] then (rise ps w : Int) else best t ((rst n w).map fun s => LV ps n (w ++ [s]) (1 - t)) := by
  unfold LV
  cases h : (rst n w).length with
  | zero =>
    have e : rst n w = [] := List.length_eq_zero_iff.mp h
    rw [if_pos e]; rfl
  | succ k =>
    have e : rst n w ≠ [] := fun e => by rw [e] at h; cases h
    show (if rst n w = [] then (rise ps w : Int) else best t ((rst n w).map fun s => lval ps n k (w ++ [s]) (1 - t))) = _
    rw [if_neg e, if_neg e]
    congr 1
    refine List.map_congr_left fun s hs => ?_
    have := rst_len n hs
    have e2 : (rst n (w ++ [s])).length = k := by omega
    rw [e2]
variable {ps n} in
theorem snoc_ok {w : List Nat} (hw : w.Nodup) (hl : ∀ x ∈ w, x ∈ lets n) {s : Nat} (hs : s ∈ rst n w) : (w ++ [s]).Nodup ∧ ∀ x ∈ w ++ [s], x ∈ lets n := by
  have h := (mem_rst n).mp hs
  refine ⟨List.nodup_append.mpr ⟨hw, by simp, fun a ha b hb => ?_⟩, fun x hx => ?_⟩
  · rw [List.mem_singleton.mp hb]; exact fun e => h.2 (e ▸ ha)
  · rcases List.mem_append.mp hx with q | q
    · exact hl x q
    · rw [List.mem_singleton.mp q]; exact h.1
variable {ps n} in
theorem lval_val (g : Good n ps) : ∀ (k : Nat) {w : List Nat} (t : Int), w.Nodup → (∀ x ∈ w, x ∈ lets n) → (rst n w).length = k → lval ps n k w t = rise ps w + val ps n k w t
  | 0, w, t, hw, hl, hk => by
    show (rise ps w : Int) = rise ps w + 0
    omega
  | k + 1, w, t, hw, hl, hk => by
    have e : rst n w ≠ [] := fun e => by rw [e] at hk; cases hk
    unfold lval val
    rw [if_neg e, if_neg e]
    have hne : ((rst n w).map fun s => (gn ps w s : Int) + val ps n k (w ++ [s]) (1 - t)) ≠ [] := by simpa using e
    rw [← best_add hne, List.map_map]
    congr 1
    refine List.map_congr_left fun s hs => ?_
    have ok := snoc_ok hw hl hs
    have := rst_len n hs
    have ih := lval_val g k (1 - t) ok.1 ok.2 (by omega)
    show lval ps n k (w ++ [s]) (1 - t) = (rise ps w : Int) + ((gn ps w s : Int) + val ps n k (w ++ [s]) (1 - t))
    rw [ih, rise_snoc, gn_cnt g hw hl ((mem_rst n).mp hs).1]
    omega
variable {ps n} in
/-- THE LAW OF VALUES -/
theorem LV_Vp (g : Good n ps) {w : List Nat} (hw : w.Nodup) (hl : ∀ x ∈ w, x ∈ lets n) (t : Int) : LV ps n w t = rise ps w + Vp ps n w t := lval_val g _ t hw hl rfl
variable {ps n} in
theorem LV_snoc (g : Good n ps) {w : List Nat} (hw : w.Nodup) (hl : ∀ x ∈ w, x ∈ lets n) (t : Int) {s : Nat} (hs : s ∈ rst n w) : LV ps n (w ++ [s]) t = rise ps w + ((gn ps w s : Int) + Vp ps n (w ++ [s]) t) := by
  have ok := snoc_ok hw hl hs
  rw [LV_Vp g ok.1 ok.2, rise_snoc, gn_cnt g hw hl ((mem_rst n).mp hs).1]
  omega
/-- the letters that are no worse than any -/
def goods (w : List Nat) (t : Int) : List Nat := (rst n w).filter fun s => decide ((gn ps w s : Int) + Vp ps n (w ++ [s]) (1 - t) = Vp ps n w t)
variable {ps n} in
theorem goods_law (g : Good n ps) {w : List Nat} (hw : w.Nodup) (hl : ∀ x ∈ w, x ∈ lets n) (t : Int) : ((rst n w).filter fun s => decide (LV ps n (w ++ [s]) (1 - t) = LV ps n w t)) = goods ps n w t := by
  unfold goods
  refine List.filter_congr fun s hs => ?_
  rw [LV_snoc g hw hl (1 - t) hs, LV_Vp g hw hl]
  congr 1
  rw [eq_iff_iff]
  omega
theorem goods_ne {w : List Nat} (t : Int) (h : rst n w ≠ []) : goods ps n w t ≠ [] := by
  have hne : worths ps n w t ≠ [] := by unfold worths; simpa using h
  have hm := best_mem (t := t) hne
  unfold worths at hm
  obtain ⟨s, hs, e⟩ := List.mem_map.mp hm
  have : s ∈ goods ps n w t := by
    unfold goods
    refine List.mem_filter.mpr ⟨hs, ?_⟩
    rw [Vp_eq ps n w t, if_neg h, decide_eq_true_iff]
    exact e
  exact fun e => by rw [e] at this; cases this
/-- the letter that is put: the first good one (0 if all stand) -/
def put (w : List Nat) (t : Int) : Nat := (goods ps n w t).headD 0
theorem put_mem {w : List Nat} (t : Int) (h : rst n w ≠ []) : put ps n w t ∈ rst n w := by
  have hne := goods_ne ps n t h
  unfold put
  cases e : goods ps n w t with
  | nil => exact absurd e hne
  | cons x r =>
    have : x ∈ goods ps n w t := by rw [e]; exact List.mem_cons_self
    exact (List.mem_filter.mp this).1
/-- where the first good one stands -/
theorem put_at {w : List Nat} (t : Int) (h : rst n w ≠ []) {j : Nat} (h1 : (worths ps n w t)[j]? = some (Vp ps n w t)) (h2 : ∀ i, i < j → (worths ps n w t)[i]? ≠ some (Vp ps n w t)) : (rst n w)[j]? = some (put ps n w t) := by
  unfold put goods worths at *
  generalize Vp ps n w t = m at *
  generalize hf : (fun s => (gn ps w s : Int) + Vp ps n (w ++ [s]) (1 - t)) = f at *
  have hf' : ∀ s, (gn ps w s : Int) + Vp ps n (w ++ [s]) (1 - t) = f s := fun s => by rw [← hf]
  simp only [hf']
  generalize rst n w = l at *
  clear hf hf' h
  induction l generalizing j with
  | nil => simp at h1
  | cons x r ih =>
    rw [List.filter_cons]
    cases j with
    | zero =>
      have e : f x = m := by simpa using h1
      rw [if_pos (by simpa using e)]; rfl
    | succ j =>
      have e : f x ≠ m := fun e => h2 0 (Nat.succ_pos _) (by simp [e])
      rw [if_neg (by simpa using e)]
      rw [List.getElem?_cons_succ]
      exact ih (by simpa using h1) fun i hi => by
        have := h2 (i + 1) (by omega)
        simpa using this
/-- best play -/
def play : Nat → List Nat → Int → List Nat
  | 0, _, _ => []
  | k + 1, w, t => if rst n w = [] then [] else put ps n w t :: play k (w ++ [put ps n w t]) (1 - t)
theorem put_congr {w v : List Nat} (h : ∀ x, x ∈ w ↔ x ∈ v) (t : Int) : put ps n w t = put ps n v t := by
  unfold put goods
  rw [rst_congr n h, Vp_congr ps n h]
  congr 1
  refine List.filter_congr fun s _ => ?_
  rw [gn_congr ps h, Vp_congr ps n (w := w ++ [s]) (v := v ++ [s]) fun x => by rw [List.mem_append, List.mem_append, h]]
end

/-! ### all orders -/
def ords (ls : List Nat) : Nat → List (List Nat)
  | 0 => [[]]
  | k + 1 => (ords ls k).flatMap fun r => (ls.filter fun c => !r.contains c).map fun c => r ++ [c]
theorem mem_ords {ls : List Nat} : ∀ {k : Nat} {o : List Nat}, o ∈ ords ls k ↔ o.length = k ∧ o.Nodup ∧ ∀ c ∈ o, c ∈ ls
  | 0, o => by
    show o ∈ [[]] ↔ _
    rw [List.mem_singleton]
    constructor
    · rintro rfl; exact ⟨rfl, List.nodup_nil, fun c hc => by cases hc⟩
    · rintro ⟨h, _⟩; exact List.length_eq_zero_iff.mp h
  | k + 1, o => by
    show o ∈ (ords ls k).flatMap _ ↔ _
    rw [List.mem_flatMap]
    constructor
    · rintro ⟨r, hr, ho⟩
      obtain ⟨c, hc, rfl⟩ := List.mem_map.mp ho
      have hc' := List.mem_filter.mp hc
      obtain ⟨h1, h2, h3⟩ := (mem_ords (k := k)).mp hr
      have hcr : c ∉ r := by simpa using hc'.2
      refine ⟨by simp [h1], List.nodup_append.mpr ⟨h2, by simp, fun a ha b hb => ?_⟩, fun x hx => ?_⟩
      · rw [List.mem_singleton.mp hb]; exact fun e => hcr (e ▸ ha)
      · rcases List.mem_append.mp hx with q | q
        · exact h3 x q
        · rw [List.mem_singleton.mp q]; exact hc'.1
    · rintro ⟨h1, h2, h3⟩
      have hne : o ≠ [] := fun e => by rw [e] at h1; cases h1
      have e := List.dropLast_concat_getLast hne
      generalize o.getLast hne = c at e
      generalize o.dropLast = r at e
      subst e
      have hn := List.nodup_append.mp h2
      refine ⟨r, (mem_ords (k := k)).mpr ⟨by simpa using h1, hn.1, fun x hx => h3 x (List.mem_append_left _ hx)⟩, List.mem_map.mpr ⟨c, List.mem_filter.mpr ⟨h3 c (by simp), ?_⟩, rfl⟩⟩
      have : c ∉ r := fun hm => hn.2.2 c hm c (by simp) rfl
      simpa using this
theorem len_ords {ls : List Nat} : ∀ k : Nat, (ords ls k).length ≤ ls.length ^ k
  | 0 => Nat.le_refl _
  | k + 1 => by
    have ih := len_ords (ls := ls) k
    show ((ords ls k).flatMap _).length ≤ _
    rw [Nat.pow_succ]
    refine Nat.le_trans ?_ (Nat.mul_le_mul_right _ ih)
    generalize ords ls k = l
    clear ih
    induction l with
    | nil => exact Nat.zero_le _
    | cons r t ih =>
      rw [List.flatMap_cons, List.length_append, List.length_cons, Nat.add_mul, Nat.one_mul, Nat.add_comm]
      refine Nat.add_le_add ih ?_
      rw [List.length_map]
      exact List.length_filter_le _ _
theorem ords_perm {ls o : List Nat} (hl : ls.Nodup) (h : o ∈ ords ls ls.length) : o.Perm ls := by
  obtain ⟨h1, h2, h3⟩ := mem_ords.mp h
  have e : (ls.filter fun c => decide (c ∈ o)).Perm o := perm_of_mem (hl.filter _) h2 fun x => by
    rw [List.mem_filter, decide_eq_true_iff]
    exact ⟨fun q => q.2, fun q => ⟨h3 x q, q⟩⟩
  have e2 : (ls.filter fun c => decide (c ∈ o)).length = ls.length := by rw [e.length_eq, h1]
  have e3 : ls.filter (fun c => decide (c ∈ o)) = ls := List.filter_eq_self.mpr (List.length_filter_eq_length_iff.mp e2)
  rw [e3] at e
  exact e.symm
theorem perm_ords {ls o : List Nat} (hl : ls.Nodup) (h : o.Perm ls) : o ∈ ords ls ls.length :=
  mem_ords.mpr ⟨h.length_eq, h.nodup_iff.mpr hl, fun c hc => h.mem_iff.mp hc⟩
section
variable {ps : List (Nat × Nat)} {n : Nat}
theorem app_nodup {k r : List Nat} (hk : k.Nodup) (hr : r.Nodup) (h : ∀ c ∈ r, c ∉ k) : (k ++ r).Nodup :=
  List.nodup_append.mpr ⟨hk, hr, fun a ha b hb e => h b hb (e ▸ ha)⟩
/-- the greatest number of rising friends -/
theorem most_law {k : List Nat} (hk : k.Nodup) : mx (((ords (rst n k) (rst n k).length).map fun o => (rise ps (k ++ o) : Int))) = rise ps (canon ps (k ++ rst n k)) := by
  have hn : (k ++ rst n k).Nodup := app_nodup hk (rst_nodup n k) fun c hc => ((mem_rst n).mp hc).2
  rw [rise_canon ps hn]
  refine (mx_uniq ?_ fun y hy => ?_).symm
  · exact List.mem_map.mpr ⟨_, perm_ords (rst_nodup n k) (.refl _), rfl⟩
  · obtain ⟨o, ho, rfl⟩ := List.mem_map.mp hy
    have := rise_most ps hn (rst_up n k) (ords_perm (rst_nodup n k) ho)
    omega
/-- the least number of rising friends -/
theorem fewest_law {k : List Nat} (hk : k.Nodup) : mn (((ords (rst n k) (rst n k).length).map fun o => (rise ps (k ++ o) : Int))) = rise ps (canon ps (k ++ (rst n k).reverse)) := by
  have hr : (rst n k).reverse.Nodup := (List.reverse_perm _).nodup_iff.mpr (rst_nodup n k)
  have hn : (k ++ (rst n k).reverse).Nodup := app_nodup hk hr fun c hc => ((mem_rst n).mp (List.mem_reverse.mp hc)).2
  rw [rise_canon ps hn]
  refine (mn_uniq ?_ fun y hy => ?_).symm
  · exact List.mem_map.mpr ⟨_, perm_ords (rst_nodup n k) (List.reverse_perm _), rfl⟩
  · obtain ⟨o, ho, rfl⟩ := List.mem_map.mp hy
    have := rise_fewest ps hn (List.pairwise_reverse.mpr (rst_up n k)) ((ords_perm (rst_nodup n k) ho).trans (List.reverse_perm _).symm)
    omega
end
end K5
end
section
namespace K5
open PySem PySem.Spec PyProof.Rows L2
/-! ### texts as lists of codes -/
def T (l : List Nat) : Str := ⟨l.toArray⟩
theorem T_list (l : List Nat) : (T l).cps.toList = l := rfl
theorem T_len (l : List Nat) : (T l).length = l.length := by show l.toArray.size = l.length; simp
theorem T_app (a b : List Nat) : T a ++ T b = T (a ++ b) := by
  show Str.append (T a) (T b) = T (a ++ b)
  simp [Str.append, T]
theorem T_inj {a b : List Nat} (h : T a = T b) : a = b := by
  have := congrArg (fun z : Str => z.cps.toList) h
  exact this
theorem T_of (z : Str) : z = T z.cps.toList := by cases z; rfl
theorem lit_alph : Str.ofString "abcdefg" = T alph := by decide +kernel
theorem lit_empty : Str.ofString "" = T [] := by decide +kernel
theorem ones_lt (a b : Nat) : decide ((T [a]).cps.toList < (T [b]).cps.toList) = decide (a < b) := by
  show decide ([a] < [b]) = decide (a < b)
  rw [decide_eq_decide]
  constructor
  · intro h
    rcases List.cons_lt_cons_iff.mp h with q | q
    · exact q
    · exact absurd q.2 (by simp)
  · intro h
    exact List.cons_lt_cons_iff.mpr (.inl h)
theorem nat_lt2 {c n : Nat} (h : c = n + 1 ∨ c = n) : c < n + 1 + 1 := by omega
theorem nat_lt1 {c l n : Nat} (h : c = n ∨ c = l) (hl : l < n) : c < n + 1 := by omega
theorem nat_no {c n : Nat} (h : c = n) (h2 : c < n) : False := by omega
theorem nat_no1 {c n : Nat} (h : c = n + 1) (h2 : c < n) : False := by omega
section
variable {prog : Program} {w : World} {A : Around} {E : Value → Shared → Prop} {s : Shared}
theorem ones_lt_run {P : Nat → Value → Prop} (num : Nat → Nat) (hv : ∀ i v, P i v → ∃ t, v = .str (T [num i]) t) : CmpOf prog w A .Lt P (fun i j => decide ((num i : Int) < (num j : Int))) := by
  intro i j vi vj s Q E hi hj hQ
  obtain ⟨t, rfl⟩ := hv i vi hi
  obtain ⟨u, rfl⟩ := hv j vj hj
  have h : wpAny (model prog w) A (compareOp .Lt (.str (T [num i]) t) (.str (T [num j]) u)) Q E s := PyProof.Rows.lt_str (by
    rw [ones_lt]
    have e : decide (num i < num j) = decide ((num i : Int) < (num j : Int)) := by rw [decide_eq_decide]; omega
    rw [e]; exact hQ)
  exact h
theorem ones_gt_run {P : Nat → Value → Prop} (num : Nat → Nat) (hv : ∀ i v, P i v → ∃ t, v = .str (T [num i]) t) : CmpOf prog w A .Gt P (fun i j => decide ((num i : Int) > (num j : Int))) := by
  intro i j vi vj s Q E hi hj hQ
  obtain ⟨t, rfl⟩ := hv i vi hi
  obtain ⟨u, rfl⟩ := hv j vj hj
  have h : wpAny (model prog w) A (compareOp .Gt (.str (T [num i]) t) (.str (T [num j]) u)) Q E s := PySem.P.gt_str (by
    rw [ones_lt]
    have e : decide (num j < num i) = decide ((num i : Int) > (num j : Int)) := by rw [decide_eq_decide]; omega
    rw [e]; exact hQ)
  exact h
/-- the two of min(a, b), max(a, b) -/
theorem min_ones2 {a b : Nat} {t u : Tok} {Q : Value → Shared → Prop} (hh : A.handled = none)
    (h : ∀ v h' tk, (∃ t, v = Value.str (T [min a b]) t) → (∀ c o, s.heap.get? c = some o → h'.get? c = some o) → Q v { s with heap := h', toks := tk }) :
    wpAny (model prog w) A (call (.builtin "min") [.str (T [a]) t, .str (T [b]) u]) Q E s := by
  have sz : (s.heap.push { cls := .type "tuple", data := .seq #[.str (T [a]) t, .str (T [b]) u] }).objs.size = s.heap.objs.size + 1 := Heap.size_push ..
  have tup : (s.heap.push { cls := .type "tuple", data := .seq #[.str (T [a]) t, .str (T [b]) u] }).IsTuple s.heap.objs.size #[.str (T [a]) t, .str (T [b]) u] := ⟨_, Heap.get?_push_size _ rfl, rfl, 0, rfl⟩
  have items : ∀ (i : Nat) (v : Value), (#[Value.str (T [a]) t, .str (T [b]) u] : Array Value)[i]? = some v → ∃ t, v = .str (T [(if i = 0 then a else b)]) t := by
    intro i v hv
    match i, hv with
    | 0, hv => exact ⟨t, (Option.some.inj hv).symm⟩
    | 1, hv => exact ⟨u, (Option.some.inj hv).symm⟩
    | i + 2, hv => simp at hv
  refine call_min_two (wpAny_pyIter_tuple tup ?_)
  refine ⟨_, [_, s.heap.objs.size], [_], _, _, _, _, rfl, Walks.tuple (A := A.in1) hh _ s.heap.objs.size (by rw [sz]; exact Nat.ne_of_lt (Nat.lt_succ_self _)) _, ⟨⟨_, Heap.get?_push_size _ rfl, rfl, rfl⟩, tup.push _⟩,
    fun c hc => ?_, Nat.succ_pos 1, ones_lt_run (fun i => if i = 0 then a else b) items, fun v h' tk hP hk => ?_⟩
  · show c < ((s.heap.push _).push _).objs.size
    rw [Heap.size_push, sz]
    have hc' : c = (s.heap.push { cls := .type "tuple", data := .seq #[.str (T [a]) t, .str (T [b]) u] }).objs.size ∨ c = s.heap.objs.size := by simpa using hc
    rw [sz] at hc'
    exact nat_lt2 hc'
  · refine h v h' tk ?_ fun c o e => hk c o (fun hm => ?_) (Heap.get?_push_of_some _ (Heap.get?_push_of_some _ e))
    · obtain ⟨t', e⟩ := items _ v hP
      refine ⟨t', ?_⟩
      rw [e]
      by_cases hab : b < a
      · have e1 : argBest (fun i j => decide (((if i = 0 then a else b : Nat) : Int) < ((if j = 0 then a else b : Nat) : Int))) (2 - 1) = 1 := by
          simp only [argBest]; rw [if_pos]; simpa using hab
        show Value.str (T [if argBest _ (2 - 1) = 0 then a else b]) t' = _
        rw [e1, Nat.min_eq_right (Nat.le_of_lt hab)]; rfl
      · have e1 : argBest (fun i j => decide (((if i = 0 then a else b : Nat) : Int) < ((if j = 0 then a else b : Nat) : Int))) (2 - 1) = 0 := by
          simp only [argBest]; rw [if_neg]; simpa using hab
        show Value.str (T [if argBest _ (2 - 1) = 0 then a else b]) t' = _
        rw [e1, Nat.min_eq_left (Nat.le_of_not_lt hab)]; rfl
    · have q : (c : Nat) = (s.heap.push { cls := .type "tuple", data := .seq #[.str (T [a]) t, .str (T [b]) u] }).objs.size := List.mem_singleton.mp hm
      rw [sz] at q
      exact nat_no1 q (Heap.lt_size e)
theorem max_ones2 {a b : Nat} {t u : Tok} {Q : Value → Shared → Prop} (hh : A.handled = none)
    (h : ∀ v h' tk, (∃ t, v = Value.str (T [max a b]) t) → (∀ c o, s.heap.get? c = some o → h'.get? c = some o) → Q v { s with heap := h', toks := tk }) :
    wpAny (model prog w) A (call (.builtin "max") [.str (T [a]) t, .str (T [b]) u]) Q E s := by
  have sz : (s.heap.push { cls := .type "tuple", data := .seq #[.str (T [a]) t, .str (T [b]) u] }).objs.size = s.heap.objs.size + 1 := Heap.size_push ..
  have tup : (s.heap.push { cls := .type "tuple", data := .seq #[.str (T [a]) t, .str (T [b]) u] }).IsTuple s.heap.objs.size #[.str (T [a]) t, .str (T [b]) u] := ⟨_, Heap.get?_push_size _ rfl, rfl, 0, rfl⟩
  have items : ∀ (i : Nat) (v : Value), (#[Value.str (T [a]) t, .str (T [b]) u] : Array Value)[i]? = some v → ∃ t, v = .str (T [(if i = 0 then a else b)]) t := by
    intro i v hv
    match i, hv with
    | 0, hv => exact ⟨t, (Option.some.inj hv).symm⟩
    | 1, hv => exact ⟨u, (Option.some.inj hv).symm⟩
    | i + 2, hv => simp at hv
  refine call_max_two (wpAny_pyIter_tuple tup ?_)
  refine ⟨_, [_, s.heap.objs.size], [_], _, _, _, _, rfl, Walks.tuple (A := A.in1) hh _ s.heap.objs.size (by rw [sz]; exact Nat.ne_of_lt (Nat.lt_succ_self _)) _, ⟨⟨_, Heap.get?_push_size _ rfl, rfl, rfl⟩, tup.push _⟩,
    fun c hc => ?_, Nat.succ_pos 1, ones_gt_run (fun i => if i = 0 then a else b) items, fun v h' tk hP hk => ?_⟩
  · show c < ((s.heap.push _).push _).objs.size
    rw [Heap.size_push, sz]
    have hc' : c = (s.heap.push { cls := .type "tuple", data := .seq #[.str (T [a]) t, .str (T [b]) u] }).objs.size ∨ c = s.heap.objs.size := by simpa using hc
    rw [sz] at hc'
    exact nat_lt2 hc'
  · refine h v h' tk ?_ fun c o e => hk c o (fun hm => ?_) (Heap.get?_push_of_some _ (Heap.get?_push_of_some _ e))
    · obtain ⟨t', e⟩ := items _ v hP
      refine ⟨t', ?_⟩
      rw [e]
      by_cases hab : a < b
      · have e1 : argBest (fun i j => decide (((if i = 0 then a else b : Nat) : Int) > ((if j = 0 then a else b : Nat) : Int))) (2 - 1) = 1 := by
          simp only [argBest]; rw [if_pos]; simpa using hab
        show Value.str (T [if argBest _ (2 - 1) = 0 then a else b]) t' = _
        rw [e1, Nat.max_eq_right (Nat.le_of_lt hab)]; rfl
      · have e1 : argBest (fun i j => decide (((if i = 0 then a else b : Nat) : Int) > ((if j = 0 then a else b : Nat) : Int))) (2 - 1) = 0 := by
          simp only [argBest]; rw [if_neg]; simpa using hab
        show Value.str (T [if argBest _ (2 - 1) = 0 then a else b]) t' = _
        rw [e1, Nat.max_eq_left (Nat.le_of_not_lt hab)]; rfl
    · have q : (c : Nat) = (s.heap.push { cls := .type "tuple", data := .seq #[.str (T [a]) t, .str (T [b]) u] }).objs.size := List.mem_singleton.mp hm
      rw [sz] at q
      exact nat_no1 q (Heap.lt_size e)
/-- a list of texts of one sign each -/
def Ones (its : List Value) (cs : List Nat) : Prop := Paired (fun v c => ∃ t, v = Value.str (T [c]) t) its cs
theorem Ones.get : ∀ {its : List Value} {cs : List Nat} {i : Nat} {v : Value}, Ones its cs → its[i]? = some v → ∃ t, v = .str (T [cs.getD i 0]) t ∧ i < cs.length
  | _, _, _, _, .nil, e => by simp at e
  | _, _, 0, _, .cons h _, e => by
    obtain ⟨t, h⟩ := h
    have e := Option.some.inj e
    subst e
    exact ⟨t, h, by simp⟩
  | _, _, i + 1, _, .cons _ r, e => by
    obtain ⟨t, h, hl⟩ := Ones.get (i := i) r (by simpa using e)
    exact ⟨t, by simpa using h, by simpa using hl⟩
theorem Ones.length {its : List Value} {cs : List Nat} (h : Ones its cs) : its.length = cs.length := Paired.length h
theorem getD_in {cs : List Nat} {i : Nat} (h : i < cs.length) : cs.getD i 0 ∈ cs := by
  rw [List.getD_eq_getElem?_getD, List.getElem?_eq_getElem h]; exact List.getElem_mem h
/-- min of such a list: the item itself -/
theorem min_ones {l : Addr} {its : List Value} {cs : List Nat} {Q : Value → Shared → Prop} (hh : A.handled = none) (hl : s.heap.IsList l its.toArray) (ho : Ones its cs) (hne : cs ≠ [])
    (h : ∀ v h' tk c, v ∈ its → (∃ t, v = Value.str (T [c]) t) → IsLeast c cs → (∀ c o, s.heap.get? c = some o → h'.get? c = some o) → s.toks ≤ tk → Q v { s with heap := h', toks := tk }) :
    wpAny (model prog w) A (call (.builtin "min") [.ref l]) Q E s := by
  have hlen := ho.length
  have hpos : 0 < cs.length := List.length_pos_iff.mpr hne
  refine wpAny_with_toks (n := s.toks) (Nat.le_refl _) (call_min_walk (iter_any hl fun s₂ e2 st hn => ?_))
  subst e2
  refine ⟨_, _, _, _, _, _, _, rfl, Walks.list (A := A.in1) hh _ l hn its.toArray, st, fun b hb => ?_, by simpa [hlen] using hpos,
    ones_lt_run (fun i => cs.getD i 0) (fun i v hv => let ⟨t, e, _⟩ := ho.get (i := i) (by simpa using hv); ⟨t, e⟩), fun v h' tk hP hk htk => ?_⟩
  · show b < (s.heap.push _).objs.size
    have hb' : b = s.heap.objs.size ∨ b = l := by simpa using hb
    rw [Heap.size_push]
    obtain ⟨o, e, _⟩ := hl
    exact nat_lt1 hb' (Heap.lt_size e)
  · have hP : its[argBest (fun i j => decide (((cs.getD i 0 : Nat) : Int) < ((cs.getD j 0 : Nat) : Int))) (its.toArray.size - 1)]? = some v := by simpa using hP
    obtain ⟨g1, g2⟩ := argBest_lt (fun i => ((cs.getD i 0 : Nat) : Int)) (its.toArray.size - 1)
    generalize argBest (fun i j => decide (((cs.getD i 0 : Nat) : Int) < ((cs.getD j 0 : Nat) : Int))) (its.toArray.size - 1) = k at hP g1 g2
    obtain ⟨t, e, hk2⟩ := ho.get hP
    refine h v h' tk (cs.getD k 0) (List.mem_of_getElem? hP) ⟨t, e⟩ ⟨getD_in hk2, fun x hx => ?_⟩ (fun c o e3 => hk c o (fun hm => ?_) (Heap.get?_push_of_some _ e3)) htk
    · obtain ⟨j, hj, ej⟩ := List.mem_iff_getElem.mp hx
      have hjl : j ≤ its.toArray.size - 1 := by rw [List.size_toArray]; omega
      have := g2 j hjl
      have e4 : cs.getD j 0 = x := by rw [List.getD_eq_getElem?_getD, List.getElem?_eq_getElem hj]; exact ej
      rw [e4] at this
      omega
    · have q : (c : Nat) = s.heap.objs.size := List.mem_singleton.mp hm
      exact nat_no q (Heap.lt_size e3)
end
end K5
end
section
namespace K5
open PySem PySem.Spec PyProof.Rows L2
/-- texts of one sign, their tokens from lo on and below hi -/
def TOnes (lo hi : Nat) (its : List Value) (cs : List Nat) : Prop := Paired (fun v c => ∃ t : Tok, v = Value.str (T [c]) t ∧ lo ≤ t ∧ t < hi) its cs
theorem TOnes.ones {lo hi : Nat} : ∀ {its : List Value} {cs : List Nat}, TOnes lo hi its cs → Ones its cs
  | _, _, .nil => .nil
  | _, _, .cons ⟨t, h, _⟩ r => .cons ⟨t, h⟩ (TOnes.ones r)
theorem TOnes.grow {lo hi hi' : Nat} (hh : hi ≤ hi') : ∀ {its : List Value} {cs : List Nat}, TOnes lo hi its cs → TOnes lo hi' its cs
  | _, _, .nil => .nil
  | _, _, .cons ⟨t, h, h1, h2⟩ r => .cons ⟨t, h, h1, Nat.lt_of_lt_of_le h2 hh⟩ (TOnes.grow hh r)
theorem TOnes.snoc {lo hi : Nat} {v : Value} {c : Nat} {t : Tok} (hv : v = Value.str (T [c]) t) (h1 : lo ≤ t) (h2 : t < hi) : ∀ {its : List Value} {cs : List Nat}, TOnes lo hi its cs → TOnes lo hi (its ++ [v]) (cs ++ [c])
  | _, _, .nil => .cons ⟨t, hv, h1, h2⟩ .nil
  | _, _, .cons h r => .cons h (TOnes.snoc hv h1 h2 r)
theorem TOnes.mem {lo hi : Nat} : ∀ {its : List Value} {cs : List Nat} {v : Value}, TOnes lo hi its cs → v ∈ its → ∃ c, ∃ t : Tok, v = Value.str (T [c]) t ∧ lo ≤ t ∧ t < hi
  | _, _, _, .nil, h => by cases h
  | _, _, _, .cons (b := c) hd r, h => by
    rcases List.mem_cons.mp h with e | e
    · subst e; exact ⟨c, hd⟩
    · exact TOnes.mem r e
theorem Ones.strs : ∀ {its : List Value} {cs : List Nat}, Ones its cs → StrsAre its (cs.map fun c => T [c])
  | _, _, .nil => .nil
  | _, _, .cons ⟨t, h⟩ r => by subst h; exact .cons _ _ (Ones.strs r)
section
variable {prog : Program} {w : World} {A : Around} {E : Value → Shared → Prop} {s : Shared}
theorem nat_ne_succ {n : Nat} : n ≠ n + 1 := by omega
/-- the loop that fills a list with a text's signs -/
theorem fill_T {R : Result → Shared → Prop} (hh : A.in1.handled = none) (S I : Addr) (hSI : S ≠ I) (l : List Nat) (t : Tok) (lo : Nat) (res : Value) (hn : l.length ≤ sizeLine) :
    ∀ (k i : Nat) (s : Shared) (acc : List Value) (c : Nat), l.length - i = k → i ≤ l.length → s.heap.IsStrIter I "str_ascii_iterator" (T l) t i → s.heap.get? S = some { cls := .type "list", data := .seq acc.toArray c } →
      lo ≤ s.toks → TOnes lo s.toks acc (l.take i) →
      (∀ (s' : Shared) acc' c', (∃ h' tk, s' = { s with heap := h', toks := tk }) → (∀ b o, b ≠ S → b ≠ I → s.heap.get? b = some o → s'.heap.get? b = some o) → s'.heap.get? S = some { cls := .type "list", data := .seq (List.toArray acc') c' } → s.toks ≤ s'.toks →
        TOnes lo s'.toks acc' l → R (.ok (.ret res)) s') →
      codeAny (model prog w) A (.builtin "list.extend.loop" ⟨[.ref S, .ref I, res], []⟩) R s := by
  intro k
  induction k with
  | zero =>
    intro i s acc c hk hi hit hS hlo hacc hR
    have e : i = l.length := by omega
    refine codeAny_builtin F.entry_extend_loop ?_
    rw [Around.under_plainId F.plain_extend_loop _]
    have hx : (T l).cps[i]? = none := by show l.toArray[i]? = none; simp [e]
    show wpAny _ A.in1 (pyNext (.ref I) >>= _) _ _ s
    refine wpAny_bind (wpAny_pyNext_ascii_end hh hit hx fun h' eb => ?_)
    rw [e, List.take_length] at hacc
    exact wpAny_pure (hR _ acc c ⟨h', s.toks, rfl⟩ (fun b o _ hb q => eb b o hb q) (eb S _ hSI hS) (Nat.le_refl _) hacc)
  | succ k ih =>
    intro i s acc c hk hi hit hS hlo hacc hR
    have hlt : i < l.length := by omega
    refine codeAny_builtin F.entry_extend_loop ?_
    rw [Around.under_plainId F.plain_extend_loop _]
    have hx : (T l).cps[i]? = some l[i] := by show l.toArray[i]? = _; simp [hlt]
    show wpAny _ A.in1 (pyNext (.ref I) >>= _) _ _ s
    refine wpAny_bind (wpAny_pyNext_ascii_item hit hx fun h1 hit1 sb => ?_)
    have hS1 : h1.get? S = some { cls := .type "list", data := .seq acc.toArray c } := sb.extBut S _ hSI hS
    have hal := Paired.length hacc
    rw [List.length_take] at hal
    have hsz : acc.toArray.size ≤ sizeLine := by rw [List.size_toArray]; omega
    show wpAny _ A.in1 (updateSeq S (·.push _) >>= _) _ _ _
    refine wpAny_bind (wpAny_updateSeq hS1 rfl (wpAny_pure ⟨plainId_quiet F.plain_extend_loop _, ?_⟩) hsz (by rw [Array.size_push]; omega))
    have up : (h1.update S (Obj.mapSeq fun x => x.push (.str (T [l[i]]) s.toks))).get? S = some _ := Heap.get?_update_self _ hS1 rfl
    refine ih (i + 1) { s with heap := h1.update S (Obj.mapSeq fun x => x.push (.str (T [l[i]]) s.toks)), toks := s.toks + 1 } (acc ++ [.str (T [l[i]]) s.toks]) _ (by omega) hlt ?_ (by rw [up]; simp [Obj.mapSeq]; rfl) (Nat.le_succ_of_le hlo) ?_ fun s' acc' c' hs hkeep hS' htk hacc' => ?_
    · obtain ⟨o, ho, r⟩ := hit1
      exact ⟨o, (Heap.get?_update_other _ _ hSI).trans ho, r⟩
    · have e : l.take (i + 1) = l.take i ++ [l[i]] := by rw [List.take_succ_eq_append_getElem hlt]
      rw [e]
      exact (hacc.grow (Nat.le_succ _)).snoc rfl hlo (Nat.lt_succ_self _)
    · obtain ⟨h', tk, rfl⟩ := hs
      refine hR _ acc' c' ⟨h', tk, rfl⟩ (fun b o h1' h2' q => hkeep b o h1' h2' ?_) hS' (Nat.le_trans (Nat.le_succ _) htk) hacc'
      exact (Heap.get?_update_other _ _ (Ne.symm h1')).trans (sb.extBut b o h2' q)
/-- a text's signs, collected -/
theorem collect_T (hh : A.handled = none) (l : List Nat) (ha : ∀ c ∈ l, c < 128) (t : Tok) {Q : List Value → Shared → Prop} (hn : l.length ≤ sizeLine)
    (hQ : ∀ h' tk (its : List Value), (∀ b o, s.heap.get? b = some o → h'.get? b = some o) → s.toks ≤ tk → TOnes s.toks tk its l → Q its { s with heap := h', toks := tk }) :
    wpAny (model prog w) A (collect (.str (T l) t)) Q E s := by
  have hal : (T l).cps.all (· < 128) = true := by
    show l.toArray.all (· < 128) = true
    rw [List.all_toArray, List.all_eq_true]
    exact fun c hc => decide_eq_true (ha c hc)
  unfold collect
  refine wpAny_bind (wpAny_runValue (codeAny_builtin F.entry_proto_collect ?_))
  rw [Around.under_plainId F.plain_proto_collect _]
  show wpAny _ A.in1 (newList [] >>= fun d => again (.builtin "list.__iadd__" ⟨[d, .str (T l) t], []⟩)) _ _ s
  refine wpAny_bind (wpAny_newObj_type (wpAny_pure ⟨plainId_quiet F.plain_list_iadd _, codeAny_builtin F.entry_list_iadd ?_⟩))
  rw [Around.under_plainId F.plain_list_iadd _]
  show wpAny _ A.in1 (Builtin.List.listExtendWith (.ref s.heap.objs.size) (.str (T l) t) (.ref s.heap.objs.size)) _ _ _
  unfold Builtin.List.listExtendWith
  refine wpAny_bind (wpAny_typeOf (T := "str") (v := .str (T l) t) rfl ?_)
  rw [if_neg (by
    have h1 : Builtin.List.listSameRef (.ref s.heap.objs.size) (.str (T l) t) = false := rfl
    have h2 : (Value.type "str" == Value.type "list") = false := by decide
    have h3 : (Value.type "str" == Value.type "tuple") = false := by decide
    rw [h1, h2, h3]; decide)]
  refine wpAny_bind (wpAny_pyIter_ascii hal ?_)
  refine wpAny_bind (wpAny_holding ?_)
  unfold Builtin.List.listLengthHint
  refine wpAny_bind (wpAny_specialOf (T := "str") (v := .str (T l) t) rfl F.str_len ?_)
  wp_delta
  refine wpAny_bind (wpAny_isInstance (T := "str") (v := .str (T l) t) (b := true) rfl (by rw [isSubtype_type]; kernel_rfl) ?_)
  show wpAny _ A.in1 (typeOf (Value.str (T l) t) >>= _) _ _ _
  refine wpAny_bind (wpAny_typeOf (T := "str") (v := .str (T l) t) rfl (wpAny_pure ?_))
  rw [if_neg (by decide)]
  generalize hH : s.heap.push { cls := .type "list", data := .seq ([] : List Value).toArray } = H
  have hHs : H.objs.size = s.heap.objs.size + 1 := by rw [← hH, Heap.size_push]
  have hne : s.heap.objs.size ≠ H.objs.size := by rw [hHs]; exact nat_ne_succ
  have hS : (H.push { cls := .type "str_ascii_iterator", data := .fields #[.str (T l) t, .int 0 0] }).get? s.heap.objs.size = some { cls := .type "list", data := .seq ([] : List Value).toArray } := Heap.get?_push_of_some _ (hH ▸ Heap.get?_push_size _ rfl)
  refine wpAny_pure ⟨plainId_quiet F.plain_extend_loop _, fill_T (A := A) hh s.heap.objs.size H.objs.size hne l t s.toks _ hn _ 0 _ [] 0 rfl (Nat.zero_le _) ⟨_, Heap.get?_push_size _ rfl, rfl, rfl⟩ hS (Nat.le_refl _) .nil fun s' acc' c' hs hkeep hS' htk hacc => ?_⟩
  obtain ⟨h', tk, rfl⟩ := hs
  show wpAny _ A (load s.heap.objs.size >>= _) _ _ _
  refine wpAny_bind (wpAny_load hS' (wpAny_pure ?_))
  have fin := hQ h' tk acc' (fun b o e => hkeep b o (Nat.ne_of_lt (Heap.lt_size e)) (fun z => nat_no1 (z.trans hHs) (Heap.lt_size e)) (Heap.get?_push_of_some _ (hH ▸ Heap.get?_push_of_some _ e))) htk hacc
  simpa using fin
end
end K5
end
section
namespace K5
open PySem PySem.Spec PyProof.Rows L2
theorem TOnes.perm {lo hi : Nat} {its its' : List Value} (hp : its.Perm its') : ∀ {cs : List Nat}, TOnes lo hi its cs → ∃ m, TOnes lo hi its' m ∧ m.Perm cs := by
  induction hp with
  | nil => intro cs h; cases h; exact ⟨[], .nil, .nil⟩
  | cons x _ ih =>
    intro cs h
    cases h with
    | cons a r =>
      rename_i c cs'
      obtain ⟨m, h1, h2⟩ := ih r
      exact ⟨c :: m, .cons a h1, h2.cons c⟩
  | swap x y l =>
    intro cs h
    cases h with
    | cons a r =>
      cases r with
      | cons b r =>
        exact ⟨_, .cons b (.cons a r), .swap ..⟩
  | trans _ _ ih1 ih2 =>
    intro cs h
    obtain ⟨m, h1, h2⟩ := ih1 h
    obtain ⟨m', h3, h4⟩ := ih2 h1
    exact ⟨m', h3, h4.trans h2⟩
theorem strs_ones : ∀ {its : List Value} {ys : List Str} {cs : List Nat}, StrsAre its ys → Ones its cs → ys = cs.map fun c => T [c]
  | _, _, _, .nil, .nil => rfl
  | _, _, _, .cons _ _ r, .cons ⟨t, h⟩ r' => by
    injection h with h1 h2
    rw [h1, strs_ones r r']; rfl
theorem rising_up : ∀ (a : Nat) (m : List Nat), risingS (T [a]) (m.map fun c => T [c]) = true → (a :: m).Pairwise (· ≤ ·)
  | a, [], _ => by simp
  | a, b :: r, h => by
    have h' : (!ltCps (T [b]).cps.toList (T [a]).cps.toList && risingS (T [b]) (r.map fun c => T [c])) = true := h
    rw [Bool.and_eq_true, ltCps_eq, ones_lt] at h'
    have ih := rising_up b r h'.2
    have hab : a ≤ b := by
      have := h'.1
      rw [Bool.not_eq_true', decide_eq_false_iff_not] at this
      omega
    refine List.pairwise_cons.mpr ⟨fun x hx => ?_, ih⟩
    rcases List.mem_cons.mp hx with e | e
    · omega
    · have := (List.pairwise_cons.mp ih).1 x e
      omega
theorem sorted_up : ∀ (m : List Nat), sortedS (m.map fun c => T [c]) = true → m.Pairwise (· ≤ ·)
  | [], _ => .nil
  | a :: r, h => rising_up a r h
section
variable {prog : Program} {w : World} {A : Around} {E : Value → Shared → Prop} {s : Shared}
/-- sorted(text): a new list, the tokens of its items are young -/
theorem sorted_T (hh : A.handled = none) (l : List Nat) (ha : ∀ c ∈ l, c < 128) (hl : l.length < 64) (t : Tok) {Q : Value → Shared → Prop}
    (hQ : ∀ (h1 : Heap) h' tk (its : List Value) (m : List Nat) c, (∀ b o, s.heap.get? b = some o → h1.get? b = some o) → (∀ b o, h1.get? b = some o → h'.get? b = some o) → s.toks ≤ tk → h'.get? h1.objs.size = some { cls := .type "list", data := .seq its.toArray c } →
      TOnes s.toks tk its m → m.Perm l → m.Pairwise (· ≤ ·) → Q (.ref h1.objs.size) { s with heap := h', toks := tk }) :
    wpAny (model prog w) A (call (.builtin "sorted") [.str (T l) t]) Q E s := by
  refine Calls.call_function_entry PyProof.Rows.kind_sorted PyProof.Rows.plain_sorted PyProof.Rows.entry_sorted (PyProof.Rows.args_sorted1 (.str (T l) t)) ?_
  unfold Builtin.«sorted»
  refine wpAny_bind (m := checkCount "sorted" 1 1 _) (wpAny_pure ?_)
  refine wpAny_bind (collect_T (A := A.in1) hh l ha t (small64 hl) fun h1 tk its keep htk hT => ?_)
  have hlen := Paired.length hT
  have z : its.toArray.size ≤ sizeLine := by rw [List.size_toArray, hlen]; exact small64 hl
  refine wpAny_bind (wpAny_newList ?_ (by rw [hlen]; exact small64 hl))
  have hS := hT.ones.strs
  have hp : (h1.push (seqObj "list" its.toArray 0)).get? h1.objs.size = some (seqObj "list" its.toArray 0) := Heap.get?_push_size _ rfl
  show wpAny _ _ _ _ _ { s with heap := h1.push (seqObj "list" its.toArray 0), toks := tk }
  refine wpAny_bind (wpAny_holding (wpAny_call_entry PyProof.Rows.slot_list_sort ⟨_, hp, rfl⟩ PyProof.Rows.entry_list_sort
    (list_sort_treeK strKind_oneLt (s := { s with heap := h1.push (seqObj "list" its.toArray 0), toks := tk }) hp hS.keysOf (fun a b rest e => keyKind_strs (by rw [← e]; exact hS)) (by rw [hlen]; exact hl) fun st' hperm hs => ⟨_, rfl, ?_⟩)
    (PyProof.Rows.args_list_sort _)))
  obtain ⟨ys, g1, g2, g3⟩ := sorted_out_str hS hperm hs
  obtain ⟨e', he'⟩ := PyProof.Rows.sortedHeap_at (vs := its) (out := (arrOf st').map (·.2)) hp
  have pl : its.Perm ((arrOf st').map (·.2)).toList := by
    have a1 : (arrOf st').toList.Perm (its.zip its) := by rw [← pairsOf_toList]; exact Array.perm_iff_toList_perm.mp hperm
    have a2 := (a1.map (·.2)).symm
    rw [List.map_snd_zip (Nat.le_refl _)] at a2
    rw [Array.toList_map]
    exact a2
  obtain ⟨m, hm, hmp⟩ := TOnes.perm pl hT
  have hy := strs_ones g1 hm.ones
  rw [hy] at g3
  refine wpAny_pure ⟨_, rfl, hQ h1 _ tk _ m e' keep (fun b o q => ?_) htk (by rw [Array.toArray_toList]; exact he') hm hmp (sorted_up m g3)⟩
  have hb : b < h1.objs.size := Heap.lt_size q
  rw [PyProof.Rows.sortedHeap_old (Nat.ne_of_lt hb) (by rw [size_push']; exact Nat.lt_succ_of_lt hb)]
  exact Heap.get?_push_of_some _ q
end
end K5
end
section
namespace K5
open PySem PySem.Spec PyProof.Rows L2
/-- a text of one sign -/
def one (c : Nat) : V := .str (T [c])
theorem ones_vals : ∀ {its : List Value} {cs : List Nat}, Ones its cs → Vals (cs.map one) its
  | _, _, .nil => .nil
  | _, _, .cons ⟨t, h⟩ r => .cons ⟨t, h⟩ (ones_vals r)
theorem vals_ones : ∀ {its : List Value} {cs : List Nat}, Vals (cs.map one) its → Ones its cs
  | [], [], _ => .nil
  | [], _ :: _, h => by cases h
  | _ :: _, [], h => by cases h
  | _ :: _, _ :: _, h => by
    cases h with
    | cons a r => exact .cons a (vals_ones r)
section
variable {X : Cx}
theorem cr_min2 (hc : X.calm = true) : CallR X (.builtin "min") (fun vs H Q => ∃ a b : Nat, vs = [one a, one b] ∧ Q (one (min a b)) H) := by
  intro pins s σ H vs us Q I r h
  obtain ⟨a, b, rfl, q⟩ := h
  obtain ⟨u, v, rfl, ⟨t, rfl⟩, ⟨t', rfl⟩⟩ := vals2 r
  exact min_ones2 (I.ok.hd hc) fun v h' tk hv k => ⟨one _, H, I.kept k, hv, q⟩
theorem cr_max2 (hc : X.calm = true) : CallR X (.builtin "max") (fun vs H Q => ∃ a b : Nat, vs = [one a, one b] ∧ Q (one (max a b)) H) := by
  intro pins s σ H vs us Q I r h
  obtain ⟨a, b, rfl, q⟩ := h
  obtain ⟨u, v, rfl, ⟨t, rfl⟩, ⟨t', rfl⟩⟩ := vals2 r
  exact max_ones2 (I.ok.hd hc) fun v h' tk hv k => ⟨one _, H, I.kept k, hv, q⟩
/-- sorted(text) -/
def rSortedT : List V → Hp → VK → Prop := fun vs H Q => ∃ l : List Nat, vs = [.str (T l)] ∧ (∀ c ∈ l, c < 128) ∧ l.length < 64 ∧ ∀ (p : Addr) (m : List Nat), m.Perm l → m.Pairwise (· ≤ ·) → H p = none → Q (.ref p) (upd H p (.lst (m.map one)))
theorem cr_sortedT (hc : X.calm = true) : CallR X (.builtin "sorted") rSortedT := by
  intro pins s σ H vs us Q I r h
  obtain ⟨l, rfl, ha, hl, q⟩ := h
  obtain ⟨u, rfl, ⟨t, rfl⟩⟩ := vals1 r
  refine sorted_T (I.ok.hd hc) l ha hl t fun h1 h' tk its m c k1 k2 htk hp hm hpm hup => ?_
  have I1 : Inv X pins σ H { s with heap := h1 } := I.kept (t' := s.toks) k1
  have z : (m.map one).length ≤ sizeLine := by rw [List.length_map, hpm.length_eq]; exact small64 hl
  exact ⟨.ref _, upd H h1.objs.size (.lst (m.map one)), I1.laid (t' := tk) k2 (Nat.le_refl _) ⟨z, its, c, ones_vals hm.ones, hp⟩, rfl, q _ m hpm hup (I1.hok.fresh (Nat.le_refl _))⟩
/-- a pair in a tuple of pairs -/
def PairsAt (K : PySem.W.Frag) (H : Hp) : List Addr → List (Nat × Nat) → Prop := Paired fun p q => SqT K H p [.int (q.1 : Int), .int (q.2 : Int)]
def pd (q : Int × Int) : PyData := .tuple [.int q.1, .int q.2]
theorem pd_eqv (a b : Int × Int) : PyData.eqv (pd a) (pd b) = decide (a = b) := by
  show (a.1 == b.1 && (a.2 == b.2 && true)) = decide (a = b)
  obtain ⟨a1, a2⟩ := a
  obtain ⟨b1, b2⟩ := b
  rw [Bool.eq_iff_iff]
  simp
theorem pd_dp {K : PySem.W.Frag} {H : Hp} {p : Addr} {i j : Int} (h : SqT K H p [.int i, .int j]) : Dp K H (.ref p) (pd (i, j)) := .tup h (.cons (.int i) (.cons (.int j) .nil))
theorem pds_dp {K : PySem.W.Frag} {H : Hp} : ∀ {as : List Addr} {ps : List (Nat × Nat)}, PairsAt K H as ps → DpAll K H (as.map V.ref) (ps.map fun q => pd ((q.1 : Int), (q.2 : Int)))
  | _, _, .nil => .nil
  | _, _, .cons h r => .cons (pd_dp h) (pds_dp r)
theorem pds_can : ∀ ps : List (Nat × Nat), PyData.canLayAll0 (ps.map fun q => pd ((q.1 : Int), (q.2 : Int))) = true
  | [] => rfl
  | _ :: r => pds_can r
theorem pds_any (i j : Nat) : ∀ ps : List (Nat × Nat), ((ps.map fun q => pd ((q.1 : Int), (q.2 : Int))).any fun z => PyData.eqv z (pd ((i : Int), (j : Int)))) = ps.contains (i, j)
  | [] => rfl
  | p :: r => by
    rw [List.map_cons, List.any_cons, pds_any i j r, pd_eqv, List.contains_cons]
    congr 1
    rw [Bool.eq_iff_iff, decide_eq_true_iff, beq_iff_eq]
    obtain ⟨a, b⟩ := p
    constructor
    · intro e
      injection e with e1 e2
      have e1 : (a : Int) = (i : Int) := e1
      have e2 : (b : Int) = (j : Int) := e2
      rw [show a = i by omega, show b = j by omega]
    · intro e; rw [← e]
def rInP (K : PySem.W.Frag) : R2 := fun x y H Q => ∃ (a b : Addr) (i j : Nat) (as : List Addr) (ps : List (Nat × Nat)), x = .ref a ∧ y = .ref b ∧ SqT K H a [.int (i : Int), .int (j : Int)] ∧ SqT K H b (as.map V.ref) ∧ PairsAt K H as ps ∧ Q (.bl (ps.contains (i, j))) H
theorem op_inP (hu : X.A.units + 65 < cLine) : OpR X (compareOp .In) (rInP X.K) := by
  intro pins s σ H x y v u Q I rx ry h
  obtain ⟨a, b, i, j, as, ps, rfl, rfl, ha, hb, hp, q⟩ := h
  obtain ⟨as1, r1⟩ := Dp.reads I (pd ((i : Int), (j : Int))) _ v (pd_dp ha) rx
  obtain ⟨as2, r2⟩ := Dp.reads I (.tuple (ps.map fun q => pd ((q.1 : Int), (q.2 : Int)))) _ u (.tup hb (pds_dp hp)) ry
  have sd : SeqAt.shaped (pd ((i : Int), (j : Int))) = true := rfl
  refine SeqAt.in_tuple_reads r2 r1 (pds_can ps) (SeqAt.canLay_of_shaped sd) (room_in_shaped sd hu) ⟨.bl _, H, I, rfl, ?_⟩
  rw [pds_any]; exact q
/-- "".join(text) -/
theorem join_signs : ∀ l : List Nat, Txt.join (T []) (l.map fun c => T [c]) = T l := by
  intro l
  rw [T_of (Txt.join (T []) (l.map fun c => T [c]))]
  congr 1
  have e : Txt.join (T []) (l.map fun c => T [c]) = Str.join (T []) (l.map fun c => T [c]) := StrLaws.glued_eq_join _ _
  rw [e]
  have := TL.tl_join (T []) (l.map fun c => T [c])
  have e2 : (Str.join (T []) (l.map fun c => T [c])).cps.toList = TL.joinL [] ((l.map fun c => T [c]).map TL.tl) := this
  rw [e2, List.map_map]
  clear this e e2
  induction l with
  | nil => rfl
  | cons c r ih =>
    cases r with
    | nil => rfl
    | cons d r =>
      show [c] ++ ([] ++ TL.joinL [] ((d :: r).map _)) = c :: d :: r
      rw [ih]; rfl
/-- "".join of a text: the text -/
theorem mt_joinT (hc : X.calm = true) : MtR X "str.join" (fun x xs H Q => ∃ l : List Nat, x = .str (T []) ∧ xs = [.str (T l)] ∧ (∀ c ∈ l, c < 128) ∧ l.length ≤ 1000 ∧ Q (.str (T l)) H) := by
  intro pins s σ H x xs v us Q I rx rs h
  obtain ⟨l, rfl, rfl, ha, hl, q⟩ := h
  obtain ⟨t, rfl⟩ := rx
  obtain ⟨u, rfl, ⟨t', rfl⟩⟩ := vals1 rs
  have es : signs (T l) = l.map fun c => T [c] := rfl
  refine PySem.SC.joinStr (I.ok.hd hc) ?_ fun h' k t2 keep => ⟨.str (T l), H, I.kept keep, ⟨t2, by rw [es, join_signs]⟩, q⟩
  have fit : Builtin.Str.tooLong ((l.map fun c => T [c]).toArray.foldl (fun (n : Nat) (z : Str) => n + z.length + (T []).length) 0) = false := by
    refine StrLaws.joinFits (B := 1) (fun y hy => ?_) ?_
    · obtain ⟨c, _, rfl⟩ := List.mem_map.mp hy
      rw [T_len]; exact Nat.le_refl _
    · rw [List.length_map, T_len]
      show l.length * 1 + l.length * 0 ≤ 16777216
      omega
  rw [es]
  exact congrArg not fit
/-- text[::-1] -/
def tRevS (te : TE) : TE := fun σ H Q => te σ H fun x H1 => ∃ l : List Nat, x = .str (T l) ∧ l.length ≤ 1000 ∧ Q (.str (T l.reverse)) H1
theorem rev_pick (l : List Nat) : ((Builtin.Str.strSliceIndices none none (-1) (T l).length).filterMap ((T l).cps[·]?)).toArray = l.reverse.toArray := by
  have e : Builtin.Str.strSliceIndices none none (-1) (T l).length = sliceRange (((T l).length : Int) - 1) (-1) (-1) := by
    simp [Builtin.Str.strSliceIndices]
  rw [e, PySem.W.krv_sliceRange, PySem.W.krv_range, List.filterMap_reverse]
  have := PySem.W.krv_all (T l).cps
  show (List.filterMap _ (List.range (T l).cps.size)).reverse.toArray = _
  rw [this]; rfl
theorem pe_revS {e : Expr} {te : TE} {k : Nat} {p1 p2 p3 pos : Pos} (he : PE X e te) : PE X (.Subscript e (.Slice none none (some (.UnaryOp .USub (.Constant (.int 1) k p1) p2)) p3) pos) (tRevS te) := by
  refine ⟨fun pins s σ H Q I h => Subscript_ (thn (he.run pins s σ H _ I h) fun v s1 ⟨x, H1, I1, r1, q1⟩ => ?_)⟩
  obtain ⟨l, rfl, hl, q⟩ := q1
  obtain ⟨t, rfl⟩ := r1
  have step : PO X (some (.UnaryOp .USub (.Constant (.int 1) k p1) p2)) (tPart (tUn (rU fun i => .int (-i)) (tC (.int 1)))) := po_some (pe_un un_neg pe_int)
  have nopart : ∀ (s : Shared), Inv X pins σ H1 s → wpAny (model X.prog X.w) X.A (evalPart none X.env) (fun u s' => u = .none ∧ Inv X pins σ H1 s') X.xe s := fun s J => by
    rw [evalPart_none]; exact wpAny_pure ⟨rfl, J⟩
  refine wpAny_Slice (thn (nopart s1 I1) fun vl s2 ⟨e1, I2⟩ => thn (nopart s2 I2) fun vu s3 ⟨e2, I3⟩ => ?_)
  subst e1 e2
  refine thn (step.run pins s3 σ H1 (fun o H4 => o = some (-1) ∧ H4 = H1) I3 ⟨1, rfl, -1, rfl, rfl, rfl⟩) fun vs s4 ⟨o, H4, I4, ps, eo, e4⟩ => ?_
  subst eo e4
  obtain ⟨lp, rfl, elp⟩ := IsPart.raw ps
  have I5 : Inv X pins σ H4 { s4 with heap := s4.heap.push { cls := .type "slice", data := .fields #[.none, .none, partValue lp] } } := I4.kept (t' := s4.toks) fun b ob q => Heap.get?_push_of_some _ q
  show wpAny (model X.prog X.w) X.A (subscriptTail e (.Slice none none (some (.UnaryOp .USub (.Constant (.int 1) k p1) p2)) p3) (.str (T l) t) (.ref s4.heap.objs.size)) (EP X pins σ Q) X.xe { s4 with heap := s4.heap.push { cls := .type "slice", data := .fields #[.none, .none, partValue lp] } }
  refine tail_any (ops := [.str (T l) t, .ref s4.heap.objs.size]) (typeIs_str _ _ _) F.slot_str_getitem.lookup ?_ (by with_unfolding_all rfl)
  refine wpAny_getItem_str_slice (l := none) (u := none) (st := lp) ⟨_, Heap.get?_push_size _ rfl, rfl, rfl⟩ (by rw [elp]; decide) ?_
  have em : sliceMade (T l) t none none lp = .str (T l.reverse) := by
    unfold sliceMade slicePicked
    rw [elp]
    show (if ((-1 : Int) == 1 && _) = true then _ else Made.str ⟨((Builtin.Str.strSliceIndices none none (-1) (T l).length).filterMap ((T l).cps[·]?)).toArray⟩) = _
    rw [rev_pick, if_neg (by simp)]; rfl
  rw [em]
  refine ⟨by rw [T_len, List.length_reverse]; exact Nat.le_trans hl (by decide), .str (T l.reverse), H4, I5.tok _, ⟨_, rfl⟩, q⟩
end
end K5
end
section
namespace K5
open PySem PySem.Spec PyProof.Rows L2
/-- enumerate(v) of anything whose iterator is a new object -/
theorem meets_enum1 {v : Value} {o : Obj} {H : Heap → Prop} (B : Begins v o H) :
    Meets (Builtin.«enumerate.__new__» ⟨[.type "enumerate", v], []⟩) (fun _ R s => H s.heap ∧
      R (.ok (.ret (.ref (s.heap.push o).objs.size))) { s with heap := (s.heap.push o).push { cls := .type "enumerate", data := .fields #[.none, .bool false, .ref s.heap.objs.size, rawInt 0, .none, .none] } }) :=
  .of_wp fun prog w A R s h => by
    obtain ⟨hp, g, d, tk, os⟩ := s
    obtain ⟨h1, h⟩ := h
    have hsub := sub_enumerate
    have q1 : ∀ {A' : Around} {E : Value → Shared → Prop} {Q : Value → Shared → Prop}, Q (.ref hp.objs.size) ⟨hp.push o, g, d, tk, os⟩ → wpAny (model prog w) A' (pyIter v) Q E ⟨hp, g, d, tk, os⟩ := fun q => B.iter prog w _ _ ⟨hp, g, d, tk, os⟩ _ h1 q
    wp_walk using q1
    refine wpAny_stack_any fun st => wpAny_pure ?_
    split
    · rename_i c _ _ _ _ _
      cases (c == Value.type "enumerate") <;> (wp_walk using q1; exact ⟨_, rfl, h⟩)
    · wp_walk using q1
      exact ⟨_, rfl, h⟩
section
variable {prog : Program} {w : World} {A : Around} {E : Value → Shared → Prop} {s : Shared}
theorem call_enum1 {v : Value} {o : Obj} {H : Heap → Prop} {Q : Value → Shared → Prop} (B : Begins v o H) (h1 : H s.heap)
    (h : ∀ h', IsEnum h' (s.heap.objs.size + 1) s.heap.objs.size 0 .none → h'.get? s.heap.objs.size = some o → (∀ b o, s.heap.get? b = some o → h'.get? b = some o) → Q (.ref (s.heap.objs.size + 1)) { s with heap := h' }) :
    wpAny (model prog w) A (call (.type "enumerate") [v]) Q E s := by
  refine callType_new F.called_enumerate (by decide) (F.typeCall_enumerate_1 _) (F.newCall_enumerate_1 _) (fun obj => F.args_object_init_2 obj _) F.entry_enumerate_new (meets_enum1 B) ⟨h1, ?_⟩
  have hz : (s.heap.push o).objs.size = s.heap.objs.size + 1 := Heap.size_push ..
  show _ ∧ _
  rw [hz]
  have he : IsEnum ((s.heap.push o).push { cls := .type "enumerate", data := .fields #[.none, .bool false, .ref s.heap.objs.size, rawInt 0, .none, .none] }) (s.heap.objs.size + 1) s.heap.objs.size 0 .none := by
    have := Heap.get?_push_size (s.heap.push o) (o := { cls := .type "enumerate", data := .fields #[.none, .bool false, .ref s.heap.objs.size, rawInt 0, .none, .none] }) rfl
    rw [hz] at this
    exact this
  exact ⟨⟨_, he, rfl⟩, h _ he (Heap.get?_push_of_some _ (Heap.get?_push_size _ B.free)) fun b o x => Heap.get?_push_of_some _ (Heap.get?_push_of_some _ x)⟩
end
/-- enumerate over what is drawn: x i is the i-th -/
def Iten (x : Nat → Option V) (n : Nat) : It :=
  ⟨fun i _ => i < n, fun i H v H' => ∃ T y, v = .ref T ∧ H T = none ∧ H' = upd H T (.tup [.int (i : Nat), y]) ∧ x i = some y, fun i _ => n = i⟩
theorem turn_enumD {P : Program} {w : World} {K : PySem.W.Frag} {elts : List Expr} {kk : Nat} {tpos : Pos} {e it : Addr} {fp : List Addr} {n : Nat} {Pi : Nat → Value → Prop} {St : Nat → Heap → Prop} {x : Nat → Option V}
    (D : ∀ A : Around, A.handled = none → Draws P w A it fp n Pi St) (hne : e ≠ it) (hef : e ∉ fp) (hif : it ∈ fp) (hx : ∀ i u, Pi i u → ∃ y, x i = some y ∧ RelV y u)
    (hobj : ∀ i h, St i h → ∀ b ∈ fp, ∃ o, h.get? b = some o ∧ ∀ v, o.data ≠ .cell v) :
    Turn P w K (.Tuple elts kk tpos) (Iten x n) (e :: fp) e (fun i h => (∃ old, IsEnum h e it ((i : Nat) : Int) old) ∧ St i h) where
  mem := List.mem_cons_self
  obj := fun i h st b hb => by
    obtain ⟨⟨old, he⟩, hs⟩ := st
    rcases List.mem_cons.mp hb with z | z
    · rw [z]; exact ⟨_, he, fun v q => nomatch q⟩
    · exact hobj i h hs b z
  keep := fun i h h' st k => by
    obtain ⟨⟨old, he⟩, hs⟩ := st
    exact ⟨⟨old, k e List.mem_cons_self _ he⟩, (D {} rfl).frame i h h' hs fun b hb o q => k b (List.mem_cons_of_mem _ hb) o q⟩
  item := by
    intro X hP hw hK hc i pins s σ H E I hf st hg
    subst hP hw hK
    obtain ⟨⟨old, he⟩, hs⟩ := st
    have hlt : i < n := hg
    have hel : e < s.heap.objs.size := Heap.lt_size he
    have live : ∀ b ∈ e :: fp, b < s.heap.objs.size := fun b hb => by
      rcases List.mem_cons.mp hb with z | z
      · rw [z]; exact hel
      · obtain ⟨o, q, _⟩ := hobj i _ hs b z
        exact Heap.lt_size q
    refine wpAny_pyNext_enum_itemD (D X.A.in1 (I.ok.hd hc)) he hs hlt hne hef fun u h' tk hu ho hs' hT hsz hk => ?_
    obtain ⟨y, hy, ry⟩ := hx i u hu
    refine ⟨_, rfl, wpAny_letOwnedTupleGo_enum (s := { s with heap := h', toks := tk + 1 }) ho fun h'' he' sb => ?_⟩
    have hT2 : h''.get? s.heap.objs.size = some { cls := .type "tuple", data := .seq #[.int i tk, u] } := (sb.2 _ (Nat.ne_of_gt hel)).trans hT
    have new : ObjOk X.prog X.w (upd H s.heap.objs.size (.tup [.int (i : Nat), y])) h'' s.heap.objs.size (.tup [.int (i : Nat), y]) :=
      ⟨by show 2 ≤ sizeLine; decide, [.int i tk, u], .cons ⟨_, rfl⟩ (.cons ry .nil), ⟨_, hT2, rfl, _, rfl⟩⟩
    have I1 : Inv X pins σ (upd H s.heap.objs.size (.tup [.int (i : Nat), y])) { s with heap := h'', toks := tk + 1 } :=
      I.turnedNew (ch := e :: fp) (fun b ob hb q => (sb.2 b (fun z => hb (by simp [z]))).trans (hk b ob (fun z => hb (by simp [z])) (fun z => hb (List.mem_cons_of_mem _ (by rw [z]; exact hif))) q)) hf (Nat.le_refl _) new
    refine ⟨.ref s.heap.objs.size, _, I1, rfl, ⟨_, y, rfl, I.hok.fresh (Nat.le_refl _), rfl, hy⟩, ⟨⟨u, ?_⟩, ?_⟩, fun b hb => ?_⟩
    · have e1 : ((i + 1 : Nat) : Int) = (i : Int) + 1 := by omega
      rw [e1]; exact he'
    · exact (D {} rfl).frame _ _ _ hs' fun b hb o q => (sb.2 b (fun z => hef (z ▸ hb))).trans q
    · rw [upd_ne (Nat.ne_of_lt (live b hb))]
      exact (hf b hb).1
  done := by
    intro X hP hw hK hc i pins s σ H E I hf st hg
    subst hP hw hK
    obtain ⟨⟨old, he⟩, hs⟩ := st
    have e1 : n = i := hg
    subst e1
    obtain ⟨f0, f1, f2, f3, f4, f5⟩ := hf it (List.mem_cons_of_mem _ hif)
    exact wpAny_pyNext_enum_endD (D X.A.in1 (I.ok.hd hc)) he hs fun h' eb => ⟨rfl, I.turned (t' := s.toks) (fun b o hb q => eb b o hb q) f0 f1 f3 f4 f5⟩
  self := fun A i s Q E st h => by
    obtain ⟨⟨_, he⟩, _⟩ := st
    exact wpAny_pyIter_enum he h
/-- for i, x in enumerate(tuple) -/
def Itet (K : PySem.W.Frag) (a : Addr) : It :=
  ⟨fun i H => ∃ (xs : List V) (x : V), SqT K H a xs ∧ xs[i]? = some x, fun i H v H' => ∃ T y, v = .ref T ∧ H T = none ∧ H' = upd H T (.tup [.int (i : Nat), y]) ∧ ∀ xs, SqT K H a xs → xs[i]? = some y, fun i H => ∃ xs : List V, SqT K H a xs ∧ xs.length = i⟩
theorem turn_enumT {P : Program} {w : World} {K : PySem.W.Frag} {elts : List Expr} {kk : Nat} {tpos : Pos} (a e it : Addr) (hne : e ≠ it) :
    Turn P w K (.Tuple elts kk tpos) (Itet K a) [e, it] e (fun i h => (∃ old, IsEnum h e it ((i : Nat) : Int) old) ∧ h.IsTupleIter it a i) where
  mem := List.mem_cons_self
  obj := fun i h st b hb => by
    obtain ⟨⟨old, he⟩, ⟨o, ho, hc, hd⟩⟩ := st
    have z : b = e ∨ b = it := by simpa using hb
    rcases z with z | z
    · rw [z]; exact ⟨_, he, fun v q => nomatch q⟩
    · rw [z]; exact ⟨o, ho, fun v q => by rw [hd] at q; cases q⟩
  keep := fun i h h' st k => by
    obtain ⟨⟨old, he⟩, hit⟩ := st
    exact ⟨⟨old, k e List.mem_cons_self _ he⟩, hit.at fun o q => k it (by simp) o q⟩
  item := by
    intro X hP hw hK hc i pins s σ H E I hf st hg
    subst hP hw hK
    obtain ⟨⟨old, he⟩, hit⟩ := st
    obtain ⟨xs, y, hq, hy⟩ := hg
    obtain ⟨its, rv, ht, hz⟩ := I.tuple hq
    obtain ⟨u, hu, ru⟩ := rv.get hy
    have hlen := rv.length
    have hlt : i < its.toArray.size := by
      have := (List.getElem?_eq_some_iff.mp hu).1
      simpa using this
    have hel : e < s.heap.objs.size := Heap.lt_size he
    have hil : it < s.heap.objs.size := by obtain ⟨_, q, _⟩ := hit; exact Heap.lt_size q
    have ai : a ≠ it := fun z => by
      obtain ⟨o, q, c, d⟩ := hit
      obtain ⟨o', q', c', d'⟩ := ht
      rw [z, q] at q'
      cases q'
      rw [c] at c'
      simp at c'
    have ae : e ≠ a := fun z => by
      obtain ⟨o', q', c', d'⟩ := ht
      rw [← z, he] at q'
      cases q'
      simp at c'
    have hef : e ∉ [it, a] := fun hm => by
      have z : e = it ∨ e = a := by simpa using hm
      exact z.elim hne ae
    refine wpAny_pyNext_enum_itemD (Draws.tuple (A := X.A.in1) (I.ok.hd hc) it a ai its.toArray) he ⟨hit, ht⟩ hlt hne hef fun u' h' tk hu' ho hs' hT hsz hk => ?_
    have e0 : u' = u := by
      have q : its[i]? = some u' := by simpa using hu'
      rw [hu] at q
      exact (Option.some.inj q).symm
    subst e0
    refine ⟨_, rfl, wpAny_letOwnedTupleGo_enum (s := { s with heap := h', toks := tk + 1 }) ho fun h'' he' sb => ?_⟩
    have hT2 : h''.get? s.heap.objs.size = some { cls := .type "tuple", data := .seq #[.int i tk, u'] } := (sb.2 _ (Nat.ne_of_gt hel)).trans hT
    have new : ObjOk X.prog X.w (upd H s.heap.objs.size (.tup [.int (i : Nat), y])) h'' s.heap.objs.size (.tup [.int (i : Nat), y]) :=
      ⟨by show 2 ≤ sizeLine; decide, [.int i tk, u'], .cons ⟨_, rfl⟩ (.cons ru .nil), ⟨_, hT2, rfl, _, rfl⟩⟩
    have I1 : Inv X pins σ (upd H s.heap.objs.size (.tup [.int (i : Nat), y])) { s with heap := h'', toks := tk + 1 } :=
      I.turnedNew (ch := [e, it]) (fun c oc off q => (sb.2 c fun z => off (by simp [z])).trans (hk c oc (fun z => off (by simp [z])) (fun z => off (by simp [z])) q)) hf (Nat.le_refl _) new
    refine ⟨.ref s.heap.objs.size, _, I1, rfl, ⟨_, y, rfl, I.hok.fresh (Nat.le_refl _), rfl, fun ys hys => by rw [I.tuple_inj hys hq]; exact hy⟩, ⟨⟨u', ?_⟩, hs'.1.at fun o q => (sb.2 it (Ne.symm hne)).trans q⟩, fun b hb => ?_⟩
    · have e1 : ((i + 1 : Nat) : Int) = (i : Int) + 1 := by omega
      rw [e1]; exact he'
    · have z : b = e ∨ b = it := by simpa using hb
      have hb' : b < s.heap.objs.size := by
        rcases z with z | z
        · rw [z]; exact hel
        · rw [z]; exact hil
      rw [upd_ne (Nat.ne_of_lt hb')]
      exact (hf b hb).1
  done := by
    intro X hP hw hK hc i pins s σ H E I hf st hg
    subst hP hw hK
    obtain ⟨⟨old, he⟩, hit⟩ := st
    obtain ⟨xs, hq, hx⟩ := hg
    obtain ⟨its, rv, ht, hz⟩ := I.tuple hq
    have hlen := rv.length
    have ai : a ≠ it := fun z => by
      obtain ⟨o, q, c, d⟩ := hit
      obtain ⟨o', q', c', d'⟩ := ht
      rw [z, q] at q'
      cases q'
      rw [c] at c'
      simp at c'
    have e1 : its.toArray.size = i := by rw [List.size_toArray, ← hlen]; exact hx
    subst e1
    obtain ⟨f0, f1, f2, f3, f4, f5⟩ := hf it (by simp)
    exact wpAny_pyNext_enum_endD (Draws.tuple (A := X.A.in1) (I.ok.hd hc) it a ai its.toArray) he ⟨hit, ht⟩ fun h' eb => ⟨rfl, I.turned (t' := s.toks) (fun b o hb q => eb b o hb q) f0 f1 f3 f4 f5⟩
  self := fun A i s Q E st h => by
    obtain ⟨⟨_, he⟩, _⟩ := st
    exact wpAny_pyIter_enum he h
def iEnumT (K : PySem.W.Frag) (ta : TA) : TI := fun σ H R => ta σ H fun vs H1 => ∃ a xs, vs = [.ref a] ∧ SqT K H1 a xs ∧ R (Itet K a) H1
/-- for i, c in enumerate(text) -/
def iEnumS (ta : TA) : TI := fun σ H R => ta σ H fun vs H1 => ∃ l : List Nat, vs = [.str (T l)] ∧ (∀ c ∈ l, c < 128) ∧ R (Iten (fun i => l[i]?.map one) l.length) H1
theorem nat_ne_s {n : Nat} : n + 1 ≠ n := by omega
theorem nat_or2 {b n : Nat} (h : b = n + 1 ∨ b = n) : n ≤ b := by omega
section
variable {X : Cx}
theorem pi_enumT {e : Expr} {ta : TA} {p pos tpos : Pos} {elts : List Expr} {kk : Nat} (hg : Gl X "enumerate") (hm : X.mg "enumerate" = none) (ha : PA X [e] ta) (hs : starEach [e] X.env = [(false, eval e X.env)] := by rfl) :
    PI X (.Tuple elts kk tpos) (.Call (.Name "enumerate" p) [e] [] pos) (iEnumT X.K ta) := by
  refine ⟨fun pins s σ H R I h => Call_ (ld_blt I hg hm boot_enumerate (PyProof.Rows.callWith_type1 (thn (ha.run pos pins s σ H _ I h) fun us s1 ⟨vs, H1, I1, r1, q1⟩ => ?_) hs rfl))⟩
  obtain ⟨a, xs, rfl, hq, q⟩ := q1
  obtain ⟨u, rfl, r⟩ := vals1 r1
  cases r
  obtain ⟨its, rv, ht, hz⟩ := I1.tuple hq
  refine call_enum1 (begins_tuple a its.toArray) ht fun h' he hit hk => wpAny_pyIter_enum he ?_
  have I2 : Inv X pins σ H1 { s1 with heap := h' } := I1.kept (t' := s1.toks) hk
  refine ⟨s1.heap.objs.size + 1, [s1.heap.objs.size + 1, s1.heap.objs.size], _, _, H1, rfl, I2, turn_enumT a (s1.heap.objs.size + 1) s1.heap.objs.size nat_ne_s, ⟨⟨.none, he⟩, ⟨_, hit, rfl, rfl⟩⟩, fun b hb => ?_, q⟩
  have hle : s1.heap.objs.size ≤ b := nat_or2 (by simpa using hb)
  exact I1.fpOk hle (I1.hok.fresh hle)
theorem pi_enumS {e : Expr} {ta : TA} {p pos tpos : Pos} {elts : List Expr} {kk : Nat} (hg : Gl X "enumerate") (hm : X.mg "enumerate" = none) (ha : PA X [e] ta) (hs : starEach [e] X.env = [(false, eval e X.env)] := by rfl) :
    PI X (.Tuple elts kk tpos) (.Call (.Name "enumerate" p) [e] [] pos) (iEnumS ta) := by
  refine ⟨fun pins s σ H R I h => Call_ (ld_blt I hg hm boot_enumerate (PyProof.Rows.callWith_type1 (thn (ha.run pos pins s σ H _ I h) fun us s1 ⟨vs, H1, I1, r1, q1⟩ => ?_) hs rfl))⟩
  obtain ⟨l, rfl, hl, q⟩ := q1
  obtain ⟨u, rfl, ⟨t, rfl⟩⟩ := vals1 r1
  have hal : (T l).cps.all (· < 128) = true := by
    show l.toArray.all (· < 128) = true
    rw [List.all_toArray, List.all_eq_true]
    exact fun c hc => decide_eq_true (hl c hc)
  refine call_enum1 (begins_text (T l) t) trivial fun h' he hit hk => wpAny_pyIter_enum he ?_
  have I2 : Inv X pins σ H1 { s1 with heap := h' } := I1.kept (t' := s1.toks) hk
  have ety : strIterType (T l) = "str_ascii_iterator" := by unfold strIterType; rw [hal]; rfl
  rw [ety] at hit
  have esz : (T l).cps.size = l.length := by show l.toArray.size = _; simp
  have tn := turn_enumD (P := X.prog) (w := X.w) (K := X.K) (elts := elts) (kk := kk) (tpos := tpos) (e := s1.heap.objs.size + 1) (it := s1.heap.objs.size) (fp := [s1.heap.objs.size]) (n := (T l).cps.size)
    (x := fun i => l[i]?.map one) (fun A hh => Draws.strAscii hh s1.heap.objs.size (T l) t) nat_ne_s (fun hm => nat_ne_s (List.mem_singleton.mp hm)) (by simp)
    (fun i u hu => by
      obtain ⟨c, t', h1, rfl⟩ := hu
      have h2 : l[i]? = some c := by simpa [T] using h1
      exact ⟨one c, by rw [h2]; rfl, ⟨t', rfl⟩⟩)
    (fun i h st b hb => by
      obtain ⟨o, q, c, d⟩ := st
      rw [List.mem_singleton.mp hb]
      exact ⟨o, q, fun v z => by rw [d] at z; cases z⟩)
  rw [esz] at tn
  refine ⟨s1.heap.objs.size + 1, [s1.heap.objs.size + 1, s1.heap.objs.size], _, _, H1, rfl, I2, tn, ⟨⟨.none, he⟩, ⟨_, hit, rfl, rfl⟩⟩, fun b hb => ?_, q⟩
  have hle : s1.heap.objs.size ≤ b := nat_or2 (by simpa using hb)
  exact I1.fpOk hle (I1.hok.fresh hle)
end
theorem walk_enumT {K : PySem.W.Frag} {a : Addr} {xs : List V} : Walk (Itet K a) xs.length (fun H => SqT K H a xs) (YPair (fun i => some (.int (i : Nat))) (fun i => xs[i]?)) := by
  refine ⟨fun i _ hi q => ⟨xs, xs[i], q, by simp [hi]⟩, fun _ q => ⟨xs, q, rfl⟩, fun i H v H' _ q y => ?_⟩
  obtain ⟨T, x, h1, h2, h3, h4⟩ := y
  exact ⟨T, .int (i : Nat), x, h1, h2, h3, rfl, h4 xs q⟩
theorem walk_enumS {x : Nat → Option V} {n : Nat} : Walk (Iten x n) n (fun _ => True) (YPair (fun i => some (.int (i : Nat))) x) := by
  refine ⟨fun i _ hi _ => hi, fun _ _ => rfl, fun i H v H' _ _ y => ?_⟩
  obtain ⟨T, y, h1, h2, h3, h4⟩ := y
  exact ⟨T, .int (i : Nat), y, h1, h2, h3, rfl, h4⟩
end K5
end
section
namespace K5
open PySem PySem.Spec PyProof.Rows L2 Evl
/-- what the program's top says of names -/
structure Blt (mg : Str → Option Value) (ta tm : Tok) : Prop where
  isinstance : mg "isinstance" = none
  int : mg "int" = none
  bool : mg "bool" = none
  str : mg "str" = none
  tuple : mg "tuple" = none
  list : mg "list" = none
  len : mg "len" = none
  enumerate : mg "enumerate" = none
  all : mg "all" = none
  range : mg "range" = none
  sorted : mg "sorted" = none
  max : mg "max" = none
  min : mg "min" = none
  sum : mg "sum" = none
  alphabet : mg "ALPHABET" = some (.str (T alph) ta)
  most : mg "MOST_LETTERS" = some (.int 7 tm)
/-- a promise without effect: the value -/
def spE (pre : List V → Hp → V → Prop) : Sp := fun vs H Q _ => ∃ z, pre vs H z ∧ ∀ H', Ex H H' → Q z H'
theorem spE_ok {pre : List V → Hp → V → Prop} {vs : List V} {H : Hp} {z : V} (mono : ∀ H', Ex H H' → pre vs H' z) : SpV (spE pre) vs H z := fun H1 e Q q E => ⟨z, mono H1 e, q⟩
theorem spE_len {pre : List V → Hp → V → Prop} {n : Nat} (h : ∀ vs H z, pre vs H z → vs.length = n) : ∀ vs H Q E, spE pre vs H Q E → vs.length = n := fun vs H Q E ⟨z, hz, _⟩ => h vs H z hz
/-! ### what stands in the heap -/
def PairsH (H : Hp) : List Addr → List (Nat × Nat) → Prop := Paired fun p q => H p = some (.tup [.int (q.1 : Int), .int (q.2 : Int)])
theorem PairsH.ex {H H' : Hp} (e : Ex H H') : ∀ {as : List Addr} {ps : List (Nat × Nat)}, PairsH H as ps → PairsH H' as ps
  | _, _, .nil => .nil
  | _, _, .cons h r => .cons (e _ _ h) (PairsH.ex e r)
theorem PairsH.at {K : PySem.W.Frag} {H : Hp} : ∀ {as : List Addr} {ps : List (Nat × Nat)}, PairsH H as ps → PairsAt K H as ps
  | _, _, .nil => .nil
  | _, _, .cons h r => .cons (st_of h) (PairsH.at r)
theorem pairs_ex {K : PySem.W.Frag} {H H' : Hp} (e : Ex H H') : ∀ {as : List Addr} {ps : List (Nat × Nat)}, PairsAt K H as ps → PairsAt K H' as ps
  | _, _, .nil => .nil
  | _, _, .cons h r => .cons (ex_t e h) (pairs_ex e r)
theorem pairs_len {H : Hp} : ∀ {as : List Addr} {ps : List (Nat × Nat)}, PairsH H as ps → as.length = ps.length
  | _, _, .nil => rfl
  | _, _, .cons h r => congrArg Nat.succ (pairs_len r)
theorem pairs_get {H : Hp} : ∀ {as : List Addr} {ps : List (Nat × Nat)}, PairsH H as ps → ∀ {i : Nat} {a : Addr}, as[i]? = some a → ∃ p, ps[i]? = some p ∧ H a = some (.tup [.int (p.1 : Int), .int (p.2 : Int)])
  | _, _, .nil, i, a, h => by simp at h
  | _, _, .cons (a := x) (b := y) h r, 0, a, q => by
    have : x = a := Option.some.inj q
    subst this
    exact ⟨y, rfl, h⟩
  | _, _, .cons h r, i + 1, a, q => pairs_get r (i := i) q
/-- a company: (n, pairs) -/
def Comp (H : Hp) (cp : Addr) (n : Nat) (ps : List (Nat × Nat)) : Prop := ∃ pt as, H cp = some (.tup [.int (n : Int), .ref pt]) ∧ H pt = some (.tup (as.map V.ref)) ∧ PairsH H as ps
theorem Comp.ex {H H' : Hp} {cp : Addr} {n : Nat} {ps : List (Nat × Nat)} (e : Ex H H') (c : Comp H cp n ps) : Comp H' cp n ps := by
  obtain ⟨pt, as, h1, h2, h3⟩ := c
  exact ⟨pt, as, e _ _ h1, e _ _ h2, h3.ex e⟩
/-- the friends of all -/
def toldK (n : Nat) (ps : List (Nat × Nat)) : List (Key × V) := (lets n).map fun c => ((.inr (T [c]) : Key), V.str (T (fl ps c)))
def Told (H : Hp) (d : Addr) (n : Nat) (ps : List (Nat × Nat)) : Prop := H d = some (.dK (toldK n ps))
theorem Told.ex {H H' : Hp} {d : Addr} {n : Nat} {ps : List (Nat × Nat)} (e : Ex H H') (t : Told H d n ps) : Told H' d n ps := e d _ t
theorem told_val (ps : List (Nat × Nat)) (c : Nat) : ∀ l : List Nat, c ∈ l → valV (l.map fun c => ((.inr (T [c]) : Key), V.str (T (fl ps c)))) (.inr (T [c])) = some (.str (T (fl ps c)))
  | [], h => by cases h
  | d :: r, h => by
    by_cases e : d = c
    · subst e; exact valV_pos rfl
    · rw [List.map_cons, valV_neg (fun z => e (by have := T_inj (Sum.inr.inj z); exact List.cons.inj this |>.1))]
      exact told_val ps c r ((List.mem_cons.mp h).resolve_left fun z => e z.symm)
section
variable {K : PySem.W.Frag} {σ : L2.St} {H H' : Hp} {ta tb tc te td ty : TE} {t u : TT} {x y z v : V}
/-! ### values of expressions -/
theorem ev_chain {r r' : R2} {k : Bool} (ha : Ev ta σ H x) (hb : Ev tb σ H y) (hr : RV r x y H (.bl k)) (hc : k = true → Ev tc σ H z) (hr' : k = true → RV r' y z H v) (hv : k = false → v = .bl false) : Ev (tChain r r' ta tb tc) σ H v := fun H1 e Q q =>
  ha H1 e _ fun H2 e2 => hb H2 (e.trans e2) _ fun H3 e3 => hr H3 ((e.trans e2).trans e3) _ fun H4 e4 => ⟨k, rfl, by
    have e14 := (e2.trans e3).trans e4
    cases k with
    | true =>
      show tc σ H4 fun w' H5 => r' y w' H5 Q
      exact hc rfl H4 (e.trans e14) _ fun H5 e5 => hr' rfl H5 ((e.trans e14).trans e5) Q fun H6 e6 => q H6 ((e14.trans e5).trans e6)
    | false =>
      show Q (.bl false) H4
      rw [← hv rfl]; exact q H4 e14⟩
theorem rv_lts {a b : Nat} : RV (fun x y H Q => ∃ i j, x = .str i ∧ y = .str j ∧ Q (.bl (decide (i.cps.toList < j.cps.toList))) H) (one a) (one b) H (.bl (decide (a < b))) := fun H1 _ Q q =>
  ⟨T [a], T [b], rfl, rfl, by rw [ones_lt]; exact q H1 (Ex.refl H1)⟩
theorem rv_insign {c : Nat} {l : List Nat} : RV (fun x y H Q => ∃ (c : Nat) (z : Str), x = .str ⟨#[c]⟩ ∧ y = .str z ∧ Q (.bl (decide (c ∈ z.cps.toList))) H) (one c) (.str (T l)) H (.bl (decide (c ∈ l))) := fun H1 _ Q q =>
  ⟨c, T l, rfl, rfl, q H1 (Ex.refl H1)⟩
theorem rv_nosign {c : Nat} {l : List Nat} : RV (fun x y H Q => ∃ (c : Nat) (z : Str), x = .str ⟨#[c]⟩ ∧ y = .str z ∧ Q (.bl (!decide (c ∈ z.cps.toList))) H) (one c) (.str (T l)) H (.bl (!decide (c ∈ l))) := fun H1 _ Q q =>
  ⟨c, T l, rfl, rfl, q H1 (Ex.refl H1)⟩
theorem rv_adds {a b : List Nat} (h : a.length + b.length ≤ 100000) : RV (fun x y H Q => ∃ i j, x = .str i ∧ y = .str j ∧ i.length + j.length ≤ sizeLine ∧ Q (.str (i ++ j)) H) (.str (T a)) (.str (T b)) H (.str (T (a ++ b))) := fun H1 _ Q q =>
  ⟨T a, T b, rfl, rfl, sz_of (by rw [T_len, T_len]; exact h), by rw [T_app]; exact q H1 (Ex.refl H1)⟩
theorem rv_ixs {l : List Nat} {i : Nat} {c : Nat} (hl : l.length ≤ 100000) (h : l[i]? = some c) : RV rIxS (.str (T l)) (.int (i : Int)) H (one c) := rv_ixS (w := T l) (by rw [T_len]; exact hl) (atI_nat h)
theorem rv_inP {a b : Addr} {i j : Nat} {as : List Addr} {ps : List (Nat × Nat)} (ha : SqT K H a [.int (i : Int), .int (j : Int)]) (hb : SqT K H b (as.map V.ref)) (hp : PairsAt K H as ps) : RV (rInP K) (.ref a) (.ref b) H (.bl (ps.contains (i, j))) := fun H1 e Q q =>
  ⟨a, b, i, j, as, ps, rfl, rfl, ex_t e ha, ex_t e hb, pairs_ex e hp, q H1 (Ex.refl H1)⟩
theorem rc_lens {l : List Nat} (h : l.length ≤ 100000) : RC (fun xs H Q => ∃ z, xs = [.str z] ∧ z.length ≤ sizeLine ∧ Q (.int z.length) H) [.str (T l)] H (.int (l.length : Int)) := fun H1 _ Q q =>
  ⟨T l, rfl, sz_of (by rw [T_len]; exact h), by rw [T_len]; exact q H1 (Ex.refl H1)⟩
theorem rc_lenT {p : Addr} {xs : List V} (h : SqT K H p xs) : RC (fun xs H Q => ∃ p ys, xs = [.ref p] ∧ (SqL K H p ys ∨ SqT K H p ys) ∧ Q (.int ys.length) H) [.ref p] H (.int (xs.length : Int)) := fun H1 e Q q =>
  ⟨p, xs, rfl, .inr (ex_t e h), q H1 (Ex.refl H1)⟩
theorem rc_lenL {p : Addr} {xs : List V} (h : SqL K H p xs) : RC (fun xs H Q => ∃ p ys, xs = [.ref p] ∧ (SqL K H p ys ∨ SqT K H p ys) ∧ Q (.int ys.length) H) [.ref p] H (.int (xs.length : Int)) := fun H1 e Q q =>
  ⟨p, xs, rfl, .inl (ex_l e h), q H1 (Ex.refl H1)⟩
theorem rc_lenD {p : Addr} {xs : List (Key × V)} (h : H p = some (.dK xs)) : RC (fun xs H Q => ∃ a kvs, xs = [V.ref a] ∧ H a = some (.dK kvs) ∧ Q (.int kvs.length) H) [.ref p] H (.int (xs.length : Int)) := fun H1 e Q q =>
  ⟨p, xs, rfl, e p _ h, q H1 (Ex.refl H1)⟩
theorem rc_sum {p : Addr} {ns : List Int} (h : SqL K H p (ns.map V.int)) : RC (rSum K) [.ref p] H (.int ns.sum) := fun H1 e Q q => ⟨p, ns, rfl, ex_l e h, q H1 (Ex.refl H1)⟩
theorem rc_all {p : Addr} {bs : List Bool} (h : SqL K H p (bs.map V.bl)) : RC (rAll K) [.ref p] H (.bl (bs.all id)) := fun H1 e Q q => ⟨p, bs, rfl, ex_l e h, q H1 (Ex.refl H1)⟩
theorem rc_max {p : Addr} {ns : List Int} (h : SqL K H p (ns.map V.int)) (hn : ns ≠ []) : RC (rMax K) [.ref p] H (.int (mx ns)) := fun H1 e Q q =>
  ⟨p, ns, rfl, ex_l e h, List.length_pos_iff.mpr hn, fun m hm hle => by rw [mx_uniq hm hle]; exact q H1 (Ex.refl H1)⟩
theorem rc_min {p : Addr} {ns : List Int} (h : SqL K H p (ns.map V.int)) (hn : ns ≠ []) : RC (rMin K) [.ref p] H (.int (mn ns)) := fun H1 e Q q =>
  ⟨p, ns, rfl, ex_l e h, List.length_pos_iff.mpr hn, fun m hm hle => by rw [mn_uniq hm hle]; exact q H1 (Ex.refl H1)⟩
theorem rc_min2 {a b : Nat} : RC (fun vs H Q => ∃ a b : Nat, vs = [one a, one b] ∧ Q (one (min a b)) H) [one a, one b] H (one (min a b)) := fun H1 _ Q q => ⟨a, b, rfl, q H1 (Ex.refl H1)⟩
theorem rc_max2 {a b : Nat} : RC (fun vs H Q => ∃ a b : Nat, vs = [one a, one b] ∧ Q (one (max a b)) H) [one a, one b] H (one (max a b)) := fun H1 _ Q q => ⟨a, b, rfl, q H1 (Ex.refl H1)⟩
theorem perm_up_uniq {a b : List Nat} (h : a.Perm b) (ha : a.Pairwise (· ≤ ·)) (hb : b.Pairwise (· ≤ ·)) : a = b := h.eq_of_pairwise (le := (· ≤ ·)) (fun _ _ _ _ h1 h2 => Nat.le_antisymm h1 h2) ha hb
def srt (l : List Nat) : List Nat := l.mergeSort (fun a b => decide (a ≤ b))
theorem srt_perm (l : List Nat) : (srt l).Perm l := List.mergeSort_perm l _
theorem srt_up (l : List Nat) : (srt l).Pairwise (· ≤ ·) := by
  have := List.pairwise_mergeSort (le := fun a b : Nat => decide (a ≤ b)) (fun a b c h1 h2 => by simp at *; omega) (fun a b => by simp; omega) l
  exact this.imp fun h => by simpa using h
theorem srt_mem {l : List Nat} {c : Nat} : c ∈ srt l ↔ c ∈ l := (srt_perm l).mem_iff
theorem srt_len (l : List Nat) : (srt l).length = l.length := (srt_perm l).length_eq
theorem rcl_sorted {l : List Nat} (ha : ∀ c ∈ l, c < 128) (hl : l.length < 64) : RCL rSortedT [.str (T l)] H ((srt l).map one) := fun H1 _ Q q =>
  ⟨l, rfl, ha, hl, fun p m hm hup hp => by
    have e : m = srt l := perm_up_uniq (hm.trans (srt_perm l).symm) hup (srt_up l)
    rw [e]
    exact q p _ hp (Ex.new hp) upd_same⟩
/-- a call whose only argument is a new list -/
theorem ev_cbN {r : List V → Hp → VK → Prop} {xs : List V} (h : EvL ta σ H xs) (hr : ∀ p H1, H1 p = some (.lst xs) → Ex H H1 → RC r [.ref p] H1 z) : Ev (tCB r (tCons ta tNil)) σ H z := fun H1 e Q q =>
  h H1 e _ fun p H2 _ e2 hp => hr p H2 hp (e.trans e2) H2 (Ex.refl H2) Q fun H3 e3 => q H3 (e2.trans e3)
theorem ev_cb1 {r : List V → Hp → VK → Prop} (h : Ev ta σ H x) (hr : RC r [x] H z) : Ev (tCB r (tCons ta tNil)) σ H z := ev_cb (ea_cons h ea_nil) hr
theorem el_cb1 {r : List V → Hp → VK → Prop} {xs : List V} (h : Ev ta σ H x) (hr : RCL r [x] H xs) : EvL (tCB r (tCons ta tNil)) σ H xs := el_cb (ea_cons h ea_nil) hr
theorem ev_cb2 {r : List V → Hp → VK → Prop} (h : Ev ta σ H x) (h' : Ev tb σ H y) (hr : RC r [x, y] H z) : Ev (tCB r (tCons ta (tCons tb tNil))) σ H z := ev_cb (ea_cons h (ea_cons h' ea_nil)) hr
/-- "".join of a new list of signs, of a list that stands, of a text -/
def rJoin (K : PySem.W.Frag) : V → List V → Hp → VK → Prop := fun x xs H Q => ∃ a p, ∃ ys : List Str, x = .str a ∧ xs = [.ref p] ∧ (SqL K H p (ys.map V.str) ∨ SqT K H p (ys.map V.str)) ∧
    (ys.map (·.length)).sum + ys.length * a.length ≤ 16777216 ∧ Q (.str (Txt.join a ys)) H
theorem join_sum (l : List Nat) : ((l.map fun c => T [c]).map (·.length)).sum = l.length := by
  induction l with
  | nil => rfl
  | cons c r ih => rw [List.map_cons, List.map_cons, List.sum_cons, ih, T_len, List.length_cons, List.length_cons]; simp; omega
theorem join_go {p : Addr} {l : List Nat} {Q : VK} (hp : SqL K H p (l.map one)) (hl : l.length ≤ 100000) (q : Q (.str (T l)) H) : rJoin K (.str (T [])) [.ref p] H Q := by
  refine ⟨T [], p, l.map fun c => T [c], rfl, rfl, .inl ?_, ?_, ?_⟩
  · rw [List.map_map]; exact hp
  · rw [join_sum, T_len, List.length_nil, Nat.mul_zero, Nat.add_zero]; omega
  · rw [join_signs]; exact q
theorem ev_joinN {l : List Nat} (h0 : Ev ta σ H (.str (T []))) (h : EvL te σ H (l.map one)) (hl : l.length ≤ 100000) : Ev (tM1 (rJoin K) ta te) σ H (.str (T l)) := fun H1 e Q q =>
  h0 H1 e _ fun H2 e2 => ⟨⟨_, rfl⟩, h H2 (e.trans e2) _ fun p H3 _ e3 hp => join_go (sq_of hp) hl (q H3 (e2.trans e3))⟩
theorem ev_joinL {p : Addr} {l : List Nat} (h0 : Ev ta σ H (.str (T []))) (h : Ev te σ H (.ref p)) (hp : SqL K H p (l.map one)) (hl : l.length ≤ 100000) : Ev (tM1 (rJoin K) ta te) σ H (.str (T l)) := fun H1 e Q q =>
  h0 H1 e _ fun H2 e2 => ⟨⟨_, rfl⟩, h H2 (e.trans e2) _ fun H3 e3 => join_go (ex_l ((e.trans e2).trans e3) hp) hl (q H3 (e2.trans e3))⟩
theorem ev_joinT {l : List Nat} (h0 : Ev ta σ H (.str (T []))) (h : Ev te σ H (.str (T l))) (hc : ∀ c ∈ l, c < 128) (hl : l.length ≤ 1000) : Ev (tM1 (fun x xs H Q => ∃ l : List Nat, x = .str (T []) ∧ xs = [.str (T l)] ∧ (∀ c ∈ l, c < 128) ∧ l.length ≤ 1000 ∧ Q (.str (T l)) H) ta te) σ H (.str (T l)) := fun H1 e Q q =>
  h0 H1 e _ fun H2 e2 => ⟨⟨_, rfl⟩, h H2 (e.trans e2) _ fun H3 e3 => ⟨l, rfl, rfl, hc, hl, q H3 (e2.trans e3)⟩⟩
/-- slices of a text -/
theorem cut_to (l : List Nat) (k : Nat) : cutS (T l) none (some (k : Int)) = T (l.take k) := by
  show Str.mk _ = T (l.take k)
  rw [HT.sIx_none, HT.sIx_nat, List.drop_zero, Nat.sub_zero, T_len]
  show T (l.take (min k l.length)) = _
  rw [← List.take_take, List.take_length]
theorem cut_from (l : List Nat) (k : Nat) : cutS (T l) (some (k : Int)) none = T (l.drop k) := by
  show Str.mk _ = T (l.drop k)
  rw [HT.sIx_none, HT.sIx_nat, T_len]
  show T ((l.drop (min k l.length)).take (l.length - min k l.length)) = _
  have e : (l.drop (min k l.length)).length = l.length - min k l.length := List.length_drop
  rw [← e, List.take_length]
  congr 1
  by_cases h : k ≤ l.length
  · rw [Nat.min_eq_left h]
  · rw [Nat.min_eq_right (by omega), List.drop_length, List.drop_eq_nil_of_le (by omega)]
theorem ev_sl {tl th : TO} {l : List Nat} {lo hi : Option Int} (h : Ev te σ H (.str (T l))) (h1 : EvO tl σ H lo) (h2 : EvO th σ H hi) (hl : l.length ≤ 100000) : Ev (tSl rSlS te tl th) σ H (.str (cutS (T l) lo hi)) := fun H1 e Q q =>
  h H1 e _ fun H2 e2 => h1 H2 (e.trans e2) _ fun H3 e3 => h2 H3 ((e.trans e2).trans e3) _ fun H4 e4 => ⟨T l, rfl, sz_of (by rw [T_len]; exact hl), q H4 ((e2.trans e3).trans e4)⟩
theorem ev_take {th : TE} {l : List Nat} {k : Nat} (h : Ev te σ H (.str (T l))) (h2 : Ev th σ H (.int (k : Int))) (hl : l.length ≤ 100000) : Ev (tSl rSlS te tNoPart (tPart th)) σ H (.str (T (l.take k))) := by
  rw [← cut_to]; exact ev_sl h eo_none (eo_some h2) hl
theorem ev_drop {th : TE} {l : List Nat} {k : Nat} (h : Ev te σ H (.str (T l))) (h2 : Ev th σ H (.int (k : Int))) (hl : l.length ≤ 100000) : Ev (tSl rSlS te (tPart th) tNoPart) σ H (.str (T (l.drop k))) := by
  rw [← cut_from]; exact ev_sl h (eo_some h2) eo_none hl
theorem ev_rev {l : List Nat} (h : Ev te σ H (.str (T l))) (hl : l.length ≤ 1000) : Ev (tRevS te) σ H (.str (T l.reverse)) := fun H1 e Q q => h H1 e _ fun H2 e2 => ⟨l, rfl, hl, q H2 e2⟩
/-- told[sign] -/
theorem ev_told {d : Addr} {n c : Nat} {ps : List (Nat × Nat)} (h1 : Ev td σ H (.ref d)) (h2 : Ev ty σ H (one c)) (ht : Told H d n ps) (hc : c ∈ lets n) : Ev (tDGet td ty) σ H (.str (T (fl ps c))) := fun H1 e Q q =>
  h1 H1 e _ fun H2 e2 => h2 H2 (e.trans e2) _ fun H3 e3 => ⟨d, _, rfl, by
    have := DGet.k (k := .inr (T [c])) (Told.ex ((e.trans e2).trans e3) ht)
    have h0 : valV (toldK n ps) (.inr (T [c])) = some (.str (T (fl ps c))) := told_val ps c (lets n) hc
    rw [h0] at this
    exact this, q H3 (e2.trans e3)⟩
/-- isinstance of one class -/
theorem ev_isi {a b : String} {r : Bool} (ha : Ev ta σ H x) (hb : Ev tb σ H (.ty b)) (hx : ∀ H1, Ex H H1 → TyX K H1 x (.type a)) (h : kitB a b = some r) : Ev (tCB (rIsi K) (tCons ta (tCons tb tNil))) σ H (.bl r) := fun H1 e Q q =>
  ha H1 e _ fun H2 e2 => hb H2 (e.trans e2) _ fun H3 e3 => ⟨x, .ty b, .type a, .type b, r, rfl, .ty b, hx H3 ((e.trans e2).trans e3), kit_ty h, q H3 (e2.trans e3)⟩
end
end K5
end
section
namespace K5
open PySem PySem.Spec PyProof.Rows L2 Evl
/-! ### comprehensions and loops over what is pure -/
/-- what is walked: the things xs, each as enc says -/
def YE {α : Type} (xs : List α) (enc : α → V) : Nat → Hp → V → Hp → Prop := fun i H x H' => H' = H ∧ ∃ a, xs[i]? = some a ∧ x = enc a
def IW {α : Type} (wi : TI) (σ : L2.St) (H : Hp) (xs : List α) (enc : α → V) : Prop := ∀ H1, Ex H H1 → ∀ R : It → Hp → Prop,
  (∀ (J : It) (G : Hp → Prop) (H2 : Hp), Ex H1 H2 → Walk J xs.length G (YE xs enc) → (∀ H3, Ex H2 H3 → G H3) → R J H2) → wi σ H1 R
section
variable {K : PySem.W.Frag} {σ : L2.St} {H H' : Hp} {ta tb tc te td ty : TE} {t u : TT} {x y z v : V} {α : Type} {xs : List α} {enc : α → V}
theorem iw_str {l : List Nat} (h : Ev te σ H (.str (T l))) : IW (iStr te) σ H l one := fun H1 e R r => h H1 e _ fun H2 e2 => ⟨T l, rfl, r _ (fun _ => True) H2 e2 (by
  have w := walk_str (z := T l)
  have ez : (T l).cps.size = l.length := by show l.toArray.size = _; simp
  rw [ez] at w
  exact w.mono (fun _ h => h) fun i H x H' _ _ y => ⟨y.1, by
    obtain ⟨_, c, h1, h2⟩ := y
    exact ⟨c, by simpa [T] using h1, h2⟩⟩) fun _ _ => trivial⟩
theorem iw_list {p : Addr} (h : Ev te σ H (.ref p)) (hp : SqL K H p (xs.map enc)) : IW (iList K te) σ H xs enc := fun H1 e R r => h H1 e _ fun H2 e2 => ⟨p, rfl, ⟨_, ex_l (e.trans e2) hp⟩, r _ (fun H3 => SqL K H3 p (xs.map enc)) H2 e2 (by
  have w := walk_list (K := K) (a := p) (xs := xs.map enc)
  rw [List.length_map] at w
  refine w.mono (fun _ h => h) fun i H x H' _ _ y => ⟨y.1, ?_⟩
  have := y.2
  rw [List.getElem?_map] at this
  obtain ⟨a, h1, h2⟩ := Option.map_eq_some_iff.mp this
  exact ⟨a, h1, h2.symm⟩) fun H3 e3 => ex_l ((e.trans e2).trans e3) hp⟩
theorem iw_listN (h : EvL te σ H (xs.map enc)) : IW (iList K te) σ H xs enc := fun H1 e R r => h H1 e _ fun p H2 hn e2 hp => ⟨p, rfl, ⟨_, sq_of hp⟩, r _ (fun H3 => SqL K H3 p (xs.map enc)) H2 e2 (by
  have w := walk_list (K := K) (a := p) (xs := xs.map enc)
  rw [List.length_map] at w
  refine w.mono (fun _ h => h) fun i H x H' _ _ y => ⟨y.1, ?_⟩
  have := y.2
  rw [List.getElem?_map] at this
  obtain ⟨a, h1, h2⟩ := Option.map_eq_some_iff.mp this
  exact ⟨a, h1, h2.symm⟩) fun H3 e3 => sq_of (e3 _ _ hp)⟩
theorem iw_tup {p : Addr} (h : Ev te σ H (.ref p)) (hp : SqT K H p (xs.map enc)) : IW (iTup K te) σ H xs enc := fun H1 e R r => h H1 e _ fun H2 e2 => ⟨p, rfl, ⟨_, ex_t (e.trans e2) hp⟩, r _ (fun H3 => SqT K H3 p (xs.map enc)) H2 e2 (by
  have w := walk_tup (K := K) (a := p) (xs := xs.map enc)
  rw [List.length_map] at w
  refine w.mono (fun _ h => h) fun i H x H' _ _ y => ⟨y.1, ?_⟩
  have := y.2
  rw [List.getElem?_map] at this
  obtain ⟨a, h1, h2⟩ := Option.map_eq_some_iff.mp this
  exact ⟨a, h1, h2.symm⟩) fun H3 e3 => ex_t ((e.trans e2).trans e3) hp⟩
def num (i : Nat) : V := .int (i : Int)
theorem iw_rng {ta : TA} {n : Nat} (h : EvA ta σ H [.int (n : Int)]) (hn : n ≤ 100000) : IW (iRng1 ta) σ H (List.range n) num := fun H1 e R r => h H1 e _ fun H2 e2 => ⟨(n : Int), rfl, by omega, by omega, by
  have w := walk_range (lo := 0) (n := n)
  have := r (Itr 0 n) (fun _ => True) H2 e2 (by
    rw [List.length_range]
    refine w.mono (fun _ h => h) fun i H x H' hi _ y => ⟨y.1, i, by simp [hi], ?_⟩
    have := y.2
    rw [this]
    show V.int (0 + (i : Int)) = V.int i
    rw [Int.zero_add]) fun _ _ => trivial
  exact this⟩
theorem iw_rngI {ta : TA} {m : Int} {n : Nat} (h : EvA ta σ H [.int m]) (hm : m.toNat = n) (h1 : -1 ≤ m) (hn : n ≤ 100000) : IW (iRng1 ta) σ H (List.range n) num := fun H1 e R r => h H1 e _ fun H2 e2 => ⟨m, rfl, by omega, by omega, by
  have w := walk_range (lo := 0) (n := n)
  have := r (Itr 0 n) (fun _ => True) H2 e2 (by
    rw [List.length_range]
    refine w.mono (fun _ h => h) fun i H x H' hi _ y => ⟨y.1, i, by simp [hi], ?_⟩
    have := y.2
    rw [this]
    show V.int (0 + (i : Int)) = V.int i
    rw [Int.zero_add]) fun _ _ => trivial
  rw [hm]
  exact this⟩
def sel (xs : List α) (p : α → Bool) (v : α → V) : List V := (xs.filter p).map v
theorem sel_snoc {i : Nat} {a : α} (p : α → Bool) (v : α → V) (h : xs[i]? = some a) : sel (xs.take (i + 1)) p v = sel (xs.take i) p v ++ (if p a = true then [v a] else []) := by
  have hi : i < xs.length := (List.getElem?_eq_some_iff.mp h).1
  have ha : xs[i] = a := (List.getElem?_eq_some_iff.mp h).2
  unfold sel
  rw [List.take_succ_eq_append_getElem hi, List.filter_append, List.map_append, ha, List.filter_cons]
  by_cases hp : p a = true
  · rw [if_pos hp, if_pos hp]; rfl
  · rw [if_neg hp, if_neg hp]; rfl
theorem sel_len (xs : List α) (p : α → Bool) (v : α → V) : (sel xs p v).length ≤ xs.length := by
  unfold sel
  rw [List.length_map]
  exact List.length_filter_le _ _
/-- a list comprehension, name as target, nothing changed -/
theorem el_lc {wi : TI} {j : Nat} {vs : List Nat} (p : α → Bool) (v : α → V) (h : IW wi σ H xs enc) (hz : xs.length ≤ 40000) (hw : ∀ x, wipe ((wipe σ vs).set j (some x)) vs = wipe σ vs)
    (ht : ∀ a ∈ xs, EvT t ((wipe σ vs).set j (some (enc a))) H (p a)) (he : ∀ a ∈ xs, p a = true → Ev te ((wipe σ vs).set j (some (enc a))) H (v a)) :
    EvL (tLc wi (gName j) t te vs) σ H (sel xs p v) := fun H0 e Q q => h H0 e _ fun J G H1 e1 w hG D hD =>
  lc_it w (fun i H' => Ex H1 H' ∧ H' D = some (.lst (sel (xs.take i) p v))) ⟨Ex.new hD, upd_same⟩ (fun i H' _ h => hG H' h.1) (fun i x H' H'' hi h y => by
    obtain ⟨e2, hd⟩ := h
    obtain ⟨rfl, a, ha, rfl⟩ := y
    have hm : a ∈ xs := List.mem_of_getElem? ha
    refine ⟨hw _, ht a hm H'' ((e.trans e1).trans e2) _ fun H3 e3 => ?_⟩
    by_cases hp : p a = true
    · rw [if_pos hp]
      refine he a hm hp H3 (((e.trans e1).trans e2).trans e3) _ fun H4 e4 => ⟨_, e4 D _ (e3 D _ hd), sz_lt (by have := sel_len (xs.take i) p v; rw [List.length_take] at this; omega), Ex.mut ((e2.trans e3).trans e4) hD, ?_⟩
      rw [upd_same, sel_snoc p v ha, if_pos hp]
    · rw [if_neg hp]
      refine ⟨e2.trans e3, ?_⟩
      rw [sel_snoc p v ha, if_neg hp, List.append_nil]
      exact e3 D _ hd) (fun H' h => q D H' (fresh_back e1 hD) (e1.trans h.1) (by have := h.2; rw [List.take_length] at this; exact this))
theorem et_yes : EvT tYes σ H true := fun H1 _ Q q => q H1 (Ex.refl H1)
theorem filter_yes (xs : List α) : xs.filter (fun _ => true) = xs := List.filter_eq_self.mpr fun _ _ => rfl
/-- .. without a test -/
theorem el_lcY {wi : TI} {j : Nat} {vs : List Nat} (v : α → V) (h : IW wi σ H xs enc) (hz : xs.length ≤ 40000) (hw : ∀ x, wipe ((wipe σ vs).set j (some x)) vs = wipe σ vs)
    (he : ∀ a ∈ xs, Ev te ((wipe σ vs).set j (some (enc a))) H (v a)) : EvL (tLc wi (gName j) tYes te vs) σ H (xs.map v) := by
  have := el_lc (t := tYes) (te := te) (fun _ => true) v h hz hw (fun _ _ => et_yes) fun a ha _ => he a ha
  unfold sel at this
  rw [filter_yes] at this
  exact this
/-- a for over it -/
theorem s_forW {wi : TI} {j : Nat} {tb : TS} {D : Ends} (h : IW wi σ H xs enc) (Pv : Hp → Nat → L2.St → Hp → Prop) (h0 : ∀ H1, Ex H H1 → Pv H1 0 σ H1) (hE : ∀ H1 i σ' H', Pv H1 i σ' H' → Ex H1 H')
    (hs : ∀ H1 i a σ' H', Ex H H1 → xs[i]? = some a → Pv H1 i σ' H' → tb { D with nx := Pv H1 (i + 1), ct := Pv H1 (i + 1), bk := D.nx } (σ'.set j (some (enc a))) H') (hd : ∀ H1 σ' H', Ex H H1 → Pv H1 xs.length σ' H' → D.nx σ' H') : tFor wi (gName j) tb D σ H :=
  h H (Ex.refl H) _ fun J G H1 e1 w hG => for_it w (Pv H1) (h0 H1 e1) (fun i σ' H' _ h => hG H' (hE H1 i σ' H' h)) (fun i x σ' H' H'' hi hp y => by
    obtain ⟨rfl, a, ha, rfl⟩ := y
    exact hs H1 i a σ' H'' e1 ha hp) fun σ' H' h => hd H1 σ' H' e1 h
theorem q_forW {wi : TI} {j : Nat} {tb tz : TS} {D : Ends} (h : IW wi σ H xs enc) (Pv : Hp → Nat → L2.St → Hp → Prop) (h0 : ∀ H1, Ex H H1 → Pv H1 0 σ H1) (hE : ∀ H1 i σ' H', Pv H1 i σ' H' → Ex H1 H')
    (hs : ∀ H1 i a σ' H', Ex H H1 → xs[i]? = some a → Pv H1 i σ' H' → tb { D with nx := Pv H1 (i + 1), ct := Pv H1 (i + 1), bk := tz D } (σ'.set j (some (enc a))) H') (hd : ∀ H1 σ' H', Ex H H1 → Pv H1 xs.length σ' H' → tz D σ' H') : tSeq (tFor wi (gName j) tb) tz D σ H :=
  s_forW (D := { D with nx := tz D }) h Pv h0 hE hs hd
/-- the letters of told that are not met: rest = [sign for sign in told if sign not in met] -/
theorem q_rest {i j dd m : Nat} {tz : TS} {D : Ends} {d : Addr} {n : Nat} {ps : List (Nat × Nat)} {w : List Nat} (hd : σ[dd]? = some (some (.ref d))) (hm : σ[m]? = some (some (.str (T w)))) (hjd : dd ≠ j) (hjm : m ≠ j) (hj : j < σ.length) (hn : n ≤ 7) (ht : Told H d n ps)
    (hw : ∀ x, wipe ((wipe σ [j]).set j (some x)) [j] = wipe σ [j])
    (k : ∀ p H1, H p = none → Ex H H1 → H1 p = some (.lst ((rst n w).map one)) → tz D (σ.set i (some (.ref p))) H1) :
    tSeq (tLock (tAsg (tLc (iKeys (tVar dd)) (gName j) (tTest (tOp (fun x y H Q => ∃ (c : Nat) (z : Str), x = .str ⟨#[c]⟩ ∧ y = .str z ∧ Q (.bl (!decide (c ∈ z.cps.toList))) H) (tVar j) (tVar m))) (tVar j) [j]) (gName i))) tz D σ H := by
  refine ⟨d, _, ht, trivial, fun od => ?_⟩
  refine ⟨_, hd, d, od, rfl, .inl ⟨_, upd_same, fun L hL => ?_⟩⟩
  have hLd : L ≠ d := fun z => by rw [z, upd_same] at hL; cases hL
  have hLn : H L = none := by rw [upd_ne hLd] at hL; exact hL
  have ez : (toldK n ps).length = (lets n).length := List.length_map _
  have wk := walk_keys (d := d) (o := od) (kvs := toldK n ps)
  rw [ez] at wk
  refine lc_it wk (fun i H' => H' = upd (upd H d (.frz od (.dK (toldK n ps)))) L (.lst (sel ((lets n).take i) (fun c => !w.contains c) one))) rfl (fun i H' _ h => by rw [h, upd_ne (Ne.symm hLd), upd_same]) (fun i x H' H'' hi h y => ?_) (fun H' h => ?_)
  · obtain ⟨rfl, kk, vv, h1, rfl⟩ := y
    have h2 : ((lets n)[i]?).map (fun c => ((.inr (T [c]) : Key), V.str (T (fl ps c)))) = some (kk, vv) := by
      rw [← List.getElem?_map]; exact h1
    obtain ⟨c, hc, e⟩ := Option.map_eq_some_iff.mp h2
    have e1 : kk = .inr (T [c]) := (congrArg Prod.fst e).symm
    subst e1
    refine ⟨hw _, ?_⟩
    have hjv : ((wipe σ [j]).set j (some (kV (.inr (T [c])))))[j]? = some (some (one c)) := by
      rw [List.getElem?_set_self (by rw [wipe_length]; exact hj)]; rfl
    have hmv : ((wipe σ [j]).set j (some (kV (.inr (T [c])))))[m]? = some (some (.str (T w))) := by
      rw [List.getElem?_set_ne (Ne.symm hjm), wipe_out (by simp [hjm])]; exact hm
    refine ⟨_, hjv, _, hmv, c, T w, rfl, rfl, _, rfl, ?_⟩
    have e5 : (!decide (c ∈ (T w).cps.toList)) = !w.contains c := by
      show (!decide (c ∈ w)) = _
      rw [List.contains_eq_mem]
    rw [e5]
    dsimp only
    by_cases hp : (!w.contains c) = true
    · rw [if_pos hp]
      refine ⟨_, hjv, _, by rw [h, upd_same], sz_lt (by have := sel_len ((lets n).take i) (fun c => !w.contains c) one; rw [List.length_take] at this; have := len_lets n hn; omega), ?_⟩
      rw [h, upd_upd, sel_snoc (fun c => !w.contains c) one hc, if_pos hp]
    · rw [if_neg hp, h, sel_snoc (fun c => !w.contains c) one hc, if_neg hp, List.append_nil]
  · have e6 : sel ((lets n).take (lets n).length) (fun c => !w.contains c) one = (rst n w).map one := by rw [List.take_length]; rfl
    rw [e6] at h
    refine ⟨by rw [h, upd_ne (Ne.symm hLd), upd_same], k L _ hLn ?_ ?_⟩
    · intro a u ha
      by_cases hda : a = d
      · subst hda; rw [upd_same, ← ha]; exact ht.symm
      · rw [upd_ne hda, h, upd_ne (fun z => by rw [z, hLn] at ha; cases ha), upd_ne hda]; exact ha
    · rw [upd_ne hLd, h, upd_same]
end
end K5
end
section
namespace K5
open PySem PySem.Spec PyProof.Rows L2 Evl
def top (i : Nat) : Stmt := PySem.Challenge.pw_oncewords_k50_whole_duels.main.body.getD i (.Pass ⟨0, 0, 0, 0⟩)
structure DefA (K : PySem.W.Frag) (mg : Str → Option Value) (x : Str) (st : Stmt) (ps : List Str) : Prop where
  ex : ∃ (f : Addr) (fd : FuncData), L2.Fun K x x st f fd ∧ mg x = some (.ref f) ∧ Binds K fd ps []
theorem DefA.cal {P : Program} {w : World} {K : PySem.W.Frag} {mg : Str → Option Value} {base : Heap} {x : Str} {st : Stmt} {N ps : List Str} {k : Nat} {sp : Sp} (F : DefA K mg x st ps) (S : FnScope N ps (defScope st)) (len : ∀ vs H Q E, sp vs H Q E → vs.length = ps.length)
    (hbody : ∀ (cdv : Value) (f : Addr) (A : Around) (outer : List Env) (s : Shared) (H : Hp) (vs : List V) (Q : VK) (E : XK), Room k (A.deeper (envOfC x (defScope st) s.heap.objs.size f cdv)) → sp vs H Q E →
      ∃ t, PSs (cxOf CX0 P w K mg base N x (defScope st) f cdv A outer s H E).nox (defBody st) t ∧ t { nx := fun _ H' => Q .non H', rt := Q } (start N vs) H) : C8.Cal P w K mg base (k + 1) x sp [] := by
  obtain ⟨f, fd, h1, h2, h3⟩ := F.ex
  exact ⟨f, fd, ps, [], h1.ok S len (fun cdv => hbody cdv f), h2, h1.kp, h3, .nil⟩
theorem u65_of {k : Nat} {A : Around} (hr : Room k A) : A.units + 65 < cLine := Nat.lt_of_le_of_lt (by omega) hr.un
abbrev s_whole : Stmt := top 8
abbrev N_whole : List Str := ["value"]
theorem sc_whole : FnScope N_whole ["value"] (defScope s_whole) := ⟨rfl, rfl, rfl, by decide +kernel, rfl, by decide +kernel, by decide +kernel⟩
abbrev s_within : Stmt := top 9
abbrev N_within : List Str := ["value", "low", "high"]
theorem sc_within : FnScope N_within ["value", "low", "high"] (defScope s_within) := ⟨rfl, rfl, rfl, by decide +kernel, rfl, by decide +kernel, by decide +kernel⟩
abbrev s_need_number : Stmt := top 10
abbrev N_need_number : List Str := ["value", "low", "high"]
theorem sc_need_number : FnScope N_need_number ["value", "low", "high"] (defScope s_need_number) := ⟨rfl, rfl, rfl, by decide +kernel, rfl, by decide +kernel, by decide +kernel⟩
abbrev s_tuple_of : Stmt := top 11
abbrev N_tuple_of : List Str := ["value", "low", "high"]
theorem sc_tuple_of : FnScope N_tuple_of ["value", "low", "high"] (defScope s_tuple_of) := ⟨rfl, rfl, rfl, by decide +kernel, rfl, by decide +kernel, by decide +kernel⟩
abbrev s_need_company : Stmt := top 12
abbrev N_need_company : List Str := ["company", "index", "pair", "letter"]
theorem sc_need_company : FnScope N_need_company ["company"] (defScope s_need_company) := ⟨rfl, rfl, rfl, by decide +kernel, rfl, by decide +kernel, by decide +kernel⟩
abbrev s_is_set : Stmt := top 13
abbrev N_is_set : List Str := ["company", "value", "at", "sign"]
theorem sc_is_set : FnScope N_is_set ["company", "value"] (defScope s_is_set) := ⟨rfl, rfl, rfl, by decide +kernel, rfl, by decide +kernel, by decide +kernel⟩
abbrev s_friends_of_all : Stmt := top 14
abbrev N_friends_of_all : List Str := ["company", "found", "one", "other", "sign"]
theorem sc_friends_of_all : FnScope N_friends_of_all ["company"] (defScope s_friends_of_all) := ⟨rfl, rfl, rfl, by decide +kernel, rfl, by decide +kernel, by decide +kernel⟩
abbrev s_least_order : Stmt := top 15
abbrev N_least_order : List Str := ["told", "order", "rest", "found", "sign", "ahead", "other"]
theorem sc_least_order : FnScope N_least_order ["told", "order"] (defScope s_least_order) := ⟨rfl, rfl, rfl, by decide +kernel, rfl, by decide +kernel, by decide +kernel⟩
abbrev s_is_kind : Stmt := top 16
abbrev N_is_kind : List Str := ["company", "value"]
theorem sc_is_kind : FnScope N_is_kind ["company", "value"] (defScope s_is_kind) := ⟨rfl, rfl, rfl, by decide +kernel, rfl, by decide +kernel, by decide +kernel⟩
abbrev s_need_kind : Stmt := top 17
abbrev N_need_kind : List Str := ["company", "kind"]
theorem sc_need_kind : FnScope N_need_kind ["company", "kind"] (defScope s_need_kind) := ⟨rfl, rfl, rfl, by decide +kernel, rfl, by decide +kernel, by decide +kernel⟩
abbrev s_joined : Stmt := top 18
abbrev N_joined : List Str := ["told", "one", "other", "sign"]
theorem sc_joined : FnScope N_joined ["told", "one", "other"] (defScope s_joined) := ⟨rfl, rfl, rfl, by decide +kernel, rfl, by decide +kernel, by decide +kernel⟩
abbrev s_value_of : Stmt := top 20
abbrev N_value_of : List Str := ["told", "met", "turn", "known", "rest", "key", "some", "sign"]
theorem sc_value_of : FnScope N_value_of ["told", "met", "turn", "known"] (defScope s_value_of) := ⟨rfl, rfl, rfl, by decide +kernel, rfl, by decide +kernel, by decide +kernel⟩
abbrev s_later_of : Stmt := top 21
abbrev N_later_of : List Str := ["met", "sign"]
theorem sc_later_of : FnScope N_later_of ["met", "sign"] (defScope s_later_of) := ⟨rfl, rfl, rfl, by decide +kernel, rfl, by decide +kernel, by decide +kernel⟩
abbrev s_gain_of : Stmt := top 22
abbrev N_gain_of : List Str := ["told", "met", "sign", "other"]
theorem sc_gain_of : FnScope N_gain_of ["told", "met", "sign"] (defScope s_gain_of) := ⟨rfl, rfl, rfl, by decide +kernel, rfl, by decide +kernel, by decide +kernel⟩
abbrev s_rising_of : Stmt := top 23
abbrev N_rising_of : List Str := ["told", "kind", "at", "sign"]
theorem sc_rising_of : FnScope N_rising_of ["told", "kind"] (defScope s_rising_of) := ⟨rfl, rfl, rfl, by decide +kernel, rfl, by decide +kernel, by decide +kernel⟩
abbrev s_rising : Stmt := top 24
abbrev N_rising : List Str := ["company", "kind"]
theorem sc_rising : FnScope N_rising ["company", "kind"] (defScope s_rising) := ⟨rfl, rfl, rfl, by decide +kernel, rfl, by decide +kernel, by decide +kernel⟩
abbrev s_need_play : Stmt := top 25
abbrev N_need_play : List Str := ["company", "kind", "turn"]
theorem sc_need_play : FnScope N_need_play ["company", "kind", "turn"] (defScope s_need_play) := ⟨rfl, rfl, rfl, by decide +kernel, rfl, by decide +kernel, by decide +kernel⟩
abbrev s_best_rising : Stmt := top 26
abbrev N_best_rising : List Str := ["company", "kind", "turn", "told"]
theorem sc_best_rising : FnScope N_best_rising ["company", "kind", "turn"] (defScope s_best_rising) := ⟨rfl, rfl, rfl, by decide +kernel, rfl, by decide +kernel, by decide +kernel⟩
abbrev s_best_letter : Stmt := top 27
abbrev N_best_letter : List Str := ["company", "kind", "turn", "told", "met", "known", "rest", "worths", "best", "sign"]
theorem sc_best_letter : FnScope N_best_letter ["company", "kind", "turn"] (defScope s_best_letter) := ⟨rfl, rfl, rfl, by decide +kernel, rfl, by decide +kernel, by decide +kernel⟩
abbrev s_best_play : Stmt := top 28
abbrev N_best_play : List Str := ["company", "kind", "turn", "told", "found", "known", "met", "rest", "worths", "sign"]
theorem sc_best_play : FnScope N_best_play ["company", "kind", "turn"] (defScope s_best_play) := ⟨rfl, rfl, rfl, by decide +kernel, rfl, by decide +kernel, by decide +kernel⟩
abbrev s_most_rising : Stmt := top 29
abbrev N_most_rising : List Str := ["company", "kind", "told", "rest", "sign"]
theorem sc_most_rising : FnScope N_most_rising ["company", "kind"] (defScope s_most_rising) := ⟨rfl, rfl, rfl, by decide +kernel, rfl, by decide +kernel, by decide +kernel⟩
abbrev s_fewest_rising : Stmt := top 30
abbrev N_fewest_rising : List Str := ["company", "kind", "told", "rest", "sign"]
theorem sc_fewest_rising : FnScope N_fewest_rising ["company", "kind"] (defScope s_fewest_rising) := ⟨rfl, rfl, rfl, by decide +kernel, rfl, by decide +kernel, by decide +kernel⟩
abbrev s__law_taken : Stmt := top 32
abbrev N__law_taken : List Str := ["_law_row", "_law_many", "_law_found", "_law_cell"]
theorem sc__law_taken : FnScope N__law_taken ["_law_row", "_law_many"] (defScope s__law_taken) := ⟨rfl, rfl, rfl, by decide +kernel, rfl, by decide +kernel, by decide +kernel⟩
abbrev s__law_pairs : Stmt := top 33
abbrev N__law_pairs : List Str := ["_law_many", "_law_found", "_law_one", "_law_other"]
theorem sc__law_pairs : FnScope N__law_pairs ["_law_many"] (defScope s__law_pairs) := ⟨rfl, rfl, rfl, by decide +kernel, rfl, by decide +kernel, by decide +kernel⟩
abbrev s__law_company : Stmt := top 34
abbrev N__law_company : List Str := ["_law_row", "_law_most", "_law_many", "_law_ways", "_law_pairs_here", "_law_pair"]
theorem sc__law_company : FnScope N__law_company ["_law_row", "_law_most"] (defScope s__law_company) := ⟨rfl, rfl, rfl, by decide +kernel, rfl, by decide +kernel, by decide +kernel⟩
abbrev s__law_firsts : Stmt := top 35
abbrev N__law_firsts : List Str := ["_law_word_here", "_law_at"]
theorem sc__law_firsts : FnScope N__law_firsts ["_law_word_here"] (defScope s__law_firsts) := ⟨rfl, rfl, rfl, by decide +kernel, rfl, by decide +kernel, by decide +kernel⟩
abbrev s__law_friend : Stmt := top 36
abbrev N__law_friend : List Str := ["_law_company_here", "_law_one", "_law_other", "_law_signs"]
theorem sc__law_friend : FnScope N__law_friend ["_law_company_here", "_law_one", "_law_other"] (defScope s__law_friend) := ⟨rfl, rfl, rfl, by decide +kernel, rfl, by decide +kernel, by decide +kernel⟩
abbrev s__law_kind : Stmt := top 37
abbrev N__law_kind : List Str := ["_law_company_here", "_law_word_here", "_law_rest", "_law_found", "_law_turn", "_law_free", "_law_at", "_law_sign"]
theorem sc__law_kind : FnScope N__law_kind ["_law_company_here", "_law_word_here"] (defScope s__law_kind) := ⟨rfl, rfl, rfl, by decide +kernel, rfl, by decide +kernel, by decide +kernel⟩
abbrev s__law_word : Stmt := top 38
abbrev N__law_word : List Str := ["_law_row", "_law_company_here", "_law_most", "_law_at"]
theorem sc__law_word : FnScope N__law_word ["_law_row", "_law_company_here", "_law_most"] (defScope s__law_word) := ⟨rfl, rfl, rfl, by decide +kernel, rfl, by decide +kernel, by decide +kernel⟩
abbrev s__law_drawn_kind : Stmt := top 39
abbrev N__law_drawn_kind : List Str := ["_law_row", "_law_company_here"]
theorem sc__law_drawn_kind : FnScope N__law_drawn_kind ["_law_row", "_law_company_here"] (defScope s__law_drawn_kind) := ⟨rfl, rfl, rfl, by decide +kernel, rfl, by decide +kernel, by decide +kernel⟩
abbrev s__law_rising : Stmt := top 40
abbrev N__law_rising : List Str := ["_law_company_here", "_law_order", "_law_found", "_law_at", "_law_sign"]
theorem sc__law_rising : FnScope N__law_rising ["_law_company_here", "_law_order"] (defScope s__law_rising) := ⟨rfl, rfl, rfl, by decide +kernel, rfl, by decide +kernel, by decide +kernel⟩
abbrev s__law_value : Stmt := top 41
abbrev N__law_value : List Str := ["_law_company_here", "_law_order", "_law_turn", "_law_rest", "_law_some", "_law_sign"]
theorem sc__law_value : FnScope N__law_value ["_law_company_here", "_law_order", "_law_turn"] (defScope s__law_value) := ⟨rfl, rfl, rfl, by decide +kernel, rfl, by decide +kernel, by decide +kernel⟩
abbrev s__law_alike : Stmt := top 42
abbrev N__law_alike : List Str := ["_law_found", "_law_due", "_law_k"]
theorem sc__law_alike : FnScope N__law_alike ["_law_found", "_law_due"] (defScope s__law_alike) := ⟨rfl, rfl, rfl, by decide +kernel, rfl, by decide +kernel, by decide +kernel⟩
abbrev s__law_orders : Stmt := top 43
abbrev N__law_orders : List Str := ["_law_letters", "_law_rows", "_law_turn", "_law_longer", "_law_told", "_law_sign"]
theorem sc__law_orders : FnScope N__law_orders ["_law_letters"] (defScope s__law_orders) := ⟨rfl, rfl, rfl, by decide +kernel, rfl, by decide +kernel, by decide +kernel⟩
abbrev s_law : Stmt := top 44
abbrev N_law : List Str := ["_law_script", "_law_row", "_law_company_here", "_law_kind_here", "_law_turn", "_law_value_here", "_law_rest", "_law_best", "_law_here", "_law_mover", "_law_due", "_law_step", "_law_goal", "_law_some", "_law_ends", "_law_order", "_law_sign"]
theorem sc_law : FnScope N_law ["_law_script"] (defScope s_law) := ⟨rfl, rfl, rfl, by decide +kernel, rfl, by decide +kernel, by decide +kernel⟩
structure Prog (K : PySem.W.Frag) (mg : Str → Option Value) (ta tm : Tok) : Prop where
  B : Blt mg ta tm
  d_whole : DefA K mg "whole" s_whole ["value"]
  d_within : DefA K mg "within" s_within ["value", "low", "high"]
  d_need_number : DefA K mg "need_number" s_need_number ["value", "low", "high"]
  d_tuple_of : DefA K mg "tuple_of" s_tuple_of ["value", "low", "high"]
  d_need_company : DefA K mg "need_company" s_need_company ["company"]
  d_is_set : DefA K mg "is_set" s_is_set ["company", "value"]
  d_friends_of_all : DefA K mg "friends_of_all" s_friends_of_all ["company"]
  d_least_order : DefA K mg "least_order" s_least_order ["told", "order"]
  d_is_kind : DefA K mg "is_kind" s_is_kind ["company", "value"]
  d_need_kind : DefA K mg "need_kind" s_need_kind ["company", "kind"]
  d_joined : DefA K mg "joined" s_joined ["told", "one", "other"]
  d_value_of : DefA K mg "value_of" s_value_of ["told", "met", "turn", "known"]
  d_later_of : DefA K mg "later_of" s_later_of ["met", "sign"]
  d_gain_of : DefA K mg "gain_of" s_gain_of ["told", "met", "sign"]
  d_rising_of : DefA K mg "rising_of" s_rising_of ["told", "kind"]
  d_rising : DefA K mg "rising" s_rising ["company", "kind"]
  d_need_play : DefA K mg "need_play" s_need_play ["company", "kind", "turn"]
  d_best_rising : DefA K mg "best_rising" s_best_rising ["company", "kind", "turn"]
  d_best_letter : DefA K mg "best_letter" s_best_letter ["company", "kind", "turn"]
  d_best_play : DefA K mg "best_play" s_best_play ["company", "kind", "turn"]
  d_most_rising : DefA K mg "most_rising" s_most_rising ["company", "kind"]
  d_fewest_rising : DefA K mg "fewest_rising" s_fewest_rising ["company", "kind"]
  d__law_taken : DefA K mg "_law_taken" s__law_taken ["_law_row", "_law_many"]
  d__law_pairs : DefA K mg "_law_pairs" s__law_pairs ["_law_many"]
  d__law_company : DefA K mg "_law_company" s__law_company ["_law_row", "_law_most"]
  d__law_firsts : DefA K mg "_law_firsts" s__law_firsts ["_law_word_here"]
  d__law_friend : DefA K mg "_law_friend" s__law_friend ["_law_company_here", "_law_one", "_law_other"]
  d__law_kind : DefA K mg "_law_kind" s__law_kind ["_law_company_here", "_law_word_here"]
  d__law_word : DefA K mg "_law_word" s__law_word ["_law_row", "_law_company_here", "_law_most"]
  d__law_drawn_kind : DefA K mg "_law_drawn_kind" s__law_drawn_kind ["_law_row", "_law_company_here"]
  d__law_rising : DefA K mg "_law_rising" s__law_rising ["_law_company_here", "_law_order"]
  d__law_value : DefA K mg "_law_value" s__law_value ["_law_company_here", "_law_order", "_law_turn"]
  d__law_alike : DefA K mg "_law_alike" s__law_alike ["_law_found", "_law_due"]
  d__law_orders : DefA K mg "_law_orders" s__law_orders ["_law_letters"]
  d_law : DefA K mg "law" s_law ["_law_script"]

end K5
end
section
namespace K5
open PySem PySem.Spec PyProof.Rows L2 Evl
section
variable {P : Program} {w : World} {K : PySem.W.Frag} {mg : Str → Option Value} {base : Heap} {ta tm : Tok}
/-! ### whole -/
def pWhole : List V → Hp → V → Prop := fun vs _ z => ∃ i : Int, vs = [.int i] ∧ z = .bl true
theorem c_whole (p : Prog K mg ta tm) : C8.Cal P w K mg base 1 "whole" (spE pWhole) [] := by
  have B := p.B
  refine p.d_whole.cal sc_whole (spE_len fun vs H z ⟨i, e, _⟩ => by rw [e]; rfl) fun cdv f A outer s H vs Q E hr h => ?_
  obtain ⟨z, ⟨i, rfl, rfl⟩, q⟩ := h
  refine ⟨_, (pss_one (ps_ret (pe_and (pe_callB call_isi (by rfl) B.isinstance (by decide +kernel) (pa_cons (pv 0) (pa_cons (pe_bltn (v := .ty "int") rfl B.int (by decide +kernel) rfl) pa_nil))) (pe_one (pe_not (pe_callB call_isi (by rfl) B.isinstance (by decide +kernel) (pa_cons (pv 0) (pa_cons (pe_bltn (v := .ty "bool") rfl B.bool (by decide +kernel) rfl) pa_nil)))))))), ?_⟩
  exact s_ret (ev_andV (ev_isi (ev_var rfl) ev_c (fun _ _ => .base (.int i)) (r := true) (by decide +kernel)) fun _ => ev_notV (ev_isi (ev_var rfl) ev_c (fun _ _ => .base (.int i)) (r := false) (by decide +kernel))) q
theorem ok_whole {i : Int} {H : Hp} : SpV (spE pWhole) [.int i] H (.bl true) := spE_ok fun H' e => ⟨i, rfl, rfl⟩
/-! ### within -/
def pWithin : List V → Hp → V → Prop := fun vs _ z => ∃ v lo hi : Int, vs = [.int v, .int lo, .int hi] ∧ lo ≤ v ∧ v ≤ hi ∧ z = .bl true
theorem c_within (p : Prog K mg ta tm) : C8.Cal P w K mg base 2 "within" (spE pWithin) [] := by
  have B := p.B
  refine p.d_within.cal sc_within (spE_len fun vs H z ⟨v, lo, hi, e, _⟩ => by rw [e]; rfl) fun cdv f A outer s H vs Q E hr h => ?_
  obtain ⟨z, ⟨v, lo, hi, rfl, h1, h2, rfl⟩, q⟩ := h
  refine ⟨_, (pss_one (ps_ret (pe_and (C8.pe_c (c_whole p) hr (by omega) rfl (pa_cons (pv 0) pa_nil)) (pe_one (pe_chain op_le op_le (pv 1) (pv 0) (pv 2)))))), ?_⟩
  refine s_ret (ev_is (ev_andV (b := true) (ev_call (ea_cons (ev_var rfl) ea_nil) ok_whole) fun _ => ?_) (by rfl)) q
  refine ev_chain (k := true) (ev_var rfl) (ev_var rfl) ?_ (fun _ => ev_var rfl) (fun _ => ?_) (fun z => nomatch z)
  · have := rv_I0 (H := H) (g := fun i j => V.bl (decide (i ≤ j))) (i := lo) (j := v)
    rw [show decide (lo ≤ v) = true from decide_eq_true h1] at this
    exact this
  · have := rv_I0 (H := H) (g := fun i j => V.bl (decide (i ≤ j))) (i := v) (j := hi)
    rw [show decide (v ≤ hi) = true from decide_eq_true h2] at this
    exact this
theorem ok_within {v lo hi : Int} {H : Hp} (h1 : lo ≤ v) (h2 : v ≤ hi) : SpV (spE pWithin) [.int v, .int lo, .int hi] H (.bl true) := spE_ok fun H' e => ⟨v, lo, hi, rfl, h1, h2, rfl⟩
/-! ### need_number -/
def pNeedN : List V → Hp → V → Prop := fun vs _ z => ∃ v lo hi : Int, vs = [.int v, .int lo, .int hi] ∧ lo ≤ v ∧ v ≤ hi ∧ z = .non
theorem c_need_number (p : Prog K mg ta tm) : C8.Cal P w K mg base 3 "need_number" (spE pNeedN) [] := by
  have B := p.B
  refine p.d_need_number.cal sc_need_number (spE_len fun vs H z ⟨v, lo, hi, e, _⟩ => by rw [e]; rfl) fun cdv f A outer s H vs Q E hr h => ?_
  obtain ⟨z, ⟨v, lo, hi, rfl, h1, h2, rfl⟩, q⟩ := h
  refine ⟨_, (pss_one (ps_if (pt_not (pt_val (C8.pe_c (c_within p) hr (by omega) rfl (pa_cons (pv 0) (pa_cons (pv 1) (pa_cons (pv 2) pa_nil)))))) (pss_one ps_never) pss_nil)), ?_⟩
  exact s_when (et_not (et_B (ev_call (ea_cons (ev_var rfl) (ea_cons (ev_var rfl) (ea_cons (ev_var rfl) ea_nil))) (ok_within h1 h2)))) (fun z => nomatch z) fun _ H1 e => q H1 e
theorem ok_needN {v lo hi : Int} {H : Hp} (h1 : lo ≤ v) (h2 : v ≤ hi) : SpV (spE pNeedN) [.int v, .int lo, .int hi] H .non := spE_ok fun H' e => ⟨v, lo, hi, rfl, h1, h2, rfl⟩
/-! ### tuple_of -/
def pTup : List V → Hp → V → Prop := fun vs H z => ∃ (a : Addr) (xs : List V) (lo hi : Int), vs = [.ref a, .int lo, .int hi] ∧ H a = some (.tup xs) ∧ lo ≤ xs.length ∧ (xs.length : Int) ≤ hi ∧ z = .bl true
theorem c_tuple_of (p : Prog K mg ta tm) : C8.Cal P w K mg base 1 "tuple_of" (spE pTup) [] := by
  have B := p.B
  refine p.d_tuple_of.cal sc_tuple_of (spE_len fun vs H z ⟨a, xs, lo, hi, e, _⟩ => by rw [e]; rfl) fun cdv f A outer s H vs Q E hr h => ?_
  obtain ⟨z, ⟨a, xs, lo, hi, rfl, ha, h1, h2, rfl⟩, q⟩ := h
  refine ⟨_, (pss_one (ps_ret (pe_and (pe_callB call_isi (by rfl) B.isinstance (by decide +kernel) (pa_cons (pv 0) (pa_cons (pe_bltn (v := .ty "tuple") rfl B.tuple (by decide +kernel) rfl) pa_nil))) (pe_one (pe_chain op_le op_le (pv 1) (pe_callB call_len_seq (by rfl) B.len PySem.boot_len (pa_cons (pv 0) pa_nil)) (pv 2)))))), ?_⟩
  refine s_ret (ev_is (ev_andV (b := true) (ev_isi (ev_var rfl) ev_c (fun H1 e => .base (.tup (e _ _ ha))) (r := true) (by decide +kernel)) fun _ => ?_) (by rfl)) q
  refine ev_chain (k := true) (ev_var rfl) (ev_cb1 (ev_var rfl) (rc_lenT (K := K) (st_of ha))) ?_ (fun _ => ev_var rfl) (fun _ => ?_) (fun z => nomatch z)
  · have := rv_I0 (H := H) (g := fun i j => V.bl (decide (i ≤ j))) (i := lo) (j := (xs.length : Int))
    rw [show decide (lo ≤ (xs.length : Int)) = true from decide_eq_true h1] at this
    exact this
  · have := rv_I0 (H := H) (g := fun i j => V.bl (decide (i ≤ j))) (i := (xs.length : Int)) (j := hi)
    rw [show decide ((xs.length : Int) ≤ hi) = true from decide_eq_true h2] at this
    exact this
theorem ok_tup {a : Addr} {xs : List V} {lo hi : Int} {H : Hp} (ha : H a = some (.tup xs)) (h1 : lo ≤ xs.length) (h2 : (xs.length : Int) ≤ hi) : SpV (spE pTup) [.ref a, .int lo, .int hi] H (.bl true) :=
  spE_ok fun H' e => ⟨a, xs, lo, hi, rfl, e _ _ ha, h1, h2, rfl⟩
theorem ix_tupK {X : Cx} {K : PySem.W.Frag} (h : X.K = K) : IxR X (rIxT K) := h ▸ ix_tup
/-! ### tuples of a company, as expressions -/
theorem ev_ixt {σ : L2.St} {H : Hp} {ta tb : TE} {a : Addr} {xs : List V} {i : Nat} {v : V} (h1 : Ev ta σ H (.ref a)) (h2 : Ev tb σ H (.int (i : Int))) (h : H a = some (.tup xs)) (hi : xs[i]? = some v) : Ev (tOp (rIxT K) ta tb) σ H v :=
  ev_op h1 h2 (rv_ixT (st_of h) (atI_nat hi))
theorem iv_gt {i j : Int} {H : Hp} : RV (rI0 fun i j => V.bl (decide (j < i))) (.int i) (.int j) H (.bl (decide (j < i))) := rv_I0 (g := fun i j => V.bl (decide (j < i)))
theorem iv_ge {i j : Int} {H : Hp} : RV (rI0 fun i j => V.bl (decide (j ≤ i))) (.int i) (.int j) H (.bl (decide (j ≤ i))) := rv_I0 (g := fun i j => V.bl (decide (j ≤ i)))
theorem iv_lt {i j : Int} {H : Hp} : RV (rI0 fun i j => V.bl (decide (i < j))) (.int i) (.int j) H (.bl (decide (i < j))) := rv_I0 (g := fun i j => V.bl (decide (i < j)))
theorem iv_sub {i j : Int} {H : Hp} : RV (rI0 fun i j => V.int (i - j)) (.int i) (.int j) H (.int (i - j)) := rv_I0 (g := fun i j => V.int (i - j))
theorem iv_add {i j : Int} {H : Hp} : RV (rI0 fun i j => V.int (i + j)) (.int i) (.int j) H (.int (i + j)) := rv_I0 (g := fun i j => V.int (i + j))
theorem rv_leT {a b : Addr} {i j k l : Int} {H : Hp} (ha : H a = some (.tup [.int i, .int j])) (hb : H b = some (.tup [.int k, .int l])) (h : k < i ∨ (k = i ∧ l < j)) : RV (rLeT K) (.ref a) (.ref b) H (.bl false) := fun H1 e Q q => by
  refine ⟨a, b, [i, j], [k, l], rfl, rfl, st_of (e _ _ ha), st_of (e _ _ hb), ?_⟩
  have e1 : Ob.lexAt (fun n => decide ([i, j].getD n 0 = [k, l].getD n 0)) (fun n => decide ([i, j].getD n 0 ≤ [k, l].getD n 0)) (decide ([i, j].length ≤ [k, l].length)) 0 (min [i, j].length [k, l].length) = false := by
    show (if decide (i = k) = true then (if decide (j = l) = true then _ else decide (j ≤ l)) else decide (i ≤ k)) = false
    by_cases h1 : i = k
    · rw [if_pos (decide_eq_true h1)]
      have h2 : l < j := by omega
      rw [if_neg (by simp; omega)]
      exact decide_eq_false (by omega)
    · rw [if_neg (by simp; exact h1)]
      exact decide_eq_false (by omega)
  rw [e1]
  exact q H1 (Ex.refl H1)
theorem s_forEnT {σ : L2.St} {H : Hp} {tr : TA} {a : Addr} {xs : List V} {j1 j2 : Nat} {tb : TS} {D : Ends} (h : EvA tr σ H [.ref a]) (ha : H a = some (.tup xs)) (Pv : Hp → Nat → L2.St → Hp → Prop) (h0 : ∀ H1, Ex H H1 → Pv H1 0 σ H1) (hE : ∀ H1 i σ' H', Pv H1 i σ' H' → Ex H1 H')
    (hs : ∀ H1 i x σ' H' H'', Ex H H1 → xs[i]? = some x → Pv H1 i σ' H' → Ex H' H'' → tb { D with nx := Pv H1 (i + 1), ct := Pv H1 (i + 1), bk := D.nx } ((σ'.set j1 (some (.int (i : Int)))).set j2 (some x)) H'') (hd : ∀ H1 σ' H', Ex H H1 → Pv H1 xs.length σ' H' → D.nx σ' H') :
    tFor (iEnumT K tr) (gTup K 2 (gCons (gName j1) (gCons (gName j2) gNil))) tb D σ H :=
  h H (Ex.refl H) _ fun H1 e1 => ⟨a, xs, rfl, st_of (e1 _ _ ha), for_it (walk_enumT (K := K) (a := a) (xs := xs)) (Pv H1) (h0 H1 e1) (fun i σ' H' _ h => st_of (hE H1 i σ' H' h _ _ (e1 _ _ ha))) (fun i x σ' H' H'' hi hp y => by
    obtain ⟨T, y1, y2, rfl, hT, rfl, h1, h2⟩ := y
    cases (Option.some.inj h1)
    exact ⟨T, [.int (i : Int), y2], rfl, st_of upd_same, rfl, _, _, rfl, _, _, rfl, rfl, hs H1 i y2 σ' H' _ e1 h2 hp (Ex.new hT)⟩) fun σ' H' h => hd H1 σ' H' e1 h⟩
theorem up_len {b : Nat} : ∀ (l : List Nat) (a : Nat), l.Pairwise (· < ·) → (∀ x ∈ l, a ≤ x ∧ x < b) → l.length ≤ b - a
  | [], _, _, _ => Nat.zero_le _
  | x :: r, a, h, hl => by
    have h1 := hl x List.mem_cons_self
    have h2 := List.pairwise_cons.mp h
    have := up_len r (x + 1) h2.2 fun y hy => ⟨h2.1 y hy, (hl y (List.mem_cons_of_mem _ hy)).2⟩
    rw [List.length_cons]
    omega
theorem good_len {n : Nat} {ps : List (Nat × Nat)} (g : Good n ps) : ps.length ≤ 20 := by
  have := up_len (b := 20) (ps.map fun p => p.1 * 5 + p.2) 0 (by
    rw [List.pairwise_map]
    refine g.up.imp_of_mem fun {p q} hp hq h => ?_
    have h1 := g.lt p hp
    have h2 := g.lt q hq
    have h3 := g.n5
    omega) (fun x hx => by
      obtain ⟨p, hp, rfl⟩ := List.mem_map.mp hx
      have h1 := g.lt p hp
      have h3 := g.n5
      omega)
  rw [List.length_map] at this
  exact this
/-! ### need_company -/
def pNeedC : List V → Hp → V → Prop := fun vs H z => ∃ (cp : Addr) (n : Nat) (ps : List (Nat × Nat)), vs = [.ref cp] ∧ Comp H cp n ps ∧ Good n ps ∧ z = .non
theorem c_need_company (p : Prog K mg ta tm) : C8.Cal P w K mg base 3 "need_company" (spE pNeedC) [] := by
  have B := p.B
  refine p.d_need_company.cal sc_need_company (spE_len fun vs H z ⟨cp, n, ps, e, _⟩ => by rw [e]; rfl) fun cdv f A outer s H vs Q E hr h => ?_
  obtain ⟨z, ⟨cp, n, ps, rfl, ⟨pt, as, hc, hp, hps⟩, g, rfl⟩, q⟩ := h
  have hn1 := g.n1
  have hn5 := g.n5
  have hl := good_len g
  have hal := pairs_len hps
  refine ⟨_, (pss_cons (ps_if (PW.pt (pw_or (pt_not (pt_val (C8.pe_c (c_tuple_of p) hr (by omega) rfl (pa_cons (pv 0) (pa_cons pe_int (pa_cons pe_int pa_nil)))))) (pw_or (pt_not (pt_val (C8.pe_c (c_within p) hr (by omega) rfl (pa_cons (pe_ix ix_tup (pv 0) pe_int (fun _ _ => rfl)) (pa_cons pe_int (pa_cons (pe_glob (v := .int 7) rfl B.most ⟨_, rfl⟩) pa_nil)))))) (pw_or1 (pt_not (pt_val (C8.pe_c (c_tuple_of p) hr (by omega) rfl (pa_cons (pe_ix ix_tup (pv 0) pe_int (fun _ _ => rfl)) (pa_cons pe_int (pa_cons pe_int pa_nil)))))))))) (pss_one ps_never) pss_nil)
    (pss_one (ps_for PassesOwn.never rfl (pi_enumT rfl B.enumerate (pa_cons (pe_ix ix_tup (pv 0) pe_int (fun _ _ => rfl)) pa_nil)) (pg_tup rfl (pgs_cons (pg_name (i := 1) sc_need_company.nd rfl (Or.inl rfl)) (pgs_cons (pg_name (i := 2) sc_need_company.nd rfl (Or.inl rfl)) pgs_nil)))
      (pss_cons (ps_if (PW.pt (pw_or (pt_not (pt_val (C8.pe_c (c_tuple_of p) hr (by omega) rfl (pa_cons (pv 2) (pa_cons pe_int (pa_cons pe_int pa_nil)))))) (pw_or1 (pt_not (pt_val (pe_callB (cr_all rfl) (by rfl) B.all (by decide +kernel) (pa_cons (pe_lc (own := [("letter", 3)]) (g := gName 3) (tt := tYes) rfl sc_need_company.nd (pi_tup (pv 2)) (blkOk_by (N := N_need_company) (sc := defScope s_need_company) (by decide +kernel)) (fun _ _ _ _ _ => (pg_name (i := 3) sc_need_company.nd rfl (Or.inl rfl))) (fun _ _ _ _ _ => pts_nil) (fun _ _ _ _ _ => (C8.pe_c (c_within p) hr (by omega) rfl (pa_cons (pv 3) (pa_cons pe_int (pa_cons (pe_op op_sub (pe_ix (ix_tupK (K := K) rfl) (pv 0) pe_int (fun _ _ => rfl)) pe_int) pa_nil)))))) pa_nil))))))) (pss_one ps_never) pss_nil)
        (pss_one (ps_if (PW.pt (pw_or (pt_cmpR op_ge (pe_ix ix_tup (pv 2) pe_int (fun _ _ => rfl)) (pe_ix ix_tup (pv 2) pe_int (fun _ _ => rfl)) (nomark _)) (pw_or1 (PW.pt (pw_and (pt_cmpR op_gt (pv 1) pe_int (nomark _)) (pw_and1 (pt_cmpR (op_leT hr.units0) (pv 2) (pe_ix ix_tup (pe_ix ix_tup (pv 0) pe_int (fun _ _ => rfl)) (pe_op op_sub (pv 1) pe_int) (fun _ _ => rfl)) (nomark _)))))))) (pss_one ps_never) pss_nil)))))), ?_⟩
  refine q_when (b := false) ?_ (fun z => nomatch z) fun _ H1 e1 => ?_
  · refine et_or (et_not (et_B (ev_call (ea_cons (ev_var rfl) (ea_cons ev_c (ea_cons ev_c ea_nil))) (ok_tup hc (Int.le_refl 2) (Int.le_refl 2))))) fun _ => ?_
    refine et_or (et_not (et_B (ev_call (ea_cons (ev_ixt (i := 0) (ev_var rfl) ev_c hc rfl) (ea_cons ev_c (ea_cons ev_c ea_nil))) (ok_within (by omega) (by omega))))) fun _ => ?_
    exact et_not (et_B (ev_call (ea_cons (ev_ixt (i := 1) (ev_var rfl) ev_c hc rfl) (ea_cons ev_c (ea_cons ev_c ea_nil))) (ok_tup hp (by rw [List.length_map]; omega) (by rw [List.length_map]; omega))))
  · refine s_forEnT (ea_cons (ev_ixt (i := 1) (ev_var rfl) ev_c (e1 _ _ hc) rfl) ea_nil) (e1 _ _ hp) (fun H1 i σ' H' => Ex H1 H' ∧ ∃ u v, σ' = [some (.ref cp), u, v, none]) (fun H2 e2 => ⟨Ex.refl _, _, _, rfl⟩) (fun _ _ _ _ h => h.1) (fun H2 i x σ' H' H'' e2 hx h e3 => ?_) fun H2 σ' H' e2 h => q H' ((e1.trans e2).trans h.1)
    obtain ⟨e4, u, v, rfl⟩ := h
    have e5 : Ex H H'' := ((e1.trans e2).trans e4).trans e3
    rw [List.getElem?_map] at hx
    obtain ⟨a, ha, rfl⟩ := Option.map_eq_some_iff.mp hx
    obtain ⟨pr, hpr, hpa⟩ := pairs_get hps ha
    have hpa' := e5 _ _ hpa
    have hlt := g.lt pr (List.mem_of_getElem? hpr)
    refine q_when (b := false) ?_ (fun z => nomatch z) fun _ H3 e6 => ?_
    · refine et_or (et_not (et_B (ev_call (ea_cons (ev_var rfl) (ea_cons ev_c (ea_cons ev_c ea_nil))) (ok_tup hpa' (Int.le_refl 2) (Int.le_refl 2))))) fun _ => ?_
      refine et_not (et_B (ev_cbN (xs := [true, true].map V.bl) (z := .bl true) ?_ fun q H4 h4 _ => rc_all (sq_of h4)))
      refine el_lcY (xs := [pr.1, pr.2]) (enc := num) (fun _ => V.bl true) (iw_tup (ev_var rfl) (st_of hpa')) (by show 2 ≤ 40000; omega) (fun _ => rfl) fun x hx => ?_
      have hxn : x < n := by
        rcases List.mem_cons.mp hx with z | z
        · omega
        · have := List.mem_singleton.mp z; omega
      exact ev_call (ea_cons (ev_var rfl) (ea_cons ev_c (ea_cons (ev_op (ev_ixt (i := 0) (ev_var rfl) ev_c (e5 _ _ hc) rfl) ev_c iv_sub) ea_nil))) (ok_within (by omega) (by omega))
    · have hpa3 := e6 _ _ hpa'
      have e7 := e5.trans e6
      refine s_when (b := false) ?_ (fun z => nomatch z) fun _ H4 e8 => ⟨((e4.trans e3).trans e6).trans e8, _, _, rfl⟩
      refine et_is (et_or (a := false) (b := false) (et_test (ev_is (ev_op (ev_ixt (i := 0) (ev_var rfl) ev_c hpa3 rfl) (ev_ixt (i := 1) (ev_var rfl) ev_c hpa3 rfl) iv_ge) (congrArg V.bl (decide_eq_false (by omega))))) fun _ => ?_) rfl
      refine et_is (et_and (a := decide ((0 : Int) < (i : Int))) (b := false) (et_test (ev_op (ev_var rfl) ev_c iv_gt)) fun hi => ?_) (Bool.and_false _)
      have hi0 : 0 < i := by have := of_decide_eq_true hi; omega
      have him : i - 1 < ps.length := by have := (List.getElem?_eq_some_iff.mp hpr).1; omega
      obtain ⟨b, hb⟩ : ∃ b, as[i - 1]? = some b := ⟨as[i - 1]'(by omega), by simp [show i - 1 < as.length by omega]⟩
      obtain ⟨pq, hpq, hpb⟩ := pairs_get hps hb
      have hup : pq.1 < pr.1 ∨ (pq.1 = pr.1 ∧ pq.2 < pr.2) := by
        obtain ⟨h1, h2⟩ := List.getElem?_eq_some_iff.mp hpr
        obtain ⟨h3, h4⟩ := List.getElem?_eq_some_iff.mp hpq
        have := List.pairwise_iff_getElem.mp g.up (i - 1) i h3 h1 (by omega)
        rw [h2, h4] at this
        exact this
      refine et_test (ev_op (ev_var rfl) (ev_ixt (i := i - 1) (ev_ixt (i := 1) (ev_var rfl) ev_c (e7 _ _ hc) rfl) (ev_is (ev_op (ev_var rfl) ev_c iv_sub) (congrArg V.int (by omega))) (e7 _ _ hp) (by rw [List.getElem?_map, hb]; rfl)) (rv_leT hpa3 (e7 _ _ hpb) (by omega)))
theorem ok_needC {cp : Addr} {n : Nat} {ps : List (Nat × Nat)} {H : Hp} (c : Comp H cp n ps) (g : Good n ps) : SpV (spE pNeedC) [.ref cp] H .non := spE_ok fun H' e => ⟨cp, n, ps, rfl, c.ex e, g, rfl⟩
end
end K5
end
section
namespace K5
open PySem PySem.Spec PyProof.Rows L2 Evl
theorem yes_go {σ : L2.St} {H : Hp} {A B : Hp → Prop} (h : A H) : tYes σ H fun b H3 => if b = true then A H3 else B H3 := by
  show (if true = true then A H else B H)
  rw [if_pos rfl]
  exact h
theorem lets_alph (n : Nat) : alph.take n = lets n := rfl
theorem lets_128 {n c : Nat} (h : c ∈ lets n) : c < 128 := by
  have h1 : c ∈ alph := (List.take_sublist n alph).mem h
  have : ∀ c ∈ alph, c < 128 := by decide
  exact this c h1
theorem words_len {n : Nat} {l : List Nat} (hn : n ≤ 7) (hl : l.Nodup) (h : ∀ c ∈ l, c ∈ lets n) : l.length ≤ n := by
  rw [← len_lets n hn]
  have e := len_of_mem (m := (lets n).filter fun c => decide (c ∈ l)) hl ((nodup_lets n).filter _) fun x => by
    rw [List.mem_filter, decide_eq_true_iff]
    exact ⟨fun hx => ⟨h x hx, hx⟩, fun hx => hx.2⟩
  rw [e]
  exact List.length_filter_le _ _
section
variable {P : Program} {w : World} {K : PySem.W.Frag} {mg : Str → Option Value} {base : Heap} {ta tm : Tok}
/-! ### is_set -/
def pSet : List V → Hp → V → Prop := fun vs H z => ∃ (cp : Addr) (n : Nat) (ps : List (Nat × Nat)) (l : List Nat), vs = [.ref cp, .str (T l)] ∧ Comp H cp n ps ∧ n ≤ 7 ∧ l.Pairwise (· < ·) ∧ (∀ c ∈ l, c ∈ lets n) ∧ z = .bl true
theorem c_is_set (p : Prog K mg ta tm) : C8.Cal P w K mg base 1 "is_set" (spE pSet) [] := by
  have B := p.B
  refine p.d_is_set.cal sc_is_set (spE_len fun vs H z ⟨cp, n, ps, l, e, _⟩ => by rw [e]; rfl) fun cdv f A outer s H vs Q E hr h => ?_
  obtain ⟨z, ⟨cp, n, ps, l, rfl, ⟨pt, as, hc, hp, hps⟩, hn, hup, hl, rfl⟩, q⟩ := h
  have hlen := words_len hn (hup.imp fun h => Nat.ne_of_lt h) hl
  refine ⟨_, (pss_cons (ps_if (PW.pt (pw_or (pt_not (pt_val (pe_callB call_isi (by rfl) B.isinstance (by decide +kernel) (pa_cons (pv 1) (pa_cons (pe_bltn (v := .ty "str") rfl B.str (by decide +kernel) rfl) pa_nil))))) (pw_or1 (pt_cmpR op_gt (pe_callB call_len_str (by rfl) B.len PySem.boot_len (pa_cons (pv 1) pa_nil)) (pe_ix ix_tup (pv 0) pe_int (fun _ _ => rfl)) (nomark _))))) (pss_one (ps_ret pe_bl)) pss_nil)
    (pss_cons (ps_if (pt_not (pt_val (pe_callB (cr_all rfl) (by rfl) B.all (by decide +kernel) (pa_cons (pe_lc (own := [("sign", 3)]) (g := gName 3) (tt := tYes) rfl sc_is_set.nd (pi_str (pv 1)) (blkOk_by (N := N_is_set) (sc := defScope s_is_set) (by decide +kernel)) (fun _ _ _ _ _ => (pg_name (i := 3) sc_is_set.nd rfl (Or.inl rfl))) (fun _ _ _ _ _ => pts_nil) (fun _ _ _ _ _ => (pe_cmpR op_in_sign (pv 3) (pe_slice sl_str (pe_glob (v := .str (T alph)) rfl B.alphabet ⟨_, rfl⟩) po_none (po_some (pe_ix (ix_tupK (K := K) rfl) (pv 0) pe_int (fun _ _ => rfl)))) rfl))) pa_nil)))) (pss_one (ps_ret pe_bl)) pss_nil)
    (pss_one (ps_ret (pe_callB (cr_all rfl) (by rfl) B.all (by decide +kernel) (pa_cons (pe_lc (own := [("at", 2)]) (g := gName 2) (tt := tYes) rfl sc_is_set.nd (pi_range1 rfl B.range (pa_cons (pe_op op_sub (pe_callB call_len_str (by rfl) B.len PySem.boot_len (pa_cons (pv 1) pa_nil)) pe_int) pa_nil)) (blkOk_by (N := N_is_set) (sc := defScope s_is_set) (by decide +kernel)) (fun _ _ _ _ _ => (pg_name (i := 2) sc_is_set.nd rfl (Or.inl rfl))) (fun _ _ _ _ _ => pts_nil) (fun _ _ _ _ _ => (pe_cmpR op_lt_str (pe_ix ix_str (pv 1) (pv 2) (fun _ _ => rfl)) (pe_ix ix_str (pv 1) (pe_op op_add (pv 2) pe_int) (fun _ _ => rfl)) (nomark _)))) pa_nil)))))), ?_⟩
  refine q_when (b := false) ?_ (fun z => nomatch z) fun _ H1 e1 => ?_
  · refine et_is (et_or (a := false) (b := false) (et_not (et_B (ev_isi (ev_var rfl) ev_c (fun _ _ => .base (.str (T l))) (r := true) (by decide +kernel)))) fun _ => ?_) rfl
    exact et_test (ev_is (ev_op (ev_cb1 (ev_var rfl) (rc_lens (by omega))) (ev_ixt (i := 0) (ev_var rfl) ev_c hc rfl) iv_gt) (congrArg V.bl (decide_eq_false (by omega))))
  · refine q_when (b := false) ?_ (fun z => nomatch z) fun _ H2 e2 => ?_
    · refine et_not (a := true) (et_B (ev_cbN (xs := (l.map fun _ => true).map V.bl) ?_ fun q H4 h4 _ => ?_))
      · rw [List.map_map]
        refine el_lcY (xs := l) (enc := one) (fun _ => V.bl true) (iw_str (ev_var rfl)) (by omega) (fun _ => rfl) fun c hcl => ?_
        exact ev_is (ev_op (ev_var rfl) (ev_take (l := alph) ev_c (ev_ixt (i := 0) (ev_var rfl) ev_c (e1 _ _ hc) rfl) (by decide)) rv_insign) (congrArg V.bl (decide_eq_true (hl c hcl)))
      · have := rc_all (K := K) (H := H4) (sq_of h4)
        have e : (l.map fun _ => true).all id = true := by simp
        rw [e] at this
        exact this
    · refine s_ret (v := .bl true) (ev_cbN (xs := ((List.range (l.length - 1)).map fun _ => true).map V.bl) ?_ fun q H4 h4 _ => ?_) fun H3 e3 => q H3 ((e1.trans e2).trans e3)
      · rw [List.map_map]
        refine el_lcY (xs := List.range (l.length - 1)) (enc := num) (fun _ => V.bl true) (iw_rngI (m := (l.length : Int) - 1) (ea_cons (ev_op (ev_cb1 (ev_var rfl) (rc_lens (by omega))) ev_c iv_sub) ea_nil) (by omega) (by omega) (by omega)) (by rw [List.length_range]; omega) (fun _ => rfl) fun i hi => ?_
        have hi := List.mem_range.mp hi
        have h1 : l[i]? = some (l[i]'(by omega)) := by simp
        have h2 : l[i + 1]? = some (l[i + 1]'(by omega)) := by simp
        have hlt := List.pairwise_iff_getElem.mp hup i (i + 1) (by omega) (by omega) (by omega)
        exact ev_is (ev_op (ev_op (ev_var rfl) (ev_var rfl) (rv_ixs (by omega) h1)) (ev_op (ev_var rfl) (ev_is (ev_op (ev_var rfl) ev_c iv_add) (congrArg V.int (by show (i : Int) + 1 = ((i + 1 : Nat) : Int); omega))) (rv_ixs (by omega) h2)) rv_lts) (congrArg V.bl (decide_eq_true hlt))
      · have := rc_all (K := K) (H := H4) (sq_of h4)
        have e : ((List.range (l.length - 1)).map fun _ => true).all id = true := by simp
        rw [e] at this
        exact this
theorem ok_set {cp : Addr} {n : Nat} {ps : List (Nat × Nat)} {l : List Nat} {H : Hp} (c : Comp H cp n ps) (hn : n ≤ 7) (h1 : l.Pairwise (· < ·)) (h2 : ∀ c ∈ l, c ∈ lets n) : SpV (spE pSet) [.ref cp, .str (T l)] H (.bl true) :=
  spE_ok fun H' e => ⟨cp, n, ps, l, rfl, c.ex e, hn, h1, h2, rfl⟩
/-! ### gain_of -/
def pGain : List V → Hp → V → Prop := fun vs H z => ∃ (d : Addr) (n : Nat) (ps : List (Nat × Nat)) (m : List Nat) (c : Nat), vs = [.ref d, .str (T m), one c] ∧ Told H d n ps ∧ Good n ps ∧ c ∈ lets n ∧ z = .int (gn ps m c : Nat)
theorem fl_len {n : Nat} {ps : List (Nat × Nat)} (g : Good n ps) (c : Nat) : (fl ps c).length ≤ 20 := Nat.le_trans (List.length_filterMap_le _ _) (good_len g)
theorem c_gain_of (p : Prog K mg ta tm) : C8.Cal P w K mg base 1 "gain_of" (spE pGain) [] := by
  have B := p.B
  refine p.d_gain_of.cal sc_gain_of (spE_len fun vs H z ⟨d, n, ps, m, c, e, _⟩ => by rw [e]; rfl) fun cdv f A outer s H vs Q E hr h => ?_
  obtain ⟨z, ⟨d, n, ps, m, c, rfl, ht, g, hc, rfl⟩, q⟩ := h
  have hu := hu_of hr
  refine ⟨_, (pss_one (ps_ret (pe_callB call_len_seq (by rfl) B.len PySem.boot_len (pa_cons (pe_lc (own := [("other", 3)]) (g := gName 3) rfl sc_gain_of.nd (pi_str (pe_dget hu (pv 0) (pv 2) (fun _ _ => rfl))) (blkOk_by (N := N_gain_of) (sc := defScope s_gain_of) (by decide +kernel)) (fun _ _ _ _ _ => (pg_name (i := 3) sc_gain_of.nd rfl (Or.inl rfl))) (fun _ _ _ _ _ => pts_one (PW.pt (pw_and (pt_cmpR op_in_sign (pv 3) (pv 1) rfl) (pw_and1 (pt_cmpR op_lt_str (pv 3) (pv 2) (nomark _)))))) (fun _ _ _ _ _ => (pv 3))) pa_nil)))), ?_⟩
  refine s_ret (ev_is (ev_cbN (el_lc (xs := fl ps c) (enc := one) (fun o => m.contains o && decide (o < c)) one (iw_str (ev_told (ev_var rfl) (ev_var rfl) ht hc)) (by have := fl_len g c; omega) (fun _ => rfl) (fun o ho => ?_) fun o ho _ => ev_var rfl)
    fun q H4 h4 _ => rc_lenL (K := K) (sq_of h4)) ?_) q
  · refine et_is (et_and (a := decide (o ∈ m)) (b := decide (o < c)) (et_test (ev_op (ev_var rfl) (ev_var rfl) rv_insign)) fun _ => et_test (ev_op (ev_var rfl) (ev_var rfl) rv_lts)) ?_
    rw [List.contains_eq_mem]
  · unfold sel gn
    rw [List.length_map]
theorem ok_gain {d : Addr} {n : Nat} {ps : List (Nat × Nat)} {m : List Nat} {c : Nat} {H : Hp} (ht : Told H d n ps) (g : Good n ps) (hc : c ∈ lets n) : SpV (spE pGain) [.ref d, .str (T m), one c] H (.int (gn ps m c : Nat)) :=
  spE_ok fun H' e => ⟨d, n, ps, m, c, rfl, ht.ex e, g, hc, rfl⟩
/-! ### later_of -/
def pLater : List V → Hp → V → Prop := fun vs H z => ∃ (m : List Nat) (c : Nat), vs = [.str (T m), one c] ∧ (∀ x ∈ m ++ [c], x < 128) ∧ m.length < 50 ∧ z = .str (T (srt (m ++ [c])))
theorem c_later_of (p : Prog K mg ta tm) : C8.Cal P w K mg base 1 "later_of" (spE pLater) [] := by
  have B := p.B
  refine p.d_later_of.cal sc_later_of (spE_len fun vs H z ⟨m, c, e, _⟩ => by rw [e]; rfl) fun cdv f A outer s H vs Q E hr h => ?_
  obtain ⟨z, ⟨m, c, rfl, h1, h2, rfl⟩, q⟩ := h
  have hl : (m ++ [c]).length < 64 := by rw [List.length_append, List.length_singleton]; omega
  refine ⟨_, (pss_one (ps_ret (pe_join pe_str (pe_callB (cr_sortedT rfl) (by rfl) B.sorted (by decide +kernel) (pa_cons (pe_op op_add_str (pv 0) (pv 1)) pa_nil))))), ?_⟩
  exact s_ret (ev_joinN (K := K) ev_c (el_cb1 (ev_op (ev_var rfl) (ev_var rfl) (rv_adds (by rw [List.length_singleton]; omega))) (rcl_sorted h1 hl)) (by rw [srt_len]; omega)) q
theorem ok_later {m : List Nat} {c : Nat} {H : Hp} (h1 : ∀ x ∈ m ++ [c], x < 128) (h2 : m.length < 50) : SpV (spE pLater) [.str (T m), one c] H (.str (T (srt (m ++ [c])))) :=
  spE_ok fun H' e => ⟨m, c, rfl, h1, h2, rfl⟩
/-! ### rising_of -/
def pRis : List V → Hp → V → Prop := fun vs H z => ∃ (d : Addr) (n : Nat) (ps : List (Nat × Nat)) (m : List Nat), vs = [.ref d, .str (T m)] ∧ Told H d n ps ∧ Good n ps ∧ m.Nodup ∧ (∀ c ∈ m, c ∈ lets n) ∧ z = .int (rise ps m : Nat)
theorem c_rising_of (p : Prog K mg ta tm) : C8.Cal P w K mg base 2 "rising_of" (spE pRis) [] := by
  have B := p.B
  refine p.d_rising_of.cal sc_rising_of (spE_len fun vs H z ⟨d, n, ps, m, e, _⟩ => by rw [e]; rfl) fun cdv f A outer s H vs Q E hr h => ?_
  obtain ⟨z, ⟨d, n, ps, m, rfl, ht, g, hm, hl, rfl⟩, q⟩ := h
  have hlen := words_len (by have := g.n5; omega) hm hl
  have hn5 := g.n5
  refine ⟨_, (pss_one (ps_ret (pe_callB (cr_sum rfl) (by rfl) B.sum (by decide +kernel) (pa_cons (pe_lc (own := [("at", 2), ("sign", 3)]) (g := gTup K 2 (gCons (gName 2) (gCons (gName 3) gNil))) (tt := tYes) rfl sc_rising_of.nd (pi_enumS rfl B.enumerate (pa_cons (pv 1) pa_nil)) (blkOk_by (N := N_rising_of) (sc := defScope s_rising_of) (by decide +kernel)) (fun _ _ _ _ _ => (pg_tup rfl (pgs_cons (pg_name (i := 2) sc_rising_of.nd rfl (Or.inl rfl)) (pgs_cons (pg_name (i := 3) sc_rising_of.nd rfl (Or.inl rfl)) pgs_nil)))) (fun _ _ _ _ _ => pts_nil) (fun _ _ _ _ _ => (C8.pe_c (c_gain_of p) hr (by omega) rfl (pa_cons (pv 0) (pa_cons (pe_slice sl_str (pv 1) po_none (po_some (pv 2))) (pa_cons (pv 3) pa_nil)))))) pa_nil)))), ?_⟩
  refine ⟨_, rfl, m, rfl, fun c hc => lets_128 (hl c hc), fun D hD => lc_it walk_enumS (fun i H' => Ex H H' ∧ ∃ ns : List Int, H' D = some (.lst (ns.map V.int)) ∧ ns.length = i ∧ ns.sum = (rise ps (m.take i) : Nat)) ⟨Ex.new hD, [], upd_same, rfl, rfl⟩ (fun _ _ _ _ => trivial) (fun i x H' H'' hi h y => ?_) fun H' h => ?_⟩
  · obtain ⟨e1, ns, h1, h2, h3⟩ := h
    obtain ⟨Tt, x1, x2, rfl, hT, rfl, k1, k2⟩ := y
    cases (Option.some.inj k1)
    have hmi : m[i]? = some (m[i]'(by omega)) := by simp
    have k2 : Option.map one m[i]? = some x2 := k2
    rw [hmi] at k2
    have k2 : one (m[i]'(by omega)) = x2 := Option.some.inj k2
    subst k2
    have hci := hl (m[i]'(by omega)) (List.getElem_mem _)
    have e2 := e1.trans (Ex.new (o := .tup [.int (i : Int), one (m[i]'(by omega))]) hT)
    refine ⟨Tt, [.int (i : Int), one (m[i]'(by omega))], rfl, st_of upd_same, rfl, _, _, rfl, _, _, rfl, rfl, rfl, ?_⟩
    refine yes_go ?_
    refine ev_call (ea_cons (ev_var rfl) (ea_cons (ev_take (l := m) (k := i) (ev_var rfl) (ev_var rfl) (by omega)) (ea_cons (ev_var rfl) ea_nil))) (ok_gain (m := m.take i) (c := m[i]'(by omega)) (ht.ex e2) g hci) _ (Ex.refl _) _ fun H4 e4 => ?_
    have hDT : Tt ≠ D := fun z => by rw [z, h1] at hT; cases hT
    refine ⟨ns.map V.int, e4 _ _ (by rw [upd_ne (Ne.symm hDT)]; exact h1), sz_lt (by rw [List.length_map]; omega), Ex.mut (e2.trans e4) hD, ns ++ [(gn ps (m.take i) (m[i]'(by omega)) : Int)], ?_, ?_, ?_⟩
    · rw [upd_same, List.map_append]; rfl
    · rw [List.length_append, h2]; rfl
    · rw [List.sum_append, h3, List.sum_singleton, List.take_succ_eq_append_getElem hi, rise_snoc, gn_cnt g (hm.sublist (List.take_sublist i m)) (fun x hx => hl x ((List.take_sublist i m).mem hx)) hci]
      omega
  · obtain ⟨e1, ns, h1, h2, h3⟩ := h
    rw [List.take_length] at h3
    have := rc_sum (K := K) (H := H') (sq_of h1) H' (Ex.refl _)
    rw [h3] at this
    exact this _ fun H2 e2 => q H2 (e1.trans e2)
theorem ok_ris {d : Addr} {n : Nat} {ps : List (Nat × Nat)} {m : List Nat} {H : Hp} (ht : Told H d n ps) (g : Good n ps) (hm : m.Nodup) (hl : ∀ c ∈ m, c ∈ lets n) : SpV (spE pRis) [.ref d, .str (T m)] H (.int (rise ps m : Nat)) :=
  spE_ok fun H' e => ⟨d, n, ps, m, rfl, ht.ex e, g, hm, hl, rfl⟩
end
end K5
end
section
namespace K5
open PySem PySem.Spec PyProof.Rows L2 Evl
/-- one turn of a dict's comprehension: target, test, key, value, store; Nx behind it -/
def DcStep (g : TG) (tt : TT) (tk tv : TE) (vs : List Nat) (σ : L2.St) (D : Addr) (Nx : Hp → Prop) (x : V) (H' : Hp) : Prop :=
  g x (wipe σ vs) H' fun σ2 H2 => wipe σ2 vs = wipe σ vs ∧ tt σ2 H2 fun b H3 =>
    if b = true
    then tk σ2 H3 fun y H4 => tv σ2 H4 fun z H5 =>
      ∃ kvs k, y = kV k ∧ H5 D = some (.dK kvs) ∧ kvs.length < sizeLine ∧ Nx (upd H5 D (.dK (putK kvs k z)))
    else Nx H3
section
variable {J : It} {n : Nat} {G : Hp → Prop} {Y : Nat → Hp → V → Hp → Prop} {g : TG} {tt : TT} {tk tv : TE} {vs : List Nat} {σ : L2.St}
/-- a walk fills a new dict -/
theorem dc_it (w : Walk J n G Y) {H1 : Hp} {D : Addr} {Qd : Hp → Prop} (Pv : Nat → Hp → Prop) (start : Pv 0 (upd H1 D (.dK []))) (stays : ∀ j H, j ≤ n → Pv j H → G H)
    (turn : ∀ j x H H', j < n → Pv j H → Y j H x H' → DcStep g tt tk tv vs σ D (Pv (j + 1)) x H') (fin : ∀ H, Pv n H → Qd H) : ∃ W : Nat → Nat → Hp → Prop, (∃ m, W 0 m (upd H1 D (.dK []))) ∧
      ∀ j m H, W j m H → (J.stop j H ∧ Qd H) ∨ (J.go j H ∧ ∃ Nx : Hp → Prop, (∀ H', Nx H' → ∃ m', m' < m ∧ W (j + 1) m' H') ∧ ∀ x H', J.yld j H x H' → DcStep g tt tk tv vs σ D Nx x H') := by
  refine ⟨fun j m H => j + m = n ∧ Pv j H, ⟨n, Nat.zero_add n, start⟩, fun j m H hw => ?_⟩
  have hG := stays j H (by omega) hw.2
  by_cases hlt : j < n
  · right
    refine ⟨w.goes j H hlt hG, Pv (j + 1), fun H' p' => ⟨n - (j + 1), by omega, by omega, p'⟩, fun x H' y => ?_⟩
    exact turn j x H H' hlt hw.2 (w.yields j H x H' hlt hG y)
  · left
    have ej : j = n := by omega
    rw [ej] at hw ⊢
    exact ⟨w.stops H hG, fin H hw.2⟩
end
section
variable {X : Cx}
/-- such a store takes the short way: the name is a local of the def's own, on the row of the display -/
theorem sw_trueD {kx vx : Expr} {gs : List Comprehension} {scope : Scope} {pos py : Pos} {y : Str} {l : Nat} {env : Env} (hfun : env.scope.kind = .function) (hloc : env.scope.names.lookup y = some .local) (hrow : (py.line == pos.line) = true)
    (hnot : (scope.names.any fun (n, k) => n == y && (k == .local || k == .cell)) = false) : swapsWith (.DictComp kx vx gs scope pos) (some (.Name y py)) l env = pure true := by
  have e1 : env.kindOf y = some .local := hloc
  have e2 : env.blockKind = .function := by (unfold Env.blockKind; rw [hfun]; rfl)
  unfold swapsWith
  simp only [e1, e2, hnot, Expr.pos, hrow]
  rfl
/-- said of a display's own block, wherever it stands -/
abbrev InBlk (X : Cx) (scope : Scope) (R : Cx → Prop) : Prop := ∀ (s : Shared) (H : Hp) (C : Addr) (cl : List (Str × Addr)) (fp : List Addr), R (X.blk s H scope (compEnvC scope cl C X.env) fp)
/-- y = {k: v for ..} -/
theorem ps_setDc {i : Nat} {y : Str} {py : Pos} {kx vx tg iter : Expr} {ifs : List Expr} {scope : Scope} {own : List (Str × Nat)} {pos spos : Pos} {wi : TI} {g : TG} {tt : TT} {tk tv : TE} (calm : X.calm = true) (nd : X.N.Nodup) (hy : X.N[i]? = some y) (loc : X.env.scope.names.lookup y = some .local)
    (short : swapsWith (.DictComp kx vx [⟨tg, iter, ifs, 0⟩] scope pos) (some (.Name y py)) spos.line X.env = pure true) (walked : PI X tg iter wi) (ok : BlkOk X.N X.env.scope scope own)
    (target : InBlk X scope fun B => PG B tg g) (tests : InBlk X scope fun B => PTs B ifs tt) (key : InBlk X scope fun B => PE B kx tk) (value : InBlk X scope fun B => PE B vx tv) (plain : ∀ x, foldedSetIterable iter X.env x = pure x := by intro _; rfl) :
    PS X (.Assign [.Name y py] (.DictComp kx vx [⟨tg, iter, ifs, 0⟩] scope pos) spos) (tAsg (tDc wi g tt tk tv (own.map (·.2))) (gName i)) := ⟨fun pins s σ H D I h => by
  have h' : tDc wi g tt tk tv (own.map (·.2)) σ H (fun v H1 => gName i v σ H1 D.nx) := h
  rw [exec_Assign_Name_used _ _ _ _ short]
  refine wpAny_bind (wpAny_standAt (wpAny_bind (wpAny_bind ?_)))
  refine thn (dc_core (Qf := fun _ s' => SP X pins D .next s') (use := some (assign (.Name y py) X.env)) calm nd I walked ok target tests key value plain h' fun L C s1 m H1 I1 q ns fC => ?_) fun _ _ hq => wpAny_pure (wpAny_pure hq)
  refine wpAny_assign_Name (store_ok2 (v := V.ref L) I1 nd hy (.inl loc) rfl (fun s2 I2 ⟨at2, same, own2⟩ => ?_) (.inr loc))
  obtain ⟨n0, n1, n2, n3, n4, n5⟩ := fC
  have apart : C ≠ at2 := own2.elim (fun e => by rw [e]; exact n1) fun e z => n4 y at2 e z.symm
  exact ⟨m, ns.sameBut same apart, fun h3 sb3 => ⟨_, H1, I2.turned (t' := s2.toks) (fun b o hb e => (sb3.2 b hb).trans e) n0 n1 n3 n4 n5, q⟩⟩⟩
end
/-- a dict by the letters l, its values f -/
def dct (l : List Nat) (f : Nat → List Nat) : List (Key × V) := l.map fun c => ((.inr (T [c]) : Key), V.str (T (f c)))
theorem key_inj {a b : Nat} (h : (.inr (T [a]) : Key) = .inr (T [b])) : a = b := (List.cons.inj (T_inj (Sum.inr.inj h))).1
theorem dct_val (f : Nat → List Nat) (c : Nat) : ∀ l : List Nat, c ∈ l → valV (dct l f) (.inr (T [c])) = some (.str (T (f c)))
  | [], h => by cases h
  | d :: r, h => by
    by_cases e : d = c
    · subst e; exact valV_pos rfl
    · unfold dct
      rw [List.map_cons, valV_neg (fun z => e (key_inj z))]
      exact dct_val f c r ((List.mem_cons.mp h).resolve_left fun z => e z.symm)
theorem dct_none (f : Nat → List Nat) (c : Nat) : ∀ l : List Nat, c ∉ l → valV (dct l f) (.inr (T [c])) = none
  | [], h => rfl
  | d :: r, h => by
    unfold dct
    rw [List.map_cons, valV_neg (fun z => h (by rw [← key_inj z]; exact List.mem_cons_self))]
    exact dct_none f c r fun z => h (List.mem_cons_of_mem _ z)
theorem dct_put (f : Nat → List Nat) {c : Nat} {l : List Nat} (h : c ∈ l) (v : List Nat) : putK (dct l f) (.inr (T [c])) (.str (T v)) = dct l fun x => if x = c then v else f x := by
  have h1 : ((dct l f).any fun kv => decide (kv.1 = (.inr (T [c]) : Key))) = true := by
    rw [valV_any, dct_val f c l h]; rfl
  unfold putK
  rw [if_pos h1]
  unfold dct
  rw [List.map_map]
  refine List.map_congr_left fun x _ => ?_
  show (if (.inr (T [x]) : Key) = .inr (T [c]) then ((.inr (T [x]) : Key), V.str (T v)) else (.inr (T [x]), V.str (T (f x)))) = _
  show _ = ((.inr (T [x]) : Key), V.str (T (if x = c then v else f x)))
  by_cases e : x = c
  · rw [if_pos (by rw [e]), if_pos e]
  · rw [if_neg (fun z => e (key_inj z)), if_neg e]
theorem dct_put_new (f : Nat → List Nat) {c : Nat} {l : List Nat} (h : c ∉ l) : putK (dct l f) (.inr (T [c])) (.str (T (f c))) = dct (l ++ [c]) f := by
  rw [putK_new _ (dct_none f c l h)]
  unfold dct
  rw [List.map_append]; rfl
theorem dct_len (l : List Nat) (f : Nat → List Nat) : (dct l f).length = l.length := List.length_map _
theorem dct_congr {l : List Nat} {f g : Nat → List Nat} (h : ∀ c ∈ l, f c = g c) : dct l f = dct l g := List.map_congr_left fun c hc => by rw [h c hc]
theorem fl_snoc (ps : List (Nat × Nat)) (p : Nat × Nat) (c : Nat) : fl (ps ++ [p]) c = fl ps c ++ (if 97 + p.1 = c then [97 + p.2] else if 97 + p.2 = c then [97 + p.1] else []) := by
  unfold fl
  rw [List.filterMap_append]
  congr 1
  by_cases h1 : 97 + p.1 = c
  · simp [h1]
  · by_cases h2 : 97 + p.2 = c
    · simp [h1, h2]
    · simp [h1, h2]
theorem alph_at {i : Nat} (h : i < 7) : alph[i]? = some (97 + i) := by
  have : i = 0 ∨ i = 1 ∨ i = 2 ∨ i = 3 ∨ i = 4 ∨ i = 5 ∨ i = 6 := by omega
  rcases this with rfl | rfl | rfl | rfl | rfl | rfl | rfl <;> rfl
section
variable {P : Program} {w : World} {K : PySem.W.Frag} {mg : Str → Option Value} {base : Heap} {ta tm : Tok}
/-- a new dict of the friends of all -/
def spTold : Sp := fun vs H Q _ => ∃ (cp : Addr) (n : Nat) (ps : List (Nat × Nat)), vs = [.ref cp] ∧ Comp H cp n ps ∧ Good n ps ∧ ∀ d H', H d = none → Ex H H' → Told H' d n ps → Q (.ref d) H'
theorem ev_dct {σ : L2.St} {H : Hp} {td ty : TE} {d : Addr} {l : List Nat} {f : Nat → List Nat} {c : Nat} (h1 : Ev td σ H (.ref d)) (h2 : Ev ty σ H (one c)) (ht : H d = some (.dK (dct l f))) (hc : c ∈ l) : Ev (tDGet td ty) σ H (.str (T (f c))) := fun H1 e Q q =>
  h1 H1 e _ fun H2 e2 => h2 H2 (e.trans e2) _ fun H3 e3 => ⟨d, _, rfl, by
    have := DGet.k (k := .inr (T [c])) (((e.trans e2).trans e3) _ _ ht)
    rw [dct_val f c l hc] at this
    exact this, q H3 (e2.trans e3)⟩
theorem q_dput {σ : L2.St} {H : Hp} {td ty tv : TE} {tz : TS} {D : Ends} {d : Addr} {l : List Nat} {f : Nat → List Nat} {c : Nat} {v : List Nat} (h0 : Ev tv σ H (.str (T v))) (h1 : Ev td σ H (.ref d)) (h2 : Ev ty σ H (one c)) (ht : H d = some (.dK (dct l f))) (hc : c ∈ l) (hl : l.length ≤ 100)
    (k : ∀ H1, Ex H H1 → tz D σ (upd H1 d (.dK (dct l fun x => if x = c then v else f x)))) : tSeq (sDPut td ty tv) tz D σ H :=
  h0 H (Ex.refl H) _ fun H1 e1 => h1 H1 e1 _ fun H2 e2 => h2 H2 (e1.trans e2) _ fun H3 e3 => ⟨d, _, rfl, by
    have := DPut.k (k := .inr (T [c])) (v := .str (T v)) (((e1.trans e2).trans e3) _ _ ht) (sz_lt (by rw [dct_len]; omega))
    rw [dct_put f hc] at this
    exact this, k H3 ((e1.trans e2).trans e3)⟩
theorem s_dput {σ : L2.St} {H : Hp} {td ty tv : TE} {D : Ends} {d : Addr} {l : List Nat} {f : Nat → List Nat} {c : Nat} {v : List Nat} (h0 : Ev tv σ H (.str (T v))) (h1 : Ev td σ H (.ref d)) (h2 : Ev ty σ H (one c)) (ht : H d = some (.dK (dct l f))) (hc : c ∈ l) (hl : l.length ≤ 100)
    (k : ∀ H1, Ex H H1 → D.nx σ (upd H1 d (.dK (dct l fun x => if x = c then v else f x)))) : sDPut td ty tv D σ H := q_dput (tz := fun D σ H => D.nx σ H) h0 h1 h2 ht hc hl k
theorem q_dcNew {σ : L2.St} {H : Hp} {wi : TI} {i j : Nat} {vs : List Nat} {tz : TS} {D : Ends} {l : List Nat} (h : IW wi σ H l one) (hnd : l.Nodup) (hl : l.length ≤ 100) (hj : j < σ.length) (hw : ∀ x, wipe ((wipe σ vs).set j (some x)) vs = wipe σ vs)
    (k : ∀ d H1, H d = none → Ex H H1 → H1 d = some (.dK (dct l fun _ => [])) → tz D (σ.set i (some (.ref d))) H1) : tSeq (tAsg (tDc wi (gName j) tYes (tVar j) (tC (.str (T []))) vs) (gName i)) tz D σ H := by
  refine h H (Ex.refl H) _ ?_
  intro J G H1 e1 wk hG L hL
  refine dc_it (g := gName j) (tt := tYes) (tk := tVar j) (tv := tC (.str (T []))) (vs := vs) (σ := σ) wk (fun i H' => H' = upd H1 L (.dK (dct (l.take i) fun _ => []))) rfl (fun i H' _ h => hG H' (by rw [h]; exact Ex.new hL)) (fun i x H' H'' hi h y => ?_) (fun H' h => ?_)
  · obtain ⟨rfl, c, hci, rfl⟩ := y
    refine ⟨hw _, yes_go ?_⟩
    refine ⟨one c, by rw [List.getElem?_set_self (by rw [wipe_length]; exact hj)], _, .inr (T [c]), rfl, by rw [h]; exact upd_same, sz_lt (by rw [dct_len, List.length_take]; omega), ?_⟩
    rw [h, upd_upd]
    have hcv : l[i] = c := (List.getElem?_eq_some_iff.mp hci).2
    have hnot : c ∉ l.take i := fun hm => by
      have h2 := hnd
      rw [← List.take_append_drop i l, List.nodup_append] at h2
      refine h2.2.2 c hm c ?_ rfl
      rw [List.drop_eq_getElem_cons hi, hcv]
      exact List.mem_cons_self
    have := dct_put_new (fun _ => []) hnot
    rw [List.take_succ_eq_append_getElem hi, hcv, ← this]
  · rw [List.take_length] at h
    subst h
    exact k L _ (fresh_back e1 hL) (e1.trans (Ex.new hL)) upd_same
theorem q_forTup {σ : L2.St} {H : Hp} {te : TE} {gg : TG} {tb tz : TS} {D : Ends} {a : Addr} {xs : List V} (h : Ev te σ H (.ref a)) (hx : SqT K H a xs) (Pv : Nat → L2.St → Hp → Prop) (h0 : ∀ H1, Ex H H1 → Pv 0 σ H1) (hG : ∀ i σ' H', Pv i σ' H' → SqT K H' a xs)
    (hs : ∀ i x σ' H', xs[i]? = some x → Pv i σ' H' → gg x σ' H' fun σ2 H2 => tb { D with nx := Pv (i + 1), ct := Pv (i + 1), bk := tz D } σ2 H2) (hd : ∀ σ' H', Pv xs.length σ' H' → tz D σ' H') : tSeq (tFor (iTup K te) gg tb) tz D σ H :=
  h H (Ex.refl H) _ fun H1 e1 => ⟨a, rfl, ⟨xs, ex_t e1 hx⟩, for_it (D := { D with nx := tz D }) (walk_tup (K := K) (a := a) (xs := xs)) Pv (h0 H1 e1) (fun i σ' H' _ h => hG i σ' H' h) (fun i x σ' H' H'' hi hp y => by
    obtain ⟨rfl, hx2⟩ := y
    exact hs i x σ' H'' hx2 hp) hd⟩
theorem c_friends_of_all (p : Prog K mg ta tm) : C8.Cal P w K mg base 1 "friends_of_all" spTold [] := by
  have B := p.B
  refine p.d_friends_of_all.cal sc_friends_of_all (fun vs H Q E ⟨cp, n, ps, e, _⟩ => by rw [e]; rfl) fun cdv f A outer s H vs Q E hr h => ?_
  obtain ⟨cp, n, ps, rfl, ⟨pt, as, hc, hp, hps⟩, g, q⟩ := h
  have hu := hu_of hr
  have hn5 := g.n5
  have hll := len_lets n (by omega)
  refine ⟨_, (pss_cons (ps_setDc (i := 1) (own := [("sign", 4)]) (g := gName 4) (tt := tYes) rfl sc_friends_of_all.nd rfl rfl (sw_trueD rfl rfl rfl (by decide +kernel)) (pi_str (pe_slice sl_str (pe_glob (v := .str (T alph)) rfl B.alphabet ⟨_, rfl⟩) po_none (po_some (pe_ix ix_tup (pv 0) pe_int (fun _ _ => rfl))))) (blkOk_by (N := N_friends_of_all) (sc := defScope s_friends_of_all) (by decide +kernel)) (fun _ _ _ _ _ => (pg_name (i := 4) sc_friends_of_all.nd rfl (Or.inl rfl))) (fun _ _ _ _ _ => pts_nil) (fun _ _ _ _ _ => (pv 4)) (fun _ _ _ _ _ => pe_str))
    (pss_cons (ps_for PassesOwn.never rfl (pi_tup (pe_ix ix_tup (pv 0) pe_int (fun _ _ => rfl))) (pg_tup rfl (pgs_cons (pg_name (i := 2) sc_friends_of_all.nd rfl (Or.inl rfl)) (pgs_cons (pg_name (i := 3) sc_friends_of_all.nd rfl (Or.inl rfl)) pgs_nil)))
      (pss_cons (ps_dput hu (pv 1) (pe_ix ix_str (pe_glob (v := .str (T alph)) rfl B.alphabet ⟨_, rfl⟩) (pv 2) (fun _ _ => rfl)) (pe_op op_add_str (pe_dget hu (pv 1) (pe_ix ix_str (pe_glob (v := .str (T alph)) rfl B.alphabet ⟨_, rfl⟩) (pv 2) (fun _ _ => rfl)) (fun _ _ => rfl)) (pe_ix ix_str (pe_glob (v := .str (T alph)) rfl B.alphabet ⟨_, rfl⟩) (pv 3) (fun _ _ => rfl))) rfl)
        (pss_one (ps_dput hu (pv 1) (pe_ix ix_str (pe_glob (v := .str (T alph)) rfl B.alphabet ⟨_, rfl⟩) (pv 3) (fun _ _ => rfl)) (pe_op op_add_str (pe_dget hu (pv 1) (pe_ix ix_str (pe_glob (v := .str (T alph)) rfl B.alphabet ⟨_, rfl⟩) (pv 3) (fun _ _ => rfl)) (fun _ _ => rfl)) (pe_ix ix_str (pe_glob (v := .str (T alph)) rfl B.alphabet ⟨_, rfl⟩) (pv 2) (fun _ _ => rfl))) rfl))))
    (pss_one (ps_ret (pv 1))))), ?_⟩
  refine q_dcNew (l := lets n) (iw_str (ev_take (l := alph) (k := n) ev_c (ev_ixt (i := 0) (ev_var rfl) ev_c hc rfl) (by decide))) (nodup_lets n) (by omega) (by show 4 < 5; omega) (fun _ => rfl) fun D H1 hD e1 h1 => ?_
  refine q_forTup (K := K) (ev_ixt (K := K) (i := 1) (ev_var rfl) ev_c (e1 _ _ hc) rfl) (st_of (e1 _ _ hp)) (fun i σ' H' => Ex H H' ∧ H' D = some (.dK (dct (lets n) (fl (ps.take i)))) ∧ ∃ u v, σ' = [some (.ref cp), some (.ref D), u, v, none]) (fun H2 e2 => ⟨e1.trans e2, e2 _ _ h1, _, _, rfl⟩) (fun i σ' H' h => st_of (h.1 _ _ hp)) (fun i x σ' H' hx h => ?_) fun σ' H' h => ?_
  · obtain ⟨e2, h2, u, v, rfl⟩ := h
    rw [List.getElem?_map] at hx
    obtain ⟨a, ha, rfl⟩ := Option.map_eq_some_iff.mp hx
    obtain ⟨pr, hpr, hpa⟩ := pairs_get hps ha
    have hlt := g.lt pr (List.mem_of_getElem? hpr)
    have hi : i < ps.length := (List.getElem?_eq_some_iff.mp hpr).1
    have hpv : ps[i] = pr := (List.getElem?_eq_some_iff.mp hpr).2
    have m1 : 97 + pr.1 ∈ lets n := (mem_lets (by omega)).mpr ⟨by omega, by omega⟩
    have m2 : 97 + pr.2 ∈ lets n := (mem_lets (by omega)).mpr ⟨by omega, by omega⟩
    have hlf : ∀ c, (fl (ps.take i) c).length ≤ 20 := fun c => Nat.le_trans (List.length_filterMap_le _ _) (by have := good_len g; rw [List.length_take]; omega)
    refine ⟨a, [.int (pr.1 : Int), .int (pr.2 : Int)], rfl, st_of (e2 _ _ hpa), rfl, _, _, rfl, _, _, rfl, rfl, ?_⟩
    refine q_dput (c := 97 + pr.1) (v := fl (ps.take i) (97 + pr.1) ++ [97 + pr.2]) (ev_op (ev_dct (ev_var rfl) (ev_op ev_c (ev_var rfl) (rv_ixs (by decide) (alph_at (by omega)))) h2 m1) (ev_op ev_c (ev_var rfl) (rv_ixs (by decide) (alph_at (by omega)))) (rv_adds (by have := hlf (97 + pr.1); rw [List.length_singleton]; omega)))
      (ev_var rfl) (ev_op ev_c (ev_var rfl) (rv_ixs (by decide) (alph_at (by omega)))) h2 m1 (by omega) fun H3 e3 => ?_
    have hne : (if 97 + pr.2 = 97 + pr.1 then fl (ps.take i) (97 + pr.1) ++ [97 + pr.2] else fl (ps.take i) (97 + pr.2)) = fl (ps.take i) (97 + pr.2) := if_neg (by omega)
    refine s_dput (c := 97 + pr.2) (v := fl (ps.take i) (97 + pr.2) ++ [97 + pr.1]) (ev_op (ev_is (ev_dct (ev_var rfl) (ev_op ev_c (ev_var rfl) (rv_ixs (by decide) (alph_at (by omega)))) upd_same m2) (congrArg (fun z => V.str (T z)) hne)) (ev_op ev_c (ev_var rfl) (rv_ixs (by decide) (alph_at (by omega)))) (rv_adds (by have := hlf (97 + pr.2); rw [List.length_singleton]; omega)))
      (ev_var rfl) (ev_op ev_c (ev_var rfl) (rv_ixs (by decide) (alph_at (by omega)))) upd_same m2 (by omega) fun H4 e4 => ?_
    refine ⟨Ex.mut (((e2.trans e3).mut hD).trans e4) hD, ?_, _, _, rfl⟩
    rw [upd_same]
    refine congrArg (fun z => some (HO.dK z)) (dct_congr fun c hc => ?_)
    rw [List.take_succ_eq_append_getElem hi, hpv, fl_snoc]
    by_cases h5 : c = 97 + pr.2
    · subst h5
      rw [if_pos rfl, if_neg (by omega), if_pos rfl]
    · rw [if_neg h5]
      by_cases h6 : c = 97 + pr.1
      · subst h6
        rw [if_pos rfl, if_pos rfl]
      · rw [if_neg h6, if_neg (fun z => h6 z.symm), if_neg (fun z => h5 z.symm), List.append_nil]
  · obtain ⟨e2, h2, u, v, rfl⟩ := h
    rw [List.length_map, pairs_len hps, List.take_length] at h2
    exact ⟨_, rfl, q D H' hD e2 h2⟩
theorem el_told {σ : L2.St} {H : Hp} {ta : TA} {E : XK} {cp : Addr} {n : Nat} {ps : List (Nat × Nat)} {Q : VK} (h : EvA ta σ H [.ref cp]) (c : Comp H cp n ps) (g : Good n ps) (q : ∀ d H', H d = none → Ex H H' → Told H' d n ps → Q (.ref d) H') : tCall spTold [] E ta σ H Q :=
  h H (Ex.refl H) _ fun H1 e1 => ⟨cp, n, ps, rfl, c.ex e1, g, fun d H' hd e2 t => q d H' (fresh_back e1 hd) (e1.trans e2) t⟩
end
end K5
end
section
namespace K5
open PySem PySem.Spec PyProof.Rows L2 Evl
/-! ### evaluations that keep all that stood -/
def Kp (s s' : Shared) : Prop := ∃ h tk, s' = { s with heap := h, toks := tk } ∧ (∀ b o, s.heap.get? b = some o → h.get? b = some o) ∧ s.toks ≤ tk
theorem Kp.refl (s : Shared) : Kp s s := ⟨s.heap, s.toks, rfl, fun _ _ h => h, Nat.le_refl _⟩
theorem Kp.trans {s s1 s2 : Shared} (a : Kp s s1) (b : Kp s1 s2) : Kp s s2 := by
  obtain ⟨h, tk, rfl, k, l⟩ := a
  obtain ⟨h', tk', rfl, k', l'⟩ := b
  exact ⟨h', tk', rfl, fun b o e => k' b o (k b o e), Nat.le_trans l l'⟩
theorem Kp.get {s s' : Shared} (k : Kp s s') {b : Addr} {o : Obj} (e : s.heap.get? b = some o) : s'.heap.get? b = some o := by
  obtain ⟨h, tk, rfl, k, l⟩ := k
  exact k b o e
theorem Kp.cell {s s' : Shared} (k : Kp s s') {c : Addr} {v : Option Value} (h : s.heap.IsCell c v) : s'.heap.IsCell c v := by
  obtain ⟨o, h1, h2⟩ := h
  exact ⟨o, k.get h1, h2⟩
theorem Kp.tk {s s' : Shared} (k : Kp s s') : s.toks ≤ s'.toks := by
  obtain ⟨h, tk, rfl, k, l⟩ := k
  exact l
theorem Kp.tok {s : Shared} {tk : Nat} (h : s.toks ≤ tk) : Kp s { s with toks := tk } := ⟨s.heap, tk, rfl, fun _ _ h => h, h⟩
theorem Kp.inv {X : Cx} {pins : List (Addr × Obj)} {σ : L2.St} {H : Hp} {s s' : Shared} (k : Kp s s') (I : Inv X pins σ H s) : Inv X pins σ H s' := by
  obtain ⟨h, tk, rfl, k, l⟩ := k
  exact I.kept k
theorem Kp.push {s : Shared} {o : Obj} {tk : Nat} (h : s.toks ≤ tk) : Kp s { s with heap := s.heap.push o, toks := tk } := ⟨_, tk, rfl, fun _ _ e => Heap.get?_push_of_some _ e, h⟩
theorem off1 {b N C D : Nat} (hb : b < N ∨ b = C) (hC : N + 1 ≤ C) (hD : N + 1 ≤ D) (h : D ≠ C) : ¬ (b = D ∨ b = N) := by omega
section
variable {X : Cx} {pins : List (Addr × Obj)} {σ : L2.St} {H : Hp} {s : Shared}
/-- d[k], raw, the key a text, the value a text -/
theorem d_getRaw {A : Around} {E Q : Value → Shared → Prop} {d : Addr} {kvs : List (Key × V)} {x z : Str} {t : Tok} (I : Inv X pins σ H s) (e : H d = some (.dK kvs)) (hv : valV kvs (.inr x) = some (.str z)) (h : ∀ t' tk, s.toks ≤ tk → Q (.str z t') { s with toks := tk }) :
    wpAny (model X.prog X.w) A (getItem (.ref d) (.str x t)) Q E s := by
  obtain ⟨zz, hd, vs, rel, dd⟩ := dk_rd I.hok (.inl e)
  obtain ⟨w', hw, rw'⟩ := RelO.some_of (v := .str z) (o := valueAt vs (.inr x)) (by rw [← hv]; exact rel.val (.inr x))
  obtain ⟨t', rfl⟩ := rw'
  refine wpAny_mono (PySem.wpAny_toks (wpAny_getItem_of (Q := fun v s' => ∃ tk, v = Value.str z t' ∧ s' = { s with toks := tk }) (kV_is (k := .inr x) ⟨t, rfl⟩) dd.mapOf hw ⟨_, rfl, rfl⟩)) (fun v s' hq => ?_) fun _ _ x => x.2
  obtain ⟨hk, tk, rfl, rfl⟩ := hq
  exact h t' tk hk
theorem raw_all {Q : Value → Shared → Prop} {scope : Scope} {cl : List (Str × Addr)} {c1 c2 d : Addr} {ia n c : Nat} {w : List Nat} {ps : List (Nat × Nat)} {u : Tok} {p p1 p2 p3 p4 p5 p6 p7 p8 p9 : Pos}
    (I : Inv X pins σ H s) (hc : X.calm = true) (hall : X.mg "all" = none) (hg : Gl X "all")
    (hσa : σ[ia]? = some (some (.str (T w)))) (hNa : X.N[ia]? = some ("ahead" : Str)) (hva : Vis X.env.scope "ahead") (hw : ∀ c ∈ w, c < 128) (hwl : w.length ≤ 1000)
    (hclos : closureFor scope X.env = pure cl) (hcell : ∀ y ∈ scope.names, y.2 ≠ .cell) (hkind : scope.kind = .function) (hnames : ∀ y ∈ scope.names, y.2 = .local → scope.names.lookup y.1 = some .local)
    (ko : scope.names.lookup ("other" : Str) = some .local) (kt : ∀ C, (compEnvC scope cl C X.env).kindOf "told" = some .cell) (ks : ∀ C, (compEnvC scope cl C X.env).kindOf "sign" = some .cell)
    (lt : cl.lookup ("told" : Str) = some c1) (ls : cl.lookup ("sign" : Str) = some c2)
    (h1 : s.heap.IsCell c1 (some (.ref d))) (h2 : s.heap.IsCell c2 (some (.str (T [c]) u))) (hd : Told H d n ps) (hcn : c ∈ lets n)
    (hE : ∀ x s', X.xe x s' ↔ False)
    (h : ∀ s', Kp s s' → Q (.bool (w.all fun o => !(fl ps c).contains o)) s')
    (he : starEach [Expr.ListComp (.Compare (.Name "other" p1) [.NotIn] [.Subscript (.Name "told" p2) (.Name "sign" p3) p4] p5) [⟨.Name "other" p6, .Name "ahead" p7, [], 0⟩] scope p8] X.env = (false, eval (Expr.ListComp (.Compare (.Name "other" p1) [.NotIn] [.Subscript (.Name "told" p2) (.Name "sign" p3) p4] p5) [⟨.Name "other" p6, .Name "ahead" p7, [], 0⟩] scope p8) X.env) :: starEach [] X.env := by rfl) :
    wpAny (model X.prog X.w) X.A (eval (.Call (.Name "all" p) [.ListComp (.Compare (.Name "other" p1) [.NotIn] [.Subscript (.Name "told" p2) (.Name "sign" p3) p4] p5) [⟨.Name "other" p6, .Name "ahead" p7, [], 0⟩] scope p8] [] p9) X.env) Q X.xe s := by
  refine wpAny_Call_Name_kw (ld_blt (u := .builtin "all") I hg hall (by decide +kernel) ?_ (by decide) (by decide))
  refine PyProof.Rows.callWith_builtin1 ?_ he (by rfl)
  show wpAny _ _ (spliced ((false, eval (Expr.ListComp (.Compare (.Name "other" p1) [.NotIn] [.Subscript (.Name "told" p2) (.Name "sign" p3) p4] p5) [⟨.Name "other" p6, .Name "ahead" p7, [], 0⟩] scope p8) X.env) :: backTo p9 (starEach [] X.env))) _ _ s
  refine Calls.spliced_cons ?_
  have hh := I.ok.hd hc
  have fin : wpAny (model X.prog X.w) X.A (eval (Expr.ListComp (.Compare (.Name "other" p1) [.NotIn] [.Subscript (.Name "told" p2) (.Name "sign" p3) p4] p5) [⟨.Name "other" p6, .Name "ahead" p7, [], 0⟩] scope p8) X.env) (fun v s' => ∃ D h' tk, v = .ref D ∧ s' = { s with heap := h', toks := tk } ∧ h'.PlainList D (w.map fun o => Value.bool (!(fl ps c).contains o)).toArray ∧ (∀ b o, s.heap.get? b = some o → h'.get? b = some o)) X.xe s := by
    refine ListComp_goes hclos hcell hkind hnames (raw_name hNa hva I hσa fun v r => ?_) (by intro _; rfl)
    obtain ⟨t, rfl⟩ := r
    refine wpAny_pyIter_strU ?_
    have ez : (T w).cps.size = w.length := by show w.toArray.size = _; simp
    refine ⟨_, _, _, _, _, _, rfl, Goes.text hh s.heap.objs.size (T w) t, by rw [ez]; exact Nat.le_trans hwl (by decide), ⟨_, Heap.get?_push_size _ rfl, rfl, rfl⟩, fun b hb => by rw [List.mem_singleton.mp hb, Heap.size_push]; exact Nat.lt_succ_self _, fun D C s₃ hB => ?_⟩
    obtain ⟨⟨h₃, tk₃, rfl⟩, old, nD, nC, hDC, hnm⟩ := hB
    have nD' : s.heap.objs.size + 1 ≤ D := by rw [← Heap.size_push]; exact nD
    have nC' : s.heap.objs.size + 1 ≤ C := by rw [← Heap.size_push]; exact nC
    have kinds : (compEnvC scope cl C X.env).kindOf "other" = some .local := lookup_relabel_local ko
    have hp : ((compEnvC scope cl C X.env).scope.kind == .class || ((compEnvC scope cl C X.env).scope.kind == .module && (compEnvC scope cl C X.env).locals != (compEnvC scope cl C X.env).globals)) = false := by
      show (scope.kind == .class || (scope.kind == .module && _)) = false
      rw [hkind]; rfl
    refine ⟨fun i ys s₁ => ∃ h' tk m, s₁ = { s with heap := h', toks := tk } ∧ h'.Ns C m ∧ ys = (w.take i).map (fun o => Value.bool (!(fl ps c).contains o)) ∧ ∀ b o, s.heap.get? b = some o → h'.get? b = some o, ⟨h₃, tk₃, _, rfl, hnm, by simp, fun b o e => old b o (Heap.get?_push_of_some _ e)⟩, ?_, ?_, ?_⟩
    · rintro i ys s₁ h' tk ⟨h₄, tk₄, m, rfl, n₄, e₄, k₄⟩ hk' _
      have off : ∀ b : Addr, (b < s.heap.objs.size ∨ b = C) → b ∉ D :: [s.heap.objs.size] := fun b hb hm => off1 hb nC' nD' hDC (by simpa using hm)
      exact ⟨h', tk, m, rfl, n₄.at' fun o e => hk' _ o (off _ (.inr rfl)) e, e₄, fun b o e => hk' b o (off _ (.inl (Heap.lt_size e))) (k₄ b o e)⟩
    · rintro i v ys s₁ hi ⟨c', u', hc', rfl⟩ st ⟨h₄, tk₄, m, rfl, n₄, e₄, k₄⟩ hpl
      have hci : w[i]? = some c' := by simpa [T] using hc'
      refine wpAny_assign_Name (wpAny_storeName_local kinds n₄ (fun h₅ n₅ s₅ => ?_) hp)
      have offC : ∀ b : Addr, b < s.heap.objs.size + 1 → b ≠ C := fun b hb => Nat.ne_of_lt (Nat.lt_of_lt_of_le hb nC')
      have up₅ : ∀ b o, b ≠ C → h₄.get? b = some o → h₅.get? b = some o := fun b o hb e => s₅.extBut _ _ hb e
      have k₅ : ∀ b o, s.heap.get? b = some o → h₅.get? b = some o := fun b o e => up₅ b o (offC b (Nat.lt_succ_of_lt (Heap.lt_size e))) (k₄ b o e)
      refine wpAny_tests_nil ?_
      show wpAny _ _ (eval (.Compare (.Name "other" p1) [.NotIn] [.Subscript (.Name "told" p2) (.Name "sign" p3) p4] p5) (compEnvC scope cl C X.env)) _ _ _
      refine wpAny_Compare1 (wpAny_Name (wpAny_loadName_local hkind kinds n₅ (v := .str ⟨#[c']⟩ u') (by rfl) ?_) (by decide)) (by rfl)
      have cellUp : ∀ {a : Addr} {v : Option Value} {tk : Nat}, s.heap.IsCell a v → ({ s with heap := h₅, toks := tk } : Shared).heap.IsCell a v := fun {a v tk} ⟨o, ho, hd⟩ => ⟨o, k₅ a o ho, hd⟩
      refine subD_of PySem.F.slot_dict_getitem.lookup (fun _ _ => rfl) (wpAny_Name (wpAny_loadName_cell hkind (kt C) lt (cellUp h1) (wpAny_Name (wpAny_loadName_cell hkind (ks C) ls (cellUp h2) ?_) (by decide))) (by decide))
      have I5 : Inv X pins σ H { s with heap := h₅, toks := tk₄ + 1 } := I.kept k₅
      refine ⟨dict_typeIs I5 (DGet.k (k := .inr (T [c])) hd), d_getRaw I5 hd (told_val ps c (lets n) hcn) fun t' tk' _ => ?_⟩
      refine PyProof.Rows.notIn_str ?_
      have e7 : (!(!(Builtin.Str.occurrences (T (fl ps c)) (⟨#[c']⟩ : Str) 0 (T (fl ps c)).length 1).isEmpty)) = !(fl ps c).contains c' := by
        have := PySem.StrLaws.found_one (T (fl ps c)) c'
        rw [List.contains_eq_mem]
        exact congrArg Bool.not this
      rw [e7]
      refine ⟨⟨h₅, _, _, rfl, n₅, ?_, k₅⟩, ?_, hpl.at fun o e => up₅ _ o hDC e⟩
      · rw [e₄, List.take_succ_eq_append_getElem (by have := (List.getElem?_eq_some_iff.mp hci).1; exact this), List.map_append]
        have := (List.getElem?_eq_some_iff.mp hci).2
        rw [this]; rfl
      · obtain ⟨o, e1, e2, e3⟩ := st
        exact ⟨o, up₅ _ _ (offC _ (Nat.lt_succ_self _)) e1, e2, e3⟩
    · rintro ys s₁ ⟨h₄, tk₄, m, rfl, n₄, e₄, k₄⟩ hpl
      rw [ez, List.take_length] at e₄
      subst e₄
      exact ⟨m, n₄, fun h' hs' => ⟨D, h', tk₄, rfl, rfl, hpl.extBut hs'.extBut hDC, fun b o e => hs'.extBut b o (Nat.ne_of_lt (Nat.lt_of_lt_of_le (Nat.lt_succ_of_lt (Heap.lt_size e)) nC')) (k₄ b o e)⟩⟩
  refine wpAny_mono (PySem.wpAny_toks fin) (fun v s' hq => ?_) fun _ _ x => x.2
  obtain ⟨htk, D, h', tk, rfl, rfl, hpl, hk⟩ := hq
  refine Calls.spliced_nil ?_
  refine wpAny_mono (PySem.wpAny_toks (call_all_walk (Q := fun v s'' => v = .bool (w.all fun o => !(fl ps c).contains o) ∧ ∃ h2 tk2, s'' = { s with heap := h2, toks := tk2 } ∧ ∀ b o, s.heap.get? b = some o → h2.get? b = some o) (iter_any hpl.isList fun s₂ e2 st hne => ?_))) (fun v s'' hq => ?_) fun _ _ x => x.2
  · subst e2
    refine ⟨_, _, _, _, _, _, _, rfl, Walks.list (A := X.A.in1) (I.ok.hd hc) _ D hne _, st, truth_bools (bs := w.map fun o => !(fl ps c).contains o) (by rw [List.map_map]; rfl), fun h2 tk2 hk2 => ⟨?_, h2, tk2, rfl, fun b o e => hk2 b o (fun hm => ?_) (Heap.get?_push_of_some _ (hk b o e))⟩⟩
    · rw [List.size_toArray, List.length_map, ← List.length_map (f := fun o => !(fl ps c).contains o) (as := w), L2.all_range, List.all_map]; rfl
    · rw [List.mem_singleton.mp hm] at e
      have := Heap.lt_size (hk _ _ e)
      exact Nat.lt_irrefl _ this
  · obtain ⟨htk2, rfl, h2, tk2, rfl, hk2⟩ := hq
    exact h _ ⟨h2, tk2, rfl, hk2, Nat.le_trans htk htk2⟩
/-- a cell of the def's own takes u: what is known of the state, and the cell itself -/
theorem store_cellR {M : Model} {A : Around} {E : Value → Shared → Prop} {i : Nat} {x : Str} {v : V} {u : Value} {c : Addr} {Q : Unit → Shared → Prop} (I : Inv X pins σ H s) (hN : X.N.Nodup) (hi : X.N[i]? = some x) (hk : X.env.kindOf x = some .cell) (hfn : X.fn x = true) (hc : X.env.cells.lookup x = some c) (r : RelV v u)
    (h : ∀ h', Inv X pins (σ.set i (some v)) H { s with heap := h' } → h'.IsCell c (some u) → Heap.SameBut c s.heap h' → Q () { s with heap := h' }) : wpAny M A (storeName X.env x u) Q E s := by
  obtain ⟨w', z⟩ := I.cell x c hc
  obtain ⟨m, hn, hl⟩ := id I.loc
  refine wpAny_storeName_cell I.ok.kind hk hc z fun h' hc' hs => h h' ?_ hc' hs
  have hiσ : i < σ.length := by rw [I.len]; exact (List.getElem?_eq_some_iff.mp hi).1
  have hab := I.ok.cab x c hfn hc
  have old : ∀ b o, X.s_0.heap.get? b = some o → b ≠ c := fun b o e => Nat.ne_of_lt (Nat.lt_of_lt_of_le (Heap.lt_size e) hab)
  have hHc : H c = none := I.freeC x c hc
  refine { ok := I.ok, os := I.os, bare := I.bare, base := ?_, loc := ?_, cell := ?_, free := I.free, freeC := I.freeC, pin := ?_, hok := ?_, len := by simpa using I.len }
  · exact ⟨fun b o e n hb hx => (hs.2 b (old b o e)).trans (I.base.keep b o e n hb hx), fun b o e n hb hx => (I.base.slot b o e n hb hx).imp fun sl e1 => (hs.2 b (old b o e)).trans e1, I.base.free,
      fun b o e hx => (I.base.there b o e hx).imp fun o' e1 => (hs.2 b (old b o e)).trans e1, I.base.tups, I.base.frzs, I.base.tbls⟩
  · refine ⟨m, hn.sameBut hs (Ne.symm (I.cne x c hc)), fun j y v' e1 e2 e3 => ?_⟩
    by_cases hj : j = i
    · subst hj
      have ey : x = y := Option.some.inj (hi.symm.trans e1)
      subst ey
      rw [List.getElem?_set_self hiσ] at e2
      have ev : v = v' := Option.some.inj (Option.some.inj e2)
      subst ev
      exact ⟨u, r, .inr ⟨.inl hk, c, hc, hc'⟩⟩
    · rw [List.getElem?_set_ne (Ne.symm hj)] at e2
      obtain ⟨u', r', q⟩ := hl j y v' e1 e2 e3
      refine ⟨u', r', q.imp id fun ⟨k, c', e, z'⟩ => ⟨k, c', e, z'.sameBut hs fun ec => ?_⟩⟩
      have exy := I.ok.inj y x c' e (ec ▸ hc)
      exact hj (nodup_ix hN e1 (exy ▸ hi))
  · intro y c' e
    by_cases hcc : c' = c
    · subst hcc; exact ⟨_, hc'⟩
    · exact (I.cell y c' e).imp fun w2 z2 => z2.sameBut hs hcc
  · intro p hp
    obtain ⟨e, n, ne, nf, d⟩ := I.pin p hp
    obtain ⟨oc, hoc, hocd⟩ := id z
    refine ⟨(hs.2 p.1 fun q => ?_).trans e, n, ne, nf, d⟩
    rw [q, hoc] at e
    have q' : oc = p.2 := Option.some.inj e
    exact d w' (by rw [← q']; exact hocd)
  · intro b ob e
    refine (I.hok b ob e).stay (fun c2 w2 hc2 q => (hs.2 c2 fun e2 => ?_).trans q) (fun _ q => q) fun _ _ q => q
    subst e2
    rcases hc2 with hc2 | hc2
    · subst hc2; rw [hHc] at e; cases e
    · rw [hHc] at hc2; cases hc2
end
end K5
end
section
namespace K5
open PySem PySem.Spec PyProof.Rows L2 Evl
theorem take_ahead (r : List Nat) (c : Nat) : r.take (ahead r c).length = ahead r c := by
  have h : r.takeWhile (· != c) ++ r.dropWhile (· != c) = r := List.takeWhile_append_dropWhile
  show r.take (r.takeWhile (· != c)).length = r.takeWhile (· != c)
  have := List.take_left (l₁ := r.takeWhile (· != c)) (l₂ := r.dropWhile (· != c))
  rw [h] at this
  exact this
theorem ahead_at : ∀ (r : List Nat) (c i : Nat), r[i]? = some c → (∀ k, k < i → r[k]? ≠ some c) → (ahead r c).length = i
  | [], c, i, h, _ => by simp at h
  | x :: r, c, 0, h, _ => by
    have : x = c := Option.some.inj h
    subst this
    rw [ahead_cons_self]; rfl
  | x :: r, c, i + 1, h, hn => by
    have hx : x ≠ c := fun e => hn 0 (Nat.succ_pos _) (by rw [e]; rfl)
    rw [ahead_cons_ne r hx, List.length_cons, ahead_at r c i h fun k hk => hn (k + 1) (Nat.succ_lt_succ hk)]
theorem occ_ahead {r : List Nat} {c : Nat} (h : c ∈ r) : ∃ rest, Builtin.Str.occurrences (T r) (T [c]) 0 (T r).length 1 = (ahead r c).length :: rest := by
  have one_at : ∀ i, StrLaws.At (T r) (T [c]) (T r).length i ↔ r[i]? = some c := fun i => StrLaws.subAt_one (T r) c i
  rcases StrLaws.occ_head (T r) (T [c]) 1 (Nat.le_refl 1) with ⟨_, hn⟩ | ⟨i, rest, h0, hi, hn⟩
  · obtain ⟨i, hi, e⟩ := List.getElem_of_mem h
    exact absurd ((one_at i).mpr (by rw [← e]; simp)) (hn i)
  · refine ⟨rest, ?_⟩
    rw [ahead_at r c i ((one_at i).mp hi) fun k hk hc => hn k hk ((one_at k).mpr hc)]
    exact h0
theorem strike (r : List Nat) (c : Nat) : Txt.replace (T r) (T [c]) (T []) = T (r.filter (· != c)) := by
  rw [T_of (Txt.replace (T r) (T [c]) (T []))]
  congr 1
  exact PyProof.Rows.replace_strikes (T r) c
section
variable {X : Cx} {pins : List (Addr × Obj)} {σ : L2.St} {H : Hp} {s : Shared}
theorem raw_cell {x : Str} {c : Addr} {v : Value} {pos : Pos} {Q E : Value → Shared → Prop} (hk0 : X.env.scope.kind = .function) (hk : X.env.kindOf x = some .cell) (hc : X.env.cells.lookup x = some c) (h : s.heap.IsCell c (some v)) (fin : Q v s) (hd : (x == ("__debug__" : Str)) = false := by decide) :
    wpAny (model X.prog X.w) X.A (eval (.Name x pos) X.env) Q E s := wpAny_Name (wpAny_loadName_cell hk0 hk hc h fin) hd
/-- rest[:rest.index(sign)] -/
theorem raw_cut {Q : Value → Shared → Prop} {ir c : Nat} {cs : Addr} {u : Tok} {r : List Nat} {p1 p2 p3 p4 p5 p6 p7 : Pos} (I : Inv X pins σ H s) (hNr : X.N[ir]? = some ("rest" : Str)) (hvr : Vis X.env.scope "rest") (hσ : σ[ir]? = some (some (.str (T r))))
    (hk : X.env.kindOf "sign" = some .cell) (hcs : X.env.cells.lookup ("sign" : Str) = some cs) (hcell : s.heap.IsCell cs (some (.str (T [c]) u))) (hm : c ∈ r) (hl : r.length ≤ 1000)
    (h : ∀ t s', Kp s s' → Q (.str (T (ahead r c)) t) s')
    (hb : attributeBase (.Name "rest" p2) "index" X.env (eval (.Name "rest" p2) X.env) = eval (.Name "rest" p2) X.env := by rfl) (hs : starEach [.Name "sign" p4] X.env = [(false, eval (.Name "sign" p4) X.env)] := by rfl) (hline : (p3.endLine == p5.line) = true := by rfl) :
    wpAny (model X.prog X.w) X.A (eval (.Subscript (.Name "rest" p1) (.Slice none (some (.Call (.Attribute (.Name "rest" p2) "index" p3) [.Name "sign" p4] [] p5)) none p6) p7) X.env) Q X.xe s := by
  refine Subscript_ (raw_name hNr hvr I hσ fun v rr => ?_)
  obtain ⟨t, rfl⟩ := rr
  refine wpAny_Slice ?_
  rw [evalPart_none]
  refine wpAny_pure ?_
  rw [evalPart_some]
  refine PySem.Call_method1 hb hs hline (raw_name hNr hvr I hσ fun v rr => ?_)
  obtain ⟨t2, rfl⟩ := rr
  obtain ⟨rest, ho⟩ := occ_ahead hm
  refine PySem.SB.index (raw_cell I.ok.kind hk hcs hcell ⟨T [c], u, rfl, _, rest, ho, ?_⟩)
  refine wpAny_pure ?_
  refine tail_any (ops := [.str (T r) t, .ref s.heap.objs.size]) (typeIs_str _ _ _) F.slot_str_getitem.lookup ?_ (by with_unfolding_all rfl)
  refine wpAny_getItem_str_slice (l := none) (u := some (((ahead r c).length : Int), s.toks)) (st := none) ⟨_, Heap.get?_push_size _ rfl, rfl, rfl⟩ rfl ?_
  have e : PySem.StrLaws.sliceText (T r) none (some ((ahead r c).length : Int)) = T (ahead r c) := by
    rw [sliceText_cut, cut_to, take_ahead]
  have k0 : Kp s { s with heap := s.heap.push { cls := .type "slice", data := .fields #[.none, .int ((ahead r c).length : Int) s.toks, .none] }, toks := s.toks + 1 } := Kp.push (Nat.le_succ _)
  unfold PySem.StrLaws.sliceText at e
  show Made.post (if ((1 : Int) == 1 && (Builtin.Str.strSliceIndices none (some ((ahead r c).length : Int)) 1 (T r).length).length == (T r).length) = true then Made.val (.str (T r) t)
    else Made.str ⟨((Builtin.Str.strSliceIndices none (some ((ahead r c).length : Int)) 1 (T r).length).filterMap ((T r).cps[·]?)).toArray⟩) Q _
  by_cases cc : ((1 : Int) == 1 && (Builtin.Str.strSliceIndices none (some ((ahead r c).length : Int)) 1 (T r).length).length == (T r).length) = true
  · rw [if_pos cc] at e ⊢
    rw [e]
    exact h _ _ k0
  · rw [if_neg cc] at e ⊢
    rw [e]
    refine ⟨by rw [T_len]; have := (List.takeWhile_sublist (l := r) (· != c)).length_le; exact Nat.le_trans (Nat.le_trans this hl) (by decide), h _ _ (k0.trans (Kp.tok (Nat.le_succ _)))⟩
/-- found, rest = (found + sign, rest.replace(sign, '')) -/
theorem raw_par {Q : Flow → Shared → Prop} {jf jr c : Nat} {cs : Addr} {u : Tok} {f r : List Nat} {px py pt a1 a2 a3 b1 b2 b3 b4 b5 pt2 pos : Pos} {kt k2 kc} (I : Inv X pins σ H s) (hc : X.calm = true) (hN : X.N.Nodup) (hNf : X.N[jf]? = some ("found" : Str)) (hNr : X.N[jr]? = some ("rest" : Str)) (hij : jf ≠ jr)
    (hxf : X.env.scope.names.lookup ("found" : Str) = some .local) (hxr : X.env.scope.names.lookup ("rest" : Str) = some .local) (hσf : σ[jf]? = some (some (.str (T f)))) (hσr : σ[jr]? = some (some (.str (T r))))
    (hk : X.env.kindOf "sign" = some .cell) (hcs : X.env.cells.lookup ("sign" : Str) = some cs) (hcell : s.heap.IsCell cs (some (.str (T [c]) u))) (hu0 : u ≠ 0) (hu1 : u < s.toks) (hfl : f.length ≤ 1000) (hrl : r.length ≤ 1000)
    (q : ∀ s', Inv X pins ((σ.set jf (some (.str (T (f ++ [c]))))).set jr (some (.str (T (r.filter (· != c)))))) H s' → Q .next s')
    (hb : attributeBase (.Name "rest" b1) "replace" X.env (eval (.Name "rest" b1) X.env) = eval (.Name "rest" b1) X.env := by rfl)
    (hs2 : starEach [.Name "sign" b3, .Constant (.str "") kc b4] X.env = [(false, eval (.Name "sign" b3) X.env), (false, eval (.Constant (.str "") kc b4) X.env)] := by rfl) (hline : (b2.endLine == b5.line) = true := by rfl)
    (hw : swappedStores [.Tuple [.Name "found" px, .Name "rest" py] kt pt] (.Tuple [.BinOp (.Name "found" a1) .Add (.Name "sign" a2) a3, .Call (.Attribute (.Name "rest" b1) "replace" b2) [.Name "sign" b3, .Constant (.str "") kc b4] [] b5] k2 pt2) X.env = pure (some [("found" : Str), ("rest" : Str)]) := by rfl)
    (hs : swapsWithSole [.Tuple [.Name "found" px, .Name "rest" py] kt pt] (.Tuple [.BinOp (.Name "found" a1) .Add (.Name "sign" a2) a3, .Call (.Attribute (.Name "rest" b1) "replace" b2) [.Name "sign" b3, .Constant (.str "") kc b4] [] b5] k2 pt2) pos.line X.env = pure false := by rfl) :
    wpAny (model X.prog X.w) X.A (exec (.Assign [.Tuple [.Name "found" px, .Name "rest" py] kt pt] (.Tuple [.BinOp (.Name "found" a1) .Add (.Name "sign" a2) a3, .Call (.Attribute (.Name "rest" b1) "replace" b2) [.Name "sign" b3, .Constant (.str "") kc b4] [] b5] k2 pt2) pos) X.env) Q X.xe s := by
  rw [exec_Assign_arm]
  refine wpAny_bind (wpAny_standAt ?_)
  rw [hs]
  refine wpAny_bind (wpAny_pure ?_)
  rw [if_neg (by decide)]
  refine wpAny_bind (Tuple_ ?_)
  refine Calls.spliced_cons (wpAny_BinOp (raw_name hNf (.inl hxf) I hσf fun v rr => ?_))
  obtain ⟨t, rfl⟩ := rr
  refine raw_cell I.ok.kind hk hcs hcell ?_
  refine wpAny_mono (PySem.wpAny_toks (add_str (Q := fun v s' => ∃ t' tk, v = Value.str (T f ++ T [c]) t' ∧ s' = { s with toks := tk }) (fun t' tk => ⟨t', tk, rfl, rfl⟩) (by rw [T_len, T_len, List.length_singleton]; exact Nat.le_trans (Nat.succ_le_succ hfl) (by decide)))) (fun v1 s1 hq => ?_) fun _ _ x => x.2
  obtain ⟨htk, t', tk, rfl, rfl⟩ := hq
  have htk : s.toks ≤ tk := htk
  have I1 : Inv X pins σ H { s with toks := tk } := I.tok tk
  refine Calls.spliced_cons (PySem.Call_method2 hb hs2 hline (raw_name hNr (.inl hxr) I1 hσr fun v rr => ?_))
  obtain ⟨t3, rfl⟩ := rr
  refine ⟨"str", "str.replace", F.plainAttrs_str, F.slot_str_replace, F.type_str_replace, typeIs_str _ (T r) t3, (fun _ z => nomatch z), Calls.callWith_builtin rfl (Calls.evalArgs_plain ?_)⟩
  refine Calls.spliced_cons ?_
  refine raw_cell I.ok.kind hk hcs hcell ?_
  refine Calls.spliced_cons (Calls.Constant_str (Calls.spliced_nil ?_))
  refine PySem.SC.replace hu0 (Nat.ne_of_gt (Nat.lt_of_le_of_lt (Nat.zero_le _) (Nat.lt_of_lt_of_le hu1 htk))) (Nat.ne_of_lt (Nat.lt_of_lt_of_le hu1 htk)) (by rw [lit_empty]; rfl) (by rw [lit_empty, T_len, T_len, List.length_nil, Nat.mul_zero]; omega) fun t5 tk5 => ?_
  rw [show Txt.replace (T r) (T [c]) (Str.ofString "") = T (r.filter (· != c)) from by rw [lit_empty, strike], T_app]
  refine Calls.spliced_nil ?_
  refine wpAny_newObj_type ?_ (by show 2 ≤ sizeLine; decide)
  have I2 : Inv X pins σ H { s with heap := s.heap.push { cls := .type "tuple", data := .seq [Value.str (T (f ++ [c])) t', .str (T (r.filter (· != c))) t5].toArray }, toks := tk5 } := I.kept (t' := tk5) fun b o e => Heap.get?_push_of_some _ e
  rw [hw]
  refine wpAny_bind (wpAny_pure ?_)
  show wpAny (model X.prog X.w) X.A (do rule "assign.swapped-stores"; let items ← unpackItems (.ref s.heap.objs.size) 2 none; assignInOrder [fun v => bindName X.env "rest" v, fun v => bindName X.env "found" v] items.reverse; pure Flow.next) _ _ _
  refine wpAny_bind (wpAny_rule (wpAny_bind (unpackItems_tuple (items := #[.str (T (f ++ [c])) t', .str (T (r.filter (· != c))) t5]) (I.ok.hd hc) (IsTup.new s.heap _) fun h' hx' => ?_)))
  have I3 := I2.kept (h' := h') (t' := tk5) fun b o e => hx' b o (Nat.ne_of_lt (Heap.lt_size e)) e
  show wpAny _ _ (assignInOrder [fun v => bindName X.env "rest" v, fun v => bindName X.env "found" v] [.str (T (r.filter (· != c))) t5, .str (T (f ++ [c])) t'] >>= fun _ => pure Flow.next) _ _ _
  refine wpAny_bind (assignInOrder_cons (wpAny_bindName (store_ok I3 hN hNr (.inl hxr) (v := .str (T (r.filter (· != c)))) ⟨_, rfl⟩ (fun s2 I4 => ?_) (.inr hxr))))
  refine assignInOrder_cons (wpAny_bindName (store_ok I4 hN hNf (.inl hxf) (v := .str (T (f ++ [c]))) ⟨_, rfl⟩ (fun s3 I5 => assignInOrder_nil (wpAny_pure ?_)) (.inr hxf)))
  rw [List.set_comm _ _ (Ne.symm hij)] at I5
  exact q s3 I5
end
end K5
end
section
namespace K5
open PySem PySem.Spec PyProof.Rows L2 Evl
theorem all_congr' {l : List Nat} {p q : Nat → Bool} (h : ∀ x ∈ l, p x = q x) : l.all p = l.all q := by
  rw [Bool.eq_iff_iff, List.all_eq_true, List.all_eq_true]
  exact ⟨fun a x hx => by rw [← h x hx]; exact a x hx, fun a x hx => by rw [h x hx]; exact a x hx⟩
theorem test_free {n : Nat} {ps : List (Nat × Nat)} (g : Good n ps) {r : List Nat} (hr : ∀ x ∈ r, x ∈ lets n) {c : Nat} (hc : c ∈ r) : ((ahead r c).all fun o => !(fl ps c).contains o) = free ps r c := by
  have hn : n ≤ 7 := by have := g.n5; omega
  have h97 : ∀ x ∈ r, 97 ≤ x := fun x hx => ((mem_lets hn).mp (hr x hx)).1
  refine all_congr' fun o ho => ?_
  congr 1
  rw [Bool.eq_iff_iff, List.contains_iff_mem, mem_fl g]
  exact ⟨fun h => h.2.2, fun h => ⟨h97 c hc, h97 o (ahead_mem ho).1, h⟩⟩
theorem pick_first {ps : List (Nat × Nat)} {m r : List Nat} (hp : m.Perm r) (hup : m.Pairwise (· ≤ ·)) {i c : Nat} (hi : m[i]? = some c) (hf : free ps r c = true) (hno : ∀ k x, k < i → m[k]? = some x → free ps r x = false) : c = pick ps r := by
  have hcm : c ∈ m := List.mem_of_getElem? hi
  have hne : r ≠ [] := fun e => by have := hp.mem_iff.mp hcm; rw [e] at this; cases this
  refine IsLeast.uniq (l := frees ps r) ⟨List.mem_filter.mpr ⟨hp.mem_iff.mp hcm, hf⟩, fun x hx => ?_⟩ (pick_is ps hne)
  obtain ⟨hxr, hxf⟩ := List.mem_filter.mp hx
  obtain ⟨k, hk, e⟩ := List.getElem_of_mem (hp.mem_iff.mpr hxr)
  have hk? : m[k]? = some x := by rw [← e]; simp
  obtain ⟨hi1, hi2⟩ := List.getElem?_eq_some_iff.mp hi
  by_cases hlt : k < i
  · rw [hno k x hlt hk?] at hxf; cases hxf
  · by_cases heq : k = i
    · subst heq; rw [← e, ← hi2]; exact Nat.le_refl _
    · have := List.pairwise_iff_getElem.mp hup i k hi1 hk (by omega)
      rw [hi2, e] at this
      exact this
theorem tones_at {lo hi : Nat} : ∀ {its : List Value} {cs : List Nat}, TOnes lo hi its cs → ∀ {i : Nat} {v : Value}, its[i]? = some v → ∃ c, ∃ t : Tok, cs[i]? = some c ∧ v = Value.str (T [c]) t ∧ lo ≤ t ∧ t < hi
  | _, _, .nil, i, v, h => by simp at h
  | _, _, .cons (a := a) (b := b) hd r, 0, v, h => by
    have : a = v := Option.some.inj h
    subst this
    obtain ⟨t, h1, h2, h3⟩ := hd
    exact ⟨b, t, rfl, h1, h2, h3⟩
  | _, _, .cons hd r, i + 1, v, h => tones_at r (i := i) h
theorem tones_len {lo hi : Nat} : ∀ {its : List Value} {cs : List Nat}, TOnes lo hi its cs → its.length = cs.length
  | _, _, .nil => rfl
  | _, _, .cons _ r => congrArg Nat.succ (tones_len r)
/-- what the context of least_order tells -/
structure LoX (X : Cx) (cs ct : Addr) (scope : Scope) (cl : List (Str × Addr)) : Prop where
  N : X.N = ([("told" : Str), ("order" : Str), ("rest" : Str), ("found" : Str), ("sign" : Str), ("ahead" : Str), ("other" : Str)] : List Str)
  nd : X.N.Nodup
  calm : X.calm = true
  xe : X.xe = fun _ _ => False
  hu : X.A.units + 1 < cLine
  all : X.mg "all" = none
  sorted : X.mg "sorted" = none
  gall : Gl X "all"
  gsorted : Gl X "sorted"
  lrest : X.env.scope.names.lookup ("rest" : Str) = some .local
  lfound : X.env.scope.names.lookup ("found" : Str) = some .local
  lahead : X.env.scope.names.lookup ("ahead" : Str) = some .local
  nahead : X.env.cells.lookup ("ahead" : Str) = none
  ksign : X.env.kindOf ("sign" : Str) = some .cell
  fsign : X.fn ("sign" : Str) = true
  csign : X.env.cells.lookup ("sign" : Str) = some cs
  ktold : X.env.kindOf ("told" : Str) = some .cell
  ctold : X.env.cells.lookup ("told" : Str) = some ct
  clos : closureFor scope X.env = pure cl
  cell : ∀ y ∈ scope.names, y.2 ≠ .cell
  kind : scope.kind = .function
  names : ∀ y ∈ scope.names, y.2 = .local → scope.names.lookup y.1 = some .local
  ko : scope.names.lookup ("other" : Str) = some .local
  kt : ∀ C, (compEnvC scope cl C X.env).kindOf ("told" : Str) = some .cell
  ks : ∀ C, (compEnvC scope cl C X.env).kindOf ("sign" : Str) = some .cell
  lt : cl.lookup ("told" : Str) = some ct
  ls : cl.lookup ("sign" : Str) = some cs
section
variable {X : Cx} {pins : List (Addr × Obj)} {σ : L2.St} {H : Hp} {s : Shared}
theorem told_cell {cs ct : Addr} {scope : Scope} {cl : List (Str × Addr)} {d : Addr} {r : List (Option V)} (L : LoX X cs ct scope cl) (I : Inv X pins (some (.ref d) :: r) H s) : s.heap.IsCell ct (some (.ref d)) := by
  obtain ⟨m, hn, hl⟩ := I.loc
  obtain ⟨u, hu, lk⟩ := hl 0 "told" (.ref d) (by rw [L.N]; rfl) rfl (.inr (.inl (by have := L.ktold; exact this)))
  have hu : u = Value.ref d := hu
  subst hu
  rcases lk with ⟨hk, _⟩ | ⟨_, c, hc, hcell⟩
  · rw [L.ktold] at hk; cases hk
  · rw [L.ctold] at hc
    cases (Option.some.inj hc)
    exact hcell
theorem lo_for {Q : Flow → Shared → Prop} {cs ct d : Addr} {scope : Scope} {cl : List (Str × Addr)} {n : Nat} {ps : List (Nat × Nat)} {r f : List Nat} {x1 a0 b0 z0 : Option V}
    {p1 p2 p3 p4 p5 q1 q2 q3 q4 q5 q6 q7 q8 q9 t0 t1 t2 t3 t4 t5 t6 t7 t8 t9 px py pt a1 a2 a3 b1 b2 b3 b4 b5 pt2 pos pif pbr : Pos} {kt k2 kc : Nat} (L : LoX X cs ct scope cl)
    (I : Inv X pins [some (.ref d), x1, some (.str (T r)), some (.str (T f)), a0, b0, z0] H s) (h1 : 1 ≤ s.toks) (hd : Told H d n ps) (g : Good n ps) (hr : ∀ x ∈ r, x ∈ lets n) (hrl : r.length ≤ 50) (hfl : f.length ≤ 50) (hne : r ≠ [])
    (q : ∀ s' a b, Inv X pins [some (.ref d), x1, some (.str (T (r.filter (· != pick ps r)))), some (.str (T (f ++ [pick ps r]))), a, b, z0] H s' → Q .next s')
    (hb1 : attributeBase (.Name "rest" q2) "index" X.env (eval (.Name "rest" q2) X.env) = eval (.Name "rest" q2) X.env := by rfl) (hs1 : starEach [.Name "sign" q4] X.env = [(false, eval (.Name "sign" q4) X.env)] := by rfl) (hline1 : (q3.endLine == q5.line) = true := by rfl)
    (hsw : swapsWith (.Subscript (.Name "rest" q1) (.Slice none (some (.Call (.Attribute (.Name "rest" q2) "index" q3) [.Name "sign" q4] [] q5)) none q6) q7) (some (.Name "ahead" q8)) q9.line X.env = pure false := by rfl)
    (he : starEach [Expr.ListComp (.Compare (.Name "other" t1) [.NotIn] [.Subscript (.Name "told" t2) (.Name "sign" t3) t4] t5) [⟨.Name "other" t6, .Name "ahead" t7, [], 0⟩] scope t8] X.env = (false, eval (Expr.ListComp (.Compare (.Name "other" t1) [.NotIn] [.Subscript (.Name "told" t2) (.Name "sign" t3) t4] t5) [⟨.Name "other" t6, .Name "ahead" t7, [], 0⟩] scope t8) X.env) :: starEach [] X.env := by rfl)
    (hb : attributeBase (.Name "rest" b1) "replace" X.env (eval (.Name "rest" b1) X.env) = eval (.Name "rest" b1) X.env := by rfl)
    (hs2 : starEach [.Name "sign" b3, .Constant (.str "") kc b4] X.env = [(false, eval (.Name "sign" b3) X.env), (false, eval (.Constant (.str "") kc b4) X.env)] := by rfl) (hline : (b2.endLine == b5.line) = true := by rfl)
    (hw : swappedStores [.Tuple [.Name "found" px, .Name "rest" py] kt pt] (.Tuple [.BinOp (.Name "found" a1) .Add (.Name "sign" a2) a3, .Call (.Attribute (.Name "rest" b1) "replace" b2) [.Name "sign" b3, .Constant (.str "") kc b4] [] b5] k2 pt2) X.env = pure (some [("found" : Str), ("rest" : Str)]) := by rfl)
    (hs : swapsWithSole [.Tuple [.Name "found" px, .Name "rest" py] kt pt] (.Tuple [.BinOp (.Name "found" a1) .Add (.Name "sign" a2) a3, .Call (.Attribute (.Name "rest" b1) "replace" b2) [.Name "sign" b3, .Constant (.str "") kc b4] [] b5] k2 pt2) pos.line X.env = pure false := by rfl)
    (hsr : starEach [Expr.Name "rest" p3] X.env = (false, eval (Expr.Name "rest" p3) X.env) :: starEach [] X.env := by rfl) :
    wpAny (model X.prog X.w) X.A (exec (.For (.Name "sign" p1) (.Call (.Name "sorted" p2) [.Name "rest" p3] [] p4)
      [.Assign [.Name "ahead" q8] (.Subscript (.Name "rest" q1) (.Slice none (some (.Call (.Attribute (.Name "rest" q2) "index" q3) [.Name "sign" q4] [] q5)) none q6) q7) q9,
       .If (.Call (.Name "all" t0) [.ListComp (.Compare (.Name "other" t1) [.NotIn] [.Subscript (.Name "told" t2) (.Name "sign" t3) t4] t5) [⟨.Name "other" t6, .Name "ahead" t7, [], 0⟩] scope t8] [] t9)
         [.Assign [.Tuple [.Name "found" px, .Name "rest" py] kt pt] (.Tuple [.BinOp (.Name "found" a1) .Add (.Name "sign" a2) a3, .Call (.Attribute (.Name "rest" b1) "replace" b2) [.Name "sign" b3, .Constant (.str "") kc b4] [] b5] k2 pt2) pos, .Break pbr] [] pif] [] p5) X.env) Q X.xe s := by
  have N2 : X.N[2]? = some ("rest" : Str) := by rw [L.N]; rfl
  have N3 : X.N[3]? = some ("found" : Str) := by rw [L.N]; rfl
  have N4 : X.N[4]? = some ("sign" : Str) := by rw [L.N]; rfl
  have N5 : X.N[5]? = some ("ahead" : Str) := by rw [L.N]; rfl
  have hh := I.ok.hd L.calm
  have ha : ∀ c ∈ r, c < 128 := fun c hc => lets_128 (hr c hc)
  refine exec_For_goes ?_ (by intro _; rfl) (by rw [L.xe]; exact .never)
  refine wpAny_Call_Name_kw (ld_blt (u := .builtin "sorted") I L.gsorted L.sorted (by decide +kernel) ?_ (by decide) (by decide))
  refine PyProof.Rows.callWith_builtin1 ?_ hsr (by rfl)
  show wpAny _ _ (spliced ((false, eval (Expr.Name "rest" p3) X.env) :: backTo p4 (starEach [] X.env))) _ _ s
  refine Calls.spliced_cons (raw_name N2 (.inl L.lrest) I rfl fun v rr => ?_)
  obtain ⟨tr, rfl⟩ := rr
  refine Calls.spliced_nil ?_
  refine sorted_T hh r ha (by omega) tr fun hp1 h' tk its m cc k1 k2 htk hpl hto hpm hup => ?_
  have I1 : Inv X pins [some (.ref d), x1, some (.str (T r)), some (.str (T f)), a0, b0, z0] H { s with heap := h', toks := tk } := I.kept fun b o e => k2 b o (k1 b o e)
  have I0 : Inv X pins [some (.ref d), x1, some (.str (T r)), some (.str (T f)), a0, b0, z0] H { s with heap := hp1 } := I.kept (t' := s.toks) k1
  have fL : FpOk X pins H hp1.objs.size := I0.fpOk (Nat.le_refl _) (I0.hok.fresh (Nat.le_refl _))
  generalize hp1.objs.size = Ls at hpl fL
  have hL : ({ s with heap := h', toks := tk } : Shared).heap.IsList Ls its.toArray := ⟨_, hpl, rfl, cc, rfl⟩
  have hLlt : Ls < h'.objs.size := Heap.lt_size hpl
  refine wpAny_pyIter_list hL ?_
  have fI : FpOk X pins H h'.objs.size := I1.fpOk (Nat.le_refl _) (I1.hok.fresh (Nat.le_refl _))
  have I2 : Inv X pins [some (.ref d), x1, some (.str (T r)), some (.str (T f)), a0, b0, z0] H { s with heap := h'.push { cls := .type "list_iterator", data := .fields #[.ref Ls, .int 0 0] }, toks := tk } := I1.kept fun b o e => Heap.get?_push_of_some _ e
  have hlen := tones_len hto
  refine ⟨_, _, _, _, _, _, fun i s₁ => ∃ a b, Inv X pins [some (.ref d), x1, some (.str (T r)), some (.str (T f)), a, b, z0] H s₁ ∧ tk ≤ s₁.toks ∧ ∀ k x, k < i → m[k]? = some x → free ps r x = false, rfl,
    Goes.list hh h'.objs.size Ls (Nat.ne_of_lt hLlt) its.toArray, ⟨⟨_, Heap.get?_push_size _ rfl, rfl, rfl⟩, hL.push _⟩, ⟨a0, b0, I2, Nat.le_refl _, fun k x hk => absurd hk (Nat.not_lt_zero k)⟩, ?_, ?_, ?_⟩
  · rintro i s₁ h2 tk2 ⟨a, b, J, hle, hno⟩ hk2 hle2
    obtain ⟨f0, f1, f2, f3, f4, f5⟩ := fI
    exact ⟨a, b, J.turned (t' := tk2) (fun bb o hb q => hk2 bb o (fun z => hb (List.mem_singleton.mp z)) q) f0 f1 f3 f4 f5, Nat.le_trans hle hle2, hno⟩
  · rintro i v s₁ hi hv st ⟨a, b, J, hle, hno⟩
    have hv' : its[i]? = some v := by simpa using hv
    obtain ⟨c, u, hmi, rfl, hu1, hu2⟩ := tones_at hto hv'
    have hcr : c ∈ r := hpm.mem_iff.mp (List.mem_of_getElem? hmi)
    refine wpAny_assign_Name (store_cellR J L.nd N4 L.ksign L.fsign L.csign (v := .str (T [c])) ⟨u, rfl⟩ fun h3 J3 c3 sb3 => ?_)
    have ncI : cs ≠ h'.objs.size := fI.2.2.2.2.1 _ _ L.csign
    have ncL : cs ≠ Ls := fL.2.2.2.2.1 _ _ L.csign
    have st3 : h3.IsListIter h'.objs.size Ls (i + 1) ∧ h3.IsList Ls its.toArray := ⟨st.1.at fun o e => (sb3.2 _ (Ne.symm ncI)).trans e, st.2.at fun o e => (sb3.2 _ (Ne.symm ncL)).trans e⟩
    have J3 : Inv X pins [some (.ref d), x1, some (.str (T r)), some (.str (T f)), some (.str (T [c])), b, z0] H { s₁ with heap := h3 } := J3
    -- ahead = rest[:rest.index(sign)]
    refine wpAny_execs_cons (wpAny_Assign_Name (raw_cut J3 N2 (.inl L.lrest) rfl L.ksign L.csign c3 hcr (by omega) (fun ta s4 k4 => ?_) hb1 hs1 hline1) hsw)
    have J4 := k4.inv J3
    have hst : wpAny (model X.prog X.w) X.A (storeName X.env "ahead" (.str (T (ahead r c)) ta)) (fun _ s5 => Inv X pins [some (.ref d), x1, some (.str (T r)), some (.str (T f)), some (.str (T [c])), some (.str (T (ahead r c))), z0] H s5 ∧ ∃ a, Heap.SameBut a s4.heap s5.heap ∧ (a = X.env.locals ∨ X.env.cells.lookup ("ahead" : Str) = some a)) X.xe s4 :=
      store_ok2 J4 L.nd N5 (.inl L.lahead) (v := .str (T (ahead r c))) ⟨ta, rfl⟩ (fun s5 J5 sb5 => ⟨J5, sb5⟩) (.inr L.lahead)
    refine wpAny_mono (PySem.wpAny_toks hst) (fun _ s5 hq => ?_) fun _ _ x => x.2
    obtain ⟨htk5, J5, la, sb5, hla⟩ := hq
    have hla : la = X.env.locals := hla.resolve_right fun z => by rw [L.nahead] at z; cases z
    subst hla
    have c5 : s5.heap.IsCell cs (some (.str (T [c]) u)) := (k4.cell c3).sameBut sb5 (J4.cne _ _ L.csign)
    have st4 : s4.heap.IsListIter h'.objs.size Ls (i + 1) ∧ s4.heap.IsList Ls its.toArray := ⟨st3.1.at fun o e => k4.get e, st3.2.at fun o e => k4.get e⟩
    have st5 : s5.heap.IsListIter h'.objs.size Ls (i + 1) ∧ s5.heap.IsList Ls its.toArray := ⟨st4.1.at fun o e => (sb5.2 _ fI.2.1).trans e, st4.2.at fun o e => (sb5.2 _ fL.2.1).trans e⟩
    have tk5 : tk ≤ s5.toks := Nat.le_trans hle (Nat.le_trans k4.tk htk5)
    refine wpAny_execs_cons (wpAny_If (isTrue_plain (raw_all (ia := 5) J5 L.calm L.all L.gall rfl N5 (.inl L.lahead) (fun x hx => ha x (ahead_mem hx).1) (by have := (List.takeWhile_sublist (l := r) (· != c)).length_le; exact Nat.le_trans this (by omega)) L.clos L.cell L.kind L.names L.ko L.kt L.ks L.lt L.ls (told_cell L J5) c5 hd (hr c hcr) (fun x s' => by rw [L.xe]) (fun s6 k6 => ?_) he)))
    have J6 := k6.inv J5
    have c6 := k6.cell c5
    have st6 : s6.heap.IsListIter h'.objs.size Ls (i + 1) ∧ s6.heap.IsList Ls its.toArray := ⟨st5.1.at fun o e => k6.get e, st5.2.at fun o e => k6.get e⟩
    have tk6 : tk ≤ s6.toks := Nat.le_trans tk5 k6.tk
    refine wpAny_truthy_bool ?_
    rw [test_free g hr hcr]
    cases hf : free ps r c with
    | true =>
      rw [if_pos rfl]
      have hpick := pick_first hpm hup hmi hf hno
      refine wpAny_execs_cons (raw_par J6 L.calm L.nd N3 N2 (by decide) L.lfound L.lrest rfl rfl L.ksign L.csign c6 (by have : 1 ≤ u := Nat.le_trans h1 hu1; exact Nat.ne_of_gt this) (Nat.lt_of_lt_of_le hu2 tk6) (by omega) (by omega) (fun s7 J7 => ?_) hb hs2 hline hw hs)
      refine wpAny_execs_cons (wpAny_Break ?_)
      rw [hpick] at J7
      exact q s7 _ _ J7
    | false =>
      rw [if_neg Bool.false_ne_true]
      refine wpAny_execs_nil (wpAny_execs_nil ⟨⟨_, _, J6, tk6, fun k x hk hx => ?_⟩, st6⟩)
      by_cases e : k = i
      · subst e; rw [hmi] at hx; cases (Option.some.inj hx); exact hf
      · exact hno k x (by omega) hx
  · rintro s₁ ⟨a, b, J, hle, hno⟩
    have hp := pick_mem ps hne
    obtain ⟨k, hk, e⟩ := List.getElem_of_mem (hpm.mem_iff.mpr hp)
    have hk' : k < its.toArray.size := by rw [List.size_toArray, hlen]; exact hk
    have := hno k (pick ps r) hk' (by rw [← e]; simp)
    rw [pick_free ps hne] at this
    cases this
/-- the loop of least_order -/
def tLO : TS := fun D σ H => ∃ (d : Addr) (x1 : Option V) (r f : List Nat) (a b z : Option V) (n : Nat) (ps : List (Nat × Nat)), σ = [some (.ref d), x1, some (.str (T r)), some (.str (T f)), a, b, z] ∧ Told H d n ps ∧ Good n ps ∧ r.Nodup ∧ (∀ x ∈ r, x ∈ lets n) ∧ f.length + r.length ≤ 50 ∧
  ∀ a b rr, D.nx [some (.ref d), x1, rr, some (.str (T (f ++ canon ps r))), a, b, z] H
theorem ps_lo {cs ct : Addr} {scope : Scope} {cl : List (Str × Addr)}
    {w1 w2 w3 w4 p1 p2 p3 p4 p5 q1 q2 q3 q4 q5 q6 q7 q8 q9 t0 t1 t2 t3 t4 t5 t6 t7 t8 t9 px py pt a1 a2 a3 b1 b2 b3 b4 b5 pt2 pos pif pbr : Pos} {kw kt k2 kc : Nat} (L : LoX X cs ct scope cl)
    (hb1 : attributeBase (.Name "rest" q2) "index" X.env (eval (.Name "rest" q2) X.env) = eval (.Name "rest" q2) X.env := by rfl) (hs1 : starEach [.Name "sign" q4] X.env = [(false, eval (.Name "sign" q4) X.env)] := by rfl) (hline1 : (q3.endLine == q5.line) = true := by rfl)
    (hsw : swapsWith (.Subscript (.Name "rest" q1) (.Slice none (some (.Call (.Attribute (.Name "rest" q2) "index" q3) [.Name "sign" q4] [] q5)) none q6) q7) (some (.Name "ahead" q8)) q9.line X.env = pure false := by rfl)
    (he : starEach [Expr.ListComp (.Compare (.Name "other" t1) [.NotIn] [.Subscript (.Name "told" t2) (.Name "sign" t3) t4] t5) [⟨.Name "other" t6, .Name "ahead" t7, [], 0⟩] scope t8] X.env = (false, eval (Expr.ListComp (.Compare (.Name "other" t1) [.NotIn] [.Subscript (.Name "told" t2) (.Name "sign" t3) t4] t5) [⟨.Name "other" t6, .Name "ahead" t7, [], 0⟩] scope t8) X.env) :: starEach [] X.env := by rfl)
    (hb : attributeBase (.Name "rest" b1) "replace" X.env (eval (.Name "rest" b1) X.env) = eval (.Name "rest" b1) X.env := by rfl)
    (hs2 : starEach [.Name "sign" b3, .Constant (.str "") kc b4] X.env = [(false, eval (.Name "sign" b3) X.env), (false, eval (.Constant (.str "") kc b4) X.env)] := by rfl) (hline : (b2.endLine == b5.line) = true := by rfl)
    (hw : swappedStores [.Tuple [.Name "found" px, .Name "rest" py] kt pt] (.Tuple [.BinOp (.Name "found" a1) .Add (.Name "sign" a2) a3, .Call (.Attribute (.Name "rest" b1) "replace" b2) [.Name "sign" b3, .Constant (.str "") kc b4] [] b5] k2 pt2) X.env = pure (some [("found" : Str), ("rest" : Str)]) := by rfl)
    (hs : swapsWithSole [.Tuple [.Name "found" px, .Name "rest" py] kt pt] (.Tuple [.BinOp (.Name "found" a1) .Add (.Name "sign" a2) a3, .Call (.Attribute (.Name "rest" b1) "replace" b2) [.Name "sign" b3, .Constant (.str "") kc b4] [] b5] k2 pt2) pos.line X.env = pure false := by rfl)
    (hsr : starEach [Expr.Name "rest" p3] X.env = (false, eval (Expr.Name "rest" p3) X.env) :: starEach [] X.env := by rfl) :
    PS X (.While (.Compare (.Name "rest" w1) [.NotEq] [.Constant (.str "") kw w2] w3) [.For (.Name "sign" p1) (.Call (.Name "sorted" p2) [.Name "rest" p3] [] p4)
      [.Assign [.Name "ahead" q8] (.Subscript (.Name "rest" q1) (.Slice none (some (.Call (.Attribute (.Name "rest" q2) "index" q3) [.Name "sign" q4] [] q5)) none q6) q7) q9,
       .If (.Call (.Name "all" t0) [.ListComp (.Compare (.Name "other" t1) [.NotIn] [.Subscript (.Name "told" t2) (.Name "sign" t3) t4] t5) [⟨.Name "other" t6, .Name "ahead" t7, [], 0⟩] scope t8] [] t9)
         [.Assign [.Tuple [.Name "found" px, .Name "rest" py] kt pt] (.Tuple [.BinOp (.Name "found" a1) .Add (.Name "sign" a2) a3, .Call (.Attribute (.Name "rest" b1) "replace" b2) [.Name "sign" b3, .Constant (.str "") kc b4] [] b5] k2 pt2) pos, .Break pbr] [] pif] [] p5] [] w4) tLO := by
  refine ⟨fun pins s σ H D I h => ?_⟩
  obtain ⟨d, x1, r0, f0, a0, b0, z, n, ps, rfl, ht, g, hnd, hr, hl, q⟩ := h
  have N2 : X.N[2]? = some ("rest" : Str) := by rw [L.N]; rfl
  have hp : PassesOwn (model X.prog X.w) X.A X.env X.xe := by rw [L.xe]; exact .never
  refine wpAny_While (codeAny_whileLoop (fun k s' => ∃ r f a b, k = r.length ∧ Inv X pins [some (.ref d), x1, some (.str (T r)), some (.str (T f)), a, b, z] H s' ∧ r.Nodup ∧ (∀ x ∈ r, x ∈ lets n) ∧ f.length + r.length ≤ 50 ∧ f ++ canon ps r = f0 ++ canon ps r0) ?_ r0.length ⟨r0, f0, a0, b0, rfl, I, hnd, hr, hl, rfl⟩)
  rintro k s1 ⟨r, f, a, b, rfl, J, hnd1, hr1, hl1, e1⟩
  refine wpAny_passesOwn hp (wpAny_isTrue_Compare1 (raw_name N2 (.inl L.lrest) J rfl fun v rr => ?_) (by with_unfolding_all rfl))
  obtain ⟨t, rfl⟩ := rr
  refine Calls.Constant_str ?_
  refine PyProof.Rows.ne_str (wpAny_truthy_bool ?_)
  have e2 : (T r != Str.ofString "") = (r != []) := by
    rw [lit_empty]
    cases r <;> rfl
  rw [e2]
  by_cases hne : r = []
  · subst hne
    have : (([] : List Nat) != []) = false := rfl
    rw [this, if_neg Bool.false_ne_true]
    have J1 := J.tok (s1.toks + 1)
    refine wpAny_execs_nil ⟨_, H, J1, ?_⟩
    rw [canon_nil, List.append_nil] at e1
    rw [e1]
    exact q _ _ _
  · have : (r != []) = true := by simpa using hne
    rw [this, if_pos rfl]
    have J1 := J.tok (s1.toks + 1)
    refine wpAny_passesOwn hp (wpAny_execs_cons (lo_for L J1 (Nat.succ_le_succ (Nat.zero_le _)) ht g hr1 (by omega) (by omega) hne (fun s' a' b' J' => ?_) hb1 hs1 hline1 hsw he hb hs2 hline hw hs hsr))
    have hlen := len_less hnd1 (pick_mem ps hne)
    refine wpAny_execs_nil ⟨(r.filter (· != pick ps r)).length, by omega, _, _, a', b', rfl, J', hnd1.filter _, fun x hx => hr1 x (List.mem_filter.mp hx).1, by rw [List.length_append, List.length_singleton]; omega, ?_⟩
    rw [← e1, canon_step ps hnd1 hne, List.append_assoc]
    rfl
end
section
variable {P : Program} {w : World} {K : PySem.W.Frag} {mg : Str → Option Value} {base : Heap} {ta tm : Tok}
/-! ### least_order -/
def pLeast : List V → Hp → V → Prop := fun vs H z => ∃ (d : Addr) (n : Nat) (ps : List (Nat × Nat)) (l : List Nat), vs = [.ref d, .str (T l)] ∧ Told H d n ps ∧ Good n ps ∧ l.Nodup ∧ (∀ x ∈ l, x ∈ lets n) ∧ z = .str (T (canon ps l))
theorem c_least_order (p : Prog K mg ta tm) : C8.Cal P w K mg base 1 "least_order" (spE pLeast) [] := by
  have B := p.B
  refine p.d_least_order.cal sc_least_order (spE_len fun vs H z ⟨d, n, ps, l, e, _⟩ => by rw [e]; rfl) fun cdv f A outer s H vs Q E hr h => ?_
  obtain ⟨z, ⟨d, n, ps, l, rfl, ht, g, hnd, hl, rfl⟩, q⟩ := h
  have hlen := words_len (by have := g.n5; omega) hnd hl
  have hn5 := g.n5
  have hcl : ∀ y ∈ ([(Str.ofString ".0", NameKind.local), (Str.ofString "other", NameKind.local), (Str.ofString "sign", NameKind.free), (Str.ofString "told", NameKind.free)] : List (Str × NameKind)), y.2 = .free → ∃ c, (cxOf CX0 P w K mg base N_least_order (Str.ofString "least_order") (defScope s_least_order) f cdv A outer s H E).nox.env.cells.lookup y.1 = some c := by
    intro y hy e
    rcases List.mem_cons.mp hy with rfl | hy
    · cases e
    rcases List.mem_cons.mp hy with rfl | hy
    · cases e
    rcases List.mem_cons.mp hy with rfl | hy
    · exact ⟨_, rfl⟩
    rcases List.mem_cons.mp hy with rfl | hy
    · exact ⟨_, rfl⟩
    cases hy
  refine ⟨_, (pss_cons (ps_par (i := 2) (j := 3) rfl sc_least_order.nd rfl rfl (by decide) rfl rfl (pa_cons (pv 1) (pa_cons pe_str pa_nil)) (by rfl))
    (pss_cons (ps_lo (cs := ((cellsFrom (s.heap.objs.size + 1) (defScope s_least_order).names []).lookup (Str.ofString "sign")).getD 0) (ct := ((cellsFrom (s.heap.objs.size + 1) (defScope s_least_order).names []).lookup (Str.ofString "told")).getD 0)
      { N := rfl, nd := sc_least_order.nd, calm := rfl, xe := rfl, hu := hu_of hr, all := B.all, sorted := B.sorted, gall := rfl, gsorted := rfl, lrest := rfl, lfound := rfl, lahead := rfl, nahead := rfl, ksign := rfl, fsign := rfl, csign := rfl, ktold := rfl, ctold := rfl, clos := closure_ok hcl, cell := by decide, kind := rfl, names := by decide, ko := rfl, kt := fun _ => rfl, ks := fun _ => rfl, lt := rfl, ls := rfl })
    (pss_one (ps_ret (pv 3))))), ?_⟩
  refine ⟨_, rfl, _, _, rfl, d, _, l, [], _, _, _, n, ps, rfl, ht, g, hnd, hl, by rw [List.length_nil]; omega, fun a b rr => ?_⟩
  rw [List.nil_append]
  exact ⟨_, rfl, q H (Ex.refl H)⟩
theorem ok_least {d : Addr} {n : Nat} {ps : List (Nat × Nat)} {l : List Nat} {H : Hp} (ht : Told H d n ps) (g : Good n ps) (hm : l.Nodup) (hl : ∀ c ∈ l, c ∈ lets n) : SpV (spE pLeast) [.ref d, .str (T l)] H (.str (T (canon ps l))) :=
  spE_ok fun H' e => ⟨d, n, ps, l, rfl, ht.ex e, g, hm, hl, rfl⟩
end
end K5
end
section
namespace K5
open PySem PySem.Spec PyProof.Rows L2 Evl
theorem srt_strict {l : List Nat} (h : l.Nodup) : (srt l).Pairwise (· < ·) :=
  ((srt_up l).and ((srt_perm l).nodup_iff.mpr h)).imp fun ⟨a, b⟩ => Nat.lt_of_le_of_ne a b
/-- a kind: letters of the company, each once, in the least order -/
structure Kind (n : Nat) (ps : List (Nat × Nat)) (k : List Nat) : Prop where
  nd : k.Nodup
  sub : ∀ c ∈ k, c ∈ lets n
  can : canon ps k = k
theorem rest_ok {n : Nat} {ps : List (Nat × Nat)} {k : List Nat} (kd : Kind n ps k) : (k ++ rst n k).Nodup ∧ ∀ c ∈ k ++ rst n k, c ∈ lets n := by
  refine ⟨List.nodup_append.mpr ⟨kd.nd, rst_nodup n k, fun a ha b hb e => ?_⟩, fun c hc => ?_⟩
  · subst e
    exact ((mem_rst n).mp hb).2 ha
  · rcases List.mem_append.mp hc with h | h
    · exact kd.sub c h
    · exact ((mem_rst n).mp h).1
theorem rest_ok' {n : Nat} {ps : List (Nat × Nat)} {k : List Nat} (kd : Kind n ps k) : (k ++ (rst n k).reverse).Nodup ∧ ∀ c ∈ k ++ (rst n k).reverse, c ∈ lets n := by
  have h := rest_ok kd
  have hp : (k ++ (rst n k).reverse).Perm (k ++ rst n k) := List.Perm.append_left k (List.reverse_perm _)
  exact ⟨hp.nodup_iff.mpr h.1, fun c hc => h.2 c (hp.mem_iff.mp hc)⟩
section
variable {P : Program} {w : World} {K : PySem.W.Frag} {mg : Str → Option Value} {base : Heap} {ta tm : Tok}
theorem ev_toldCall {σ : L2.St} {H : Hp} {sp : Sp} {E E1 : XK} {ta tr : TA} {xs : List V} {z : V} {cp : Addr} {n : Nat} {ps : List (Nat × Nat)} (h : EvA ta σ H [.ref cp]) (c : Comp H cp n ps) (g : Good n ps) (hr : EvA tr σ H xs) (hs : ∀ d H1, Told H1 d n ps → SpV sp ((.ref d :: xs) ++ []) H1 z) : Ev (tCall sp [] E (tCons (tCall spTold [] E1 ta) tr)) σ H z := fun H1 e Q q =>
  el_told (h.mono e) (c.ex e) g fun d H2 hd e2 t => hr H2 (e.trans e2) _ fun H3 e3 => hs d H3 (t.ex e3) H3 (Ex.refl H3) Q (fun H4 e4 => q H4 ((e2.trans e3).trans e4)) E
/-! ### is_kind -/
def pIsKind : List V → Hp → V → Prop := fun vs H z => ∃ (cp : Addr) (n : Nat) (ps : List (Nat × Nat)) (k : List Nat), vs = [.ref cp, .str (T k)] ∧ Comp H cp n ps ∧ Good n ps ∧ Kind n ps k ∧ z = .bl true
theorem c_is_kind (p : Prog K mg ta tm) : C8.Cal P w K mg base 2 "is_kind" (spE pIsKind) [] := by
  have B := p.B
  refine p.d_is_kind.cal sc_is_kind (spE_len fun vs H z ⟨cp, n, ps, k, e, _⟩ => by rw [e]; rfl) fun cdv f A outer s H vs Q E hr h => ?_
  obtain ⟨z, ⟨cp, n, ps, k, rfl, c, g, kd, rfl⟩, q⟩ := h
  have hn5 := g.n5
  have hlen := words_len (by omega) kd.nd kd.sub
  have hk128 : ∀ c ∈ k, c < 128 := fun c hc => lets_128 (kd.sub c hc)
  refine ⟨_, (pss_cons (ps_if (PW.pt (pw_or (pt_not (pt_val (pe_callB call_isi (by rfl) B.isinstance (by decide +kernel) (pa_cons (pv 1) (pa_cons (pe_bltn (v := .ty "str") rfl B.str (by decide +kernel) rfl) pa_nil))))) (pw_or (pt_cmpR op_gt (pe_callB call_len_str (by rfl) B.len PySem.boot_len (pa_cons (pv 1) pa_nil)) (pe_ix ix_tup (pv 0) pe_int (fun _ _ => rfl)) (nomark _)) (pw_or1 (pt_not (pt_val (C8.pe_c (c_is_set p) hr (by omega) rfl (pa_cons (pv 0) (pa_cons (pe_join pe_str (pe_callB (cr_sortedT rfl) (by rfl) B.sorted (by decide +kernel) (pa_cons (pv 1) pa_nil))) pa_nil))))))))) (pss_one (ps_ret pe_bl)) pss_nil)
    (pss_one (ps_ret (pe_cmpR op_eq (C8.pe_c (c_least_order p) hr (by omega) rfl (pa_cons (C8.pe_c (c_friends_of_all p) hr (by omega) rfl (pa_cons (pv 0) pa_nil)) (pa_cons (pv 1) pa_nil))) (pv 1) (nomark _))))), ?_⟩
  refine q_when (b := false) ?_ (fun z => nomatch z) fun _ H1 e1 => ?_
  · obtain ⟨pt, as, hc, hp, hps⟩ := id c
    refine et_is (et_or (a := false) (b := false) (et_not (et_B (ev_isi (ev_var rfl) ev_c (fun _ _ => .base (.str (T k))) (r := true) (by decide +kernel)))) fun _ => ?_) rfl
    refine et_is (et_or (a := false) (b := false) (et_test (ev_is (ev_op (ev_cb1 (ev_var rfl) (rc_lens (by omega))) (ev_ixt (i := 0) (ev_var rfl) ev_c hc rfl) iv_gt) (congrArg V.bl (decide_eq_false (by omega))))) fun _ => ?_) rfl
    exact et_not (a := true) (et_B (ev_call (ea_cons (ev_var rfl) (ea_cons (ev_joinN (K := K) ev_c (el_cb1 (ev_var rfl) (rcl_sorted hk128 (by omega))) (by rw [srt_len]; omega)) ea_nil)) (ok_set c (by omega) (srt_strict kd.nd) fun c hc => kd.sub c (srt_mem.mp hc))))
  · refine s_ret (ev_is (ev_op (ev_toldCall (ea_cons (ev_var rfl) ea_nil) (c.ex e1) g (ea_cons (ev_var rfl) ea_nil) fun d H2 t => ok_least t g kd.nd kd.sub) (ev_var rfl) (rv_eq rfl)) ?_) fun H2 e2 => q H2 (e1.trans e2)
    exact congrArg V.bl (decide_eq_true (by rw [kd.can]))
theorem ok_isKind {cp : Addr} {n : Nat} {ps : List (Nat × Nat)} {k : List Nat} {H : Hp} (c : Comp H cp n ps) (g : Good n ps) (kd : Kind n ps k) : SpV (spE pIsKind) [.ref cp, .str (T k)] H (.bl true) := spE_ok fun H' e => ⟨cp, n, ps, k, rfl, c.ex e, g, kd, rfl⟩
/-! ### need_kind -/
def pNeedK : List V → Hp → V → Prop := fun vs H z => ∃ (cp : Addr) (n : Nat) (ps : List (Nat × Nat)) (k : List Nat), vs = [.ref cp, .str (T k)] ∧ Comp H cp n ps ∧ Good n ps ∧ Kind n ps k ∧ z = .non
theorem c_need_kind (p : Prog K mg ta tm) : C8.Cal P w K mg base 3 "need_kind" (spE pNeedK) [] := by
  have B := p.B
  refine p.d_need_kind.cal sc_need_kind (spE_len fun vs H z ⟨cp, n, ps, k, e, _⟩ => by rw [e]; rfl) fun cdv f A outer s H vs Q E hr h => ?_
  obtain ⟨z, ⟨cp, n, ps, k, rfl, c, g, kd, rfl⟩, q⟩ := h
  refine ⟨_, (pss_one (ps_if (pt_not (pt_val (C8.pe_c (c_is_kind p) hr (by omega) rfl (pa_cons (pv 0) (pa_cons (pv 1) pa_nil))))) (pss_one ps_never) pss_nil)), ?_⟩
  exact s_when (b := false) (et_not (a := true) (et_B (ev_call (ea_cons (ev_var rfl) (ea_cons (ev_var rfl) ea_nil)) (ok_isKind c g kd)))) (fun z => nomatch z) fun _ H1 e => q H1 e
theorem ok_needK {cp : Addr} {n : Nat} {ps : List (Nat × Nat)} {k : List Nat} {H : Hp} (c : Comp H cp n ps) (g : Good n ps) (kd : Kind n ps k) : SpV (spE pNeedK) [.ref cp, .str (T k)] H .non := spE_ok fun H' e => ⟨cp, n, ps, k, rfl, c.ex e, g, kd, rfl⟩
/-! ### joined -/
def pJoined : List V → Hp → V → Prop := fun vs H z => ∃ (d : Addr) (n : Nat) (ps : List (Nat × Nat)) (a b : List Nat), vs = [.ref d, .str (T a), .str (T b)] ∧ Told H d n ps ∧ Good n ps ∧ (a ++ b).Nodup ∧ (∀ c ∈ a ++ b, c ∈ lets n) ∧ z = .str (T (canon ps (a ++ b)))
theorem c_joined (p : Prog K mg ta tm) : C8.Cal P w K mg base 2 "joined" (spE pJoined) [] := by
  have B := p.B
  refine p.d_joined.cal sc_joined (spE_len fun vs H z ⟨d, n, ps, a, b, e, _⟩ => by rw [e]; rfl) fun cdv f A outer s H vs Q E hr h => ?_
  obtain ⟨z, ⟨d, n, ps, a, b, rfl, t, g, nd, sub, rfl⟩, q⟩ := h
  have hn5 := g.n5
  have hlen := words_len (by omega) nd sub
  rw [List.length_append] at hlen
  have hb : b.filter (fun c => !decide (c ∈ a)) = b := List.filter_eq_self.mpr fun c hc => by
    have : c ∉ a := fun hm => (List.nodup_append.mp nd).2.2 c hm c hc rfl
    simpa using this
  refine ⟨_, (pss_one (ps_ret (C8.pe_c (c_least_order p) hr (by omega) rfl (pa_cons (pv 0) (pa_cons (pe_op op_add_str (pv 1) (pe_join pe_str (pe_lc (own := [("sign", 3)]) (g := gName 3) rfl sc_joined.nd (pi_str (pv 2)) (blkOk_by (N := N_joined) (sc := defScope s_joined) (by decide +kernel)) (fun _ _ _ _ _ => (pg_name (i := 3) sc_joined.nd rfl (Or.inl rfl))) (fun _ _ _ _ _ => pts_one (pt_cmpR op_notIn_sign (pv 3) (pv 1) rfl)) (fun _ _ _ _ _ => (pv 3))))) pa_nil))))), ?_⟩
  have hl := el_lc (σ := start N_joined [.ref d, .str (T a), .str (T b)]) (H := H) (xs := b) (enc := one) (t := tTest (tOp (fun x y H Q => ∃ (c : Nat) (z : Str), x = .str ⟨#[c]⟩ ∧ y = .str z ∧ Q (.bl (!decide (c ∈ z.cps.toList))) H) (tVar 3) (tVar 1))) (te := tVar 3) (j := 3) (vs := [3]) (fun c => !decide (c ∈ a)) one (iw_str (te := tVar 2) (ev_var rfl)) (by omega) (fun _ => rfl) (fun c hc => et_test (ev_op (ev_var rfl) (ev_var rfl) rv_nosign)) fun c hc _ => ev_var rfl
  unfold sel at hl
  rw [hb] at hl
  exact s_ret (ev_call (ea_cons (ev_var rfl) (ea_cons (ev_op (ev_var rfl) (ev_joinN (K := K) ev_c hl (by omega)) (rv_adds (by omega))) ea_nil)) (ok_least t g nd sub)) q
theorem ok_joined {d : Addr} {n : Nat} {ps : List (Nat × Nat)} {a b : List Nat} {H : Hp} (ht : Told H d n ps) (g : Good n ps) (nd : (a ++ b).Nodup) (sub : ∀ c ∈ a ++ b, c ∈ lets n) : SpV (spE pJoined) [.ref d, .str (T a), .str (T b)] H (.str (T (canon ps (a ++ b)))) :=
  spE_ok fun H' e => ⟨d, n, ps, a, b, rfl, ht.ex e, g, nd, sub, rfl⟩
/-! ### rising -/
def pRising : List V → Hp → V → Prop := fun vs H z => ∃ (cp : Addr) (n : Nat) (ps : List (Nat × Nat)) (k : List Nat), vs = [.ref cp, .str (T k)] ∧ Comp H cp n ps ∧ Good n ps ∧ Kind n ps k ∧ z = .int (rise ps k : Nat)
theorem c_rising (p : Prog K mg ta tm) : C8.Cal P w K mg base 4 "rising" (spE pRising) [] := by
  have B := p.B
  refine p.d_rising.cal sc_rising (spE_len fun vs H z ⟨cp, n, ps, k, e, _⟩ => by rw [e]; rfl) fun cdv f A outer s H vs Q E hr h => ?_
  obtain ⟨z, ⟨cp, n, ps, k, rfl, c, g, kd, rfl⟩, q⟩ := h
  refine ⟨_, (pss_cons (ps_expr (C8.pe_c (c_need_company p) hr (by omega) rfl (pa_cons (pv 0) pa_nil)))
    (pss_cons (ps_expr (C8.pe_c (c_need_kind p) hr (by omega) rfl (pa_cons (pv 0) (pa_cons (pv 1) pa_nil))))
    (pss_one (ps_ret (C8.pe_c (c_rising_of p) hr (by omega) rfl (pa_cons (C8.pe_c (c_friends_of_all p) hr (by omega) rfl (pa_cons (pv 0) pa_nil)) (pa_cons (pv 1) pa_nil))))))), ?_⟩
  refine q_drop (ev_call (ea_cons (ev_var rfl) ea_nil) (ok_needC c g)) fun H1 e1 => ?_
  refine q_drop (ev_call (ea_cons (ev_var rfl) (ea_cons (ev_var rfl) ea_nil)) (ok_needK (c.ex e1) g kd)) fun H2 e2 => ?_
  exact s_ret (ev_toldCall (ea_cons (ev_var rfl) ea_nil) (c.ex (e1.trans e2)) g (ea_cons (ev_var rfl) ea_nil) fun d H3 t => ok_ris t g kd.nd kd.sub) fun H3 e3 => q H3 ((e1.trans e2).trans e3)
theorem ok_rising {cp : Addr} {n : Nat} {ps : List (Nat × Nat)} {k : List Nat} {H : Hp} (c : Comp H cp n ps) (g : Good n ps) (kd : Kind n ps k) : SpV (spE pRising) [.ref cp, .str (T k)] H (.int (rise ps k : Nat)) := spE_ok fun H' e => ⟨cp, n, ps, k, rfl, c.ex e, g, kd, rfl⟩
/-! ### need_play -/
def spPlay : Sp := fun vs H Q _ => ∃ (cp : Addr) (n : Nat) (ps : List (Nat × Nat)) (k : List Nat) (t : Int), vs = [.ref cp, .str (T k), .int t] ∧ Comp H cp n ps ∧ Good n ps ∧ Kind n ps k ∧ 0 ≤ t ∧ t ≤ 1 ∧ ∀ d H', H d = none → Ex H H' → Told H' d n ps → Q (.ref d) H'
theorem c_need_play (p : Prog K mg ta tm) : C8.Cal P w K mg base 4 "need_play" spPlay [] := by
  have B := p.B
  refine p.d_need_play.cal sc_need_play (fun vs H Q E ⟨cp, n, ps, k, t, e, _⟩ => by rw [e]; rfl) fun cdv f A outer s H vs Q E hr h => ?_
  obtain ⟨cp, n, ps, k, t, rfl, c, g, kd, t0, t1, q⟩ := h
  refine ⟨_, (pss_cons (ps_expr (C8.pe_c (c_need_company p) hr (by omega) rfl (pa_cons (pv 0) pa_nil)))
    (pss_cons (ps_expr (C8.pe_c (c_need_kind p) hr (by omega) rfl (pa_cons (pv 0) (pa_cons (pv 1) pa_nil))))
    (pss_cons (ps_expr (C8.pe_c (c_need_number p) hr (by omega) rfl (pa_cons (pv 2) (pa_cons pe_int (pa_cons pe_int pa_nil)))))
    (pss_one (ps_ret (C8.pe_c (c_friends_of_all p) hr (by omega) rfl (pa_cons (pv 0) pa_nil))))))), ?_⟩
  refine q_drop (ev_call (ea_cons (ev_var rfl) ea_nil) (ok_needC c g)) fun H1 e1 => ?_
  refine q_drop (ev_call (ea_cons (ev_var rfl) (ea_cons (ev_var rfl) ea_nil)) (ok_needK (c.ex e1) g kd)) fun H2 e2 => ?_
  refine q_drop (ev_call (ea_cons (ev_var rfl) (ea_cons ev_c (ea_cons ev_c ea_nil))) (ok_needN t0 t1)) fun H3 e3 => ?_
  have e := (e1.trans e2).trans e3
  exact el_told (ea_cons (ev_var rfl) ea_nil) (c.ex e) g fun d H' hd e' t => q d H' (fresh_back e hd) (e.trans e') t
theorem el_play {σ : L2.St} {H : Hp} {ta : TA} {E : XK} {cp : Addr} {n : Nat} {ps : List (Nat × Nat)} {k : List Nat} {t : Int} {Q : VK} (h : EvA ta σ H [.ref cp, .str (T k), .int t]) (c : Comp H cp n ps) (g : Good n ps) (kd : Kind n ps k) (t0 : 0 ≤ t) (t1 : t ≤ 1) (q : ∀ d H', H d = none → Ex H H' → Told H' d n ps → Q (.ref d) H') : tCall spPlay [] E ta σ H Q :=
  h H (Ex.refl H) _ fun H1 e1 => ⟨cp, n, ps, k, t, rfl, c.ex e1, g, kd, t0, t1, fun d H' hd e2 t => q d H' (fresh_back e1 hd) (e1.trans e2) t⟩
end
end K5
end
section
namespace K5
open PySem PySem.Spec PyProof.Rows L2 Evl
/-- all but one object is kept -/
def ExB (kn : Addr) (H H' : Hp) : Prop := ∀ a o, a ≠ kn → H a = some o → H' a = some o
theorem ExB.refl (kn : Addr) (H : Hp) : ExB kn H H := fun _ _ _ h => h
theorem ExB.trans {kn : Addr} {H H1 H2 : Hp} (a : ExB kn H H1) (b : ExB kn H1 H2) : ExB kn H H2 := fun x o n h => b x o n (a x o n h)
theorem exb_of {kn : Addr} {H H' : Hp} (e : Ex H H') : ExB kn H H' := fun a o _ h => e a o h
theorem ExB.mut {kn : Addr} {H H' : Hp} {p : Addr} {o : HO} (e : ExB kn H H') (h : H p = none) : ExB kn H (upd H' p o) := fun a u n ha => by
  rw [upd_ne (ne_of_none ha h)]
  exact e a u n ha
theorem ExB.own {kn : Addr} {H H' : Hp} {o : HO} (e : ExB kn H H') : ExB kn H (upd H' kn o) := fun a u n ha => by
  rw [upd_ne n]
  exact e a u n ha
def Memo (n : Nat) (ps : List (Nat × Nat)) (kvs : List (List Key × V)) : Prop := ∀ (v : List Nat) (t : Int) (x : V), valV kvs [.inr (T v), .inl t] = some x → x = .int (Vp ps n v t)
theorem memo_nil {n : Nat} {ps : List (Nat × Nat)} : Memo n ps [] := fun _ _ _ h => by cases h
theorem Memo.put {n : Nat} {ps : List (Nat × Nat)} {kvs : List (List Key × V)} (h : Memo n ps kvs) (w : List Nat) (t : Int) : Memo n ps (putK kvs [.inr (T w), .inl t] (.int (Vp ps n w t))) := fun v t' x hx => by
  rw [valV_put] at hx
  by_cases e : ([.inr (T v), .inl t'] : List Key) = [.inr (T w), .inl t]
  · rw [if_pos e] at hx
    have h1 := (List.cons.inj e).1
    have h2 := (List.cons.inj (List.cons.inj e).2).1
    have h3 := T_inj (Sum.inr.inj h1)
    have h4 := Sum.inl.inj h2
    subst h3 h4
    exact (Option.some.inj hx).symm
  · rw [if_neg e] at hx
    exact h v t' x hx
/-- how many keys a call may add -/
def cost : Nat → Nat
  | 0 => 0
  | k + 1 => 1 + (k + 1) * cost k
theorem cost_le {k : Nat} (h : k ≤ 5) : cost k ≤ 206 := by
  have : k = 0 ∨ k = 1 ∨ k = 2 ∨ k = 3 ∨ k = 4 ∨ k = 5 := by omega
  rcases this with rfl | rfl | rfl | rfl | rfl | rfl <;> decide
/-- the value of a position; k bounds the letters that lack -/
def spVal (k : Nat) : Sp := fun vs H Q _ => ∃ (d kn : Addr) (n : Nat) (ps : List (Nat × Nat)) (w : List Nat) (t : Int) (kvs : List (List Key × V)), vs = [.ref d, .str (T w), .int t, .ref kn] ∧ Told H d n ps ∧ Good n ps ∧ w.Nodup ∧ (∀ c ∈ w, c ∈ lets n) ∧ (rst n w).length < k ∧
  H kn = some (.dT kvs) ∧ Memo n ps kvs ∧ kvs.length + cost (rst n w).length ≤ 90000 ∧
  ∀ H' kvs', ExB kn H H' → H' kn = some (.dT kvs') → Memo n ps kvs' → kvs'.length ≤ kvs.length + cost (rst n w).length → Q (.int (Vp ps n w t)) H'
theorem rst_le {n : Nat} (h : n ≤ 7) (w : List Nat) : (rst n w).length ≤ n := by
  have := len_lets n h
  have h2 : (rst n w).length ≤ (lets n).length := List.length_filter_le _ _
  omega
section
variable {K : PySem.W.Frag} {σ : L2.St} {H H' : Hp} {ta tb tc te td ty : TE} {x y z v : V}
theorem dp_ones {H : Hp} : ∀ l : List Nat, DpAll K H (l.map one) (l.map fun c => PyData.str (T [c]))
  | [] => .nil
  | c :: r => .cons (.str (T [c])) (dp_ones r)
theorem ones_can : ∀ l : List Nat, (∀ c ∈ l, c < 128) → PyData.canLayAll0 (l.map fun c => PyData.str (T [c])) = true
  | [], _ => rfl
  | c :: r, h => by
    have h1 : PyData.strOk (T [c]) = true := by
      show [c].toArray.all _ = true
      have := h c List.mem_cons_self
      rw [List.all_toArray, List.all_eq_true]
      intro x hx
      rw [List.mem_singleton.mp hx]
      exact decide_eq_true (by omega)
    have h2 := ones_can r fun x hx => h x (List.mem_cons_of_mem _ hx)
    rw [List.map_cons, PyData.canLayAll0, PyData.canLay0, h1, h2]; rfl
theorem ones_depth : ∀ l : List Nat, PyData.depthAll (l.map fun c => PyData.str (T [c])) = 0
  | [] => rfl
  | _ :: r => by
    rw [List.map_cons, PyData.depthAll, PyData.depth, ones_depth r]; rfl
theorem ones_shaped (l : List Nat) (h : ∀ c ∈ l, c < 128) : SeqAt.shaped (.list (l.map fun c => PyData.str (T [c]))) = true := by
  unfold SeqAt.shaped
  rw [Bool.and_eq_true, decide_eq_true_iff, PyData.canLay0, PyData.depth, ones_depth]
  exact ⟨ones_can l h, by omega⟩
theorem rv_eqNil {p q : Addr} {l : List Nat} (h128 : ∀ c ∈ l, c < 128) (hp : H p = some (.lst (l.map one))) (hq : H q = some (.lst [])) : RV (rEqD K) (.ref p) (.ref q) H (.bl l.isEmpty) := fun H1 e Q k =>
  ⟨.list (l.map fun c => PyData.str (T [c])), .list [], .lst (sq_of (e _ _ hp)) (dp_ones l), .lst (sq_of (e _ _ hq)) .nil, ones_shaped l h128, ones_shaped [] (fun _ h => nomatch h), by
    have : PyData.eqv (.list (l.map fun c => PyData.str (T [c]))) (.list []) = l.isEmpty := by cases l <;> rfl
    rw [this]
    exact k H1 (Ex.refl H1)⟩
theorem ev_eqNil {p : Addr} {l : List Nat} (h128 : ∀ c ∈ l, c < 128) (h : Ev ta σ H (.ref p)) (hp : H p = some (.lst (l.map one))) : Ev (tOp (rEqD K) ta (tLst tNil)) σ H (.bl l.isEmpty) :=
  ev_opL h (el_lst ea_nil (by decide)) fun q H1 hq e => rv_eqNil h128 (e _ _ hp) hq
theorem ev_dgetT {a b : Addr} {kvs : List (List Key × V)} {k : List Key} (h1 : Ev td σ H (.ref a)) (h2 : Ev ty σ H (.ref b)) (ha : H a = some (.dT kvs)) (hb : H b = some (.tup (k.map kV))) (hv : valV kvs k = some v) : Ev (tDGet td ty) σ H v := fun H1 e Q q =>
  h1 H1 e _ fun H2 e2 => h2 H2 (e.trans e2) _ fun H3 e3 => ⟨a, v, rfl, by
    have := DGet.t (k := k) (((e.trans e2).trans e3) _ _ ha) (((e.trans e2).trans e3) _ _ hb)
    rw [hv] at this
    exact this, q H3 (e2.trans e3)⟩
theorem ev_dnotT {a b : Addr} {kvs : List (List Key × V)} {k : List Key} (h1 : Ev td σ H (.ref a)) (h2 : Ev ty σ H (.ref b)) (ha : H a = some (.dT kvs)) (hb : H b = some (.tup (k.map kV))) : Ev (tDNotIn ty td) σ H (.bl (!(valV kvs k).isSome)) := fun H1 e Q q =>
  h2 H1 e _ fun H2 e2 => h1 H2 (e.trans e2) _ fun H3 e3 => ⟨a, _, rfl, DGet.t (k := k) (((e.trans e2).trans e3) _ _ ha) (((e.trans e2).trans e3) _ _ hb), q H3 (e2.trans e3)⟩
theorem s_dputT {a b : Addr} {kvs : List (List Key × V)} {k : List Key} {D : Ends} (h0 : Ev te σ H v) (h1 : Ev td σ H (.ref a)) (h2 : Ev ty σ H (.ref b)) (ha : H a = some (.dT kvs)) (hb : H b = some (.tup (k.map kV))) (hl : kvs.length < 100000)
    (q : ∀ H1, Ex H H1 → D.nx σ (upd H1 a (.dT (putK kvs k v)))) : sDPut td ty te D σ H :=
  h0 H (Ex.refl H) _ fun H1 e1 => h1 H1 e1 _ fun H2 e2 => h2 H2 (e1.trans e2) _ fun H3 e3 => ⟨a, _, rfl, DPut.t (k := k) (((e1.trans e2).trans e3) _ _ ha) (((e1.trans e2).trans e3) _ _ hb) (sz_lt hl), q H3 ((e1.trans e2).trans e3)⟩
theorem ev_best {q : Addr} {t : Int} {ns : List Int} (ht : Ev ta σ H (.int t)) (hq : Ev tb σ H (.ref q)) (h : H q = some (.lst (ns.map V.int))) (hn : ns ≠ []) : Ev (tIf (tTest (tOp rEq ta (tC (.int 0)))) (tCB (rMax K) (tCons tb tNil)) (tCB (rMin K) (tCons tb tNil))) σ H (.int (best t ns)) := by
  refine ev_if (b := decide (t = 0)) (et_test (ev_is (ev_op ht ev_c (rv_eq rfl)) (congrArg V.bl ?_))) (fun hb => ?_) fun hb => ?_
  · rw [decide_eq_decide]
    exact ⟨fun e => V.int.inj e, fun e => by rw [e]⟩
  · have e : best t ns = mx ns := if_pos (of_decide_eq_true hb)
    rw [e]
    exact ev_cb1 hq (rc_max (sq_of h) hn)
  · have e : best t ns = mn ns := if_neg (of_decide_eq_false hb)
    rw [e]
    exact ev_cb1 hq (rc_min (sq_of h) hn)
/-- worths = [gain_of(told, met, sign) + value_of(told, later_of(met, sign), 1 - turn, known) for sign in rest] -/
theorem q_worths {tz : TS} {D : Ends} {i j r dd m tt kk : Nat} {E1 E2 E3 : XK} {d kn p : Addr} {n k : Nat} {ps : List (Nat × Nat)} {w : List Nat} {t : Int} {kvs : List (List Key × V)}
    (hr : σ[r]? = some (some (.ref p))) (hd : σ[dd]? = some (some (.ref d))) (hm : σ[m]? = some (some (.str (T w)))) (ht : σ[tt]? = some (some (.int t))) (hk : σ[kk]? = some (some (.ref kn)))
    (jd : dd ≠ j) (jm : m ≠ j) (jt : tt ≠ j) (jk : kk ≠ j) (hj : j < σ.length) (hw : ∀ x, wipe ((wipe σ [j]).set j (some x)) [j] = wipe σ [j])
    (told : Told H d n ps) (g : Good n ps) (nd : w.Nodup) (sub : ∀ c ∈ w, c ∈ lets n) (hp : H p = some (.lst ((rst n w).map one))) (hkn : H kn = some (.dT kvs)) (mem : Memo n ps kvs) (hlk : (rst n w).length ≤ k)
    (hc : kvs.length + (rst n w).length * cost ((rst n w).length - 1) ≤ 90000)
    (q : ∀ qd H' kvs', H qd = none → ExB kn H H' → H' qd = some (.lst ((worths ps n w t).map V.int)) → H' kn = some (.dT kvs') → Memo n ps kvs' → kvs'.length ≤ kvs.length + (rst n w).length * cost ((rst n w).length - 1) → tz D (σ.set i (some (.ref qd))) H') :
    tSeq (tAsg (tLc (iList K (tVar r)) (gName j) tYes (tOp (rI0 fun i j => V.int (i + j)) (tCall (spE pGain) [] E1 (tCons (tVar dd) (tCons (tVar m) (tCons (tVar j) tNil))))
      (tCall (spVal k) [] E2 (tCons (tVar dd) (tCons (tCall (spE pLater) [] E3 (tCons (tVar m) (tCons (tVar j) tNil))) (tCons (tOp (rI0 fun i j => V.int (i - j)) (tC (.int 1)) (tVar tt)) (tCons (tVar kk) tNil)))))) [j]) (gName i)) tz D σ H := by
  have hn5 := g.n5
  have hlen := words_len (by omega) nd sub
  have hrl := rst_le (n := n) (by omega) w
  have hw128 : ∀ c ∈ w, c < 128 := fun c hc => lets_128 (sub c hc)
  have hkd : d ≠ kn := fun e => by rw [e] at told; unfold Told at told; rw [hkn] at told; cases told
  have hpk : p ≠ kn := fun e => by rw [e, hkn] at hp; cases hp
  refine ⟨.ref p, hr, p, rfl, ⟨_, sq_of hp⟩, fun L hL => ?_⟩
  have hLk : L ≠ kn := fun e => by rw [e, hkn] at hL; cases hL
  have wk := walk_list (K := K) (a := p) (xs := (rst n w).map one)
  rw [List.length_map] at wk
  refine lc_it wk (fun i H' => ExB kn H H' ∧ H' L = some (.lst (((worths ps n w t).take i).map V.int)) ∧ ∃ kvs', H' kn = some (.dT kvs') ∧ Memo n ps kvs' ∧ kvs'.length ≤ kvs.length + i * cost ((rst n w).length - 1))
    ⟨(ExB.refl kn H).mut hL, upd_same, kvs, by rw [upd_ne (Ne.symm hLk)]; exact hkn, mem, by omega⟩ (fun i H' _ h => sq_of (h.1 _ _ hpk hp)) (fun i x H' H'' hi h y => ?_) fun H' h => ?_
  · obtain ⟨e1, hL1, kvs1, hk1, mem1, hl1⟩ := h
    obtain ⟨rfl, hx⟩ := y
    rw [List.getElem?_map] at hx
    obtain ⟨s, hs, rfl⟩ := Option.map_eq_some_iff.mp hx
    have hsm : s ∈ rst n w := List.mem_of_getElem? hs
    have hsl := ((mem_rst n).mp hsm).1
    have ok := snoc_ok nd sub hsm
    have hrs := rst_len n hsm
    have hrs' : rst n (srt (w ++ [s])) = rst n (w ++ [s]) := rst_congr n fun x => srt_mem
    refine ⟨hw _, yes_go ?_⟩
    have hjv : ((wipe σ [j]).set j (some (one s)))[j]? = some (some (one s)) := by
      rw [List.getElem?_set_self (by rw [wipe_length]; exact hj)]
    have hother : ∀ {a : Nat} {u : V}, a ≠ j → σ[a]? = some (some u) → ((wipe σ [j]).set j (some (one s)))[a]? = some (some u) := fun {a u} hne h => by
      rw [List.getElem?_set_ne (Ne.symm hne), wipe_out (by simp [hne])]; exact h
    generalize (wipe σ [j]).set j (some (one s)) = σ2 at hjv hother
    refine ev_call (ea_cons (ev_var (hother jd hd)) (ea_cons (ev_var (hother jm hm)) (ea_cons (ev_var hjv) ea_nil))) (ok_gain (m := w) (c := s) (e1 _ _ hkd told) g hsl) _ (Ex.refl _) _ fun H3 e3 => ?_
    refine (ea_cons (ev_var (hother jd hd)) (ea_cons (ev_call (ea_cons (ev_var (hother jm hm)) (ea_cons (ev_var hjv) ea_nil)) (ok_later (m := w) (c := s) (fun x hx => lets_128 (ok.2 x hx)) (by omega))) (ea_cons (ev_op ev_c (ev_var (hother jt ht)) iv_sub) (ea_cons (ev_var (hother jk hk)) ea_nil)))) H3 (Ex.refl _) _ fun H4 e4 => ?_
    have e14 : ExB kn H H4 := (e1.trans (exb_of e3)).trans (exb_of e4)
    have hcost : cost (rst n (srt (w ++ [s]))).length = cost ((rst n w).length - 1) := by rw [hrs']; congr 1; omega
    have hmul : i * cost ((rst n w).length - 1) + cost ((rst n w).length - 1) ≤ (rst n w).length * cost ((rst n w).length - 1) := by
      have : (i + 1) * cost ((rst n w).length - 1) ≤ (rst n w).length * cost ((rst n w).length - 1) := Nat.mul_le_mul_right _ hi
      rw [Nat.succ_mul] at this
      exact this
    refine ⟨d, kn, n, ps, srt (w ++ [s]), 1 - t, kvs1, rfl, e14 _ _ hkd told, g, (srt_perm _).nodup_iff.mpr ok.1, fun c hc => ok.2 c (srt_mem.mp hc), by rw [hrs']; omega, e4 _ _ (e3 _ _ hk1), mem1, by rw [hcost]; omega, fun H5 kvs5 e5 hk5 mem5 hl5 => ?_⟩
    have e15 := e14.trans e5
    have hL5 : H5 L = some (.lst (((worths ps n w t).take i).map V.int)) := e5 _ _ hLk (e4 _ _ (e3 _ _ hL1))
    rw [hcost] at hl5
    have hwi : (worths ps n w t)[i]? = some ((gn ps w s : Int) + Vp ps n (w ++ [s]) (1 - t)) := by
      unfold worths
      rw [List.getElem?_map, hs]; rfl
    have hVp : Vp ps n (srt (w ++ [s])) (1 - t) = Vp ps n (w ++ [s]) (1 - t) := Vp_congr ps n (fun x => srt_mem) _
    obtain ⟨hi1, hi2⟩ := List.getElem?_eq_some_iff.mp hwi
    refine ⟨_, _, rfl, rfl, _, hL5, sz_lt (by rw [List.length_map, List.length_take]; omega), e15.mut hL, ?_, kvs5, by rw [upd_ne (Ne.symm hLk)]; exact hk5, mem5, by rw [Nat.succ_mul]; omega⟩
    rw [upd_same, List.take_succ_eq_append_getElem hi1, hi2, List.map_append, hVp]
    rfl
  · obtain ⟨e1, hL1, kvs1, hk1, mem1, hl1⟩ := h
    have hwl : (worths ps n w t).length = (rst n w).length := List.length_map _
    rw [← hwl, List.take_length] at hL1
    exact q L H' kvs1 hL e1 hL1 hk1 mem1 hl1
end
section
variable {P : Program} {w : World} {K : PySem.W.Frag} {mg : Str → Option Value} {base : Heap} {ta tm : Tok}
theorem val_call (p : Prog K mg ta tm) : ∀ k : Nat, C8.Cal P w K mg base (k + 1) "value_of" (spVal k) []
  | 0 => p.d_value_of.cal sc_value_of (fun vs H Q E ⟨_, _, _, _, _, _, _, e, _⟩ => by rw [e]; rfl) fun cdv f A outer s H vs Q E hr h => by
    obtain ⟨_, _, _, _, _, _, _, _, _, _, _, _, hlt, _⟩ := h
    exact absurd hlt (Nat.not_lt_zero _)
  | k + 1 => by
    have c_ih := val_call p k
    have B := p.B
    refine p.d_value_of.cal sc_value_of (fun vs H Q E ⟨_, _, _, _, _, _, _, e, _⟩ => by rw [e]; rfl) fun cdv f A outer s H vs Q E hr h => ?_
    obtain ⟨d, kn, n, ps, w, t, kvs, rfl, told, g, nd, sub, hlt, hkn, mem, hc, q⟩ := h
    have hu := hu_of hr
    have hn5 := g.n5
    have hrl := rst_le (n := n) (by omega) w
    have hkd : d ≠ kn := fun e => by rw [e] at told; unfold Told at told; rw [hkn] at told; cases told
    refine ⟨_, (pss_cons (ps_lock (ps_setLc (i := 4) (own := [("sign", 7)]) (g := gName 7) rfl sc_value_of.nd rfl rfl (sw_true rfl rfl rfl (by decide +kernel)) (pi_keys (pv 0)) (blkOk_by (N := N_value_of) (sc := defScope s_value_of) (by decide +kernel)) (fun _ _ _ _ _ => (pg_name (i := 7) sc_value_of.nd rfl (Or.inl rfl))) (fun _ _ _ _ _ => pts_one (pt_cmpR op_notIn_sign (pv 7) (pv 1) rfl)) (fun _ _ _ _ _ => (pv 7))))
    (pss_cons (ps_if (pt_cmpR (op_eqD hr.units) (pv 4) (pe_lst pa_nil) (nomark _)) (pss_one (ps_ret pe_int)) pss_nil)
    (pss_cons (ps_set (i := 5) sc_value_of.nd rfl (Or.inl rfl) (pe_tup (pa_cons (pv 1) (pa_cons (pv 2) pa_nil))))
    (pss_cons (ps_if (pt_cmp (pc_dnotin hu (pv 5) (pv 3))) (pss_cons (ps_setLc (i := 6) (own := [("sign", 7)]) (g := gName 7) (tt := tYes) rfl sc_value_of.nd rfl rfl (sw_true rfl rfl rfl (by decide +kernel)) (pi_list (pv 4)) (blkOk_by (N := N_value_of) (sc := defScope s_value_of) (by decide +kernel)) (fun _ _ _ _ _ => (pg_name (i := 7) sc_value_of.nd rfl (Or.inl rfl))) (fun _ _ _ _ _ => pts_nil) (fun _ _ _ _ _ => (pe_op op_add (C8.pe_c (c_gain_of p) hr (by omega) rfl (pa_cons (pv 0) (pa_cons (pv 1) (pa_cons (pv 7) pa_nil)))) (C8.pe_c c_ih hr (by omega) rfl (pa_cons (pv 0) (pa_cons (C8.pe_c (c_later_of p) hr (by omega) rfl (pa_cons (pv 1) (pa_cons (pv 7) pa_nil))) (pa_cons (pe_op op_sub pe_int (pv 2)) (pa_cons (pv 3) pa_nil))))))))
        (pss_one (ps_dput hu (pv 3) (pv 5) (pe_ifExp (pt_cmpR op_eq (pv 2) pe_int (nomark _)) (pe_callB (cr_max rfl) (by rfl) B.max (by decide +kernel) (pa_cons (pv 6) pa_nil)) (pe_callB (cr_min rfl) (by rfl) B.min (by decide +kernel) (pa_cons (pv 6) pa_nil))) rfl))) pss_nil)
    (pss_one (ps_ret (pe_dget hu (pv 3) (pv 5) (fun _ _ => rfl)))))))), ?_⟩
    refine q_rest (n := n) (ps := ps) (w := w) rfl rfl (by decide) (by decide) (by show 7 < 8; omega) (by omega) told (fun _ => rfl) fun pr H1 hpr e1 h1 => ?_
    refine q_when (b := (rst n w).isEmpty) (et_test (ev_eqNil (fun c hc => lets_128 ((mem_rst n).mp hc).1) (ev_var rfl) h1)) (fun hb H2 e2 => ?_) fun hb H2 e2 => ?_
    · have hr0 : rst n w = [] := List.isEmpty_iff.mp hb
      refine s_ret ev_c fun H3 e3 => ?_
      have e13 := (e1.trans e2).trans e3
      have hv : Vp ps n w t = 0 := by rw [Vp_eq, if_pos hr0]
      have := q H3 kvs (exb_of e13) (e13 _ _ hkn) mem (Nat.le_add_right _ _)
      rw [hv] at this
      exact this
    · have hr0 : rst n w ≠ [] := fun e => by rw [e] at hb; cases hb
      have hlen0 : (rst n w).length = ((rst n w).length - 1) + 1 := by have := List.length_pos_iff.mpr hr0; omega
      have hcost : cost (rst n w).length = 1 + (rst n w).length * cost ((rst n w).length - 1) := by
        generalize (rst n w).length = m at hlen0
        rw [hlen0]; rfl
      refine q_asgU (xs := ([.inr (T w), .inl t] : List Key).map kV) (eu_tup (ea_cons (ev_var rfl) (ea_cons (ev_var rfl) ea_nil)) (by show 2 ≤ 100000; omega)) fun kp H3 hkp e3 h3 => ?_
      have e13 := (e1.trans e2).trans e3
      have hk3 := e13 _ _ hkn
      have hkpn : kp ≠ kn := fun e => by rw [e] at hkp; rw [e2 _ _ (e1 _ _ hkn)] at hkp; cases hkp
      refine q_when (b := !(valV kvs [.inr (T w), .inl t]).isSome) (et_test (ev_dnotT (ev_var rfl) (ev_var rfl) hk3 h3)) (fun hb2 H4 e4 => ?_) fun hb2 H4 e4 => ?_
      · have e14 := e13.trans e4
        have hnone : valV kvs [.inr (T w), .inl t] = none := by
          cases hv : valV kvs [.inr (T w), .inl t] with
          | none => rfl
          | some _ => rw [hv] at hb2; cases hb2
        refine q_worths (n := n) (ps := ps) (w := w) (t := t) (kvs := kvs) (p := pr) (d := d) (kn := kn) rfl rfl rfl rfl rfl (by decide) (by decide) (by decide) (by decide) (by show 7 < 8; omega) (fun _ => rfl) (told.ex e14) g nd sub (((e2.trans e3).trans e4) _ _ h1) (e4 _ _ hk3) mem (by omega) (by omega) fun qd H5 kvs5 hqd e5 h5 hk5 mem5 hl5 => ?_
        have hwne : worths ps n w t ≠ [] := by unfold worths; simpa using hr0
        have hVp : Vp ps n w t = best t (worths ps n w t) := by rw [Vp_eq, if_neg hr0]
        refine s_dputT (k := [.inr (T w), .inl t]) (v := .int (best t (worths ps n w t))) (ev_best (ev_var rfl) (ev_var rfl) h5 hwne) (ev_var rfl) (ev_var rfl) hk5 (e5 _ _ hkpn (e4 _ _ h3)) (by omega) fun H6 e6 => ?_
        rw [← hVp]
        have hkp6 : (upd H6 kn (.dT (putK kvs5 [.inr (T w), .inl t] (.int (Vp ps n w t))))) kp = some (.tup (([.inr (T w), .inl t] : List Key).map kV)) := by
          rw [upd_ne hkpn]
          exact e6 _ _ (e5 _ _ hkpn (e4 _ _ h3))
        refine s_ret (ev_dgetT (k := [.inr (T w), .inl t]) (ev_var rfl) (ev_var rfl) upd_same hkp6 (by rw [valV_put, if_pos rfl])) fun H7 e7 => ?_
        refine q H7 _ (((((exb_of e14).trans e5).trans (exb_of e6)).own).trans (exb_of e7)) (e7 _ _ upd_same) (mem5.put w t) ?_
        have := length_putK kvs5 [.inr (T w), .inl t] (.int (Vp ps n w t))
        omega
      · obtain ⟨x, hx⟩ : ∃ x, valV kvs [.inr (T w), .inl t] = some x := by
          cases hv : valV kvs [.inr (T w), .inl t] with
          | none => rw [hv] at hb2; cases hb2
          | some x => exact ⟨x, rfl⟩
        have hxv := mem w t x hx
        subst hxv
        refine s_ret (ev_dgetT (k := [.inr (T w), .inl t]) (ev_var rfl) (ev_var rfl) (e4 _ _ hk3) (e4 _ _ h3) hx) fun H5 e5 => ?_
        have e15 := (e13.trans e4).trans e5
        exact q H5 kvs (exb_of e15) (e15 _ _ hkn) mem (Nat.le_add_right _ _)
theorem c_value_of (p : Prog K mg ta tm) : C8.Cal P w K mg base 7 "value_of" (spVal 6) [] := val_call p 6
end
end K5
end
section
namespace K5
open PySem PySem.Spec PyProof.Rows L2 Evl
theorem exb_back {kn : Addr} {H H1 H' : Hp} (h : H kn = none) (e : Ex H H1) (b : ExB kn H1 H') : Ex H H' := fun a o ha => b a o (ne_of_none ha h) (e a o ha)
theorem first_at {m : Int} : ∀ {ns : List Int}, m ∈ ns → ∃ j : Nat, ns[j]? = some m ∧ ∀ i : Nat, i < j → ns[i]? ≠ some m
  | [], h => by cases h
  | x :: r, h => by
    by_cases e : x = m
    · subst e; exact ⟨0, rfl, fun i hi => absurd hi (Nat.not_lt_zero i)⟩
    · obtain ⟨j, h1, h2⟩ := first_at ((List.mem_cons.mp h).resolve_left fun z => e z.symm)
      refine ⟨j + 1, h1, fun i hi => ?_⟩
      cases i with
      | zero => intro z; exact e (Option.some.inj z)
      | succ i => exact h2 i (Nat.lt_of_succ_lt_succ hi)
theorem srt_srt (w : List Nat) (s : Nat) : srt (srt w ++ [s]) = srt (w ++ [s]) :=
  perm_up_uniq ((srt_perm _).trans ((List.Perm.append_right [s] (srt_perm w)).trans (srt_perm _).symm)) (srt_up _) (srt_up _)
theorem rst_sum {n : Nat} {w : List Nat} (hn : n ≤ 7) (nd : w.Nodup) (sub : ∀ c ∈ w, c ∈ lets n) : w.length + (rst n w).length = n := by
  have h := len_of_mem (l := w ++ rst n w) (m := lets n) (List.nodup_append.mpr ⟨nd, rst_nodup n w, fun a ha b hb e => by subst e; exact ((mem_rst n).mp hb).2 ha⟩) (nodup_lets n) fun x => by
    rw [List.mem_append, mem_rst]
    constructor
    · rintro (h | h)
      · exact sub x h
      · exact h.1
    · intro h
      by_cases hx : x ∈ w
      · exact .inl hx
      · exact .inr ⟨h, hx⟩
  rw [List.length_append, len_lets n hn] at h
  exact h
section
variable {K : PySem.W.Frag} {σ : L2.St} {H H' : Hp} {ta tb tc te td ty : TE} {x y z v : V}
theorem flat_ints : ∀ ns : List Int, (ns.map V.int).all flatV = true
  | [] => rfl
  | _ :: r => by
    rw [List.map_cons, List.all_cons, flat_ints r]; rfl
theorem ev_index {a : Addr} {ns : List Int} {m : Int} {j : Nat} (h1 : Ev ta σ H (.ref a)) (h2 : Ev te σ H (.int m)) (ha : H a = some (.lst (ns.map V.int))) (hj : ns[j]? = some m) (hno : ∀ i, i < j → ns[i]? ≠ some m) : Ev (tBM K "list" (rIndex K) ta (tCons te tNil)) σ H (.int (j : Int)) := fun H1 e Q q =>
  h1 H1 e _ fun H2 e2 => ⟨Or.inl ⟨rfl, _, sq_of ((e.trans e2) _ _ ha)⟩, h2 H2 (e.trans e2) _ fun H3 e3 => ⟨a, ns.map V.int, .int m, j, .int m, rfl, rfl, sq_of (((e.trans e2).trans e3) _ _ ha), rfl, flat_ints ns, by rw [List.getElem?_map, hj]; rfl, beq_self_eq_true m, fun i z' hi hz => by
    rw [List.getElem?_map] at hz
    obtain ⟨m', hm', rfl⟩ := Option.map_eq_some_iff.mp hz
    show (m' == m) = false
    rw [beq_eq_false_iff_ne]
    intro e5
    exact hno i hi (by rw [hm', e5]), q H3 (e2.trans e3)⟩⟩
theorem rst_srt (n : Nat) (w : List Nat) : rst n (srt w) = rst n w := rst_congr n fun x => srt_mem
end
section
variable {P : Program} {w : World} {K : PySem.W.Frag} {mg : Str → Option Value} {base : Heap} {ta tm : Tok}
/-! ### best_rising -/
def pBestR : List V → Hp → V → Prop := fun vs H z => ∃ (cp : Addr) (n : Nat) (ps : List (Nat × Nat)) (k : List Nat) (t : Int), vs = [.ref cp, .str (T k), .int t] ∧ Comp H cp n ps ∧ Good n ps ∧ Kind n ps k ∧ 0 ≤ t ∧ t ≤ 1 ∧ z = .int ((rise ps k : Nat) + Vp ps n k t)
theorem c_best_rising (p : Prog K mg ta tm) : C8.Cal P w K mg base 8 "best_rising" (spE pBestR) [] := by
  have B := p.B
  refine p.d_best_rising.cal sc_best_rising (spE_len fun vs H z ⟨cp, n, ps, k, t, e, _⟩ => by rw [e]; rfl) fun cdv f A outer s H vs Q E hr h => ?_
  obtain ⟨z, ⟨cp, n, ps, k, t, rfl, c, g, kd, t0, t1, rfl⟩, q⟩ := h
  have hn5 := g.n5
  have hlen := words_len (by omega) kd.nd kd.sub
  have hk128 : ∀ c ∈ k, c < 128 := fun c hc => lets_128 (kd.sub c hc)
  have hrl := rst_le (n := n) (by omega) k
  refine ⟨_, (pss_cons (ps_set (i := 3) sc_best_rising.nd rfl (Or.inl rfl) (C8.pe_c (c_need_play p) hr (by omega) rfl (pa_cons (pv 0) (pa_cons (pv 1) (pa_cons (pv 2) pa_nil)))))
    (pss_one (ps_ret (pe_op op_add (C8.pe_c (c_rising_of p) hr (by omega) rfl (pa_cons (pv 3) (pa_cons (pv 1) pa_nil))) (C8.pe_c (c_value_of p) hr (by omega) rfl (pa_cons (pv 3) (pa_cons (pe_join pe_str (pe_callB (cr_sortedT rfl) (by rfl) B.sorted (by decide +kernel) (pa_cons (pv 1) pa_nil))) (pa_cons (pv 2) (pa_cons pe_dnewT pa_nil))))))))), ?_⟩
  refine el_play (ea_cons (ev_var rfl) (ea_cons (ev_var rfl) (ea_cons (ev_var rfl) ea_nil))) c g kd t0 t1 fun d H1 hd e1 told => ?_
  refine ev_call (ea_cons (ev_var rfl) (ea_cons (ev_var rfl) ea_nil)) (ok_ris told g kd.nd kd.sub) H1 (Ex.refl _) _ fun H2 e2 => ?_
  refine ⟨_, rfl, ?_⟩
  refine ev_joinN (K := K) ev_c (el_cb1 (ev_var rfl) (rcl_sorted hk128 (by omega))) (by rw [srt_len]; omega) H2 (Ex.refl _) _ fun H5 e4 => ?_
  refine ⟨_, rfl, ?_⟩
  have e15 := e2.trans e4
  intro kn hkn
  have e16 := e15.trans (Ex.new (o := .dT []) hkn)
  have hc := cost_le (k := (rst n (srt k)).length) (by rw [rst_srt]; omega)
  refine ⟨d, kn, n, ps, srt k, t, [], rfl, told.ex e16, g, (srt_perm k).nodup_iff.mpr kd.nd, fun c hc => kd.sub c (srt_mem.mp hc), by rw [rst_srt]; omega, upd_same, memo_nil, by rw [List.length_nil]; omega, fun H6 kvs6 e6 hk6 mem6 hl6 => ?_⟩
  refine ⟨_, _, rfl, rfl, ?_⟩
  rw [Vp_congr ps n (fun x => srt_mem)]
  exact q H6 (e1.trans (exb_back (fresh_back e15 hkn) e16 e6))
theorem ok_bestR {cp : Addr} {n : Nat} {ps : List (Nat × Nat)} {k : List Nat} {t : Int} {H : Hp} (c : Comp H cp n ps) (g : Good n ps) (kd : Kind n ps k) (t0 : 0 ≤ t) (t1 : t ≤ 1) : SpV (spE pBestR) [.ref cp, .str (T k), .int t] H (.int ((rise ps k : Nat) + Vp ps n k t)) := spE_ok fun H' e => ⟨cp, n, ps, k, t, rfl, c.ex e, g, kd, t0, t1, rfl⟩
/-! ### most_rising, fewest_rising -/
theorem el_rest {σ : L2.St} {H : Hp} {cp : Addr} {n j : Nat} {ps : List (Nat × Nat)} {k : List Nat} {te tk : TE} {vs : List Nat} (hn : n ≤ 7) (h : Ev te σ H (.str (T (lets n)))) (hw : ∀ x, wipe ((wipe σ vs).set j (some x)) vs = wipe σ vs) (hj : ∀ x, ((wipe σ vs).set j (some x))[j]? = some (some x))
    (hk : ∀ c, Ev tk ((wipe σ vs).set j (some (one c))) H (.str (T k))) :
    EvL (tLc (iStr te) (gName j) (tTest (tOp (fun x y H Q => ∃ (c : Nat) (z : Str), x = .str ⟨#[c]⟩ ∧ y = .str z ∧ Q (.bl (!decide (c ∈ z.cps.toList))) H) (tVar j) tk)) (tVar j) vs) σ H ((rst n k).map one) :=
  el_lc (xs := lets n) (enc := one) (fun c => !k.contains c) one (iw_str h) (by rw [len_lets n hn]; omega) hw (fun c hc => et_is (et_test (ev_op (ev_var (hj _)) (hk c) rv_nosign)) (by rw [List.contains_eq_mem])) fun c hc _ => ev_var (hj _)
def pMost : List V → Hp → V → Prop := fun vs H z => ∃ (cp : Addr) (n : Nat) (ps : List (Nat × Nat)) (k : List Nat), vs = [.ref cp, .str (T k)] ∧ Comp H cp n ps ∧ Good n ps ∧ Kind n ps k ∧ z = .int (rise ps (k ++ rst n k) : Nat)
theorem c_most_rising (p : Prog K mg ta tm) : C8.Cal P w K mg base 8 "most_rising" (spE pMost) [] := by
  have B := p.B
  refine p.d_most_rising.cal sc_most_rising (spE_len fun vs H z ⟨cp, n, ps, k, e, _⟩ => by rw [e]; rfl) fun cdv f A outer s H vs Q E hr h => ?_
  obtain ⟨z, ⟨cp, n, ps, k, rfl, c, g, kd, rfl⟩, q⟩ := h
  have hn5 := g.n5
  have hrl := rst_le (n := n) (by omega) k
  have ok := rest_ok kd
  refine ⟨_, (pss_cons (ps_expr (C8.pe_c (c_need_company p) hr (by omega) rfl (pa_cons (pv 0) pa_nil)))
    (pss_cons (ps_expr (C8.pe_c (c_need_kind p) hr (by omega) rfl (pa_cons (pv 0) (pa_cons (pv 1) pa_nil))))
    (pss_cons (ps_set (i := 2) sc_most_rising.nd rfl (Or.inl rfl) (C8.pe_c (c_friends_of_all p) hr (by omega) rfl (pa_cons (pv 0) pa_nil)))
    (pss_cons (ps_set (i := 3) sc_most_rising.nd rfl (Or.inl rfl) (pe_join pe_str (pe_lc (own := [("sign", 4)]) (g := gName 4) rfl sc_most_rising.nd (pi_str (pe_slice sl_str (pe_glob (v := .str (T alph)) rfl B.alphabet ⟨_, rfl⟩) po_none (po_some (pe_ix ix_tup (pv 0) pe_int (fun _ _ => rfl))))) (blkOk_by (N := N_most_rising) (sc := defScope s_most_rising) (by decide +kernel)) (fun _ _ _ _ _ => (pg_name (i := 4) sc_most_rising.nd rfl (Or.inl rfl))) (fun _ _ _ _ _ => pts_one (pt_cmpR op_notIn_sign (pv 4) (pv 1) rfl)) (fun _ _ _ _ _ => (pv 4)))))
    (pss_one (ps_ret (C8.pe_c (c_rising_of p) hr (by omega) rfl (pa_cons (pv 2) (pa_cons (C8.pe_c (c_joined p) hr (by omega) rfl (pa_cons (pv 2) (pa_cons (pv 1) (pa_cons (pv 3) pa_nil)))) pa_nil))))))))), ?_⟩
  refine q_drop (ev_call (ea_cons (ev_var rfl) ea_nil) (ok_needC c g)) fun H1 e1 => ?_
  refine q_drop (ev_call (ea_cons (ev_var rfl) (ea_cons (ev_var rfl) ea_nil)) (ok_needK (c.ex e1) g kd)) fun H2 e2 => ?_
  refine el_told (ea_cons (ev_var rfl) ea_nil) (c.ex (e1.trans e2)) g fun d H3 hd e3 told => ?_
  have e13 := (e1.trans e2).trans e3
  obtain ⟨pt, as, hc, hp, hps⟩ := c.ex e13
  refine q_asg (v := .str (T (rst n k))) (ev_joinN (K := K) ev_c (el_rest (cp := cp) (ps := ps) (by omega) (ev_take (l := alph) (k := n) ev_c (ev_ixt (i := 0) (ev_var rfl) ev_c hc rfl) (by decide)) (fun _ => rfl) (fun _ => rfl) fun c => ev_var rfl) (by omega)) fun H4 e4 => ?_
  refine s_ret (ev_is (ev_call (ea_cons (ev_var rfl) (ea_cons (ev_call (ea_cons (ev_var rfl) (ea_cons (ev_var rfl) (ea_cons (ev_var rfl) ea_nil))) (ok_joined (told.ex e4) g ok.1 ok.2)) ea_nil)) (ok_ris (told.ex e4) g (canon_nodup ps ok.1) fun c hc => ok.2 c ((canon_perm ps ok.1).mem_iff.mp hc))) ?_) fun H5 e5 => q H5 ((e13.trans e4).trans e5)
  rw [rise_canon ps ok.1]
theorem ok_most {cp : Addr} {n : Nat} {ps : List (Nat × Nat)} {k : List Nat} {H : Hp} (c : Comp H cp n ps) (g : Good n ps) (kd : Kind n ps k) : SpV (spE pMost) [.ref cp, .str (T k)] H (.int (rise ps (k ++ rst n k) : Nat)) := spE_ok fun H' e => ⟨cp, n, ps, k, rfl, c.ex e, g, kd, rfl⟩
def pFew : List V → Hp → V → Prop := fun vs H z => ∃ (cp : Addr) (n : Nat) (ps : List (Nat × Nat)) (k : List Nat), vs = [.ref cp, .str (T k)] ∧ Comp H cp n ps ∧ Good n ps ∧ Kind n ps k ∧ z = .int (rise ps (k ++ (rst n k).reverse) : Nat)
theorem c_fewest_rising (p : Prog K mg ta tm) : C8.Cal P w K mg base 8 "fewest_rising" (spE pFew) [] := by
  have B := p.B
  refine p.d_fewest_rising.cal sc_fewest_rising (spE_len fun vs H z ⟨cp, n, ps, k, e, _⟩ => by rw [e]; rfl) fun cdv f A outer s H vs Q E hr h => ?_
  obtain ⟨z, ⟨cp, n, ps, k, rfl, c, g, kd, rfl⟩, q⟩ := h
  have hn5 := g.n5
  have hrl := rst_le (n := n) (by omega) k
  have ok := rest_ok' kd
  refine ⟨_, (pss_cons (ps_expr (C8.pe_c (c_need_company p) hr (by omega) rfl (pa_cons (pv 0) pa_nil)))
    (pss_cons (ps_expr (C8.pe_c (c_need_kind p) hr (by omega) rfl (pa_cons (pv 0) (pa_cons (pv 1) pa_nil))))
    (pss_cons (ps_set (i := 2) sc_fewest_rising.nd rfl (Or.inl rfl) (C8.pe_c (c_friends_of_all p) hr (by omega) rfl (pa_cons (pv 0) pa_nil)))
    (pss_cons (ps_set (i := 3) sc_fewest_rising.nd rfl (Or.inl rfl) (pe_join pe_str (pe_lc (own := [("sign", 4)]) (g := gName 4) rfl sc_fewest_rising.nd (pi_str (pe_slice sl_str (pe_glob (v := .str (T alph)) rfl B.alphabet ⟨_, rfl⟩) po_none (po_some (pe_ix ix_tup (pv 0) pe_int (fun _ _ => rfl))))) (blkOk_by (N := N_fewest_rising) (sc := defScope s_fewest_rising) (by decide +kernel)) (fun _ _ _ _ _ => (pg_name (i := 4) sc_fewest_rising.nd rfl (Or.inl rfl))) (fun _ _ _ _ _ => pts_one (pt_cmpR op_notIn_sign (pv 4) (pv 1) rfl)) (fun _ _ _ _ _ => (pv 4)))))
    (pss_one (ps_ret (C8.pe_c (c_rising_of p) hr (by omega) rfl (pa_cons (pv 2) (pa_cons (C8.pe_c (c_joined p) hr (by omega) rfl (pa_cons (pv 2) (pa_cons (pv 1) (pa_cons (pe_revS (pv 3)) pa_nil)))) pa_nil))))))))), ?_⟩
  refine q_drop (ev_call (ea_cons (ev_var rfl) ea_nil) (ok_needC c g)) fun H1 e1 => ?_
  refine q_drop (ev_call (ea_cons (ev_var rfl) (ea_cons (ev_var rfl) ea_nil)) (ok_needK (c.ex e1) g kd)) fun H2 e2 => ?_
  refine el_told (ea_cons (ev_var rfl) ea_nil) (c.ex (e1.trans e2)) g fun d H3 hd e3 told => ?_
  have e13 := (e1.trans e2).trans e3
  obtain ⟨pt, as, hc, hp, hps⟩ := c.ex e13
  refine q_asg (v := .str (T (rst n k))) (ev_joinN (K := K) ev_c (el_rest (cp := cp) (ps := ps) (by omega) (ev_take (l := alph) (k := n) ev_c (ev_ixt (i := 0) (ev_var rfl) ev_c hc rfl) (by decide)) (fun _ => rfl) (fun _ => rfl) fun c => ev_var rfl) (by omega)) fun H4 e4 => ?_
  refine s_ret (ev_is (ev_call (ea_cons (ev_var rfl) (ea_cons (ev_call (ea_cons (ev_var rfl) (ea_cons (ev_var rfl) (ea_cons (ev_rev (ev_var rfl) (by omega)) ea_nil))) (ok_joined (told.ex e4) g ok.1 ok.2)) ea_nil)) (ok_ris (told.ex e4) g (canon_nodup ps ok.1) fun c hc => ok.2 c ((canon_perm ps ok.1).mem_iff.mp hc))) ?_) fun H5 e5 => q H5 ((e13.trans e4).trans e5)
  rw [rise_canon ps ok.1]
theorem ok_few {cp : Addr} {n : Nat} {ps : List (Nat × Nat)} {k : List Nat} {H : Hp} (c : Comp H cp n ps) (g : Good n ps) (kd : Kind n ps k) : SpV (spE pFew) [.ref cp, .str (T k)] H (.int (rise ps (k ++ (rst n k).reverse) : Nat)) := spE_ok fun H' e => ⟨cp, n, ps, k, rfl, c.ex e, g, kd, rfl⟩
end
end K5
end
section
namespace K5
open PySem PySem.Spec PyProof.Rows L2 Evl
theorem rst_128 {n : Nat} {w : List Nat} : ∀ c ∈ rst n w, c < 128 := fun c hc => lets_128 ((mem_rst n).mp hc).1
theorem play_congr (ps : List (Nat × Nat)) (n : Nat) : ∀ (j : Nat) {w v : List Nat} (t : Int), (∀ x, x ∈ w ↔ x ∈ v) → play ps n j w t = play ps n j v t
  | 0, _, _, _, _ => rfl
  | j + 1, w, v, t, h => by
    unfold play
    rw [rst_congr n h, put_congr ps n h, play_congr ps n j (1 - t) (w := w ++ [put ps n v t]) (v := v ++ [put ps n v t]) fun x => by rw [List.mem_append, List.mem_append, h]]
section
variable {P : Program} {w : World} {K : PySem.W.Frag} {mg : Str → Option Value} {base : Heap} {ta tm : Tok}
theorem q_asgT {σ : L2.St} {H : Hp} {te : TE} {g : TG} {tz : TS} {D : Ends} (h : te σ H fun x H1 => g x σ H1 (tz D)) : tSeq (tAsg te g) tz D σ H := h
theorem s_asgT {σ : L2.St} {H : Hp} {te : TE} {g : TG} {D : Ends} (h : te σ H fun x H1 => g x σ H1 D.nx) : tAsg te g D σ H := h
theorem g_name {σ : L2.St} {H : Hp} {i : Nat} {v : V} {Q : L2.St → Hp → Prop} (h : Q (σ.set i (some v)) H) : gName i v σ H Q := h
theorem tup_go {σ : L2.St} {H : Hp} {ta : TA} {Q : VK} (h : ta σ H fun xs H1 => xs.length ≤ sizeLine ∧ ∀ p, H1 p = none → Q (.ref p) (upd H1 p (.tup xs))) : tTup ta σ H Q := h
theorem cons_go {σ : L2.St} {H : Hp} {te : TE} {tr : TA} {Q : List V → Hp → Prop} (h : te σ H fun v H1 => tr σ H1 fun vs H2 => Q (v :: vs) H2) : tCons te tr σ H Q := h
/-- what rest[worths.index(best)] is -/
theorem ev_pick {σ : L2.St} {H : Hp} {tr tw te : TE} {p q : Addr} {n : Nat} {ps : List (Nat × Nat)} {w : List Nat} {t : Int} (hr : Ev tr σ H (.ref p)) (hw : Ev tw σ H (.ref q)) (hb : Ev te σ H (.int (best t (worths ps n w t)))) (hp : H p = some (.lst ((rst n w).map one))) (hq : H q = some (.lst ((worths ps n w t).map V.int))) (hne : rst n w ≠ []) :
    Ev (tOp (rIxL K) tr (tBM K "list" (rIndex K) tw (tCons te tNil))) σ H (one (put ps n w t)) := by
  have hwne : worths ps n w t ≠ [] := by unfold worths; simpa using hne
  obtain ⟨j, h1, h2⟩ := first_at (best_mem (t := t) hwne)
  have hVp : Vp ps n w t = best t (worths ps n w t) := by rw [Vp_eq, if_neg hne]
  have hat := put_at ps n t hne (j := j) (by rw [hVp]; exact h1) (by rw [hVp]; exact h2)
  exact ev_op hr (ev_index hw hb hq h1 h2) (rv_ixL (sq_of hp) (atI_nat (by rw [List.getElem?_map, hat]; rfl)))
/-! ### best_letter -/
def pBestL : List V → Hp → V → Prop := fun vs H z => ∃ (cp : Addr) (n : Nat) (ps : List (Nat × Nat)) (k : List Nat) (t : Int), vs = [.ref cp, .str (T k), .int t] ∧ Comp H cp n ps ∧ Good n ps ∧ Kind n ps k ∧ 0 ≤ t ∧ t ≤ 1 ∧ z = if rst n k = [] then .non else one (put ps n k t)
theorem c_best_letter (p : Prog K mg ta tm) : C8.Cal P w K mg base 8 "best_letter" (spE pBestL) [] := by
  have B := p.B
  refine p.d_best_letter.cal sc_best_letter (spE_len fun vs H z ⟨cp, n, ps, k, t, e, _⟩ => by rw [e]; rfl) fun cdv f A outer s H vs Q E hr h => ?_
  obtain ⟨z, ⟨cp, n, ps, k, t, rfl, c, g, kd, t0, t1, rfl⟩, q⟩ := h
  have hu := hu_of hr
  have hn5 := g.n5
  have hlen := words_len (by omega) kd.nd kd.sub
  have hk128 : ∀ c ∈ k, c < 128 := fun c hc => lets_128 (kd.sub c hc)
  have hrs : rst n (srt k) = rst n k := rst_srt n k
  have hrl := rst_le (n := n) (by omega) k
  refine ⟨_, (pss_cons (ps_set (i := 3) sc_best_letter.nd rfl (Or.inr rfl) (C8.pe_c (c_need_play p) hr (by omega) rfl (pa_cons (pv 0) (pa_cons (pv 1) (pa_cons (pv 2) pa_nil)))))
    (pss_cons (ps_asg (pe_tup (pa_cons (pe_join pe_str (pe_callB (cr_sortedT rfl) (by rfl) B.sorted (by decide +kernel) (pa_cons (pv 1) pa_nil))) (pa_cons pe_dnewT pa_nil))) (pg_tup rfl (pgs_cons (pg_name (i := 4) sc_best_letter.nd rfl (Or.inr rfl)) (pgs_cons (pg_name (i := 5) sc_best_letter.nd rfl (Or.inr rfl)) pgs_nil))))
    (pss_cons (ps_lock (ps_setLc (i := 6) (own := [("sign", 9)]) (g := gName 9) rfl sc_best_letter.nd rfl rfl (sw_true rfl rfl rfl (by decide +kernel)) (pi_keys (pv 3)) (blkOk_by (N := N_best_letter) (sc := defScope s_best_letter) (by decide +kernel)) (fun _ _ _ _ _ => (pg_name (i := 9) sc_best_letter.nd rfl (Or.inl rfl))) (fun _ _ _ _ _ => pts_one (pt_cmpR op_notIn_sign (pv 9) (pv 4) rfl)) (fun _ _ _ _ _ => (pv 9))))
    (pss_cons (ps_setLc (i := 7) (own := [("sign", 9)]) (g := gName 9) (tt := tYes) rfl sc_best_letter.nd rfl rfl (sw_true rfl rfl rfl (by decide +kernel)) (pi_list (pv 6)) (blkOk_by (N := N_best_letter) (sc := defScope s_best_letter) (by decide +kernel)) (fun _ _ _ _ _ => (pg_name (i := 9) sc_best_letter.nd rfl (Or.inl rfl))) (fun _ _ _ _ _ => pts_nil) (fun _ _ _ _ _ => (pe_op op_add (C8.pe_c (c_gain_of p) hr (by omega) rfl (pa_cons (pv 3) (pa_cons (pv 4) (pa_cons (pv 9) pa_nil)))) (C8.pe_c (c_value_of p) hr (by omega) rfl (pa_cons (pv 3) (pa_cons (C8.pe_c (c_later_of p) hr (by omega) rfl (pa_cons (pv 4) (pa_cons (pv 9) pa_nil))) (pa_cons (pe_op op_sub pe_int (pv 2)) (pa_cons (pv 5) pa_nil))))))))
    (pss_cons (ps_if (pt_cmpR (op_eqD hr.units) (pv 6) (pe_lst pa_nil) (nomark _)) (pss_one (ps_ret pe_non)) pss_nil)
    (pss_cons (ps_set (i := 8) sc_best_letter.nd rfl (Or.inl rfl) (pe_ifExp (pt_cmpR op_eq (pv 2) pe_int (nomark _)) (pe_callB (cr_max rfl) (by rfl) B.max (by decide +kernel) (pa_cons (pv 7) pa_nil)) (pe_callB (cr_min rfl) (by rfl) B.min (by decide +kernel) (pa_cons (pv 7) pa_nil))))
    (pss_one (ps_ret (pe_ix ix_list (pv 6) (pe_bm PySem.F.plainAttrs_list PySem.F.slot_list_index PySem.F.type_list_index mt_index (pv 7) (pa_cons (pv 8) pa_nil)) (fun _ _ => rfl)))))))))), ?_⟩
  refine el_play (ea_cons (ev_var rfl) (ea_cons (ev_var rfl) (ea_cons (ev_var rfl) ea_nil))) c g kd t0 t1 fun d H1 hd e1 told => ?_
  refine g_name ?_
  dsimp only
  refine q_asgT ?_
  refine tup_go ?_
  refine cons_go ?_
  refine ev_joinN (K := K) ev_c (el_cb1 (ev_var rfl) (rcl_sorted hk128 (by omega))) (by rw [srt_len]; omega) H1 (Ex.refl _) _ fun H2 e2 => ?_
  intro kn hkn
  refine ⟨by show 2 ≤ sizeLine; decide, fun tp htp => ?_⟩
  have e3 : Ex H1 (upd (upd H2 kn (.dT [])) tp (.tup [.str (T (srt k)), .ref kn])) := (e2.trans (Ex.new hkn)).trans (Ex.new htp)
  have hknt : kn ≠ tp := fun e => by rw [← e, upd_same] at htp; cases htp
  refine ⟨tp, _, rfl, st_of upd_same, rfl, _, _, rfl, _, _, rfl, rfl, ?_⟩
  have hk3 : (upd (upd H2 kn (.dT [])) tp (.tup [.str (T (srt k)), .ref kn])) kn = some (.dT []) := by rw [upd_ne hknt, upd_same]
  generalize upd (upd H2 kn (.dT [])) tp (.tup [.str (T (srt k)), .ref kn]) = H3 at e3 hk3
  refine q_rest (n := n) (ps := ps) (w := srt k) rfl rfl (by decide) (by decide) (by show 9 < 10; omega) (by omega) (told.ex e3) (fun _ => rfl) fun pr H4 hpr e4 h4 => ?_
  have hm1 : (rst n (srt k)).length * cost ((rst n (srt k)).length - 1) ≤ 5 * 206 := Nat.mul_le_mul (by rw [hrs]; omega) (cost_le (by rw [hrs]; omega))
  refine q_worths (n := n) (ps := ps) (w := srt k) (t := t) (kvs := []) (p := pr) (d := d) (kn := kn) rfl rfl rfl rfl rfl (by decide) (by decide) (by decide) (by decide) (by show 9 < 10; omega) (fun _ => rfl) (told.ex (e3.trans e4)) g ((srt_perm k).nodup_iff.mpr kd.nd) (fun c hc => kd.sub c (srt_mem.mp hc)) h4 (e4 _ _ hk3) memo_nil (by rw [hrs]; omega) (by rw [List.length_nil]; omega) fun qd H5 kvs5 hqd e5 h5 hk5 mem5 hl5 => ?_
  have hprk : pr ≠ kn := fun e => by rw [e, hk3] at hpr; cases hpr
  have e15 : Ex H1 H5 := exb_back (fresh_back e2 hkn) (e3.trans e4) e5
  refine q_when (b := (rst n (srt k)).isEmpty) (et_test (ev_eqNil rst_128 (ev_var rfl) (e5 _ _ hprk h4))) (fun hb H6 e6 => ?_) fun hb H6 e6 => ?_
  · have hr0 : rst n k = [] := by rw [← hrs]; exact List.isEmpty_iff.mp hb
    refine s_ret ev_c fun H7 e7 => ?_
    have := q H7 (((e1.trans e15).trans e6).trans e7)
    rw [if_pos hr0] at this
    exact this
  · have hr0 : rst n (srt k) ≠ [] := fun e => by rw [e] at hb; cases hb
    have hwne : worths ps n (srt k) t ≠ [] := by unfold worths; simpa using hr0
    refine q_asg (ev_best (ev_var rfl) (ev_var rfl) (e6 _ _ h5) hwne) fun H7 e7 => ?_
    have e57 := e6.trans e7
    refine s_ret (ev_pick (t := t) (w := srt k) (n := n) (ps := ps) (ev_var rfl) (ev_var rfl) (ev_var rfl) (e57 _ _ (e5 _ _ hprk h4)) (e57 _ _ h5) hr0) fun H8 e8 => ?_
    have := q H8 (((e1.trans e15).trans e57).trans e8)
    rw [if_neg (by rw [← hrs]; exact hr0)] at this
    rw [put_congr ps n (fun x => srt_mem)]
    exact this
theorem ok_bestL {cp : Addr} {n : Nat} {ps : List (Nat × Nat)} {k : List Nat} {t : Int} {H : Hp} (c : Comp H cp n ps) (g : Good n ps) (kd : Kind n ps k) (t0 : 0 ≤ t) (t1 : t ≤ 1) : SpV (spE pBestL) [.ref cp, .str (T k), .int t] H (if rst n k = [] then .non else one (put ps n k t)) := spE_ok fun H' e => ⟨cp, n, ps, k, t, rfl, c.ex e, g, kd, t0, t1, rfl⟩
/-! ### best_play -/
def pBestP : List V → Hp → V → Prop := fun vs H z => ∃ (cp : Addr) (n : Nat) (ps : List (Nat × Nat)) (k : List Nat) (t : Int), vs = [.ref cp, .str (T k), .int t] ∧ Comp H cp n ps ∧ Good n ps ∧ Kind n ps k ∧ 0 ≤ t ∧ t ≤ 1 ∧ z = .str (T (play ps n (rst n k).length k t))
theorem play_len (ps : List (Nat × Nat)) (n : Nat) : ∀ (j : Nat) (w : List Nat) (t : Int), (play ps n j w t).length ≤ j
  | 0, _, _ => Nat.le_refl _
  | j + 1, w, t => by
    unfold play
    by_cases h : rst n w = []
    · rw [if_pos h]; exact Nat.zero_le _
    · rw [if_neg h, List.length_cons]; have := play_len ps n j (w ++ [put ps n w t]) (1 - t); omega
theorem c_best_play (p : Prog K mg ta tm) : C8.Cal P w K mg base 8 "best_play" (spE pBestP) [] := by
  have B := p.B
  refine p.d_best_play.cal sc_best_play (spE_len fun vs H z ⟨cp, n, ps, k, t, e, _⟩ => by rw [e]; rfl) fun cdv f A outer s H vs Q E hr h => ?_
  obtain ⟨z, ⟨cp, n, ps, k, t, rfl, c, g, kd, t0, t1, rfl⟩, q⟩ := h
  have hu := hu_of hr
  have hn5 := g.n5
  have hlen := words_len (by omega) kd.nd kd.sub
  have hk128 : ∀ c ∈ k, c < 128 := fun c hc => lets_128 (kd.sub c hc)
  have hrl := rst_le (n := n) (by omega) k
  refine ⟨_, (pss_cons (ps_set (i := 3) sc_best_play.nd rfl (Or.inr rfl) (C8.pe_c (c_need_play p) hr (by omega) rfl (pa_cons (pv 0) (pa_cons (pv 1) (pa_cons (pv 2) pa_nil)))))
    (pss_cons (ps_asg (pe_tup (pa_cons pe_str (pa_cons pe_dnewT (pa_cons (pe_join pe_str (pe_callB (cr_sortedT rfl) (by rfl) B.sorted (by decide +kernel) (pa_cons (pv 1) pa_nil))) pa_nil)))) (pg_tup rfl (pgs_cons (pg_name (i := 4) sc_best_play.nd rfl (Or.inl rfl)) (pgs_cons (pg_name (i := 5) sc_best_play.nd rfl (Or.inr rfl)) (pgs_cons (pg_name (i := 6) sc_best_play.nd rfl (Or.inr rfl)) pgs_nil)))))
    (pss_cons (ps_while PassesOwn.never (pt_cmpR op_lt (pe_callB call_len_str (by rfl) B.len PySem.boot_len (pa_cons (pv 6) pa_nil)) (pe_callB call_lenD (by rfl) B.len PySem.boot_len (pa_cons (pv 3) pa_nil)) (nomark _)) (pss_cons (ps_lock (ps_setLc (i := 7) (own := [("sign", 9)]) (g := gName 9) rfl sc_best_play.nd rfl rfl (sw_true rfl rfl rfl (by decide +kernel)) (pi_keys (pv 3)) (blkOk_by (N := N_best_play) (sc := defScope s_best_play) (by decide +kernel)) (fun _ _ _ _ _ => (pg_name (i := 9) sc_best_play.nd rfl (Or.inl rfl))) (fun _ _ _ _ _ => pts_one (pt_cmpR op_notIn_sign (pv 9) (pv 6) rfl)) (fun _ _ _ _ _ => (pv 9))))
        (pss_cons (ps_setLc (i := 8) (own := [("sign", 9)]) (g := gName 9) (tt := tYes) rfl sc_best_play.nd rfl rfl (sw_true rfl rfl rfl (by decide +kernel)) (pi_list (pv 7)) (blkOk_by (N := N_best_play) (sc := defScope s_best_play) (by decide +kernel)) (fun _ _ _ _ _ => (pg_name (i := 9) sc_best_play.nd rfl (Or.inl rfl))) (fun _ _ _ _ _ => pts_nil) (fun _ _ _ _ _ => (pe_op op_add (C8.pe_c (c_gain_of p) hr (by omega) rfl (pa_cons (pv 3) (pa_cons (pv 6) (pa_cons (pv 9) pa_nil)))) (C8.pe_c (c_value_of p) hr (by omega) rfl (pa_cons (pv 3) (pa_cons (C8.pe_c (c_later_of p) hr (by omega) rfl (pa_cons (pv 6) (pa_cons (pv 9) pa_nil))) (pa_cons (pe_op op_sub pe_int (pv 2)) (pa_cons (pv 5) pa_nil))))))))
        (pss_cons (ps_set (i := 9) sc_best_play.nd rfl (Or.inl rfl) (pe_ix ix_list (pv 7) (pe_bm PySem.F.plainAttrs_list PySem.F.slot_list_index PySem.F.type_list_index mt_index (pv 8) (pa_cons (pe_ifExp (pt_cmpR op_eq (pv 2) pe_int (nomark _)) (pe_callB (cr_max rfl) (by rfl) B.max (by decide +kernel) (pa_cons (pv 8) pa_nil)) (pe_callB (cr_min rfl) (by rfl) B.min (by decide +kernel) (pa_cons (pv 8) pa_nil))) pa_nil)) (fun _ _ => rfl)))
        (pss_one (ps_asg (pe_tup (pa_cons (pe_op op_add_str (pv 4) (pv 9)) (pa_cons (C8.pe_c (c_later_of p) hr (by omega) rfl (pa_cons (pv 6) (pa_cons (pv 9) pa_nil))) (pa_cons (pe_op op_sub pe_int (pv 2)) pa_nil)))) (pg_tup rfl (pgs_cons (pg_name (i := 4) sc_best_play.nd rfl (Or.inl rfl)) (pgs_cons (pg_name (i := 6) sc_best_play.nd rfl (Or.inr rfl)) (pgs_cons (pg_name (i := 2) sc_best_play.nd rfl (Or.inr rfl)) pgs_nil))))))))))
    (pss_one (ps_ret (pv 4)))))), ?_⟩
  refine el_play (ea_cons (ev_var rfl) (ea_cons (ev_var rfl) (ea_cons (ev_var rfl) ea_nil))) c g kd t0 t1 fun d H1 hd e1 told => ?_
  intro kn hkn
  refine ev_joinN (K := K) ev_c (el_cb1 (ev_var rfl) (rcl_sorted hk128 (by omega))) (by rw [srt_len]; omega) _ (Ex.refl _) _ fun H2 e2 => ?_
  refine ⟨by show 3 ≤ sizeLine; decide, fun tp htp => ?_⟩
  have e3 : Ex H1 (upd H2 tp (.tup [.str (Str.ofString ""), .ref kn, .str (T (srt k))])) := ((Ex.new hkn).trans e2).trans (Ex.new htp)
  have hk2 : H2 kn = some (.dT []) := e2 _ _ upd_same
  have hknt : kn ≠ tp := fun e => by rw [← e, hk2] at htp; cases htp
  refine ⟨tp, _, rfl, st_of upd_same, rfl, _, _, rfl, _, _, rfl, _, _, rfl, rfl, ?_⟩
  have hk3 : (upd H2 tp (.tup [.str (Str.ofString ""), .ref kn, .str (T (srt k))])) kn = some (.dT []) := by rw [upd_ne hknt]; exact hk2
  generalize upd H2 tp (.tup [.str (Str.ofString ""), .ref kn, .str (T (srt k))]) = H3 at e3 hk3
  have hdk : d ≠ kn := fun e => by have := told; unfold Told at this; rw [e, hkn] at this; cases this
  generalize hres : play ps n (rst n k).length k t = res at q
  refine q_while (fun m σ' H' => ∃ (w f : List Nat) (t : Int) (kvs : List (List Key × V)) (x7 x8 x9 : Option V), σ' = [some (.ref cp), some (.str (T k)), some (.int t), some (.ref d), some (.str (T f)), some (.ref kn), some (.str (T (srt w))), x7, x8, x9] ∧ m = (rst n w).length ∧ w.Nodup ∧ (∀ c ∈ w, c ∈ lets n) ∧
    ExB kn H3 H' ∧ H' kn = some (.dT kvs) ∧ Memo n ps kvs ∧ kvs.length + m * 2000 ≤ 20000 ∧ f.length + m ≤ 10 ∧ f ++ play ps n m w t = res) (rst n k).length ⟨k, [], t, [], none, none, none, rfl, rfl, kd.nd, kd.sub, ExB.refl kn H3, hk3, memo_nil, by rw [List.length_nil]; omega, by rw [List.length_nil]; omega, hres⟩ fun m σ' H' h => ?_
  obtain ⟨w, f, t, kvs, x7, x8, x9, rfl, rfl, nd, sub, eB, hk', mem, hl, hfl, hplay⟩ := h
  have hsum := rst_sum (by omega) nd sub
  have hrs : rst n (srt w) = rst n w := rst_srt n w
  have told' : Told H' d n ps := eB _ _ hdk (told.ex e3)
  have hkl : (toldK n ps).length = n := by
    show ((lets n).map _).length = n
    rw [List.length_map, len_lets n (by omega)]
  refine ⟨decide (((srt w).length : Int) < ((toldK n ps).length : Int)), et_test (ev_op (ev_cb1 (ev_var rfl) (rc_lens (by rw [srt_len]; omega))) (ev_cb1 (ev_var rfl) (rc_lenD told')) iv_lt), fun hb H4 e4 => ?_, fun hb H4 e4 => ?_⟩
  · have hlt := of_decide_eq_true hb
    rw [srt_len, hkl] at hlt
    have hr0 : rst n w ≠ [] := fun e => by rw [e, List.length_nil] at hsum; omega
    have hr0' : rst n (srt w) ≠ [] := by rw [hrs]; exact hr0
    have told4 : Told H4 d n ps := told'.ex e4
    refine ⟨fun σ2 H2 => ∃ m', m' < (rst n w).length ∧ _, fun σ2 H2 h => h, ?_⟩
    refine q_rest (n := n) (ps := ps) (w := srt w) rfl rfl (by decide) (by decide) (by show 9 < 10; omega) (by omega) told4 (fun _ => rfl) fun pr H5 hpr e5 h5 => ?_
    have hrl2 := rst_le (n := n) (by omega) w
    have hm1 : (rst n (srt w)).length * cost ((rst n (srt w)).length - 1) ≤ 5 * 206 := Nat.mul_le_mul (by rw [hrs]; omega) (cost_le (by rw [hrs]; omega))
    have hk5 := e5 _ _ (e4 _ _ hk')
    refine q_worths (n := n) (ps := ps) (w := srt w) (t := t) (kvs := kvs) (p := pr) (d := d) (kn := kn) rfl rfl rfl rfl rfl (by decide) (by decide) (by decide) (by decide) (by show 9 < 10; omega) (fun _ => rfl) (told4.ex e5) g ((srt_perm w).nodup_iff.mpr nd) (fun c hc => sub c (srt_mem.mp hc)) h5 hk5 mem (by rw [hrs]; omega) (by omega) fun qd H6 kvs6 hqd e6 h6 hk6 mem6 hl6 => ?_
    have hprk : pr ≠ kn := fun e => by rw [e, e4 _ _ hk'] at hpr; cases hpr
    have hwne : worths ps n (srt w) t ≠ [] := by unfold worths; simpa using hr0'
    have hput : put ps n (srt w) t = put ps n w t := put_congr ps n (fun x => srt_mem) t
    refine q_asg (ev_pick (t := t) (w := srt w) (n := n) (ps := ps) (ev_var rfl) (ev_var rfl) (ev_best (ev_var rfl) (ev_var rfl) h6 hwne) (e6 _ _ hprk h5) h6 hr0') fun H7 e7 => ?_
    rw [hput]
    have hpm := put_mem ps n t hr0
    have ok := snoc_ok nd sub hpm
    have hlen2 := rst_len n hpm
    have hlw := words_len (by omega) nd sub
    generalize hs : put ps n w t = sg at hpm ok hlen2
    have hsl : srt (srt w ++ [sg]) = srt (w ++ [sg]) := srt_srt w sg
    refine eu_tup (vs := [.str (T (f ++ [sg])), .str (T (srt (w ++ [sg]))), .int (1 - t)]) (ea_cons (ev_op (ev_var rfl) (ev_var rfl) (rv_adds (by rw [List.length_singleton]; omega))) (ea_cons (ev_is (ev_call (ea_cons (ev_var rfl) (ea_cons (ev_var rfl) ea_nil)) (ok_later (m := srt w) (c := sg) (fun x hx => ?_) (by rw [srt_len]; omega))) (by rw [hsl])) (ea_cons (ev_op ev_c (ev_var rfl) iv_sub) ea_nil))) (by show 3 ≤ 100000; omega) H7 (Ex.refl _) _ fun tq H8 htq e8 h8 => ?_
    · rcases List.mem_append.mp hx with z | z
      · exact lets_128 (sub x (srt_mem.mp z))
      · exact lets_128 (ok.2 x (List.mem_append_right _ z))
    refine ⟨tq, _, rfl, st_of h8, rfl, _, _, rfl, _, _, rfl, _, _, rfl, rfl, ?_⟩
    refine ⟨(rst n w).length - 1, by omega, w ++ [sg], f ++ [sg], 1 - t, kvs6, _, _, _, rfl, by omega, ok.1, ok.2, ?_, e8 _ _ (e7 _ _ hk6), mem6, by omega, by rw [List.length_append, List.length_singleton]; omega, ?_⟩
    · exact ((((eB.trans (exb_of e4)).trans (exb_of e5)).trans e6).trans (exb_of e7)).trans (exb_of e8)
    · rw [← hplay]
      have hl1 : (rst n w).length = ((rst n w).length - 1) + 1 := by omega
      generalize (rst n w).length - 1 = j at hl1
      rw [hl1]
      show _ = f ++ (if rst n w = [] then [] else put ps n w t :: play ps n j (w ++ [put ps n w t]) (1 - t))
      rw [if_neg hr0, hs, List.append_assoc]; rfl
  · have hge := of_decide_eq_false hb
    rw [srt_len, hkl] at hge
    have hm0 : (rst n w).length = 0 := by omega
    rw [hm0] at hplay
    have hf : f = res := by rw [← hplay]; show f = f ++ []; rw [List.append_nil]
    refine s_ret (ev_var rfl) fun H5 e5 => ?_
    rw [hf]
    refine q H5 (e1.trans ?_)
    exact exb_back hkn e3 ((eB.trans (exb_of e4)).trans (exb_of e5))
theorem ok_bestP {cp : Addr} {n : Nat} {ps : List (Nat × Nat)} {k : List Nat} {t : Int} {H : Hp} (c : Comp H cp n ps) (g : Good n ps) (kd : Kind n ps k) (t0 : 0 ≤ t) (t1 : t ≤ 1) : SpV (spE pBestP) [.ref cp, .str (T k), .int t] H (.str (T (play ps n (rst n k).length k t))) := spE_ok fun H' e => ⟨cp, n, ps, k, t, rfl, c.ex e, g, kd, t0, t1, rfl⟩
end
end K5
end
section
namespace K5
open PySem PySem.Spec PyProof.Rows L2 Evl
theorem exb_l {K : PySem.W.Frag} {H H' : Hp} {r a : Addr} {xs : List V} (e : ExB r H H') (n : a ≠ r) (h : SqL K H a xs) : SqL K H' a xs := by
  rcases h with h | h
  · rcases h with h | ⟨o, h⟩
    · exact .inl (.inl (e _ _ n h))
    · exact .inl (.inr ⟨o, e _ _ n h⟩)
  · exact .inr h
/-- the law's row: its script, place, number, left -/
def RowH (K : PySem.W.Frag) (H : Hp) (r sc : Addr) : Prop := ∃ (cells : List Int) (i x y : Int), sc ≠ r ∧ SqL K H sc (cells.map V.int) ∧ cells.length ≤ 63 ∧ H r = some (.lst [.ref sc, .int i, .int x, .int y]) ∧ 0 ≤ i
theorem RowH.ex {K : PySem.W.Frag} {H H' : Hp} {r sc : Addr} (h : RowH K H r sc) (e : Ex H H') : RowH K H' r sc := by
  obtain ⟨cells, i, x, y, h1, h2, h3, h4, h5⟩ := h
  exact ⟨cells, i, x, y, h1, ex_l e h2, h3, e _ _ h4, h5⟩
theorem RowH.ne {K : PySem.W.Frag} {H : Hp} {r sc a : Addr} {xs : List V} (h : RowH K H r sc) (ha : H a = some (.tup xs)) : a ≠ r := by
  obtain ⟨cells, i, x, y, h1, h2, h3, h4, h5⟩ := h
  intro e
  rw [e, h4] at ha
  cases ha
/-- an object that came later may change -/
theorem RowH.mut {K : PySem.W.Frag} {H H' : Hp} {r sc L : Addr} {o : HO} (h0 : RowH K H r sc) (hL : H L = none) (h : RowH K H' r sc) : RowH K (upd H' L o) r sc := by
  obtain ⟨cells0, _, _, _, _, a2, a3, a4, _⟩ := h0
  obtain ⟨cells, i, x, y, h1, h2, h3, h4, h5⟩ := h
  have hr : r ≠ L := fun e => by rw [e, hL] at a4; cases a4
  have h4' : (upd H' L o) r = some (.lst [.ref sc, .int i, .int x, .int y]) := by rw [upd_ne hr]; exact h4
  rcases a2 with a2 | a2
  · have hs : sc ≠ L := fun e => by
      rcases a2 with a2 | ⟨_, a2⟩ <;> (rw [e, hL] at a2; cases a2)
    refine ⟨cells, i, x, y, h1, ?_, h3, h4', h5⟩
    rcases h2 with h2 | h2
    · rcases h2 with h2 | ⟨u, h2⟩
      · exact .inl (.inl (by rw [upd_ne hs]; exact h2))
      · exact .inl (.inr ⟨u, by rw [upd_ne hs]; exact h2⟩)
    · exact .inr h2
  · exact ⟨cells0, i, x, y, h1, .inr a2, a3, h4', h5⟩
/-- taken -/
def spTake (K : PySem.W.Frag) : Sp := fun vs H Q _ => ∃ (r sc : Addr) (m : Int), vs = [.ref r, .int m] ∧ RowH K H r sc ∧ 0 < m ∧ m < 1073741824 ∧ ∀ H' v, ExB r H H' → RowH K H' r sc → 0 ≤ v → v < m → Q (.int v) H'
section
variable {K : PySem.W.Frag} {σ : L2.St} {H H' : Hp} {ta tb tc te td ty : TE} {x y z v : V}
theorem ev_ixl {a : Addr} {xs : List V} {i : Nat} (h1 : Ev ta σ H (.ref a)) (h2 : Ev tb σ H (.int (i : Int))) (h : SqL K H a xs) (hi : xs[i]? = some v) : Ev (tOp (rIxL K) ta tb) σ H v :=
  ev_op h1 h2 (rv_ixL h (atI_nat hi))
theorem rc_int1 {i : Int} : RC (fun xs H Q => (∃ i, xs = [.int i] ∧ Q (.int i) H) ∨ ∃ k, xs = [.bl k] ∧ Q (.int (if k then 1 else 0)) H) [.int i] H (.int i) := fun H1 _ Q q => .inl ⟨i, rfl, q H1 (Ex.refl H1)⟩
theorem rc_intB {b : Bool} : RC (fun xs H Q => (∃ i, xs = [.int i] ∧ Q (.int i) H) ∨ ∃ k, xs = [.bl k] ∧ Q (.int (if k then 1 else 0)) H) [.bl b] H (.int (if b then 1 else 0)) := fun H1 _ Q q => .inr ⟨b, rfl, q H1 (Ex.refl H1)⟩
theorem iv_mod {i j : Int} (h : 0 < j) : RV (rI (fun _ j => 0 < j) fun i j => V.int (i % j)) (.int i) (.int j) H (.int (i % j)) := rv_I (g := fun i j => V.int (i % j)) h
theorem iv_fdiv {i j : Int} (h : 0 < j) (h2 : j < 1073741824) : RV (rI CDiv fun i j => V.int (i / j)) (.int i) (.int j) H (.int (i / j)) := rv_I (g := fun i j => V.int (i / j)) ⟨h, h2⟩
theorem iv_mul {i j : Int} (h : CMul i j) : RV (rI CMul fun i j => V.int (i * j)) (.int i) (.int j) H (.int (i * j)) := rv_I (g := fun i j => V.int (i * j)) h
theorem iv_pow {i j : Int} (h : CPow i j) : RV (rI CPow fun i j => V.int (i ^ j.toNat)) (.int i) (.int j) H (.int (i ^ j.toNat)) := rv_I (g := fun i j => V.int (i ^ j.toNat)) h
end
section
variable {P : Program} {w : World} {K : PySem.W.Frag} {mg : Str → Option Value} {base : Heap} {ta tm : Tok}
theorem c__law_taken (p : Prog K mg ta tm) : C8.Cal P w K mg base 1 "_law_taken" (spTake K) [] := by
  have B := p.B
  refine p.d__law_taken.cal sc__law_taken (fun vs H Q E ⟨_, _, _, e, _⟩ => by rw [e]; rfl) fun cdv f A outer s H vs Q E hr h => ?_
  obtain ⟨r, sc, m, rfl, ⟨cells, i, x, y, hne, hs, hlen, hr0, hi⟩, m0, m1, q⟩ := h
  refine ⟨_, (pss_cons (ps_if (pt_cmpR op_gt (pe_ix ix_list (pv 0) pe_int (fun _ _ => rfl)) pe_int (nomark _)) (pss_cons (ps_set (i := 2) sc__law_taken.nd rfl (Or.inl rfl) (pe_op op_mod (pe_callTy call_int1 (by rfl) B.int (by decide +kernel) (pa_cons (pe_ix ix_list (pv 0) pe_int (fun _ _ => rfl)) pa_nil)) (pv 1)))
        (pss_cons (ps_asg (pe_op op_fdiv (pe_ix ix_list (pv 0) pe_int (fun _ _ => rfl)) (pv 1)) (pg_sub (pv 0) pe_int set_list))
        (pss_one (ps_ret (pv 2))))) pss_nil)
    (pss_cons (ps_asg (pe_op op_add (pe_ix ix_list (pv 0) pe_int (fun _ _ => rfl)) pe_int) (pg_sub (pv 0) pe_int set_list))
    (pss_cons (ps_if (pt_cmpR op_gt (pe_ix ix_list (pv 0) pe_int (fun _ _ => rfl)) (pe_callB call_len_seq (by rfl) B.len PySem.boot_len (pa_cons (pe_ix ix_list (pv 0) pe_int (fun _ _ => rfl)) pa_nil)) (nomark _)) (pss_cons (ps_asg (pe_op op_mod (pe_callTy call_int1 (by rfl) B.int (by decide +kernel) (pa_cons (pe_op op_add (pe_op op_mul (pe_ix ix_list (pv 0) pe_int (fun _ _ => rfl)) pe_int) pe_int) pa_nil)) pe_int) (pg_sub (pv 0) pe_int set_list))
        (pss_one (ps_ret (pe_op op_mod (pe_callTy call_int1 (by rfl) B.int (by decide +kernel) (pa_cons (pe_op op_fdiv (pe_ix ix_list (pv 0) pe_int (fun _ _ => rfl)) pe_int) pa_nil)) (pv 1))))) pss_nil)
    (pss_cons (ps_set (i := 3) sc__law_taken.nd rfl (Or.inl rfl) (pe_ix ix_list (pe_ix ix_list (pv 0) pe_int (fun _ _ => rfl)) (pe_op op_sub (pe_ix ix_list (pv 0) pe_int (fun _ _ => rfl)) pe_int) (fun _ _ => rfl)))
    (pss_cons (ps_asg (pe_op op_mod (pe_callTy call_int1 (by rfl) B.int (by decide +kernel) (pa_cons (pe_op op_add (pe_op op_add (pe_op op_mul (pe_ix ix_list (pv 0) pe_int (fun _ _ => rfl)) pe_int) (pv 3)) pe_int) pa_nil)) pe_int) (pg_sub (pv 0) pe_int set_list))
    (pss_cons (ps_if (pt_cmpR op_ge (pv 3) (pe_op op_pow pe_int pe_int) (nomark _)) (pss_one (ps_asg (pe_op op_fdiv (pv 3) (pv 1)) (pg_sub (pv 0) pe_int set_list))) pss_nil)
    (pss_one (ps_ret (pe_op op_mod (pe_callTy call_int1 (by rfl) B.int (by decide +kernel) (pa_cons (pv 3) pa_nil)) (pv 1)))))))))), ?_⟩
  have fin : ∀ {H1 : Hp} {i' x' y' v : Int}, ExB r H H1 → 0 ≤ i' → 0 ≤ v → v < m → H1 r = some (.lst [.ref sc, .int i', .int x', .int y']) → Q (.int v) H1 := fun {H1 i' x' y' v} e hi' v0 v1 h1 =>
    q H1 v e ⟨cells, i', x', y', hne, exb_l e hne hs, hlen, h1, hi'⟩ v0 v1
  refine q_when (b := decide ((0 : Int) < y)) (et_test (ev_op (ev_ixl (i := 3) (ev_var rfl) ev_c (sq_of hr0) rfl) ev_c iv_gt)) (fun _ H1 e1 => ?_) fun _ H1 e1 => ?_
  · have h1 := e1 _ _ hr0
    refine q_asg (ev_op (ev_cb1 (ev_ixl (i := 3) (ev_var rfl) ev_c (sq_of h1) rfl) rc_int1) (ev_var rfl) (iv_mod m0)) fun H2 e2 => ?_
    have h2 := e2 _ _ h1
    refine q_setL (j := 3) h2 (ev_op (ev_ixl (i := 3) (ev_var rfl) ev_c (sq_of h2) rfl) (ev_var rfl) (iv_fdiv m0 m1)) (ev_var rfl) ev_c (by show 3 < 4; omega) fun H3 e3 => ?_
    refine s_ret (ev_var rfl) fun H4 e4 => ?_
    exact fin (((exb_of ((e1.trans e2).trans e3)).own).trans (exb_of e4)) hi (Int.emod_nonneg _ (by omega)) (Int.emod_lt_of_pos _ m0) (e4 _ _ upd_same)
  · have h1 := e1 _ _ hr0
    refine q_setL (j := 1) h1 (ev_op (ev_ixl (i := 1) (ev_var rfl) ev_c (sq_of h1) rfl) ev_c iv_add) (ev_var rfl) ev_c (by show 1 < 4; omega) fun H2 e2 => ?_
    have h2 : (upd H2 r (.lst ([V.ref sc, .int i, .int x, .int y].set 1 (.int (i + 1))))) r = some (.lst [.ref sc, .int (i + 1), .int x, .int y]) := upd_same
    have eB : ExB r H (upd H2 r (.lst ([V.ref sc, .int i, .int x, .int y].set 1 (.int (i + 1))))) := (exb_of (e1.trans e2)).own
    generalize upd H2 r (.lst ([V.ref sc, .int i, .int x, .int y].set 1 (.int (i + 1)))) = H3 at h2 eB
    have hs3 := exb_l eB hne hs
    refine q_when (b := decide ((((cells.map V.int).length : Nat) : Int) < i + 1)) (et_test (ev_op (ev_ixl (i := 1) (ev_var rfl) ev_c (sq_of h2) rfl) (ev_cb1 (ev_ixl (i := 0) (ev_var rfl) ev_c (sq_of h2) rfl) (rc_lenL hs3)) iv_gt)) (fun _ H4 e4 => ?_) fun hb H4 e4 => ?_
    · have h4 := e4 _ _ h2
      refine q_setL (j := 2) h4 (ev_op (ev_cb1 (ev_op (ev_op (ev_ixl (i := 2) (ev_var rfl) ev_c (sq_of h4) rfl) ev_c (iv_mul (.inr ⟨by decide, by decide⟩))) ev_c iv_add) rc_int1) ev_c (iv_mod (by decide))) (ev_var rfl) ev_c (by show 2 < 4; omega) fun H5 e5 => ?_
      refine s_ret (ev_op (ev_cb1 (ev_op (ev_ixl (i := 2) (ev_var rfl) ev_c (sq_of upd_same) rfl) ev_c (iv_fdiv (by decide) (by decide))) rc_int1) (ev_var rfl) (iv_mod m0)) fun H6 e6 => ?_
      exact fin (((eB.trans (exb_of (e4.trans e5))).own).trans (exb_of e6)) (by omega) (Int.emod_nonneg _ (by omega)) (Int.emod_lt_of_pos _ m0) (e6 _ _ upd_same)
    · have h4 := e4 _ _ h2
      have hge := of_decide_eq_false hb
      rw [List.length_map] at hge
      have hin : i.toNat < cells.length := by omega
      have hcell : (cells.map V.int)[i.toNat]? = some (.int (cells[i.toNat])) := by rw [List.getElem?_map]; simp [hin]
      generalize cells[i.toNat] = c at hcell
      refine q_asg (ev_ixl (i := i.toNat) (ev_ixl (i := 0) (ev_var rfl) ev_c (sq_of h4) rfl) (ev_is (ev_op (ev_ixl (i := 1) (ev_var rfl) ev_c (sq_of h4) rfl) ev_c iv_sub) (congrArg V.int (by omega))) (ex_l e4 hs3) hcell) fun H5 e5 => ?_
      have h5 := e5 _ _ h4
      refine q_setL (j := 2) h5 (ev_op (ev_cb1 (ev_op (ev_op (ev_op (ev_ixl (i := 2) (ev_var rfl) ev_c (sq_of h5) rfl) ev_c (iv_mul (.inr ⟨by decide, by decide⟩))) (ev_var rfl) iv_add) ev_c iv_add) rc_int1) ev_c (iv_mod (by decide))) (ev_var rfl) ev_c (by show 2 < 4; omega) fun H6 e6 => ?_
      have eB6 := (eB.trans (exb_of ((e4.trans e5).trans e6))).own (o := .lst ([V.ref sc, .int (i + 1), .int x, .int y].set 2 (.int ((x * 48271 + c + 11) % 2147483647))))
      refine q_when (b := decide ((10 : Int) ^ (18 : Int).toNat ≤ c)) (et_test (ev_op (ev_var rfl) (ev_op ev_c ev_c (iv_pow ⟨by decide, by decide, by decide⟩)) iv_ge)) (fun _ H7 e7 => ?_) fun _ H7 e7 => ?_
      · refine s_setL (j := 3) (e7 _ _ upd_same) (ev_op (ev_var rfl) (ev_var rfl) (iv_fdiv m0 m1)) (ev_var rfl) ev_c (by show 3 < 4; omega) fun H8 e8 => ?_
        refine s_ret (ev_op (ev_cb1 (ev_var rfl) rc_int1) (ev_var rfl) (iv_mod m0)) fun H9 e9 => ?_
        exact fin ((((eB6.trans (exb_of e7)).trans (exb_of e8)).own).trans (exb_of e9)) (by omega) (Int.emod_nonneg _ (by omega)) (Int.emod_lt_of_pos _ m0) (e9 _ _ upd_same)
      · refine s_ret (ev_op (ev_cb1 (ev_var rfl) rc_int1) (ev_var rfl) (iv_mod m0)) fun H8 e8 => ?_
        exact fin ((eB6.trans (exb_of e7)).trans (exb_of e8)) (by omega) (Int.emod_nonneg _ (by omega)) (Int.emod_lt_of_pos _ m0) (e8 _ _ (e7 _ _ upd_same))
/-- a call of taken as an expression -/
theorem el_take {σ : L2.St} {H : Hp} {ta : TA} {E : XK} {r sc : Addr} {m : Int} {Q : VK} (h : EvA ta σ H [.ref r, .int m]) (hr : RowH K H r sc) (m0 : 0 < m) (m1 : m < 1073741824) (q : ∀ H' v, ExB r H H' → RowH K H' r sc → 0 ≤ v → v < m → Q (.int v) H') : tCall (spTake K) [] E ta σ H Q :=
  h H (Ex.refl H) _ fun H1 e1 => ⟨r, sc, m, rfl, hr.ex e1, m0, m1, fun H' v e2 => q H' v ((exb_of e1).trans e2)⟩
end
end K5
end
section
namespace K5
open PySem PySem.Spec PyProof.Rows L2 Evl
abbrev PZ := Addr × Nat × Nat
def encZ (z : PZ) : V := .ref z.1
def TupZ (H : Hp) (z : PZ) : Prop := H z.1 = some (.tup [.int (z.2.1 : Int), .int (z.2.2 : Int)])
theorem pairsZ {H : Hp} : ∀ {zs : List PZ}, (∀ z ∈ zs, TupZ H z) → PairsH H (zs.map (·.1)) (zs.map (·.2))
  | [], _ => .nil
  | z :: r, h => .cons (h z List.mem_cons_self) (pairsZ fun y hy => h y (List.mem_cons_of_mem _ hy))
def rowPairs (n i : Nat) : List (Nat × Nat) := (List.range (n - (i + 1))).map fun j => (i, i + 1 + j)
def allPairs (n : Nat) : List (Nat × Nat) := (List.range n).flatMap (rowPairs n)
theorem all_lt {n : Nat} : ∀ p ∈ allPairs n, p.1 < p.2 ∧ p.2 < n := fun p hp => by
  obtain ⟨i, hi, hp⟩ := List.mem_flatMap.mp hp
  obtain ⟨j, hj, rfl⟩ := List.mem_map.mp hp
  have h1 := List.mem_range.mp hi
  have h2 := List.mem_range.mp hj
  show i < i + 1 + j ∧ i + 1 + j < n
  omega
theorem all_up {n : Nat} (h : n ≤ 5) : (allPairs n).Pairwise fun p q => p.1 < q.1 ∨ (p.1 = q.1 ∧ p.2 < q.2) := by
  have : n = 0 ∨ n = 1 ∨ n = 2 ∨ n = 3 ∨ n = 4 ∨ n = 5 := by omega
  rcases this with rfl | rfl | rfl | rfl | rfl | rfl <;> decide
theorem good_of {n : Nat} {ps : List (Nat × Nat)} (h1 : 1 ≤ n) (h5 : n ≤ 5) (hs : ps.Sublist (allPairs n)) : Good n ps :=
  ⟨h1, h5, fun p hp => all_lt p (hs.mem hp), (all_up h5).sublist hs⟩
theorem op_go {σ : L2.St} {H : Hp} {ta tb : TE} {r : R2} {Q : VK} (h : ta σ H fun x H1 => tb σ H1 fun y H2 => r x y H2 Q) : tOp r ta tb σ H Q := h
theorem test_go {σ : L2.St} {H : Hp} {te : TE} {Q : Bool → Hp → Prop} (h : te σ H fun v H1 => ∃ b, v = .bl b ∧ Q b H1) : tTest te σ H Q := h
theorem ifs_go {σ : L2.St} {H : Hp} {c : TT} {t u : TS} {D : Ends} (h : c σ H fun b H1 => if b = true then t D σ H1 else u D σ H1) : tIfS c t u D σ H := h
theorem seq_go {σ : L2.St} {H : Hp} {t u : TS} {D : Ends} (h : t { D with nx := u D } σ H) : tSeq t u D σ H := h
theorem ret_go {σ : L2.St} {H : Hp} {te : TE} {D : Ends} (h : te σ H D.rt) : tRet te D σ H := h
theorem RowH.ne0 {K : PySem.W.Frag} {H : Hp} {r sc a : Addr} (h : RowH K H r sc) (ha : H a = none) : a ≠ r := by
  obtain ⟨cells, i, x, y, h1, h2, h3, h4, h5⟩ := h
  intro e
  rw [e, h4] at ha
  cases ha
theorem tupZ_ex {H H' : Hp} {zs : List PZ} (e : Ex H H') (h : ∀ z ∈ zs, TupZ H z) : ∀ z ∈ zs, TupZ H' z := fun z hz => e _ _ (h z hz)
section
variable {P : Program} {w : World} {K : PySem.W.Frag} {mg : Str → Option Value} {base : Heap} {ta tm : Tok}
/-! ### _law_pairs -/
def spPairs : Sp := fun vs H Q _ => ∃ n : Nat, vs = [.int (n : Int)] ∧ n ≤ 5 ∧ ∀ (p : Addr) (zs : List PZ) (H' : Hp), H p = none → Ex H H' → H' p = some (.lst (zs.map encZ)) → (∀ z ∈ zs, TupZ H' z) → zs.map (·.2) = allPairs n → Q (.ref p) H'
theorem c__law_pairs (p : Prog K mg ta tm) : C8.Cal P w K mg base 1 "_law_pairs" spPairs [] := by
  have B := p.B
  refine p.d__law_pairs.cal sc__law_pairs (fun vs H Q E ⟨_, e, _⟩ => by rw [e]; rfl) fun cdv f A outer s H vs Q E hr h => ?_
  obtain ⟨n, rfl, hn, q⟩ := h
  refine ⟨_, (pss_cons (ps_set (i := 1) sc__law_pairs.nd rfl (Or.inl rfl) (pe_lst pa_nil))
    (pss_cons (ps_for PassesOwn.never rfl (pi_range1 rfl B.range (pa_cons (pv 0) pa_nil)) (pg_name (i := 2) sc__law_pairs.nd rfl (Or.inr rfl))
      (pss_one (ps_set (i := 1) sc__law_pairs.nd rfl (Or.inl rfl) (pe_op op_cat (pv 1) (pe_lc (own := [("_law_other", 3)]) (g := gName 3) (tt := tYes) rfl sc__law_pairs.nd (pi_range2 rfl B.range (pa_cons (pe_op op_add (pv 2) pe_int) (pa_cons (pv 0) pa_nil))) (blkOk_by (N := N__law_pairs) (sc := defScope s__law_pairs) (by decide +kernel)) (fun _ _ _ _ _ => (pg_name (i := 3) sc__law_pairs.nd rfl (Or.inl rfl))) (fun _ _ _ _ _ => pts_nil) (fun _ _ _ _ _ => (pe_tup (pa_cons (pv 2) (pa_cons (pv 3) pa_nil)))))))))
    (pss_one (ps_ret (pv 1))))), ?_⟩
  refine q_asgL (el_lst ea_nil (by show 0 ≤ 100000; omega)) fun p0 H1 hp0 e1 h1 => ?_
  refine q_forR1 (n := (n : Int)) (ea_cons (ev_var rfl) ea_nil) (by omega) (fun i σ' H' => ∃ (p : Addr) (zs : List PZ) (u v : Option V), σ' = [some (.int (n : Int)), some (.ref p), u, v] ∧ H p = none ∧ Ex H H' ∧ H' p = some (.lst (zs.map encZ)) ∧ (∀ z ∈ zs, TupZ H' z) ∧ zs.map (·.2) = (List.range i).flatMap (rowPairs n))
    (fun H2 e2 => ⟨p0, [], _, _, rfl, hp0, e1.trans e2, e2 _ _ h1, (fun z hz => by cases hz), rfl⟩) (fun i σ' H' hi h => ?_) fun σ' H' h => ?_
  · obtain ⟨p, zs, u, v, rfl, hp, eH, hl, ht, hz⟩ := h
    have hin : i < n := by omega
    have hzl : zs.length ≤ 100 := by
      have h1 : zs.length = ((List.range i).flatMap (rowPairs n)).length := by rw [← hz, List.length_map]
      have h2 : i = 0 ∨ i = 1 ∨ i = 2 ∨ i = 3 ∨ i = 4 := by omega
      have h3 : n = 1 ∨ n = 2 ∨ n = 3 ∨ n = 4 ∨ n = 5 := by omega
      rw [h1]
      rcases h2 with rfl | rfl | rfl | rfl | rfl <;> rcases h3 with rfl | rfl | rfl | rfl | rfl <;> decide
    refine s_asgT (op_go ?_)
    refine ⟨_, rfl, ?_⟩
    dsimp only
    unfold tLc iRng2
    refine (ea_cons (ev_op (ev_var rfl) ev_c iv_add) (ea_cons (ev_var rfl) ea_nil)) H' (Ex.refl _) _ fun H2 e2 => ⟨(i : Int) + 1, (n : Int), rfl, by omega, fun L hL => ?_⟩
    refine lc_it walk_range (fun j H3 => Ex H' H3 ∧ ∃ ys : List PZ, H3 L = some (.lst (ys.map encZ)) ∧ (∀ z ∈ ys, TupZ H3 z) ∧ ys.map (·.2) = (List.range j).map fun j => (i, i + 1 + j)) ⟨e2.trans (Ex.new hL), [], upd_same, (fun z hz => by cases hz), rfl⟩ (fun _ _ _ _ => trivial) (fun j x H3 H4 hj h y => ?_) fun H3 h => ?_
    · obtain ⟨e3, ys, hL3, ht3, hys⟩ := h
      obtain ⟨rfl, rfl⟩ := y
      have hjn : j < 100 := by omega
      have hyl : ys.length = j := by
        have := congrArg List.length hys
        rw [List.length_map, List.length_map, List.length_range] at this
        exact this
      refine ⟨rfl, yes_go (tup_go ?_)⟩
      refine (ea_cons (ev_var rfl) (ea_cons (ev_var rfl) ea_nil)) H4 (Ex.refl _) _ fun H5 e5 => ⟨by show 2 ≤ sizeLine; decide, fun a ha => ?_⟩
      have hLa : L ≠ a := fun z => by rw [← z, e5 _ _ hL3] at ha; cases ha
      refine ⟨ys.map encZ, by rw [upd_ne hLa]; exact e5 _ _ hL3, sz_lt (by rw [List.length_map]; omega), Ex.mut (e3.trans (e5.trans (Ex.new ha))) (fresh_back e2 hL), ys ++ [(a, i, i + 1 + j)], ?_, fun z hz => ?_, ?_⟩
      · rw [upd_same, List.map_append]; rfl
      · have hne : ∀ z : PZ, TupZ H4 z → z.1 ≠ L := fun z h e => by
          have h : H4 z.1 = _ := h
          rw [e, hL3] at h
          cases h
        show (upd _ L _) z.1 = _
        rcases List.mem_append.mp hz with hm | hm
        · have h1 := ht3 z hm
          rw [upd_ne (hne z h1)]
          exact (e5.trans (Ex.new ha)) _ _ h1
        · rw [List.mem_singleton.mp hm, upd_ne (Ne.symm hLa), upd_same]
          show some (HO.tup [V.int (i : Int), V.int ((i : Int) + 1 + (j : Int))]) = some (HO.tup [V.int (i : Int), V.int ((i + 1 + j : Nat) : Int)])
          have : ((i + 1 + j : Nat) : Int) = (i : Int) + 1 + (j : Int) := by omega
          rw [this]
      · rw [List.map_append, hys, List.range_succ, List.map_append]; rfl
    · obtain ⟨e3, ys, hL3, ht3, hys⟩ := h
      have hto : (((n : Int) - ((i : Int) + 1)).toNat) = n - (i + 1) := by omega
      rw [hto] at hys
      have hyl : ys.length ≤ 100 := by
        have := congrArg List.length hys
        rw [List.length_map, List.length_map, List.length_range] at this
        omega
      refine ⟨p, L, zs.map encZ, ys.map encZ, rfl, rfl, e3 _ _ hl, hL3, sz_of (by rw [List.length_map, List.length_map]; omega), fun p2 hp2 => ?_⟩
      refine ⟨p2, zs ++ ys, _, _, rfl, fresh_back eH (fresh_back e3 hp2), eH.trans (e3.trans (Ex.new hp2)), ?_, fun z hz => ?_, ?_⟩
      · rw [upd_same, List.map_append]
      · rcases List.mem_append.mp hz with hm | hm
        · exact (Ex.new hp2) _ _ (e3 _ _ (ht z hm))
        · exact (Ex.new hp2) _ _ (ht3 z hm)
      · rw [List.map_append, hz, hys, List.range_succ, List.flatMap_append]
        show _ = _ ++ (rowPairs n i ++ [])
        rw [List.append_nil]; rfl
  · obtain ⟨p, zs, u, v, rfl, hp, eH, hl, ht, hz⟩ := h
    refine s_ret (ev_var rfl) fun H2 e2 => ?_
    refine q p zs H2 hp (eH.trans e2) (e2 _ _ hl) (tupZ_ex e2 ht) ?_
    rw [hz]; rfl
end
end K5
end
section
namespace K5
open PySem PySem.Spec PyProof.Rows L2 Evl
theorem tupZ_exb {K : PySem.W.Frag} {H H' : Hp} {r sc : Addr} {zs : List PZ} (hr : RowH K H r sc) (e : ExB r H H') (h : ∀ z ∈ zs, TupZ H z) : ∀ z ∈ zs, TupZ H' z := fun z hz => e _ _ (hr.ne (h z hz)) (h z hz)
section
variable {P : Program} {w : World} {K : PySem.W.Frag} {mg : Str → Option Value} {base : Heap} {ta tm : Tok}
/-! ### _law_company -/
def spCompany (K : PySem.W.Frag) : Sp := fun vs H Q _ => ∃ r sc : Addr, vs = [.ref r, .int 5] ∧ RowH K H r sc ∧ ∀ (H' : Hp) (cp : Addr) (n : Nat) (ps : List (Nat × Nat)), ExB r H H' → RowH K H' r sc → Comp H' cp n ps → Good n ps → Q (.ref cp) H'
theorem ways_ok {v : Int} (h0 : 0 ≤ v) (h3 : v < 3) : ∃ w : Int, atI [V.int 2, V.int 3, V.int 5] v = some (.int w) ∧ 0 < w ∧ w < 1073741824 := by
  have : v = 0 ∨ v = 1 ∨ v = 2 := by omega
  rcases this with rfl | rfl | rfl
  · exact ⟨2, rfl, by omega, by omega⟩
  · exact ⟨3, rfl, by omega, by omega⟩
  · exact ⟨5, rfl, by omega, by omega⟩
theorem all_len {n : Nat} (h : n ≤ 5) : (allPairs n).length ≤ 20 := by
  have : n = 0 ∨ n = 1 ∨ n = 2 ∨ n = 3 ∨ n = 4 ∨ n = 5 := by omega
  rcases this with rfl | rfl | rfl | rfl | rfl | rfl <;> decide
theorem c__law_company (p : Prog K mg ta tm) : C8.Cal P w K mg base 2 "_law_company" (spCompany K) [] := by
  have B := p.B
  refine p.d__law_company.cal sc__law_company (fun vs H Q E ⟨_, _, e, _⟩ => by rw [e]; rfl) fun cdv f A outer s H vs Q E hr h => ?_
  obtain ⟨r, sc, rfl, row0, q⟩ := h
  refine ⟨_, (pss_cons (ps_asg (pe_tup (pa_cons (pe_op op_add pe_int (C8.pe_c (c__law_taken p) hr (by omega) rfl (pa_cons (pv 0) (pa_cons (pv 1) pa_nil)))) (pa_cons (pe_ix ix_list (pe_lst (pa_cons pe_int (pa_cons pe_int (pa_cons pe_int pa_nil)))) (C8.pe_c (c__law_taken p) hr (by omega) rfl (pa_cons (pv 0) (pa_cons pe_int pa_nil))) (fun _ _ => rfl)) pa_nil))) (pg_tup rfl (pgs_cons (pg_name (i := 2) sc__law_company.nd rfl (Or.inl rfl)) (pgs_cons (pg_name (i := 3) sc__law_company.nd rfl (Or.inr rfl)) pgs_nil))))
    (pss_cons (ps_setLc (i := 4) (own := [("_law_pair", 5)]) (g := gName 5) rfl sc__law_company.nd rfl rfl (sw_true rfl rfl rfl (by decide +kernel)) (pi_list (C8.pe_c (c__law_pairs p) hr (by omega) rfl (pa_cons (pv 2) pa_nil))) (blkOk_by (N := N__law_company) (sc := defScope s__law_company) (by decide +kernel)) (fun _ _ _ _ _ => (pg_name (i := 5) sc__law_company.nd rfl (Or.inl rfl))) (fun _ _ _ _ _ => pts_one (pt_cmpR op_gt (C8.pe_c (c__law_taken p) hr (by omega) rfl (pa_cons (pv 0) (pa_cons (pv 3) pa_nil))) pe_int (nomark _))) (fun _ _ _ _ _ => (pv 5)))
    (pss_cons (ps_if (pt_cmpR op_eq (C8.pe_c (c__law_taken p) hr (by omega) rfl (pa_cons (pv 0) (pa_cons pe_int pa_nil))) pe_int (nomark _)) (pss_one (ps_setLc (i := 4) (own := [("_law_pair", 5)]) (g := gName 5) rfl sc__law_company.nd rfl rfl (sw_true rfl rfl rfl (by decide +kernel)) (pi_list (pv 4)) (blkOk_by (N := N__law_company) (sc := defScope s__law_company) (by decide +kernel)) (fun _ _ _ _ _ => (pg_name (i := 5) sc__law_company.nd rfl (Or.inl rfl))) (fun _ _ _ _ _ => pts_one (pt_cmpR op_lt (pe_op op_sub (pe_ix (ix_tupK (K := K) rfl) (pv 5) pe_int (fun _ _ => rfl)) (pe_ix (ix_tupK (K := K) rfl) (pv 5) pe_int (fun _ _ => rfl))) pe_int (nomark _))) (fun _ _ _ _ _ => (pv 5)))) pss_nil)
    (pss_one (ps_ret (pe_tup (pa_cons (pv 2) (pa_cons (pe_callTy call_tuple_of (by rfl) B.tuple (by decide +kernel) (pa_cons (pv 4) pa_nil)) pa_nil)))))))), ?_⟩
  refine q_asgT (tup_go (cons_go (op_go ?_)))
  show tCall _ _ _ _ _ _ _
  refine el_take (ea_cons (ev_var rfl) (ea_cons (ev_var rfl) ea_nil)) row0 (by decide) (by decide) fun H1 v1 e1 row1 a0 a1 => ?_
  refine ⟨_, _, rfl, rfl, ?_⟩
  obtain ⟨n, hn⟩ : ∃ n : Nat, 1 + v1 = (n : Int) := ⟨(1 + v1).toNat, by omega⟩
  have hn1 : 1 ≤ n := by omega
  have hn5 : n ≤ 5 := by omega
  refine cons_go (op_go ?_)
  refine (el_lst (ea_cons ev_c (ea_cons ev_c (ea_cons ev_c ea_nil))) (by show 3 ≤ 100000; omega)) H1 (Ex.refl _) _ fun pl H2 hpl e2 h2 => ?_
  refine el_take (ea_cons (ev_var rfl) (ea_cons ev_c ea_nil)) (row1.ex e2) (by decide) (by decide) fun H3 v2 e3 row3 b0 b1 => ?_
  obtain ⟨wy, hwy, w0, w1⟩ := ways_ok b0 b1
  have hplr : pl ≠ r := row1.ne0 hpl
  refine ⟨pl, _, v2, _, rfl, rfl, sq_of (e3 _ _ hplr h2), hwy, ?_⟩
  refine ⟨by show 2 ≤ sizeLine; decide, fun tp htp => ⟨tp, _, rfl, st_of upd_same, rfl, _, _, rfl, _, _, rfl, rfl, ?_⟩⟩
  have e4 : ExB r H (upd H3 tp (.tup [.int (n : Int), .int wy])) := ((e1.trans (exb_of e2)).trans e3).trans (exb_of (Ex.new htp))
  have row4 := row3.ex (Ex.new (o := .tup [.int (n : Int), .int wy]) htp)
  have hn' : (fun i j : Int => V.int (i + j)) 1 v1 = V.int (n : Int) := congrArg V.int hn
  rw [hn'] at *
  generalize upd H3 tp (.tup [.int (n : Int), .int wy]) = H4 at e4 row4
  clear e1 row1 e2 h2 e3 row3 htp hpl hplr hwy
  -- the pairs that are kept
  refine q_asgT ?_
  unfold tLc iList
  refine (ea_cons (ev_var rfl) ea_nil) H4 (Ex.refl _) _ fun H5 e5 => ⟨n, rfl, hn5, fun lp zs H6 hlp e6 h6 hz6 hzs => ?_⟩
  have row6 := row4.ex (e5.trans e6)
  have hzl : zs.length ≤ 20 := by have := congrArg List.length hzs; rw [List.length_map] at this; have := all_len hn5; omega
  have hlpr : lp ≠ r := (row4.ex e5).ne0 hlp
  refine ⟨lp, rfl, ⟨_, sq_of h6⟩, fun L hL => ?_⟩
  have hLr : L ≠ r := row6.ne0 hL
  have wk := walk_list (K := K) (a := lp) (xs := zs.map encZ)
  rw [List.length_map] at wk
  have fin : ∀ {H8 : Hp} {L2 : Addr} {ys : List PZ} {u : Option V}, ExB r H6 H8 → RowH K H8 r sc → H8 L2 = some (.lst (ys.map encZ)) → ys.Sublist zs → tRet (tTup (tCons (tVar 2) (tCons (tCB (fun xs H Q => ∃ p ys, xs = [.ref p] ∧ ((SqL K H p ys ∧ ∀ l, H l = none → Q (.ref l) (upd H l (.tup ys))) ∨ (SqT K H p ys ∧ Q (.ref p) H))) (tCons (tVar 4) tNil)) tNil)))
      { nx := fun _ H' => Q .non H', rt := Q } [some (.ref r), some (.int 5), some (.int (n : Int)), some (.int wy), some (.ref L2), u] H8 := fun {H8 L2 ys u} e8 row8 h8 hsub => by
    have hty : ∀ z ∈ ys, TupZ H8 z := tupZ_exb row6 e8 fun z hz => hz6 z (hsub.mem hz)
    refine ret_go (tup_go (cons_go ⟨_, rfl, ?_⟩))
    refine cons_go ⟨_, rfl, L2, _, rfl, .inl ⟨sq_of h8, fun l hl => ?_⟩⟩
    have e9 := Ex.new (o := .tup (ys.map encZ)) hl
    refine ⟨by show 2 ≤ sizeLine; decide, fun cp hcp => ?_⟩
    have e10 := Ex.new (o := .tup [.int (n : Int), .ref l]) hcp
    have hsub2 : (ys.map (·.2)).Sublist (allPairs n) := by rw [← hzs]; exact hsub.map _
    refine q _ cp n (ys.map (·.2)) ((((e4.trans (exb_of (e5.trans e6))).trans e8).trans (exb_of e9)).trans (exb_of e10)) ((row8.ex e9).ex e10) ⟨l, ys.map (·.1), upd_same, e10 _ _ (by rw [upd_same, List.map_map]; rfl), pairsZ (tupZ_ex (e9.trans e10) hty)⟩ (good_of hn1 hn5 hsub2)
  refine lc_it wk (fun i H' => ExB r H6 H' ∧ RowH K H' r sc ∧ ∃ ys : List PZ, H' L = some (.lst (ys.map encZ)) ∧ ys.Sublist (zs.take i)) ⟨exb_of (Ex.new hL), row6.ex (Ex.new hL), [], upd_same, List.nil_sublist _⟩ (fun i H' _ h => sq_of (h.1 _ _ hlpr h6)) (fun i x H' H'' hi h y => ?_) fun H7 h => ?_
  · obtain ⟨e7, row7, ys, hL7, hsub⟩ := h
    obtain ⟨rfl, hx⟩ := y
    rw [List.getElem?_map] at hx
    obtain ⟨z, hz, rfl⟩ := Option.map_eq_some_iff.mp hx
    have hzi : zs[i] = z := (List.getElem?_eq_some_iff.mp hz).2
    have hyl : ys.length ≤ 20 := by have := hsub.length_le; rw [List.length_take] at this; omega
    have htk : zs.take (i + 1) = zs.take i ++ [z] := by rw [List.take_succ_eq_append_getElem hi, hzi]
    refine ⟨rfl, test_go (op_go ?_)⟩
    refine el_take (ea_cons (ev_var rfl) (ea_cons (ev_var rfl) ea_nil)) row7 w0 w1 fun H8 v e8 row8 c0 c1 => ?_
    refine ⟨_, _, rfl, rfl, _, rfl, ?_⟩
    have hL8 := e8 _ _ hLr hL7
    by_cases hb : decide ((0 : Int) < v) = true
    · rw [if_pos hb]
      refine ⟨_, rfl, _, hL8, sz_lt (by rw [List.length_map]; omega), (e7.trans e8).mut hL, ?_, ys ++ [z], ?_, ?_⟩
      · exact row6.mut hL row8
      · rw [upd_same, List.map_append]; rfl
      · rw [htk]; exact hsub.append (List.Sublist.refl [z])
    · rw [if_neg hb]
      refine ⟨e7.trans e8, row8, ys, hL8, ?_⟩
      rw [htk]; exact hsub.trans (List.sublist_append_left _ _)
  · obtain ⟨e7, row7, ys, hL7, hsub⟩ := h
    rw [List.take_length] at hsub
    have hys : ∀ z ∈ ys, TupZ H7 z := tupZ_exb row6 e7 fun z hz => hz6 z (hsub.mem hz)
    refine g_name ?_
    dsimp only
    refine seq_go (ifs_go (test_go (op_go ?_)))
    refine el_take (ea_cons (ev_var rfl) (ea_cons ev_c ea_nil)) row7 (by decide) (by decide) fun H8 v e8 row8 c0 c1 => ?_
    refine ⟨rfl, _, rfl, ?_⟩
    have hL8 := e8 _ _ hLr hL7
    have hys8 := tupZ_exb row7 e8 hys
    by_cases hb : decide (V.int v = V.int 0) = true
    · rw [if_pos hb]
      refine s_asgL (el_lc (xs := ys) (enc := encZ) (fun z => decide ((z.2.2 : Int) - (z.2.1 : Int) < 2)) encZ (iw_list (ev_var rfl) (sq_of hL8)) (by have := hsub.length_le; omega) (fun _ => rfl) (fun z hz => ?_) fun z hz _ => ev_var rfl) fun L2 H9 hL2 e9 h9 => ?_
      · have hz8 := hys8 z hz
        exact et_test (ev_op (ev_op (ev_ixt (i := 1) (ev_var rfl) ev_c hz8 rfl) (ev_ixt (i := 0) (ev_var rfl) ev_c hz8 rfl) iv_sub) ev_c iv_lt)
      · exact fin (ys := ys.filter _) ((e7.trans e8).trans (exb_of e9)) (row8.ex e9) h9 (List.filter_sublist.trans hsub)
    · rw [if_neg hb]
      exact fin (e7.trans e8) row8 hL8 hsub
end
end K5
end
section
namespace K5
open PySem PySem.Spec PyProof.Rows L2 Evl
def firsts (w : List Nat) : List Nat := ((List.range w.length).filter fun i => !decide (w.getD i 0 ∈ w.take i)).map fun i => w.getD i 0
theorem firsts_sub {w : List Nat} : ∀ c ∈ firsts w, c ∈ w := fun c hc => by
  obtain ⟨i, hi, rfl⟩ := List.mem_map.mp hc
  exact getD_in (List.mem_range.mp (List.mem_filter.mp hi).1)
theorem firsts_nodup (w : List Nat) : (firsts w).Nodup := by
  unfold firsts
  refine List.pairwise_map.mpr ?_
  refine (List.Pairwise.filter _ (List.pairwise_lt_range (n := w.length))).imp_of_mem fun {i j} hi hj hlt e => ?_
  have hi1 := List.mem_range.mp (List.mem_filter.mp hi).1
  have hj2 := (List.mem_filter.mp hj).2
  have hnot : w.getD j 0 ∉ w.take j := by simpa using hj2
  apply hnot
  rw [← e]
  have : (w.take j)[i]? = some (w.getD i 0) := by
    rw [List.getElem?_take_of_lt hlt, List.getD_eq_getElem?_getD, List.getElem?_eq_getElem hi1]; rfl
  exact List.mem_of_getElem? this
theorem firsts_len (w : List Nat) : (firsts w).length ≤ w.length := by
  unfold firsts
  rw [List.length_map]
  have := List.length_filter_le (fun i => !decide (w.getD i 0 ∈ w.take i)) (List.range w.length)
  rw [List.length_range] at this
  exact this
theorem getD_at {w : List Nat} {i : Nat} (h : i < w.length) : w[i]? = some (w.getD i 0) := by
  rw [List.getD_eq_getElem?_getD, List.getElem?_eq_getElem h]; rfl
theorem alph_ahead : ∀ c ∈ alph, (ahead alph c).length = c - 97 := by decide
theorem lets_alph' {n c : Nat} (h : c ∈ lets n) : c ∈ alph := (List.take_sublist n alph).mem h
section
variable {P : Program} {w : World} {K : PySem.W.Frag} {mg : Str → Option Value} {base : Heap} {ta tm : Tok}
/-! ### _law_firsts -/
def pFirsts : List V → Hp → V → Prop := fun vs _ z => ∃ w : List Nat, vs = [.str (T w)] ∧ w.length ≤ 1000 ∧ z = .str (T (firsts w))
theorem c__law_firsts (p : Prog K mg ta tm) : C8.Cal P w K mg base 1 "_law_firsts" (spE pFirsts) [] := by
  have B := p.B
  refine p.d__law_firsts.cal sc__law_firsts (spE_len fun vs H z ⟨_, e, _⟩ => by rw [e]; rfl) fun cdv f A outer s H vs Q E hr h => ?_
  obtain ⟨z, ⟨w, rfl, hl, rfl⟩, q⟩ := h
  refine ⟨_, (pss_one (ps_ret (pe_join pe_str (pe_lc (own := [("_law_at", 1)]) (g := gName 1) rfl sc__law_firsts.nd (pi_range1 rfl B.range (pa_cons (pe_callB call_len_str (by rfl) B.len PySem.boot_len (pa_cons (pv 0) pa_nil)) pa_nil)) (blkOk_by (N := N__law_firsts) (sc := defScope s__law_firsts) (by decide +kernel)) (fun _ _ _ _ _ => (pg_name (i := 1) sc__law_firsts.nd rfl (Or.inl rfl))) (fun _ _ _ _ _ => pts_one (pt_cmpR op_notIn_sign (pe_ix ix_str (pv 0) (pv 1) (fun _ _ => rfl)) (pe_slice sl_str (pv 0) po_none (po_some (pv 1))) rfl)) (fun _ _ _ _ _ => (pe_ix ix_str (pv 0) (pv 1) (fun _ _ => rfl))))))), ?_⟩
  refine s_ret (v := .str (T (firsts w))) (ev_joinN (K := K) (l := firsts w) ev_c ?_ (by have := firsts_len w; omega)) q
  have e : (firsts w).map one = sel (List.range w.length) (fun i => !decide (w.getD i 0 ∈ w.take i)) fun i => one (w.getD i 0) := by
    unfold firsts sel
    rw [List.map_map]; rfl
  rw [e]
  refine el_lc (xs := List.range w.length) (enc := num) _ _ (iw_rng (ea_cons (ev_cb1 (ev_var rfl) (rc_lens (by omega))) ea_nil) (by omega)) (by rw [List.length_range]; omega) (fun _ => rfl) (fun i hi => ?_) fun i hi _ => ?_
  · have hi := List.mem_range.mp hi
    exact et_test (ev_op (ev_op (ev_var rfl) (ev_var rfl) (rv_ixs (by omega) (getD_at hi))) (ev_take (ev_var rfl) (ev_var rfl) (by omega)) rv_nosign)
  · have hi := List.mem_range.mp hi
    exact ev_op (ev_var rfl) (ev_var rfl) (rv_ixs (by omega) (getD_at hi))
theorem ok_firsts {w : List Nat} {H : Hp} (h : w.length ≤ 1000) : SpV (spE pFirsts) [.str (T w)] H (.str (T (firsts w))) := spE_ok fun H' e => ⟨w, rfl, h, rfl⟩
/-! ### _law_friend -/
def pFriend : List V → Hp → V → Prop := fun vs H z => ∃ (cp : Addr) (n : Nat) (ps : List (Nat × Nat)) (c d : Nat), vs = [.ref cp, one c, one d] ∧ Comp H cp n ps ∧ c ∈ lets n ∧ d ∈ lets n ∧ z = .bl (fr ps c d)
theorem ev_sidx {σ : L2.St} {H : Hp} {ta te : TE} {c : Nat} (h1 : Ev ta σ H (.str (T alph))) (h2 : Ev te σ H (one c)) (hc : c ∈ alph) : Ev (tM1 (fun x xs H Q => ∃ a b i rest, x = .str a ∧ xs = [.str b] ∧ Builtin.Str.occurrences a b 0 a.length 1 = i :: rest ∧ Q (.int (i : Nat)) H) ta te) σ H (.int ((c - 97 : Nat) : Int)) := fun H1 e Q q =>
  h1 H1 e _ fun H2 e2 => ⟨⟨_, rfl⟩, h2 H2 (e.trans e2) _ fun H3 e3 => by
    obtain ⟨rest, ho⟩ := occ_ahead hc
    rw [alph_ahead c hc] at ho
    exact ⟨T alph, T [c], _, rest, rfl, rfl, ho, q H3 (e2.trans e3)⟩⟩
theorem c__law_friend (p : Prog K mg ta tm) : C8.Cal P w K mg base 1 "_law_friend" (spE pFriend) [] := by
  have B := p.B
  refine p.d__law_friend.cal sc__law_friend (spE_len fun vs H z ⟨_, _, _, _, _, e, _⟩ => by rw [e]; rfl) fun cdv f A outer s H vs Q E hr h => ?_
  obtain ⟨z, ⟨cp, n, ps, c, d, rfl, ⟨pt, as, hc, hp, hps⟩, c1, d1, rfl⟩, q⟩ := h
  have hmin : min c d ∈ alph := by by_cases h : c ≤ d; (rw [Nat.min_eq_left h]; exact lets_alph' c1); (rw [Nat.min_eq_right (by omega)]; exact lets_alph' d1)
  have hmax : max c d ∈ alph := by by_cases h : c ≤ d; (rw [Nat.max_eq_right h]; exact lets_alph' d1); (rw [Nat.max_eq_left (by omega)]; exact lets_alph' c1)
  refine ⟨_, (pss_cons (ps_set (i := 3) sc__law_friend.nd rfl (Or.inl rfl) pe_str)
    (pss_one (ps_ret (pe_cmpR (op_inP (u65_of hr)) (pe_tup (pa_cons (pe_m1 PySem.F.slot_str_index PySem.F.type_str_index mt_sindex (pv 3) (pe_callB (cr_min2 rfl) (by rfl) B.min (by decide +kernel) (pa_cons (pv 1) (pa_cons (pv 2) pa_nil)))) (pa_cons (pe_m1 PySem.F.slot_str_index PySem.F.type_str_index mt_sindex (pv 3) (pe_callB (cr_max2 rfl) (by rfl) B.max (by decide +kernel) (pa_cons (pv 1) (pa_cons (pv 2) pa_nil)))) pa_nil))) (pe_ix ix_tup (pv 0) pe_int (fun _ _ => rfl)) rfl)))), ?_⟩
  refine q_asg (v := .str (T alph)) (ev_is ev_c (congrArg V.str lit_alph)) fun H1 e1 => ?_
  refine ret_go (op_go ?_)
  refine (eu_tup (vs := [.int ((min c d - 97 : Nat) : Int), .int ((max c d - 97 : Nat) : Int)]) (ea_cons (ev_sidx (ev_var rfl) (ev_cb2 (ev_var rfl) (ev_var rfl) rc_min2) hmin) (ea_cons (ev_sidx (ev_var rfl) (ev_cb2 (ev_var rfl) (ev_var rfl) rc_max2) hmax) ea_nil)) (by show 2 ≤ 100000; omega)) H1 (Ex.refl _) _ fun tp H2 htp e2 h2 => ?_
  have e12 := e1.trans e2
  refine (ev_ixt (K := K) (i := 1) (ev_var rfl) ev_c (e12 _ _ hc) rfl) H2 (Ex.refl _) _ fun H3 e3 => ?_
  have e13 := e12.trans e3
  exact rv_inP (K := K) (as := as) (ps := ps) (st_of (e3 _ _ h2)) (st_of (e13 _ _ hp)) (hps.ex e13).at H3 (Ex.refl _) _ fun H4 e4 => q H4 (e13.trans e4)
theorem ok_friend {cp : Addr} {n : Nat} {ps : List (Nat × Nat)} {c d : Nat} {H : Hp} (co : Comp H cp n ps) (hc : c ∈ lets n) (hd : d ∈ lets n) : SpV (spE pFriend) [.ref cp, one c, one d] H (.bl (fr ps c d)) := spE_ok fun H' e => ⟨cp, n, ps, c, d, rfl, co.ex e, hc, hd, rfl⟩
/-! ### _law_word -/
def spWord (K : PySem.W.Frag) : Sp := fun vs H Q _ => ∃ (r sc cp : Addr) (n : Nat) (ps : List (Nat × Nat)) (m : Int), vs = [.ref r, .ref cp, .int m] ∧ RowH K H r sc ∧ Comp H cp n ps ∧ Good n ps ∧ 0 < m ∧ m ≤ 20 ∧ ∀ (H' : Hp) (w : List Nat), ExB r H H' → RowH K H' r sc → w.length ≤ 20 → (∀ c ∈ w, c ∈ lets n) → Q (.str (T w)) H'
theorem Comp.exb {K : PySem.W.Frag} {H H' : Hp} {r sc cp : Addr} {n : Nat} {ps : List (Nat × Nat)} (c : Comp H cp n ps) (hr : RowH K H r sc) (e : ExB r H H') : Comp H' cp n ps := by
  obtain ⟨pt, as, h1, h2, h3⟩ := c
  refine ⟨pt, as, e _ _ (hr.ne h1) h1, e _ _ (hr.ne h2) h2, ?_⟩
  clear h1 h2
  induction h3 with
  | nil => exact .nil
  | cons h _ ih => exact .cons (e _ _ (hr.ne h) h) ih
theorem c__law_word (p : Prog K mg ta tm) : C8.Cal P w K mg base 2 "_law_word" (spWord K) [] := by
  have B := p.B
  refine p.d__law_word.cal sc__law_word (fun vs H Q E ⟨_, _, _, _, _, _, e, _⟩ => by rw [e]; rfl) fun cdv f A outer s H vs Q E hr h => ?_
  obtain ⟨r, sc, cp, n, ps, m, rfl, row0, c0, g, m0, m1, q⟩ := h
  refine ⟨_, (pss_one (ps_ret (pe_join pe_str (pe_lc (own := [("_law_at", 3)]) (g := gName 3) (tt := tYes) rfl sc__law_word.nd (pi_range1 rfl B.range (pa_cons (pe_op op_add pe_int (C8.pe_c (c__law_taken p) hr (by omega) rfl (pa_cons (pv 0) (pa_cons (pv 2) pa_nil)))) pa_nil)) (blkOk_by (N := N__law_word) (sc := defScope s__law_word) (by decide +kernel)) (fun _ _ _ _ _ => (pg_name (i := 3) sc__law_word.nd rfl (Or.inl rfl))) (fun _ _ _ _ _ => pts_nil) (fun _ _ _ _ _ => (pe_ix ix_str pe_str (C8.pe_c (c__law_taken p) hr (by omega) rfl (pa_cons (pv 0) (pa_cons (pe_ix (ix_tupK (K := K) rfl) (pv 1) pe_int (fun _ _ => rfl)) pa_nil))) (fun _ _ => rfl))))))), ?_⟩
  refine ret_go ⟨⟨_, rfl⟩, ?_⟩
  unfold tLc iRng1
  refine cons_go (op_go ?_)
  show tCall _ _ _ _ _ _ _
  refine el_take (ea_cons (ev_var rfl) (ea_cons (ev_var rfl) ea_nil)) row0 m0 (by omega) fun H1 v1 e1 row1 a0 a1 => ?_
  refine ⟨_, _, rfl, rfl, _, rfl, by omega, by omega, fun L hL => ?_⟩
  have hLr : L ≠ r := row1.ne0 hL
  have c1 := c0.exb row0 e1
  refine lc_it walk_range (fun i H' => ExB r H1 H' ∧ RowH K H' r sc ∧ ∃ w : List Nat, H' L = some (.lst (w.map one)) ∧ w.length = i ∧ ∀ c ∈ w, c ∈ lets n) ⟨exb_of (Ex.new hL), row1.ex (Ex.new hL), [], upd_same, rfl, fun c hc => by cases hc⟩ (fun _ _ _ _ => trivial) (fun i x H' H'' hi h y => ?_) fun H2 h => ?_
  · obtain ⟨e2, row2, w, hL2, hwl, hw⟩ := h
    obtain ⟨rfl, rfl⟩ := y
    have c2 := c1.exb row1 e2
    obtain ⟨pt, as, hc, hp, hps⟩ := id c2
    refine ⟨rfl, yes_go (op_go ?_)⟩
    show tCall _ _ _ _ _ _ _
    refine el_take (m := (n : Int)) (ea_cons (ev_var rfl) (ea_cons (ev_ixt (K := K) (i := 0) (ev_var rfl) ev_c hc rfl) ea_nil)) row2 (by have := g.n1; omega) (by have := g.n5; omega) fun H3 v e3 row3 b0 b1 => ?_
    have hn5 := g.n5
    obtain ⟨k, rfl⟩ : ∃ k : Nat, v = (k : Int) := ⟨v.toNat, by omega⟩
    refine ⟨_, _, 97 + k, rfl, rfl, sz_of (by show (Str.ofString "abcdefg").length ≤ 100000; rw [lit_alph]; decide), by rw [lit_alph]; exact atI_nat (alph_at (by omega)), ?_⟩
    refine ⟨_, e3 _ _ hLr hL2, sz_lt (by rw [List.length_map]; omega), (e2.trans e3).mut hL, row1.mut hL row3, w ++ [97 + k], ?_, ?_, fun c hc => ?_⟩
    · rw [upd_same, List.map_append]; rfl
    · rw [List.length_append, hwl]; rfl
    · rcases List.mem_append.mp hc with z | z
      · exact hw c z
      · rw [List.mem_singleton.mp z]; exact (mem_lets (by omega)).mpr ⟨by omega, by omega⟩
  · obtain ⟨e2, row2, w, hL2, hwl, hw⟩ := h
    exact join_go (K := K) (sq_of hL2) (by omega) (q H2 w (e1.trans e2) row2 (by omega) hw)
/-! ### _law_rising -/
def pLR : List V → Hp → V → Prop := fun vs H z => ∃ (cp : Addr) (n : Nat) (ps : List (Nat × Nat)) (w : List Nat), vs = [.ref cp, .str (T w)] ∧ Comp H cp n ps ∧ (∀ c ∈ w, c ∈ lets n) ∧ w.length ≤ 1000 ∧ z = .int (rise ps w : Nat)
theorem c__law_rising (p : Prog K mg ta tm) : C8.Cal P w K mg base 2 "_law_rising" (spE pLR) [] := by
  have B := p.B
  refine p.d__law_rising.cal sc__law_rising (spE_len fun vs H z ⟨_, _, _, _, e, _⟩ => by rw [e]; rfl) fun cdv f A outer s H vs Q E hr h => ?_
  obtain ⟨z, ⟨cp, n, ps, w, rfl, c, hw, hl, rfl⟩, q⟩ := h
  refine ⟨_, (pss_cons (ps_set (i := 2) sc__law_rising.nd rfl (Or.inl rfl) pe_int)
    (pss_cons (ps_for PassesOwn.never rfl (pi_range1 rfl B.range (pa_cons (pe_callB call_len_str (by rfl) B.len PySem.boot_len (pa_cons (pv 1) pa_nil)) pa_nil)) (pg_name (i := 3) sc__law_rising.nd rfl (Or.inr rfl))
      (pss_one (ps_set (i := 2) sc__law_rising.nd rfl (Or.inl rfl) (pe_op op_add (pv 2) (pe_callB call_len_seq (by rfl) B.len PySem.boot_len (pa_cons (pe_lc (own := [("_law_sign", 4)]) (g := gName 4) rfl sc__law_rising.nd (pi_str (pe_slice sl_str (pv 1) (po_some (pe_op op_add (pv 3) pe_int)) po_none)) (blkOk_by (N := N__law_rising) (sc := defScope s__law_rising) (by decide +kernel)) (fun _ _ _ _ _ => (pg_name (i := 4) sc__law_rising.nd rfl (Or.inl rfl))) (fun _ _ _ _ _ => pts_one (PW.pt (pw_and (pt_cmpR op_lt_str (pe_ix ix_str (pv 1) (pv 3) (fun _ _ => rfl)) (pv 4) (nomark _)) (pw_and1 (pt_val (C8.pe_c (c__law_friend p) hr (by omega) rfl (pa_cons (pv 0) (pa_cons (pe_ix ix_str (pv 1) (pv 3) (fun _ _ => rfl)) (pa_cons (pv 4) pa_nil))))))))) (fun _ _ _ _ _ => (pv 4))) pa_nil))))))
    (pss_one (ps_ret (pv 2))))), ?_⟩
  refine q_asg ev_c fun H1 e1 => ?_
  refine q_forR1 (n := (w.length : Int)) (ea_cons (ev_cb1 (ev_var rfl) (rc_lens (by omega))) ea_nil) (by omega) (fun i σ' H' => ∃ (a : Nat) (u : Option V), σ' = [some (.ref cp), some (.str (T w)), some (.int (a : Int)), u, none] ∧ Ex H H' ∧ a + rise ps (w.drop i) = rise ps w) (fun H2 e2 => ⟨0, _, rfl, e1.trans e2, by rw [List.drop_zero]; omega⟩) (fun i σ' H' hi h => ?_) fun σ' H' h => ?_
  · obtain ⟨a, u, rfl, e2, ha⟩ := h
    have hi' : i < w.length := by omega
    have hx := getD_at hi'
    have hd : w.drop i = w.getD i 0 :: w.drop (i + 1) := by
      rw [List.drop_eq_getElem_cons hi', List.getD_eq_getElem?_getD, List.getElem?_eq_getElem hi']; rfl
    generalize w.getD i 0 = x at hx hd
    have hxl := hw x (List.mem_of_getElem? hx)
    have c2 := c.ex e2
    refine s_asg (ev_op (ev_var rfl) (ev_cbN (z := .int (((w.drop (i + 1)).filter fun y => decide (x < y) && fr ps x y).length : Nat)) (el_lc (xs := w.drop (i + 1)) (enc := one) (fun y => decide (x < y) && fr ps x y) one (iw_str (ev_drop (k := i + 1) (ev_var rfl) (ev_is (ev_op (ev_var rfl) ev_c iv_add) (congrArg V.int (by show (i : Int) + 1 = ((i + 1 : Nat) : Int); omega))) (by omega))) (by rw [List.length_drop]; omega) (fun _ => rfl) (fun y hy => ?_) fun y hy _ => ev_var rfl) fun L H4 h4 _ => ?_) iv_add) fun H3 e3 => ?_
    · have hyl := hw y (List.mem_of_mem_drop hy)
      exact et_and (et_test (ev_op (ev_op (ev_var rfl) (ev_var rfl) (rv_ixs (by omega) hx)) (ev_var rfl) rv_lts)) fun _ => et_B (ev_call (ea_cons (ev_var rfl) (ea_cons (ev_op (ev_var rfl) (ev_var rfl) (rv_ixs (by omega) hx)) (ea_cons (ev_var rfl) ea_nil))) (ok_friend c2 hxl hyl))
    · have := rc_lenL (K := K) (H := H4) (sq_of h4)
      unfold sel at this
      rw [List.length_map] at this
      exact this
    · refine ⟨a + ((w.drop (i + 1)).filter fun y => decide (x < y) && fr ps x y).length, _, rfl, e2.trans e3, ?_⟩
      rw [hd] at ha
      have ha : a + (((w.drop (i + 1)).filter fun y => decide (x < y) && fr ps x y).length + rise ps (w.drop (i + 1))) = rise ps w := ha
      omega
  · obtain ⟨a, u, rfl, e2, ha⟩ := h
    have : ((w.length : Int)).toNat = w.length := by omega
    rw [this, List.drop_length] at ha
    have ha : a + 0 = rise ps w := ha
    refine s_ret (ev_var rfl) fun H2 e3 => ?_
    have hz : a = rise ps w := by omega
    rw [hz]
    exact q H2 (e2.trans e3)
theorem ok_lr {cp : Addr} {n : Nat} {ps : List (Nat × Nat)} {w : List Nat} {H : Hp} (c : Comp H cp n ps) (hw : ∀ c ∈ w, c ∈ lets n) (hl : w.length ≤ 1000) : SpV (spE pLR) [.ref cp, .str (T w)] H (.int (rise ps w : Nat)) := spE_ok fun H' e => ⟨cp, n, ps, w, rfl, c.ex e, hw, hl, rfl⟩
/-! ### _law_value -/
def pLV (k : Nat) : List V → Hp → V → Prop := fun vs H z => ∃ (cp : Addr) (n : Nat) (ps : List (Nat × Nat)) (w : List Nat) (t : Int), vs = [.ref cp, .str (T w), .int t] ∧ Comp H cp n ps ∧ Good n ps ∧ w.Nodup ∧ (∀ c ∈ w, c ∈ lets n) ∧ (rst n w).length < k ∧ z = .int (LV ps n w t)
theorem ok_lv {k : Nat} {cp : Addr} {n : Nat} {ps : List (Nat × Nat)} {w : List Nat} {t : Int} {H : Hp} (c : Comp H cp n ps) (g : Good n ps) (nd : w.Nodup) (sub : ∀ c ∈ w, c ∈ lets n) (hk : (rst n w).length < k) : SpV (spE (pLV k)) [.ref cp, .str (T w), .int t] H (.int (LV ps n w t)) := spE_ok fun H' e => ⟨cp, n, ps, w, t, rfl, c.ex e, g, nd, sub, hk, rfl⟩
theorem lv_call (p : Prog K mg ta tm) : ∀ k : Nat, C8.Cal P w K mg base (k + 3) "_law_value" (spE (pLV k)) []
  | 0 => p.d__law_value.cal sc__law_value (spE_len fun vs H z ⟨_, _, _, _, _, e, _⟩ => by rw [e]; rfl) fun cdv f A outer s H vs Q E hr h => by
    obtain ⟨_, ⟨_, _, _, _, _, _, _, _, _, _, hlt, _⟩, _⟩ := h
    exact absurd hlt (Nat.not_lt_zero _)
  | k + 1 => by
    have c_ih := lv_call p k
    have B := p.B
    refine p.d__law_value.cal sc__law_value (spE_len fun vs H z ⟨_, _, _, _, _, e, _⟩ => by rw [e]; rfl) fun cdv f A outer s H vs Q E hr h => ?_
    obtain ⟨z, ⟨cp, n, ps, w, t, rfl, c, g, nd, sub, hlt, rfl⟩, q⟩ := h
    have hn5 := g.n5
    have hrl := rst_le (n := n) (by omega) w
    have hwl := words_len (by omega) nd sub
    obtain ⟨pt, as, hc, hp, hps⟩ := id c
    refine ⟨_, (pss_cons (ps_setLc (i := 3) (own := [("_law_sign", 5)]) (g := gName 5) rfl sc__law_value.nd rfl rfl (sw_true rfl rfl rfl (by decide +kernel)) (pi_str (pe_slice sl_str pe_str po_none (po_some (pe_ix ix_tup (pv 0) pe_int (fun _ _ => rfl))))) (blkOk_by (N := N__law_value) (sc := defScope s__law_value) (by decide +kernel)) (fun _ _ _ _ _ => (pg_name (i := 5) sc__law_value.nd rfl (Or.inl rfl))) (fun _ _ _ _ _ => pts_one (pt_cmpR op_notIn_sign (pv 5) (pv 1) rfl)) (fun _ _ _ _ _ => (pv 5)))
    (pss_cons (ps_if (pt_cmpR (op_eqD hr.units) (pv 3) (pe_lst pa_nil) (nomark _)) (pss_one (ps_ret (C8.pe_c (c__law_rising p) hr (by omega) rfl (pa_cons (pv 0) (pa_cons (pv 1) pa_nil))))) pss_nil)
    (pss_cons (ps_setLc (i := 4) (own := [("_law_sign", 5)]) (g := gName 5) (tt := tYes) rfl sc__law_value.nd rfl rfl (sw_true rfl rfl rfl (by decide +kernel)) (pi_list (pv 3)) (blkOk_by (N := N__law_value) (sc := defScope s__law_value) (by decide +kernel)) (fun _ _ _ _ _ => (pg_name (i := 5) sc__law_value.nd rfl (Or.inl rfl))) (fun _ _ _ _ _ => pts_nil) (fun _ _ _ _ _ => (C8.pe_c c_ih hr (by omega) rfl (pa_cons (pv 0) (pa_cons (pe_op op_add_str (pv 1) (pv 5)) (pa_cons (pe_op op_sub pe_int (pv 2)) pa_nil))))))
    (pss_one (ps_ret (pe_ifExp (pt_cmpR op_eq (pv 2) pe_int (nomark _)) (pe_callB (cr_max rfl) (by rfl) B.max (by decide +kernel) (pa_cons (pv 4) pa_nil)) (pe_callB (cr_min rfl) (by rfl) B.min (by decide +kernel) (pa_cons (pv 4) pa_nil)))))))), ?_⟩
    refine q_asgL (el_rest (cp := cp) (ps := ps) (by omega) (ev_take (l := alph) (k := n) (ev_is ev_c (congrArg V.str lit_alph)) (ev_ixt (i := 0) (ev_var rfl) ev_c hc rfl) (by decide)) (fun _ => rfl) (fun _ => rfl) fun c => ev_var rfl) fun pr H1 hpr e1 h1 => ?_
    refine q_when (b := (rst n w).isEmpty) (et_test (ev_eqNil rst_128 (ev_var rfl) h1)) (fun hb H2 e2 => ?_) fun hb H2 e2 => ?_
    · have hr0 : rst n w = [] := List.isEmpty_iff.mp hb
      refine s_ret (ev_is (ev_call (ea_cons (ev_var rfl) (ea_cons (ev_var rfl) ea_nil)) (ok_lr (c.ex (e1.trans e2)) sub (by omega))) ?_) fun H3 e3 => q H3 ((e1.trans e2).trans e3)
      rw [LV_eq, if_pos hr0]
    · have hr0 : rst n w ≠ [] := fun e => by rw [e] at hb; cases hb
      have e12 := e1.trans e2
      refine q_asgL (xs := ((rst n w).map fun s => LV ps n (w ++ [s]) (1 - t)).map V.int) (by
        rw [List.map_map]
        refine el_lcY (xs := rst n w) (enc := one) (fun s => V.int (LV ps n (w ++ [s]) (1 - t))) (iw_list (ev_var rfl) (sq_of (e2 _ _ h1))) (by omega) (fun _ => rfl) fun s hs => ?_
        have ok := snoc_ok nd sub hs
        have hlen := rst_len n hs
        exact ev_call (ea_cons (ev_var rfl) (ea_cons (ev_op (ev_var rfl) (ev_var rfl) (rv_adds (by rw [List.length_singleton]; omega))) (ea_cons (ev_op ev_c (ev_var rfl) iv_sub) ea_nil))) (ok_lv (c.ex e12) g ok.1 ok.2 (by omega))) fun pq H3 hpq e3 h3 => ?_
      refine s_ret (ev_is (ev_best (ev_var rfl) (ev_var rfl) h3 (by simpa using hr0)) ?_) fun H4 e4 => q H4 ((e12.trans e3).trans e4)
      rw [LV_eq, if_neg hr0]
theorem c__law_value (p : Prog K mg ta tm) : C8.Cal P w K mg base 9 "_law_value" (spE (pLV 6)) [] := lv_call p 6
end
end K5
end
section
namespace K5
open PySem PySem.Spec PyProof.Rows L2 Evl
/-! ### a bound below the tokens that come: lists of signs whose tokens stand below it -/
/-- a list of signs, its tokens from 1 on and below lo -/
def SgnL (p : Addr) (lo : Nat) (cs : List Nat) : HO := .ext fun h => ∃ (its : List Value) (n : Nat), h.get? p = some { cls := .type "list", data := .seq its.toArray n } ∧ TOnes 1 lo its cs
theorem sgn_ok {P : Program} {w : World} {H : Hp} {h : Heap} {p : Addr} {lo n : Nat} {its : List Value} {cs : List Nat} (e : h.get? p = some { cls := .type "list", data := .seq its.toArray n }) (t : TOnes 1 lo its cs) : ObjOk P w H h p (SgnL p lo cs) :=
  ⟨⟨its, n, e, t⟩, ⟨_, e⟩, fun h1 h2 ⟨i, m, x, y⟩ k => ⟨i, m, k _ x, y⟩⟩
theorem sgn_get {X : Cx} {pins : List (Addr × Obj)} {σ : L2.St} {H : Hp} {s : Shared} {p : Addr} {lo : Nat} {cs : List Nat} (I : Inv X pins σ H s) (hp : H p = some (SgnL p lo cs)) : ∃ (its : List Value) (n : Nat), s.heap.get? p = some { cls := .type "list", data := .seq its.toArray n } ∧ TOnes 1 lo its cs := by
  have h : ObjOk X.prog X.w H s.heap p (SgnL p lo cs) := I.hok p _ hp
  exact h.1
abbrev TGh := (Nat → L2.St → Hp → Prop) → Nat → L2.St → Hp → Prop
section
variable {X : Cx} {st : Stmt} {rest : List Stmt} {e : Expr}
theorem thnk {α : Type} {t : Sem α} {Q Q' : α → Shared → Prop} {M : Model} {A : Around} {E : Value → Shared → Prop} {s : Shared} (h : wpAny M A t Q E s) (hQ : ∀ a s', s.toks ≤ s'.toks → Q a s' → Q' a s') : wpAny M A t Q' E s :=
  wpAny_mono (PySem.wpAny_toks h) (fun a s' q => hQ a s' q.1 q.2) fun _ _ x => x.2
def GP (X : Cx) (pins : List (Addr × Obj)) (Q : Nat → L2.St → Hp → Prop) (f : Flow) (s' : Shared) : Prop := f = .next ∧ ∃ lo σ' H', 1 ≤ lo ∧ lo ≤ s'.toks ∧ Inv X pins σ' H' s' ∧ Q lo σ' H'
def GS (X : Cx) (st : Stmt) (t : TGh) : Prop := ∀ (pins : List (Addr × Obj)) (s : Shared) (σ : L2.St) (H : Hp) (Q : Nat → L2.St → Hp → Prop) (lo : Nat), 1 ≤ lo → lo ≤ s.toks → Inv X pins σ H s → t Q lo σ H → wpAny (model X.prog X.w) X.A (exec st X.env) (GP X pins Q) X.xe s
def GSs (X : Cx) (st : List Stmt) (t : TGh) : Prop := ∀ (pins : List (Addr × Obj)) (s : Shared) (σ : L2.St) (H : Hp) (Q : Nat → L2.St → Hp → Prop) (lo : Nat), 1 ≤ lo → lo ≤ s.toks → Inv X pins σ H s → t Q lo σ H → wpAny (model X.prog X.w) X.A (execs st X.env) (GP X pins Q) X.xe s
def GE (X : Cx) (e : Expr) (t : Nat → TE) : Prop := ∀ (pins : List (Addr × Obj)) (s : Shared) (σ : L2.St) (H : Hp) (Q : VK) (lo : Nat), 1 ≤ lo → lo ≤ s.toks → Inv X pins σ H s → t lo σ H Q → wpAny (model X.prog X.w) X.A (eval e X.env) (EP X pins σ Q) X.xe s
theorem gs_ps {t : TS} (h : PS X st t) : GS X st (fun Q lo σ H => t { nx := Q lo, rt := fun _ _ => False } σ H) := by
  intro pins s σ H Q lo h1 hlo I q
  refine thnk (h.run pins s σ H _ I q) fun f s' hk q => ?_
  cases f with
  | next => obtain ⟨σ', H', I', q⟩ := q; exact ⟨rfl, lo, σ', H', h1, Nat.le_trans hlo hk, I', q⟩
  | ret v => obtain ⟨_, _, _, _, _, q⟩ := q; exact False.elim q
  | brk => obtain ⟨_, _, _, q⟩ := q; exact False.elim q
  | cont => obtain ⟨_, _, _, q⟩ := q; exact False.elim q
theorem gss_nil : GSs X [] (fun Q lo σ H => Q lo σ H) := fun _ _ σ H _ lo h1 hlo I q => wpAny_execs_nil ⟨rfl, lo, σ, H, h1, hlo, I, q⟩
theorem gss_cons {t u : TGh} (h1 : GS X st t) (h2 : GSs X rest u) : GSs X (st :: rest) (fun Q lo σ H => t (u Q) lo σ H) := by
  intro pins s σ H Q lo hl hlo I q
  refine wpAny_execs_cons (thn (h1 pins s σ H _ lo hl hlo I q) fun f s1 q => ?_)
  obtain ⟨rfl, lo', σ', H', hl', hlo', I', q⟩ := q
  exact h2 pins s1 σ' H' Q lo' hl' hlo' I' q
theorem gss_one {t : TGh} (h1 : GS X st t) : GSs X [st] t := by
  intro pins s σ H Q lo hl hlo I q
  refine wpAny_execs_cons (thn (h1 pins s σ H Q lo hl hlo I q) fun f s1 q => ?_)
  obtain ⟨rfl, q⟩ := q
  exact wpAny_execs_nil ⟨rfl, q⟩
theorem gs_if {c : Expr} {a b : List Stmt} {pos : Pos} {tc : TT} {t u : TGh} (hc : PT X c tc) (ha : GSs X a t) (hb : GSs X b u) : GS X (.If c a b pos) (fun Q lo σ H => tc σ H fun d H1 => if d = true then t Q lo σ H1 else u Q lo σ H1) := by
  intro pins s σ H Q lo hl hlo I q
  refine wpAny_If (thnk (hc.run pins s σ H _ I q) fun d s1 hk q1 => ?_)
  obtain ⟨H1, I1, q1⟩ := q1
  cases d with
  | true => exact ha pins s1 σ H1 Q lo hl (Nat.le_trans hlo hk) I1 q1
  | false => exact hb pins s1 σ H1 Q lo hl (Nat.le_trans hlo hk) I1 q1
def tForG (wi : TI) (g : TG) (tb : TGh) : TGh := fun Q lo σ H => wi σ H fun J H1 => ∃ W : Nat → Nat → Nat → L2.St → Hp → Prop, (∃ m, W 0 m lo σ H1) ∧ ∀ i m l σ H, W i m l σ H →
  (J.stop i H ∧ Q l σ H) ∨ (J.go i H ∧ ∃ N : Nat → L2.St → Hp → Prop, (∀ l' σ' H', N l' σ' H' → ∃ m', m' < m ∧ W (i + 1) m' l' σ' H') ∧ ∀ x H', J.yld i H x H' → g x σ H' fun σ2 H2 => tb N l σ2 H2)
theorem gs_for {tg iter : Expr} {body : List Stmt} {wi : TI} {g : TG} {tb : TGh} {pos : Pos} (hp : PassesOwn (model X.prog X.w) X.A X.env X.xe) (hc : X.calm = true) (hi : PI X tg iter wi) (hg : PG X tg g) (hb : GSs X body tb)
    (hs : ∀ x, foldedSetIterable iter X.env x = pure x := by intro _; rfl) : GS X (.For tg iter body [] pos) (tForG wi g tb) := by
  intro pins s σ H Q lo hl hlo I h
  refine wpAny_For (thnk (hi.run pins s σ H _ I h) fun v s1 hk1 h1 => thnk h1 fun itv s2 hk2 h2 => ?_) hs
  obtain ⟨it, own, at', J, H2, rfl, I2, T, st2, f2, W, ⟨m0, w0⟩, turn⟩ := h2
  -- the iterator's own objects stay ours
  have ours : ∀ {G : Hp}, (∀ b ∈ own, G b = none) → ∀ b ∈ own, FpOk X pins G b := fun free b hb => ⟨free b hb, (f2 b hb).2⟩
  refine codeAny_forLoop_any (fun m s' => ∃ i l σ' H', 1 ≤ l ∧ l ≤ s'.toks ∧ Inv X pins σ' H' s' ∧ at' i s'.heap ∧ (∀ b ∈ own, H' b = none) ∧ W i m l σ' H') (fun m s3 hinv => ?_) m0
    ⟨0, lo, σ, H2, hl, Nat.le_trans hlo (Nat.le_trans hk1 hk2), I2, st2, fun b hb => (f2 b hb).1, w0⟩
  obtain ⟨i, l, σ3, H3, hl3, hlo3, I3, st3, fr3, w3⟩ := hinv
  rcases turn i m l σ3 H3 w3 with ⟨stop, qn⟩ | ⟨go, N, hN, step⟩
  · refine wpAny_passesOwn hp (thnk (T.done X rfl rfl rfl hc i pins s3 σ3 H3 X.xe I3 (ours fr3) st3 stop) fun got s4 hk4 ⟨hr, I4⟩ => ?_)
    subst hr
    exact wpAny_execs_nil ⟨rfl, l, σ3, H3, hl3, Nat.le_trans hlo3 hk4, I4, qn⟩
  · refine wpAny_passesOwn hp (thnk (T.item X rfl rfl rfl hc i pins s3 σ3 H3 X.xe I3 (ours fr3) st3 go) fun got s4 hk4 ⟨u, hr, h4⟩ => ?_)
    subst hr
    refine wpAny_passesOwn hp (thnk h4 fun _ s5 hk5 ⟨x, H5, I5, r5, y5, st5, fr5⟩ => ?_)
    have Ip := I5.pinned (ours fr5) (T.obj _ _ st5)
    refine wpAny_passesOwn hp (thnk (hg.run _ s5 σ3 H5 x u _ Ip r5 (step x H5 y5)) fun _ s6 hk6 ⟨σ6, H6, I6, q6⟩ => ?_)
    refine wpAny_passesOwn hp (thn (hb _ s6 σ6 H6 _ l hl3 (Nat.le_trans hlo3 (Nat.le_trans hk4 (Nat.le_trans hk5 hk6))) I6 q6) fun f s7 q7 => ?_)
    obtain ⟨rfl, l7, σ7, H7, hl7, hlo7, I7, n7⟩ := q7
    obtain ⟨m', hm, w7⟩ := hN l7 σ7 H7 n7
    have kept : ∀ b ∈ own, ∀ o, s5.heap.get? b = some o → s7.heap.get? b = some o ∧ H7 b = none := fun b hb o e =>
      have := I7.pin (b, o) (List.mem_append_right _ (List.mem_append_right _ (mem_pinsAt hb e)))
      ⟨this.1, this.2.1⟩
    refine ⟨m', hm, i + 1, l7, σ7, H7, hl7, hlo7, I7.unpinned, T.keep _ _ _ st5 fun b hb o e => (kept b hb o e).1, fun b hb => ?_, w7⟩
    exact (T.obj _ _ st5 b hb).elim fun o ho => (kept b hb o ho.1).2
/-- a for over a walk -/
theorem forG_it {J : It} {n : Nat} {G : Hp → Prop} {Y : Nat → Hp → V → Hp → Prop} (w : Walk J n G Y) {g : TG} {tb : TGh} {Q : Nat → L2.St → Hp → Prop} {lo : Nat} {σ : L2.St} {H : Hp} (Pv : Nat → Nat → L2.St → Hp → Prop) (h0 : Pv 0 lo σ H) (hG : ∀ i l σ H, i ≤ n → Pv i l σ H → G H)
    (hs : ∀ i l x σ H H', i < n → Pv i l σ H → Y i H x H' → g x σ H' fun σ2 H2 => tb (Pv (i + 1)) l σ2 H2) (hd : ∀ l σ H, Pv n l σ H → Q l σ H) :
    ∃ W : Nat → Nat → Nat → L2.St → Hp → Prop, (∃ m, W 0 m lo σ H) ∧ ∀ i m l σ H, W i m l σ H →
      (J.stop i H ∧ Q l σ H) ∨ (J.go i H ∧ ∃ N : Nat → L2.St → Hp → Prop, (∀ l' σ' H', N l' σ' H' → ∃ m', m' < m ∧ W (i + 1) m' l' σ' H') ∧ ∀ x H', J.yld i H x H' → g x σ H' fun σ2 H2 => tb N l σ2 H2) := by
  refine ⟨fun i m l σ H => i + m = n ∧ Pv i l σ H, ⟨n, Nat.zero_add n, h0⟩, fun i m l σ H hw => ?_⟩
  have hGi := hG i l σ H (by omega) hw.2
  by_cases hlt : i < n
  · right
    refine ⟨w.goes i H hlt hGi, Pv (i + 1), fun l' σ' H' p' => ⟨n - (i + 1), by omega, by omega, p'⟩, fun x H' y => ?_⟩
    exact hs i l x σ H H' hlt hw.2 (w.yields i H x H' hlt hGi y)
  · left
    have ei : i = n := by omega
    rw [ei] at hw ⊢
    exact ⟨w.stops H hGi, hd l σ H hw.2⟩
/-- over range(n) -/
theorem g_forR1 {ta : TA} {j : Nat} {n : Nat} {tb : TGh} {Q : Nat → L2.St → Hp → Prop} {lo : Nat} {σ : L2.St} {H : Hp} (h : EvA ta σ H [.int (n : Int)]) (hn : n ≤ 100000) (Pv : Nat → Nat → L2.St → Hp → Prop) (h0 : ∀ H1, Ex H H1 → Pv 0 lo σ H1)
    (hs : ∀ i l σ' H', i < n → Pv i l σ' H' → tb (Pv (i + 1)) l (σ'.set j (some (.int (i : Int)))) H') (hd : ∀ l σ' H', Pv n l σ' H' → Q l σ' H') : tForG (iRng1 ta) (gName j) tb Q lo σ H :=
  h H (Ex.refl H) _ fun H1 e => ⟨(n : Int), rfl, by omega, by omega, by
    have := forG_it (walk_range (lo := 0) (n := n)) (g := gName j) (tb := tb) (Q := Q) (lo := lo) (σ := σ) (H := H1) Pv (h0 H1 e) (fun _ _ _ _ _ _ => trivial) (fun i l x σ' H' H'' hi p y => by
      obtain ⟨rfl, rfl⟩ := y
      have e0 : (0 : Int) + (i : Int) = (i : Int) := Int.zero_add _
      show tb (Pv (i + 1)) l (σ'.set j (some (.int ((0 : Int) + (i : Int))))) H''
      rw [e0]
      exact hs i l σ' H'' hi p) hd
    exact this⟩
/-- xs = [] : a list of no signs -/
def tNilS (lo : Nat) : TE := fun _ H Q => ∀ p, H p = none → Q (.ref p) (upd H p (SgnL p lo []))
theorem pe_nilS {pos : Pos} (lo : Nat) : PE X (.List [] pos) (tNilS lo) := by
  refine ⟨fun pins s σ H Q I h => ?_⟩
  refine wpAny_List_spliced ?_
  show wpAny _ _ (spliced []) _ _ s
  refine Calls.spliced_nil ⟨Nat.zero_le _, .ref s.heap.objs.size, upd H s.heap.objs.size (SgnL s.heap.objs.size lo []), ?_, rfl, h _ (I.hok.fresh (Nat.le_refl _))⟩
  exact I.laid (t' := s.toks) (fun b u e => Heap.get?_push_of_some _ e) (Nat.le_refl _) (sgn_ok (its := []) (Heap.get?_push_size _ rfl) .nil)
theorem gs_nilS {i : Nat} {x : Str} {p1 p2 pos : Pos} (hN : X.N.Nodup) (hi : X.N[i]? = some x) (hx : Loc X.env.scope x) (hs : swapsWith (.List [] p2) (some (.Name x p1)) pos.line X.env = pure false := by rfl) (hf : X.fn x = true ∨ X.env.scope.names.lookup x = some .local := by first | exact .inl rfl | exact .inr rfl | assumption) :
    GS X (.Assign [.Name x p1] (.List [] p2) pos) (fun Q lo σ H => ∀ p, H p = none → Q lo (σ.set i (some (.ref p))) (upd H p (SgnL p lo []))) := fun pins s σ H Q lo hl hlo I q =>
  gs_ps (ps_set hN hi hx (pe_nilS lo) hs hf) pins s σ H Q lo hl hlo I fun p hp => q p hp
/-- xs.append(text[i]) -/
theorem gs_app {iF iR iA : Nat} {xF xR xA : Str} {p1 p2 p3 p4 p5 p6 pos : Pos} (hNf : X.N[iF]? = some xF) (hvf : Vis X.env.scope xF) (hNr : X.N[iR]? = some xR) (hvr : Vis X.env.scope xR) (hNa : X.N[iA]? = some xA) (hva : Vis X.env.scope xA)
    (hbase : attributeBase (.Name xF p1) "append" X.env (eval (.Name xF p1) X.env) = eval (.Name xF p1) X.env := by rfl)
    (hfew : ((backTo p6 (starEach [.Subscript (.Name xR p3) (.Name xA p4) p5] X.env)).all (fun x => !x.1) && (backToKw p6 (keywordEach [] X.env)).all (fun x => x.1.isSome)
      && decide (([.Subscript (.Name xR p3) (.Name xA p4) p5] : List Expr).length + ([] : List Keyword).length + (if ([] : List Keyword).isEmpty then 0 else 1) < 30)) = true := by rfl)
    (hline : (p2.endLine == p6.line) = true := by rfl) (hst : starEach [.Subscript (.Name xR p3) (.Name xA p4) p5] X.env = (false, eval (.Subscript (.Name xR p3) (.Name xA p4) p5) X.env) :: starEach [] X.env := by rfl)
    (hs : swapsWith (.Call (.Attribute (.Name xF p1) "append" p2) [.Subscript (.Name xR p3) (.Name xA p4) p5] [] p6) none pos.line X.env = pure false := by rfl)
    (hdf : (xF == ("__debug__" : Str)) = false := by decide) (hcf : (xF == ("__classdict__" : Str)) = false := by decide) (hdr : (xR == ("__debug__" : Str)) = false := by decide) (hcr : (xR == ("__classdict__" : Str)) = false := by decide) (hda : (xA == ("__debug__" : Str)) = false := by decide) (hca : (xA == ("__classdict__" : Str)) = false := by decide) :
    GS X (.Expr (.Call (.Attribute (.Name xF p1) "append" p2) [.Subscript (.Name xR p3) (.Name xA p4) p5] [] p6) pos) (fun Q lo σ H => ∃ (p : Addr) (cs w : List Nat) (c k : Nat), σ[iF]? = some (some (.ref p)) ∧ H p = some (SgnL p lo cs) ∧ σ[iR]? = some (some (.str (T w))) ∧ σ[iA]? = some (some (.int (k : Int))) ∧ w[k]? = some c ∧ w.length ≤ 1000 ∧ cs.length ≤ 1000 ∧
      ∀ lo', Q lo' σ (upd H p (SgnL p lo' (cs ++ [c])))) := by
  intro pins s σ H Q lo hl hlo I h
  obtain ⟨p, cs, w, c, k, hσf, hp, hσr, hσa, hk, hwl, hcl, q⟩ := h
  refine wpAny_Expr_any (wpAny_Call_method_late hbase hfew hline rfl (raw_name hNf hvf I hσf (fun v r => ?_) hdf hcf)) I.quiet hs
  have e : v = Value.ref p := r
  subst e
  obtain ⟨its, n, hg, ht⟩ := sgn_get I hp
  refine ⟨"list", "list.append", PySem.F.plainAttrs_list, PySem.F.slot_list_append, PySem.F.type_list_append, ⟨_, hg, rfl⟩, fun a e => by cases e; exact ⟨_, hg, rfl⟩, ?_⟩
  rw [hst]
  refine Calls.callWith_builtin rfl (Calls.evalArgs_plain (Calls.spliced_cons ?_))
  refine Subscript_ (raw_name hNr hvr I hσr (fun v rr => ?_) hdr hcr)
  obtain ⟨t, rfl⟩ := rr
  refine raw_name hNa hva I hσa (fun v rr => ?_) hda hca
  obtain ⟨t2, rfl⟩ := rr
  obtain ⟨j, a1, a2, a3, a4, a5⟩ := atI_get (atI_nat hk)
  have hwl2 : (T w).length = w.length := T_len w
  have hn := line63
  have ht' := tones_len ht
  refine tail_any (typeIs_str s (T w) t) PySem.F.slot_str_getitem.lookup (PySem.P.getItem_str (c := c) (by
    have e1 : decide ((k : Int) < -(2 ^ 63 : Int)) = false := decide_eq_false (by omega)
    have e2 : decide ((k : Int) ≥ 2 ^ 63) = false := decide_eq_false (by omega)
    rw [e1, e2, Bool.or_false]) (by rw [hwl2, a1]; simpa [T] using a2) ?_) rfl
  refine Calls.spliced_nil ?_
  refine call_meets F.slot_list_append ⟨_, hg, rfl⟩ F.entry_list_append (F.args_list_append_2 _ _) (PySem.list_append p its.toArray n (.str ⟨#[c]⟩ s.toks) (by rw [List.size_toArray, ht']; exact Nat.le_trans hcl (by decide))) ⟨hg, ?_⟩
  have qq := PySem.IsL.update hg fun x => x.push (.str ⟨#[c]⟩ s.toks)
  have eq1 : its.toArray.push (.str ⟨#[c]⟩ s.toks) = (its ++ [Value.str (T [c]) s.toks]).toArray := by simp [T]
  rw [eq1] at qq
  have hT : TOnes 1 (s.toks + 1) (its ++ [.str (T [c]) s.toks]) (cs ++ [c]) := (ht.grow (Nat.le_trans hlo (Nat.le_succ _))).snoc rfl (Nat.le_trans hl hlo) (Nat.lt_succ_self _)
  refine ⟨rfl, s.toks + 1, σ, upd H p (SgnL p (s.toks + 1) (cs ++ [c])), Nat.succ_le_succ (Nat.zero_le _), Nat.le_refl _, ?_, q _⟩
  refine I.write (x := p) (e := p) (by rw [hp]; exact trivial) (.inl rfl) (fun b' u hb hu => (Heap.get?_update_other s.heap _ (Ne.symm hb)).trans hu) ⟨_, qq⟩ (sgn_ok qq hT)
/-- min of such a list -/
def rMinS : List V → Hp → VK → Prop := fun vs H Q => ∃ (p : Addr) (lo : Nat) (cs : List Nat), vs = [.ref p] ∧ H p = some (SgnL p lo cs) ∧ cs ≠ [] ∧ Q (one (least cs)) H
theorem cr_minS (hc : X.calm = true) : CallR X (.builtin "min") rMinS := by
  intro pins s σ H vs us Q I r h
  obtain ⟨p, lo, cs, rfl, hp, hne, q⟩ := h
  obtain ⟨its, n, hg, ht⟩ := sgn_get I hp
  rw [Vals.ref1 r]
  refine min_ones (I.ok.hd hc) ⟨_, hg, rfl, n, rfl⟩ ht.ones hne fun v h' tk c _ hv hl k _ => ⟨one c, H, I.kept k, hv, ?_⟩
  rw [hl.uniq (least_is hne)]
  exact q
/-- text.replace(min(xs), '') -/
def tReplS (iR iF : Nat) (lo : Nat) : TE := fun σ H Q => ∃ (p : Addr) (cs r : List Nat), σ[iR]? = some (some (.str (T r))) ∧ σ[iF]? = some (some (.ref p)) ∧ H p = some (SgnL p lo cs) ∧ cs ≠ [] ∧ r.length ≤ 1000 ∧ Q (.str (T (r.filter (· != least cs)))) H
theorem ge_repl {iF iR : Nat} {xF xR : Str} {b1 b2 b4 b5 m1 m2 m3 : Pos} {kc : Nat} (hc : X.calm = true) (hg : Gl X "min") (hm : X.mg "min" = none) (hNf : X.N[iF]? = some xF) (hvf : Vis X.env.scope xF) (hNr : X.N[iR]? = some xR) (hvr : Vis X.env.scope xR)
    (hb : attributeBase (.Name xR b1) "replace" X.env (eval (.Name xR b1) X.env) = eval (.Name xR b1) X.env := by rfl)
    (hs2 : starEach [.Call (.Name "min" m1) [.Name xF m2] [] m3, .Constant (.str "") kc b4] X.env = [(false, eval (.Call (.Name "min" m1) [.Name xF m2] [] m3) X.env), (false, eval (.Constant (.str "") kc b4) X.env)] := by rfl) (hline : (b2.endLine == b5.line) = true := by rfl)
    (hsr : starEach [Expr.Name xF m2] X.env = (false, eval (Expr.Name xF m2) X.env) :: starEach [] X.env := by rfl)
    (hdf : (xF == ("__debug__" : Str)) = false := by decide) (hcf : (xF == ("__classdict__" : Str)) = false := by decide) (hdr : (xR == ("__debug__" : Str)) = false := by decide) (hcr : (xR == ("__classdict__" : Str)) = false := by decide) :
    GE X (.Call (.Attribute (.Name xR b1) "replace" b2) [.Call (.Name "min" m1) [.Name xF m2] [] m3, .Constant (.str "") kc b4] [] b5) (tReplS iR iF) := by
  intro pins s σ H Q lo hl hlo I h
  obtain ⟨p, cs, r, hσr, hσf, hp, hne, hrl, q⟩ := h
  obtain ⟨its, n, hgp, ht⟩ := sgn_get I hp
  refine PySem.Call_method2 hb hs2 hline (raw_name hNr hvr I hσr (fun v rr => ?_) hdr hcr)
  obtain ⟨t3, rfl⟩ := rr
  refine ⟨"str", "str.replace", F.plainAttrs_str, F.slot_str_replace, F.type_str_replace, typeIs_str _ (T r) t3, (fun _ z => nomatch z), Calls.callWith_builtin rfl (Calls.evalArgs_plain ?_)⟩
  refine Calls.spliced_cons ?_
  refine wpAny_Call_Name_kw (ld_blt (u := .builtin "min") I hg hm (by decide +kernel) ?_ (by decide) (by decide))
  refine PyProof.Rows.callWith_builtin1 ?_ hsr (by rfl)
  show wpAny _ _ (spliced ((false, eval (Expr.Name xF m2) X.env) :: backTo m3 (starEach [] X.env))) _ _ s
  refine Calls.spliced_cons (raw_name hNf hvf I hσf (fun v rr => ?_) hdf hcf)
  have e : v = Value.ref p := rr
  subst e
  refine Calls.spliced_nil ?_
  refine min_ones (I.ok.hd hc) ⟨_, hgp, rfl, n, rfl⟩ ht.ones hne fun v h' tk c hv hvs hlst k htk => ?_
  obtain ⟨c', u, e, hu1, hu2⟩ := ht.mem hv
  obtain ⟨t', e'⟩ := hvs
  subst e
  have e'' : T [c'] = T [c] := by injection e'
  have ec : c' = c := (List.cons.inj (T_inj e'')).1
  subst ec
  have el : c' = least cs := hlst.uniq (least_is hne)
  subst el
  refine Calls.spliced_cons (Calls.Constant_str (Calls.spliced_nil ?_))
  have hut : u < tk := Nat.lt_of_lt_of_le hu2 (Nat.le_trans hlo htk)
  refine PySem.SC.replace (Nat.ne_of_gt hu1) (Nat.ne_of_gt (Nat.lt_of_le_of_lt (Nat.zero_le _) hut)) (Nat.ne_of_lt hut) (by rw [lit_empty]; rfl) (by rw [lit_empty, T_len, T_len, List.length_nil, Nat.mul_zero]; omega) fun t5 tk5 => ?_
  rw [show Txt.replace (T r) (T [least cs]) (Str.ofString "") = T (r.filter (· != least cs)) from by rw [lit_empty, strike]]
  exact ⟨.str (T (r.filter (· != least cs))), H, I.kept (t' := tk5) k, ⟨_, rfl⟩, q⟩
theorem ge_tup2 {a b : Expr} {ta : TE} {tb : Nat → TE} {k : Nat} {pos : Pos} (ha : PE X a ta) (hb : GE X b tb) (hs : starEach [a, b] X.env = [(false, eval a X.env), (false, eval b X.env)] := by rfl) :
    GE X (.Tuple [a, b] k pos) (fun lo σ H Q => ta σ H fun x H1 => tb lo σ H1 fun y H2 => ∀ p, H2 p = none → Q (.ref p) (upd H2 p (.tup [x, y]))) := by
  intro pins s σ H Q lo hl hlo I h
  refine wpAny_Tuple_spliced ?_
  rw [hs]
  show wpAny _ _ (spliced [(false, eval a X.env), (false, eval b X.env)]) _ _ s
  refine Calls.spliced_cons (thnk (ha.run pins s σ H _ I h) fun u s1 hk q1 => ?_)
  obtain ⟨x, H1, I1, r1, q1⟩ := q1
  refine Calls.spliced_cons (thn (hb pins s1 σ H1 _ lo hl (Nat.le_trans hlo hk) I1 q1) fun u2 s2 q2 => ?_)
  obtain ⟨y, H2, I2, r2, q2⟩ := q2
  refine Calls.spliced_nil ⟨by show 2 ≤ sizeLine; decide, ?_⟩
  refine ⟨.ref s2.heap.objs.size, upd H2 s2.heap.objs.size (.tup [x, y]), I2.laid (t' := s2.toks) (fun b u e => Heap.get?_push_of_some _ e) (Nat.le_refl _) ?_, rfl, q2 _ (I2.hok.fresh (Nat.le_refl _))⟩
  exact ⟨by show 2 ≤ sizeLine; decide, [u, u2], .cons r1 (.cons r2 .nil), ⟨_, Heap.get?_push_size _ rfl, rfl, _, rfl⟩⟩
theorem gs_asg {tg e : Expr} {te : Nat → TE} {g : TG} {pos : Pos} (he : GE X e te) (hg : PG X tg g) (hs : swapsWithSole [tg] e pos.line X.env = pure false := by rfl) (hw : swappedStores [tg] e X.env = pure none := by rfl)
    (h1 : (assignEach [tg] X.env).map (·.2) = [assign tg X.env] := by rfl) : GS X (.Assign [tg] e pos) (fun Q lo σ H => te lo σ H fun x H1 => g x σ H1 (Q lo)) := by
  intro pins s σ H Q lo hl hlo I h
  refine wpAny_Assign_stores (thnk (he pins s σ H _ lo hl hlo I h) fun v s1 hk q1 => ?_) hs hw
  obtain ⟨x, H1, I1, r1, q1⟩ := q1
  rw [h1]
  refine thnk (hg.run pins s1 σ H1 x v _ I1 r1 q1) fun _ s2 hk2 q => ?_
  obtain ⟨σ', H', I', q⟩ := q
  exact ⟨rfl, lo, σ', H', hl, Nat.le_trans hlo (Nat.le_trans hk hk2), I', q⟩
/-- a statement with a bound, then others -/
theorem pst_gs {t : TGh} {u : TS} (h1 : GS X st t) (h2 : PSs X rest u) : PSsT X (st :: rest) (fun D σ H => t (fun _ σ' H' => u D σ' H') 1 σ H) := by
  intro pins s σ H D h0 I h
  refine wpAny_execs_cons (thn (h1 pins s σ H _ 1 (Nat.le_refl _) h0 I h) fun f s1 q => ?_)
  obtain ⟨rfl, lo', σ', H', _, _, I', q⟩ := q
  exact h2.run pins s1 σ' H' D I' q
/-- target = value, a written text: behind it a token is out -/
theorem pss_asgc {a tg : Expr} {c : Str} {ta : TE} {g : TG} {u : TS} {j k : Nat} {cp pos tp : Pos} (ha : PE X a ta) (hg : PG X tg g) (h2 : PSsT X rest u) (hst : starEach [a, .Constant (.str c) j cp] X.env = [(false, eval a X.env), (false, eval (.Constant (.str c) j cp) X.env)] := by rfl)
    (hs : swapsWithSole [tg] (.Tuple [a, .Constant (.str c) j cp] k tp) pos.line X.env = pure false := by rfl) (hw : swappedStores [tg] (.Tuple [a, .Constant (.str c) j cp] k tp) X.env = pure none := by rfl)
    (h1 : (assignEach [tg] X.env).map (·.2) = [assign tg X.env] := by rfl) : PSs X (.Assign [tg] (.Tuple [a, .Constant (.str c) j cp] k tp) pos :: rest) (tSeq (tAsg (tTup (tCons ta (tCons (tC (.str c)) tNil))) g) u) := by
  refine ⟨fun pins s σ H D I h => ?_⟩
  refine wpAny_execs_cons (wpAny_Assign_stores (wpAny_Tuple_spliced ?_) hs hw)
  rw [hst]
  show wpAny _ _ (spliced [(false, eval a X.env), (false, eval (.Constant (.str c) j cp) X.env)]) _ _ s
  refine Calls.spliced_cons (thn (ha.run pins s σ H _ I h) fun v s1 q1 => ?_)
  obtain ⟨x, H1, I1, r1, z, q1⟩ := q1
  refine Calls.spliced_cons (Calls.Constant_str (Calls.spliced_nil ⟨by show 2 ≤ sizeLine; decide, ?_⟩))
  have I2 : Inv X pins σ (upd H1 s1.heap.objs.size (.tup [x, .str c])) { s1 with heap := s1.heap.push { cls := .type "tuple", data := .seq [v, Value.str c s1.toks].toArray }, toks := s1.toks + 1 } :=
    I1.laid (t' := s1.toks + 1) (fun b u e => Heap.get?_push_of_some _ e) (Nat.le_refl _) ⟨z, [v, Value.str c s1.toks], .cons r1 (.cons ⟨_, rfl⟩ .nil), ⟨_, Heap.get?_push_size _ rfl, rfl, _, rfl⟩⟩
  rw [h1]
  refine thnk (hg.run pins _ σ _ (.ref s1.heap.objs.size) _ _ I2 rfl (q1 _ (I1.hok.fresh (Nat.le_refl _)))) fun _ s2 hk q => ?_
  obtain ⟨σ', H', I', q⟩ := q
  exact h2 pins s2 σ' H' D (Nat.le_trans (Nat.succ_le_succ (Nat.zero_le _)) hk) I' q
end
end K5
end
section
namespace K5
open PySem PySem.Spec PyProof.Rows L2 Evl
theorem ahead_take {r : List Nat} (nd : r.Nodup) {j c : Nat} (h : r[j]? = some c) : r.take j = ahead r c := by
  have e := ahead_at r c j h fun k hk hc => by
    have h1 := (List.getElem?_eq_some_iff.mp h)
    have h2 := (List.getElem?_eq_some_iff.mp hc)
    obtain ⟨l1, e1⟩ := h1
    obtain ⟨l2, e2⟩ := h2
    have := (List.getElem_inj (h₀ := l2) (h₁ := l1) nd).mp (by rw [e1, e2])
    omega
  rw [← e]; exact take_ahead r c
theorem free_take {ps : List (Nat × Nat)} {r : List Nat} (nd : r.Nodup) {j c : Nat} (h : r[j]? = some c) : ((r.take j).filter fun x => fr ps x c).isEmpty = free ps r c := by
  rw [ahead_take nd h]
  unfold free
  generalize ahead r c = l
  induction l with
  | nil => rfl
  | cons x t ih =>
    rw [List.filter_cons, List.all_cons]
    cases fr ps x c with
    | true => rfl
    | false =>
      show (t.filter fun x => fr ps x c).isEmpty = (!false && t.all fun d => !fr ps d c)
      rw [ih]; rfl
theorem rc_minS {H : Hp} {p : Addr} {lo : Nat} {cs : List Nat} (hp : H p = some (SgnL p lo cs)) (hne : cs ≠ []) : RC rMinS [.ref p] H (one (least cs)) := fun H1 e Q q => ⟨p, lo, cs, rfl, e _ _ hp, hne, q H1 (Ex.refl _)⟩
theorem call_go {σ : L2.St} {H : Hp} {sp : Sp} {dvs : List V} {E : XK} {ta : TA} {Q : VK} (h : ta σ H fun vs H1 => sp (vs ++ dvs) H1 Q E) : tCall sp dvs E ta σ H Q := h
theorem lst_go {σ : L2.St} {H : Hp} {ta : TA} {Q : VK} (h : ta σ H fun xs H1 => xs.length ≤ sizeLine ∧ ∀ p, H1 p = none → Q (.ref p) (upd H1 p (.lst xs))) : tLst ta σ H Q := h
theorem c_go {σ : L2.St} {H : Hp} {v : V} {Q : VK} (h : Q v H) : tC v σ H Q := h
theorem cb_go {σ : L2.St} {H : Hp} {ta : TA} {r : List V → Hp → VK → Prop} {Q : VK} (h : ta σ H fun vs H1 => r vs H1 Q) : tCB r ta σ H Q := h
section
variable {P : Program} {w : World} {K : PySem.W.Frag} {mg : Str → Option Value} {base : Heap} {ta tm : Tok}
/-! ### _law_kind -/
def pLKind : List V → Hp → V → Prop := fun vs H z => ∃ (cp : Addr) (n : Nat) (ps : List (Nat × Nat)) (w : List Nat), vs = [.ref cp, .str (T w)] ∧ Comp H cp n ps ∧ Good n ps ∧ (∀ c ∈ w, c ∈ lets n) ∧ w.length ≤ 400 ∧ z = .str (T (canon ps (firsts w)))
theorem c__law_kind (p : Prog K mg ta tm) : C8.Cal P w K mg base 2 "_law_kind" (spE pLKind) [] := by
  have B := p.B
  refine p.d__law_kind.cal sc__law_kind (spE_len fun vs H z ⟨_, _, _, _, e, _⟩ => by rw [e]; rfl) fun cdv f A outer s H vs Q E hr h => ?_
  obtain ⟨z, ⟨cp, n, ps, w, rfl, c, g, hw, hl, rfl⟩, q⟩ := h
  have hn5 := g.n5
  refine ⟨_, (pss_asgc (C8.pe_c (c__law_firsts p) hr (by omega) rfl (pa_cons (pv 1) pa_nil)) (pg_tup rfl (pgs_cons (pg_name (i := 2) sc__law_kind.nd rfl (Or.inr rfl)) (pgs_cons (pg_name (i := 3) sc__law_kind.nd rfl (Or.inl rfl)) pgs_nil)))
    (pst_gs (gs_for PassesOwn.never rfl (pi_range1 rfl B.range (pa_cons (pe_callB call_len_str (by rfl) B.len PySem.boot_len (pa_cons (pv 2) pa_nil)) pa_nil)) (pg_name (i := 4) sc__law_kind.nd rfl (Or.inl rfl))
      (gss_cons (gs_nilS (i := 5) sc__law_kind.nd rfl (Or.inl rfl))
        (gss_cons (gs_for PassesOwn.never rfl (pi_range1 rfl B.range (pa_cons (pe_callB call_len_str (by rfl) B.len PySem.boot_len (pa_cons (pv 2) pa_nil)) pa_nil)) (pg_name (i := 6) sc__law_kind.nd rfl (Or.inr rfl))
          (gss_one (gs_if (pt_cmpR (op_eqD hr.units) (pe_lc (own := [("_law_sign", 7)]) (g := gName 7) rfl sc__law_kind.nd (pi_str (pe_slice sl_str (pv 2) po_none (po_some (pv 6)))) (blkOk_by (N := N__law_kind) (sc := defScope s__law_kind) (by decide +kernel)) (fun _ _ _ _ _ => (pg_name (i := 7) sc__law_kind.nd rfl (Or.inl rfl))) (fun _ _ _ _ _ => pts_one (pt_val (C8.pe_c (c__law_friend p) hr (by omega) rfl (pa_cons (pv 0) (pa_cons (pv 7) (pa_cons (pe_ix ix_str (pv 2) (pv 6) (fun _ _ => rfl)) pa_nil)))))) (fun _ _ _ _ _ => (pv 7))) (pe_lst pa_nil) (nomark _)) (gss_one (gs_app (iF := 5) (iR := 2) (iA := 6) rfl (Or.inl rfl) rfl (Or.inr (Or.inl rfl)) rfl (Or.inr (Or.inl rfl)))) gss_nil)))
        (gss_one (gs_asg (ge_tup2 (pe_op op_add_str (pv 3) (pe_callB (cr_minS rfl) (by rfl) B.min (by decide +kernel) (pa_cons (pv 5) pa_nil))) (ge_repl (iF := 5) (iR := 2) rfl rfl B.min rfl (Or.inl rfl) rfl (Or.inr (Or.inl rfl)))) (pg_tup rfl (pgs_cons (pg_name (i := 3) sc__law_kind.nd rfl (Or.inl rfl)) (pgs_cons (pg_name (i := 2) sc__law_kind.nd rfl (Or.inr rfl)) pgs_nil))))))))
    (pss_one (ps_ret (pv 3))))), ?_⟩
  refine q_asgT (tup_go (cons_go ?_))
  refine (ev_call (ea_cons (ev_var rfl) ea_nil) (ok_firsts (by omega))) H (Ex.refl _) _ fun H1 e1 => ?_
  refine ⟨by show 2 ≤ sizeLine; decide, fun tp htp => ⟨tp, _, rfl, st_of upd_same, rfl, _, _, rfl, _, _, rfl, rfl, ?_⟩⟩
  have hfl := firsts_len w
  have hfn := firsts_nodup w
  have hfs : ∀ c ∈ firsts w, c ∈ lets n := fun c hc => hw c (firsts_sub c hc)
  have hf7 := words_len (by omega) hfn hfs
  generalize firsts w = r0 at *
  have e2 : Ex H (upd H1 tp (.tup [.str (T r0), .str (Str.ofString "")])) := e1.trans (Ex.new htp)
  refine g_forR1 (n := r0.length) (ea_cons (ev_cb1 (ev_var rfl) (rc_lens (by omega))) ea_nil) (by omega) (fun i l σ' H' => ∃ (f r : List Nat) (u4 u5 u6 : Option V), σ' = [some (.ref cp), some (.str (T w)), some (.str (T r)), some (.str (T f)), u4, u5, u6, none] ∧ Ex H H' ∧ r.Nodup ∧ (∀ x ∈ r, x ∈ lets n) ∧ r.length + i = r0.length ∧ f ++ canon ps r = canon ps r0 ∧ f.length + r.length = r0.length)
    (fun H3 e3 => ⟨[], r0, _, _, _, rfl, e2.trans e3, hfn, hfs, by omega, rfl, by rw [List.length_nil]; omega⟩) (fun i l σ' H' hi h => ?_) fun l σ' H' h => ?_
  · obtain ⟨f, r, u4, u5, u6, rfl, eH, nd, sub, hlen, hcan, hfl2⟩ := h
    have hrl : r.length ≤ 5 := by omega
    have hrne : r ≠ [] := fun e => by rw [e, List.length_nil] at hlen; omega
    have hr128 : ∀ c ∈ r, c < 128 := fun c hc => lets_128 (sub c hc)
    intro pp hpp
    refine g_forR1 (n := r.length) (ea_cons (ev_cb1 (ev_var rfl) (rc_lens (by omega))) ea_nil) (by omega) (fun j l2 σ2 H2 => ∃ u6, σ2 = [some (.ref cp), some (.str (T w)), some (.str (T r)), some (.str (T f)), some (.int (i : Int)), some (.ref pp), u6, none] ∧ Ex H' H2 ∧ H2 pp = some (SgnL pp l2 ((r.take j).filter (free ps r))))
      (fun H3 e3 => ⟨_, rfl, (Ex.new hpp).trans e3, by rw [List.take_zero]; exact e3 _ _ upd_same⟩) (fun j l2 σ2 H2 hj h => ?_) fun l2 σ2 H2 h => ?_
    · obtain ⟨u6, rfl, ex2, hp2⟩ := h
      have hx := getD_at hj
      have htk : r.take (j + 1) = r.take j ++ [r.getD j 0] := by
        rw [List.take_succ_eq_append_getElem hj, List.getD_eq_getElem?_getD, List.getElem?_eq_getElem hj]; rfl
      generalize r.getD j 0 = x at hx htk
      have hxr : x ∈ r := List.mem_of_getElem? hx
      have c2 := c.ex (eH.trans ex2)
      have hfil : (r.take (j + 1)).filter (free ps r) = (r.take j).filter (free ps r) ++ (if free ps r x = true then [x] else []) := by
        rw [htk, List.filter_append, List.filter_cons]; rfl
      have htest : EvT (tTest (tOp (rEqD K) (tLc (iStr (tSl rSlS (tVar 2) tNoPart (tPart (tVar 6)))) (gName 7) (tB (tCall (spE pFriend) [] C8.E0 (tCons (tVar 0) (tCons (tVar 7) (tCons (tOp rIxS (tVar 2) (tVar 6)) tNil))))) (tVar 7) [7]) (tLst tNil))) [some (.ref cp), some (.str (T w)), some (.str (T r)), some (.str (T f)), some (.int (i : Int)), some (.ref pp), some (.int (j : Int)), none] H2 (free ps r x) := by
        rw [← free_take nd hx]
        refine et_test (ev_opLL (xs := ((r.take j).filter fun y => fr ps y x).map one) (el_lc (xs := r.take j) (enc := one) (fun y => fr ps y x) one (iw_str (ev_take (ev_var rfl) (ev_var rfl) (by omega))) (by rw [List.length_take]; omega) (fun _ => rfl) (fun y hy => ?_) fun y hy _ => ev_var rfl) (el_lst ea_nil (Nat.zero_le _)) fun p1 q1 H3 h3 h4 e3 => rv_eqNil (fun c hc => hr128 c (List.mem_of_mem_take (List.mem_filter.mp hc).1)) h3 h4)
        exact et_B (ev_call (ea_cons (ev_var rfl) (ea_cons (ev_var rfl) (ea_cons (ev_op (ev_var rfl) (ev_var rfl) (rv_ixs (by omega) hx)) ea_nil))) (ok_friend c2 (sub y (List.mem_of_mem_take hy)) (sub x hxr)))
      refine htest H2 (Ex.refl _) _ fun H3 e3 => ?_
      by_cases hf : free ps r x = true
      · rw [if_pos hf]
        rw [hf, if_pos rfl] at hfil
        refine ⟨pp, _, r, x, j, rfl, e3 _ _ hp2, rfl, rfl, hx, by omega, ?_, fun lo' => ⟨_, rfl, (ex2.trans e3).mut hpp, ?_⟩⟩
        · have h1 := List.length_filter_le (free ps r) (r.take j)
          rw [List.length_take] at h1
          omega
        · rw [hfil]; exact upd_same
      · rw [if_neg hf]
        rw [if_neg hf, List.append_nil] at hfil
        refine ⟨_, rfl, ex2.trans e3, ?_⟩
        rw [hfil]; exact e3 _ _ hp2
    · obtain ⟨u6, rfl, ex2, hp2⟩ := h
      rw [List.take_length] at hp2
      have hp2 : H2 pp = some (SgnL pp l2 (frees ps r)) := hp2
      have hne := frees_ne ps hrne
      have hpm := pick_mem ps hrne
      have hstep := canon_step ps nd hrne
      have hless := len_less nd hpm
      refine (ev_op (ev_var rfl) (ev_cb1 (ev_var rfl) (rc_minS hp2 hne)) (rv_adds (a := f) (b := [least (frees ps r)]) (by rw [List.length_singleton]; omega))) H2 (Ex.refl _) _ fun H3 e3 => ?_
      refine ⟨pp, frees ps r, r, rfl, rfl, e3 _ _ hp2, hne, by omega, fun tq htq => ⟨tq, _, rfl, st_of upd_same, rfl, _, _, rfl, _, _, rfl, rfl, ?_⟩⟩
      refine ⟨f ++ [pick ps r], r.filter (· != pick ps r), _, _, _, rfl, ((eH.trans ex2).trans e3).trans (Ex.new htq), nd.filter _, fun x hx => sub x (List.mem_filter.mp hx).1, by omega, ?_, by rw [List.length_append, List.length_singleton]; omega⟩
      rw [List.append_assoc, ← hcan, hstep]; rfl
  · obtain ⟨f, r, u4, u5, u6, rfl, eH, nd, sub, hlen, hcan, hfl2⟩ := h
    have hr0 : r = [] := List.length_eq_zero_iff.mp (by omega)
    subst hr0
    rw [canon_nil, List.append_nil] at hcan
    subst hcan
    exact s_ret (ev_var rfl) fun H3 e3 => q H3 (eH.trans e3)
theorem firsts_kind {n : Nat} {ps : List (Nat × Nat)} {w : List Nat} (h : ∀ c ∈ w, c ∈ lets n) : Kind n ps (canon ps (firsts w)) := by
  have hfn := firsts_nodup w
  exact ⟨canon_nodup ps hfn, fun c hc => h c (firsts_sub c ((canon_perm ps hfn).mem_iff.mp hc)), canon_canon ps hfn⟩
theorem el_word {σ : L2.St} {H : Hp} {ta : TA} {E : XK} {r sc cp : Addr} {n : Nat} {ps : List (Nat × Nat)} {m : Int} {Q : VK} (h : EvA ta σ H [.ref r, .ref cp, .int m]) (hr : RowH K H r sc) (c : Comp H cp n ps) (g : Good n ps) (m0 : 0 < m) (m1 : m ≤ 20) (q : ∀ (H' : Hp) (w : List Nat), ExB r H H' → RowH K H' r sc → w.length ≤ 20 → (∀ c ∈ w, c ∈ lets n) → Q (.str (T w)) H') : tCall (spWord K) [] E ta σ H Q :=
  h H (Ex.refl H) _ fun H1 e1 => ⟨r, sc, cp, n, ps, m, rfl, hr.ex e1, c.ex e1, g, m0, m1, fun H' w e2 => q H' w ((exb_of e1).trans e2)⟩
/-! ### _law_drawn_kind -/
def spDrawn (K : PySem.W.Frag) : Sp := fun vs H Q _ => ∃ (r sc cp : Addr) (n : Nat) (ps : List (Nat × Nat)), vs = [.ref r, .ref cp] ∧ RowH K H r sc ∧ Comp H cp n ps ∧ Good n ps ∧ ∀ (H' : Hp) (k : List Nat), ExB r H H' → RowH K H' r sc → Kind n ps k → Q (.str (T k)) H'
theorem c__law_drawn_kind (p : Prog K mg ta tm) : C8.Cal P w K mg base 3 "_law_drawn_kind" (spDrawn K) [] := by
  have B := p.B
  refine p.d__law_drawn_kind.cal sc__law_drawn_kind (fun vs H Q E ⟨_, _, _, _, _, e, _⟩ => by rw [e]; rfl) fun cdv f A outer s H vs Q E hr h => ?_
  obtain ⟨r, sc, cp, n, ps, rfl, row0, c0, g, q⟩ := h
  have hn5 := g.n5
  have hn1 := g.n1
  obtain ⟨pt, as, hc, hp, hps⟩ := id c0
  refine ⟨_, (pss_one (ps_ret (C8.pe_c (c__law_kind p) hr (by omega) rfl (pa_cons (pv 1) (pa_cons (pe_m1 PySem.F.slot_str_join PySem.F.type_str_join (mt_joinT rfl) pe_str (pe_ix ix_list (pe_lst (pa_cons pe_str (pa_cons (C8.pe_c (c__law_word p) hr (by omega) rfl (pa_cons (pv 0) (pa_cons (pv 1) (pa_cons (pe_op op_mul pe_int (pe_ix ix_tup (pv 1) pe_int (fun _ _ => rfl))) pa_nil)))) pa_nil))) (pe_callTy call_int1 (by rfl) B.int (by decide +kernel) (pa_cons (pe_cmpR op_gt (C8.pe_c (c__law_taken p) hr (by omega) rfl (pa_cons (pv 0) (pa_cons pe_int pa_nil))) pe_int (nomark _)) pa_nil)) (fun _ _ => rfl))) pa_nil))))), ?_⟩
  refine ret_go (call_go (cons_go ⟨_, rfl, cons_go ?_⟩))
  refine ⟨⟨_, rfl⟩, op_go (lst_go (cons_go (c_go (cons_go ?_))))⟩
  refine el_word (m := 2 * (n : Int)) (ea_cons (ev_var rfl) (ea_cons (ev_var rfl) (ea_cons (ev_op ev_c (ev_ixt (K := K) (i := 0) (ev_var rfl) ev_c hc rfl) (iv_mul (.inl ⟨by decide, by decide⟩))) ea_nil))) row0 c0 g (by omega) (by omega) fun H1 w e1 row1 hwl hw => ?_
  refine ⟨by show 2 ≤ sizeLine; decide, fun pl hpl => cb_go (cons_go (op_go ?_))⟩
  have hplr : pl ≠ r := row1.ne0 hpl
  refine el_take (ea_cons (ev_var rfl) (ea_cons ev_c ea_nil)) (row1.ex (Ex.new hpl)) (by decide) (by decide) fun H2 v e2 row2 a0 a1 => ?_
  refine ⟨_, _, rfl, rfl, ?_⟩
  refine .inr ⟨_, rfl, ?_⟩
  have h2 : H2 pl = some (.lst [.str (Str.ofString ""), .str (T w)]) := e2 _ _ hplr upd_same
  have e12 : ExB r H H2 := (e1.trans (exb_of (Ex.new hpl))).trans e2
  have c2 := c0.exb row0 e12
  have fin : ∀ l : List Nat, l.length ≤ 20 → (∀ c ∈ l, c ∈ lets n) → ∃ l' : List Nat, V.str (T l) = .str (T l') ∧ True := fun l _ _ => ⟨l, rfl, trivial⟩
  have go : ∀ l : List Nat, l.length ≤ 20 → (∀ c ∈ l, c ∈ lets n) → spE pLKind ([.ref cp, .str (T l)] ++ []) H2 Q C8.E0 := fun l hl hs =>
    ⟨_, ⟨cp, n, ps, l, rfl, c2, g, hs, by omega, rfl⟩, fun H3 e3 => q H3 _ (e12.trans (exb_of e3)) (row2.ex e3) (firsts_kind hs)⟩
  by_cases hv : decide ((0 : Int) < v) = true
  · rw [if_pos hv]
    exact ⟨pl, _, 1, _, rfl, rfl, sq_of h2, rfl, w, congrArg V.str lit_empty, rfl, fun c hc => lets_128 (hw c hc), by omega, go w hwl hw⟩
  · rw [if_neg hv]
    exact ⟨pl, _, 0, _, rfl, rfl, sq_of h2, rfl, [], congrArg V.str lit_empty, congrArg (fun z => [V.str z]) lit_empty, (fun c hc => nomatch hc), Nat.zero_le _, go [] (Nat.zero_le _) (fun c hc => nomatch hc)⟩
end
end K5
end
section
namespace K5
open PySem PySem.Spec PyProof.Rows L2 Evl
section
variable {K : PySem.W.Frag} {σ : L2.St} {H H' : Hp} {ta tb tc te td ty : TE} {x y z v : V}
theorem ix_listK {X : Cx} {K : PySem.W.Frag} (h : X.K = K) : IxR X (rIxL K) := h ▸ ix_list
/-- isinstance(x, (a, b)) -/
theorem ev_isiT {a b c : String} {r r1 r2 : Bool} (ha : Ev ta σ H x) (hx : ∀ H1, Ex H H1 → TyX K H1 x (.type a)) (h1 : kitB a b = some r1) (h2 : kitB a c = some r2) (hr : (r1 || r2) = r) :
    Ev (tCB (rIsiT K) (tCons ta (tCons (tTup (tCons (tC (.ty b)) (tCons (tC (.ty c)) tNil))) tNil))) σ H (.bl r) := fun H1 e Q q =>
  ha H1 e _ fun H2 e2 => (eu_tup (σ := σ) (H := H2) (vs := [.ty b, .ty c]) (ea_cons ev_c (ea_cons ev_c ea_nil)) (by show 2 ≤ 100000; omega)) H2 (Ex.refl _) _ fun tp H3 _ e3 h3 =>
    ⟨x, tp, [.ty b, .ty c], .type a, [.type b, .type c], r, rfl, h3, .cons (.ty b) (.cons (.ty c) .nil), hx H3 ((e.trans e2).trans e3), (by
      refine kitAny_cons (kit_ty h1) (fun e1 => kitAny_cons (kit_ty h2) (fun e2 => ?_) fun e2 => ?_) fun e1 => ?_
      · rw [e1, e2] at hr; rw [← hr]; exact kitAny_nil
      · rw [e1, e2] at hr; rw [← hr]; rfl
      · rw [e1] at hr; rw [← hr]; rfl), q H3 (e2.trans e3)⟩
theorem rv_isN : RV (fun x y H Q => y = V.non ∧ Q (.bl (decide (x = .non))) H) x .non H (.bl (decide (x = .non))) := fun H1 _ Q q => ⟨rfl, q H1 (Ex.refl H1)⟩
/-- two new lists as the arguments of a call -/
theorem ev_call2N {sp : Sp} {E : XK} {xs ys : List V} (h1 : EvL ta σ H xs) (h2 : EvL tb σ H ys) (hs : ∀ p q H1, H1 p = some (.lst xs) → H1 q = some (.lst ys) → Ex H H1 → SpV sp ([.ref p, .ref q] ++ []) H1 z) : Ev (tCall sp [] E (tCons ta (tCons tb tNil))) σ H z := fun H1 e Q k =>
  h1 H1 e _ fun p H2 _ e2 hp => h2 H2 (e.trans e2) _ fun q H3 _ e3 hq => hs p q H3 (e3 _ _ hp) hq ((e.trans e2).trans e3) H3 (Ex.refl _) Q (fun H4 e4 => k H4 ((e2.trans e3).trans e4)) E
end
section
variable {P : Program} {w : World} {K : PySem.W.Frag} {mg : Str → Option Value} {base : Heap} {ta tm : Tok}
/-! ### _law_alike -/
def Scal1 (x : V) : Prop := x = .non ∨ (∃ i, x = .int i) ∨ ∃ l, x = .str (T l)
def Eqv (H : Hp) (k : Nat) (x y : V) : Prop := (1 ≤ k ∧ x = y ∧ Scal1 x) ∨ (2 ≤ k ∧ ∃ (a b : Addr) (ns : List Int), x = .ref a ∧ y = .ref b ∧ H a = some (.lst (ns.map V.int)) ∧ H b = some (.lst (ns.map V.int)) ∧ ns.length ≤ 100)
def pAlike (k : Nat) : List V → Hp → V → Prop := fun vs H z => ∃ x y, vs = [x, y] ∧ Eqv H k x y ∧ z = .bl true
theorem Eqv.ex {H H' : Hp} {k : Nat} {x y : V} (e : Ex H H') (h : Eqv H k x y) : Eqv H' k x y := by
  rcases h with h | ⟨hk, a, b, ns, h1, h2, h3, h4, h5⟩
  · exact .inl h
  · exact .inr ⟨hk, a, b, ns, h1, h2, e _ _ h3, e _ _ h4, h5⟩
theorem ok_alike {k : Nat} {x y : V} {H : Hp} (h : Eqv H k x y) : SpV (spE (pAlike k)) [x, y] H (.bl true) := spE_ok fun H' e => ⟨x, y, rfl, h.ex e, rfl⟩
theorem alike_call (p : Prog K mg ta tm) : ∀ k : Nat, C8.Cal P w K mg base (k + 1) "_law_alike" (spE (pAlike k)) []
  | 0 => p.d__law_alike.cal sc__law_alike (spE_len fun vs H z ⟨_, _, e, _⟩ => by rw [e]; rfl) fun cdv f A outer s H vs Q E hr h => by
    obtain ⟨_, ⟨_, _, _, h, _⟩, _⟩ := h
    rcases h with ⟨h, _⟩ | ⟨h, _⟩ <;> omega
  | k + 1 => by
    have c_ih := alike_call p k
    have B := p.B
    refine p.d__law_alike.cal sc__law_alike (spE_len fun vs H z ⟨_, _, e, _⟩ => by rw [e]; rfl) fun cdv f A outer s H vs Q E hr h => ?_
    obtain ⟨z, ⟨x, y, rfl, hxy, rfl⟩, q⟩ := h
    refine ⟨_, (pss_cons (ps_if (pt_val (pe_callB call_isiT (by rfl) B.isinstance (by decide +kernel) (pa_cons (pv 1) (pa_cons (pe_tup (pa_cons (pe_bltn (v := .ty "tuple") rfl B.tuple (by decide +kernel) rfl) (pa_cons (pe_bltn (v := .ty "list") rfl B.list (by decide +kernel) rfl) pa_nil))) pa_nil)))) (pss_cons (ps_if (PW.pt (pw_or (pt_not (pt_val (pe_callB call_isiT (by rfl) B.isinstance (by decide +kernel) (pa_cons (pv 0) (pa_cons (pe_tup (pa_cons (pe_bltn (v := .ty "tuple") rfl B.tuple (by decide +kernel) rfl) (pa_cons (pe_bltn (v := .ty "list") rfl B.list (by decide +kernel) rfl) pa_nil))) pa_nil))))) (pw_or1 (pt_cmpR op_ne (pe_callB call_isi (by rfl) B.isinstance (by decide +kernel) (pa_cons (pv 0) (pa_cons (pe_bltn (v := .ty "list") rfl B.list (by decide +kernel) rfl) pa_nil))) (pe_callB call_isi (by rfl) B.isinstance (by decide +kernel) (pa_cons (pv 1) (pa_cons (pe_bltn (v := .ty "list") rfl B.list (by decide +kernel) rfl) pa_nil))) (nomark _))))) (pss_one (ps_ret pe_bl)) pss_nil)
        (pss_cons (ps_if (pt_cmpR op_ne (pe_callB call_len_seq (by rfl) B.len PySem.boot_len (pa_cons (pv 0) pa_nil)) (pe_callB call_len_seq (by rfl) B.len PySem.boot_len (pa_cons (pv 1) pa_nil)) (nomark _)) (pss_one (ps_ret pe_bl)) pss_nil)
        (pss_one (ps_ret (pe_cmpR (op_eqD hr.units) (pe_lc (own := [("_law_k", 2)]) (g := gName 2) rfl sc__law_alike.nd (pi_range1 rfl B.range (pa_cons (pe_callB call_len_seq (by rfl) B.len PySem.boot_len (pa_cons (pv 1) pa_nil)) pa_nil)) (blkOk_by (N := N__law_alike) (sc := defScope s__law_alike) (by decide +kernel)) (fun _ _ _ _ _ => (pg_name (i := 2) sc__law_alike.nd rfl (Or.inl rfl))) (fun _ _ _ _ _ => pts_one (pt_not (pt_val (C8.pe_c c_ih hr (by omega) rfl (pa_cons (pe_ix (ix_listK (K := K) rfl) (pv 0) (pv 2) (fun _ _ => rfl)) (pa_cons (pe_ix (ix_listK (K := K) rfl) (pv 1) (pv 2) (fun _ _ => rfl)) pa_nil)))))) (fun _ _ _ _ _ => (pv 2))) (pe_lst pa_nil) (nomark _)))))) pss_nil)
    (pss_cons (ps_if (PW.pt (pw_or (pt_cmpR op_isN (pv 1) pe_non (nomark _)) (pw_or1 (pt_val (pe_callB call_isi (by rfl) B.isinstance (by decide +kernel) (pa_cons (pv 1) (pa_cons (pe_bltn (v := .ty "str") rfl B.str (by decide +kernel) rfl) pa_nil))))))) (pss_one (ps_ret (pe_and (pe_cmpR op_eq (pv 0) (pv 1) (nomark _)) (pe_one (pe_cmpR op_eq (pe_callB call_isi (by rfl) B.isinstance (by decide +kernel) (pa_cons (pv 0) (pa_cons (pe_bltn (v := .ty "str") rfl B.str (by decide +kernel) rfl) pa_nil))) (pe_callB call_isi (by rfl) B.isinstance (by decide +kernel) (pa_cons (pv 1) (pa_cons (pe_bltn (v := .ty "str") rfl B.str (by decide +kernel) rfl) pa_nil))) (nomark _)))))) pss_nil)
    (pss_one (ps_ret (pe_and (pe_callB call_isi (by rfl) B.isinstance (by decide +kernel) (pa_cons (pv 0) (pa_cons (pe_bltn (v := .ty "int") rfl B.int (by decide +kernel) rfl) pa_nil))) (pe_and (pe_cmpR op_eq (pe_callB call_isi (by rfl) B.isinstance (by decide +kernel) (pa_cons (pv 0) (pa_cons (pe_bltn (v := .ty "bool") rfl B.bool (by decide +kernel) rfl) pa_nil))) (pe_callB call_isi (by rfl) B.isinstance (by decide +kernel) (pa_cons (pv 1) (pa_cons (pe_bltn (v := .ty "bool") rfl B.bool (by decide +kernel) rfl) pa_nil))) (nomark _)) (pe_one (pe_cmpR op_eq (pv 0) (pv 1) (nomark _))))))))), ?_⟩
    rcases hxy with ⟨_, rfl, hx⟩ | ⟨hk, a, b, ns, rfl, rfl, ha, hb, hl⟩
    · rcases hx with rfl | ⟨i, rfl⟩ | ⟨l, rfl⟩
      · -- None
        have ty : ∀ H1, Ex H H1 → TyX K H1 .non (.type "NoneType") := fun _ _ => .base .non
        refine q_when (b := false) (et_B (ev_isiT (ev_var rfl) ty (r1 := false) (r2 := false) (by decide +kernel) (by decide +kernel) rfl)) (fun z => nomatch z) fun _ H1 e1 => ?_
        refine q_when (b := true) (et_is (et_or (a := true) (b := false) (et_test (ev_op (ev_var rfl) ev_c rv_isN)) fun z => nomatch z) rfl) (fun _ H2 e2 => ?_) fun z => nomatch z
        refine s_ret (ev_is (ev_andV (a := true) (b := true) (ev_op (ev_var rfl) (ev_var rfl) (rv_eq rfl)) fun _ => ?_) rfl) fun H3 e3 => q H3 ((e1.trans e2).trans e3)
        exact ev_is (ev_op (ev_isi (r := false) (ev_var rfl) ev_c (fun H4 e4 => .base .non) (by decide +kernel)) (ev_isi (r := false) (ev_var rfl) ev_c (fun H4 e4 => .base .non) (by decide +kernel)) (rv_eq rfl)) rfl
      · -- an int
        refine q_when (b := false) (et_B (ev_isiT (a := "int") (ev_var rfl) (fun _ _ => .base (.int i)) (r1 := false) (r2 := false) (by decide +kernel) (by decide +kernel) rfl)) (fun z => nomatch z) fun _ H1 e1 => ?_
        refine q_when (b := false) (et_is (et_or (a := false) (b := false) (et_test (ev_op (ev_var rfl) ev_c rv_isN)) fun _ => et_B (ev_isi (a := "int") (r := false) (ev_var rfl) ev_c (fun _ _ => .base (.int i)) (by decide +kernel))) rfl) (fun z => nomatch z) fun _ H2 e2 => ?_
        refine s_ret (ev_is (ev_andV (a := true) (b := true) (ev_isi (a := "int") (r := true) (ev_var rfl) ev_c (fun _ _ => .base (.int i)) (by decide +kernel)) fun _ => ?_) rfl) fun H3 e3 => q H3 ((e1.trans e2).trans e3)
        refine ev_is (ev_andV (a := true) (b := true) ?_ fun _ => ?_) rfl
        · exact ev_is (ev_op (ev_isi (a := "int") (r := false) (ev_var rfl) ev_c (fun H4 e4 => .base (.int i)) (by decide +kernel)) (ev_isi (a := "int") (r := false) (ev_var rfl) ev_c (fun H4 e4 => .base (.int i)) (by decide +kernel)) (rv_eq rfl)) rfl
        · exact ev_is (ev_op (ev_var rfl) (ev_var rfl) (rv_eq rfl)) (congrArg V.bl (decide_eq_true rfl))
      · -- a text
        refine q_when (b := false) (et_B (ev_isiT (a := "str") (ev_var rfl) (fun _ _ => .base (.str _)) (r1 := false) (r2 := false) (by decide +kernel) (by decide +kernel) rfl)) (fun z => nomatch z) fun _ H1 e1 => ?_
        refine q_when (b := true) (et_is (et_or (a := false) (b := true) (et_test (ev_op (ev_var rfl) ev_c rv_isN)) fun _ => et_B (ev_isi (a := "str") (r := true) (ev_var rfl) ev_c (fun _ _ => .base (.str _)) (by decide +kernel))) rfl) (fun _ H2 e2 => ?_) fun z => nomatch z
        refine s_ret (ev_is (ev_andV (a := true) (b := true) (ev_is (ev_op (ev_var rfl) (ev_var rfl) (rv_eq rfl)) (congrArg V.bl (decide_eq_true rfl))) fun _ => ?_) rfl) fun H3 e3 => q H3 ((e1.trans e2).trans e3)
        exact ev_is (ev_op (ev_isi (a := "str") (r := true) (ev_var rfl) ev_c (fun H4 e4 => .base (.str _)) (by decide +kernel)) (ev_isi (a := "str") (r := true) (ev_var rfl) ev_c (fun H4 e4 => .base (.str _)) (by decide +kernel)) (rv_eq rfl)) rfl
    · -- two lists
      have tya : ∀ H1, Ex H H1 → TyX K H1 (.ref a) (.type "list") := fun H1 e => .base (.lst (e _ _ ha))
      have tyb : ∀ H1, Ex H H1 → TyX K H1 (.ref b) (.type "list") := fun H1 e => .base (.lst (e _ _ hb))
      refine q_when (b := true) (et_B (ev_isiT (ev_var rfl) tyb (r1 := false) (r2 := true) (by decide +kernel) (by decide +kernel) rfl)) (fun _ H1 e1 => ?_) fun z => nomatch z
      refine q_when (b := false) (et_is (et_or (a := false) (b := false) (et_is (et_not (a := true) (et_B (ev_isiT (ev_var rfl) (fun H2 e2 => tya H2 (e1.trans e2)) (r1 := false) (r2 := true) (by decide +kernel) (by decide +kernel) rfl))) rfl) fun _ => ?_) rfl) (fun z => nomatch z) fun _ H2 e2 => ?_
      · exact et_test (ev_is (ev_op (ev_isi (r := true) (ev_var rfl) ev_c (fun H2 e2 => tya H2 (e1.trans e2)) (by decide +kernel)) (ev_isi (r := true) (ev_var rfl) ev_c (fun H2 e2 => tyb H2 (e1.trans e2)) (by decide +kernel)) (rv_ne rfl)) rfl)
      have e12 := e1.trans e2
      refine q_when (b := false) (et_test (ev_is (ev_op (ev_cb1 (ev_var rfl) (rc_lenL (K := K) (sq_of (e12 _ _ ha)))) (ev_cb1 (ev_var rfl) (rc_lenL (K := K) (sq_of (e12 _ _ hb)))) (rv_ne rfl)) (by simp))) (fun z => nomatch z) fun _ H3 e3 => ?_
      have e13 := e12.trans e3
      have hnil : sel (List.range ns.length) (fun _ => false) num = ([] : List Nat).map one := by
        unfold sel
        rw [List.filter_eq_nil_iff.mpr (fun _ _ => by decide)]; rfl
      refine s_ret (ev_opLL (xs := ([] : List Nat).map one) ?_ (el_lst ea_nil (Nat.zero_le _)) fun p1 q1 H4 h3 h4 e4 => rv_eqNil (fun c hc => by cases hc) h3 h4) fun H4 e4 => q H4 (e13.trans e4)
      rw [← hnil]
      refine el_lc (xs := List.range ns.length) (enc := num) _ _ (iw_rng (ea_cons (ev_is (ev_cb1 (ev_var rfl) (rc_lenL (K := K) (sq_of (e13 _ _ hb)))) (by rw [List.length_map])) ea_nil) (by omega)) (by rw [List.length_range]; omega) (fun _ => rfl) (fun j hj => ?_) fun j hj z => nomatch z
      have hj := List.mem_range.mp hj
      have hat : (ns.map V.int)[j]? = some (.int (ns[j])) := by rw [List.getElem?_map, List.getElem?_eq_getElem hj]; rfl
      exact et_is (et_not (a := true) (et_B (ev_call (ea_cons (ev_op (ev_var rfl) (ev_var rfl) (rv_ixL (sq_of (e13 _ _ ha)) (atI_nat hat))) (ea_cons (ev_op (ev_var rfl) (ev_var rfl) (rv_ixL (sq_of (e13 _ _ hb)) (atI_nat hat))) ea_nil)) (ok_alike (.inl ⟨by omega, rfl, .inr (.inl ⟨_, rfl⟩)⟩))))) rfl
theorem c__law_alike (p : Prog K mg ta tm) : C8.Cal P w K mg base 3 "_law_alike" (spE (pAlike 2)) [] := alike_call p 2
/-! ### _law_orders -/
def encS (l : List Nat) : V := .str (T l)
def spOrders : Sp := fun vs H Q _ => ∃ ls : List Nat, vs = [.str (T ls)] ∧ ls.Pairwise (· < ·) ∧ (∀ c ∈ ls, c < 128) ∧ ls.length ≤ 5 ∧ ∀ (p : Addr) (H' : Hp), H p = none → Ex H H' → H' p = some (.lst ((ords ls ls.length).map encS)) → Q (.ref p) H'
theorem srt_id {l : List Nat} (h : l.Pairwise (· < ·)) : srt l = l := perm_up_uniq (srt_perm l) (srt_up l) (h.imp Nat.le_of_lt)
theorem ords_len {ls : List Nat} (h : ls.length ≤ 5) {i : Nat} (hi : i ≤ 5) : (ords ls i).length ≤ 3125 := by
  refine Nat.le_trans (len_ords i) (Nat.le_trans (Nat.pow_le_pow_left h i) ?_)
  have : i = 0 ∨ i = 1 ∨ i = 2 ∨ i = 3 ∨ i = 4 ∨ i = 5 := by omega
  rcases this with rfl | rfl | rfl | rfl | rfl | rfl <;> decide
def stepO (ls r : List Nat) : List (List Nat) := (ls.filter fun c => !r.contains c).map fun c => r ++ [c]
theorem c__law_orders (p : Prog K mg ta tm) : C8.Cal P w K mg base 1 "_law_orders" spOrders [] := by
  have B := p.B
  refine p.d__law_orders.cal sc__law_orders (fun vs H Q E ⟨_, e, _⟩ => by rw [e]; rfl) fun cdv f A outer s H vs Q E hr h => ?_
  obtain ⟨ls, rfl, hup, h128, hl5, q⟩ := h
  refine ⟨_, (pss_cons (ps_set (i := 1) sc__law_orders.nd rfl (Or.inl rfl) (pe_lst (pa_cons pe_str pa_nil)))
    (pss_cons (ps_for PassesOwn.never rfl (pi_range1 rfl B.range (pa_cons (pe_callB call_len_str (by rfl) B.len PySem.boot_len (pa_cons (pv 0) pa_nil)) pa_nil)) (pg_name (i := 2) sc__law_orders.nd rfl (Or.inl rfl))
      (pss_cons (ps_set (i := 3) sc__law_orders.nd rfl (Or.inl rfl) (pe_lst pa_nil))
        (pss_cons (ps_for PassesOwn.never rfl (pi_list (pv 1)) (pg_name (i := 4) sc__law_orders.nd rfl (Or.inr rfl))
          (pss_one (ps_set (i := 3) sc__law_orders.nd rfl (Or.inl rfl) (pe_op op_cat (pv 3) (pe_lc (own := [("_law_sign", 5)]) (g := gName 5) rfl sc__law_orders.nd (pi_list (pe_callB (cr_sortedT rfl) (by rfl) B.sorted (by decide +kernel) (pa_cons (pv 0) pa_nil))) (blkOk_by (N := N__law_orders) (sc := defScope s__law_orders) (by decide +kernel)) (fun _ _ _ _ _ => (pg_name (i := 5) sc__law_orders.nd rfl (Or.inl rfl))) (fun _ _ _ _ _ => pts_one (pt_cmpR op_notIn_sign (pv 5) (pv 4) rfl)) (fun _ _ _ _ _ => (pe_op op_add_str (pv 4) (pv 5))))))))
        (pss_one (ps_set (i := 1) sc__law_orders.nd rfl (Or.inl rfl) (pv 3))))))
    (pss_one (ps_ret (pv 1))))), ?_⟩
  refine q_asgL (xs := [encS []]) (el_lst (ea_cons (ev_is ev_c (congrArg V.str lit_empty)) ea_nil) (by show 1 ≤ 100000; omega)) fun p0 H1 hp0 e1 h1 => ?_
  refine q_forR1 (n := (ls.length : Int)) (ea_cons (ev_cb1 (ev_var rfl) (rc_lens (by omega))) ea_nil) (by omega) (fun i σ' H' => ∃ (pr : Addr) (u2 u3 u4 : Option V), σ' = [some (.str (T ls)), some (.ref pr), u2, u3, u4, none] ∧ H pr = none ∧ Ex H H' ∧ H' pr = some (.lst ((ords ls i).map encS)))
    (fun H2 e2 => ⟨p0, _, _, _, rfl, hp0, e1.trans e2, e2 _ _ h1⟩) (fun i σ' H' hi h => ?_) fun σ' H' h => ?_
  · obtain ⟨pr, u2, u3, u4, rfl, hpr, eH, hl⟩ := h
    have hi' : i < ls.length := by omega
    refine q_asgL (xs := []) (el_lst ea_nil (Nat.zero_le _)) fun p3 H2 hp3 e2 h2 => ?_
    have hol := ords_len hl5 (i := i) (by omega)
    have hol1 := ords_len hl5 (i := i + 1) (by omega)
    refine q_forW (xs := ords ls i) (enc := encS) (iw_list (ev_var rfl) (sq_of (e2 _ _ hl))) (fun H3 j σ2 H4 => ∃ (pl : Addr) (u4 : Option V), σ2 = [some (.str (T ls)), some (.ref pr), some (.int (i : Int)), some (.ref pl), u4, none] ∧ H pl = none ∧ Ex H3 H4 ∧ H4 pl = some (.lst ((((ords ls i).take j).flatMap (stepO ls)).map encS)))
      (fun H3 e3 => ⟨p3, _, rfl, fresh_back eH hp3, Ex.refl _, e3 _ _ h2⟩) (fun _ _ _ _ ⟨_, _, _, _, e, _⟩ => e) (fun H3 j r σ2 H4 e3 hj h => ?_) fun H3 σ2 H4 e3 h => ?_
    · obtain ⟨pl, u4, rfl, hpl, e4, h4⟩ := h
      have hjl := (List.getElem?_eq_some_iff.mp hj).1
      have htk : (ords ls i).take (j + 1) = (ords ls i).take j ++ [r] := by
        rw [List.take_succ_eq_append_getElem hjl, (List.getElem?_eq_some_iff.mp hj).2]
      have hlen : (((ords ls i).take (j + 1)).flatMap (stepO ls)).length ≤ 3125 := by
        refine Nat.le_trans ?_ hol1
        show _ ≤ ((ords ls i).flatMap (stepO ls)).length
        have e : (ords ls i) = (ords ls i).take (j + 1) ++ (ords ls i).drop (j + 1) := (List.take_append_drop _ _).symm
        conv => rhs; rw [e]
        rw [List.flatMap_append, List.length_append]
        exact Nat.le_add_right _ _
      rw [htk, List.flatMap_append, List.length_append] at hlen
      have hs1 : [r].flatMap (stepO ls) = stepO ls r := by simp
      rw [hs1] at hlen
      have hrl : r.length ≤ 5 := by
        have := (mem_ords.mp (List.mem_of_getElem? hj)).1
        omega
      refine s_asgT (op_go ⟨_, rfl, ?_⟩)
      refine (el_lc (xs := ls) (enc := one) (fun c => !r.contains c) (fun c => encS (r ++ [c])) (iw_listN (by
        have := rcl_sorted (H := H4) h128 (by omega : ls.length < 64)
        rw [srt_id hup] at this
        exact el_cb1 (ev_var rfl) this)) (by omega) (fun _ => rfl) (fun c hc => et_is (et_test (ev_op (ev_var rfl) (ev_var rfl) (rv_nosign (l := r)))) (by rw [List.contains_eq_mem])) fun c hc _ => ev_op (ev_var rfl) (ev_var rfl) (rv_adds (by rw [List.length_singleton]; omega))) H4 (Ex.refl _) _ fun L H5 hL e5 h5 => ?_
      have hsel : sel ls (fun c => !r.contains c) (fun c => encS (r ++ [c])) = (stepO ls r).map encS := by
        unfold sel stepO
        rw [List.map_map]; rfl
      rw [hsel] at h5
      refine ⟨pl, L, _, _, rfl, rfl, e5 _ _ h4, h5, sz_of (by rw [List.length_map, List.length_map]; omega), fun p2 hp2 => ⟨p2, _, rfl, ?_, (e4.trans e5).trans (Ex.new hp2), ?_⟩⟩
      · exact fresh_back (((eH.trans e2).trans e3).trans (e4.trans e5)) hp2
      · rw [upd_same, htk, List.flatMap_append, hs1, List.map_append]
    · obtain ⟨pl, u4, rfl, hpl, e4, h4⟩ := h
      rw [List.take_length] at h4
      refine s_asg (ev_var rfl) fun H5 e5 => ⟨pl, _, _, _, rfl, hpl, (((eH.trans e2).trans e3).trans e4).trans e5, ?_⟩
      exact e5 _ _ h4
  · obtain ⟨pr, u2, u3, u4, rfl, hpr, eH, hl⟩ := h
    have : ((ls.length : Int)).toNat = ls.length := by omega
    rw [this] at hl
    exact s_ret (ev_var rfl) fun H2 e2 => q pr H2 hpr (eH.trans e2) (e2 _ _ hl)
end
end K5
end
section
namespace K5
open PySem PySem.Spec PyProof.Rows L2 Evl
/-! ### a new list, not of the written part -/
def tLstK (K : PySem.W.Frag) (t : TA) : TE := fun σ H Q => t σ H fun xs H1 => xs.length ≤ sizeLine ∧ ∀ p, H1 p = none → K.lookup p = none → Q (.ref p) (upd H1 p (.lst xs))
theorem pe_lstK {X : Cx} {es : List Expr} {t : TA} {pos : Pos} (items : PA X es t) : PE X (.List es pos) (tLstK X.K t) := ⟨fun pins s σ H Q I h => by
  refine wpAny_List_spliced (thn (items.run pos pins s σ H _ I h) fun us s1 got => ?_)
  obtain ⟨xs, H1, I1, vals, short, q⟩ := got
  have fresh : X.K.lookup s1.heap.objs.size = none := by
    cases e : X.K.lookup s1.heap.objs.size with
    | none => rfl
    | some o => exact absurd (Heap.lt_size (I1.kIn _ _ e)) (Nat.lt_irrefl _)
  have new := Heap.get?_push_size s1.heap (o := { cls := .type "list", data := .seq us.toArray }) rfl
  refine ⟨by rw [← vals.length]; exact short, .ref s1.heap.objs.size, upd H1 s1.heap.objs.size (.lst xs), ?_, rfl, q _ (I1.hok.fresh (Nat.le_refl _)) fresh⟩
  exact I1.laid (t' := s1.toks) (fun b u e => Heap.get?_push_of_some _ e) (Nat.le_refl _) ⟨short, us, 0, vals, new⟩⟩
theorem lstK_go {K : PySem.W.Frag} {σ : L2.St} {H : Hp} {ta : TA} {Q : VK} (h : ta σ H fun xs H1 => xs.length ≤ sizeLine ∧ ∀ p, H1 p = none → K.lookup p = none → Q (.ref p) (upd H1 p (.lst xs))) : tLstK K ta σ H Q := h
theorem dec_ints {i j : Int} : decide (V.int i = V.int j) = decide (i = j) := by rw [dec_int]; rfl
section
variable {K : PySem.W.Frag} {σ : L2.St} {H H' : Hp} {ta tb tc te td ty : TE} {x y z v : V}
theorem rv_neNil {p q : Addr} {l : List Nat} (h128 : ∀ c ∈ l, c < 128) (hp : H p = some (.lst (l.map one))) (hq : H q = some (.lst [])) : RV (rNeD K) (.ref p) (.ref q) H (.bl (!l.isEmpty)) := fun H1 e Q k =>
  ⟨.list (l.map fun c => PyData.str (T [c])), .list [], .lst (sq_of (e _ _ hp)) (dp_ones l), .lst (sq_of (e _ _ hq)) .nil, ones_shaped l h128, ones_shaped [] (fun _ h => nomatch h), by
    have : PyData.eqv (.list (l.map fun c => PyData.str (T [c]))) (.list []) = l.isEmpty := by cases l <;> rfl
    rw [this]
    exact k H1 (Ex.refl H1)⟩
theorem ev_neNil {p : Addr} {l : List Nat} (h128 : ∀ c ∈ l, c < 128) (h : Ev ta σ H (.ref p)) (hp : H p = some (.lst (l.map one))) : Ev (tOp (rNeD K) ta (tLst tNil)) σ H (.bl (!l.isEmpty)) :=
  ev_opL h (el_lst ea_nil (by decide)) fun q H1 hq e => rv_neNil h128 (e _ _ hp) hq
end
theorem ok_orders {ls : List Nat} {H : Hp} (h1 : ls.Pairwise (· < ·)) (h2 : ∀ c ∈ ls, c < 128) (h3 : ls.length ≤ 5) : SpL spOrders [.str (T ls)] H ((ords ls ls.length).map encS) := fun H1 e Q q E => ⟨ls, rfl, h1, h2, h3, fun p H' hp e' hl => q p H' hp e' hl⟩
theorem rst_filter {n : Nat} {k w : List Nat} (h : ∀ c ∈ k, c ∈ w) : (rst n k).filter (fun s => !decide (s ∈ w)) = rst n w := by
  unfold rst
  rw [List.filter_filter]
  refine List.filter_congr fun c _ => ?_
  rw [List.contains_eq_mem, List.contains_eq_mem]
  by_cases hw : c ∈ w
  · simp [hw]
  · have hk : c ∉ k := fun z => hw (h c z)
    simp [hw, hk]
theorem goods_filter {ps : List (Nat × Nat)} {n : Nat} (g : Good n ps) {k w : List Nat} (h : ∀ c ∈ k, c ∈ w) (nd : w.Nodup) (sub : ∀ c ∈ w, c ∈ lets n) (t : Int) :
    (rst n k).filter (fun s => !decide (s ∈ w) && decide (LV ps n (w ++ [s]) (1 - t) = LV ps n w t)) = goods ps n w t := by
  rw [← goods_law g nd sub t, ← rst_filter h, List.filter_filter]
  refine List.filter_congr fun c _ => ?_
  rw [Bool.and_comm]
theorem put_head {ps : List (Nat × Nat)} {n : Nat} {w : List Nat} {t : Int} (h : rst n w ≠ []) : (goods ps n w t)[0]? = some (put ps n w t) := by
  have hne := goods_ne ps n t h
  unfold put
  cases e : goods ps n w t with
  | nil => exact absurd e hne
  | cons x r => rfl
theorem goods_sub {ps : List (Nat × Nat)} {n : Nat} {w : List Nat} {t : Int} : ∀ c ∈ goods ps n w t, c ∈ rst n w := fun c hc => (List.mem_filter.mp hc).1
section
variable {P : Program} {w : World} {K : PySem.W.Frag} {mg : Str → Option Value} {base : Heap} {ta tm : Tok}
/-! ### law -/
def spLaw (K : PySem.W.Frag) : Sp := fun vs H Q _ => ∃ (a : Addr) (cells : List Int), vs = [.ref a] ∧ SqL K H a (cells.map V.int) ∧ cells.length ≤ 63 ∧ ∀ H', Q (.bl true) H'
theorem law_ok (p : Prog K mg ta tm) {f : Addr} {fd : FuncData} (F : L2.Fun K "law" "law" s_law f fd) : FnOk P w K mg base CX0 10 f fd ["_law_script"] (spLaw K) := by
  have B := p.B
  refine F.ok sc_law (fun vs H Q E ⟨_, _, e, _⟩ => by rw [e]; rfl) fun cdv A outer s H vs Q E hr h => ?_
  obtain ⟨a, cells, rfl, hS, hlen, q⟩ := h
  refine ⟨_, (pss_cons (ps_set (i := 1) sc_law.nd rfl (Or.inl rfl) (pe_lstK (pa_cons (pv 0) (pa_cons pe_int (pa_cons pe_int (pa_cons pe_int pa_nil))))))
    (pss_cons (ps_set (i := 2) sc_law.nd rfl (Or.inr rfl) (C8.pe_c (c__law_company p) hr (by omega) rfl (pa_cons (pv 1) (pa_cons pe_int pa_nil))))
    (pss_cons (ps_asg (pe_tup (pa_cons (C8.pe_c (c__law_drawn_kind p) hr (by omega) rfl (pa_cons (pv 1) (pa_cons (pv 2) pa_nil))) (pa_cons (C8.pe_c (c__law_taken p) hr (by omega) rfl (pa_cons (pv 1) (pa_cons pe_int pa_nil))) pa_nil))) (pg_tup rfl (pgs_cons (pg_name (i := 3) sc_law.nd rfl (Or.inr rfl)) (pgs_cons (pg_name (i := 4) sc_law.nd rfl (Or.inr rfl)) pgs_nil))))
    (pss_cons (ps_set (i := 5) sc_law.nd rfl (Or.inr rfl) (C8.pe_c (c__law_value p) hr (by omega) rfl (pa_cons (pv 2) (pa_cons (pv 3) (pa_cons (pv 4) pa_nil)))))
    (pss_cons (ps_if (pt_not (pt_val (C8.pe_c (c__law_alike p) hr (by omega) rfl (pa_cons (pe_lst (pa_cons (C8.pe_c (c_rising p) hr (by omega) rfl (pa_cons (pv 2) (pa_cons (pv 3) pa_nil))) (pa_cons (C8.pe_c (c_best_rising p) hr (by omega) rfl (pa_cons (pv 2) (pa_cons (pv 3) (pa_cons (pv 4) pa_nil)))) pa_nil))) (pa_cons (pe_lst (pa_cons (C8.pe_c (c__law_rising p) hr (by omega) rfl (pa_cons (pv 2) (pa_cons (pv 3) pa_nil))) (pa_cons (pv 5) pa_nil))) pa_nil))))) (pss_one (ps_ret pe_bl)) pss_nil)
    (pss_cons (ps_setLc (i := 6) (own := [("_law_sign", 16)]) (g := gName 16) rfl sc_law.nd rfl rfl (sw_true rfl rfl rfl (by decide +kernel)) (pi_str (pe_slice sl_str pe_str po_none (po_some (pe_ix ix_tup (pv 2) pe_int (fun _ _ => rfl))))) (blkOk_by (N := N_law) (sc := defScope s_law) (by decide +kernel)) (fun _ _ _ _ _ => (pg_name (i := 16) sc_law.nd rfl (Or.inl rfl))) (fun _ _ _ _ _ => pts_one (pt_cmpR op_notIn_sign (pv 16) (pv 3) rfl)) (fun _ _ _ _ _ => (pv 16)))
    (pss_cons (ps_setLc (i := 7) (own := [("_law_sign", 16)]) (g := gName 16) rfl sc_law.nd rfl rfl (sw_true rfl rfl rfl (by decide +kernel)) (pi_list (pv 6)) (blkOk_by (N := N_law) (sc := defScope s_law) (by decide +kernel)) (fun _ _ _ _ _ => (pg_name (i := 16) sc_law.nd rfl (Or.inl rfl))) (fun _ _ _ _ _ => pts_one (pt_cmpR op_eq (C8.pe_c (c__law_value p) hr (by omega) rfl (pa_cons (pv 2) (pa_cons (pe_op op_add_str (pv 3) (pv 16)) (pa_cons (pe_op op_sub pe_int (pv 4)) pa_nil)))) (pv 5) (nomark _))) (fun _ _ _ _ _ => (pv 16)))
    (pss_cons (ps_if (pt_not (pt_val (C8.pe_c (c__law_alike p) hr (by omega) rfl (pa_cons (C8.pe_c (c_best_letter p) hr (by omega) rfl (pa_cons (pv 2) (pa_cons (pv 3) (pa_cons (pv 4) pa_nil)))) (pa_cons (pe_ifExp (pt_cmpR (op_neD hr.units) (pv 7) (pe_lst pa_nil) (nomark _)) (pe_ix ix_list (pv 7) pe_int (fun _ _ => rfl)) pe_non) pa_nil))))) (pss_one (ps_ret pe_bl)) pss_nil)
    (pss_cons (ps_asg (pe_tup (pa_cons (pv 3) (pa_cons (pv 4) (pa_cons pe_str pa_nil)))) (pg_tup rfl (pgs_cons (pg_name (i := 8) sc_law.nd rfl (Or.inr rfl)) (pgs_cons (pg_name (i := 9) sc_law.nd rfl (Or.inr rfl)) (pgs_cons (pg_name (i := 10) sc_law.nd rfl (Or.inl rfl)) pgs_nil)))))
    (pss_cons (ps_for PassesOwn.never rfl (pi_range1 rfl B.range (pa_cons (pe_callB call_len_seq (by rfl) B.len PySem.boot_len (pa_cons (pv 6) pa_nil)) pa_nil)) (pg_name (i := 11) sc_law.nd rfl (Or.inl rfl))
      (pss_cons (ps_set (i := 12) sc_law.nd rfl (Or.inr rfl) (C8.pe_c (c__law_value p) hr (by omega) rfl (pa_cons (pv 2) (pa_cons (pv 8) (pa_cons (pv 9) pa_nil)))))
        (pss_cons (ps_setLc (i := 13) (own := [("_law_sign", 16)]) (g := gName 16) rfl sc_law.nd rfl rfl (sw_true rfl rfl rfl (by decide +kernel)) (pi_list (pv 6)) (blkOk_by (N := N_law) (sc := defScope s_law) (by decide +kernel)) (fun _ _ _ _ _ => (pg_name (i := 16) sc_law.nd rfl (Or.inl rfl))) (fun _ _ _ _ _ => pts_one (PW.pt (pw_and (pt_cmpR op_notIn_sign (pv 16) (pv 8) rfl) (pw_and1 (pt_cmpR op_eq (C8.pe_c (c__law_value p) hr (by omega) rfl (pa_cons (pv 2) (pa_cons (pe_op op_add_str (pv 8) (pv 16)) (pa_cons (pe_op op_sub pe_int (pv 9)) pa_nil)))) (pv 12) (nomark _)))))) (fun _ _ _ _ _ => (pv 16)))
        (pss_one (ps_asg (pe_tup (pa_cons (pe_op op_add_str (pv 8) (pe_ix ix_list (pv 13) pe_int (fun _ _ => rfl))) (pa_cons (pe_op op_sub pe_int (pv 9)) (pa_cons (pe_op op_add_str (pv 10) (pe_ix ix_list (pv 13) pe_int (fun _ _ => rfl))) pa_nil)))) (pg_tup rfl (pgs_cons (pg_name (i := 8) sc_law.nd rfl (Or.inr rfl)) (pgs_cons (pg_name (i := 9) sc_law.nd rfl (Or.inr rfl)) (pgs_cons (pg_name (i := 10) sc_law.nd rfl (Or.inl rfl)) pgs_nil)))))))))
    (pss_cons (ps_if (pt_not (pt_val (C8.pe_c (c__law_alike p) hr (by omega) rfl (pa_cons (C8.pe_c (c_best_play p) hr (by omega) rfl (pa_cons (pv 2) (pa_cons (pv 3) (pa_cons (pv 4) pa_nil)))) (pa_cons (pv 10) pa_nil))))) (pss_one (ps_ret pe_bl)) pss_nil)
    (pss_cons (ps_setLc (i := 14) (own := [("_law_order", 15)]) (g := gName 15) (tt := tYes) rfl sc_law.nd rfl rfl (sw_true rfl rfl rfl (by decide +kernel)) (pi_list (C8.pe_c (c__law_orders p) hr (by omega) rfl (pa_cons (pe_join pe_str (pv 6)) pa_nil))) (blkOk_by (N := N_law) (sc := defScope s_law) (by decide +kernel)) (fun _ _ _ _ _ => (pg_name (i := 15) sc_law.nd rfl (Or.inl rfl))) (fun _ _ _ _ _ => pts_nil) (fun _ _ _ _ _ => (C8.pe_c (c__law_rising p) hr (by omega) rfl (pa_cons (pv 2) (pa_cons (pe_op op_add_str (pv 3) (pv 15)) pa_nil)))))
    (pss_one (ps_ret (C8.pe_c (c__law_alike p) hr (by omega) rfl (pa_cons (pe_lst (pa_cons (C8.pe_c (c_most_rising p) hr (by omega) rfl (pa_cons (pv 2) (pa_cons (pv 3) pa_nil))) (pa_cons (C8.pe_c (c_fewest_rising p) hr (by omega) rfl (pa_cons (pv 2) (pa_cons (pv 3) pa_nil))) pa_nil))) (pa_cons (pe_lst (pa_cons (pe_callB (cr_max rfl) (by rfl) B.max (by decide +kernel) (pa_cons (pv 14) pa_nil)) (pa_cons (pe_callB (cr_min rfl) (by rfl) B.min (by decide +kernel) (pa_cons (pv 14) pa_nil)) pa_nil))) pa_nil))))))))))))))))), ?_⟩
  -- the row
  refine q_asgT (lstK_go ?_)
  refine (ea_cons (ev_var rfl) (ea_cons ev_c (ea_cons ev_c (ea_cons ev_c ea_nil)))) H (Ex.refl _) _ fun H0 e0 => ⟨by show 4 ≤ sizeLine; decide, fun r hr0 hKr => g_name ?_⟩
  have hKr : K.lookup r = none := hKr
  have hSa := ex_l e0 hS
  have har : a ≠ r := by
    rcases hSa with (h1 | ⟨o, h1⟩) | ⟨o, its, m, h1, _⟩
    · exact ne_of_none h1 hr0
    · exact ne_of_none h1 hr0
    · intro z; rw [z, hKr] at h1; cases h1
  have row1 : RowH K (upd H0 r (.lst [.ref a, .int 0, .int 7950, .int 0])) r a := ⟨cells, 0, 7950, 0, har, ex_l (Ex.new hr0) hSa, hlen, upd_same, Int.le_refl 0⟩
  generalize upd H0 r (.lst [.ref a, .int 0, .int 7950, .int 0]) = H1 at row1
  clear hSa hS e0 hr0 hKr
  try dsimp only
  -- the company
  refine q_asgT (call_go ?_)
  refine (ea_cons (ev_var rfl) (ea_cons ev_c ea_nil)) H1 (Ex.refl _) _ fun H2 e2 => ⟨r, a, rfl, row1.ex e2, fun H3 cp n ps e3 row3 c3 g => g_name ?_⟩
  try dsimp only
  have hn5 := g.n5
  -- the kind, the turn
  refine q_asgT (tup_go (cons_go (call_go ?_)))
  refine (ea_cons (ev_var rfl) (ea_cons (ev_var rfl) ea_nil)) H3 (Ex.refl _) _ fun H4 e4 => ⟨r, a, cp, n, ps, rfl, row3.ex e4, c3.ex e4, g, fun H5 k e5 row5 kd => cons_go ?_⟩
  refine el_take (ea_cons (ev_var rfl) (ea_cons ev_c ea_nil)) row5 (by decide) (by decide) fun H6 t e6 row6 t0 t1 => ?_
  refine ⟨by show 2 ≤ sizeLine; decide, fun tp htp => ⟨tp, _, rfl, st_of upd_same, rfl, _, _, rfl, _, _, rfl, rfl, ?_⟩⟩
  have c7 : Comp (upd H6 tp (.tup [.str (T k), .int t])) cp n ps := (((c3.ex e4).exb (row3.ex e4) e5).exb row5 e6).ex (Ex.new htp)
  generalize upd H6 tp (.tup [.str (T k), .int t]) = H7 at c7
  have t1' : t ≤ 1 := by omega
  clear htp e6 row6 row5 e5 e4 e3 row3 c3 e2 row1
  try dsimp only
  have hkl := words_len (by omega) kd.nd kd.sub
  have hrl := rst_le (n := n) (by omega) k
  have hLV := LV_Vp g kd.nd kd.sub t
  have hk128 : ∀ c ∈ k, c < 128 := fun c hc => lets_128 (kd.sub c hc)
  have ok0 := rest_ok kd
  have ok0' := rest_ok' kd
  -- its value
  refine q_asg (ev_call (ea_cons (ev_var rfl) (ea_cons (ev_var rfl) (ea_cons (ev_var rfl) ea_nil))) (ok_lv c7 g kd.nd kd.sub (by omega))) fun H8 e8 => ?_
  have c8 := c7.ex e8
  refine q_when (b := false) (et_is (et_not (a := true) (et_B (ev_call2N (xs := [.int (rise ps k : Nat), .int ((rise ps k : Nat) + Vp ps n k t)]) (ys := [.int (rise ps k : Nat), .int (LV ps n k t)])
    (el_lst (ea_cons (ev_call (ea_cons (ev_var rfl) (ea_cons (ev_var rfl) ea_nil)) (ok_rising c8 g kd)) (ea_cons (ev_call (ea_cons (ev_var rfl) (ea_cons (ev_var rfl) (ea_cons (ev_var rfl) ea_nil))) (ok_bestR c8 g kd t0 t1')) ea_nil)) (by show 2 ≤ 100000; omega))
    (el_lst (ea_cons (ev_call (ea_cons (ev_var rfl) (ea_cons (ev_var rfl) ea_nil)) (ok_lr c8 kd.sub (by omega))) (ea_cons (ev_var rfl) ea_nil)) (by show 2 ≤ 100000; omega))
    fun p1 q1 G1 hp1 hq1 eG => ok_alike (.inr ⟨by omega, p1, q1, [(rise ps k : Nat), (rise ps k : Nat) + Vp ps n k t], rfl, rfl, hp1, by rw [hLV] at hq1; exact hq1, by show 2 ≤ 100; omega⟩)))) rfl) (fun z => nomatch z) fun _ H9 e9 => ?_
  have c9 := c8.ex e9
  -- the rest
  obtain ⟨pt, as, hc9, hp9, hps9⟩ := id c9
  refine q_asgL (el_rest (cp := cp) (ps := ps) (by omega) (ev_take (l := alph) (k := n) (ev_is ev_c (congrArg V.str lit_alph)) (ev_ixt (i := 0) (ev_var rfl) ev_c hc9 rfl) (by decide)) (fun _ => rfl) (fun _ => rfl) fun c => ev_var rfl) fun pr H10 hpr e10 h10 => ?_
  have c10 := c9.ex e10
  -- the best ones
  refine q_asgL (xs := (goods ps n k t).map one) (by
    have hsel : sel (rst n k) (fun s => decide (LV ps n (k ++ [s]) (1 - t) = LV ps n k t)) one = (goods ps n k t).map one := by
      unfold sel; rw [goods_law g kd.nd kd.sub t]
    rw [← hsel]
    refine el_lc (xs := rst n k) (enc := one) _ one (iw_list (ev_var rfl) (sq_of h10)) (by omega) (fun _ => rfl) (fun s hs => ?_) fun s hs _ => ev_var rfl
    have ok := snoc_ok kd.nd kd.sub hs
    have hlen2 := rst_len n hs
    exact et_is (et_test (ev_op (ev_call (ea_cons (ev_var rfl) (ea_cons (ev_op (ev_var rfl) (ev_var rfl) (rv_adds (by rw [List.length_singleton]; omega))) (ea_cons (ev_op ev_c (ev_var rfl) iv_sub) ea_nil))) (ok_lv c10 g ok.1 ok.2 (by omega))) (ev_var rfl) (rv_eq rfl))) dec_ints) fun pb H11 hpb e11 h11 => ?_
  have c11 := c10.ex e11
  have hg128 : ∀ c ∈ goods ps n k t, c < 128 := fun c hc => rst_128 c (goods_sub c hc)
  refine q_when (b := false) (et_is (et_not (a := true) (et_B (ev_call (ea_cons (ev_call (ea_cons (ev_var rfl) (ea_cons (ev_var rfl) (ea_cons (ev_var rfl) ea_nil))) (ok_bestL c11 g kd t0 t1')) (ea_cons (ev_if (v := if rst n k = [] then .non else one (put ps n k t)) (et_test (ev_neNil hg128 (ev_var rfl) h11)) (fun hb => ?_) (fun hb => ?_)) ea_nil)) (ok_alike (.inl ⟨by omega, rfl, ?_⟩))))) rfl) (fun z => nomatch z) fun _ H12 e12 => ?_
  · have hne : rst n k ≠ [] := fun e => by
      have : goods ps n k t = [] := by unfold goods; rw [e]; rfl
      rw [this] at hb; cases hb
    rw [if_neg hne]
    exact ev_op (ev_var rfl) ev_c (rv_ixL (sq_of h11) (atI_nat (j := 0) (by rw [List.getElem?_map, put_head hne]; rfl)))
  · have hr0 : rst n k = [] := by
      by_cases e : rst n k = []
      · exact e
      · have := goods_ne ps n t e
        rw [Bool.not_eq_false', List.isEmpty_iff] at hb
        exact absurd hb this
    rw [if_pos hr0]
    exact ev_c
  · by_cases e : rst n k = []
    · rw [if_pos e]; exact .inl rfl
    · rw [if_neg e]; exact .inr (.inr ⟨_, rfl⟩)
  -- best play
  have c12 := c11.ex e12
  have e10_12 := e11.trans e12
  refine q_asgT ?_
  refine eu_tup (vs := [.str (T k), .int t, .str (T [])]) (ea_cons (ev_var rfl) (ea_cons (ev_var rfl) (ea_cons (ev_is ev_c (congrArg V.str lit_empty)) ea_nil))) (by show 3 ≤ 100000; omega) H12 (Ex.refl _) _ fun tq H13 htq e13 h13 => ?_
  refine ⟨tq, _, rfl, st_of h13, rfl, _, _, rfl, _, _, rfl, _, _, rfl, rfl, ?_⟩
  try dsimp only
  have c13 := c12.ex e13
  have h13r := e13 _ _ (e10_12 _ _ h10)
  generalize hres : play ps n (rst n k).length k t = res
  refine q_forR1 (n := ((rst n k).length : Int)) (ea_cons (ev_is (ev_cb1 (ev_var rfl) (rc_lenL (K := K) (sq_of h13r))) (by rw [List.length_map])) ea_nil) (by omega) (fun i σ' H' => ∃ (w f : List Nat) (m : Int) (u11 u12 u13 : Option V), σ' = [some (.ref a), some (.ref r), some (.ref cp), some (.str (T k)), some (.int t), some (.int (LV ps n k t)), some (.ref pr), some (.ref pb), some (.str (T w)), some (.int m), some (.str (T f)), u11, u12, u13, none, none, none] ∧
      Ex H13 H' ∧ w.Nodup ∧ (∀ c ∈ w, c ∈ lets n) ∧ (∀ c ∈ k, c ∈ w) ∧ (rst n w).length + i = (rst n k).length ∧ f.length = i ∧ f ++ play ps n (rst n w).length w m = res)
    (fun H14 e14 => ⟨k, [], t, _, _, _, rfl, e14, kd.nd, kd.sub, fun c hc => hc, rfl, rfl, hres⟩) (fun i σ' H' hi h => ?_) fun σ' H' h => ?_
  · obtain ⟨w, f, m, u11, u12, u13, rfl, eH, nd, sub, hkw, hlw, hfl, hplay⟩ := h
    have cH := c13.ex eH
    have hwl := words_len (by omega) nd sub
    have hne : rst n w ≠ [] := fun e => by rw [e, List.length_nil] at hlw; omega
    refine q_asg (ev_call (ea_cons (ev_var rfl) (ea_cons (ev_var rfl) (ea_cons (ev_var rfl) ea_nil))) (ok_lv cH g nd sub (by omega))) fun H14 e14 => ?_
    have c14 := cH.ex e14
    refine q_asgL (xs := (goods ps n w m).map one) (by
      have hsel : sel (rst n k) (fun s => !decide (s ∈ w) && decide (LV ps n (w ++ [s]) (1 - m) = LV ps n w m)) one = (goods ps n w m).map one := by
        unfold sel; rw [goods_filter g hkw nd sub m]
      rw [← hsel]
      refine el_lc (xs := rst n k) (enc := one) _ one (iw_list (ev_var rfl) (sq_of (e14 _ _ (eH _ _ h13r)))) (by omega) (fun _ => rfl) (fun s hs => ?_) fun s hs _ => ev_var rfl
      refine et_and (et_test (ev_op (ev_var rfl) (ev_var rfl) rv_nosign)) fun hsw => ?_
      have hsw' : s ∉ w := by simpa using hsw
      have hsr : s ∈ rst n w := (mem_rst n).mpr ⟨((mem_rst n).mp hs).1, hsw'⟩
      have ok := snoc_ok nd sub hsr
      have hlen2 := rst_len n hsr
      exact et_is (et_test (ev_op (ev_call (ea_cons (ev_var rfl) (ea_cons (ev_op (ev_var rfl) (ev_var rfl) (rv_adds (by rw [List.length_singleton]; omega))) (ea_cons (ev_op ev_c (ev_var rfl) iv_sub) ea_nil))) (ok_lv c14 g ok.1 ok.2 (by omega))) (ev_var rfl) (rv_eq rfl))) dec_ints) fun ps2 H15 hps2 e15 h15 => ?_
    have hpm := put_mem ps n m hne
    have ok := snoc_ok nd sub hpm
    have hlen2 := rst_len n hpm
    have hat : ((goods ps n w m).map one)[0]? = some (one (put ps n w m)) := by rw [List.getElem?_map, put_head hne]; rfl
    refine s_asgT ?_
    refine eu_tup (vs := [.str (T (w ++ [put ps n w m])), .int (1 - m), .str (T (f ++ [put ps n w m]))]) (ea_cons (ev_op (ev_var rfl) (ev_op (ev_var rfl) ev_c (rv_ixL (sq_of h15) (atI_nat (j := 0) hat))) (rv_adds (by rw [List.length_singleton]; omega))) (ea_cons (ev_op ev_c (ev_var rfl) iv_sub) (ea_cons (ev_op (ev_var rfl) (ev_op (ev_var rfl) ev_c (rv_ixL (sq_of h15) (atI_nat (j := 0) hat))) (rv_adds (by rw [List.length_singleton]; omega))) ea_nil))) (by show 3 ≤ 100000; omega) H15 (Ex.refl _) _ fun tr H16 htr e16 h16 => ?_
    refine ⟨tr, _, rfl, st_of h16, rfl, _, _, rfl, _, _, rfl, _, _, rfl, rfl, ?_⟩
    refine ⟨w ++ [put ps n w m], f ++ [put ps n w m], 1 - m, _, _, _, rfl, ((eH.trans e14).trans e15).trans e16, ok.1, ok.2, fun c hc => List.mem_append_left _ (hkw c hc), by omega, by rw [List.length_append, List.length_singleton]; omega, ?_⟩
    rw [← hplay]
    have hl1 : (rst n w).length = ((rst n w).length - 1) + 1 := by omega
    have hl2 : (rst n (w ++ [put ps n w m])).length = (rst n w).length - 1 := by omega
    rw [hl2]
    generalize (rst n w).length - 1 = j at hl1
    rw [hl1]
    show _ = f ++ (if rst n w = [] then [] else put ps n w m :: play ps n j (w ++ [put ps n w m]) (1 - m))
    rw [if_neg hne, List.append_assoc]; rfl
  · obtain ⟨w, f, m, u11, u12, u13, rfl, eH, nd, sub, hkw, hlw, hfl, hplay⟩ := h
    have h0 : (rst n w).length = 0 := by omega
    have hf : f = res := by
      rw [← hplay, h0]
      show f = f ++ []
      rw [List.append_nil]
    subst hf
    have cH := c13.ex eH
    refine q_when (b := false) (et_is (et_not (a := true) (et_B (ev_call (ea_cons (ev_is (ev_call (ea_cons (ev_var rfl) (ea_cons (ev_var rfl) (ea_cons (ev_var rfl) ea_nil))) (ok_bestP cH g kd t0 t1')) (by rw [hres])) (ea_cons (ev_var rfl) ea_nil)) (ok_alike (.inl ⟨by omega, rfl, .inr (.inr ⟨_, rfl⟩)⟩))))) rfl) (fun z => nomatch z) fun _ H14 e14 => ?_
    have c14 := cH.ex e14
    have h14r := e14 _ _ (eH _ _ h13r)
    -- all orders
    have hol := ords_len (ls := rst n k) (by omega) (i := (rst n k).length) (by omega)
    refine q_asgL (xs := ((ords (rst n k) (rst n k).length).map fun o => (rise ps (k ++ o) : Int)).map V.int) (by
      rw [List.map_map]
      refine el_lcY (xs := ords (rst n k) (rst n k).length) (enc := encS) (fun o => V.int (rise ps (k ++ o) : Nat)) (iw_listN (el_call (ea_cons (ev_joinL (K := K) ev_c (ev_var rfl) (sq_of h14r) (by omega)) ea_nil) (ok_orders (rst_up n k) rst_128 (by omega)))) (by omega) (fun _ => rfl) fun o ho => ?_
      obtain ⟨ho1, ho2, ho3⟩ := mem_ords.mp ho
      exact ev_call (ea_cons (ev_var rfl) (ea_cons (ev_op (ev_var rfl) (ev_var rfl) (rv_adds (a := k) (b := o) (by omega))) ea_nil)) (ok_lr c14 (fun c hc => by
        rcases List.mem_append.mp hc with z | z
        · exact kd.sub c z
        · exact ((mem_rst n).mp (ho3 c z)).1) (by rw [List.length_append]; omega))) fun pe H15 hpe e15 h15 => ?_
    have c15 := c14.ex e15
    have hone : ((ords (rst n k) (rst n k).length).map fun o => (rise ps (k ++ o) : Int)) ≠ [] := by
      have := perm_ords (rst_nodup n k) (.refl (rst n k))
      intro e
      rw [List.map_eq_nil_iff] at e
      rw [e] at this; cases this
    refine s_ret (ev_call2N (xs := [.int (rise ps (k ++ rst n k) : Nat), .int (rise ps (k ++ (rst n k).reverse) : Nat)]) (ys := [.int (rise ps (k ++ rst n k) : Nat), .int (rise ps (k ++ (rst n k).reverse) : Nat)])
      (el_lst (ea_cons (ev_call (ea_cons (ev_var rfl) (ea_cons (ev_var rfl) ea_nil)) (ok_most c15 g kd)) (ea_cons (ev_call (ea_cons (ev_var rfl) (ea_cons (ev_var rfl) ea_nil)) (ok_few c15 g kd)) ea_nil)) (by show 2 ≤ 100000; omega))
      (el_lst (ea_cons (ev_is (ev_cb1 (ev_var rfl) (rc_max (sq_of h15) hone)) (by rw [most_law kd.nd, rise_canon ps ok0.1])) (ea_cons (ev_is (ev_cb1 (ev_var rfl) (rc_min (sq_of h15) hone)) (by rw [fewest_law kd.nd, rise_canon ps ok0'.1])) ea_nil)) (by show 2 ≤ 100000; omega))
      fun p1 q1 G1 hp1 hq1 eG => ok_alike (.inr ⟨by omega, p1, q1, [(rise ps (k ++ rst n k) : Nat), (rise ps (k ++ (rst n k).reverse) : Nat)], rfl, rfl, hp1, hq1, by show 2 ≤ 100; omega⟩)) fun H16 e16 => q H16
end
end K5
end
section
namespace K5
open PySem PySem.Spec PyProof.Rows L2 Evl
/-! ### what the top has written -/
theorem defA_mk {K : PySem.W.Frag} {h : Heap} {mg : Str → Option Value} {x : Str} {st : Stmt} {ps : List Str} {f : Addr} {od an : Option Addr} {sl : Array (Option Value)} {oc kV doc pm cd ct : Value} (X : K.In h) (G : h.Ns mainGlobals mg)
    (a : PySem.W.nsIn K mainGlobals x = some (some (.ref f))) (l : K.lookup f = some ⟨oc, od, .func (PySem.W.fnOf x x (defArgs st) (defBody st) (defScope st) .none kV doc pm an cd ct), sl⟩) (c : PySem.W.codeIn K cd x = true) (k : PySem.W.keepIn K (.ref f) = true)
    (b : ∀ F : L2.Fun K x x st f (PySem.W.fnOf x x (defArgs st) (defBody st) (defScope st) .none kV doc pm an cd ct), Binds K (PySem.W.fnOf x x (defArgs st) (defBody st) (defScope st) .none kV doc pm an cd ct) ps []) : DefA K mg x st ps :=
  ⟨⟨f, _, fun_mk l c k, PySem.W.mg_of X G a, b (fun_mk l c k)⟩⟩
theorem all_mk {l : PySem.W.OpenLaw} {w : World} {K : PySem.W.Frag} {h : Heap} {mg : Str → Option Value} {fa : Addr} {ta tm : Tok} (X : K.In h) (G : h.Ns mainGlobals mg) (hfa : mg "law" = some (.ref fa))
    {f0 : Addr} {od0 an0 : Option Addr} {sl0 : Array (Option Value)} {oc0 kV0 dc0 pm0 cd0 ct0 : Value} (a0 : PySem.W.nsIn K mainGlobals "whole" = some (some (.ref f0))) (l0 : K.lookup f0 = some ⟨oc0, od0, .func (PySem.W.fnOf "whole" "whole" (defArgs s_whole) (defBody s_whole) (defScope s_whole) .none kV0 dc0 pm0 an0 cd0 ct0), sl0⟩) (c0 : PySem.W.codeIn K cd0 "whole" = true) (k0 : PySem.W.keepIn K (.ref f0) = true)
    {f1 : Addr} {od1 an1 : Option Addr} {sl1 : Array (Option Value)} {oc1 kV1 dc1 pm1 cd1 ct1 : Value} (a1 : PySem.W.nsIn K mainGlobals "within" = some (some (.ref f1))) (l1 : K.lookup f1 = some ⟨oc1, od1, .func (PySem.W.fnOf "within" "within" (defArgs s_within) (defBody s_within) (defScope s_within) .none kV1 dc1 pm1 an1 cd1 ct1), sl1⟩) (c1 : PySem.W.codeIn K cd1 "within" = true) (k1 : PySem.W.keepIn K (.ref f1) = true)
    {f2 : Addr} {od2 an2 : Option Addr} {sl2 : Array (Option Value)} {oc2 kV2 dc2 pm2 cd2 ct2 : Value} (a2 : PySem.W.nsIn K mainGlobals "need_number" = some (some (.ref f2))) (l2 : K.lookup f2 = some ⟨oc2, od2, .func (PySem.W.fnOf "need_number" "need_number" (defArgs s_need_number) (defBody s_need_number) (defScope s_need_number) .none kV2 dc2 pm2 an2 cd2 ct2), sl2⟩) (c2 : PySem.W.codeIn K cd2 "need_number" = true) (k2 : PySem.W.keepIn K (.ref f2) = true)
    {f3 : Addr} {od3 an3 : Option Addr} {sl3 : Array (Option Value)} {oc3 kV3 dc3 pm3 cd3 ct3 : Value} (a3 : PySem.W.nsIn K mainGlobals "tuple_of" = some (some (.ref f3))) (l3 : K.lookup f3 = some ⟨oc3, od3, .func (PySem.W.fnOf "tuple_of" "tuple_of" (defArgs s_tuple_of) (defBody s_tuple_of) (defScope s_tuple_of) .none kV3 dc3 pm3 an3 cd3 ct3), sl3⟩) (c3 : PySem.W.codeIn K cd3 "tuple_of" = true) (k3 : PySem.W.keepIn K (.ref f3) = true)
    {f4 : Addr} {od4 an4 : Option Addr} {sl4 : Array (Option Value)} {oc4 kV4 dc4 pm4 cd4 ct4 : Value} (a4 : PySem.W.nsIn K mainGlobals "need_company" = some (some (.ref f4))) (l4 : K.lookup f4 = some ⟨oc4, od4, .func (PySem.W.fnOf "need_company" "need_company" (defArgs s_need_company) (defBody s_need_company) (defScope s_need_company) .none kV4 dc4 pm4 an4 cd4 ct4), sl4⟩) (c4 : PySem.W.codeIn K cd4 "need_company" = true) (k4 : PySem.W.keepIn K (.ref f4) = true)
    {f5 : Addr} {od5 an5 : Option Addr} {sl5 : Array (Option Value)} {oc5 kV5 dc5 pm5 cd5 ct5 : Value} (a5 : PySem.W.nsIn K mainGlobals "is_set" = some (some (.ref f5))) (l5 : K.lookup f5 = some ⟨oc5, od5, .func (PySem.W.fnOf "is_set" "is_set" (defArgs s_is_set) (defBody s_is_set) (defScope s_is_set) .none kV5 dc5 pm5 an5 cd5 ct5), sl5⟩) (c5 : PySem.W.codeIn K cd5 "is_set" = true) (k5 : PySem.W.keepIn K (.ref f5) = true)
    {f6 : Addr} {od6 an6 : Option Addr} {sl6 : Array (Option Value)} {oc6 kV6 dc6 pm6 cd6 ct6 : Value} (a6 : PySem.W.nsIn K mainGlobals "friends_of_all" = some (some (.ref f6))) (l6 : K.lookup f6 = some ⟨oc6, od6, .func (PySem.W.fnOf "friends_of_all" "friends_of_all" (defArgs s_friends_of_all) (defBody s_friends_of_all) (defScope s_friends_of_all) .none kV6 dc6 pm6 an6 cd6 ct6), sl6⟩) (c6 : PySem.W.codeIn K cd6 "friends_of_all" = true) (k6 : PySem.W.keepIn K (.ref f6) = true)
    {f7 : Addr} {od7 an7 : Option Addr} {sl7 : Array (Option Value)} {oc7 kV7 dc7 pm7 cd7 ct7 : Value} (a7 : PySem.W.nsIn K mainGlobals "least_order" = some (some (.ref f7))) (l7 : K.lookup f7 = some ⟨oc7, od7, .func (PySem.W.fnOf "least_order" "least_order" (defArgs s_least_order) (defBody s_least_order) (defScope s_least_order) .none kV7 dc7 pm7 an7 cd7 ct7), sl7⟩) (c7 : PySem.W.codeIn K cd7 "least_order" = true) (k7 : PySem.W.keepIn K (.ref f7) = true)
    {f8 : Addr} {od8 an8 : Option Addr} {sl8 : Array (Option Value)} {oc8 kV8 dc8 pm8 cd8 ct8 : Value} (a8 : PySem.W.nsIn K mainGlobals "is_kind" = some (some (.ref f8))) (l8 : K.lookup f8 = some ⟨oc8, od8, .func (PySem.W.fnOf "is_kind" "is_kind" (defArgs s_is_kind) (defBody s_is_kind) (defScope s_is_kind) .none kV8 dc8 pm8 an8 cd8 ct8), sl8⟩) (c8 : PySem.W.codeIn K cd8 "is_kind" = true) (k8 : PySem.W.keepIn K (.ref f8) = true)
    {f9 : Addr} {od9 an9 : Option Addr} {sl9 : Array (Option Value)} {oc9 kV9 dc9 pm9 cd9 ct9 : Value} (a9 : PySem.W.nsIn K mainGlobals "need_kind" = some (some (.ref f9))) (l9 : K.lookup f9 = some ⟨oc9, od9, .func (PySem.W.fnOf "need_kind" "need_kind" (defArgs s_need_kind) (defBody s_need_kind) (defScope s_need_kind) .none kV9 dc9 pm9 an9 cd9 ct9), sl9⟩) (c9 : PySem.W.codeIn K cd9 "need_kind" = true) (k9 : PySem.W.keepIn K (.ref f9) = true)
    {f10 : Addr} {od10 an10 : Option Addr} {sl10 : Array (Option Value)} {oc10 kV10 dc10 pm10 cd10 ct10 : Value} (a10 : PySem.W.nsIn K mainGlobals "joined" = some (some (.ref f10))) (l10 : K.lookup f10 = some ⟨oc10, od10, .func (PySem.W.fnOf "joined" "joined" (defArgs s_joined) (defBody s_joined) (defScope s_joined) .none kV10 dc10 pm10 an10 cd10 ct10), sl10⟩) (c10 : PySem.W.codeIn K cd10 "joined" = true) (k10 : PySem.W.keepIn K (.ref f10) = true)
    {f11 : Addr} {od11 an11 : Option Addr} {sl11 : Array (Option Value)} {oc11 kV11 dc11 pm11 cd11 ct11 : Value} (a11 : PySem.W.nsIn K mainGlobals "value_of" = some (some (.ref f11))) (l11 : K.lookup f11 = some ⟨oc11, od11, .func (PySem.W.fnOf "value_of" "value_of" (defArgs s_value_of) (defBody s_value_of) (defScope s_value_of) .none kV11 dc11 pm11 an11 cd11 ct11), sl11⟩) (c11 : PySem.W.codeIn K cd11 "value_of" = true) (k11 : PySem.W.keepIn K (.ref f11) = true)
    {f12 : Addr} {od12 an12 : Option Addr} {sl12 : Array (Option Value)} {oc12 kV12 dc12 pm12 cd12 ct12 : Value} (a12 : PySem.W.nsIn K mainGlobals "later_of" = some (some (.ref f12))) (l12 : K.lookup f12 = some ⟨oc12, od12, .func (PySem.W.fnOf "later_of" "later_of" (defArgs s_later_of) (defBody s_later_of) (defScope s_later_of) .none kV12 dc12 pm12 an12 cd12 ct12), sl12⟩) (c12 : PySem.W.codeIn K cd12 "later_of" = true) (k12 : PySem.W.keepIn K (.ref f12) = true)
    {f13 : Addr} {od13 an13 : Option Addr} {sl13 : Array (Option Value)} {oc13 kV13 dc13 pm13 cd13 ct13 : Value} (a13 : PySem.W.nsIn K mainGlobals "gain_of" = some (some (.ref f13))) (l13 : K.lookup f13 = some ⟨oc13, od13, .func (PySem.W.fnOf "gain_of" "gain_of" (defArgs s_gain_of) (defBody s_gain_of) (defScope s_gain_of) .none kV13 dc13 pm13 an13 cd13 ct13), sl13⟩) (c13 : PySem.W.codeIn K cd13 "gain_of" = true) (k13 : PySem.W.keepIn K (.ref f13) = true)
    {f14 : Addr} {od14 an14 : Option Addr} {sl14 : Array (Option Value)} {oc14 kV14 dc14 pm14 cd14 ct14 : Value} (a14 : PySem.W.nsIn K mainGlobals "rising_of" = some (some (.ref f14))) (l14 : K.lookup f14 = some ⟨oc14, od14, .func (PySem.W.fnOf "rising_of" "rising_of" (defArgs s_rising_of) (defBody s_rising_of) (defScope s_rising_of) .none kV14 dc14 pm14 an14 cd14 ct14), sl14⟩) (c14 : PySem.W.codeIn K cd14 "rising_of" = true) (k14 : PySem.W.keepIn K (.ref f14) = true)
    {f15 : Addr} {od15 an15 : Option Addr} {sl15 : Array (Option Value)} {oc15 kV15 dc15 pm15 cd15 ct15 : Value} (a15 : PySem.W.nsIn K mainGlobals "rising" = some (some (.ref f15))) (l15 : K.lookup f15 = some ⟨oc15, od15, .func (PySem.W.fnOf "rising" "rising" (defArgs s_rising) (defBody s_rising) (defScope s_rising) .none kV15 dc15 pm15 an15 cd15 ct15), sl15⟩) (c15 : PySem.W.codeIn K cd15 "rising" = true) (k15 : PySem.W.keepIn K (.ref f15) = true)
    {f16 : Addr} {od16 an16 : Option Addr} {sl16 : Array (Option Value)} {oc16 kV16 dc16 pm16 cd16 ct16 : Value} (a16 : PySem.W.nsIn K mainGlobals "need_play" = some (some (.ref f16))) (l16 : K.lookup f16 = some ⟨oc16, od16, .func (PySem.W.fnOf "need_play" "need_play" (defArgs s_need_play) (defBody s_need_play) (defScope s_need_play) .none kV16 dc16 pm16 an16 cd16 ct16), sl16⟩) (c16 : PySem.W.codeIn K cd16 "need_play" = true) (k16 : PySem.W.keepIn K (.ref f16) = true)
    {f17 : Addr} {od17 an17 : Option Addr} {sl17 : Array (Option Value)} {oc17 kV17 dc17 pm17 cd17 ct17 : Value} (a17 : PySem.W.nsIn K mainGlobals "best_rising" = some (some (.ref f17))) (l17 : K.lookup f17 = some ⟨oc17, od17, .func (PySem.W.fnOf "best_rising" "best_rising" (defArgs s_best_rising) (defBody s_best_rising) (defScope s_best_rising) .none kV17 dc17 pm17 an17 cd17 ct17), sl17⟩) (c17 : PySem.W.codeIn K cd17 "best_rising" = true) (k17 : PySem.W.keepIn K (.ref f17) = true)
    {f18 : Addr} {od18 an18 : Option Addr} {sl18 : Array (Option Value)} {oc18 kV18 dc18 pm18 cd18 ct18 : Value} (a18 : PySem.W.nsIn K mainGlobals "best_letter" = some (some (.ref f18))) (l18 : K.lookup f18 = some ⟨oc18, od18, .func (PySem.W.fnOf "best_letter" "best_letter" (defArgs s_best_letter) (defBody s_best_letter) (defScope s_best_letter) .none kV18 dc18 pm18 an18 cd18 ct18), sl18⟩) (c18 : PySem.W.codeIn K cd18 "best_letter" = true) (k18 : PySem.W.keepIn K (.ref f18) = true)
    {f19 : Addr} {od19 an19 : Option Addr} {sl19 : Array (Option Value)} {oc19 kV19 dc19 pm19 cd19 ct19 : Value} (a19 : PySem.W.nsIn K mainGlobals "best_play" = some (some (.ref f19))) (l19 : K.lookup f19 = some ⟨oc19, od19, .func (PySem.W.fnOf "best_play" "best_play" (defArgs s_best_play) (defBody s_best_play) (defScope s_best_play) .none kV19 dc19 pm19 an19 cd19 ct19), sl19⟩) (c19 : PySem.W.codeIn K cd19 "best_play" = true) (k19 : PySem.W.keepIn K (.ref f19) = true)
    {f20 : Addr} {od20 an20 : Option Addr} {sl20 : Array (Option Value)} {oc20 kV20 dc20 pm20 cd20 ct20 : Value} (a20 : PySem.W.nsIn K mainGlobals "most_rising" = some (some (.ref f20))) (l20 : K.lookup f20 = some ⟨oc20, od20, .func (PySem.W.fnOf "most_rising" "most_rising" (defArgs s_most_rising) (defBody s_most_rising) (defScope s_most_rising) .none kV20 dc20 pm20 an20 cd20 ct20), sl20⟩) (c20 : PySem.W.codeIn K cd20 "most_rising" = true) (k20 : PySem.W.keepIn K (.ref f20) = true)
    {f21 : Addr} {od21 an21 : Option Addr} {sl21 : Array (Option Value)} {oc21 kV21 dc21 pm21 cd21 ct21 : Value} (a21 : PySem.W.nsIn K mainGlobals "fewest_rising" = some (some (.ref f21))) (l21 : K.lookup f21 = some ⟨oc21, od21, .func (PySem.W.fnOf "fewest_rising" "fewest_rising" (defArgs s_fewest_rising) (defBody s_fewest_rising) (defScope s_fewest_rising) .none kV21 dc21 pm21 an21 cd21 ct21), sl21⟩) (c21 : PySem.W.codeIn K cd21 "fewest_rising" = true) (k21 : PySem.W.keepIn K (.ref f21) = true)
    {f22 : Addr} {od22 an22 : Option Addr} {sl22 : Array (Option Value)} {oc22 kV22 dc22 pm22 cd22 ct22 : Value} (a22 : PySem.W.nsIn K mainGlobals "_law_taken" = some (some (.ref f22))) (l22 : K.lookup f22 = some ⟨oc22, od22, .func (PySem.W.fnOf "_law_taken" "_law_taken" (defArgs s__law_taken) (defBody s__law_taken) (defScope s__law_taken) .none kV22 dc22 pm22 an22 cd22 ct22), sl22⟩) (c22 : PySem.W.codeIn K cd22 "_law_taken" = true) (k22 : PySem.W.keepIn K (.ref f22) = true)
    {f23 : Addr} {od23 an23 : Option Addr} {sl23 : Array (Option Value)} {oc23 kV23 dc23 pm23 cd23 ct23 : Value} (a23 : PySem.W.nsIn K mainGlobals "_law_pairs" = some (some (.ref f23))) (l23 : K.lookup f23 = some ⟨oc23, od23, .func (PySem.W.fnOf "_law_pairs" "_law_pairs" (defArgs s__law_pairs) (defBody s__law_pairs) (defScope s__law_pairs) .none kV23 dc23 pm23 an23 cd23 ct23), sl23⟩) (c23 : PySem.W.codeIn K cd23 "_law_pairs" = true) (k23 : PySem.W.keepIn K (.ref f23) = true)
    {f24 : Addr} {od24 an24 : Option Addr} {sl24 : Array (Option Value)} {oc24 kV24 dc24 pm24 cd24 ct24 : Value} (a24 : PySem.W.nsIn K mainGlobals "_law_company" = some (some (.ref f24))) (l24 : K.lookup f24 = some ⟨oc24, od24, .func (PySem.W.fnOf "_law_company" "_law_company" (defArgs s__law_company) (defBody s__law_company) (defScope s__law_company) .none kV24 dc24 pm24 an24 cd24 ct24), sl24⟩) (c24 : PySem.W.codeIn K cd24 "_law_company" = true) (k24 : PySem.W.keepIn K (.ref f24) = true)
    {f25 : Addr} {od25 an25 : Option Addr} {sl25 : Array (Option Value)} {oc25 kV25 dc25 pm25 cd25 ct25 : Value} (a25 : PySem.W.nsIn K mainGlobals "_law_firsts" = some (some (.ref f25))) (l25 : K.lookup f25 = some ⟨oc25, od25, .func (PySem.W.fnOf "_law_firsts" "_law_firsts" (defArgs s__law_firsts) (defBody s__law_firsts) (defScope s__law_firsts) .none kV25 dc25 pm25 an25 cd25 ct25), sl25⟩) (c25 : PySem.W.codeIn K cd25 "_law_firsts" = true) (k25 : PySem.W.keepIn K (.ref f25) = true)
    {f26 : Addr} {od26 an26 : Option Addr} {sl26 : Array (Option Value)} {oc26 kV26 dc26 pm26 cd26 ct26 : Value} (a26 : PySem.W.nsIn K mainGlobals "_law_friend" = some (some (.ref f26))) (l26 : K.lookup f26 = some ⟨oc26, od26, .func (PySem.W.fnOf "_law_friend" "_law_friend" (defArgs s__law_friend) (defBody s__law_friend) (defScope s__law_friend) .none kV26 dc26 pm26 an26 cd26 ct26), sl26⟩) (c26 : PySem.W.codeIn K cd26 "_law_friend" = true) (k26 : PySem.W.keepIn K (.ref f26) = true)
    {f27 : Addr} {od27 an27 : Option Addr} {sl27 : Array (Option Value)} {oc27 kV27 dc27 pm27 cd27 ct27 : Value} (a27 : PySem.W.nsIn K mainGlobals "_law_kind" = some (some (.ref f27))) (l27 : K.lookup f27 = some ⟨oc27, od27, .func (PySem.W.fnOf "_law_kind" "_law_kind" (defArgs s__law_kind) (defBody s__law_kind) (defScope s__law_kind) .none kV27 dc27 pm27 an27 cd27 ct27), sl27⟩) (c27 : PySem.W.codeIn K cd27 "_law_kind" = true) (k27 : PySem.W.keepIn K (.ref f27) = true)
    {f28 : Addr} {od28 an28 : Option Addr} {sl28 : Array (Option Value)} {oc28 kV28 dc28 pm28 cd28 ct28 : Value} (a28 : PySem.W.nsIn K mainGlobals "_law_word" = some (some (.ref f28))) (l28 : K.lookup f28 = some ⟨oc28, od28, .func (PySem.W.fnOf "_law_word" "_law_word" (defArgs s__law_word) (defBody s__law_word) (defScope s__law_word) .none kV28 dc28 pm28 an28 cd28 ct28), sl28⟩) (c28 : PySem.W.codeIn K cd28 "_law_word" = true) (k28 : PySem.W.keepIn K (.ref f28) = true)
    {f29 : Addr} {od29 an29 : Option Addr} {sl29 : Array (Option Value)} {oc29 kV29 dc29 pm29 cd29 ct29 : Value} (a29 : PySem.W.nsIn K mainGlobals "_law_drawn_kind" = some (some (.ref f29))) (l29 : K.lookup f29 = some ⟨oc29, od29, .func (PySem.W.fnOf "_law_drawn_kind" "_law_drawn_kind" (defArgs s__law_drawn_kind) (defBody s__law_drawn_kind) (defScope s__law_drawn_kind) .none kV29 dc29 pm29 an29 cd29 ct29), sl29⟩) (c29 : PySem.W.codeIn K cd29 "_law_drawn_kind" = true) (k29 : PySem.W.keepIn K (.ref f29) = true)
    {f30 : Addr} {od30 an30 : Option Addr} {sl30 : Array (Option Value)} {oc30 kV30 dc30 pm30 cd30 ct30 : Value} (a30 : PySem.W.nsIn K mainGlobals "_law_rising" = some (some (.ref f30))) (l30 : K.lookup f30 = some ⟨oc30, od30, .func (PySem.W.fnOf "_law_rising" "_law_rising" (defArgs s__law_rising) (defBody s__law_rising) (defScope s__law_rising) .none kV30 dc30 pm30 an30 cd30 ct30), sl30⟩) (c30 : PySem.W.codeIn K cd30 "_law_rising" = true) (k30 : PySem.W.keepIn K (.ref f30) = true)
    {f31 : Addr} {od31 an31 : Option Addr} {sl31 : Array (Option Value)} {oc31 kV31 dc31 pm31 cd31 ct31 : Value} (a31 : PySem.W.nsIn K mainGlobals "_law_value" = some (some (.ref f31))) (l31 : K.lookup f31 = some ⟨oc31, od31, .func (PySem.W.fnOf "_law_value" "_law_value" (defArgs s__law_value) (defBody s__law_value) (defScope s__law_value) .none kV31 dc31 pm31 an31 cd31 ct31), sl31⟩) (c31 : PySem.W.codeIn K cd31 "_law_value" = true) (k31 : PySem.W.keepIn K (.ref f31) = true)
    {f32 : Addr} {od32 an32 : Option Addr} {sl32 : Array (Option Value)} {oc32 kV32 dc32 pm32 cd32 ct32 : Value} (a32 : PySem.W.nsIn K mainGlobals "_law_alike" = some (some (.ref f32))) (l32 : K.lookup f32 = some ⟨oc32, od32, .func (PySem.W.fnOf "_law_alike" "_law_alike" (defArgs s__law_alike) (defBody s__law_alike) (defScope s__law_alike) .none kV32 dc32 pm32 an32 cd32 ct32), sl32⟩) (c32 : PySem.W.codeIn K cd32 "_law_alike" = true) (k32 : PySem.W.keepIn K (.ref f32) = true)
    {f33 : Addr} {od33 an33 : Option Addr} {sl33 : Array (Option Value)} {oc33 kV33 dc33 pm33 cd33 ct33 : Value} (a33 : PySem.W.nsIn K mainGlobals "_law_orders" = some (some (.ref f33))) (l33 : K.lookup f33 = some ⟨oc33, od33, .func (PySem.W.fnOf "_law_orders" "_law_orders" (defArgs s__law_orders) (defBody s__law_orders) (defScope s__law_orders) .none kV33 dc33 pm33 an33 cd33 ct33), sl33⟩) (c33 : PySem.W.codeIn K cd33 "_law_orders" = true) (k33 : PySem.W.keepIn K (.ref f33) = true)
    {f34 : Addr} {od34 an34 : Option Addr} {sl34 : Array (Option Value)} {oc34 kV34 dc34 pm34 cd34 ct34 : Value} (a34 : PySem.W.nsIn K mainGlobals "law" = some (some (.ref f34))) (l34 : K.lookup f34 = some ⟨oc34, od34, .func (PySem.W.fnOf "law" "law" (defArgs s_law) (defBody s_law) (defScope s_law) .none kV34 dc34 pm34 an34 cd34 ct34), sl34⟩) (c34 : PySem.W.codeIn K cd34 "law" = true) (k34 : PySem.W.keepIn K (.ref f34) = true)
    (z_isinstance : PySem.W.nsIn K mainGlobals "isinstance" = some none)
    (z_int : PySem.W.nsIn K mainGlobals "int" = some none)
    (z_bool : PySem.W.nsIn K mainGlobals "bool" = some none)
    (z_str : PySem.W.nsIn K mainGlobals "str" = some none)
    (z_tuple : PySem.W.nsIn K mainGlobals "tuple" = some none)
    (z_list : PySem.W.nsIn K mainGlobals "list" = some none)
    (z_len : PySem.W.nsIn K mainGlobals "len" = some none)
    (z_enumerate : PySem.W.nsIn K mainGlobals "enumerate" = some none)
    (z_all : PySem.W.nsIn K mainGlobals "all" = some none)
    (z_range : PySem.W.nsIn K mainGlobals "range" = some none)
    (z_sorted : PySem.W.nsIn K mainGlobals "sorted" = some none)
    (z_max : PySem.W.nsIn K mainGlobals "max" = some none)
    (z_min : PySem.W.nsIn K mainGlobals "min" = some none)
    (z_sum : PySem.W.nsIn K mainGlobals "sum" = some none)
    (y1 : PySem.W.nsIn K mainGlobals "ALPHABET" = some (some (.str (Str.ofString "abcdefg") ta))) (y2 : PySem.W.nsIn K mainGlobals "MOST_LETTERS" = some (some (.int 7 tm))) :
    ∃ fd : FuncData, (∀ (s : Shared) (v : Value), BindsTo s fd ⟨[v], []⟩ [("_law_script", v)]) ∧ ∀ base : Heap, K.In base → base.Ns mainGlobals mg → FnOk l.prog w K mg base CX0 10 fa fd ["_law_script"] (spLaw K) := by
  have e := hfa.symm.trans (PySem.W.mg_of X G a34)
  cases e
  have B : Blt mg ta tm := ⟨PySem.W.mg_none_of X G z_isinstance, PySem.W.mg_none_of X G z_int, PySem.W.mg_none_of X G z_bool, PySem.W.mg_none_of X G z_str, PySem.W.mg_none_of X G z_tuple, PySem.W.mg_none_of X G z_list, PySem.W.mg_none_of X G z_len, PySem.W.mg_none_of X G z_enumerate, PySem.W.mg_none_of X G z_all, PySem.W.mg_none_of X G z_range, PySem.W.mg_none_of X G z_sorted, PySem.W.mg_none_of X G z_max, PySem.W.mg_none_of X G z_min, PySem.W.mg_none_of X G z_sum, (by rw [← lit_alph]; exact PySem.W.mg_of X G y1), PySem.W.mg_of X G y2⟩
  have p : Prog K mg ta tm := ⟨B,
    defA_mk X G a0 l0 c0 k0 fun F => F.binds (ps := ["value"]) fun _ _ _ _ _ _ us hl => match us, hl with | [_], _ => rfl,
    defA_mk X G a1 l1 c1 k1 fun F => F.binds (ps := ["value", "low", "high"]) fun _ _ _ _ _ _ us hl => match us, hl with | [_, _, _], _ => rfl,
    defA_mk X G a2 l2 c2 k2 fun F => F.binds (ps := ["value", "low", "high"]) fun _ _ _ _ _ _ us hl => match us, hl with | [_, _, _], _ => rfl,
    defA_mk X G a3 l3 c3 k3 fun F => F.binds (ps := ["value", "low", "high"]) fun _ _ _ _ _ _ us hl => match us, hl with | [_, _, _], _ => rfl,
    defA_mk X G a4 l4 c4 k4 fun F => F.binds (ps := ["company"]) fun _ _ _ _ _ _ us hl => match us, hl with | [_], _ => rfl,
    defA_mk X G a5 l5 c5 k5 fun F => F.binds (ps := ["company", "value"]) fun _ _ _ _ _ _ us hl => match us, hl with | [_, _], _ => rfl,
    defA_mk X G a6 l6 c6 k6 fun F => F.binds (ps := ["company"]) fun _ _ _ _ _ _ us hl => match us, hl with | [_], _ => rfl,
    defA_mk X G a7 l7 c7 k7 fun F => F.binds (ps := ["told", "order"]) fun _ _ _ _ _ _ us hl => match us, hl with | [_, _], _ => rfl,
    defA_mk X G a8 l8 c8 k8 fun F => F.binds (ps := ["company", "value"]) fun _ _ _ _ _ _ us hl => match us, hl with | [_, _], _ => rfl,
    defA_mk X G a9 l9 c9 k9 fun F => F.binds (ps := ["company", "kind"]) fun _ _ _ _ _ _ us hl => match us, hl with | [_, _], _ => rfl,
    defA_mk X G a10 l10 c10 k10 fun F => F.binds (ps := ["told", "one", "other"]) fun _ _ _ _ _ _ us hl => match us, hl with | [_, _, _], _ => rfl,
    defA_mk X G a11 l11 c11 k11 fun F => F.binds (ps := ["told", "met", "turn", "known"]) fun _ _ _ _ _ _ us hl => match us, hl with | [_, _, _, _], _ => rfl,
    defA_mk X G a12 l12 c12 k12 fun F => F.binds (ps := ["met", "sign"]) fun _ _ _ _ _ _ us hl => match us, hl with | [_, _], _ => rfl,
    defA_mk X G a13 l13 c13 k13 fun F => F.binds (ps := ["told", "met", "sign"]) fun _ _ _ _ _ _ us hl => match us, hl with | [_, _, _], _ => rfl,
    defA_mk X G a14 l14 c14 k14 fun F => F.binds (ps := ["told", "kind"]) fun _ _ _ _ _ _ us hl => match us, hl with | [_, _], _ => rfl,
    defA_mk X G a15 l15 c15 k15 fun F => F.binds (ps := ["company", "kind"]) fun _ _ _ _ _ _ us hl => match us, hl with | [_, _], _ => rfl,
    defA_mk X G a16 l16 c16 k16 fun F => F.binds (ps := ["company", "kind", "turn"]) fun _ _ _ _ _ _ us hl => match us, hl with | [_, _, _], _ => rfl,
    defA_mk X G a17 l17 c17 k17 fun F => F.binds (ps := ["company", "kind", "turn"]) fun _ _ _ _ _ _ us hl => match us, hl with | [_, _, _], _ => rfl,
    defA_mk X G a18 l18 c18 k18 fun F => F.binds (ps := ["company", "kind", "turn"]) fun _ _ _ _ _ _ us hl => match us, hl with | [_, _, _], _ => rfl,
    defA_mk X G a19 l19 c19 k19 fun F => F.binds (ps := ["company", "kind", "turn"]) fun _ _ _ _ _ _ us hl => match us, hl with | [_, _, _], _ => rfl,
    defA_mk X G a20 l20 c20 k20 fun F => F.binds (ps := ["company", "kind"]) fun _ _ _ _ _ _ us hl => match us, hl with | [_, _], _ => rfl,
    defA_mk X G a21 l21 c21 k21 fun F => F.binds (ps := ["company", "kind"]) fun _ _ _ _ _ _ us hl => match us, hl with | [_, _], _ => rfl,
    defA_mk X G a22 l22 c22 k22 fun F => F.binds (ps := ["_law_row", "_law_many"]) fun _ _ _ _ _ _ us hl => match us, hl with | [_, _], _ => rfl,
    defA_mk X G a23 l23 c23 k23 fun F => F.binds (ps := ["_law_many"]) fun _ _ _ _ _ _ us hl => match us, hl with | [_], _ => rfl,
    defA_mk X G a24 l24 c24 k24 fun F => F.binds (ps := ["_law_row", "_law_most"]) fun _ _ _ _ _ _ us hl => match us, hl with | [_, _], _ => rfl,
    defA_mk X G a25 l25 c25 k25 fun F => F.binds (ps := ["_law_word_here"]) fun _ _ _ _ _ _ us hl => match us, hl with | [_], _ => rfl,
    defA_mk X G a26 l26 c26 k26 fun F => F.binds (ps := ["_law_company_here", "_law_one", "_law_other"]) fun _ _ _ _ _ _ us hl => match us, hl with | [_, _, _], _ => rfl,
    defA_mk X G a27 l27 c27 k27 fun F => F.binds (ps := ["_law_company_here", "_law_word_here"]) fun _ _ _ _ _ _ us hl => match us, hl with | [_, _], _ => rfl,
    defA_mk X G a28 l28 c28 k28 fun F => F.binds (ps := ["_law_row", "_law_company_here", "_law_most"]) fun _ _ _ _ _ _ us hl => match us, hl with | [_, _, _], _ => rfl,
    defA_mk X G a29 l29 c29 k29 fun F => F.binds (ps := ["_law_row", "_law_company_here"]) fun _ _ _ _ _ _ us hl => match us, hl with | [_, _], _ => rfl,
    defA_mk X G a30 l30 c30 k30 fun F => F.binds (ps := ["_law_company_here", "_law_order"]) fun _ _ _ _ _ _ us hl => match us, hl with | [_, _], _ => rfl,
    defA_mk X G a31 l31 c31 k31 fun F => F.binds (ps := ["_law_company_here", "_law_order", "_law_turn"]) fun _ _ _ _ _ _ us hl => match us, hl with | [_, _, _], _ => rfl,
    defA_mk X G a32 l32 c32 k32 fun F => F.binds (ps := ["_law_found", "_law_due"]) fun _ _ _ _ _ _ us hl => match us, hl with | [_, _], _ => rfl,
    defA_mk X G a33 l33 c33 k33 fun F => F.binds (ps := ["_law_letters"]) fun _ _ _ _ _ _ us hl => match us, hl with | [_], _ => rfl,
    defA_mk X G a34 l34 c34 k34 fun F => F.binds (ps := ["_law_script"]) fun _ _ _ _ _ _ us hl => match us, hl with | [_], _ => rfl⟩
  exact ⟨PySem.W.fnOf "law" "law" (defArgs s_law) (defBody s_law) (defScope s_law) .none kV34 dc34 pm34 an34 cd34 ct34, fun s v => .of_eq rfl, fun base _ _ => law_ok p (fun_mk l34 c34 k34)⟩
end K5
open PySem PySem.W PyProof.Rows
set_option maxHeartbeats 0 in
theorem PySem.Challenge.cw_oncewords_k50_whole_duels_holds : PySem.Challenge.rw_oncewords_k50_whole_duels.Holds := by
  w_on; o_law; k_head; (case hw => w_witness2)
  k_fill
  refine L2.walk_of (l := PySem.Challenge.rw_oncewords_k50_whole_duels) (n := 63) (k := 10) (x := "_law_script") (CX := fun _ => L2.CX0) (sp := fun w => K5.spLaw _) rfl (by decide) rfl ⟨rfl, by decide, by decide⟩ (fun w h Y => PySem.W.kIn_of Y) ?F (fun _ _ a ns hl _ hS => ⟨a, ns, rfl, hS, hl, fun _ => rfl⟩) (fun _ _ _ _ _ h => h)
  case F =>
    intro w mg fa h KX G hmg
    refine' K5.all_mk KX G hmg ?a0 ?l0 ?c0 ?k0 ?a1 ?l1 ?c1 ?k1 ?a2 ?l2 ?c2 ?k2 ?a3 ?l3 ?c3 ?k3 ?a4 ?l4 ?c4 ?k4 ?a5 ?l5 ?c5 ?k5 ?a6 ?l6 ?c6 ?k6 ?a7 ?l7 ?c7 ?k7 ?a8 ?l8 ?c8 ?k8 ?a9 ?l9 ?c9 ?k9 ?a10 ?l10 ?c10 ?k10 ?a11 ?l11 ?c11 ?k11 ?a12 ?l12 ?c12 ?k12 ?a13 ?l13 ?c13 ?k13 ?a14 ?l14 ?c14 ?k14 ?a15 ?l15 ?c15 ?k15 ?a16 ?l16 ?c16 ?k16 ?a17 ?l17 ?c17 ?k17 ?a18 ?l18 ?c18 ?k18 ?a19 ?l19 ?c19 ?k19 ?a20 ?l20 ?c20 ?k20 ?a21 ?l21 ?c21 ?k21 ?a22 ?l22 ?c22 ?k22 ?a23 ?l23 ?c23 ?k23 ?a24 ?l24 ?c24 ?k24 ?a25 ?l25 ?c25 ?k25 ?a26 ?l26 ?c26 ?k26 ?a27 ?l27 ?c27 ?k27 ?a28 ?l28 ?c28 ?k28 ?a29 ?l29 ?c29 ?k29 ?a30 ?l30 ?c30 ?k30 ?a31 ?l31 ?c31 ?k31 ?a32 ?l32 ?c32 ?k32 ?a33 ?l33 ?c33 ?k33 ?a34 ?l34 ?c34 ?k34 ?z_isinstance ?z_int ?z_bool ?z_str ?z_tuple ?z_list ?z_len ?z_enumerate ?z_all ?z_range ?z_sorted ?z_max ?z_min ?z_sum ?y1 ?y2
    (case a0 => k_is)
    (case l0 => k_is)
    (case c0 => k_is)
    (case k0 => k_is)
    (case a1 => k_is)
    (case l1 => k_is)
    (case c1 => k_is)
    (case k1 => k_is)
    (case a2 => k_is)
    (case l2 => k_is)
    (case c2 => k_is)
    (case k2 => k_is)
    (case a3 => k_is)
    (case l3 => k_is)
    (case c3 => k_is)
    (case k3 => k_is)
    (case a4 => k_is)
    (case l4 => k_is)
    (case c4 => k_is)
    (case k4 => k_is)
    (case a5 => k_is)
    (case l5 => k_is)
    (case c5 => k_is)
    (case k5 => k_is)
    (case a6 => k_is)
    (case l6 => k_is)
    (case c6 => k_is)
    (case k6 => k_is)
    (case a7 => k_is)
    (case l7 => k_is)
    (case c7 => k_is)
    (case k7 => k_is)
    (case a8 => k_is)
    (case l8 => k_is)
    (case c8 => k_is)
    (case k8 => k_is)
    (case a9 => k_is)
    (case l9 => k_is)
    (case c9 => k_is)
    (case k9 => k_is)
    (case a10 => k_is)
    (case l10 => k_is)
    (case c10 => k_is)
    (case k10 => k_is)
    (case a11 => k_is)
    (case l11 => k_is)
    (case c11 => k_is)
    (case k11 => k_is)
    (case a12 => k_is)
    (case l12 => k_is)
    (case c12 => k_is)
    (case k12 => k_is)
    (case a13 => k_is)
    (case l13 => k_is)
    (case c13 => k_is)
    (case k13 => k_is)
    (case a14 => k_is)
    (case l14 => k_is)
    (case c14 => k_is)
    (case k14 => k_is)
    (case a15 => k_is)
    (case l15 => k_is)
    (case c15 => k_is)
    (case k15 => k_is)
    (case a16 => k_is)
    (case l16 => k_is)
    (case c16 => k_is)
    (case k16 => k_is)
    (case a17 => k_is)
    (case l17 => k_is)
    (case c17 => k_is)
    (case k17 => k_is)
    (case a18 => k_is)
    (case l18 => k_is)
    (case c18 => k_is)
    (case k18 => k_is)
    (case a19 => k_is)
    (case l19 => k_is)
    (case c19 => k_is)
    (case k19 => k_is)
    (case a20 => k_is)
    (case l20 => k_is)
    (case c20 => k_is)
    (case k20 => k_is)
    (case a21 => k_is)
    (case l21 => k_is)
    (case c21 => k_is)
    (case k21 => k_is)
    (case a22 => k_is)
    (case l22 => k_is)
    (case c22 => k_is)
    (case k22 => k_is)
    (case a23 => k_is)
    (case l23 => k_is)
    (case c23 => k_is)
    (case k23 => k_is)
    (case a24 => k_is)
    (case l24 => k_is)
    (case c24 => k_is)
    (case k24 => k_is)
    (case a25 => k_is)
    (case l25 => k_is)
    (case c25 => k_is)
    (case k25 => k_is)
    (case a26 => k_is)
    (case l26 => k_is)
    (case c26 => k_is)
    (case k26 => k_is)
    (case a27 => k_is)
    (case l27 => k_is)
    (case c27 => k_is)
    (case k27 => k_is)
    (case a28 => k_is)
    (case l28 => k_is)
    (case c28 => k_is)
    (case k28 => k_is)
    (case a29 => k_is)
    (case l29 => k_is)
    (case c29 => k_is)
    (case k29 => k_is)
    (case a30 => k_is)
    (case l30 => k_is)
    (case c30 => k_is)
    (case k30 => k_is)
    (case a31 => k_is)
    (case l31 => k_is)
    (case c31 => k_is)
    (case k31 => k_is)
    (case a32 => k_is)
    (case l32 => k_is)
    (case c32 => k_is)
    (case k32 => k_is)
    (case a33 => k_is)
    (case l33 => k_is)
    (case c33 => k_is)
    (case k33 => k_is)
    (case a34 => k_is)
    (case l34 => k_is)
    (case c34 => k_is)
    (case k34 => k_is)
    (case z_isinstance => k_is)
    (case z_int => k_is)
    (case z_bool => k_is)
    (case z_str => k_is)
    (case z_tuple => k_is)
    (case z_list => k_is)
    (case z_len => k_is)
    (case z_enumerate => k_is)
    (case z_all => k_is)
    (case z_range => k_is)
    (case z_sorted => k_is)
    (case z_max => k_is)
    (case z_min => k_is)
    (case z_sum => k_is)
    (case y1 => k_is)
    (case y2 => k_is)
end
