import PyProof.Rows.All
import Wide.All
import OpenK.AllK
import Wide.FinOn
import HandS.ForMost
import HandS.RevRange
import HandS.Rev
import HandS.IsInst
import HandS.More
import HandS.Conv
import HandS.Wide
import KE.DatumOrd
import PyProof.Rows.All
import Wide.All
import OpenK.AllK
import Wide.FinOn
import PyProof.EqAt
import PyProof.EqKinds
import PyProof.TupleCall
import KE.KExcSuper
import HandS.ForSpec
import HandS.ExcInit
import HandS.ExcSuper
import KE.KIsAll
import KE.KExcIs
import HandS.ExcField
import HandS.ExcIs
import PyProof.ReprLen
import PyProof.ReprRoom
import HandS.Walk
import KE.GoesMore
import HandS.Deep
import HandS.SetFor
import KE.SortData
import HandS.Nested
import HandS.WordsExc
import HandS.SortInts
import HandS.Star
import HandS.SetKeys
import HandS.Flow
import KE.RegKSuper
import HandS.EndOwn
import PySem.Challenge.RW_changeskept_k25_lists_that_hit
set_option Elab.async false
set_option linter.all false
set_option maxRecDepth 100000
set_option maxHeartbeats 4000000
/-! The mathematics of the law on the canonical order and the least ring: plain lists, no program in sight. -/
namespace K02
abbrev PL := List (Nat × Nat)
/-! ### lookups in lists of pairs -/
def look {β : Type} : List (Nat × β) → Nat → Option β
  | [], _ => none
  | p :: r, k => if p.1 = k then some p.2 else look r k
def put {β : Type} : List (Nat × β) → Nat → β → List (Nat × β)
  | [], k, v => [(k, v)]
  | p :: r, k, v => if p.1 = k then (p.1, v) :: r else p :: put r k v
theorem look_put {β : Type} (k : Nat) (v : β) : ∀ (l : List (Nat × β)) (j : Nat), look (put l k v) j = if k = j then some v else look l j
  | [], j => by
    show (if k = j then some v else none) = _
    rfl
  | p :: r, j => by
    unfold put
    by_cases h : p.1 = k
    · rw [if_pos h]
      show (if p.1 = j then some v else look r j) = if k = j then some v else (if p.1 = j then some p.2 else look r j)
      rw [h]
      by_cases e : k = j
      · rw [if_pos e, if_pos e]
      · rw [if_neg e, if_neg e, if_neg e]
    · rw [if_neg h]
      show (if p.1 = j then some p.2 else look (put r k v) j) = if k = j then some v else (if p.1 = j then some p.2 else look r j)
      rw [look_put k v r j]
      by_cases e : p.1 = j
      · have : ¬ k = j := fun z => h (e.trans z.symm)
        rw [if_pos e, if_neg this, if_pos e]
      · rw [if_neg e, if_neg e]
theorem look_mem {β : Type} : ∀ {l : List (Nat × β)} {k : Nat} {v : β}, look l k = some v → (k, v) ∈ l
  | [], _, _, h => by cases h
  | p :: r, k, v, h => by
    unfold look at h
    by_cases e : p.1 = k
    · rw [if_pos e] at h
      cases h
      rw [← e]
      exact List.mem_cons_self
    · rw [if_neg e] at h
      exact List.mem_cons_of_mem _ (look_mem h)
theorem look_snoc {β : Type} (k : Nat) (v : β) : ∀ (l : List (Nat × β)) (j : Nat), look l k = none → look (l ++ [(k, v)]) j = if k = j then some v else look l j
  | [], j, _ => by
    show (if k = j then some v else none) = _
    rfl
  | p :: r, j, h => by
    have h0 : ¬ p.1 = k := fun e => by
      unfold look at h
      rw [if_pos e] at h
      cases h
    have h1 : look r k = none := by
      unfold look at h
      rwa [if_neg h0] at h
    show (if p.1 = j then some p.2 else look (r ++ [(k, v)]) j) = if k = j then some v else (if p.1 = j then some p.2 else look r j)
    rw [look_snoc k v r j h1]
    by_cases e : p.1 = j
    · have : ¬ k = j := fun z => h0 (e.trans z.symm)
      rw [if_pos e, if_neg this, if_pos e]
    · rw [if_neg e, if_neg e]
theorem look_none_iff {β : Type} : ∀ {l : List (Nat × β)} {k : Nat}, look l k = none ↔ k ∉ l.map (·.1)
  | [], k => by simp [look]
  | p :: r, k => by
    unfold look
    by_cases e : p.1 = k
    · rw [if_pos e]
      simp [e]
    · rw [if_neg e, look_none_iff]
      simp only [List.map_cons, List.mem_cons, not_or]
      exact ⟨fun h => ⟨fun z => e z.symm, h⟩, fun h => h.2⟩
/-! ### pigeons -/
theorem nodup_len : ∀ (n : Nat) (l : List Nat), l.Nodup → (∀ x ∈ l, x < n) → l.length ≤ n
  | 0, [], _, _ => Nat.le_refl 0
  | 0, x :: r, _, h => absurd (h x List.mem_cons_self) (Nat.not_lt_zero _)
  | n + 1, l, hn, h => by
    have h1 : (l.erase n).Nodup := hn.erase n
    have h2 : ∀ x ∈ l.erase n, x < n := fun x hx => by
      have q := (hn.mem_erase_iff).mp hx
      have := h x q.2
      have := q.1
      omega
    have ih := nodup_len n (l.erase n) h1 h2
    have := List.le_length_erase (a := n) (l := l)
    omega
/-! ### pairs: what leads into a place, what leads out of it -/
def bef (ps : PL) (v : Nat) : List Nat := (ps.filter (fun p => p.2 == v)).map (·.1)
def aft (ps : PL) (v : Nat) : List Nat := (ps.filter (fun p => p.1 == v)).map (·.2)
theorem mem_bef {ps : PL} {u v : Nat} : u ∈ bef ps v ↔ (u, v) ∈ ps := by
  unfold bef
  rw [List.mem_map]
  constructor
  · rintro ⟨⟨a, b⟩, h, rfl⟩
    obtain ⟨h1, h2⟩ := List.mem_filter.mp h
    have e : b = v := by simpa using h2
    rw [← e]
    exact h1
  · intro h
    exact ⟨(u, v), List.mem_filter.mpr ⟨h, by simp⟩, rfl⟩
theorem mem_aft {ps : PL} {u v : Nat} : v ∈ aft ps u ↔ (u, v) ∈ ps := by
  unfold aft
  rw [List.mem_map]
  constructor
  · rintro ⟨⟨a, b⟩, h, rfl⟩
    obtain ⟨h1, h2⟩ := List.mem_filter.mp h
    have e : a = u := by simpa using h2
    rw [← e]
    exact h1
  · intro h
    exact ⟨(u, v), List.mem_filter.mpr ⟨h, by simp⟩, rfl⟩
/-! ### the canonical order -/
def freeP (ps : PL) (t : List Nat) (v : Nat) : Bool := !t.contains v && (bef ps v).all (fun b => t.contains b)
def nextP (m : Nat) (ps : PL) (t : List Nat) : Option Nat := (List.range m).find? (freeP ps t)
def growS (m : Nat) (ps : PL) (t : List Nat) : List Nat := match nextP m ps t with
  | none => t
  | some v => t ++ [v]
def grow (m : Nat) (ps : PL) : Nat → List Nat
  | 0 => []
  | k + 1 => growS m ps (grow m ps k)
def orderOf (m : Nat) (ps : PL) : Option (List Nat) := if (grow m ps m).length < m then none else some (grow m ps m)
theorem next_some {m : Nat} {ps : PL} {t : List Nat} {v : Nat} (h : nextP m ps t = some v) : v < m ∧ v ∉ t ∧ ∀ u, (u, v) ∈ ps → u ∈ t := by
  have h1 := List.find?_some h
  have h2 := List.mem_of_find?_eq_some h
  unfold freeP at h1
  rw [Bool.and_eq_true, List.all_eq_true] at h1
  refine ⟨List.mem_range.mp h2, by simpa using h1.1, fun u hu => ?_⟩
  simpa using h1.2 u (mem_bef.mpr hu)
theorem next_none {m : Nat} {ps : PL} {t : List Nat} (h : nextP m ps t = none) {v : Nat} (hv : v < m) (ht : v ∉ t) : ∃ u, (u, v) ∈ ps ∧ u ∉ t := by
  have h1 := List.find?_eq_none.mp h v (List.mem_range.mpr hv)
  have h2 : freeP ps t v = false := by simpa using h1
  unfold freeP at h2
  rw [Bool.and_eq_false_iff] at h2
  rcases h2 with h2 | h2
  · exact absurd (by simpa using h2) ht
  · rw [List.all_eq_false] at h2
    obtain ⟨u, hu, hc⟩ := h2
    exact ⟨u, mem_bef.mp hu, by simpa using hc⟩
theorem grow_len (m : Nat) (ps : PL) : ∀ k, (grow m ps k).length ≤ k
  | 0 => Nat.le_refl 0
  | k + 1 => by
    have ih := grow_len m ps k
    unfold grow growS
    cases nextP m ps (grow m ps k) with
    | none => exact Nat.le_succ_of_le ih
    | some v =>
      rw [List.length_append]
      exact Nat.succ_le_succ ih
theorem grow_stuck {m : Nat} {ps : PL} {k : Nat} (h : nextP m ps (grow m ps k) = none) : ∀ j, grow m ps (k + j) = grow m ps k
  | 0 => rfl
  | j + 1 => by
    have ih := grow_stuck h j
    show growS m ps (grow m ps (k + j)) = _
    rw [ih]
    unfold growS
    rw [h]
theorem grow_nodup (m : Nat) (ps : PL) : ∀ k, (grow m ps k).Nodup
  | 0 => List.nodup_nil
  | k + 1 => by
    have ih := grow_nodup m ps k
    unfold grow growS
    cases e : nextP m ps (grow m ps k) with
    | none => exact ih
    | some v =>
      refine List.nodup_append.mpr ⟨ih, by simp, ?_⟩
      intro a ha b hb
      have : b = v := by simpa using hb
      intro z
      rw [z, this] at ha
      exact (next_some e).2.1 ha
theorem grow_lt (m : Nat) (ps : PL) : ∀ k, ∀ x ∈ grow m ps k, x < m
  | 0, _, h => by cases h
  | k + 1, x, h => by
    have ih := grow_lt m ps k
    unfold grow growS at h
    cases e : nextP m ps (grow m ps k) with
    | none =>
      rw [e] at h
      exact ih x h
    | some v =>
      rw [e] at h
      rcases List.mem_append.mp h with q | q
      · exact ih x q
      · have : x = v := by simpa using q
        rw [this]
        exact (next_some e).1
/-- if each step found one, so many are taken -/
theorem grow_full {m : Nat} {ps : PL} : ∀ k, (∀ j, j < k → nextP m ps (grow m ps j) ≠ none) → (grow m ps k).length = k
  | 0, _ => rfl
  | k + 1, h => by
    have ih := grow_full k (fun j hj => h j (Nat.lt_succ_of_lt hj))
    unfold grow growS
    cases e : nextP m ps (grow m ps k) with
    | none => exact absurd e (h k (Nat.lt_succ_self k))
    | some v =>
      show (grow m ps k ++ [v]).length = k + 1
      rw [List.length_append, ih]
      rfl
theorem order_stuck {m : Nat} {ps : PL} {k : Nat} (hk : k < m) (h : nextP m ps (grow m ps k) = none) : orderOf m ps = none := by
  have e := grow_stuck h (m - k)
  rw [show k + (m - k) = m by omega] at e
  unfold orderOf
  rw [e, if_pos (Nat.lt_of_le_of_lt (grow_len m ps k) hk)]
theorem order_full {m : Nat} {ps : PL} (h : ∀ j, j < m → nextP m ps (grow m ps j) ≠ none) : orderOf m ps = some (grow m ps m) := by
  unfold orderOf
  rw [grow_full m h, if_neg (Nat.lt_irrefl _)]
/-- none: some step was stuck, with places left that lean on places left -/
theorem order_none {m : Nat} {ps : PL} (h : orderOf m ps = none) : ∃ t : List Nat, (∃ v, v < m ∧ v ∉ t) ∧ ∀ v, v < m → v ∉ t → ∃ u, (u, v) ∈ ps ∧ u ∉ t := by
  have hx : ∃ j, j < m ∧ nextP m ps (grow m ps j) = none := by
    apply Classical.byContradiction
    intro c
    have := order_full (m := m) (ps := ps) (fun j hj e => c ⟨j, hj, e⟩)
    rw [h] at this
    cases this
  obtain ⟨j, hj, e⟩ := hx
  refine ⟨grow m ps j, ?_, fun v hv ht => next_none e hv ht⟩
  apply Classical.byContradiction
  intro c
  have hall : ∀ v, v < m → v ∈ grow m ps j := fun v hv => Classical.byContradiction fun q => c ⟨v, hv, q⟩
  have h1 := nodup_len_ge (List.range m) (grow m ps j) List.nodup_range (fun x hx => hall x (List.mem_range.mp hx))
  rw [List.length_range] at h1
  have := grow_len m ps j
  omega
where
  nodup_len_ge : ∀ (a b : List Nat), a.Nodup → (∀ x ∈ a, x ∈ b) → a.length ≤ b.length
  | [], _, _, _ => Nat.zero_le _
  | x :: r, b, hn, h => by
    obtain ⟨h1, h2⟩ := List.nodup_cons.mp hn
    have ih := nodup_len_ge r (b.erase x) h2 (fun y hy => by
      have hyx : y ≠ x := fun z => h1 (z ▸ hy)
      exact (List.mem_erase_of_ne hyx).mpr (h y (List.mem_cons_of_mem _ hy)))
    have hx : x ∈ b := h x List.mem_cons_self
    have e := List.length_erase_of_mem hx
    have : 0 < b.length := List.length_pos_of_mem hx
    rw [List.length_cons]
    omega
/-! ### rings -/
/-- from u over the places of r, all beyond o, back to o -/
def Cl (ps : PL) (o : Nat) : Nat → List Nat → Prop
  | u, [] => (u, o) ∈ ps
  | u, v :: r => (u, v) ∈ ps ∧ o < v ∧ Cl ps o v r
def Len (ps : PL) (o u n : Nat) : Prop := ∃ r, Cl ps o u r ∧ r.length = n
/-- the first difference decides, else the shorter is the less -/
def lexLt : List Nat → List Nat → Bool
  | [], [] => false
  | [], _ :: _ => true
  | _ :: _, [] => false
  | x :: xs, y :: ys => if x = y then lexLt xs ys else decide (x < y)
theorem lex_irr : ∀ l : List Nat, lexLt l l = false
  | [] => rfl
  | x :: r => by
    unfold lexLt
    rw [if_pos rfl]
    exact lex_irr r
theorem lex_asym : ∀ {a b : List Nat}, lexLt a b = true → lexLt b a = false
  | [], [], h => by cases h
  | [], _ :: _, _ => rfl
  | _ :: _, [], h => by cases h
  | x :: xs, y :: ys, h => by
    unfold lexLt at h ⊢
    by_cases e : x = y
    · rw [if_pos e] at h
      rw [if_pos e.symm]
      exact lex_asym h
    · rw [if_neg e] at h
      rw [if_neg (fun z => e z.symm)]
      have := of_decide_eq_true h
      exact decide_eq_false (by omega)
theorem lex_anti : ∀ {a b : List Nat}, lexLt a b = false → lexLt b a = false → a = b
  | [], [], _, _ => rfl
  | [], _ :: _, h, _ => by cases h
  | _ :: _, [], _, h => by cases h
  | x :: xs, y :: ys, h, h' => by
    unfold lexLt at h h'
    by_cases e : x = y
    · rw [if_pos e] at h
      rw [if_pos e.symm] at h'
      rw [e, lex_anti h h']
    · rw [if_neg e] at h
      rw [if_neg (fun z => e z.symm)] at h'
      have := of_decide_eq_false h
      have := of_decide_eq_false h'
      omega
/-- not less goes on -/
theorem lex_le_trans : ∀ {a b c : List Nat}, lexLt b a = false → lexLt c b = false → lexLt c a = false
  | [], b, c, _, _ => by cases c <;> rfl
  | x :: xs, [], c, h, _ => by cases h
  | x :: xs, y :: ys, [], _, h => by cases h
  | x :: xs, y :: ys, z :: zs, h1, h2 => by
    unfold lexLt at h1 h2 ⊢
    by_cases e1 : y = x
    · rw [if_pos e1] at h1
      by_cases e2 : z = y
      · rw [if_pos e2] at h2
        rw [if_pos (e2.trans e1)]
        exact lex_le_trans h1 h2
      · rw [if_neg e2] at h2
        rw [if_neg (fun q => e2 (q.trans e1.symm))]
        have := of_decide_eq_false h2
        exact decide_eq_false (by omega)
    · rw [if_neg e1] at h1
      have g1 := of_decide_eq_false h1
      by_cases e2 : z = y
      · rw [if_neg (fun q => e1 (e2.symm.trans q))]
        exact decide_eq_false (by omega)
      · rw [if_neg e2] at h2
        have g2 := of_decide_eq_false h2
        rw [if_neg (by omega)]
        exact decide_eq_false (by omega)
theorem lex_app : ∀ {a b : List Nat} (x : List Nat), a.length = b.length → lexLt (a ++ x) (b ++ x) = lexLt a b
  | [], [], x, _ => lex_irr x
  | [], _ :: _, _, h => by simp at h
  | _ :: _, [], _, h => by simp at h
  | p :: a, q :: b, x, h => by
    show (if p = q then lexLt (a ++ x) (b ++ x) else decide (p < q)) = if p = q then lexLt a b else decide (p < q)
    rw [lex_app x (by simpa using h)]
/-- the least ring from o: the fewest places, then the first list -/
def LRing (ps : PL) (o : Nat) (l : List Nat) : Prop := ∃ r, l = o :: r ∧ Cl ps o o r ∧ ∀ r', Cl ps o o r' → r.length ≤ r'.length ∧ (r'.length = r.length → lexLt r' r = false)
theorem LRing.uniq {ps : PL} {o : Nat} {l m : List Nat} (a : LRing ps o l) (b : LRing ps o m) : l = m := by
  obtain ⟨r, rfl, c, h⟩ := a
  obtain ⟨t, rfl, d, k⟩ := b
  have h1 := h t d
  have k1 := k r c
  have e : r.length = t.length := Nat.le_antisymm h1.1 k1.1
  rw [lex_anti (k1.2 e) (h1.2 e.symm)]
open Classical in
noncomputable def ringOf (ps : PL) (o : Nat) : Option (List Nat) := if h : ∃ l, LRing ps o l then some (Classical.choose h) else none
theorem ringOf_some {ps : PL} {o : Nat} {l : List Nat} (h : LRing ps o l) : ringOf ps o = some l := by
  have hx : ∃ l, LRing ps o l := ⟨l, h⟩
  unfold ringOf
  rw [dif_pos hx, LRing.uniq (Classical.choose_spec hx) h]
theorem ringOf_none {ps : PL} {o : Nat} (h : ∀ r, ¬ Cl ps o o r) : ringOf ps o = none := by
  unfold ringOf
  rw [dif_neg]
  rintro ⟨l, r, _, c, _⟩
  exact h r c
theorem ringOf_is {ps : PL} {o : Nat} {l : List Nat} (h : ringOf ps o = some l) : LRing ps o l := by
  unfold ringOf at h
  by_cases hx : ∃ l, LRing ps o l
  · rw [dif_pos hx] at h
    cases h
    exact Classical.choose_spec hx
  · rw [dif_neg hx] at h
    cases h
def pick (b x : Option (List Nat)) : Option (List Nat) := match x, b with
  | none, _ => b
  | some l, none => some l
  | some l, some m => if l.length < m.length then some l else some m
noncomputable def best (ps : PL) : Nat → Option (List Nat)
  | 0 => none
  | o + 1 => pick (best ps o) (ringOf ps o)
/-! ### the program's way: steps backwards, then the least next place -/
/-- what the steps hold: o itself with 0; beyond o the fewest places of a way back to o, and one more -/
def IsSteps (ps : PL) (o : Nat) (S : Nat → Option Nat) : Prop := ∀ u n, S u = some n ↔ (u = o ∧ n = 0) ∨ (o < u ∧ ∃ k, n = k + 1 ∧ Len ps o u k ∧ ∀ j, j < k → ¬ Len ps o u j)
/-- row is built from u by the least next place -/
def Greedy (ps : PL) (S : Nat → Option Nat) : Nat → Nat → List Nat → Prop
  | _, 0, r => r = []
  | u, n + 1, r => ∃ v t, r = v :: t ∧ ((u, v) ∈ ps ∧ S v = some (n + 1)) ∧ (∀ w, (u, w) ∈ ps → S w = some (n + 1) → v ≤ w) ∧ Greedy ps S v n t
theorem greedy_len {ps : PL} {S : Nat → Option Nat} : ∀ {u n : Nat} {r : List Nat}, Greedy ps S u n r → r.length = n
  | _, 0, _, h => by
    have e : _ = _ := h
    rw [e]
    rfl
  | _, n + 1, _, ⟨v, t, e, _, _, h⟩ => by
    rw [e, List.length_cons, greedy_len h]
theorem greedy_least {ps : PL} {o : Nat} {S : Nat → Option Nat} (hS : IsSteps ps o S) : ∀ {n u : Nat} {r : List Nat}, Greedy ps S u n r → Len ps o u n → (∀ j, j < n → ¬ Len ps o u j) →
    Cl ps o u r ∧ ∀ r', Cl ps o u r' → r'.length = n → lexLt r' r = false
  | 0, u, r, h, hl, _ => by
    have e : r = [] := h
    obtain ⟨r0, c, z⟩ := hl
    have : r0 = [] := List.length_eq_zero_iff.mp z
    subst this
    subst e
    refine ⟨c, fun r' _ hz => ?_⟩
    rw [List.length_eq_zero_iff.mp hz]
    rfl
  | n + 1, u, r, ⟨v, t, e, ⟨huv, hv⟩, hmin, hg⟩, hl, hno => by
    subst e
    obtain ⟨q0, q1⟩ | ⟨hov, k, ek, hlv, hnv⟩ := (hS v (n + 1)).mp hv
    · cases q1
    · have ek' : k = n := by omega
      subst ek'
      obtain ⟨c, hm⟩ := greedy_least hS hg hlv hnv
      refine ⟨⟨huv, hov, c⟩, fun r' c' hz => ?_⟩
      cases r' with
      | nil => cases hz
      | cons w t' =>
        obtain ⟨huw, how, c2⟩ := c'
        have hz' : t'.length = k := by simpa using hz
        have hw : S w = some (k + 1) := (hS w (k + 1)).mpr (.inr ⟨how, k, rfl, ⟨t', c2, hz'⟩, fun j hj hL => by
          obtain ⟨r3, c3, z3⟩ := hL
          exact hno (j + 1) (by omega) ⟨w :: r3, ⟨huw, how, c3⟩, by rw [List.length_cons, z3]⟩⟩)
        have hle := hmin w huw hw
        unfold lexLt
        by_cases e : w = v
        · subst e
          rw [if_pos rfl]
          exact hm t' c2 hz'
        · rw [if_neg e]
          exact decide_eq_false (by omega)
theorem greedy_ring {ps : PL} {o : Nat} {S : Nat → Option Nat} (hS : IsSteps ps o S) {n : Nat} {r : List Nat} (h : Greedy ps S o n r) (hl : Len ps o o n) (hno : ∀ j, j < n → ¬ Len ps o o j) : LRing ps o (o :: r) := by
  obtain ⟨c, hm⟩ := greedy_least hS h hl hno
  have e := greedy_len h
  refine ⟨r, rfl, c, fun r' c' => ⟨?_, fun z => hm r' c' (z.trans e)⟩⟩
  rw [e]
  exact Nat.le_of_not_lt fun q => hno _ q ⟨r', c', rfl⟩
/-- a way with a next place: there is one that the greedy step may take -/
theorem greedy_next {ps : PL} {o : Nat} {S : Nat → Option Nat} (hS : IsSteps ps o S) {n u : Nat} (hl : Len ps o u (n + 1)) (hno : ∀ j, j < n + 1 → ¬ Len ps o u j) : ∃ v, (u, v) ∈ ps ∧ S v = some (n + 1) := by
  obtain ⟨r, c, z⟩ := hl
  cases r with
  | nil => cases z
  | cons w t =>
    obtain ⟨huw, how, c2⟩ := c
    have hz' : t.length = n := by simpa using z
    exact ⟨w, huw, (hS w (n + 1)).mpr (.inr ⟨how, n, rfl, ⟨t, c2, hz'⟩, fun j hj hL => by
      obtain ⟨r3, c3, z3⟩ := hL
      exact hno (j + 1) (by omega) ⟨w :: r3, ⟨huw, how, c3⟩, by rw [List.length_cons, z3]⟩⟩)⟩
theorem steps_beyond {ps : PL} {o : Nat} {S : Nat → Option Nat} (hS : IsSteps ps o S) {v n : Nat} (h : S v = some (n + 1)) : Len ps o v n ∧ ∀ j, j < n → ¬ Len ps o v j := by
  obtain ⟨_, q1⟩ | ⟨_, k, ek, hlv, hnv⟩ := (hS v (n + 1)).mp h
  · cases q1
  · have ek' : k = n := by omega
    subst ek'
    exact ⟨hlv, hnv⟩
/-- the lengths: the steps of the places behind o -/
theorem lens_some {ps : PL} {o : Nat} {S : Nat → Option Nat} (hS : IsSteps ps o S) {n : Nat} (hm : ∃ v, (o, v) ∈ ps ∧ S v = some n) (hle : ∀ v k, (o, v) ∈ ps → S v = some k → n ≤ k) : Len ps o o n ∧ ∀ j, j < n → ¬ Len ps o o j := by
  constructor
  · obtain ⟨v, hv, e⟩ := hm
    obtain ⟨rfl, rfl⟩ | ⟨hov, k, rfl, ⟨r, c, z⟩, _⟩ := (hS v n).mp e
    · exact ⟨[], hv, rfl⟩
    · exact ⟨v :: r, ⟨hv, hov, c⟩, by rw [List.length_cons, z]⟩
  · rintro j hj ⟨r, c, z⟩
    cases r with
    | nil =>
      have e : (o, o) ∈ ps := c
      have := hle o 0 e ((hS o 0).mpr (.inl ⟨rfl, rfl⟩))
      omega
    | cons v t =>
      obtain ⟨hov, hlt, c2⟩ := c
      -- the least way from v
      have hx : ∃ k, Len ps o v k ∧ ∀ i, i < k → ¬ Len ps o v i := least ⟨_, t, c2, rfl⟩
      obtain ⟨k, hk, hno⟩ := hx
      have hkt : k ≤ t.length := Nat.le_of_not_lt fun q => hno _ q ⟨t, c2, rfl⟩
      have := hle v (k + 1) hov ((hS v (k + 1)).mpr (.inr ⟨hlt, k, rfl, hk, hno⟩))
      rw [List.length_cons] at z
      omega
where
  least {P : Nat → Prop} (h : ∃ n, P n) : ∃ k, P k ∧ ∀ i, i < k → ¬ P i := by
    obtain ⟨n, hn⟩ := h
    induction n using Nat.strongRecOn with
    | ind n ih =>
      by_cases q : ∃ i, i < n ∧ P i
      · obtain ⟨i, hi, pi⟩ := q
        exact ih i hi pi
      · exact ⟨n, hn, fun i hi pi => q ⟨i, hi, pi⟩⟩
theorem lens_none {ps : PL} {o : Nat} {S : Nat → Option Nat} (hS : IsSteps ps o S) (h : ∀ v, (o, v) ∈ ps → S v = none) : ∀ r, ¬ Cl ps o o r := by
  intro r c
  cases r with
  | nil =>
    have := h o c
    rw [(hS o 0).mpr (.inl ⟨rfl, rfl⟩)] at this
    cases this
  | cons v t =>
    obtain ⟨hov, hlt, c2⟩ := c
    obtain ⟨k, hk, hno⟩ := lens_some.least (P := Len ps o v) ⟨_, t, c2, rfl⟩
    have := h v hov
    rw [(hS v (k + 1)).mpr (.inr ⟨hlt, k, rfl, hk, hno⟩)] at this
    cases this
/-- a ring from o has a least one -/
theorem greedy_is {ps : PL} {o : Nat} {S : Nat → Option Nat} (hS : IsSteps ps o S) : ∀ {n u : Nat}, Len ps o u n → (∀ j, j < n → ¬ Len ps o u j) → ∃ r, Greedy ps S u n r
  | 0, _, _, _ => ⟨[], rfl⟩
  | n + 1, u, hl, hno => by
    obtain ⟨v, ⟨huv, hv⟩, hmin⟩ := lens_some.least (P := fun v => (u, v) ∈ ps ∧ S v = some (n + 1)) (greedy_next hS hl hno)
    obtain ⟨h1, h2⟩ := steps_beyond hS hv
    obtain ⟨t, ht⟩ := greedy_is hS h1 h2
    exact ⟨v :: t, v, t, rfl, ⟨huv, hv⟩, fun w hw hs => Nat.le_of_not_lt fun q => hmin w q ⟨hw, hs⟩, ht⟩
open Classical in
noncomputable def trueSteps (ps : PL) (o u : Nat) : Option Nat := if u = o then some 0 else if h : o < u ∧ ∃ k, Len ps o u k then some (Classical.choose (lens_some.least h.2) + 1) else none
theorem trueSteps_is (ps : PL) (o : Nat) : IsSteps ps o (trueSteps ps o) := by
  intro u n
  unfold trueSteps
  by_cases e : u = o
  · rw [if_pos e]
    constructor
    · intro h
      cases h
      exact .inl ⟨e, rfl⟩
    · rintro (⟨_, rfl⟩ | ⟨h, _⟩)
      · rfl
      · omega
  · rw [if_neg e]
    by_cases h : o < u ∧ ∃ k, Len ps o u k
    · rw [dif_pos h]
      have q := Classical.choose_spec (lens_some.least h.2)
      constructor
      · intro z
        cases z
        exact .inr ⟨h.1, _, rfl, q.1, q.2⟩
      · rintro (⟨z, _⟩ | ⟨_, k, rfl, h1, h2⟩)
        · exact absurd z e
        · have a1 : ¬ k < Classical.choose (lens_some.least h.2) := fun z => q.2 _ z h1
          have a2 : ¬ Classical.choose (lens_some.least h.2) < k := fun z => h2 _ z q.1
          rw [show Classical.choose (lens_some.least h.2) = k by omega]
    · rw [dif_neg h]
      constructor
      · intro z
        cases z
      · rintro (⟨z, _⟩ | ⟨h1, k, _, h2, _⟩)
        · exact absurd z e
        · exact absurd ⟨h1, k, h2⟩ h
theorem ringOf_there {ps : PL} {o : Nat} {r : List Nat} (c : Cl ps o o r) : ∃ l, ringOf ps o = some l := by
  obtain ⟨n, h1, h2⟩ := lens_some.least (P := Len ps o o) ⟨_, r, c, rfl⟩
  obtain ⟨t, ht⟩ := greedy_is (trueSteps_is ps o) h1 h2
  exact ⟨_, ringOf_some (greedy_ring (trueSteps_is ps o) ht h1 h2)⟩
/-! ### the law's way: the least walk to each place, place by place longer -/
inductive Wk (ps : PL) (o : Nat) : List Nat → Nat → Prop
  | base : Wk ps o [o] o
  | step {l : List Nat} {u v : Nat} : Wk ps o l u → (u, v) ∈ ps → o < v → Wk ps o (l ++ [v]) v
theorem Wk.pos {ps : PL} {o : Nat} {l : List Nat} {v : Nat} (h : Wk ps o l v) : 0 < l.length := by
  cases h with
  | base => exact Nat.one_pos
  | step _ _ _ =>
    rw [List.length_append]
    exact Nat.succ_pos _
theorem wk_cl {ps : PL} {o : Nat} {l : List Nat} {u : Nat} (h : Wk ps o l u) : ∀ r, Cl ps o u r → ∃ t, l ++ r = o :: t ∧ Cl ps o o t := by
  induction h with
  | base => exact fun r c => ⟨r, rfl, c⟩
  | @step l u v _ huv hov ih =>
    intro r c
    obtain ⟨t, e, ct⟩ := ih (v :: r) ⟨huv, hov, c⟩
    exact ⟨t, by rw [List.append_assoc]; exact e, ct⟩
theorem cl_wk {ps : PL} {o : Nat} : ∀ {r l : List Nat} {u : Nat}, Wk ps o l u → Cl ps o u r → ∃ w, Wk ps o (l ++ r) w ∧ (w, o) ∈ ps
  | [], l, u, h, c => ⟨u, by rw [List.append_nil]; exact h, c⟩
  | v :: r, l, u, h, ⟨huv, hov, c⟩ => by
    obtain ⟨w, h1, h2⟩ := cl_wk (Wk.step h huv hov) c
    exact ⟨w, by rw [List.append_assoc] at h1; exact h1, h2⟩
/-- W holds the least walk of n + 1 places to each place -/
def IsWalks (ps : PL) (o n : Nat) (W : Nat → Option (List Nat)) : Prop :=
  (∀ v l, W v = some l → Wk ps o l v ∧ l.length = n + 1) ∧ ∀ v l', Wk ps o l' v → l'.length = n + 1 → ∃ l, W v = some l ∧ lexLt l' l = false
theorem walks_start (ps : PL) (o : Nat) : IsWalks ps o 0 (look [(o, [o])]) := by
  refine ⟨fun v l h => ?_, fun v l' h hl => ?_⟩
  · have h' : (if o = v then some [o] else none) = some l := h
    by_cases e : o = v
    · rw [if_pos e] at h'
      cases h'
      rw [← e]
      exact ⟨Wk.base, rfl⟩
    · rw [if_neg e] at h'
      cases h'
  · cases h with
    | base => exact ⟨[o], (show (if o = o then some [o] else none) = some [o] from if_pos rfl), lex_irr _⟩
    | step h1 _ _ =>
      have := h1.pos
      rw [List.length_append, List.length_singleton] at hl
      omega
def longerS (W : Nat → Option (List Nat)) (o : Nat) (lg : List (Nat × List Nat)) (p : Nat × Nat) : List (Nat × List Nat) :=
  if o < p.2 then
    match W p.1 with
    | none => lg
    | some l => match look lg p.2 with
      | none => put lg p.2 (l ++ [p.2])
      | some m => if lexLt (l ++ [p.2]) m then put lg p.2 (l ++ [p.2]) else lg
  else lg
def IsLonger (ps : PL) (W : Nat → Option (List Nat)) (o : Nat) (G : Nat → Option (List Nat)) : Prop :=
  (∀ v m, G v = some m → ∃ u l, (u, v) ∈ ps ∧ o < v ∧ W u = some l ∧ m = l ++ [v]) ∧ ∀ u v l, (u, v) ∈ ps → o < v → W u = some l → ∃ m, G v = some m ∧ lexLt (l ++ [v]) m = false
theorem longer_start (W : Nat → Option (List Nat)) (o : Nat) : IsLonger [] W o (look []) := ⟨fun _ _ h => (by cases h), fun _ _ _ h => (by cases h)⟩
theorem longer_stay {ps : PL} {W : Nat → Option (List Nat)} {o : Nat} {G : Nat → Option (List Nat)} {p : Nat × Nat} (h : IsLonger ps W o G) (hn : o < p.2 → ∀ l, W p.1 = some l → ∃ m, G p.2 = some m ∧ lexLt (l ++ [p.2]) m = false) : IsLonger (ps ++ [p]) W o G := by
  refine ⟨fun v m e => ?_, fun u v l hm hv hw => ?_⟩
  · obtain ⟨u, l, h1, h2, h3, h4⟩ := h.1 v m e
    exact ⟨u, l, List.mem_append_left _ h1, h2, h3, h4⟩
  · rcases List.mem_append.mp hm with q | q
    · exact h.2 u v l q hv hw
    · have e : (u, v) = p := by simpa using q
      subst e
      exact hn hv l hw
theorem longer_put {ps : PL} {W : Nat → Option (List Nat)} {o : Nat} {lg : List (Nat × List Nat)} {p : Nat × Nat} {l : List Nat} (h : IsLonger ps W o (look lg)) (ho : o < p.2) (hw : W p.1 = some l)
    (hle : ∀ m, look lg p.2 = some m → lexLt m (l ++ [p.2]) = false) : IsLonger (ps ++ [p]) W o (look (put lg p.2 (l ++ [p.2]))) := by
  refine ⟨fun v m e => ?_, fun u v l2 hm hv hw2 => ?_⟩
  · rw [look_put] at e
    by_cases q : p.2 = v
    · rw [if_pos q] at e
      cases e
      refine ⟨p.1, l, List.mem_append_right _ ?_, q ▸ ho, hw, by rw [q]⟩
      rw [← q]
      exact List.mem_singleton.mpr rfl
    · rw [if_neg q] at e
      obtain ⟨u, l, h1, h2, h3, h4⟩ := h.1 v m e
      exact ⟨u, l, List.mem_append_left _ h1, h2, h3, h4⟩
  · rw [look_put]
    rcases List.mem_append.mp hm with z | z
    · obtain ⟨m, hm1, hm2⟩ := h.2 u v l2 z hv hw2
      by_cases q : p.2 = v
      · rw [if_pos q]
        refine ⟨_, rfl, ?_⟩
        subst q
        exact lex_le_trans (hle m hm1) hm2
      · rw [if_neg q]
        exact ⟨m, hm1, hm2⟩
    · have e : (u, v) = p := by simpa using z
      subst e
      rw [if_pos rfl]
      have hw' : W u = some l := hw
      rw [hw'] at hw2
      cases hw2
      exact ⟨_, rfl, lex_irr _⟩
theorem longer_step {ps : PL} {W : Nat → Option (List Nat)} {o : Nat} {lg : List (Nat × List Nat)} {p : Nat × Nat} (h : IsLonger ps W o (look lg)) : IsLonger (ps ++ [p]) W o (look (longerS W o lg p)) := by
  unfold longerS
  by_cases ho : o < p.2
  · rw [if_pos ho]
    cases hw : W p.1 with
    | none => exact longer_stay h fun _ l q => by rw [hw] at q; cases q
    | some l =>
      cases hg : look lg p.2 with
      | none => exact longer_put h ho hw fun m q => by rw [hg] at q; cases q
      | some m =>
        show IsLonger (ps ++ [p]) W o (look (if lexLt (l ++ [p.2]) m = true then put lg p.2 (l ++ [p.2]) else lg))
        cases hc : lexLt (l ++ [p.2]) m with
        | true =>
          rw [if_pos rfl]
          exact longer_put h ho hw fun m2 q => by
            rw [hg] at q
            cases q
            exact lex_asym hc
        | false =>
          rw [if_neg Bool.false_ne_true]
          exact longer_stay h fun _ l2 q => by
            rw [hw] at q
            cases q
            exact ⟨m, hg, hc⟩
  · rw [if_neg ho]
    exact longer_stay h fun q => absurd q ho
theorem walks_longer {ps : PL} {o n : Nat} {W G : Nat → Option (List Nat)} (hW : IsWalks ps o n W) (hG : IsLonger ps W o G) : IsWalks ps o (n + 1) G := by
  refine ⟨fun v m e => ?_, fun v l' h hl => ?_⟩
  · obtain ⟨u, l, h1, h2, h3, rfl⟩ := hG.1 v m e
    obtain ⟨w1, w2⟩ := hW.1 u l h3
    exact ⟨Wk.step w1 h1 h2, by rw [List.length_append, w2]; rfl⟩
  · cases h with
    | base => exact absurd hl (by show ¬ 1 = n + 1 + 1; omega)
    | @step l u _ h1 h2 h3 =>
      have e : l.length = n + 1 := by
        rw [List.length_append, List.length_singleton] at hl
        omega
      obtain ⟨l0, q1, q2⟩ := hW.2 u l h1 e
      obtain ⟨m, r1, r2⟩ := hG.2 u v l0 h2 h3 q1
      refine ⟨m, r1, lex_le_trans r2 ?_⟩
      rw [lex_app [v] (e.trans (hW.1 u l0 q1).2.symm)]
      exact q2
/-- the rings that the walks close, in the order of the pairs -/
def ringsOf (ps : PL) (o : Nat) (W : Nat → Option (List Nat)) : List (List Nat) := ps.filterMap fun p => if p.2 = o then W p.1 else none
theorem rings_mem {ps : PL} {o n : Nat} {W : Nat → Option (List Nat)} (hW : IsWalks ps o n W) {l : List Nat} (h : l ∈ ringsOf ps o W) : ∃ t, l = o :: t ∧ Cl ps o o t ∧ t.length = n := by
  obtain ⟨p, hp, e⟩ := List.mem_filterMap.mp h
  by_cases q : p.2 = o
  · rw [if_pos q] at e
    obtain ⟨w1, w2⟩ := hW.1 _ _ e
    obtain ⟨t, e1, e2⟩ := wk_cl w1 [] (show (p.1, o) ∈ ps by rw [← q]; exact hp)
    rw [List.append_nil] at e1
    refine ⟨t, e1, e2, ?_⟩
    rw [e1, List.length_cons] at w2
    omega
  · rw [if_neg q] at e
    cases e
theorem rings_all {ps : PL} {o n : Nat} {W : Nat → Option (List Nat)} (hW : IsWalks ps o n W) {t : List Nat} (c : Cl ps o o t) (h : t.length = n) : ∃ l, l ∈ ringsOf ps o W ∧ lexLt (o :: t) l = false := by
  obtain ⟨w, h1, h2⟩ := cl_wk (Wk.base (ps := ps) (o := o)) c
  obtain ⟨l, q1, q2⟩ := hW.2 w ([o] ++ t) h1 (by show t.length + 1 = n + 1; rw [h])
  exact ⟨l, List.mem_filterMap.mpr ⟨(w, o), h2, by rw [if_pos rfl]; exact q1⟩, q2⟩
theorem law_none {ps : PL} {o n : Nat} {W : Nat → Option (List Nat)} (hW : IsWalks ps o n W) (h : ringsOf ps o W = []) (hno : ∀ r, Cl ps o o r → n ≤ r.length) : ∀ r, Cl ps o o r → n + 1 ≤ r.length := by
  intro r c
  have h1 := hno r c
  rcases Nat.lt_or_ge n r.length with q | q
  · exact q
  · obtain ⟨l, hl, _⟩ := rings_all hW c (Nat.le_antisymm q h1)
    rw [h] at hl
    cases hl
theorem law_ring {ps : PL} {o n : Nat} {W : Nat → Option (List Nat)} (hW : IsWalks ps o n W) (hno : ∀ r, Cl ps o o r → n ≤ r.length) {x : List Nat} (hx : x ∈ ringsOf ps o W) (hm : ∀ y, y ∈ ringsOf ps o W → lexLt y x = false) : LRing ps o x ∧ x.length = n + 1 := by
  obtain ⟨t, rfl, c, e⟩ := rings_mem hW hx
  refine ⟨⟨t, rfl, c, fun r' c' => ⟨by rw [e]; exact hno r' c', fun z => ?_⟩⟩, by rw [List.length_cons, e]⟩
  obtain ⟨l, hl, hle⟩ := rings_all hW c' (z.trans e)
  have h1 := lex_le_trans (hm l hl) hle
  unfold lexLt at h1
  rw [if_pos rfl] at h1
  exact h1
/-! ### the shortest rings fit in -/
def Within (m : Nat) (ps : PL) : Prop := ∀ p ∈ ps, p.1 < m ∧ p.2 < m
theorem cl_suffix {ps : PL} {o : Nat} : ∀ {a : List Nat} {u v : Nat} {c : List Nat}, Cl ps o u (a ++ v :: c) → Cl ps o v c
  | [], _, _, _, h => h.2.2
  | _ :: a, _, _, _, h => cl_suffix (a := a) h.2.2
theorem cl_nodup {ps : PL} {o : Nat} : ∀ {r : List Nat} {u : Nat}, Cl ps o u r → ∃ r', Cl ps o u r' ∧ r'.Nodup
  | [], _, h => ⟨[], h, List.nodup_nil⟩
  | v :: t, u, ⟨h1, h2, h3⟩ => by
    obtain ⟨t', c, hn⟩ := cl_nodup h3
    by_cases hv : v ∈ t'
    · obtain ⟨a, b, rfl⟩ := List.append_of_mem hv
      exact ⟨v :: b, ⟨h1, h2, cl_suffix c⟩, (List.nodup_append.mp hn).2.1⟩
    · exact ⟨v :: t', ⟨h1, h2, c⟩, List.nodup_cons.mpr ⟨hv, hn⟩⟩
theorem cl_within {m : Nat} {ps : PL} (hm : Within m ps) {o : Nat} : ∀ {r : List Nat} {u : Nat}, Cl ps o u r → u < m ∧ ∀ x ∈ r, o < x ∧ x < m
  | [], u, h => ⟨(hm _ h).1, fun _ q => by cases q⟩
  | v :: t, u, ⟨h1, h2, h3⟩ => by
    obtain ⟨q1, q2⟩ := cl_within hm h3
    refine ⟨(hm _ h1).1, fun x hx => ?_⟩
    rcases List.mem_cons.mp hx with e | e
    · subst e
      exact ⟨h2, q1⟩
    · exact q2 x e
theorem ring_fits {m : Nat} {ps : PL} (hm : Within m ps) {o : Nat} {r : List Nat} (c : Cl ps o o r) : ∃ r', Cl ps o o r' ∧ r'.length < m := by
  obtain ⟨r', c', hn⟩ := cl_nodup c
  obtain ⟨q1, q2⟩ := cl_within hm c'
  refine ⟨r', c', ?_⟩
  have := nodup_len m (o :: r') (List.nodup_cons.mpr ⟨fun z => Nat.lt_irrefl _ (q2 o z).1, hn⟩) (fun x hx => by
    rcases List.mem_cons.mp hx with e | e
    · rw [e]; exact q1
    · exact (q2 x e).2)
  exact this
/-! ### order or ring -/
theorem grow_mono (m : Nat) (ps : PL) {k : Nat} {x : Nat} (h : x ∈ grow m ps k) : x ∈ grow m ps (k + 1) := by
  unfold grow growS
  cases nextP m ps (grow m ps k) with
  | none => exact h
  | some v => exact List.mem_append_left _ h
theorem grow_new {m : Nat} {ps : PL} {k o : Nat} (h : o ∈ grow m ps (k + 1)) (h' : o ∉ grow m ps k) : ∀ w, (w, o) ∈ ps → w ∈ grow m ps k := by
  intro w hw
  unfold grow growS at h
  cases e : nextP m ps (grow m ps k) with
  | none =>
    rw [e] at h
    exact absurd h h'
  | some v =>
    rw [e] at h
    rcases List.mem_append.mp h with q | q
    · exact absurd q h'
    · have : o = v := by simpa using q
      subst this
      exact (next_some e).2.2 w hw
theorem grow_closed (m : Nat) (ps : PL) : ∀ (k : Nat) {a b : Nat}, (a, b) ∈ ps → b ∈ grow m ps k → a ∈ grow m ps k
  | 0, _, _, _, h => by cases h
  | k + 1, a, b, hab, h => by
    by_cases q : b ∈ grow m ps k
    · exact grow_mono m ps (grow_closed m ps k hab q)
    · exact grow_mono m ps (grow_new h q a hab)
theorem grow_back {m : Nat} {ps : PL} {k o : Nat} (h : ∀ w, (w, o) ∈ ps → w ∈ grow m ps k) : ∀ {r : List Nat} {u : Nat}, Cl ps o u r → u ∈ grow m ps k
  | [], u, c => h u c
  | _ :: _, _, ⟨h1, _, h3⟩ => grow_closed m ps k h1 (grow_back h h3)
theorem order_no_ring {m : Nat} {ps : PL} (hm : Within m ps) {t : List Nat} (h : orderOf m ps = some t) (o : Nat) : ∀ r, ¬ Cl ps o o r := by
  intro r c
  have hlen : m ≤ (grow m ps m).length := by
    unfold orderOf at h
    by_cases q : (grow m ps m).length < m
    · rw [if_pos q] at h
      cases h
    · exact Nat.le_of_not_lt q
  have ho : o < m := (cl_within hm c).1
  have hin : o ∈ grow m ps m := Classical.byContradiction fun q => by
    have := nodup_len m (o :: grow m ps m) (List.nodup_cons.mpr ⟨q, grow_nodup m ps m⟩) (fun x hx => by
      rcases List.mem_cons.mp hx with e | e
      · rw [e]; exact ho
      · exact grow_lt m ps m x e)
    rw [List.length_cons] at this
    omega
  obtain ⟨k, hk, hno⟩ := lens_some.least (P := fun k => o ∈ grow m ps k) ⟨m, hin⟩
  cases k with
  | zero => cases hk
  | succ k =>
    have q := hno k (Nat.lt_succ_self k)
    exact q (grow_back (grow_new hk q) c)
def backs (g : Nat → Nat) (s : Nat) : Nat → List Nat
  | 0 => []
  | j + 1 => g (s + j + 1) :: backs g s j
theorem backs_cl {ps : PL} {g : Nat → Nat} (hg : ∀ n, (g (n + 1), g n) ∈ ps) (s : Nat) : ∀ j, (∀ i, 1 ≤ i → i ≤ j → g s < g (s + i)) → Cl ps (g s) (g (s + j + 1)) (backs g s j)
  | 0, _ => hg s
  | j + 1, h => ⟨hg (s + j + 1), h (j + 1) (by omega) (Nat.le_refl _), backs_cl hg s j fun i h1 h2 => h i h1 (by omega)⟩
theorem pigeon (m : Nat) (g : Nat → Nat) (h : ∀ n, g n < m) : ∃ i j, i < j ∧ g i = g j := by
  apply Classical.byContradiction
  intro c
  have inj : ∀ i j, i < j → g i ≠ g j := fun i j hij e => c ⟨i, j, hij, e⟩
  have hn : ((List.range (m + 1)).map g).Nodup := by
    refine List.Pairwise.map g (R := fun i j => i < j) (fun i j hij => inj i j hij) ?_
    exact List.pairwise_lt_range
  have := nodup_len m _ hn (fun x hx => by
    obtain ⟨i, _, rfl⟩ := List.mem_map.mp hx
    exact h i)
  rw [List.length_map, List.length_range] at this
  omega
theorem seq_ring {m : Nat} {ps : PL} {g : Nat → Nat} (hg : ∀ n, (g (n + 1), g n) ∈ ps) (hm : ∀ n, g n < m) : ∃ o r, o < m ∧ Cl ps o o r := by
  obtain ⟨i, j, hij, e⟩ := pigeon m g hm
  -- the places seen from i on come again at j
  -- least place at or behind i, up to j
  obtain ⟨mu, ⟨s, h1, h2, rfl⟩, hmin⟩ := lens_some.least (P := fun x => ∃ s, i ≤ s ∧ s < j ∧ x = g s) ⟨g i, i, Nat.le_refl _, hij, rfl⟩
  -- the sequence s, s + 1, .., j = i, .., s: as a new sequence
  let g' : Nat → Nat := fun n => g (i + (s - i + n) % (j - i))
  have hp : 0 < j - i := by omega
  have hg' : ∀ n, (g' (n + 1), g' n) ∈ ps := by
    intro n
    show (g (i + (s - i + (n + 1)) % (j - i)), g (i + (s - i + n) % (j - i))) ∈ ps
    have hr := Nat.mod_lt (s - i + n) hp
    by_cases q : (s - i + n) % (j - i) + 1 = j - i
    · have e1 : (s - i + (n + 1)) % (j - i) = 0 := by
        rw [← Nat.add_assoc, ← Nat.mod_add_mod, q, Nat.mod_self]
      rw [e1, Nat.add_zero, e]
      have e2 : i + (s - i + n) % (j - i) = j - 1 := by omega
      rw [e2]
      have := hg (j - 1)
      rw [show j - 1 + 1 = j by omega] at this
      exact this
    · have e1 : (s - i + (n + 1)) % (j - i) = (s - i + n) % (j - i) + 1 := by
        rw [← Nat.add_assoc, ← Nat.mod_add_mod]
        exact Nat.mod_eq_of_lt (by omega)
      rw [e1]
      exact hg _
  have hle : ∀ n, g s ≤ g' n := by
    intro n
    have hr := Nat.mod_lt (s - i + n) hp
    exact Nat.le_of_not_lt fun q => hmin _ q ⟨i + (s - i + n) % (j - i), by omega, by omega, rfl⟩
  have h0 : g' 0 = g s := by
    show g (i + (s - i + 0) % (j - i)) = g s
    rw [Nat.add_zero, Nat.mod_eq_of_lt (by omega)]
    congr 1
    omega
  have hper : g' (j - i) = g s := by
    show g (i + (s - i + (j - i)) % (j - i)) = g s
    rw [Nat.add_mod_right, Nat.mod_eq_of_lt (by omega)]
    congr 1
    omega
  obtain ⟨q, ⟨hq1, hq2⟩, hno⟩ := lens_some.least (P := fun q => 1 ≤ q ∧ g' q = g s) ⟨j - i, by omega, hper⟩
  refine ⟨g s, backs g' 0 (q - 1), hm s, ?_⟩
  have := backs_cl hg' 0 (q - 1) (fun t t1 t2 => by
    rw [h0, Nat.zero_add]
    have a1 := hle t
    have a2 : g' t ≠ g s := fun z => hno t (by omega) ⟨t1, z⟩
    omega)
  rw [h0, show 0 + (q - 1) + 1 = q by omega, hq2] at this
  exact this
theorem order_or_ring {m : Nat} {ps : PL} (hm : Within m ps) (h : orderOf m ps = none) : ∃ o r, o < m ∧ Cl ps o o r := by
  obtain ⟨t, ⟨v, hv, hvt⟩, hall⟩ := order_none h
  have hch : ∀ x : {v : Nat // v < m ∧ v ∉ t}, ∃ y : {v : Nat // v < m ∧ v ∉ t}, (y.1, x.1) ∈ ps := fun x => by
    obtain ⟨u, hu1, hu2⟩ := hall x.1 x.2.1 x.2.2
    exact ⟨⟨u, (hm _ hu1).1, hu2⟩, hu1⟩
  let f : {v : Nat // v < m ∧ v ∉ t} → {v : Nat // v < m ∧ v ∉ t} := fun x => Classical.choose (hch x)
  let g : Nat → {v : Nat // v < m ∧ v ∉ t} := fun n => Nat.rec ⟨v, hv, hvt⟩ (fun _ x => f x) n
  exact seq_ring (m := m) (g := fun n => (g n).1) (fun n => Classical.choose_spec (hch (g n))) (fun n => (g n).2.1)
/-! ### the best ring -/
theorem pick_some {b : Option (List Nat)} {x : Option (List Nat)} {l : List Nat} (h : x = some l) : ∃ m, pick b x = some m := by
  subst h
  cases b with
  | none => exact ⟨_, rfl⟩
  | some k =>
    show ∃ m, (if l.length < k.length then some l else some k) = some m
    by_cases q : l.length < k.length
    · exact ⟨l, if_pos q⟩
    · exact ⟨k, if_neg q⟩
theorem best_keeps {ps : PL} {o : Nat} {l : List Nat} (h : best ps o = some l) : ∃ m, best ps (o + 1) = some m := by
  show ∃ m, pick (best ps o) (ringOf ps o) = some m
  rw [h]
  cases hx : ringOf ps o with
  | none => exact ⟨l, rfl⟩
  | some x => exact pick_some rfl
theorem best_there {ps : PL} {o : Nat} {r : List Nat} (c : Cl ps o o r) : ∀ j, ∃ l, best ps (o + 1 + j) = some l
  | 0 => by
    obtain ⟨l, hl⟩ := ringOf_there c
    exact pick_some hl
  | j + 1 => by
    obtain ⟨l, hl⟩ := best_there c j
    exact best_keeps hl
theorem best_none {ps : PL} (h : ∀ o r, ¬ Cl ps o o r) : ∀ m, best ps m = none
  | 0 => rfl
  | m + 1 => by
    show pick (best ps m) (ringOf ps m) = none
    rw [best_none h m, ringOf_none (h m)]
    rfl
theorem one_of_two {m : Nat} {ps : PL} (hm : Within m ps) : (orderOf m ps = none ↔ best ps m ≠ none) := by
  constructor
  · intro h
    obtain ⟨o, r, ho, c⟩ := order_or_ring hm h
    obtain ⟨l, hl⟩ := best_there c (m - (o + 1))
    rw [show o + 1 + (m - (o + 1)) = m by omega] at hl
    rw [hl]
    exact fun z => by cases z
  · intro h
    cases e : orderOf m ps with
    | none => rfl
    | some t => exact absurd (best_none (order_no_ring hm e) m) h
theorem pick_short {b : Option (List Nat)} {ps : PL} {o : Nat} {l : List Nat} (hb : b = some l) (h : ∀ r, Cl ps o o r → l.length ≤ r.length + 1) : pick b (ringOf ps o) = b := by
  subst hb
  cases hx : ringOf ps o with
  | none => rfl
  | some x =>
    obtain ⟨r, rfl, c, _⟩ := ringOf_is hx
    have := h r c
    show (if (o :: r).length < l.length then some (o :: r) else some l) = some l
    rw [if_neg (by rw [List.length_cons]; omega)]
theorem pick_no {b : Option (List Nat)} {ps : PL} {o : Nat} (h : ∀ r, ¬ Cl ps o o r) : pick b (ringOf ps o) = b := by
  rw [ringOf_none h]
  rfl
theorem pick_new {b : Option (List Nat)} {ps : PL} {o : Nat} {x : List Nat} (hx : LRing ps o x) (h : ∀ l, b = some l → x.length < l.length) : pick b (ringOf ps o) = some x := by
  rw [ringOf_some hx]
  cases b with
  | none => rfl
  | some l => exact if_pos (h l rfl)
end K02

/-! Rules of our own over the hand layer: a walk over a list or a tuple; the order of data; the least of a list of data; list(reversed(a list)). -/
namespace RT
open PySem PySem.Spec PyProof.Rows L2
section
variable {prog : Program} {w : World} {A : Around} {E : Value → Shared → Prop} {s : Shared}
theorem extend_rev {R : Result → Shared → Prop} {it l : Addr} {items : Array Value} (hh : A.handled = none) (S : Addr) (res : Value) (c₀ : Nat) (hS : s.heap.get? S = some { cls := .type "list", data := .seq #[] c₀ })
    (hit : s.heap.IsRevIter it l ((items.size : Int) - 1)) (hl : s.heap.IsList l items) (hne : l ≠ it) (hSi : S ≠ it) (hSl : S ≠ l) (hn : items.size ≤ sizeLine)
    (hR : ∀ h' tk acc' c', (∀ b o, b ≠ S → b ≠ it → s.heap.get? b = some o → h'.get? b = some o) → h'.get? S = some { cls := .type "list", dict := none, data := .seq acc' c', slots := #[] } →
      ItemsOf (fun i v => items[items.size - 1 - i]? = some v) acc' items.size → R (.ok (.ret res)) { s with heap := h', toks := tk }) :
    wpAny (model prog w) A.in1 (Builtin.List.listExtendWith (.ref S) (.ref it) res)
      (fun fin s' => match fin with | .done f => R (.ok f) s' | .again c' => c'.quiet = true ∧ codeAny (model prog w) A c' R s') (fun e s' => R (.error e) s') s := by
  have W := (Walks.listRev (prog := prog) (w := w) (A := A.in1) hh it l hne items).toS
  have hSf : S ∉ [it, l] := by simp only [List.mem_cons, List.not_mem_nil, or_false, not_or]; exact ⟨hSi, hSl⟩
  have hT : s.TypeIs (.ref it) "list_reverseiterator" := hit.typeIs
  have h1 : Builtin.List.listSameRef (.ref S) (.ref it) = false := by simp [Builtin.List.listSameRef, hSi]
  unfold Builtin.List.listExtendWith
  refine wpAny_bind (wpAny_typeOf hT ?_)
  rw [if_neg (by rw [h1]; decide)]
  refine wpAny_bind (wpAny_pyIter_revIter hit ?_)
  refine wpAny_bind (wpAny_holding ?_)
  unfold Builtin.List.listLengthHint
  refine wpAny_bind (wpAny_specialOf hT nolen_lri ?_)
  show wpAny _ A.in1 (specialOf (Value.ref it) (Str.ofString "__length_hint__") >>= _) _ _ _
  refine wpAny_bind (wpAny_specialOf hT hint_lri ?_)
  generalize hid : ("list_reverseiterator.__length_hint__" : String) = id0
  wp_delta
  rw [show splitId id0 = some ("list_reverseiterator", "__length_hint__") from by subst hid; decide +kernel]
  subst hid
  refine wpAny_bind (wpAny_isInstance (b := true) hT (by rw [isSubtype_type]; kernel_rfl) ?_)
  refine wpAny_pure ?_
  rw [if_neg (by decide)]
  have e0 : ((items.size : Nat) : Int) - 1 - ((0 : Nat) : Int) = (items.size : Int) - 1 := by omega
  refine wpAny_pure ⟨plainId_quiet F.plain_extend_loop _, codeAny_extend_loopS W hn _ hSf _ items.size 0 _ _ _ rfl (Nat.zero_le _) ⟨Nat.zero_le _, by rw [e0]; exact hit, hl⟩ hS (ItemsOf.nil _) fun s' acc' c' hm hS' hacc => ?_⟩
  rw [Moved.eq_with hm]
  refine hR s'.heap s'.toks acc' c' (fun b o hb hb2 e => hm.heap b o (fun hmem => ?_) e) hS' hacc
  rcases List.mem_cons.mp hmem with e' | hmem
  · exact hb e'
  · exact hb2 (List.mem_singleton.mp hmem)
theorem list_init_rev {R : Result → Shared → Prop} {it l : Addr} {items : Array Value} (hh : A.handled = none) (S : Addr) (hS : s.heap.get? S = some { cls := .type "list", data := .seq #[] })
    (hit : s.heap.IsRevIter it l ((items.size : Int) - 1)) (hl : s.heap.IsList l items) (hne : l ≠ it) (hSi : S ≠ it) (hSl : S ≠ l) (hn : items.size ≤ sizeLine)
    (hR : ∀ h' tk acc' c', (∀ b o, b ≠ S → b ≠ it → s.heap.get? b = some o → h'.get? b = some o) → h'.get? S = some { cls := .type "list", dict := none, data := .seq acc' c', slots := #[] } →
      ItemsOf (fun i v => items[items.size - 1 - i]? = some v) acc' items.size → R (.ok (.ret .none)) { s with heap := h', toks := tk }) :
    wpAny (model prog w) A.in1 (Builtin.«list.__init__» ⟨[.ref S, .ref it], []⟩)
      (fun fin s' => match fin with | .done f => R (.ok f) s' | .again c' => c'.quiet = true ∧ codeAny (model prog w) A c' R s') (fun e s' => R (.error e) s') s := by
  show wpAny _ _ (do let old ← Builtin.List.listItems (.ref S); Builtin.List.listUpdate (.ref S) (fun _ => #[]); letGo old.toList.reverse; Builtin.List.listExtendWith (.ref S) (.ref it) .none) _ _ s
  refine wpAny_bind ?_
  unfold Builtin.List.listItems
  refine wpAny_bind (wpAny_seqItems hS rfl (wpAny_pure ?_))
  show wpAny _ _ (updateSeq S (fun _ => #[]) >>= fun _ => letGo (#[] : Array Value).toList.reverse >>= fun _ => Builtin.List.listExtendWith (.ref S) (.ref it) .none) _ _ s
  refine wpAny_bind (wpAny_updateSeq hS rfl ?_)
  have hS₂ := Heap.get?_update_self (Obj.mapSeq (fun _ => (#[] : Array Value))) hS rfl
  have oth : ∀ b o, b ≠ S → s.heap.get? b = some o → (s.heap.update S (Obj.mapSeq (fun _ => (#[] : Array Value)))).get? b = some o :=
    fun b o hb e => (Heap.get?_update_other _ _ (Ne.symm hb)).trans e
  refine wpAny_bind (wpAny_letGo ?_)
  refine extend_rev hh S .none _ hS₂ (hit.at fun o e => oth _ _ (Ne.symm hSi) e) (hl.at fun o e => oth _ _ (Ne.symm hSl) e) hne hSi hSl hn fun h' tk acc' c' hk hS' hacc => ?_
  exact hR h' tk acc' c' (fun b o hb hb2 e => hk b o hb hb2 (oth b o hb e)) hS' hacc
theorem call_list_rev {it l : Addr} {items : Array Value} {Q : Value → Shared → Prop} (hh : A.handled = none) (hit : s.heap.IsRevIter it l ((items.size : Int) - 1)) (hl : s.heap.IsList l items) (hne : l ≠ it) (hn : items.size ≤ sizeLine)
    (hQ : ∀ h' tk acc' c', (∀ b o, b ≠ it → s.heap.get? b = some o → h'.get? b = some o) →
      h'.get? s.heap.objs.size = some { cls := .type "list", dict := none, data := .seq acc' c', slots := #[] } → ItemsOf (fun i v => items[items.size - 1 - i]? = some v) acc' items.size → Q (.ref s.heap.objs.size) { s with heap := h', toks := tk }) :
    wpAny (model prog w) A (call (.type "list") [.ref it]) Q E s := by
  obtain ⟨oi, hoi, _⟩ := id hit
  obtain ⟨ol, hol, _⟩ := id hl
  have hSi : s.heap.objs.size ≠ it := Nat.ne_of_gt (Heap.lt_size hoi)
  have hSl : s.heap.objs.size ≠ l := Nat.ne_of_gt (Heap.lt_size hol)
  refine callType_codes (Q₁ := fun obj s₁ => obj = .ref s.heap.objs.size ∧ s₁ = { s with heap := s.heap.push { cls := .type "list", data := .seq #[] } }) F.called_list (F.typeCall_list_1 _) F.entry_list_init
    (code_list_new _ ⟨rfl, rfl⟩) fun obj s₁ h₁ => ?_
  obtain ⟨rfl, rfl⟩ := h₁
  have hS : (s.heap.push { cls := .type "list", data := .seq #[] }).get? s.heap.objs.size = some { cls := .type "list", data := .seq #[] } := Heap.get?_push_size _ rfl
  refine ⟨⟨_, hS, rfl⟩, F.args_list_init_2 _ _, list_init_rev (A := A.in1) hh _ hS (hit.at fun o e => Heap.get?_push_of_some _ e) (hl.push _) hne hSi hSl hn fun h' tk acc' c' hk hS' hacc => ?_⟩
  exact ⟨rfl, hQ h' tk acc' c' (fun b o hb e => hk b o (Nat.ne_of_lt (Heap.lt_size e)) hb (Heap.get?_push_of_some _ e)) hS' hacc⟩
end
end RT
namespace L2
open PySem PySem.Spec PyProof.Rows
section
variable {X : Cx}
/-- list(reversed(x)), x a list: a new list -/
def tLstRev (K : PySem.W.Frag) (te : TE) : TE := fun σ H Q => te σ H fun v H1 => ∃ (a : Addr) (xs : List V), v = .ref a ∧ SqL K H1 a xs ∧ ∀ q, H1 q = none → Q (.ref q) (upd H1 q (.lst xs.reverse))
theorem pe_lstRev {e : Expr} {te : TE} {p p2 pos pos2 : Pos} (hc : X.calm = true) (hg : Gl X "list") (hm : X.mg "list" = none) (hg2 : Gl X "reversed") (hm2 : X.mg "reversed" = none) (he : PE X e te)
    (hs : starEach [e] X.env = (false, eval e X.env) :: starEach [] X.env := by rfl)
    (hs2 : starEach [.Call (.Name "reversed" p2) [e] [] pos2] X.env = (false, eval (.Call (.Name "reversed" p2) [e] [] pos2) X.env) :: starEach [] X.env := by rfl) :
    PE X (.Call (.Name "list" p) [.Call (.Name "reversed" p2) [e] [] pos2] [] pos) (tLstRev X.K te) := by
  refine ⟨fun pins s σ H Q I h => ?_⟩
  refine Call_ (ld_blt I hg hm boot_list (PyProof.Rows.callWith_type1 (args_cons ?_ hs2) hs2 rfl))
  refine Call_ (ld_blt I hg2 hm2 PyProof.Rows.boot_reversed (PyProof.Rows.callWith_type1 (args_cons ?_ hs) hs rfl))
  refine thn (he.run pins s σ H _ I h) fun u s1 ⟨v, H1, I1, r1, q1⟩ => args_nil ?_
  obtain ⟨a, xs, ev, hq, q⟩ := q1
  subst ev
  obtain rfl : u = Value.ref a := r1
  obtain ⟨its, rv, p', hz⟩ := I1.list hq
  refine call_reversed_list p'.isList (args_nil ?_)
  have k0 : ∀ b o, s1.heap.get? b = some o → (s1.heap.push (revObj a ((its.toArray.size : Int) - 1))).get? b = some o := fun b o e => Heap.get?_push_of_some _ e
  have I2 : Inv X pins σ H1 { s1 with heap := s1.heap.push (revObj a ((its.toArray.size : Int) - 1)) } := I1.kept (t' := s1.toks) k0
  obtain ⟨f0, f1, f2, f3, f4, f5⟩ := I1.fpOk (H' := H1) (b := s1.heap.objs.size) (Nat.le_refl _) (I1.hok.fresh (Nat.le_refl _))
  have hl := p'.isList
  obtain ⟨ol, hol, _⟩ := id hl
  have hne : a ≠ s1.heap.objs.size := Nat.ne_of_lt (Heap.lt_size hol)
  have hn : its.toArray.size ≤ sizeLine := by rw [List.size_toArray, ← rv.length]; exact hz
  refine RT.call_list_rev (s := { s1 with heap := s1.heap.push (revObj a ((its.toArray.size : Int) - 1)) }) (I1.ok.hd hc) ⟨_, Heap.get?_push_size _ rfl, rfl, rfl⟩ (hl.push _) hne hn fun h' tk acc c' hk hS' hi => ?_
  have ez : (s1.heap.push (revObj a ((its.toArray.size : Int) - 1))).objs.size = s1.heap.objs.size + 1 := Heap.size_push _ _
  have hS2 : h'.get? (s1.heap.objs.size + 1) = some { cls := .type "list", data := .seq acc c' } := by rw [← ez]; exact hS'
  show EP X pins σ Q (Value.ref (s1.heap.push (revObj a ((its.toArray.size : Int) - 1))).objs.size) _
  rw [ez]
  refine ⟨.ref (s1.heap.objs.size + 1), upd H1 (s1.heap.objs.size + 1) (.lst xs.reverse), I1.laid (t' := tk) (fun b o e => hk b o (Nat.ne_of_lt (Heap.lt_size e)) (k0 b o e)) (Nat.le_succ _) (show ObjOk X.prog X.w _ _ _ (.lst xs.reverse) from ⟨by rw [List.length_reverse]; exact hz, acc.toList, c', RT.vals_rev rv hi, ?_⟩), rfl, q _ (I1.hok.fresh (Nat.le_succ _))⟩
  rw [Array.toArray_toList]
  exact hS2
end
end L2
namespace L2
open PySem PySem.Spec PyProof.Rows PySem.W
section
variable {X : Cx}
/-- a list or a tuple, walked -/
def iSeq (K : PySem.W.Frag) (tl : TE) : TI := fun σ H R => tl σ H fun x H1 => ∃ a, x = .ref a ∧ (((∃ xs, SqL K H1 a xs) ∧ R (Itl K a) H1) ∨ ((∃ xs, SqT K H1 a xs) ∧ R (Itt K a) H1))
theorem pi_seq {tg l : Expr} {tl : TE} (hl : PE X l tl) : PI X tg l (iSeq X.K tl) := by
  refine ⟨fun pins s σ H R I h => ?_⟩
  refine thn (hl.run pins s σ H _ I h) fun v s1 ⟨x, H1, I1, r1, q1⟩ => ?_
  obtain ⟨a, e, ⟨⟨xs, hq⟩, q⟩ | ⟨⟨xs, hq⟩, q⟩⟩ := q1
  · subst e
    cases r1
    obtain ⟨its, rv, p, hz⟩ := I1.list hq
    refine wpAny_pyIter_list p.isList ?_
    refine ⟨s1.heap.objs.size, [s1.heap.objs.size], _, _, H1, rfl, I1.kept (t' := s1.toks) fun b o e => Heap.get?_push_of_some _ e, turn_list a _, ⟨_, Heap.get?_push_size _ rfl, rfl, rfl⟩, fun b hb => ?_, q⟩
    have e : b = s1.heap.objs.size := by simpa using hb
    subst e
    exact I1.fpOk (Nat.le_refl _) (I1.hok.fresh (Nat.le_refl _))
  · subst e
    cases r1
    obtain ⟨its, rv, p, hz⟩ := I1.tuple hq
    refine wpAny_pyIter_tuple (show s1.heap.IsTuple a its.toArray from p) ?_
    refine ⟨s1.heap.objs.size, [s1.heap.objs.size], _, _, H1, rfl, I1.kept (t' := s1.toks) fun b o e => Heap.get?_push_of_some _ e, turn_tuple a _, ⟨_, Heap.get?_push_size _ rfl, rfl, rfl⟩, fun b hb => ?_, q⟩
    have e : b = s1.heap.objs.size := by simpa using hb
    subst e
    exact I1.fpOk (Nat.le_refl _) (I1.hok.fresh (Nat.le_refl _))
/-- x < y of data with a Lean type -/
def rLtA (α : Type) [DecidableEq α] [DatumOrd α] (K : PySem.W.Frag) : R2 := fun x y H Q => ∃ (a b : α), Dp K H x (Datum.toD a) ∧ Dp K H y (Datum.toD b) ∧ Q (.bl (DatumOrd.lt a b)) H
theorem op_ltA (α : Type) [DecidableEq α] [DatumOrd α] (hu : X.A.units + 64 < cLine) (hd : Datum.depth α ≤ 60) : OpR X (compareOp .Lt) (rLtA α X.K) := by
  intro pins s σ H x y v u Q I rx ry h
  obtain ⟨a, b, ha, hb, q⟩ := h
  obtain ⟨as, r1⟩ := Dp.reads I _ x v ha rx
  obtain ⟨bs, r2⟩ := Dp.reads I _ y u hb ry
  exact lt_datum ⟨as, r1⟩ ⟨bs, r2⟩ (by omega) ⟨.bl _, H, I, rfl, q⟩
theorem DpAll.at {K : PySem.W.Frag} {H : Hp} : ∀ {vs : List V} {ds : List PyData}, DpAll K H vs ds → ∀ (i : Nat) (v : V), vs[i]? = some v → ∃ d, ds[i]? = some d ∧ Dp K H v d
  | _, _, .nil, i, v, h => by simp at h
  | _, _, .cons h1 h2, 0, v, h => by
    simp only [List.getElem?_cons_zero, Option.some.injEq] at h
    subst h
    exact ⟨_, rfl, h1⟩
  | _, _, .cons h1 h2, i + 1, v, h => DpAll.at h2 i v (by simpa using h)
theorem toD_inj {α : Type} [DecidableEq α] [Datum α] {a b : α} (h : Datum.toD a = Datum.toD b) : a = b := by
  have e := Datum.eqv a b
  rw [h, Datum.eqv b b, decide_eq_true rfl] at e
  exact of_decide_eq_true e.symm
/-- min(xs): the item that stands where the first least one stands -/
def rMinA (α : Type) [DecidableEq α] [DatumOrd α] (K : PySem.W.Frag) : List V → Hp → VK → Prop := fun us H Q => ∃ (a : Addr) (vs : List V) (x : α) (xs : List α), us = [V.ref a] ∧ SqL K H a vs ∧ DpAll K H vs ((x :: xs).map Datum.toD) ∧
  ∀ (i : Nat) (v : V), vs[i]? = some v → (x :: xs)[i]? = some (minOf x xs) → Q v H
theorem cr_minA (α : Type) [DecidableEq α] [DatumOrd α] (hc : X.calm = true) (hu : X.A.units + 64 < cLine) (hd : Datum.depth α ≤ 60) : CallR X (.builtin "min") (rMinA α X.K) := by
  intro pins s σ H vs us Q I r h
  obtain ⟨a, ws, x, xs, rfl, hs, hda, q⟩ := h
  obtain ⟨its, rv, hl, _⟩ := I.list hs
  rw [Vals.ref1 r]
  obtain ⟨as, hr⟩ := Dp.readsAll I _ _ its hda rv
  refine min_list_datum (x := x) (xs := xs) (I.ok.hd hc) hl.isList ⟨as, by simpa using hr⟩ (by omega) fun i v h' tk hi hv hk => ?_
  have hi' : its[i]? = some v := by simpa using hi
  -- the item's own V
  have hlt : i < its.length := (List.getElem?_eq_some_iff.mp hi').1
  have hlw : i < ws.length := by
    have := Vals.length rv
    omega
  have hw : ws[i]? = some ws[i] := List.getElem?_eq_getElem hlw
  obtain ⟨u, hu1, hu2⟩ := rv.get hw
  rw [hi'] at hu1
  cases hu1
  obtain ⟨d, hd1, hd2⟩ := hda.at i _ hw
  obtain ⟨y, hy1, hy2⟩ : ∃ y, (x :: xs)[i]? = some y ∧ Datum.toD y = d := by
    rw [List.getElem?_map] at hd1
    cases e : (x :: xs)[i]? with
    | none => rw [e] at hd1; cases hd1
    | some y => rw [e] at hd1; exact ⟨y, rfl, Option.some.inj hd1⟩
  subst hy2
  have I2 : Inv X pins σ H { s with heap := h', toks := tk } := I.kept hk
  obtain ⟨bs, r2⟩ := Dp.reads I2 _ _ v hd2 hu2
  obtain ⟨cs, r3⟩ := hv
  have e := toD_inj (alike_unique _ _ v bs cs (DatumOrd.alike y (minOf x xs)) r2 r3)
  exact ⟨_, H, I2, hu2, q i _ hw (by rw [hy1, e])⟩
end
end L2
namespace L2
open PySem PySem.Spec PyProof.Rows
def rLenQ (K : PySem.W.Frag) : List V → Hp → VK → Prop := fun xs H Q => ∃ p ys, xs = [.ref p] ∧ (SqL K H p ys ∨ SqT K H p ys) ∧ Q (.int ys.length) H
def rListOf (K : PySem.W.Frag) : List V → Hp → VK → Prop := fun xs H Q => ∃ p ys, xs = [.ref p] ∧ (SqL K H p ys ∨ SqT K H p ys) ∧ ∀ l, H l = none → Q (.ref l) (upd H l (.lst ys))
end L2

/-! Heaps in short: numbers, lists of lists, lists of pairs, dicts by numbers. -/
namespace KH
open PySem PySem.Spec PyProof.Rows L2 K02
abbrev nV (n : Nat) : V := .int (n : Int)
/-! ### lists -/
theorem getn {α β : Type} {f : α → β} {l : List α} {i : Nat} {x : α} (h : l[i]? = some x) : (l.map f)[i]? = some (f x) := by
  rw [List.getElem?_map, h]
  rfl
theorem getn_inv {α β : Type} {f : α → β} {l : List α} {i : Nat} {y : β} (h : (l.map f)[i]? = some y) : ∃ x, l[i]? = some x ∧ y = f x := by
  rw [List.getElem?_map] at h
  cases e : l[i]? with
  | none => rw [e] at h; cases h
  | some x => rw [e] at h; exact ⟨x, rfl, (Option.some.inj h).symm⟩
theorem get_lt {α : Type} {l : List α} {i : Nat} (h : i < l.length) : ∃ x, l[i]? = some x := ⟨l[i], List.getElem?_eq_getElem h⟩
theorem lt_get {α : Type} {l : List α} {i : Nat} {x : α} (h : l[i]? = some x) : i < l.length := (List.getElem?_eq_some_iff.mp h).1
theorem take_more {α : Type} {l : List α} {i : Nat} {x : α} (h : l[i]? = some x) : l.take (i + 1) = l.take i ++ [x] := by
  rw [List.take_add_one, h]
  rfl
theorem at_n {xs : List V} {j : Nat} {v : V} (h : xs[j]? = some v) : atI xs (j : Int) = some v := atI_nat h
theorem szl {n : Nat} (h : n ≤ 10000) : n < sizeLine := Nat.lt_of_le_of_lt h (by decide)
theorem szle {n : Nat} (h : n ≤ 10000) : n ≤ sizeLine := Nat.le_of_lt (szl h)
section
variable {α β : Type} {F G : α → β → Prop}
theorem P_len : ∀ {xs : List α} {ys : List β}, Paired F xs ys → xs.length = ys.length
  | _, _, .nil => rfl
  | _, _, .cons _ h => by rw [List.length_cons, List.length_cons, P_len h]
theorem P_get : ∀ {xs : List α} {ys : List β}, Paired F xs ys → ∀ {i : Nat} {x : α} {y : β}, xs[i]? = some x → ys[i]? = some y → F x y
  | _, _, .nil, i, x, _, h, _ => by simp at h
  | _, _, .cons f _, 0, x, y, h, h' => by
    simp at h h'
    subst h
    subst h'
    exact f
  | _, _, .cons _ r, i + 1, x, y, h, h' => P_get r (i := i) (by simpa using h) (by simpa using h')
theorem P_right {xs : List α} {ys : List β} (p : Paired F xs ys) {i : Nat} {x : α} (h : xs[i]? = some x) : ∃ y, ys[i]? = some y ∧ F x y := by
  have hl := lt_get h
  rw [P_len p] at hl
  obtain ⟨y, hy⟩ := get_lt hl
  exact ⟨y, hy, P_get p h hy⟩
theorem P_left {xs : List α} {ys : List β} (p : Paired F xs ys) {i : Nat} {y : β} (h : ys[i]? = some y) : ∃ x, xs[i]? = some x ∧ F x y := by
  have hl := lt_get h
  rw [← P_len p] at hl
  obtain ⟨x, hx⟩ := get_lt hl
  exact ⟨x, hx, P_get p hx h⟩
theorem P_mono (h : ∀ x y, F x y → G x y) : ∀ {xs : List α} {ys : List β}, Paired F xs ys → Paired G xs ys
  | _, _, .nil => .nil
  | _, _, .cons f r => .cons (h _ _ f) (P_mono h r)
theorem P_monoM : ∀ {xs : List α} {ys : List β}, (∀ x y, x ∈ xs → F x y → G x y) → Paired F xs ys → Paired G xs ys
  | _, _, _, .nil => .nil
  | _, _, h, .cons f r => .cons (h _ _ List.mem_cons_self f) (P_monoM (fun x y hx => h x y (List.mem_cons_of_mem _ hx)) r)
theorem P_set : ∀ {xs : List α} {ys : List β}, Paired F xs ys → ∀ {i : Nat} {x : α} {y : β}, F x y → Paired F (xs.set i x) (ys.set i y)
  | _, _, .nil, _, _, _, _ => .nil
  | _, _, .cons _ r, 0, _, _, f => .cons f r
  | _, _, .cons g r, i + 1, _, _, f => .cons g (P_set r f)
theorem P_setR {xs : List α} {ys : List β} (p : Paired F xs ys) {i : Nat} {x : α} {y : β} (hx : xs[i]? = some x) (f : F x y) : Paired F xs (ys.set i y) := by
  have := P_set p (i := i) f
  rwa [show xs.set i x = xs from List.set_getElem?_self hx] at this
where
  List.set_getElem?_self {l : List α} {i : Nat} {x : α} (h : l[i]? = some x) : l.set i x = l := by
    apply List.ext_getElem?
    intro j
    rw [List.getElem?_set]
    by_cases e : i = j
    · subst e
      rw [if_pos rfl, if_pos (lt_get h), h]
    · rw [if_neg e]
theorem P_append : ∀ {xs xs' : List α} {ys ys' : List β}, Paired F xs ys → Paired F xs' ys' → Paired F (xs ++ xs') (ys ++ ys')
  | _, _, _, _, .nil, h => h
  | _, _, _, _, .cons f r, h => .cons f (P_append r h)
end
/-! ### what stays -/
theorem _root_.L2.Same.seqT {K : PySem.W.Frag} {H H' : Hp} {a : Addr} {xs : List V} (e : Same H H') (h : SqT K H a xs) : SqT K H' a xs := by
  rcases h with (h | ⟨o, h⟩) | h
  · exact .inl (.inl (e _ _ h))
  · exact .inl (.inr ⟨o, e _ _ h⟩)
  · exact .inr h
theorem _root_.L2.Same.new {H H' : Hp} {p : Addr} {o : HO} (s : Same H H') (h : H' p = none) : Same H (upd H' p o) := fun b x e => by
  have e' := s b x e
  rw [upd_ne (ne_of_none e' h)]
  exact e'
theorem _root_.L2.Same.mut {H H' : Hp} {p : Addr} {o : HO} (s : Same H H') (h : H p = none) : Same H (upd H' p o) := fun b x e => by
  rw [upd_ne (ne_of_none e h)]
  exact s b x e
theorem new_free {H H' : Hp} {p : Addr} (s : Same H H') (h : H' p = none) : H p = none := s.free h
theorem ne_new {H : Hp} {a p : Addr} {o : HO} (h : H a = some o) (hp : H p = none) : a ≠ p := ne_of_none h hp
/-! ### a walk over a list or a tuple -/
def Sq (K : PySem.W.Frag) (H : Hp) (a : Addr) (xs : List V) : Prop := SqL K H a xs ∨ SqT K H a xs
theorem _root_.L2.Same.sq {K : PySem.W.Frag} {H H' : Hp} {a : Addr} {xs : List V} (e : Same H H') (h : Sq K H a xs) : Sq K H' a xs := h.imp (fun q => e.seq q) (fun q => e.seqT q)
theorem for_seq {K : PySem.W.Frag} {a : Addr} {xs : List V} {g : TG} {tb : TS} {D : Ends} {σ : L2.St} {H0 H : Hp} (hq : Sq K H0 a xs) (s0 : Same H0 H) (Pv : Nat → L2.St → Hp → Prop) (h0 : Pv 0 σ H) (hl : ∀ i σ' H', i ≤ xs.length → Pv i σ' H' → Same H0 H')
    (hs : ∀ i x σ H, xs[i]? = some x → Pv i σ H → g x σ H fun σ2 H2 => tb { D with nx := Pv (i + 1), ct := Pv (i + 1), bk := D.nx } σ2 H2) (hd : ∀ σ H, Pv xs.length σ H → D.nx σ H) :
    ∃ a', V.ref a = V.ref a' ∧ (((∃ xs, SqL K H a' xs) ∧ ∃ W : Nat → Nat → L2.St → Hp → Prop, (∃ m, W 0 m σ H) ∧ ∀ i m σ H, W i m σ H →
      ((Itl K a').stop i H ∧ D.nx σ H) ∨ ((Itl K a').go i H ∧ ∃ N : L2.St → Hp → Prop, (∀ σ' H', N σ' H' → ∃ m', m' < m ∧ W (i + 1) m' σ' H') ∧ ∀ x H', (Itl K a').yld i H x H' → g x σ H' fun σ2 H2 => tb { D with nx := N, ct := N, bk := D.nx } σ2 H2)) ∨
      ((∃ xs, SqT K H a' xs) ∧ ∃ W : Nat → Nat → L2.St → Hp → Prop, (∃ m, W 0 m σ H) ∧ ∀ i m σ H, W i m σ H →
      ((Itt K a').stop i H ∧ D.nx σ H) ∨ ((Itt K a').go i H ∧ ∃ N : L2.St → Hp → Prop, (∀ σ' H', N σ' H' → ∃ m', m' < m ∧ W (i + 1) m' σ' H') ∧ ∀ x H', (Itt K a').yld i H x H' → g x σ H' fun σ2 H2 => tb { D with nx := N, ct := N, bk := D.nx } σ2 H2))) := by
  rcases hq with hq | hq
  · exact ⟨a, rfl, .inl ⟨⟨_, s0.seq hq⟩, for_list (K := K) (a := a) (xs := xs) Pv h0 (fun i σ' H' hi p => (hl i σ' H' hi p).seq hq) hs hd⟩⟩
  · exact ⟨a, rfl, .inr ⟨⟨_, s0.seqT hq⟩, for_tup (K := K) (a := a) (xs := xs) Pv h0 (fun i σ' H' hi p => (hl i σ' H' hi p).seqT hq) hs hd⟩⟩
/-! ### dicts by numbers -/
def dkN {β : Type} (f : β → V) (l : List (Nat × β)) : List (Key × V) := l.map fun p => (Sum.inl (p.1 : Int), f p.2)
theorem key_eq {a b : Nat} : ((Sum.inl (a : Int) : Key) = Sum.inl (b : Int)) ↔ a = b := by
  constructor
  · intro h
    have := Sum.inl.inj h
    omega
  · intro h
    rw [h]
theorem val_dk {β : Type} (f : β → V) (k : Nat) : ∀ l : List (Nat × β), valV (dkN f l) (Sum.inl (k : Int)) = (look l k).map f
  | [] => rfl
  | p :: r => by
    show valV ((Sum.inl (p.1 : Int), f p.2) :: dkN f r) (Sum.inl (k : Int)) = (if p.1 = k then some p.2 else look r k).map f
    by_cases e : p.1 = k
    · rw [valV_pos (key_eq.mpr e), if_pos e]
      rfl
    · rw [valV_neg (fun z => e (key_eq.mp z)), if_neg e, val_dk f k r]
theorem put_dk {β : Type} (f : β → V) (k : Nat) (v : β) (l : List (Nat × β)) (hn : (l.map (·.1)).Nodup) : putK (dkN f l) (Sum.inl (k : Int)) (f v) = dkN f (put l k v) := by
  unfold putK
  rw [valV_any, val_dk]
  cases h : look l k with
  | none =>
    rw [if_neg (by simp)]
    rw [put_new l h]
    unfold dkN
    rw [List.map_append]
    rfl
  | some w =>
    rw [if_pos (by simp)]
    exact put_old l (by rw [h]; rfl) hn
where
  put_new : ∀ (l : List (Nat × β)), look l k = none → put l k v = l ++ [(k, v)]
    | [], _ => rfl
    | p :: r, h => by
      unfold look at h
      by_cases e : p.1 = k
      · rw [if_pos e] at h
        cases h
      · rw [if_neg e] at h
        show (if p.1 = k then (p.1, v) :: r else p :: put r k v) = _
        rw [if_neg e, put_new r h]
        rfl
  map_other : ∀ (l : List (Nat × β)), k ∉ l.map (·.1) → (dkN f l).map (fun kv => if kv.1 = Sum.inl (k : Int) then (kv.1, f v) else kv) = dkN f l
    | [], _ => rfl
    | p :: r, h => by
      rw [List.map_cons, List.mem_cons, not_or] at h
      show (if (Sum.inl (p.1 : Int) : Key) = Sum.inl (k : Int) then (Sum.inl (p.1 : Int), f v) else (Sum.inl (p.1 : Int), f p.2)) :: (dkN f r).map (fun kv => if kv.1 = Sum.inl (k : Int) then (kv.1, f v) else kv) = _
      rw [if_neg (fun z => h.1 (key_eq.mp z).symm), map_other r h.2]
      rfl
  put_old : ∀ (l : List (Nat × β)), (look l k).isSome = true → (l.map (·.1)).Nodup → (dkN f l).map (fun kv => if kv.1 = Sum.inl (k : Int) then (kv.1, f v) else kv) = dkN f (put l k v)
    | [], h, _ => by cases h
    | p :: r, h, hn => by
      rw [List.map_cons] at hn
      obtain ⟨h1, h2⟩ := List.nodup_cons.mp hn
      show (if (Sum.inl (p.1 : Int) : Key) = Sum.inl (k : Int) then (Sum.inl (p.1 : Int), f v) else (Sum.inl (p.1 : Int), f p.2)) :: (dkN f r).map (fun kv => if kv.1 = Sum.inl (k : Int) then (kv.1, f v) else kv) = dkN f (if p.1 = k then (p.1, v) :: r else p :: put r k v)
      by_cases e : p.1 = k
      · rw [if_pos (key_eq.mpr e), if_pos e, map_other r (by rw [← e]; exact h1)]
        rfl
      · rw [if_neg (fun z => e (key_eq.mp z)), if_neg e]
        unfold look at h
        rw [if_neg e] at h
        rw [put_old r h h2]
        rfl
theorem dk_len {β : Type} (f : β → V) (l : List (Nat × β)) : (dkN f l).length = l.length := by unfold dkN; rw [List.length_map]
theorem put_keys {β : Type} (k : Nat) (v : β) : ∀ (l : List (Nat × β)), (l.map (·.1)).Nodup → ((put l k v).map (·.1)).Nodup ∧ ∀ x, x ∈ (put l k v).map (·.1) → x = k ∨ x ∈ l.map (·.1)
  | [], _ => ⟨by simp [put], fun x h => .inl (by simpa [put] using h)⟩
  | p :: r, hn => by
    rw [List.map_cons] at hn
    obtain ⟨h1, h2⟩ := List.nodup_cons.mp hn
    unfold put
    by_cases e : p.1 = k
    · rw [if_pos e]
      exact ⟨hn, fun x h => .inr h⟩
    · rw [if_neg e]
      obtain ⟨i1, i2⟩ := put_keys k v r h2
      refine ⟨?_, fun x h => ?_⟩
      · rw [List.map_cons]
        refine List.nodup_cons.mpr ⟨fun z => ?_, i1⟩
        rcases i2 _ z with q | q
        · exact e q
        · exact h1 q
      · rw [List.map_cons, List.mem_cons] at h
        rcases h with q | q
        · rw [q, List.map_cons]
          exact .inr List.mem_cons_self
        · rcases i2 _ q with q | q
          · exact .inl q
          · rw [List.map_cons]
            exact .inr (List.mem_cons_of_mem _ q)
theorem dget_n {β : Type} {H : Hp} {a : Addr} {f : β → V} {l : List (Nat × β)} {k : Nat} (h : H a = some (.dK (dkN f l))) : DGet H a (nV k) ((look l k).map f) := by
  have := DGet.k (k := Sum.inl (k : Int)) h
  rw [val_dk] at this
  exact this
theorem dput_n {β : Type} {H : Hp} {a : Addr} {f : β → V} {l : List (Nat × β)} {k : Nat} {v : β} (h : H a = some (.dK (dkN f l))) (hl : l.length < sizeLine) (hn : (l.map (·.1)).Nodup) : DPut H a (nV k) (f v) (upd H a (.dK (dkN f (put l k v)))) := by
  have := DPut.k (k := Sum.inl (k : Int)) (v := f v) h (by rw [dk_len]; exact hl)
  rw [put_dk f k v l hn] at this
  exact this
/-! ### lists of lists of numbers, all new -/
/-- at a (new since H0) a list of lists, each new since H0, no two the same -/
structure LL (H0 H : Hp) (a : Addr) (bs : List (List Nat)) : Prop where
  new : H0 a = none
  ex : ∃ as : List Addr, H a = some (.lst (as.map V.ref)) ∧ as.Nodup ∧ (∀ x ∈ as, H0 x = none ∧ x ≠ a) ∧ Paired (fun x l => H x = some (.lst (l.map nV))) as bs
theorem LL.other {H0 H : Hp} {a p : Addr} {o : HO} {bs : List (List Nat)} (h : LL H0 H a bs) (hp : H p = none) : LL H0 (upd H p o) a bs := by
  obtain ⟨n, as, h1, h2, h3, h4⟩ := h
  refine ⟨n, as, by rw [upd_ne (ne_of_none h1 hp)]; exact h1, h2, h3, P_mono (fun x l e => ?_) h4⟩
  rw [upd_ne (ne_of_none e hp)]
  exact e
/-- what is not of it may change -/
theorem LL.apart {H0 H H' : Hp} {a : Addr} {bs : List (List Nat)} (h : LL H0 H a bs) (s : Same H H') : LL H0 H' a bs := by
  obtain ⟨n, as, h1, h2, h3, h4⟩ := h
  exact ⟨n, as, s _ _ h1, h2, h3, P_mono (fun x l e => s _ _ e) h4⟩
theorem LL.at {H0 H : Hp} {a : Addr} {bs : List (List Nat)} (h : LL H0 H a bs) {i : Nat} {l : List Nat} (hi : bs[i]? = some l) : ∃ (vs : List V) (x : Addr), H a = some (.lst vs) ∧ vs[i]? = some (V.ref x) ∧ H x = some (.lst (l.map nV)) ∧ H0 x = none ∧ x ≠ a := by
  obtain ⟨n, as, h1, h2, h3, h4⟩ := h
  obtain ⟨x, hx, hl⟩ := P_left h4 hi
  have hm : x ∈ as := List.mem_of_getElem? hx
  exact ⟨_, x, h1, getn hx, hl, (h3 x hm).1, (h3 x hm).2⟩
/-- the i-th list grows -/
theorem LL.grow {H0 H : Hp} {a : Addr} {bs : List (List Nat)} (h : LL H0 H a bs) {i : Nat} {l : List Nat} {vs : List V} {x : Addr} (hi : bs[i]? = some l) (hv : H a = some (.lst vs)) (hx : vs[i]? = some (V.ref x)) (m : List Nat) : LL H0 (upd H x (.lst (m.map nV))) a (bs.set i m) := by
  obtain ⟨n, as, h1, h2, h3, h4⟩ := h
  rw [h1] at hv
  cases hv
  obtain ⟨y, hy, e⟩ := getn_inv hx
  cases e
  have hm : x ∈ as := List.mem_of_getElem? hy
  refine ⟨n, as, ?_, h2, h3, ?_⟩
  · rw [upd_ne (Ne.symm (h3 x hm).2)]
    exact h1
  · have key : Paired (fun z l => (z = x → l = m) → (upd H x (.lst (m.map nV))) z = some (.lst (l.map nV))) as bs := P_mono (fun z l e q => by
      by_cases c : z = x
      · rw [c, upd_same, q c]
      · rw [upd_ne c]
        exact e) h4
    exact P_fix h2 key hy
where
  P_fix : ∀ {as : List Addr} {bs : List (List Nat)} {i : Nat}, as.Nodup → Paired (fun z l => (z = x → l = m) → (upd H x (.lst (m.map nV))) z = some (.lst (l.map nV))) as bs → as[i]? = some x →
      Paired (fun z l => (upd H x (.lst (m.map nV))) z = some (.lst (l.map nV))) as (bs.set i m)
    | _, _, _, _, .nil, h => by simp at h
    | _, _, 0, hn, .cons f r, h => by
      simp at h
      subst h
      obtain ⟨h1, h2⟩ := List.nodup_cons.mp hn
      refine .cons upd_same (P_monoM (fun z l hz e => e fun c => absurd (c ▸ hz) h1) r)
    | _, _, i + 1, hn, .cons f r, h => by
      obtain ⟨h1, h2⟩ := List.nodup_cons.mp hn
      have hx : _ := List.mem_of_getElem? (show _ from (by simpa using h : (_ : List Addr)[i]? = some x))
      refine .cons (f fun c => absurd (c ▸ hx) h1) (P_fix h2 r (by simpa using h))
/-! ### lists of pairs -/
/-- the refs of a list of pairs of numbers -/
def Prs (K : PySem.W.Frag) (H : Hp) (vs : List V) (ps : PL) : Prop := Paired (fun v q => ∃ t, v = V.ref t ∧ SqT K H t [nV q.1, nV q.2]) vs ps
theorem Prs.same {K : PySem.W.Frag} {H H' : Hp} {vs : List V} {ps : PL} (h : Prs K H vs ps) (s : Same H H') : Prs K H' vs ps := P_mono (fun _ _ ⟨t, e, q⟩ => ⟨t, e, s.seqT q⟩) h
end KH
namespace KH
open PySem PySem.Spec PyProof.Rows L2 K02
theorem Prs.len {K : PySem.W.Frag} {H : Hp} {vs : List V} {ps : PL} (h : Prs K H vs ps) : vs.length = ps.length := P_len h
theorem Prs.snoc {K : PySem.W.Frag} {H : Hp} {vs : List V} {ps : PL} {t : Addr} {a b : Nat} (h : Prs K H vs ps) (ht : SqT K H t [nV a, nV b]) : Prs K H (vs ++ [V.ref t]) (ps ++ [(a, b)]) := P_append h (.cons ⟨t, rfl, ht⟩ .nil)
theorem within_snoc {m : Nat} {ps : PL} {a b : Nat} (h : Within m ps) (ha : a < m) (hb : b < m) : Within m (ps ++ [(a, b)]) := fun p hp => by
  rcases List.mem_append.mp hp with q | q
  · exact h p q
  · rw [List.mem_singleton.mp q]
    exact ⟨ha, hb⟩
theorem within_app {m : Nat} {ps qs : PL} (h : Within m ps) (k : Within m qs) : Within m (ps ++ qs) := fun p hp => by
  rcases List.mem_append.mp hp with q | q
  · exact h p q
  · exact k p q
theorem within_nil {m : Nat} : Within m [] := fun _ h => by cases h
theorem sp2 : (2 : Nat) ≤ sizeLine := by decide
end KH
namespace KH
open PySem PySem.Spec PyProof.Rows L2 K02
/-- a tuple stands beside a list that changes -/
theorem sqT_mutL {K : PySem.W.Frag} {H : Hp} {t o : Addr} {xs us : List V} {x : HO} (h : SqT K H t xs) (e : H o = some (.lst us)) : SqT K (upd H o x) t xs := by
  rcases h with (h | ⟨ob, h⟩) | h
  · exact .inl (.inl (by rw [upd_ne (ne_of h e (by intro z; cases z))]; exact h))
  · exact .inl (.inr ⟨ob, by rw [upd_ne (ne_of h e (by intro z; cases z))]; exact h⟩)
  · exact .inr h
theorem Prs.mutL {K : PySem.W.Frag} {H : Hp} {o : Addr} {vs us : List V} {ps : PL} {x : HO} (h : Prs K H vs ps) (e : H o = some (.lst us)) : Prs K (upd H o x) vs ps := P_mono (fun _ _ ⟨t, et, q⟩ => ⟨t, et, sqT_mutL q e⟩) h
theorem sqT_new {K : PySem.W.Frag} {H : Hp} {t p : Addr} {xs : List V} {x : HO} (h : SqT K H t xs) (e : H p = none) : SqT K (upd H p x) t xs := ((Same.refl H).new e).seqT h
theorem Prs.new {K : PySem.W.Frag} {H : Hp} {p : Addr} {vs : List V} {ps : PL} {x : HO} (h : Prs K H vs ps) (e : H p = none) : Prs K (upd H p x) vs ps := h.same ((Same.refl H).new e)
end KH
namespace KH
open PySem PySem.Spec PyProof.Rows L2 K02
theorem LL.snoc {H0 H : Hp} {a p : Addr} {bs : List (List Nat)} {vs : List V} (h : LL H0 H a bs) (s : Same H0 H) (hp : H p = none) (hv : H a = some (.lst vs)) (l : List Nat) :
    LL H0 (upd (upd H p (.lst (l.map nV))) a (.lst (vs ++ [V.ref p]))) a (bs ++ [l]) := by
  obtain ⟨n, as, h1, h2, h3, h4⟩ := h
  rw [h1] at hv
  cases hv
  have hpa : p ≠ a := fun z => by rw [z, h1] at hp; cases hp
  have hpas : p ∉ as := fun z => by
    obtain ⟨i, hi⟩ := List.getElem?_of_mem z
    obtain ⟨l', _, e⟩ := P_right h4 hi
    rw [hp] at e
    cases e
  refine ⟨n, as ++ [p], ?_, ?_, ?_, ?_⟩
  · rw [upd_same, List.map_append]
    rfl
  · refine List.nodup_append.mpr ⟨h2, by simp, fun x hx y hy => ?_⟩
    rw [List.mem_singleton.mp hy]
    exact fun z => hpas (z ▸ hx)
  · intro x hx
    rcases List.mem_append.mp hx with q | q
    · exact h3 x q
    · rw [List.mem_singleton.mp q]
      exact ⟨s.free hp, hpa⟩
  · refine P_append (P_monoM (fun x l' hx e => ?_) h4) (.cons ?_ .nil)
    · rw [upd_ne (h3 x hx).2, upd_ne (ne_of_none e hp)]
      exact e
    · rw [upd_ne hpa, upd_same]
theorem LL.lst {H0 H : Hp} {a : Addr} {bs : List (List Nat)} (h : LL H0 H a bs) : ∃ vs, H a = some (.lst vs) ∧ vs.length = bs.length := by
  obtain ⟨n, as, h1, h2, h3, h4⟩ := h
  exact ⟨_, h1, by rw [List.length_map]; exact P_len h4⟩
theorem LL.nil {H : Hp} {a : Addr} (h : H a = none) : LL H (upd H a (.lst [])) a [] := ⟨h, [], upd_same, List.nodup_nil, fun x hx => (by cases hx), .nil⟩
/-- another new object that is none of its own changes -/
theorem LL.beside {H0 H : Hp} {a p : Addr} {o u : HO} {bs : List (List Nat)} (h : LL H0 H a bs) (hp : H p = some u) (hu : ∀ xs, u ≠ .lst xs) : LL H0 (upd H p o) a bs := by
  obtain ⟨n, as, h1, h2, h3, h4⟩ := h
  refine ⟨n, as, by rw [upd_ne (ne_of h1 hp (fun z => hu _ z.symm))]; exact h1, h2, h3, P_mono (fun x l e => ?_) h4⟩
  rw [upd_ne (ne_of e hp (fun z => hu _ z.symm))]
  exact e
/-! ### what the pairs give place by place -/
theorem bef_app (qs : PL) (a b v : Nat) : bef (qs ++ [(a, b)]) v = bef qs v ++ (if b = v then [a] else []) := by
  unfold bef
  rw [List.filter_append, List.map_append]
  by_cases h : b = v
  · rw [if_pos h]
    congr 1
    simp [h]
  · rw [if_neg h]
    congr 1
    simp [h]
theorem aft_app (qs : PL) (a b v : Nat) : aft (qs ++ [(a, b)]) v = aft qs v ++ (if a = v then [b] else []) := by
  unfold aft
  rw [List.filter_append, List.map_append]
  by_cases h : a = v
  · rw [if_pos h]
    congr 1
    simp [h]
  · rw [if_neg h]
    congr 1
    simp [h]
def befs (m : Nat) (ps : PL) : List (List Nat) := (List.range m).map (bef ps)
def afts (m : Nat) (ps : PL) : List (List Nat) := (List.range m).map (aft ps)
theorem befs_at {m v : Nat} (ps : PL) (h : v < m) : (befs m ps)[v]? = some (bef ps v) := by
  unfold befs
  rw [List.getElem?_map, List.getElem?_range h]
  rfl
theorem afts_at {m v : Nat} (ps : PL) (h : v < m) : (afts m ps)[v]? = some (aft ps v) := by
  unfold afts
  rw [List.getElem?_map, List.getElem?_range h]
  rfl
theorem set_map_range {m b : Nat} (f g : Nat → List Nat) (x : List Nat) (hx : g b = x) (hn : ∀ v, v < m → v ≠ b → g v = f v) : ((List.range m).map f).set b x = (List.range m).map g := by
  apply List.ext_getElem?
  intro j
  rw [List.getElem?_set, List.getElem?_map, List.getElem?_map, List.length_map, List.length_range]
  by_cases hj : j < m
  · rw [List.getElem?_range hj]
    by_cases e : b = j
    · subst e
      rw [if_pos rfl, if_pos hj]
      show some x = some (g b)
      rw [hx]
    · rw [if_neg e]
      show some (f j) = some (g j)
      rw [hn j hj (fun z => e z.symm)]
  · rw [List.getElem?_eq_none (by rw [List.length_range]; omega)]
    by_cases e : b = j
    · subst e
      rw [if_pos rfl, if_neg hj]
      rfl
    · rw [if_neg e]
      rfl
theorem befs_step {m a b i : Nat} {ps : PL} (h : ps[i]? = some (a, b)) : (befs m (ps.take i)).set b (bef (ps.take i) b ++ [a]) = befs m (ps.take (i + 1)) := by
  unfold befs
  refine set_map_range _ _ _ ?_ fun v hv hne => ?_
  · rw [take_more h, bef_app, if_pos rfl]
  · rw [take_more h, bef_app, if_neg (fun z => hne z.symm), List.append_nil]
theorem afts_step {m a b i : Nat} {ps : PL} (h : ps[i]? = some (a, b)) : (afts m (ps.take i)).set a (aft (ps.take i) a ++ [b]) = afts m (ps.take (i + 1)) := by
  unfold afts
  refine set_map_range _ _ _ ?_ fun v hv hne => ?_
  · rw [take_more h, aft_app, if_pos rfl]
  · rw [take_more h, aft_app, if_neg (fun z => hne z.symm), List.append_nil]
theorem befs_nil (m : Nat) : befs m [] = List.replicate m [] := by
  unfold befs
  apply List.ext_getElem?
  intro j
  rw [List.getElem?_map, List.getElem?_replicate]
  by_cases hj : j < m
  · rw [List.getElem?_range hj, if_pos hj]
    rfl
  · rw [List.getElem?_eq_none (by rw [List.length_range]; omega), if_neg hj]
    rfl
theorem afts_nil (m : Nat) : afts m [] = List.replicate m [] := by
  unfold afts
  apply List.ext_getElem?
  intro j
  rw [List.getElem?_map, List.getElem?_replicate]
  by_cases hj : j < m
  · rw [List.getElem?_range hj, if_pos hj]
    rfl
  · rw [List.getElem?_eq_none (by rw [List.length_range]; omega), if_neg hj]
    rfl
theorem bef_len (ps : PL) (v : Nat) : (bef ps v).length ≤ ps.length := by
  unfold bef
  rw [List.length_map]
  exact List.length_filter_le _ _
theorem aft_len (ps : PL) (v : Nat) : (aft ps v).length ≤ ps.length := by
  unfold aft
  rw [List.length_map]
  exact List.length_filter_le _ _
/-! ### the taken ones: a dict that holds True -/
def tk (t : List Nat) : List (Nat × Bool) := t.map fun x => (x, true)
theorem tk_keys (t : List Nat) : (tk t).map (·.1) = t := by
  unfold tk
  rw [List.map_map]
  exact List.map_id' t
theorem tk_len (t : List Nat) : (tk t).length = t.length := by unfold tk; rw [List.length_map]
theorem tk_look : ∀ (t : List Nat) (k : Nat), look (tk t) k = if t.contains k then some true else none
  | [], k => rfl
  | x :: r, k => by
    show (if x = k then some true else look (tk r) k) = _
    rw [tk_look r k, List.contains_cons]
    by_cases e : x = k
    · subst e
      simp
    · have : (k == x) = false := by simpa using fun z : k = x => e z.symm
      rw [if_neg e, this, Bool.false_or]
theorem tk_some (t : List Nat) (k : Nat) : ((look (tk t) k).map V.bl).isSome = t.contains k := by
  rw [tk_look]
  cases t.contains k <;> rfl
theorem tk_put {t : List Nat} {k : Nat} (h : k ∉ t) : put (tk t) k true = tk (t ++ [k]) := by
  rw [put_dk.put_new k true (tk t) (by rw [look_none_iff, tk_keys]; exact h)]
  unfold tk
  rw [List.map_append]
  rfl
/-- what a def hands back: None, or a new list -/
def OutL (H H' : Hp) (v : V) (r : Option (List Nat)) : Prop := match r with
  | none => v = .non
  | some l => ∃ p, v = .ref p ∧ H p = none ∧ H' p = some (.lst (l.map nV))
end KH
namespace KH
open PySem PySem.Spec PyProof.Rows L2 K02
/-! ### lists of lists that are read -/
def LR (H : Hp) (a : Addr) (bs : List (List Nat)) : Prop := ∃ as : List Addr, H a = some (.lst (as.map V.ref)) ∧ Paired (fun x l => H x = some (.lst (l.map nV))) as bs
theorem LR.same {H H' : Hp} {a : Addr} {bs : List (List Nat)} (h : LR H a bs) (s : Same H H') : LR H' a bs := by
  obtain ⟨as, h1, h2⟩ := h
  exact ⟨as, s _ _ h1, P_mono (fun _ _ e => s _ _ e) h2⟩
theorem LR.at {H : Hp} {a : Addr} {bs : List (List Nat)} (h : LR H a bs) {i : Nat} {l : List Nat} (hi : bs[i]? = some l) : ∃ (vs : List V) (x : Addr), H a = some (.lst vs) ∧ vs[i]? = some (V.ref x) ∧ H x = some (.lst (l.map nV)) := by
  obtain ⟨as, h1, h2⟩ := h
  obtain ⟨x, hx, hl⟩ := P_left h2 hi
  exact ⟨_, x, h1, getn hx, hl⟩
theorem LL.lr {H0 H : Hp} {a : Addr} {bs : List (List Nat)} (h : LL H0 H a bs) : LR H a bs := by
  obtain ⟨_, as, h1, _, _, h4⟩ := h
  exact ⟨as, h1, h4⟩
theorem OutL.same {H H1 H2 : Hp} {v : V} {r : Option (List Nat)} (h : OutL H H1 v r) (s : Same H1 H2) : OutL H H2 v r := by
  cases r with
  | none => exact h
  | some l =>
    obtain ⟨p, e, h0, hp⟩ := h
    exact ⟨p, e, h0, s _ _ hp⟩
/-- one of two, both new lists of lists: an own list of one changes -/
structure LX (H : Hp) (a : Addr) (as : List Addr) (bs : List (List Nat)) : Prop where
  top : H a = some (.lst (as.map V.ref))
  nd : as.Nodup
  na : a ∉ as
  ins : Paired (fun x l => H x = some (.lst (l.map nV))) as bs
theorem LL.lx {H0 H : Hp} {a : Addr} {bs : List (List Nat)} (h : LL H0 H a bs) : ∃ as, LX H a as bs ∧ (∀ x ∈ as, H0 x = none) := by
  obtain ⟨_, as, h1, h2, h3, h4⟩ := h
  exact ⟨as, ⟨h1, h2, fun z => (h3 a z).2 rfl, h4⟩, fun x hx => (h3 x hx).1⟩
theorem LX.same {H H' : Hp} {a : Addr} {as : List Addr} {bs : List (List Nat)} (h : LX H a as bs) (s : Same H H') : LX H' a as bs := ⟨s _ _ h.top, h.nd, h.na, P_mono (fun _ _ e => s _ _ e) h.ins⟩
theorem LX.frame {H : Hp} {a p : Addr} {o : HO} {as : List Addr} {bs : List (List Nat)} (h : LX H a as bs) (h1 : p ≠ a) (h2 : p ∉ as) : LX (upd H p o) a as bs :=
  ⟨by rw [upd_ne (Ne.symm h1)]; exact h.top, h.nd, h.na, P_monoM (fun x l hx e => by rw [upd_ne (show x ≠ p from fun z => h2 (z ▸ hx))]; exact e) h.ins⟩
theorem LX.lr {H : Hp} {a : Addr} {as : List Addr} {bs : List (List Nat)} (h : LX H a as bs) : LR H a bs := ⟨as, h.top, h.ins⟩
theorem LX.at {H : Hp} {a : Addr} {as : List Addr} {bs : List (List Nat)} (h : LX H a as bs) {i : Nat} {l : List Nat} (hi : bs[i]? = some l) : ∃ x : Addr, as[i]? = some x ∧ x ∈ as ∧ (as.map V.ref)[i]? = some (V.ref x) ∧ H x = some (.lst (l.map nV)) := by
  obtain ⟨x, hx, hl⟩ := P_left h.ins hi
  exact ⟨x, hx, List.mem_of_getElem? hx, getn hx, hl⟩
theorem P_fixA {H : Hp} {x : Addr} {m : List Nat} : ∀ {as : List Addr} {bs : List (List Nat)} {i : Nat}, as.Nodup → Paired (fun z l => (z = x → l = m) → (upd H x (.lst (m.map nV))) z = some (.lst (l.map nV))) as bs → as[i]? = some x →
      Paired (fun z l => (upd H x (.lst (m.map nV))) z = some (.lst (l.map nV))) as (bs.set i m)
    | _, _, _, _, .nil, h => by simp at h
    | _, _, 0, hn, .cons f r, h => by
      simp at h
      subst h
      obtain ⟨h1, h2⟩ := List.nodup_cons.mp hn
      refine .cons upd_same (P_monoM (fun z l hz e => e fun c => absurd (c ▸ hz) h1) r)
    | _, _, i + 1, hn, .cons f r, h => by
      obtain ⟨h1, h2⟩ := List.nodup_cons.mp hn
      have hx : _ := List.mem_of_getElem? (show _ from (by simpa using h : (_ : List Addr)[i]? = some x))
      refine .cons (f fun c => absurd (c ▸ hx) h1) (P_fixA h2 r (by simpa using h))
theorem LX.grow {H : Hp} {a x : Addr} {as : List Addr} {bs : List (List Nat)} (h : LX H a as bs) {i : Nat} (hx : as[i]? = some x) (m : List Nat) : LX (upd H x (.lst (m.map nV))) a as (bs.set i m) := by
  have hm : x ∈ as := List.mem_of_getElem? hx
  refine ⟨by rw [upd_ne (show a ≠ x from fun z => h.na (z ▸ hm))]; exact h.top, h.nd, h.na, ?_⟩
  have key : Paired (fun z l => (z = x → l = m) → (upd H x (.lst (m.map nV))) z = some (.lst (l.map nV))) as bs := P_mono (fun z l e q => by
    by_cases c : z = x
    · rw [c, upd_same, q c]
    · rw [upd_ne c]
      exact e) h.ins
  exact P_fixA h.nd key hx
end KH

/-! an own exception whose __init__ says super().__init__('text') and keeps its arguments as fields -/
namespace PySem
namespace OwX
open PySem.W PySem.Calls PyProof.Rows PySem.HandSPX
/-- the rows self.f = f -/
inductive Stores : List Stmt → List Str → Prop
  | nil : Stores [] []
  | cons {f : Str} {q1 q2 q3 q4 : Pos} {rest : List Stmt} {fs : List Str} : Stores rest fs → Stores (.Assign [.Attribute (.Name "self" q1) f q2] (.Name f q3) q4 :: rest) (f :: fs)
inductive Body : List Stmt → List Str → Prop
  | mk {text : Str} {k : Nat} {p1 p2 p3 p4 p5 p6 : Pos} {rest : List Stmt} {fs : List Str} : (p3.endLine == p5.line) = true → Stores rest fs →
      Body (.Expr (.Call (.Attribute (.Call (.Name "super" p1) [] [] p2) "__init__" p3) [.Constant (.str text) k p4] [] p5) p6 :: rest) fs
/-- what the written part says of the class at C and of its __init__, at fI -/
structure OwnTxt (P : Program) (K : Frag) (C fI : Addr) (fs : List Str) : Prop where
  cls : ∃ nm q N bs bm sn sub ab col dd k0 k1 k2 k3 k5, K.lookup C = some (excClassObj nm q C N bs bm true sn sub ab col dd k0 k1 k2 k3 k5 "ValueError.__new__") ∧ refsVE bm = true
  sa : findIn K (.ref C) "__setattr__" = some (some (.builtin "object.__setattr__"))
  ga : findIn K (.ref C) "__getattribute__" = some (some (.builtin "BaseException.__getattribute__"))
  gg : findIn K (.ref C) "__getattr__" = some none
  noN : ∀ f ∈ fs, findIn K (.ref C) f = some none
  iC : findIn K (.ref C) "__init__" = some (some (.ref fI))
  tC : typeIn K (.ref fI) = some (.type "function")
  kC : keepIn K (.ref C) = true
  exC : subIn K (.ref C) (.type "BaseException") = some true
  tyC : typeIn K (.ref C) = some (.type "type")
  hdC : hasDictIn K C = true
  veC : subIn K (.ref C) (.type "ValueError") = some true
  spC : mroIn K C (.ref C) = some true
  suC : ks_superIn K C C "__init__" = some (some (.builtin "ValueError.__init__"))
  noO : nsIn K cStatics "thirdparty.any" = some none
  noS : nsIn K mainGlobals "super" = some none
  top : (P.main.scope.names.lookup ("super" : Str)).isSome = false
  few : fs.length ≤ 900
  fn : ∃ (oc : Value) (od : Option Addr) (name qual : Str) (params : Arguments) (body : List Stmt) (scope : Scope) (dV kV doc pm : Value) (an : Option Addr) (cda cc : Addr) (ct : Value) (osl : Array (Option Value))
      (ar : Arg) (ccl : Value) (cdd : Option Addr) (vs : Array Value) (ccs : Array (Option Value)) (file : Str) (tf : Tok) (cl : Value) (cld : Option Addr) (csl : Array (Option Value)),
    K.lookup fI = some ⟨oc, od, .func (ksFn name qual params body scope dV kV doc pm an (.ref cda) ct cc), osl⟩ ∧ codeIn K (.ref cda) qual = true ∧ Body body fs ∧
    (params.posonlyargs ++ params.args).head? = some ar ∧ ar.arg = "self" ∧
    K.lookup cda = some ⟨ccl, cdd, .fields vs, ccs⟩ ∧ vs[2]? = some (.str file tf) ∧ ((P.main.file : Str) == file) = true ∧ K.lookup cc = some ⟨cl, cld, .cell (some (.ref C)), csl⟩ ∧
    scope.names.lookup ("super" : Str) = some .globalImplicit ∧ scope.names.lookup ("__class__" : Str) = some .free ∧ (∀ y ∈ ("self" : Str) :: fs, scope.names.lookup y = some .local) ∧
    (∀ x ∈ scope.names, x.2 ≠ .cell) ∧ scope.kind = .function ∧ scope.isCoroutine = false ∧ scope.isGenerator = false ∧
    ∀ (s : Shared) (us : List Value), us.length = fs.length + 1 → BindsTo s (ksFn name qual params body scope dV kV doc pm an (.ref cda) ct cc) ⟨us, []⟩ ((("self" : Str) :: fs).zip us)
abbrev excD (C : Addr) (dx : Option Addr) (t1 : Addr) : Obj := { cls := .ref C, dict := dx, data := .fields #[.ref t1, .none, .none, .none, .bool false, .none] }
/-- the fields, the last first -/
def fld (l : List (Str × Value)) : Str → Option Value := fun y => l.lookup y
theorem fld_cons {n : Str} {v : Value} {l : List (Str × Value)} : fld ((n, v) :: l) = fun y => if y = n then some v else fld l y := by
  funext y
  unfold fld
  by_cases e : y = n
  · subst e
    simp [List.lookup]
  · have e' : (y == n) = false := by simpa using e
    rw [if_neg e]
    simp [List.lookup, e']
theorem fld_nil : fld [] = fun _ => none := rfl
theorem fld_within (l : List (Str × Value)) : Within (fld l) (l.map (·.1)) := by
  induction l with
  | nil => exact Within.nil
  | cons a l ih =>
    obtain ⟨n, v⟩ := a
    rw [fld_cons]
    exact Within.cons n v ih
/-- what __init__ leaves of a fresh exception at x -/
structure InitEnd (h h' : Heap) (x C dx t1 : Addr) (l : List (Str × Value)) : Prop where
  keep : ∀ b o, b ≠ x → h.get? b = some o → h'.get? b = some o
  obj : h'.get? x = some (excD C (some dx) t1)
  dbig : h.objs.size ≤ dx
  dne : dx ≠ x
  ns : h'.Ns1 dx (fld l)
section
variable {prog : Program} {w : World} {A : Around} {E : Value → Shared → Prop} {R : Result → Shared → Prop} {s : Shared} {K : Frag} {mg mb : Str → Option Value} {C fI : Addr} {fs : List Str}
/-- ValueError.__init__ bound to the instance, called -/
theorem call_mw {h : Heap} {g : Array GenState} {d : Drawn} {t : Nat} {os : OsState} {nm q : Str} {N : Addr} {bs bm : List Value} {hdct : Bool} {sn : List Str} {sub : List Value} {ab : Bool} {col : Option Bool} {dd : Option Addr} {k0 k1 k2 k3 k5 : Option Value}
    {u e t0 : Addr} {rest : List Value} {Q : Value → Shared → Prop}
    (hC : h.get? C = some (excClassObj nm q C N bs bm hdct sn sub ab col dd k0 k1 k2 k3 k5 "ValueError.__new__")) (he : h.get? e = some (excD C none t0)) (hu : h.get? u = some (kxs_mw "ValueError.__init__" e)) (hrest : rest.length ≤ sizeLine)
    (hq : ∀ h' t1, (∀ b o, b ≠ e → h.get? b = some o → h'.get? b = some o) → h'.get? e = some (excD C none t1) → Q .none ⟨h', g, d, t, os⟩) :
    wpAny (model prog w) A (call (.ref u) rest) Q E ⟨h, g, d, t, os⟩ := by
  refine wpAny_call (codeAny_of_tree ?_)
  show wpAny _ A.in1 (callAny (.ref u) ⟨rest, []⟩) _ _ _
  simp only [callAny]
  refine wpAny_bind (wpAny_load hu ?_)
  simp only [kxs_mw, show (Value.type "method-wrapper" == Value.type "method" || Value.type "method-wrapper" == Value.type "builtin_function_or_method" || Value.type "method-wrapper" == Value.type "method-wrapper") = true by decide, if_true]
  refine KFB.if_so (by decide) ?_
  refine wpAny_bind (check_bound_init F.excBase_ValueError.toExcCallFacts hC he rfl ?_)
  refine wpAny_bind (wpAny_pure (wpAny_pure ?_))
  refine ⟨plainId_quiet F.excBase_ValueError.init.plain _, codeAny_builtin F.excBase_ValueError.initEntry ?_⟩
  exact exc_init_tree (cls := .ref C) (t0 := t0) (dv := none) (c2 := .none) (c3 := .none) (b4 := .bool false) he hrest fun h' k e' _ => hq h' _ k e'
theorem in_but {h h' : Heap} {x : Addr} (X : K.In h) (hx : K.lookup x = none) (k : ∀ b o, b ≠ x → h.get? b = some o → h'.get? b = some o) : K.In h' := fun a o e =>
  k a o (fun z => by rw [z, hx] at e; cases e) (X a o e)
theorem out_of {h : Heap} {a : Addr} (X : K.In h) (ha : h.objs.size ≤ a) : K.lookup a = none := by
  cases e : K.lookup a with
  | none => rfl
  | some o => exact absurd (Heap.lt_size (X _ _ e)) (Nat.not_lt.mpr ha)
theorem ns_but {h h' : Heap} {x L : Addr} {m : Str → Option Value} (n : h.Ns L m) (hx : L ≠ x) (k : ∀ b o, b ≠ x → h.get? b = some o → h'.get? b = some o) : h'.Ns L m := by
  obtain ⟨oL, es, ep, hL, r⟩ := n
  exact ⟨oL, es, ep, k _ _ hx hL, r⟩
theorem ldF {M : Model} {env : Env} {m : Str → Option Value} {x : Str} {pos : Pos} {v : Value} {Q : Value → Shared → Prop} (hk : env.scope.kind = .function) (hl : env.scope.names.lookup x = some .local) (hn : s.heap.Ns env.locals m) (hv : m x = some v) (h : Q v s)
    (hd : (x == ("__debug__" : Str)) = false) : wpAny M A (eval (.Name x pos) env) Q E s := wpAny_Name (wpAny_loadName_local hk hl hn hv h) hd
/-- the further stores -/
theorem stores_old {P : Program} (T : OwnTxt P K C fI fs) {env : Env} {m : Str → Option Value} {x dx t1 : Addr} {Q : Flow → Shared → Prop} (hk : env.scope.kind = .function) (hself : env.scope.names.lookup ("self" : Str) = some .local) (hms : m "self" = some (.ref x)) (hx : K.lookup x = none) (hdx : K.lookup dx = none) (hL : env.locals ≠ dx) (hxd : x ≠ dx) {body : List Stmt} {gs : List Str} (S : Stores body gs) :
    ∀ {s : Shared} {l : List (Str × Value)} {vs : List Value}, K.In s.heap → s.heap.Ns env.locals m → s.heap.get? x = some (excD C (some dx) t1) → s.heap.Ns1 dx (fld l) → l.length + gs.length ≤ 900 →
      gs.length = vs.length → (∀ p ∈ gs.zip vs, m p.1 = some p.2) → (∀ f ∈ gs, env.scope.names.lookup f = some .local ∧ findIn K (.ref C) f = some none ∧ (f == ("__debug__" : Str)) = false) →
      (∀ h' tk, (∀ b o, b ≠ dx → s.heap.get? b = some o → h'.get? b = some o) → h'.Ns1 dx (fld ((gs.zip vs).reverse ++ l)) → Q .next { s with heap := h', toks := tk }) →
      wpAny (model prog w) A (execs body env) Q E s := by
  induction S with
  | nil =>
    intro s l vs X hn ho hd hl hlen hm hf hq
    obtain ⟨hp, g, d, t, os⟩ := s
    exact wpAny_execs_nil (hq hp t (fun _ _ _ e => e) hd)
  | @cons f q1 q2 q3 q4 rest fs' S ih =>
    intro s l vs X hn ho hd hl hlen hm hf hq
    cases vs with
    | nil => simp at hlen
    | cons v vs =>
      obtain ⟨nm, q, N, bs, bm, sn, sub, ab, col, dd, k0, k1, k2, k3, k5, hC, hbm⟩ := T.cls
      have hcl : clsIn K C = some { name := nm, bases := bs, mro := .ref C :: bm, ns := N, qualname := q, hasDict := true, slotNames := sn, subclasses := sub, abstract := ab, collection := col, hasDel := false } := by unfold clsIn; rw [hC] <;> rfl
      obtain ⟨f1, f2, f3⟩ := hf f List.mem_cons_self
      refine wpAny_execs_cons (plainObj_wpAny_Assign_Attribute ?_)
      refine ldF (v := v) hk f1 hn (hm (f, v) (by simp)) (ldF (v := .ref x) hk hself hn hms ?_ (by decide)) f3
      obtain ⟨hp, g, d, t, os⟩ := s
      obtain ⟨oD, esD, epD, hoD, hdD⟩ : ∃ oD, ∃ _ : True, ∃ _ : True, hp.get? dx = some oD ∧ True := by
        obtain ⟨o, es, ep, e, r⟩ := hd
        exact ⟨o, trivial, trivial, e, trivial⟩
      refine set_plain X (ox := excD C (some dx) t1) (od := some oD) ⟨ho, rfl, rfl, hoD⟩ T.sa ?_
      refine OEX.osa_old X ho hd (fld_within l) (by rw [List.length_map]; omega) hcl (show refsVE (.ref C :: bm) = true from hbm) rfl f2 (fun h' tk' k hn' => ?_)
      rw [← fld_cons] at hn'
      refine ih (s := ⟨h', g, d, tk', os⟩) (l := (f, v) :: l) (vs := vs) (in_but X hdx k) (ns_but hn hL k) (k _ _ hxd ho) hn' (by simp at hl ⊢; omega) (by simpa using hlen) (fun p hp => hm p (by simp [hp])) (fun y hy => hf y (List.mem_cons_of_mem _ hy)) ?_
      intro h2 tk2 k2 hn2
      refine hq h2 tk2 (fun b o hb e => k2 b o hb (k b o hb e)) ?_
      have e : ((f :: fs').zip (v :: vs)).reverse ++ l = (fs'.zip vs).reverse ++ (f, v) :: l := by simp
      rw [e]
      exact hn2
/-- all the stores -/
theorem stores_new {P : Program} (T : OwnTxt P K C fI fs) {env : Env} {m : Str → Option Value} {x t1 : Addr} {Q : Flow → Shared → Prop} (hk : env.scope.kind = .function) (hself : env.scope.names.lookup ("self" : Str) = some .local) (hms : m "self" = some (.ref x)) (hx : K.lookup x = none) (hLx : env.locals ≠ x) {body : List Stmt} {gs : List Str} (S : Stores body gs)
    {s : Shared} {vs : List Value} (X : K.In s.heap) (hn : s.heap.Ns env.locals m) (ho : s.heap.get? x = some (excD C none t1)) (hl : gs.length ≤ 900) (h0 : gs ≠ [])
      (hlen : gs.length = vs.length) (hm : ∀ p ∈ gs.zip vs, m p.1 = some p.2) (hf : ∀ f ∈ gs, env.scope.names.lookup f = some .local ∧ findIn K (.ref C) f = some none ∧ (f == ("__debug__" : Str)) = false)
      (hq : ∀ h' tk dx, InitEnd s.heap h' x C dx t1 ((gs.zip vs).reverse) → Q .next { s with heap := h', toks := tk }) :
      wpAny (model prog w) A (execs body env) Q E s := by
  cases S with
  | nil => exact absurd rfl h0
  | @cons f q1 q2 q3 q4 rest fs' S =>
    cases vs with
    | nil => simp at hlen
    | cons v vs =>
      obtain ⟨nm, q, N, bs, bm, sn, sub, ab, col, dd, k0, k1, k2, k3, k5, hC, hbm⟩ := T.cls
      have hcl : clsIn K C = some { name := nm, bases := bs, mro := .ref C :: bm, ns := N, qualname := q, hasDict := true, slotNames := sn, subclasses := sub, abstract := ab, collection := col, hasDel := false } := by unfold clsIn; rw [hC] <;> rfl
      obtain ⟨f1, f2, f3⟩ := hf f List.mem_cons_self
      refine wpAny_execs_cons (plainObj_wpAny_Assign_Attribute ?_)
      refine ldF (v := v) hk f1 hn (hm (f, v) (by simp)) (ldF (v := .ref x) hk hself hn hms ?_ (by decide)) f3
      obtain ⟨hp, g, d, t, os⟩ := s
      refine set_plain X (ox := excD C none t1) (od := none) ⟨ho, rfl, rfl, trivial⟩ T.sa ?_
      refine exc_osa X ho hcl (show refsVE (.ref C :: bm) = true from hbm) rfl f2 (fun h₃ tk₃ dx k₃ dn dne hx₃ hn₃ => ?_)
      have hn' : h₃.Ns1 dx (fld [(f, v)]) := by
        rw [fld_cons, fld_nil]
        exact hn₃
      have hLd : env.locals ≠ dx := Nat.ne_of_lt (Nat.lt_of_lt_of_le hn.lt dn)
      refine stores_old T hk hself hms hx (out_of X dn) hLd (Ne.symm dne) S (s := ⟨h₃, g, d, tk₃, os⟩) (l := [(f, v)]) (vs := vs) (in_but X hx k₃) (ns_but hn hLx k₃) hx₃ hn' (by simp at hl ⊢; omega) (by simpa using hlen) (fun p hp => hm p (by simp [hp])) (fun y hy => hf y (List.mem_cons_of_mem _ hy)) ?_
      intro h2 tk2 k2 hn2
      refine hq h2 tk2 dx ⟨fun b o hb e => ?_, k2 _ _ (Ne.symm dne) hx₃, dn, dne, ?_⟩
      · exact k2 b o (fun z => absurd (Heap.lt_size e) (by rw [z]; exact Nat.not_lt.mpr dn)) (k₃ b o hb e)
      · have e : ((f :: fs').zip (v :: vs)).reverse = (fs'.zip vs).reverse ++ [(f, v)] := by simp
        rw [e]
        exact hn2
theorem zip_look {ks : List Str} {us : List Value} (hn : ks.Nodup) (hl : ks.length = us.length) : ∀ p ∈ ks.zip us, (ks.zip us).reverse.lookup p.1 = some p.2 := by
  have key : ∀ {l : List (Str × Value)}, (l.map (·.1)).Nodup → ∀ (k : Str) (v : Value), (k, v) ∈ l → l.lookup k = some v := by
    intro l
    induction l with
    | nil => intro _ k v hp; cases hp
    | cons a l ih =>
      intro hn k v hp
      rw [List.map_cons, List.nodup_cons] at hn
      obtain ⟨k', v'⟩ := a
      rcases List.mem_cons.mp hp with e | hp
      · cases e
        simp [List.lookup]
      · have ne : k ≠ k' := fun e => hn.1 (List.mem_map.mpr ⟨(k, v), hp, e⟩)
        have ne' : (k == k') = false := by simpa using ne
        simp only [List.lookup, ne']
        exact ih hn.2 k v hp
  intro p hp
  refine key ?_ p.1 p.2 (List.mem_reverse.mpr hp)
  rw [List.map_reverse]
  refine (List.reverse_perm _).nodup_iff.mpr ?_
  rw [List.map_fst_zip (by omega)]
  exact hn
theorem super_call {env : Env} {text : Str} {k : Nat} {p1 p2 p3 p4 p5 : Pos} (hp : (p3.endLine == p5.line) = true) :
    eval (.Call (.Attribute (.Call (.Name "super" p1) [] [] p2) "__init__" p3) [.Constant (.str text) k p4] [] p5) env = (do
      let ov ← attributeBase (.Call (.Name "super" p1) [] [] p2) "__init__" env (eval (.Call (.Name "super" p1) [] [] p2) env)
      standAt p3.atName
      let (f, first) ← holding [ov] (getMethod ov "__init__" (do return (← importBound (.Call (.Name "super" p1) [] [] p2) env).getD true))
      callWith p5 f first (backTo p5 (starEach [.Constant (.str text) k p4] env)) []) := by
  show (do
      let ov ← attributeBase (.Call (.Name "super" p1) [] [] p2) "__init__" env (eval (.Call (.Name "super" p1) [] [] p2) env)
      standAt p3.atName
      methodCall (.Call (.Name "super" p1) [] [] p2) "__init__" p3 p5 env ov 1 (backTo p5 (starEach [.Constant (.str text) k p4] env)) []) = _
  have few : methodCallForm 1 (backTo p5 (starEach [.Constant (.str text) k p4] env)) [] = true := rfl
  unfold methodCall methodCallPos calleeOf
  rw [few]
  simp only [hp, Bool.not_true, Bool.false_or, if_true, pure_bind]
/-- the whole __init__ -/
theorem own_init {P : Program} (T : OwnTxt P K C fI fs) (hp : prog = P) (hnd : (("self" : Str) :: fs).Nodup) (hdb : ∀ f ∈ fs, (f == ("__debug__" : Str)) = false) (h0 : fs ≠ []) {x t0 : Addr} {us : List Value} (hus : us.length = fs.length) (X : K.In s.heap) (hlim : s.heap.NoLimit) (hG : s.heap.Ns mainGlobals mg) (hgs : mg "super" = none)
    (hB : s.heap.Ns builtinsNs mb) (hbs : mb "super" = some (.type "super")) (hx : s.heap.get? x = some (excD C none t0)) (hnx : K.lookup x = none) (hroom : A.depth < recursionLimit)
    (hq : ∀ h' tk dx t1, InitEnd s.heap h' x C dx t1 ((fs.zip us).reverse) → R (.ok (.ret .none)) { s with heap := h', toks := tk }) :
    codeAny (model prog w) A (.call (.ref fI) ⟨.ref x :: us, []⟩) R s := by
  subst hp
  obtain ⟨oc, od, name, qual, params, body, scope, dV, kV, doc, pm, an, cda, cc, ct, osl, ar, ccl, cdd, vs, ccs, file, tf, cl, cld, csl, ho, hcd, hbody, har, hars, hcode, hvs, hfile, hcell, ksu, kcl, klo, hnc, hk, hco, hgen, hbind⟩ := T.fn
  obtain ⟨nm, q, N, bs, bm, sn, sub, ab, col, dd, k0, k1, k2, k3, k5, hC, hbm⟩ := T.cls
  have hcl : clsIn K C = some { name := nm, bases := bs, mro := .ref C :: bm, ns := N, qualname := q, hasDict := true, slotNames := sn, subclasses := sub, abstract := ab, collection := col, hasDel := false } := by unfold clsIn; rw [hC] <;> rfl
  have hzl : ∀ p ∈ (("self" : Str) :: fs).zip (Value.ref x :: us), ((("self" : Str) :: fs).zip (Value.ref x :: us)).reverse.lookup p.1 = some p.2 := zip_look hnd (by simp [hus])
  refine ks_codeAny_call_defAt (fd := ksFn name qual params body scope dV kV doc pm an (.ref cda) ct cc) (body := body) (binds := (("self" : Str) :: fs).zip (Value.ref x :: us)) hroom (X _ _ ho) rfl hlim (codeRec_of X hcd) rfl (hbind s _ (by simp [hus])) hnc
    (fun p hp => klo p.1 (List.of_mem_zip (a := p.1) (b := p.2) hp).1) (fun h₁ hn k => ?_) hco hgen hk
  obtain ⟨hp, g, d, t, os⟩ := s
  have hxL : hp.objs.size ≠ x := Nat.ne_of_gt (Heap.lt_size hx)
  have X₁ : K.In h₁ := X.keeps k
  have hx₁ := k _ _ hx
  cases hbody with
  | @mk text kk p1 p2 p3 p4 p5 p6 rest fs' hpos S =>
  have hE : callEnv (ksFn name qual params (.Expr (.Call (.Attribute (.Call (.Name "super" p1) [] [] p2) "__init__" p3) [.Constant (.str text) kk p4] [] p5) p6 :: rest) scope dV kV doc pm an (.ref cda) ct cc) hp.objs.size fI = ksEnv qual scope hp.objs.size fI (.ref cda) cc := rfl
  rw [hE]
  refine ks_wpAt_execs_cons (ks_wpAt_Expr_any (ks_wpAt_MethodCall ?_ (super_call hpos)) (by simp [interactive, ksEnv, envX, hk]))
  refine ks_wpAt_super_base (env := ksEnv qual scope hp.objs.size fI (.ref cda) cc) ksu kcl (by decide) rfl (X₁ _ _ ho) rfl har rfl (X₁ _ _ hcode) rfl hvs hfile T.top ?_
  refine ks_loadName_global hk ksu (loadGlobal_builtin (env := ksEnv qual scope hp.objs.size fI (.ref cda) cc) (hG.keeps k) hgs (hB.keeps k) hbs ⟨rfl, ?_⟩)
  refine wpAny_loadName_free hk kcl rfl ⟨_, X₁ _ _ hcell, rfl⟩ ?_
  rw [hars]
  refine wpAny_loadName_local hk (klo _ List.mem_cons_self) hn (v := .ref x) (hzl ("self", .ref x) (by simp)) ?_
  have hC₁ := X₁ _ _ hC
  have I₁ : InstAt h₁ x (excD C none t0) C none := ⟨hx₁, rfl, rfl, trivial⟩
  refine ks_wpAny_isType_cls hC₁ rfl ⟨rfl, ?_⟩
  refine ks_wpAny_call_super hC₁ rfl hx₁ rfl (fun c e => by cases e) (looks_mroIn X₁ T.spC) (fun h₂ e₂ k₂ => ?_)
  have X₂ : K.In h₂ := X₁.keeps k₂
  have hx₂ := k₂ _ _ hx₁
  have I₂ : InstAt h₂ x (excD C none t0) C none := ⟨hx₂, rfl, rfl, trivial⟩
  have hm : alongIn K "__init__" (((Value.ref C :: bm).dropWhile (· != .ref C)).drop 1) = some (some (.builtin "ValueError.__init__")) := by
    have := T.suC
    unfold ks_superIn at this
    rw [hcl] at this
    exact this
  refine kxs_getMethod (l₀ := .ref C :: bm) kxs_ValueError e₂ (looks_opaque X₂ T.noO) (fun A Q E s k q => wpAny_bind ((looks_clsIn X₂ hcl) A _ E s k (wpAny_pure q))) rfl X₂ hm (I₂.type.andThen (looks_subIn X₂ T.veC)) (ks_ne X₂ I₂ (by exact hcl)) (by decide) ?_
  have e₃ : (h₂.push (kxs_mw "ValueError.__init__" x)).get? h₂.objs.size = some (kxs_mw "ValueError.__init__" x) := Heap.get?_push_size _ rfl
  have k₃ : ∀ b o, h₂.get? b = some o → (h₂.push (kxs_mw "ValueError.__init__" x)).get? b = some o := fun b o e => Heap.get?_push_of_some _ e
  refine kxs_callWith (i := "ValueError.__init__") (x := x) rfl (evalArgs_plain (spliced_cons ?_))
  refine wpAny_Constant_str (k := kk) (pos := p4) (spliced_nil ⟨e₃, ?_⟩)
  refine call_mw (k₃ _ _ (X₂ _ _ hC)) (k₃ _ _ hx₂) e₃ (by rw [sizeLine_eq]; exact (by decide : 1 ≤ 16777216)) (fun h₄ t₁ k₄ hx₄ => ?_)
  have kk4 : ∀ b o, b ≠ x → h₁.get? b = some o → h₄.get? b = some o := fun b o hb e => k₄ b o hb (k₃ _ _ (k₂ _ _ e))
  show wpAt _ _ _ (execs rest (ksEnv qual scope hp.objs.size fI (.ref cda) cc)) _ _ _
  refine wpAt_of_wpAny ?_
  refine stores_new (s := ⟨h₄, _, _, _, _⟩) T (env := ksEnv qual scope hp.objs.size fI (.ref cda) cc) hk (klo _ List.mem_cons_self) (hzl ("self", .ref x) (by simp)) hnx hxL S (vs := us) (in_but X₁ hnx kk4) (ns_but hn hxL kk4) hx₄ T.few h0 hus.symm (fun p hp => hzl p (by simp [hp]))
    (fun f hf => ⟨klo f (List.mem_cons_of_mem _ hf), T.noN f hf, hdb f hf⟩) ?_
  intro h' tk dx E
  refine hq h' tk dx t₁ ⟨fun b o hb e => E.keep b o hb (kk4 b o hb (k b o e)), E.obj, ?_, E.dne, E.ns⟩
  have hL4 : hp.objs.size < h₄.objs.size := (ns_but hn hxL kk4).lt
  exact Nat.le_trans (Nat.le_of_lt hL4) E.dbig
/-- a made exception -/
structure OwnMade (h h' : Heap) (e C d : Addr) (l : List (Str × Value)) : Prop where
  keep : ∀ b o, h.get? b = some o → h'.get? b = some o
  new : h.objs.size ≤ e
  obj : ∃ oe vs, h'.get? e = some oe ∧ oe.cls = .ref C ∧ oe.dict = some d ∧ oe.data = .fields vs ∧ vs[1]? = some .none
  dbig : h.objs.size ≤ d
  dne : d ≠ e
  ns : h'.Ns1 d (fld l)
theorem own_made {P : Program} (T : OwnTxt P K C fI fs) (hp : prog = P) (hnd : (("self" : Str) :: fs).Nodup) (hdb : ∀ f ∈ fs, (f == ("__debug__" : Str)) = false) (h0 : fs ≠ []) {us : List Value} (hus : us.length = fs.length) (X : K.In s.heap) (hlim : s.heap.NoLimit) (hG : s.heap.Ns mainGlobals mg) (hgs : mg "super" = none)
    (hB : s.heap.Ns builtinsNs mb) (hbs : mb "super" = some (.type "super")) (hroom : A.depth + 1 < recursionLimit)
    (hq : ∀ h' tk e d, OwnMade s.heap h' e C d ((fs.zip us).reverse) → R (.ok (.ret (.ref e))) { s with heap := h', toks := tk }) :
    codeAny (model prog w) A (.call (.ref C) ⟨us, []⟩) R s := by
  obtain ⟨nm, q, N, bs, bm, sn, sub, ab, col, dd, k0, k1, k2, k3, k5, hC, hbm⟩ := T.cls
  obtain ⟨hp', g, dr, tk, os⟩ := s
  have hsz : us.length ≤ sizeLine := by
    have := T.few
    rw [sizeLine_eq]
    omega
  have k : ∀ b o, hp'.get? b = some o → ((hp'.push (kdv_tup us)).push (excO C hp'.objs.size)).get? b = some o := fun b o e => Heap.get?_push_of_some _ (Heap.get?_push_of_some _ e)
  have hget : ((hp'.push (kdv_tup us)).push (excO C hp'.objs.size)).get? (hp'.objs.size + 1) = some (excO C hp'.objs.size) := by heap_get
  have hnx : K.lookup (hp'.objs.size + 1) = none := out_of X (Nat.le_succ _)
  refine call_own F.excBase_ValueError (fun X => refsVE_contains X bm hbm) (X _ _ hC) (looks_findIn X T.iC) (fun self => bind_fn X self T.tC) hsz ?_
  refine own_init (s := ⟨(hp'.push (kdv_tup us)).push (excO C hp'.objs.size), g, dr, tk, os⟩) T hp hnd hdb h0 hus (X.keeps k) (hlim.keeps k) (hG.keeps k) hgs (hB.keeps k) hbs hget hnx ?_ fun h' tk' dx t1 ⟨k', hx, dn, dne, hns⟩ => ?_
  · show A.depth + 1 < recursionLimit
    exact hroom
  · have old : ∀ b o, hp'.get? b = some o → h'.get? b = some o := fun b o e => k' b o (Nat.ne_of_lt (Nat.lt_succ_of_lt (Heap.lt_size e))) (k b o e)
    have z : hp'.objs.size + 1 + 1 ≤ dx := by
      first
        | (simpa only [Heap.size_push] using dn)
        | exact dn
        | (have q := dn; rw [Heap.size_push, Heap.size_push] at q; exact q)
    exact ⟨rfl, hq h' tk' (hp'.objs.size + 1) dx ⟨old, Nat.le_succ _, ⟨_, _, hx, rfl, rfl, rfl, rfl⟩, Nat.le_trans (Nat.le_trans (Nat.le_succ _) (Nat.le_succ _)) z, dne, hns⟩⟩
end
end OwX
end PySem
namespace L2
open PySem PySem.Spec PyProof.Rows
theorem relO_fld : ∀ {fs : List Str} {vs : List V} {us : List Value}, Vals vs us → ∀ f, RelO (List.lookup f ((fs.zip vs).reverse)) (PySem.OwX.fld ((fs.zip us).reverse) f) := by
  have key : ∀ {l : List (Str × V)} {l' : List (Str × Value)}, Paired (fun a b => a.1 = b.1 ∧ RelV a.2 b.2) l l' → ∀ f, RelO (List.lookup f l) (PySem.OwX.fld l' f) := by
    intro l l' h f
    unfold PySem.OwX.fld
    induction h with
    | nil => trivial
    | @cons a b l l' r _ ih =>
      obtain ⟨n, v⟩ := a
      obtain ⟨n', v'⟩ := b
      obtain ⟨e, rv⟩ := r
      have e' : n = n' := e
      subst e'
      cases c : (f == n) with
      | true => simp only [List.lookup, c]; exact rv
      | false => simp only [List.lookup, c]; exact ih
  intro fs vs us h f
  refine key ?_ f
  have z : ∀ {fs : List Str} {vs : List V} {us : List Value}, Vals vs us → Paired (fun (a : Str × V) (b : Str × Value) => a.1 = b.1 ∧ RelV a.2 b.2) (fs.zip vs) (fs.zip us) := by
    intro fs vs us h
    induction h generalizing fs with
    | nil => cases fs <;> exact .nil
    | cons r _ ih =>
      cases fs with
      | nil => exact .nil
      | cons f fs => exact .cons ⟨rfl, r⟩ ih
  have rv : ∀ {l : List (Str × V)} {l' : List (Str × Value)}, Paired (fun (a : Str × V) (b : Str × Value) => a.1 = b.1 ∧ RelV a.2 b.2) l l' → ∀ {k k'}, Paired (fun (a : Str × V) (b : Str × Value) => a.1 = b.1 ∧ RelV a.2 b.2) k k' →
      Paired (fun (a : Str × V) (b : Str × Value) => a.1 = b.1 ∧ RelV a.2 b.2) (l.reverseAux k) (l'.reverseAux k') := by
    intro l l' h
    induction h with
    | nil => intro k k' hk; exact hk
    | cons r _ ih => intro k k' hk; exact ih (.cons r hk)
  exact rv (z h) .nil
section
variable {X : Cx} {C fI : Addr} {fs : List Str} {x : Str}
/-- C(e, ..): the exception's own dict d, new, holds the fields -/
def tMkOwnS (C : Addr) (fs : List Str) (ta : TA) : St → Hp → XK → Prop := fun σ H Q => ta σ H fun vs H1 => vs.length = fs.length ∧ ∀ d, H1 d = none → Q (.ref C) (some d) (upd H1 d (.xd ((fs.zip vs).reverse)))
theorem pmk_ownS {a : Expr} {as : List Expr} {ta : TA} {p pos : Pos} {k : Nat} (T : PySem.OwX.OwnTxt X.prog X.K C fI fs) (hm : X.mg x = some (.ref C)) (hs : X.mg "super" = none) (hnd : (("self" : Str) :: fs).Nodup) (hdb : ∀ f ∈ fs, (f == ("__debug__" : Str)) = false) (h0 : fs ≠ []) (hr : Room k X.A) (ha : PA X (a :: as) ta) (hg : Gl X x)
    (hdx : (x == ("__debug__" : Str)) = false := by decide) (he : starEach (a :: as) X.env = (false, eval a X.env) :: starEach as X.env := by rfl) (hpl : (backTo pos (starEach as X.env)).any (·.1) = false := by rfl) :
    PMk X (.Call (.Name x p) (a :: as) [] pos) (tMkOwnS C fs ta) := by
  intro pins s σ H Q I h
  refine wpAny_Call_Name_kw (ld_glob I hg hm ?_ hdx)
  refine PySem.W.callWith_K (h₀ := X.base) I.ok.mod.kin T.kC (thn (ha.run pos pins s σ H _ I h) fun us s1 hh => ?_) he hpl
  obtain ⟨vs, H1, I1, r1, el, q1⟩ := hh
  refine ⟨I1.kIn, ?_⟩
  show wpAny _ _ (call (.ref C) us) _ _ _
  have hlim := I1.nolimit
  obtain ⟨mb, b1, b2⟩ := I1.mod.blt
  have hG := I1.mod.glob.keeps I1.bk
  have hB := b1.keeps I1.bk
  have hus : us.length = fs.length := by rw [← el]; exact (Paired.length r1).symm
  obtain ⟨hp, g, dr, tk, os⟩ := s1
  refine wpAny_call (PySem.OwX.own_made T rfl hnd hdb h0 hus I1.kIn hlim hG hs hB ((b2 "super" (by decide)).trans (by first | rfl | decide +kernel | kernel_rfl)) (by have := hr.dp; omega) fun h' tk' e d M => ?_)
  show MkP X pins σ Q (.ref e) ⟨h', g, dr, tk', os⟩
  obtain ⟨oe, fv, hoe, hc, hd, hdat, h1⟩ := M.obj
  have hns := M.ns
  obtain ⟨G', g1, g2⟩ := restrict h' fun b => decide (b ≠ e)
  have gk : ∀ b, b ≠ e → G'.get? b = h'.get? b := fun b hb => g1 b (decide_eq_true hb)
  have ge : G'.get? e = none := g2 e (by simp)
  have old : ∀ b o, hp.get? b = some o → G'.get? b = some o := fun b o q => (gk b (Nat.ne_of_lt (Nat.lt_of_lt_of_le (Heap.lt_size q) M.new))).trans (M.keep b o q)
  have ob : ObjOk X.prog X.w (upd H1 d (.xd ((fs.zip vs).reverse))) G' d (.xd ((fs.zip vs).reverse)) :=
    ⟨_, hns.at (fun o q => (gk d M.dne).trans q), fun f => relO_fld r1 f⟩
  have J : Inv X pins σ (upd H1 d (.xd ((fs.zip vs).reverse))) ⟨G', g, dr, tk', os⟩ := I1.laid (t' := tk') old M.dbig ob
  refine ⟨e, oe, fv, ⟨G', g, dr, tk', os⟩, _, .ref C, some d, rfl, J, fun b o q => ?_, ge, hoe, ⟨hc, hd⟩, hdat, h1, ?_, rfl, I1.bare, raises_own T.exC T.tyC, q1 d (I1.hok.fresh M.dbig)⟩
  · by_cases hb : b = e
    · have q' : G'.get? b = some o := q
      rw [hb, ge] at q'; cases q'
    · exact (gk b hb).symm.trans q
  · rw [upd_ne (Ne.symm M.dne)]
    exact I1.hok.fresh M.new
/-- raise C(e, ..) -/
def tRaiseOwnS (C : Addr) (fs : List Str) (W : WX) (ta : TA) : TS := fun _ σ H => tMkOwnS C fs ta σ H fun cls d H' => W cls d σ H'
theorem ps_raiseOwnS {a : Expr} {as : List Expr} {ta : TA} {W : WX} {p pos pos2 : Pos} {k : Nat} (hc : X.calm = true) (T : PySem.OwX.OwnTxt X.prog X.K C fI fs) (hm : X.mg x = some (.ref C)) (hs : X.mg "super" = none) (hnd : (("self" : Str) :: fs).Nodup) (hdb : ∀ f ∈ fs, (f == ("__debug__" : Str)) = false) (h0 : fs ≠ []) (hr : Room k X.A) (tk : Takes X W) (ha : PA X (a :: as) ta) (hg : Gl X x)
    (hdx : (x == ("__debug__" : Str)) = false := by decide) (he : starEach (a :: as) X.env = (false, eval a X.env) :: starEach as X.env := by rfl) (hpl : (backTo pos (starEach as X.env)).any (·.1) = false := by rfl) :
    PS X (.Raise (some (.Call (.Name x p) (a :: as) [] pos)) none pos2) (tRaiseOwnS C fs W ta) := ps_raise hc tk (pmk_ownS T hm hs hnd hdb h0 hr ha hg hdx he hpl)
end
end L2

/-! repr of data: defs whose context is known to show nothing (guards), from the law down to the calls of repr -/
namespace L2
open PySem PySem.Spec PyProof.Rows
/-- as FnOk, for contexts in which no repr is under way -/
structure FnOkG (P : Program) (w : World) (K : PySem.W.Frag) (mg : Str → Option Value) (base : Heap) (k : Nat) (f : Addr) (fd : FuncData) (ps : List Str) (sp : Sp) : Prop where
  len : ∀ vs H Q E, sp vs H Q E → vs.length = ps.length
  run : ∀ (A : Around) (outer : List Env) (s : Shared) (H : Hp) (args : Args) (us : List Value) (vs : List V) (Q : VK) (E : XK), A.guards = some [] → Room k A →
    Env0 P w K mg base A outer s H → BindsTo s fd args (ps.zip us) → Vals vs us → sp vs H Q E → codeAny (model P w) A (.call (.ref f) args) (CR CX0 outer P w H s Q E) s
section
variable {P : Program} {w : World} {K : PySem.W.Frag} {mg : Str → Option Value} {base : Heap}
theorem Fun.okG {x qual : Str} {st : Stmt} {f : Addr} {fd : FuncData} {N ps : List Str} {k : Nat} {sp : Sp} (F : Fun K x qual st f fd) (S : FnScope N ps (defScope st)) (len : ∀ vs H Q E, sp vs H Q E → vs.length = ps.length)
    (body : ∀ (cdv : Value) (A : Around) (outer : List Env) (s : Shared) (H : Hp) (vs : List V) (Q : VK) (E : XK), A.guards = some [] → Room k (A.deeper (envOfC qual (defScope st) s.heap.objs.size f cdv)) → sp vs H Q E →
      ∃ t, PSs (cxOf CX0 P w K mg base N qual (defScope st) f cdv A outer s H E).nox (defBody st) t ∧ t { nx := fun _ H' => Q .non H', rt := Q } (start N vs) H) :
    FnOkG P w K mg base (k + 1) f fd ps sp where
  len := len
  run := by
    intro A outer s H args us vs Q E gA room e0 bind rel want
    obtain ⟨oc, od, kV, doc, pm, an, cdv, ct, osl, rfl, lk, code⟩ := F.ex
    have same := len _ _ _ _ want
    have up : ∀ b o, base.get? b = some o → s.heap.get? b = some o := fun b o e => (e0.bs b o e).1
    have inK := e0.mod.kin.keeps up
    have places : ∀ y ∈ ps.zip us, (defScope st).names.lookup y.1 = some .local ∨
        ((defScope st).names.lookup y.1 = some .cell ∧ ((cellsFrom (s.heap.objs.size + 1) (defScope st).names []).lookup y.1).isSome = true) := by
      rintro ⟨n, v⟩ hy
      cases S.par n (List.of_mem_zip hy).1 with
      | inl q => exact Or.inl q
      | inr q => exact Or.inr ⟨q, PySem.W.cellsFrom_some _ _ _ (.inl q)⟩
    refine codeAny_call_function room.depth (inK _ _ lk) rfl S.co S.gen rfl (PySem.W.codeRec_of inK code) (bind _ _ _ _ (wpAny_newFunctionEnv_cells S.kind places fun env same_env s1 made => ?_))
    subst same_env
    have nolim := e0.mod.nolimit.keeps up
    refine ⟨nolim.keeps made.toInCall.keep, codeAny_func ?_⟩
    obtain ⟨t, rule, reading⟩ := body cdv A outer s H vs Q E gA (room.deeper _) want
    have first := inv_start (CX := CX0) (E := E) S room.hd e0 same rel made
    refine wpAny_mono (rule.nox.run [] s1 (start N vs) H _ first reading) ?_ (fun _ _ z => z)
    intro fl s' out
    match fl, out with
    | .ret u, ⟨v, _, H', J, rv, q⟩ => exact ⟨v, H', J.os, J.bare, J.base, J.hok, rv, q⟩
    | .next, ⟨_, H', J, q⟩ => exact ⟨.non, H', J.os, J.bare, J.base, J.hok, rfl, q⟩
    | .brk, ⟨_, _, _, q⟩ => exact q.elim
    | .cont, ⟨_, _, _, q⟩ => exact q.elim
end
section
variable {X : Cx} {k : Nat} {f : Addr} {fd : FuncData} {ps : List Str} {sp : Sp} {x : Str} {p pos : Pos} {e : Expr} {es : List Expr} {t : TA}
/-- a call of such a def -/
theorem pe_callG (F : FnOkG X.prog X.w X.K X.mg X.base k f fd ps sp) (gA : X.A.guards = some []) (hr : Room k X.A) (hg : Gl X x) (hm : X.mg x = some (.ref f)) (hk : PySem.W.keepIn X.K (.ref f) = true) (hb : Binds X.K fd ps [])
    (ha : PA X (e :: es) t) (hdb : (x == ("__debug__" : Str)) = false := by decide) (he : starEach (e :: es) X.env = (false, eval e X.env) :: starEach es X.env := by rfl) (hpl : (backTo pos (starEach es X.env)).any (·.1) = false := by rfl) :
    PE X (.Call (.Name x p) (e :: es) [] pos) (tCall sp [] E0 t) := by
  constructor
  intro pins s σ H Q I h
  refine wpAny_Call_Name_kw (ld_glob I hg hm (PySem.W.callWith_K (h₀ := X.base) I.ok.mod.kin hk (thn (ha.run pos pins s σ H _ I h) ?_) he hpl) hdb)
  rintro us s1 ⟨vs, H1, J, rel, want⟩
  refine ⟨J.kIn, ?_⟩
  have n : us.length = ps.length := by rw [← rel.length, ← F.len _ _ _ _ want, List.append_nil]
  have want' : sp vs H1 Q E0 := by rw [← List.append_nil vs]; exact want
  have bnd := hb s1 us J.kIn (by rw [List.append_nil]; exact n)
  rw [List.append_nil] at bnd
  refine wpAny_call (codeAny_mono (F.run X.A X.stack s1 H1 ⟨us, []⟩ us vs Q E0 gA hr J.env0 bnd rel want') ?_)
  intro r s' out
  match r, out with
  | .error _, out => exact out.elim
  | .ok (.ret u), out => exact J.after out
  | .ok .next, out => exact out.elim
  | .ok .brk, out => exact out.elim
  | .ok .cont, out => exact out.elim
/-- repr of data without dicts -/
def rRepr (K : PySem.W.Frag) : List V → Hp → VK → Prop := fun xs H Q => ∃ (a : Addr) (d : PyData), xs = [.ref a] ∧ Dp K H (.ref a) d ∧ d.showable = true ∧ d.hasDict = false ∧ d.depth ≤ 60 ∧ d.shown.length ≤ sizeLine ∧ Q (.str d.shown) H
theorem call_reprD (gA : X.A.guards = some []) (hu : X.A.units + 64 < cLine) : CallR X (.builtin "repr") (rRepr X.K) := by
  intro pins s σ H xs us Q I r h
  obtain ⟨a, d, rfl, hd, sh, nd, dp, sz, q⟩ := h
  obtain ⟨u, rfl, ru⟩ := vals1 r
  obtain rfl : u = Value.ref a := ru
  obtain ⟨as, rd⟩ := Dp.reads I d _ _ hd rfl
  refine repr_of_reads' rd sh (PyData.noDict_hsm nd) gA (by omega) (fun _ _ e => e) (fun h' u tk kp => ?_) sz
  exact ⟨.str d.shown, H, I.kept (t' := tk) kp, ⟨u, rfl⟩, q⟩
end
/-- the law's promise at the heap behind the top, for such a def -/
theorem law_startG {P : Program} {w : World} {K : PySem.W.Frag} {mg mb : Str → Option Value} {k : Nat} {fa a : Addr} {fd : FuncData} {x : Str} {sp : Sp} {s : Shared} {vs : List Value}
    (KX : K.In s.heap) (hns : s.heap.Ns mainGlobals mg) (hb : s.heap.Ns builtinsNs mb) (hbb : ∀ x : Str, x ≠ "__name__" → mb x = bootBuiltins x) (hlim : s.heap.NoLimit) (hg : s.gens = #[])
    (ha : s.heap.get? a = some { cls := .type "list", data := .seq vs.toArray }) (room : Room k callerA) (F : ∀ base : Heap, K.In base → base.Ns mainGlobals mg → FnOkG P w K mg base k fa fd [x] sp)
    (bind : ∀ (s : Shared) (u : Value), BindsTo s fd ⟨[u], []⟩ [(x, u)]) (H : Hp) (only : Only H) (hok : HOk P w H s.heap) (one : ∀ b, H b ≠ none → b = a) (out : H a ≠ none → K.lookup a = none)
    (want : sp [.ref a] H (fun v _ => v = .bl true) fun _ _ _ => False) :
    codeAny (model P w) callerA (.call (.ref fa) ⟨[.ref a], []⟩) (fun r s' => r = .ok (.ret (.bool true)) ∧ OldK s.heap s'.heap ∧ s'.os = s.os ∧ AllBare s'.gens) s := by
  have free : ∀ {b : Addr}, (b = a → False) → H b = none := fun {b} hb => by
    cases q : H b with
    | none => rfl
    | some u => exact (hb (one b (by rw [q]; exact fun z => (by cases z)))).elim
  have dicts : ∀ {b : Addr} {m : Str → Option Value}, s.heap.Ns b m → (hidT s.heap H).Ns b m := by
    rintro b m ⟨o, es, ep, e, d, r⟩
    refine ⟨o, es, ep, hidT_get e (free fun eb => ?_), d, r⟩
    rw [eb, ha] at e
    cases e
    have d' : Data.seq vs.toArray _ = Data.dict es ep := d
    cases d'
  have kin : K.In (hidT s.heap H) := fun b o e => hidT_get (KX b o e) (by
    cases q : H b with
    | none => rfl
    | some u =>
      have eb := one b (by rw [q]; exact fun z => (by cases z))
      have := out (by rw [← eb, q]; exact fun z => (by cases z))
      rw [eb, this] at e
      cases e)
  obtain ⟨mc, lim1, lim2⟩ := hlim
  have md : Mod K mg (hidT s.heap H) := { kin := kin, glob := dicts hns, blt := ⟨mb, dicts hb, hbb⟩, nolimit := ⟨mc, dicts lim1, lim2⟩ }
  have e0 : Env0 P w K mg (hidT s.heap H) callerA [] s H :=
    { frames := rfl, mod := md, bs := fun b o e => of_hidT e, bsz := Nat.le_of_eq (hidT_size _ _), funs := trivial, frf := fun b hb => absurd (show b ∈ ([] : List Addr) from hb) (List.not_mem_nil), hok := hok, bare := .of_eq hg }
  refine codeAny_mono ((F _ kin (dicts hns)).run callerA [] s H ⟨[.ref a], []⟩ [.ref a] [.ref a] _ _ rfl room e0 (bind s (.ref a)) (.cons rfl .nil) want) ?_
  intro r s' res
  match r, res with
  | .error _, res => exact res.elim
  | .ok .next, res => exact res.elim
  | .ok .brk, res => exact res.elim
  | .ok .cont, res => exact res.elim
  | .ok (.ret u), ⟨v, H', os, bare, un, hok', rv, ev⟩ =>
    have ev' : v = .bl true := ev
    subst ev'
    obtain rfl : u = Value.bool true := rv
    refine ⟨rfl, OldK.of_keep ?_, os, bare⟩
    intro b o e
    rcases only b with z | ⟨ob, xs, z⟩
    · exact un.keep b o e z (fun m => absurd (show b ∈ ([] : List Addr) from m) List.not_mem_nil) List.not_mem_nil
    · have e1 := (hok b _ z).1
      have e2 := (hok' b _ (un.frzs b ob _ z)).1
      rw [e] at e1
      cases e1
      exact e2
theorem walk_ofG {l : PySem.W.OpenLaw} {n k : Nat} {q : Program} {loose : List Str} {XP : (Str → Option Value) → Heap → Prop} {YP : World → Heap → Prop} {d : DefRec} {K : Params → PySem.W.Frag} {sp : World → Sp} {x : Str}
    (hn : l.most = some n) (hn2 : n ≤ sizeLine) (hdf : d.params.defaults = []) (room : Room k callerA) (hY : ∀ (w : World) (h : Heap), YP w h → (K w.params).In h)
    (F : ∀ (w : World) (mg : Str → Option Value) (fa : Addr) (h : Heap), (K w.params).In h → h.Ns mainGlobals mg → mg d.name = some (.ref fa) →
      ∃ fd : FuncData, (∀ (s : Shared) (u : Value), BindsTo s fd ⟨[u], []⟩ [(x, u)]) ∧ ∀ base : Heap, (K w.params).In base → base.Ns mainGlobals mg → FnOkG l.prog w (K w.params) mg base k fa fd [x] (sp w))
    (hsp : ∀ (w : World) (H : Hp) (a : Addr) (ns : List Int), ns.length ≤ n → Only H → SqL (K w.params) H a (ns.map V.int) → sp w [.ref a] H (fun v _ => v = .bl true) fun _ _ _ => False) :
    PySem.W.WalkO q loose XP YP l.row.toRowW d [] (fun f vs => PySem.call f vs) := by
  refine Att.attach_call hn hdf ?_
  intro w s₀ s mg mb fa o pm cd doc a vs ns G Y ho hd hcd hmg hobj hints hlen hg
  have KX := hY w _ Y
  obtain ⟨fd, bind, hF⟩ := F w mg fa _ KX G.T.g hmg
  have size : ns.length ≤ sizeLine := Nat.le_trans hlen hn2
  have go := fun (H : Hp) => law_startG (w := w) (a := a) (vs := vs) KX G.T.g G.T.b G.T.builtins G.T.nolimit hg hobj room hF bind H
  cases hk : (K w.params).lookup a with
  | some o' =>
    have e := KX a o' hk
    rw [hobj] at e
    cases e
    have only : Only (fun _ => none) := fun _ => Or.inl rfl
    refine go (fun _ => none) only (fun b u z => by have z2 : (none : Option HO) = some u := z; cases z2) (fun b z => absurd rfl z) (fun z => absurd rfl z) (hsp w _ a ns hlen only (.inr ⟨_, vs.toArray, _, hk, rfl, rfl, rfl, ?_, ?_⟩))
    · rw [List.size_toArray, hints.length]
      exact size
    · exact vals_ints hints
  | none =>
    have at_a : ∀ {b u}, (if b = a then some (HO.frz { cls := .type "list", data := .seq vs.toArray } (.lst (ns.map V.int))) else none) = some u → b = a ∧ u = .frz { cls := .type "list", data := .seq vs.toArray } (.lst (ns.map V.int)) := by
      intro b u z
      by_cases hb : b = a
      · rw [if_pos hb] at z
        exact ⟨hb, (Option.some.inj z).symm⟩
      · rw [if_neg hb] at z
        cases z
    have only : Only (fun b => if b = a then some (HO.frz { cls := .type "list", data := .seq vs.toArray } (.lst (ns.map V.int))) else none) := by
      intro b
      by_cases hb : b = a
      · exact Or.inr ⟨_, _, if_pos hb⟩
      · exact Or.inl (if_neg hb)
    refine go _ only ?_ ?_ (fun _ => hk) (hsp w _ a ns hlen only (.inl (.inr ⟨{ cls := .type "list", data := .seq vs.toArray }, if_pos rfl⟩)))
    · intro b u z
      obtain ⟨rfl, rfl⟩ := at_a z
      exact ⟨hobj, by rw [List.length_map]; exact size, vs, _, vals_ints hints, hobj⟩
    · intro b z
      cases q : (if b = a then some (HO.frz { cls := .type "list", data := .seq vs.toArray } (.lst (ns.map V.int))) else none) with
      | none => exact absurd q z
      | some u => exact (at_a q).1
end L2

/-! isinstance of a caught error whose fields stand in a dict; a tuple of classes -/
namespace L2
open PySem PySem.Spec PyProof.Rows
section
variable {X : Cx} {a : Addr} {oe : Obj} {cls : Value} {d : Option Addr} {pn : List (Addr × Obj)}
/-- the error that the suite holds at a: its class D, its dict dd -/
def Caught (K : PySem.W.Frag) (H : Hp) (cls : Value) (d : Option Addr) (D : Addr) : Prop := cls = .ref D ∧ ExcC K D ∧ ∃ (dd : Addr) (fs : List (Str × V)), d = some dd ∧ H dd = some (.xd fs)
theorem caught_at {pins : List (Addr × Obj)} {σ : St} {H : Hp} {s : Shared} {D : Addr} (I : Inv (X.suite a ((a, oe) :: pn)) pins σ H s) (hz : Zc cls d oe) (hf : ∃ vs, oe.data = .fields vs) (c : Caught X.K H cls d D) : ∃ od, PySem.W.InstAt s.heap a oe D od := by
  obtain ⟨rfl, _, dd, fs, rfl, ea⟩ := c
  have here := (I.pin (a, oe) (List.mem_append_left _ List.mem_cons_self)).1
  obtain ⟨vs, hd⟩ := hf
  obtain ⟨mA, hns, _⟩ := (show ObjOk X.prog X.w H s.heap dd (.xd fs) from I.hok dd _ ea)
  obtain ⟨od, ho, _⟩ := lookIn_ns hns
  refine ⟨some od, here, hz.1, ?_, ?_⟩
  · unfold PySem.W.notCls
    rw [hd] <;> rfl
  · rw [hz.2]
    exact ho
theorem caught_kit {K : PySem.W.Frag} {D : Addr} {od : Option Obj} (C : ExcC K D) : PySem.W.KitX K (.ref a) (.ref D) (fun h => PySem.W.InstAt h a oe D od) := by
  have hc : (PySem.W.clsIn K D).isSome = true := by
    obtain ⟨cd, hc, _⟩ := PySem.W.any_some C.hd
    rw [hc]
    rfl
  exact PySem.W.kitx_exc hc C.hg C.hk C.hs C.ha C.hn C.ht C.hm
def rIsC (K : PySem.W.Frag) (a : Addr) (cls : Value) (d : Option Addr) : List V → Hp → VK → Prop := fun xs H Q => ∃ (D : Addr) (c : V) (cv : Value) (b : Bool), xs = [.ref a, c] ∧ Caught K H cls d D ∧ ClsV c cv ∧ PySem.W.kitOne K (.ref D) cv = some b ∧ Q (.bl b) H
def rIsCT (K : PySem.W.Frag) (a : Addr) (cls : Value) (d : Option Addr) : List V → Hp → VK → Prop := fun xs H Q => ∃ (D tp : Addr) (cs : List V) (us : List Value) (b : Bool), xs = [.ref a, .ref tp] ∧ Caught K H cls d D ∧ H tp = some (.tup cs) ∧ Paired ClsV cs us ∧ PySem.W.kitAny K (.ref D) us = some b ∧ Q (.bl b) H
theorem call_isC (hz : Zc cls d oe) (hf : ∃ vs, oe.data = .fields vs) : CallR (X.suite a ((a, oe) :: pn)) (.builtin "isinstance") (rIsC X.K a cls d) := by
  intro pins s σ H xs us Q I r h
  obtain ⟨D, c, cv, b, rfl, hc, k, e, q⟩ := h
  obtain ⟨u1, u2, rfl, r1, r2⟩ := vals2 r
  obtain rfl : u1 = Value.ref a := r1
  have e2 := k.eq r2
  subst e2
  obtain ⟨od, J⟩ := caught_at I hz hf hc
  exact PySem.W.kia_one (caught_kit hc.2.1) I.kIn J e (fun z => by cases z) fun tk => ⟨.bl b, H, I.tok tk, rfl, q⟩
theorem call_isCT (hz : Zc cls d oe) (hf : ∃ vs, oe.data = .fields vs) : CallR (X.suite a ((a, oe) :: pn)) (.builtin "isinstance") (rIsCT X.K a cls d) := by
  intro pins s σ H xs us Q I r h
  obtain ⟨D, tp, cs, ws, b, rfl, hc, hT, k, e, q⟩ := h
  obtain ⟨u1, u2, rfl, r1, r2⟩ := vals2 r
  obtain rfl : u1 = Value.ref a := r1
  obtain rfl : u2 = Value.ref tp := r2
  obtain ⟨od, J⟩ := caught_at I hz hf hc
  obtain ⟨_, its, rv, o, h1, h2, n, h3⟩ := (show ObjOk X.prog X.w H s.heap tp (.tup cs) from I.hok tp _ hT)
  have e3 := ClsV.all k rv
  subst e3
  obtain ⟨oc, od', dt, sl⟩ := o
  simp only at h2 h3
  subst h2 h3
  exact PySem.W.kia_tup (caught_kit hc.2.1) I.kIn J h1 e (fun z => by cases z) fun tk => ⟨.bl b, H, I.tok tk, rfl, q⟩
end
end L2

/-! lists of numbers, lists of such lists, as data that is shown -/
namespace KD
open PySem PySem.Spec PyProof.Rows L2
def dI (l : List Int) : PyData := .list (l.map .int)
def dW (W : List (List Int)) : PyData := .list (W.map dI)
structure Shows (d : PyData) : Prop where
  sh : d.showable = true
  nd : d.hasDict = false
  dp : d.depth ≤ 60
  sz : d.shown.length ≤ sizeLine
def Smalls (l : List Int) : Prop := ∀ z ∈ l, z.natAbs < 1000000
theorem small_log {z : Int} (h : z.natAbs < 1000000) : z.natAbs.log2 < 20 := by
  by_cases e : z.natAbs = 0
  · rw [e]
    decide
  · exact (Nat.log2_lt e).2 (Nat.lt_of_lt_of_le h (by decide))
theorem ints_show {l : List Int} (h : Smalls l) : PyData.showableAll (l.map PyData.int) = true := PyData.showableAll_ints l fun z hz => Nat.lt_trans (small_log (h z hz)) (by decide)
theorem ints_nodict : ∀ l : List Int, PyData.hasDictAll (l.map PyData.int) = false
  | [] => by simp only [List.map_nil, PyData.hasDictAll]
  | z :: l => by simp only [List.map_cons, PyData.hasDictAll, PyData.hasDict, ints_nodict l, Bool.or_self]
theorem ints_depth : ∀ l : List Int, PyData.depthAll (l.map PyData.int) = 0
  | [] => by simp only [List.map_nil, PyData.depthAll]
  | z :: l => by simp only [List.map_cons, PyData.depthAll, PyData.depth, ints_depth l, Nat.max_self]
theorem ints_leaves : ∀ {l : List Int}, Smalls l → PyData.leavesShortAll 13 (l.map PyData.int) = true
  | [], _ => by simp only [List.map_nil, PyData.leavesShortAll]
  | z :: l, h => by
    simp only [List.map_cons, PyData.leavesShortAll, PyData.leavesShort, Bool.and_eq_true, decide_eq_true_eq]
    exact ⟨PyData.shown_int_le (Nat.lt_trans (h z List.mem_cons_self) (by decide)), ints_leaves fun y hy => h y (List.mem_cons_of_mem _ hy)⟩
theorem ints_weight : ∀ {l : List Int}, Smalls l → PyData.weightAll (l.map PyData.int) ≤ 21 * l.length
  | [], _ => by simp only [List.map_nil, PyData.weightAll]; exact Nat.zero_le _
  | z :: l, h => by
    have := small_log (h z List.mem_cons_self)
    have ih := ints_weight (l := l) fun y hy => h y (List.mem_cons_of_mem _ hy)
    have w : PyData.weight (.int z) ≤ 20 := by
      simp only [PyData.weight]
      split <;> omega
    simp only [List.map_cons, PyData.weightAll, List.length_cons]
    omega
theorem dI_shows {l : List Int} (h : Smalls l) (hl : l.length ≤ 10000) : Shows (dI l) where
  sh := by simp only [dI, PyData.showable]; exact ints_show h
  nd := by simp only [dI, PyData.hasDict]; exact ints_nodict l
  dp := by simp only [dI, PyData.depth, ints_depth]; decide
  sz := PyData.shown_fits (B := 13) (by decide) (by decide) (by simp only [dI, PyData.leavesShort]; exact ints_leaves h) (by
    simp only [dI, PyData.weight]
    have := ints_weight h
    have e : (2 : Nat) ^ 20 = 1048576 := by decide
    omega)
theorem rows_show : ∀ {W : List (List Int)}, (∀ r ∈ W, Smalls r) → PyData.showableAll (W.map dI) = true
  | [], _ => by simp only [List.map_nil, PyData.showableAll]
  | r :: W, h => by
    simp only [List.map_cons, PyData.showableAll, Bool.and_eq_true]
    exact ⟨by simp only [dI, PyData.showable]; exact ints_show (h r List.mem_cons_self), rows_show fun y hy => h y (List.mem_cons_of_mem _ hy)⟩
theorem rows_nodict : ∀ W : List (List Int), PyData.hasDictAll (W.map dI) = false
  | [] => by simp only [List.map_nil, PyData.hasDictAll]
  | r :: W => by simp only [List.map_cons, PyData.hasDictAll, dI, PyData.hasDict, ints_nodict, Bool.false_or]; exact rows_nodict W
theorem rows_depth : ∀ W : List (List Int), PyData.depthAll (W.map dI) ≤ 1
  | [] => by simp only [List.map_nil, PyData.depthAll]; exact Nat.zero_le _
  | r :: W => by
    have := rows_depth W
    simp only [List.map_cons, PyData.depthAll, dI, PyData.depth, ints_depth]
    exact Nat.max_le.mpr ⟨Nat.le_refl _, this⟩
theorem rows_leaves : ∀ {W : List (List Int)}, (∀ r ∈ W, Smalls r) → PyData.leavesShortAll 13 (W.map dI) = true
  | [], _ => by simp only [List.map_nil, PyData.leavesShortAll]
  | r :: W, h => by
    simp only [List.map_cons, PyData.leavesShortAll, Bool.and_eq_true]
    exact ⟨by simp only [dI, PyData.leavesShort]; exact ints_leaves (h r List.mem_cons_self), rows_leaves fun y hy => h y (List.mem_cons_of_mem _ hy)⟩
theorem rows_weight {k : Nat} : ∀ {W : List (List Int)}, (∀ r ∈ W, Smalls r ∧ r.length ≤ k) → PyData.weightAll (W.map dI) ≤ (21 * k + 1) * W.length
  | [], _ => by simp only [List.map_nil, PyData.weightAll]; exact Nat.zero_le _
  | r :: W, h => by
    have h1 := h r List.mem_cons_self
    have w := ints_weight h1.1
    have ih := rows_weight (k := k) (W := W) fun y hy => h y (List.mem_cons_of_mem _ hy)
    have wd : PyData.weight (dI r) ≤ 21 * k := by
      simp only [dI, PyData.weight]
      have : 21 * r.length ≤ 21 * k := Nat.mul_le_mul_left 21 h1.2
      omega
    simp only [List.map_cons, PyData.weightAll, List.length_cons]
    rw [Nat.mul_succ]
    omega
theorem dW_shows {W : List (List Int)} (h : ∀ r ∈ W, Smalls r ∧ r.length ≤ 100) (hl : W.length ≤ 400) : Shows (dW W) where
  sh := by simp only [dW, PyData.showable]; exact rows_show fun r hr => (h r hr).1
  nd := by simp only [dW, PyData.hasDict]; exact rows_nodict W
  dp := by
    have := rows_depth W
    simp only [dW, PyData.depth]
    omega
  sz := PyData.shown_fits (B := 13) (by decide) (by decide) (by simp only [dW, PyData.leavesShort]; exact rows_leaves fun r hr => (h r hr).1) (by
    simp only [dW, PyData.weight]
    have := rows_weight h
    have e : (2 : Nat) ^ 20 = 1048576 := by decide
    have : (21 * 100 + 1) * W.length ≤ (21 * 100 + 1) * 400 := Nat.mul_le_mul_left _ hl
    omega)
theorem dpI {K : PySem.W.Frag} {H : Hp} {a : Addr} {l : List Int} (h : SqL K H a (l.map V.int)) : Dp K H (.ref a) (dI l) := by
  refine .lst h ?_
  clear h
  induction l with
  | nil => exact .nil
  | cons z l ih => exact .cons (.int z) ih
theorem dpW {K : PySem.W.Frag} {H : Hp} {a : Addr} {as : List Addr} {W : List (List Int)} (h : SqL K H a (as.map V.ref)) (p : Paired (fun x r => SqL K H x (r.map V.int)) as W) : Dp K H (.ref a) (dW W) := by
  refine .lst h ?_
  clear h
  induction p with
  | nil => exact .nil
  | cons f _ ih => exact .cons (dpI f) ih
/-- the reading of repr(x), x such data -/
theorem shown {K : PySem.W.Frag} {H : Hp} {a : Addr} {d : PyData} {Q : VK} (s : Shows d) (p : Dp K H (.ref a) d) (q : Q (.str d.shown) H) : rRepr K [.ref a] H Q := ⟨a, d, rfl, p, s.sh, s.nd, s.dp, s.sz, q⟩
def rTupOf (K : PySem.W.Frag) : List V → Hp → VK → Prop := fun xs H Q => ∃ p ys, xs = [.ref p] ∧ ((SqL K H p ys ∧ ∀ l, H l = none → Q (.ref l) (upd H l (.tup ys))) ∨ (SqT K H p ys ∧ Q (.ref p) H))
end KD

/-! defs that may be called while an error is handled: their bodies ask nothing of what is handled -/
namespace L2
open PySem PySem.Spec PyProof.Rows
structure RoomQ (k : Nat) (A : Around) : Prop where
  dp : A.depth + 3 * k + 5 < recursionLimit
  un : A.units + 16 * k + 200 < cLine
theorem RoomQ.of {k : Nat} {A : Around} (r : Room k A) : RoomQ k A := ⟨r.dp, r.un⟩
theorem RoomQ.mono {j k : Nat} {A : Around} (r : RoomQ k A) (h : j ≤ k) : RoomQ j A := by
  obtain ⟨a, b⟩ := r
  exact ⟨by omega, by omega⟩
theorem RoomQ.deeper {k : Nat} {A : Around} (r : RoomQ (k + 1) A) (env : Env) : RoomQ k (A.deeper env) := by
  obtain ⟨a, b⟩ := r
  refine ⟨?_, ?_⟩
  · show A.depth + 1 + 3 * k + 5 < _
    omega
  · show A.units + 3 + 16 * k + 200 < _
    omega
structure FnOkQ (P : Program) (w : World) (K : PySem.W.Frag) (mg : Str → Option Value) (base : Heap) (k : Nat) (f : Addr) (fd : FuncData) (ps : List Str) (sp : Sp) : Prop where
  len : ∀ vs H Q E, sp vs H Q E → vs.length = ps.length
  run : ∀ (A : Around) (outer : List Env) (s : Shared) (H : Hp) (args : Args) (us : List Value) (vs : List V) (Q : VK) (E : XK), RoomQ k A →
    Env0 P w K mg base A outer s H → BindsTo s fd args (ps.zip us) → Vals vs us → sp vs H Q E → codeAny (model P w) A (.call (.ref f) args) (CR CX0 outer P w H s Q E) s
/-- the body's context: nothing is known of what is handled -/
def cxQ (P : Program) (w : World) (K : PySem.W.Frag) (mg : Str → Option Value) (base : Heap) (N : List Str) (qual : Str) (scope : Scope) (f : Addr) (cd : Value) (A : Around) (outer : List Env) (s : Shared) (H : Hp) (E : XK) : Cx :=
  { cxOf CX0 P w K mg base N qual scope f cd A outer s H E with calm := false }
section
variable {P : Program} {w : World} {K : PySem.W.Frag} {mg : Str → Option Value} {base : Heap}
theorem Fun.okQ {x qual : Str} {st : Stmt} {f : Addr} {fd : FuncData} {N ps : List Str} {k : Nat} {sp : Sp} (F : Fun K x qual st f fd) (S : FnScope N ps (defScope st)) (len : ∀ vs H Q E, sp vs H Q E → vs.length = ps.length)
    (body : ∀ (cdv : Value) (A : Around) (outer : List Env) (s : Shared) (H : Hp) (vs : List V) (Q : VK) (E : XK), RoomQ k (A.deeper (envOfC qual (defScope st) s.heap.objs.size f cdv)) → sp vs H Q E →
      ∃ t, PSs (cxQ P w K mg base N qual (defScope st) f cdv A outer s H E).nox (defBody st) t ∧ t { nx := fun _ H' => Q .non H', rt := Q } (start N vs) H) :
    FnOkQ P w K mg base (k + 1) f fd ps sp where
  len := len
  run := by
    intro A outer s H args us vs Q E room e0 bind rel want
    obtain ⟨oc, od, kV, doc, pm, an, cdv, ct, osl, rfl, lk, code⟩ := F.ex
    have same := len _ _ _ _ want
    have up : ∀ b o, base.get? b = some o → s.heap.get? b = some o := fun b o e => (e0.bs b o e).1
    have inK := e0.mod.kin.keeps up
    have places : ∀ y ∈ ps.zip us, (defScope st).names.lookup y.1 = some .local ∨
        ((defScope st).names.lookup y.1 = some .cell ∧ ((cellsFrom (s.heap.objs.size + 1) (defScope st).names []).lookup y.1).isSome = true) := by
      rintro ⟨n, v⟩ hy
      cases S.par n (List.of_mem_zip hy).1 with
      | inl q => exact Or.inl q
      | inr q => exact Or.inr ⟨q, PySem.W.cellsFrom_some _ _ _ (.inl q)⟩
    have depth : A.depth < recursionLimit := by have := room.dp; omega
    refine codeAny_call_function depth (inK _ _ lk) rfl S.co S.gen rfl (PySem.W.codeRec_of inK code) (bind _ _ _ _ (wpAny_newFunctionEnv_cells S.kind places fun env same_env s1 made => ?_))
    subst same_env
    have nolim := e0.mod.nolimit.keeps up
    refine ⟨nolim.keeps made.toInCall.keep, codeAny_func ?_⟩
    obtain ⟨t, rule, reading⟩ := body cdv A outer s H vs Q E (room.deeper _) want
    have e0' : Env0 P w K mg base { A with handled := none } outer s H := { frames := e0.frames, mod := e0.mod, bs := e0.bs, bsz := e0.bsz, funs := e0.funs, frf := e0.frf, hok := e0.hok, bare := e0.bare }
    have I := inv_start (CX := CX0) (E := E) S (A := { A with handled := none }) rfl e0' same rel made
    have ok : (cxQ P w K mg base N qual (defScope st) f cdv A outer s H E).Ok :=
      { mod := I.ok.mod, kind := I.ok.kind, glob := I.ok.glob, blt := I.ok.blt, above := I.ok.above, inj := I.ok.inj, has := I.ok.has, cab := I.ok.cab,
        hd := fun z => Bool.noConfusion (show false = true from z), frames := Around.frames_deeper e0.frames, stk := I.ok.stk, exf := I.ok.exf, bs := I.ok.bs, bsz := I.ok.bsz, noex := I.ok.noex, exfs := I.ok.exfs, funs := I.ok.funs, frf := I.ok.frf }
    have first : Inv (cxQ P w K mg base N qual (defScope st) f cdv A outer s H E) [] (start N vs) H s1 :=
      { ok := ok, os := I.os, bare := I.bare, base := I.base, loc := I.loc, cell := I.cell, free := I.free, freeC := I.freeC, pin := I.pin, hok := I.hok, len := I.len }
    refine wpAny_mono (rule.nox.run [] s1 (start N vs) H _ first reading) ?_ (fun _ _ z => z)
    intro fl s' out
    match fl, out with
    | .ret u, ⟨v, _, H', J, rv, q⟩ => exact ⟨v, H', J.os, J.bare, J.base, J.hok, rv, q⟩
    | .next, ⟨_, H', J, q⟩ => exact ⟨.non, H', J.os, J.bare, J.base, J.hok, rfl, q⟩
    | .brk, ⟨_, _, _, q⟩ => exact q.elim
    | .cont, ⟨_, _, _, q⟩ => exact q.elim
end
section
variable {X : Cx} {k : Nat} {f : Addr} {fd : FuncData} {ps : List Str} {sp : Sp} {x : Str} {p pos : Pos} {e : Expr} {es : List Expr} {t : TA}
theorem pe_callQ (F : FnOkQ X.prog X.w X.K X.mg X.base k f fd ps sp) (hr : RoomQ k X.A) (hg : Gl X x) (hm : X.mg x = some (.ref f)) (hk : PySem.W.keepIn X.K (.ref f) = true) (hb : Binds X.K fd ps [])
    (ha : PA X (e :: es) t) (hdb : (x == ("__debug__" : Str)) = false := by decide) (he : starEach (e :: es) X.env = (false, eval e X.env) :: starEach es X.env := by rfl) (hpl : (backTo pos (starEach es X.env)).any (·.1) = false := by rfl) :
    PE X (.Call (.Name x p) (e :: es) [] pos) (tCall sp [] E0 t) := by
  constructor
  intro pins s σ H Q I h
  refine wpAny_Call_Name_kw (ld_glob I hg hm (PySem.W.callWith_K (h₀ := X.base) I.ok.mod.kin hk (thn (ha.run pos pins s σ H _ I h) ?_) he hpl) hdb)
  rintro us s1 ⟨vs, H1, J, rel, want⟩
  refine ⟨J.kIn, ?_⟩
  have n : us.length = ps.length := by rw [← rel.length, ← F.len _ _ _ _ want, List.append_nil]
  have want' : sp vs H1 Q E0 := by rw [← List.append_nil vs]; exact want
  have bnd := hb s1 us J.kIn (by rw [List.append_nil]; exact n)
  rw [List.append_nil] at bnd
  refine wpAny_call (codeAny_mono (F.run X.A X.stack s1 H1 ⟨us, []⟩ us vs Q E0 hr J.env0 bnd rel want') ?_)
  intro r s' out
  match r, out with
  | .error _, out => exact out.elim
  | .ok (.ret u), out => exact J.after out
  | .ok .next, out => exact out.elim
  | .ok .brk, out => exact out.elim
  | .ok .cont, out => exact out.elim
end
end L2

/-! for i, x in enumerate(xs), xs a list or a tuple -/
namespace RT
open PySem PySem.Spec PyProof.Rows L2
theorem new_enum1 {v : Value} {o : Obj} {G : Heap → Prop} (B : Begins v o G) :
    Meets (Builtin.«enumerate.__new__» ⟨[.type "enumerate", v], []⟩) (fun _ R s => G s.heap ∧
      R (.ok (.ret (.ref (s.heap.push o).objs.size))) { s with heap := (s.heap.push o).push { cls := .type "enumerate", data := .fields #[.none, .bool false, .ref s.heap.objs.size, rawInt 0, .none, .none] } }) := by
  refine .of_wp fun prog w A R s hh => ?_
  obtain ⟨heap, gens, drawn, toks, os⟩ := s
  obtain ⟨hG, hR⟩ := hh
  have sub := sub_enumerate
  have it : ∀ {A' : Around} {E : Value → Shared → Prop} {Q : Value → Shared → Prop}, Q (.ref heap.objs.size) ⟨heap.push o, gens, drawn, toks, os⟩ → wpAny (model prog w) A' (pyIter v) Q E ⟨heap, gens, drawn, toks, os⟩ := fun q => B.iter prog w _ _ ⟨heap, gens, drawn, toks, os⟩ _ hG q
  wp_walk using it
  refine wpAny_stack_any fun st => wpAny_pure ?_
  split
  · rename_i c _ _ _ _ _
    cases (c == Value.type "enumerate") <;> (wp_walk using it; exact ⟨_, rfl, hR⟩)
  · wp_walk using it
    exact ⟨_, rfl, hR⟩
section
variable {prog : Program} {w : World} {A : Around} {E : Value → Shared → Prop} {s : Shared}
theorem call_enum_tup {t : Addr} {items : Array Value} {Q : Value → Shared → Prop} (hT : s.heap.IsTuple t items)
    (q : ∀ h', IsEnum h' (s.heap.objs.size + 1) s.heap.objs.size 0 .none → h'.IsTupleIter s.heap.objs.size t 0 → (∀ b o, s.heap.get? b = some o → h'.get? b = some o) → Q (.ref (s.heap.objs.size + 1)) { s with heap := h' }) :
    wpAny (model prog w) A (call (.type "enumerate") [.ref t]) Q E s := by
  refine callType_new F.called_enumerate (by decide) (F.typeCall_enumerate_1 _) (F.newCall_enumerate_1 _) (fun obj => F.args_object_init_2 obj _) F.entry_enumerate_new (new_enum1 (begins_tuple t items)) ⟨hT, ?_⟩
  generalize eo : ({ cls := .type "tuple_iterator", data := .fields #[.ref t, .int 0 0] } : Obj) = io
  have z : (s.heap.push io).objs.size = s.heap.objs.size + 1 := Heap.size_push ..
  generalize ee : ({ cls := .type "enumerate", data := .fields #[.none, .bool false, .ref s.heap.objs.size, rawInt 0, .none, .none] } : Obj) = en
  have fe : ((s.heap.push io).push en).get? (s.heap.objs.size + 1) = some en := by
    rw [← z]
    exact Heap.get?_push_size _ (by rw [← ee]; rfl)
  have fi : ((s.heap.push io).push en).get? s.heap.objs.size = some io := Heap.get?_push_of_some _ (Heap.get?_push_size _ (by rw [← eo]; rfl))
  show _ ∧ _
  rw [z]
  exact ⟨⟨en, fe, by rw [← ee]⟩, q _ (fe.trans (by rw [← ee])) ⟨io, fi, by rw [← eo], by rw [← eo]; rfl⟩ fun b o x => Heap.get?_push_of_some _ (Heap.get?_push_of_some _ x)⟩
end
end RT
namespace L2
open PySem PySem.Spec PyProof.Rows
/-- the tuple at a, its items numbered, in new pairs -/
def Iten (K : PySem.W.Frag) (a : Addr) : It where
  go := fun i H => ∃ (xs : List V) (x : V), SqT K H a xs ∧ xs[i]? = some x
  yld := fun i H v H' => ∃ T x, v = .ref T ∧ H T = none ∧ H' = upd H T (.tup [.int (i : Nat), x]) ∧ ∀ xs, SqT K H a xs → xs[i]? = some x
  stop := fun i H => ∃ xs : List V, SqT K H a xs ∧ xs.length ≤ i
theorem turn_enumT {P : Program} {w : World} {K : PySem.W.Frag} {elts : List Expr} {kk : Nat} {tpos : Pos} (a e it : Addr) :
    Turn P w K (.Tuple elts kk tpos) (Iten K a) [e, it] e (fun i h => (∃ old, IsEnum h e it ((i : Nat) : Int) old) ∧ h.IsTupleIter it a i ∧ e ≠ it) := by
  have two : ∀ {b : Addr}, b ∈ [e, it] → b = e ∨ b = it := fun hb => by simpa using hb
  refine { mem := by simp, obj := ?_, keep := ?_, item := ?_, done := ?_, self := ?_ }
  · rintro i h ⟨⟨old, he⟩, ⟨o, ho, _, hd⟩, _⟩ b hb
    rcases two hb with rfl | rfl
    · exact ⟨_, he, fun v q => nomatch q⟩
    · exact ⟨o, ho, fun v q => by rw [hd] at q; cases q⟩
  · rintro i h h' ⟨⟨old, he⟩, hi, ne⟩ k
    exact ⟨⟨old, k e (by simp) _ he⟩, hi.at fun o q => k it (by simp) o q, ne⟩
  · intro X hP hw hK hc i pins s σ H E I hf st hg
    subst hP hw hK
    obtain ⟨⟨old, he⟩, hit, ne⟩ := st
    obtain ⟨xs, x, hq, hx⟩ := hg
    obtain ⟨its, rv, p, _⟩ := I.tuple hq
    obtain ⟨u, hu, ru⟩ := rv.get hx
    have le : e < s.heap.objs.size := Heap.lt_size he
    have li : it < s.heap.objs.size := by obtain ⟨_, q, _⟩ := hit; exact Heap.lt_size q
    have ea : e ≠ a := fun z => by
      obtain ⟨o, ho, hcl, _⟩ := p
      rw [← z, he] at ho
      cases ho
      exact absurd (Value.type.inj hcl) (by decide)
    have ia : a ≠ it := fun z => by
      obtain ⟨o, ho, hcl, _⟩ := p
      obtain ⟨o2, ho2, hcl2, _⟩ := hit
      rw [z, ho2] at ho
      cases ho
      rw [hcl2] at hcl
      exact absurd (Value.type.inj hcl) (by decide)
    have ilt : i < its.toArray.size := by
      have := (List.getElem?_eq_some_iff.mp hu).1
      simpa using this
    refine wpAny_pyNext_enum_itemD (Draws.tuple (A := X.A.in1) (I.ok.hd hc) it a ia its.toArray) he ⟨hit, p⟩ ilt ne (by simp [ne, ea]) fun y h' tk hy ho st' hT hsz hk => ?_
    obtain rfl : y = u := by
      have hy' : its[i]? = some y := by simpa using hy
      rw [hu] at hy'
      exact (Option.some.inj hy').symm
    refine ⟨_, rfl, wpAny_letOwnedTupleGo_enum (s := { s with heap := h', toks := tk + 1 }) ho fun h2 he2 sb => ?_⟩
    have same : ∀ b, b ≠ e → h2.get? b = h'.get? b := fun b hb => sb.2 b hb
    have T2 : h2.get? s.heap.objs.size = some { cls := .type "tuple", data := .seq #[.int i tk, y] } := (same _ (Nat.ne_of_gt le)).trans hT
    have ok : ObjOk X.prog X.w (upd H s.heap.objs.size (.tup [.int (i : Nat), x])) h2 s.heap.objs.size (.tup [.int (i : Nat), x]) :=
      ⟨by show 2 ≤ sizeLine; decide, [.int i tk, y], .cons ⟨_, rfl⟩ (.cons ru .nil), ⟨_, T2, rfl, _, rfl⟩⟩
    have J : Inv X pins σ (upd H s.heap.objs.size (.tup [.int (i : Nat), x])) { s with heap := h2, toks := tk + 1 } :=
      I.turnedNew (ch := [e, it]) (fun b ob hb q => (same b (fun z => hb (by simp [z]))).trans (hk b ob (fun z => hb (by simp [z])) (fun z => hb (by simp [z])) q)) hf (Nat.le_refl _) ok
    refine ⟨.ref s.heap.objs.size, _, J, rfl, ⟨_, x, rfl, I.hok.fresh (Nat.le_refl _), rfl, fun ys hy => by rw [I.tuple_inj hy hq]; exact hx⟩, ⟨⟨y, ?_⟩, st'.1.at fun o q => (same it (Ne.symm ne)).trans q, ne⟩, fun b hb => ?_⟩
    · rw [show ((i + 1 : Nat) : Int) = (i : Int) + 1 by omega]
      exact he2
    · have lb : b < s.heap.objs.size := by rcases two hb with z | z <;> rw [z] <;> assumption
      rw [upd_ne (Nat.ne_of_lt lb)]
      exact (hf b hb).1
  · intro X hP hw hK hc i pins s σ H E I hf st hg
    subst hP hw hK
    obtain ⟨⟨old, he⟩, hit, ne⟩ := st
    obtain ⟨xs, hq, hx⟩ := hg
    obtain ⟨its, rv, p, _⟩ := I.tuple hq
    obtain ⟨f0, f1, f2, f3, f4, f5⟩ := hf it (by simp)
    have ll := rv.length
    have ia : a ≠ it := fun z => by
      obtain ⟨o, ho, hcl, _⟩ := p
      obtain ⟨o2, ho2, hcl2, _⟩ := hit
      rw [z, ho2] at ho
      cases ho
      rw [hcl2] at hcl
      exact absurd (Value.type.inj hcl) (by decide)
    exact enum_endT (I.ok.hd hc) he hit p ia (by simp; omega) fun h' eb => ⟨rfl, I.turned (t' := s.toks) (fun b o hb q => eb b o hb q) f0 f1 f3 f4 f5⟩
  · exact fun A i s Q E st h => let ⟨⟨_, he⟩, _⟩ := st; wpAny_pyIter_enum he h
where
  enum_endT {prog : Program} {w : World} {A : Around} {E : Value → Shared → Prop} {s : Shared} {e it t : Addr} {i : Nat} {items : Array Value} {old : Value} {Q : Option Value → Shared → Prop} (hh : A.handled = none) (he : IsEnum s.heap e it i old)
      (hit : s.heap.IsTupleIter it t i) (hT : s.heap.IsTuple t items) (ne : t ≠ it) (hx : items.size ≤ i) (hQ : ∀ h', Heap.ExtBut it s.heap h' → Q none { s with heap := h' }) : wpAny (model prog w) A (pyNext (.ref e)) Q E s := by
    have ty : s.TypeIs (.ref e) "enumerate" := ⟨_, he, rfl⟩
    unfold pyNext
    refine wpAny_bind (wpAny_attempt (wpAny_callSpecial?_slot (name := Str.ofString "__next__") ty F.slot_enumerate_next (wpAny_call_entry F.slot_enumerate_next ty F.entry_enumerate_next ?_ (F.args_enumerate_next_1 _))))
    show wpAny _ _ (field (.ref e) 2 >>= _) _ _ _
    refine wpAny_bind (wpAny_field he rfl (x := .ref it) rfl (wpAny_bind (wpAny_nextOf_tuple_end hh hit hT (Array.getElem?_eq_none hx) fun h' x eb ⟨o, ho, hc⟩ => ?_)))
    exact wpAny_bind (wpAny_isInstance (T := "StopIteration") (b := true) ⟨o, ho, hc⟩ isSubtype_stop (wpAny_pure (hQ _ eb)))
def iEnumQ (K : PySem.W.Frag) (ta : TA) : TI := fun σ H R => ta σ H fun vs H1 => ∃ a, vs = [.ref a] ∧ (((∃ xs, SqL K H1 a xs) ∧ R (Ite K a) H1) ∨ ((∃ xs, SqT K H1 a xs) ∧ R (Iten K a) H1))
theorem pi_enumQ {X : Cx} {e : Expr} {ta : TA} {p pos tpos : Pos} {elts : List Expr} {kk : Nat} (hg : Gl X "enumerate") (hm : X.mg "enumerate" = none) (ha : PA X [e] ta) (hs : starEach [e] X.env = [(false, eval e X.env)] := by rfl) :
    PI X (.Tuple elts kk tpos) (.Call (.Name "enumerate" p) [e] [] pos) (iEnumQ X.K ta) := by
  refine ⟨fun pins s σ H R I h => ?_⟩
  refine Call_ (ld_blt I hg hm boot_enumerate (PyProof.Rows.callWith_type1 (thn (ha.run pos pins s σ H _ I h) fun us s1 ⟨vs, H1, I1, r1, q1⟩ => ?_) hs rfl))
  obtain ⟨a, rfl, q1⟩ := q1
  have fp : ∀ b ∈ [s1.heap.objs.size + 1, s1.heap.objs.size], s1.heap.objs.size ≤ b := fun b hb => by
    have e' : b = s1.heap.objs.size + 1 ∨ b = s1.heap.objs.size := by simpa using hb
    rcases e' with z | z <;> rw [z]
    · exact Nat.le_succ _
    · exact Nat.le_refl _
  cases r1 with
  | cons r rr =>
    cases rr
    cases r
    rcases q1 with ⟨⟨xs, hq⟩, q⟩ | ⟨⟨xs, hq⟩, q⟩
    · obtain ⟨its, rv, p', _⟩ := I1.list hq
      refine call_enumerate_list p'.isList fun h' he hit _ hk => wpAny_pyIter_enum he ?_
      exact ⟨s1.heap.objs.size + 1, [s1.heap.objs.size + 1, s1.heap.objs.size], _, _, H1, rfl, I1.kept (t' := s1.toks) hk, turn_enum a (s1.heap.objs.size + 1) s1.heap.objs.size, ⟨⟨.none, he⟩, hit, Nat.succ_ne_self _⟩, fun b hb => I1.fpOk (fp b hb) (I1.hok.fresh (fp b hb)), q⟩
    · obtain ⟨its, rv, p', _⟩ := I1.tuple hq
      refine RT.call_enum_tup (show s1.heap.IsTuple a its.toArray from p') fun h' he hit hk => wpAny_pyIter_enum he ?_
      exact ⟨s1.heap.objs.size + 1, [s1.heap.objs.size + 1, s1.heap.objs.size], _, _, H1, rfl, I1.kept (t' := s1.toks) hk, turn_enumT a (s1.heap.objs.size + 1) s1.heap.objs.size, ⟨⟨.none, he⟩, hit, Nat.succ_ne_self _⟩, fun b hb => I1.fpOk (fp b hb) (I1.hok.fresh (fp b hb)), q⟩
theorem walk_enumT {K : PySem.W.Frag} {a : Addr} {xs : List V} : Walk (Iten K a) xs.length (fun H => SqT K H a xs) (YPair (fun i => some (.int (i : Nat))) (fun i => xs[i]?)) := by
  refine ⟨fun i _ hi q => ⟨xs, xs[i], q, by simp [hi]⟩, fun _ q => ⟨xs, q, Nat.le_refl _⟩, fun i H v H' _ q y => ?_⟩
  obtain ⟨T, x, h1, h2, h3, h4⟩ := y
  exact ⟨T, .int (i : Nat), x, h1, h2, h3, rfl, h4 xs q⟩
end L2
namespace L2
open PySem PySem.Spec PyProof.Rows
/-- a method of a list and such, within a comprehension: the reading is told without the block's own context -/
theorem pe_bmK {X : Cx} {K : PySem.W.Frag} {o e : Expr} {es : List Expr} {to : TE} {t : TA} {name : Str} {apos cpos : Pos} {T id : String} {r : V → List V → Hp → VK → Prop} (pa : PlainAttrs T) (slot : Slot T name id) (hty : typeOf (.builtin id) = pure (.type "method_descriptor"))
    (hm : MtR X id r) (ho : PE X o to) (ha : PA X (e :: es) t) (hK : X.K = K := by rfl) (hbase : attributeBase o name X.env (eval o X.env) = eval o X.env := by rfl)
    (hfew : ((backTo cpos (starEach (e :: es) X.env)).all (fun x => !x.1) && (backToKw cpos (keywordEach [] X.env)).all (fun x => x.1.isSome)
      && decide ((e :: es).length + ([] : List Keyword).length + (if ([] : List Keyword).isEmpty then 0 else 1) < 30)) = true := by rfl)
    (hline : (apos.endLine == cpos.line) = true := by rfl) (hs : starEach (e :: es) X.env = (false, eval e X.env) :: starEach es X.env := by rfl) (hplain : (backTo cpos (starEach es X.env)).any (·.1) = false := by rfl) :
    PE X (.Call (.Attribute o name apos) (e :: es) [] cpos) (tBM K T r to t) := by
  subst hK
  exact pe_bm pa slot hty hm ho ha hbase hfew hline hs hplain
end L2
namespace L2
open PySem PySem.Spec PyProof.Rows
theorem for_enumQ {K : PySem.W.Frag} {a : Addr} {xs : List V} {g : TG} {tb : TS} {D : Ends} {σ : St} {H0 H : Hp} (hq : SqL K H0 a xs ∨ SqT K H0 a xs) (Pv : Nat → St → Hp → Prop) (h0 : Pv 0 σ H) (hl : ∀ i σ' H', i ≤ xs.length → Pv i σ' H' → ∀ ys, (SqL K H0 a ys → SqL K H' a ys) ∧ (SqT K H0 a ys → SqT K H' a ys))
    (hs : ∀ i x t σ H, xs[i]? = some x → Pv i σ H → H t = none → g (.ref t) σ (upd H t (.tup [.int (i : Nat), x])) fun σ2 H2 => tb { D with nx := Pv (i + 1), ct := Pv (i + 1), bk := D.nx } σ2 H2) (hd : ∀ σ H, Pv xs.length σ H → D.nx σ H) :
    ∃ a', [V.ref a] = [V.ref a'] ∧ (((∃ xs, SqL K H a' xs) ∧ ∃ W : Nat → Nat → St → Hp → Prop, (∃ m, W 0 m σ H) ∧ ∀ i m σ H, W i m σ H →
      ((Ite K a').stop i H ∧ D.nx σ H) ∨ ((Ite K a').go i H ∧ ∃ N : St → Hp → Prop, (∀ σ' H', N σ' H' → ∃ m', m' < m ∧ W (i + 1) m' σ' H') ∧ ∀ x H', (Ite K a').yld i H x H' → g x σ H' fun σ2 H2 => tb { D with nx := N, ct := N, bk := D.nx } σ2 H2)) ∨
      ((∃ xs, SqT K H a' xs) ∧ ∃ W : Nat → Nat → St → Hp → Prop, (∃ m, W 0 m σ H) ∧ ∀ i m σ H, W i m σ H →
      ((Iten K a').stop i H ∧ D.nx σ H) ∨ ((Iten K a').go i H ∧ ∃ N : St → Hp → Prop, (∀ σ' H', N σ' H' → ∃ m', m' < m ∧ W (i + 1) m' σ' H') ∧ ∀ x H', (Iten K a').yld i H x H' → g x σ H' fun σ2 H2 => tb { D with nx := N, ct := N, bk := D.nx } σ2 H2))) := by
  have turn : ∀ i x σ H H', i < xs.length → Pv i σ H → YPair (fun i => some (.int (i : Nat))) (fun i => xs[i]?) i H x H' → g x σ H' fun σ2 H2 => tb { D with nx := Pv (i + 1), ct := Pv (i + 1), bk := D.nx } σ2 H2 := by
    rintro i x σ H H' hi p ⟨t, u, v, rfl, nt, rfl, hu, hv⟩
    cases hu
    exact hs i v t σ H hv p nt
  rcases hq with hq | hq
  · exact ⟨a, rfl, .inl ⟨⟨_, (hl 0 σ H (Nat.zero_le _) h0 xs).1 hq⟩, for_it (walk_enum (K := K) (a := a) (xs := xs)) Pv h0 (fun i σ H hi p => (hl i σ H hi p xs).1 hq) turn hd⟩⟩
  · exact ⟨a, rfl, .inr ⟨⟨_, (hl 0 σ H (Nat.zero_le _) h0 xs).2 hq⟩, for_it (walk_enumT (K := K) (a := a) (xs := xs)) Pv h0 (fun i σ H hi p => (hl i σ H hi p xs).2 hq) turn hd⟩⟩
end L2

/-! General lemmas for the readings of law defs: pairs, rows, ifs that join again, data. -/
namespace KP
open PySem PySem.Spec PyProof.Rows L2 KH KD
theorem u65 {k : Nat} {A : Around} (h : Room k A) : A.units + 65 < cLine := by
  have := h.un
  omega
abbrev IL (L : List Int) : List V := L.map V.int
theorem Sq.of {K : PySem.W.Frag} {H : Hp} {a : Addr} {xs : List V} (h : H a = some (.lst xs)) : Sq K H a xs := .inl (SqL.of h)
theorem IL_snoc (l : List Int) (x : Int) : IL (l ++ [x]) = IL l ++ [V.int x] := by
  unfold IL
  rw [List.map_append]
  rfl
theorem map_take_succ {α β : Type} (f : α → β) {l : List α} {i : Nat} {x : α} (h : l[i]? = some x) : (l.take (i + 1)).map f = (l.take i).map f ++ [f x] := by
  rw [take_more h, List.map_append]
  rfl
theorem ixq {K : PySem.W.Frag} {H : Hp} {a : Addr} {xs : List V} {i : Int} {v : V} {Q : VK} (h : Sq K H a xs) (e : atI xs i = some v) (q : Q v H) : rIx K (.ref a) (.int i) H Q := by
  rcases h with h | h
  · exact .inl ⟨a, xs, i, v, rfl, rfl, h, e, q⟩
  · exact .inr (.inl ⟨a, xs, i, v, rfl, rfl, h, e, q⟩)
theorem ixl {K : PySem.W.Frag} {H : Hp} {a : Addr} {xs : List V} {i : Int} {v : V} {Q : VK} (h : SqL K H a xs) (e : atI xs i = some v) (q : Q v H) : rIxL K (.ref a) (.int i) H Q := ⟨a, xs, i, v, rfl, rfl, h, e, q⟩
theorem lc_seq {K : PySem.W.Frag} {a : Addr} {xs : List V} {g : TG} {tt : TT} {te : TE} {vs : List Nat} {σ : L2.St} {H0 H : Hp} {Qd : Addr → Hp → Prop} (hq : Sq K H0 a xs) (s0 : Same H0 H) (Pv : Addr → Nat → Hp → Prop) (h0 : ∀ D, H D = none → Pv D 0 (upd H D (.lst []))) (hl : ∀ D i H', H D = none → i ≤ xs.length → Pv D i H' → Same H0 H')
    (hs : ∀ D i x H', H D = none → xs[i]? = some x → Pv D i H' → g x (wipe σ vs) H' fun σ2 H2 => wipe σ2 vs = wipe σ vs ∧ tt σ2 H2 fun b H3 => if b = true then te σ2 H3 fun y H4 => ∃ acc, H4 D = some (.lst acc) ∧ acc.length < sizeLine ∧ Pv D (i + 1) (upd H4 D (.lst (acc ++ [y]))) else Pv D (i + 1) H3)
    (hd : ∀ D H', H D = none → Pv D xs.length H' → Qd D H') :
    ∃ a', V.ref a = V.ref a' ∧ (((∃ xs, SqL K H a' xs) ∧ ∀ D, H D = none → ∃ W : Nat → Nat → Hp → Prop, (∃ m, W 0 m (upd H D (.lst []))) ∧ ∀ i m H, W i m H →
      ((Itl K a').stop i H ∧ Qd D H) ∨ ((Itl K a').go i H ∧ ∃ Nx : Hp → Prop, (∀ H', Nx H' → ∃ m', m' < m ∧ W (i + 1) m' H') ∧ ∀ x H', (Itl K a').yld i H x H' → g x (wipe σ vs) H' fun σ2 H2 => wipe σ2 vs = wipe σ vs ∧ tt σ2 H2 fun b H3 =>
        if b = true then te σ2 H3 fun y H4 => ∃ acc, H4 D = some (.lst acc) ∧ acc.length < sizeLine ∧ Nx (upd H4 D (.lst (acc ++ [y]))) else Nx H3)) ∨
      ((∃ xs, SqT K H a' xs) ∧ ∀ D, H D = none → ∃ W : Nat → Nat → Hp → Prop, (∃ m, W 0 m (upd H D (.lst []))) ∧ ∀ i m H, W i m H →
      ((Itt K a').stop i H ∧ Qd D H) ∨ ((Itt K a').go i H ∧ ∃ Nx : Hp → Prop, (∀ H', Nx H' → ∃ m', m' < m ∧ W (i + 1) m' H') ∧ ∀ x H', (Itt K a').yld i H x H' → g x (wipe σ vs) H' fun σ2 H2 => wipe σ2 vs = wipe σ vs ∧ tt σ2 H2 fun b H3 =>
        if b = true then te σ2 H3 fun y H4 => ∃ acc, H4 D = some (.lst acc) ∧ acc.length < sizeLine ∧ Nx (upd H4 D (.lst (acc ++ [y]))) else Nx H3))) := by
  rcases hq with hq | hq
  · exact ⟨a, rfl, .inl ⟨⟨_, s0.seq hq⟩, fun D nD => lc_list (K := K) (a := a) (xs := xs) (Pv D) (h0 D nD) (fun i H' hi p => (hl D i H' nD hi p).seq hq) (fun i x H' hx p => hs D i x H' nD hx p) (fun H' p => hd D H' nD p)⟩⟩
  · exact ⟨a, rfl, .inr ⟨⟨_, s0.seqT hq⟩, fun D nD => lc_tup (K := K) (a := a) (xs := xs) (Pv D) (h0 D nD) (fun i H' hi p => (hl D i H' nD hi p).seqT hq) (fun i x H' hx p => hs D i x H' nD hx p) (fun H' p => hd D H' nD p)⟩⟩
theorem cut_ints (ns : List Int) (lo hi : Option Int) : ∃ ms : List Int, cutV (ns.map V.int) lo hi = ms.map V.int := by
  unfold cutV
  rw [← List.map_drop, ← List.map_take]
  exact ⟨_, rfl⟩
theorem fmod_nat (x : Int) {z : Nat} (hz : 0 < z) : ∃ d : Nat, x.fmod (z : Int) = (d : Int) ∧ d < z := by
  have h1 : 0 ≤ x.fmod (z : Int) := Int.fmod_nonneg_of_pos x (by omega)
  have h2 : x.fmod (z : Int) < z := Int.fmod_lt_of_pos x (by omega)
  exact ⟨(x.fmod (z : Int)).toNat, by omega, by omega⟩
/-- below the sizes -/
def Drawn (ds zs : List Nat) : Prop := Paired (fun d z => d < z) ds zs
theorem drawn_snoc {ds zs : List Nat} {i d z : Nat} (h : Drawn ds (zs.take i)) (hz : zs[i]? = some z) (hd : d < z) : Drawn (ds ++ [d]) (zs.take (i + 1)) := by
  rw [take_more hz]
  exact P_append h (.cons hd .nil)
abbrev P2 := Int × Int
def PI (K : PySem.W.Frag) (H : Hp) (vs : List V) (qs : List P2) : Prop := Paired (fun v q => ∃ t, v = V.ref t ∧ SqT K H t [.int q.1, .int q.2]) vs qs
theorem PI.same {K : PySem.W.Frag} {H H' : Hp} {vs : List V} {qs : List P2} (h : PI K H vs qs) (s : Same H H') : PI K H' vs qs := P_mono (fun _ _ ⟨t, e, q⟩ => ⟨t, e, s.seqT q⟩) h
def upP (ps : K02.PL) : List P2 := ps.map fun q => ((q.1 : Int), (q.2 : Int))
theorem upP_get {ps : K02.PL} {k : Nat} {q : P2} (h : (upP ps)[k]? = some q) : ∃ a b, ps[k]? = some (a, b) ∧ q = ((a : Int), (b : Int)) := by
  unfold upP at h
  obtain ⟨⟨a, b⟩, h1, h2⟩ := getn_inv h
  exact ⟨a, b, h1, h2⟩
theorem upP_len (ps : K02.PL) : (upP ps).length = ps.length := by unfold upP; rw [List.length_map]
theorem PI.len {K : PySem.W.Frag} {H : Hp} {vs : List V} {qs : List P2} (h : PI K H vs qs) : vs.length = qs.length := P_len h
def castL (l : List Nat) : List Int := l.map fun n : Nat => (n : Int)
theorem castL_V (l : List Nat) : (castL l).map V.int = l.map nV := by
  unfold castL
  rw [List.map_map]
  rfl
/-- all but two things stand -/
def StN0 (H H' : Hp) (a b : Addr) : Prop := ∀ c o, H c = some o → c ≠ a → c ≠ b → H' c = some o
theorem StN0.refl (H : Hp) (a b : Addr) : StN0 H H a b := fun _ _ e _ _ => e
theorem StN0.to {H H1 H2 : Hp} {a b : Addr} (h : StN0 H H1 a b) (s : Same H1 H2) : StN0 H H2 a b := fun c o e x y => s c o (h c o e x y)
theorem StN0.upA {H H' : Hp} {a b : Addr} {o : HO} (h : StN0 H H' a b) : StN0 H (upd H' a o) a b := fun c x e n m => by rw [upd_ne n]; exact h c x e n m
theorem StN0.upB {H H' : Hp} {a b : Addr} {o : HO} (h : StN0 H H' a b) : StN0 H (upd H' b o) a b := fun c x e n m => by rw [upd_ne m]; exact h c x e n m
theorem in_n (k : Nat) : ∀ gs : List Nat, inV (nV k) (gs.map nV) = gs.contains k
  | [] => rfl
  | x :: gs => by
    have ih := in_n k gs
    unfold inV at ih ⊢
    rw [List.map_cons, List.any_cons, ih, List.contains_cons]
    congr 1
    show ((x : Int) == (k : Int)) = (k == x)
    rw [Bool.eq_iff_iff]
    simp only [beq_iff_eq]
    omega
theorem flat_n (gs : List Nat) : (gs.map nV).all flatV = true := List.all_eq_true.mpr fun x hx => by
  obtain ⟨_, _, rfl⟩ := List.mem_map.mp hx
  rfl
/-- an if whose ways join again, the slots as they were -/
theorem ifLs {t : TT} {body rest : TS} {D : Ends} {σ : L2.St} {H : Hp} (Pst : Hp → Prop) (h : ∀ Qb : Bool → Hp → Prop, (∀ H', Pst H' → Qb false H') → (∀ H', (∀ D' : Ends, (∀ H'', Pst H'' → D'.nx σ H'') → body D' σ H') → Qb true H') → t σ H Qb) (q : ∀ H', Pst H' → rest D σ H') : tSeq (tIfS t body tNext) rest D σ H := by
  refine h _ (fun H' p => ?_) (fun H' hb => ?_)
  · rw [if_neg Bool.false_ne_true]
    exact q H' p
  · rw [if_pos rfl]
    exact hb _ q
theorem ifLs1 {t : TT} {body : TS} {D : Ends} {σ : L2.St} {H : Hp} (Pst : Hp → Prop) (h : ∀ Qb : Bool → Hp → Prop, (∀ H', Pst H' → Qb false H') → (∀ H', (∀ D' : Ends, (∀ H'', Pst H'' → D'.nx σ H'') → body D' σ H') → Qb true H') → t σ H Qb) (q : ∀ H', Pst H' → D.nx σ H') : tIfS t body tNext D σ H := by
  refine h _ (fun H' p => ?_) (fun H' hb => ?_)
  · rw [if_neg Bool.false_ne_true]
    exact q H' p
  · rw [if_pos rfl]
    exact hb _ q
theorem listLt_ints : ∀ a b : List Nat, PySem.W.listLt (castL a) (castL b) = K02.lexLt a b
  | [], [] => rfl
  | [], _ :: _ => rfl
  | _ :: _, [] => rfl
  | x :: xs, y :: ys => by
    show (if (x : Int) = (y : Int) then PySem.W.listLt (castL xs) (castL ys) else decide ((x : Int) < (y : Int))) = if x = y then K02.lexLt xs ys else decide (x < y)
    by_cases e : x = y
    · rw [if_pos e, if_pos (by rw [e]), listLt_ints xs ys]
    · rw [if_neg e, if_neg (by omega)]
      exact decide_eq_decide.mpr (by omega)
theorem ints_inj {a b : List Nat} (h : castL a = castL b) : a = b := by
  have h1 : PySem.W.listLt (castL a) (castL b) = false := by rw [h, listLt_ints]; exact K02.lex_irr b
  have h2 : PySem.W.listLt (castL b) (castL a) = false := by rw [h, listLt_ints]; exact K02.lex_irr b
  rw [listLt_ints] at h1 h2
  exact K02.lex_anti h1 h2
theorem min_ints (x : List Nat) : ∀ xs : List (List Nat), ∃ y, PySem.W.minOf (castL x) (xs.map castL) = castL y ∧ y ∈ x :: xs ∧ ∀ z ∈ x :: xs, K02.lexLt z y = false
  | [] => ⟨x, rfl, List.mem_singleton.mpr rfl, fun z hz => by rw [List.mem_singleton.mp hz]; exact K02.lex_irr x⟩
  | u :: us => by
    show ∃ y, PySem.W.minOf (if PySem.W.listLt (castL u) (castL x) = true then castL u else castL x) (us.map castL) = castL y ∧ _
    rw [listLt_ints]
    cases h : K02.lexLt u x with
    | true =>
      rw [if_pos rfl]
      obtain ⟨y, h1, h2, h3⟩ := min_ints u us
      refine ⟨y, h1, List.mem_cons_of_mem _ h2, fun z hz => ?_⟩
      rcases List.mem_cons.mp hz with e | e
      · rw [e]
        exact K02.lex_le_trans (h3 u List.mem_cons_self) (K02.lex_asym h)
      · exact h3 z e
    | false =>
      rw [if_neg Bool.false_ne_true]
      obtain ⟨y, h1, h2, h3⟩ := min_ints x us
      refine ⟨y, h1, ?_, fun z hz => ?_⟩
      · rcases List.mem_cons.mp h2 with e | e
        · rw [e]
          exact List.mem_cons_self
        · exact List.mem_cons_of_mem _ (List.mem_cons_of_mem _ e)
      · rcases List.mem_cons.mp hz with e | e
        · rw [e]
          exact h3 x List.mem_cons_self
        · rcases List.mem_cons.mp e with e | e
          · rw [e]
            exact K02.lex_le_trans (h3 x List.mem_cons_self) h
          · exact h3 z (List.mem_cons_of_mem _ e)
theorem dpAll_nV {K : PySem.W.Frag} {H : Hp} : ∀ l : List Nat, DpAll K H (l.map nV) ((castL l).map PySem.W.Datum.toD)
  | [] => .nil
  | x :: r => .cons (.int (x : Int)) (dpAll_nV r)
theorem dp_list {K : PySem.W.Frag} {H : Hp} {p : Addr} {l : List Nat} (h : SqL K H p (l.map nV)) : Dp K H (.ref p) (PySem.W.Datum.toD (castL l)) := .lst h (dpAll_nV l)
theorem getD_at {v : List Nat} {i : Nat} (h : i < v.length) : v[i]? = some (v.getD i 0) := by
  rw [List.getD_eq_getElem?_getD, List.getElem?_eq_getElem h]
  rfl
theorem vint_eq {a b : Int} : (V.int a = V.int b) ↔ a = b := ⟨V.int.inj, fun h => by rw [h]⟩
theorem eqN {α : Type} {a b : Nat} (h : a = b) : decide (nV a = nV b) = true := decide_eq_true (by rw [h])
theorem neN {α : Type} {a b : Nat} (h : a ≠ b) : decide (nV a = nV b) = false := decide_eq_false fun z => h (by have := V.int.inj z; omega)
theorem PI.snoc {K : PySem.W.Frag} {H : Hp} {vs : List V} {ps : List P2} {t : Addr} {a b : Int} (h : PI K H vs ps) (ht : SqT K H t [.int a, .int b]) : PI K H (vs ++ [V.ref t]) (ps ++ [(a, b)]) := P_append h (.cons ⟨t, rfl, ht⟩ .nil)
theorem PI.mutL {K : PySem.W.Frag} {H : Hp} {o : Addr} {vs us : List V} {ps : List P2} {x : HO} (h : PI K H vs ps) (e : H o = some (.lst us)) : PI K (upd H o x) vs ps := P_mono (fun _ _ ⟨t, et, q⟩ => ⟨t, et, sqT_mutL q e⟩) h
theorem upP_snoc (ps : K02.PL) (a b : Nat) : upP (ps ++ [(a, b)]) = upP ps ++ [((a : Int), (b : Int))] := by unfold upP; rw [List.map_append]; rfl
theorem rgV_nat (n : Nat) : rgV 0 (n : Int) = (List.range n).map nV := by
  unfold rgV
  rw [show ((n : Int) - 0).toNat = n by omega]
  refine List.map_congr_left fun i _ => ?_
  show V.int (0 + (i : Int)) = V.int (i : Int)
  rw [Int.zero_add]
theorem erase_map {α β : Type} (f : α → β) : ∀ (l : List α) (i : Nat), (l.map f).eraseIdx i = (l.eraseIdx i).map f
  | [], _ => rfl
  | _ :: _, 0 => rfl
  | x :: l, i + 1 => by
    show f x :: (l.map f).eraseIdx i = f x :: (l.eraseIdx i).map f
    rw [erase_map f l i]
theorem seq_nat {i n : Nat} (h : i < n) : PySem.seqIndex? (i : Int) n = some i := by
  unfold PySem.seqIndex?
  rw [if_neg (show ¬ ((i : Int) < 0) by omega)]
  dsimp only
  rw [if_pos (by simp; omega)]
  rfl
def dP (q : P2) : PyData := .tuple [.int q.1, .int q.2]
theorem eqv_dP (a b : P2) : PyData.eqv (dP a) (dP b) = decide (a = b) := by
  have h : PyData.eqv (dP a) (dP b) = ((a.1 == b.1) && ((a.2 == b.2) && true)) := by
    unfold dP
    simp [PyData.eqv, PyData.eqvAll]
  rw [h, Bool.eq_iff_iff]
  simp only [Bool.and_true, Bool.and_eq_true, beq_iff_eq, decide_eq_true_eq]
  obtain ⟨a1, a2⟩ := a
  obtain ⟨b1, b2⟩ := b
  simp only [Prod.mk.injEq]
theorem any_dP (q : P2) : ∀ l : List P2, ((l.map dP).any fun z => PyData.eqv z (dP q)) = decide (q ∈ l)
  | [] => rfl
  | x :: l => by
    rw [List.map_cons, List.any_cons, any_dP q l, eqv_dP, Bool.eq_iff_iff]
    simp only [Bool.or_eq_true, decide_eq_true_eq, List.mem_cons]
    constructor
    · rintro (h | h)
      · exact .inl h.symm
      · exact .inr h
    · rintro (h | h)
      · exact .inl h.symm
      · exact .inr h
theorem shaped_dP (q : P2) : SeqAt.shaped (dP q) = true := by
  unfold SeqAt.shaped dP
  simp [PyData.canLay0, PyData.canLayAll0, PyData.depth, PyData.depthAll]
theorem dP_depth : ∀ l : List P2, PyData.depthAll (l.map dP) ≤ 1
  | [] => by simp [PyData.depthAll]
  | x :: l => by
    have ih := dP_depth l
    rw [List.map_cons]
    simp only [PyData.depthAll, dP, PyData.depth]
    exact Nat.max_le.mpr ⟨by simp [PyData.depthAll, PyData.depth], ih⟩
theorem dP_lay : ∀ l : List P2, PyData.canLayAll0 (l.map dP) = true
  | [] => by simp [PyData.canLayAll0]
  | x :: l => by
    have ih := dP_lay l
    rw [List.map_cons]
    simp only [PyData.canLayAll0, PyData.canLay0, dP, ih, Bool.and_self]
theorem shaped_l (l : List P2) : SeqAt.shaped (.list (l.map dP)) = true := by
  unfold SeqAt.shaped
  simp only [PyData.canLay0, dP_lay, Bool.true_and, PyData.depth, decide_eq_true_eq]
  have := dP_depth l
  exact decide_eq_true (by omega)
theorem PI.dp {K : PySem.W.Frag} {H : Hp} : ∀ {vs : List V} {l : List P2}, PI K H vs l → DpAll K H vs (l.map dP)
  | _, _, .nil => .nil
  | _, _, .cons ⟨t, e, q⟩ r => by
    subst e
    exact .cons (.tup q (.cons (.int _) (.cons (.int _) .nil))) (PI.dp r)
theorem mem_upP {ps : K02.PL} {a b : Nat} : (((a : Int), (b : Int)) : P2) ∈ upP ps ↔ (a, b) ∈ ps := by
  unfold upP
  rw [List.mem_map]
  constructor
  · rintro ⟨⟨x, y⟩, h, e⟩
    have e1 := congrArg Prod.fst e
    have e2 := congrArg Prod.snd e
    dsimp only at e1 e2
    have : x = a := by omega
    have : y = b := by omega
    subst x y
    exact h
  · exact fun h => ⟨(a, b), h, rfl⟩
theorem shapedI (z : Int) : SeqAt.shaped (.int z) = true := by
  unfold SeqAt.shaped
  simp [PyData.canLay0, PyData.depth]
theorem eqvI (z : Int) : PyData.eqv (.int z) (.int z) = true := by simp [PyData.eqv]
def dPs (ts : List P2) : PyData := .list (ts.map dP)
def Mid (z : Int) : Prop := z.natAbs ≤ 10 ^ 16
def MidP (ts : List P2) : Prop := ∀ q ∈ ts, Mid q.1 ∧ Mid q.2
theorem mid_log {z : Int} (h : Mid z) : z.natAbs.log2 < 60 := by
  by_cases e : z.natAbs = 0
  · rw [e]
    decide
  · exact (Nat.log2_lt e).2 (Nat.lt_of_le_of_lt h (by decide))
theorem mid_text {z : Int} (h : Mid z) : (PyData.shown (.int z)).length ≤ 20 := by
  have e := PySem.int_text_length_le10 (a := z) (k := 18) (by decide) (Nat.lt_of_le_of_lt h (by decide))
  show (Str.ofString (toString z)).length ≤ 20
  rw [PySem.ofString_length]
  omega
theorem mid2 (q : P2) (h : Mid q.1 ∧ Mid q.2) : ∀ z ∈ [q.1, q.2], Mid z := fun z hz => by
  simp only [List.mem_cons, List.not_mem_nil, or_false] at hz
  rcases hz with rfl | rfl
  · exact h.1
  · exact h.2
theorem mids_show {l : List Int} (h : ∀ z ∈ l, Mid z) : PyData.showableAll (l.map PyData.int) = true := PyData.showableAll_ints l fun z hz => Nat.lt_trans (mid_log (h z hz)) (by decide)
theorem ps_show : ∀ {ts : List P2}, MidP ts → PyData.showableAll (ts.map dP) = true
  | [], _ => by simp only [List.map_nil, PyData.showableAll]
  | q :: ts, h => by
    simp only [List.map_cons, PyData.showableAll, Bool.and_eq_true]
    refine ⟨?_, ps_show fun y hy => h y (List.mem_cons_of_mem _ hy)⟩
    have := mids_show (mid2 q (h q List.mem_cons_self))
    simp only [dP, PyData.showable]
    exact this
theorem ps_nodict : ∀ ts : List P2, PyData.hasDictAll (ts.map dP) = false
  | [] => by simp only [List.map_nil, PyData.hasDictAll]
  | q :: ts => by
    simp only [List.map_cons, PyData.hasDictAll, dP, PyData.hasDict, Bool.false_or, Bool.or_self]
    exact ps_nodict ts
theorem ps_leaves : ∀ {ts : List P2}, MidP ts → PyData.leavesShortAll 20 (ts.map dP) = true
  | [], _ => by simp only [List.map_nil, PyData.leavesShortAll]
  | q :: ts, h => by
    obtain ⟨h1, h2⟩ := h q List.mem_cons_self
    simp only [List.map_cons, PyData.leavesShortAll, dP, PyData.leavesShort, Bool.and_eq_true, decide_eq_true_eq]
    exact ⟨⟨mid_text h1, mid_text h2, trivial⟩, ps_leaves fun y hy => h y (List.mem_cons_of_mem _ hy)⟩
theorem mid_weight {z : Int} (h : Mid z) : PyData.weight (.int z) ≤ 60 := by
  have := mid_log h
  simp only [PyData.weight]
  split <;> omega
theorem ps_weight : ∀ {ts : List P2}, MidP ts → PyData.weightAll (ts.map dP) ≤ 200 * ts.length
  | [], _ => by simp only [List.map_nil, PyData.weightAll]; exact Nat.zero_le _
  | q :: ts, h => by
    obtain ⟨h1, h2⟩ := h q List.mem_cons_self
    have ih := ps_weight (ts := ts) fun y hy => h y (List.mem_cons_of_mem _ hy)
    have w1 := mid_weight h1
    have w2 := mid_weight h2
    have w : PyData.weight (dP q) ≤ 183 := by
      unfold dP
      rw [show PyData.weight (.tuple [.int q.1, .int q.2]) = PyData.weightAll [.int q.1, .int q.2] by simp only [PyData.weight]]
      rw [show PyData.weightAll [.int q.1, .int q.2] = PyData.weight (.int q.1) + 1 + (PyData.weight (.int q.2) + 1 + 0) by simp only [PyData.weightAll]]
      omega
    simp only [List.map_cons, PyData.weightAll, List.length_cons]
    omega
theorem dPs_shows {ts : List P2} (h : MidP ts) (hl : ts.length ≤ 1000) : Shows (dPs ts) where
  sh := by simp only [dPs, PyData.showable]; exact ps_show h
  nd := by simp only [dPs, PyData.hasDict]; exact ps_nodict ts
  dp := by
    have := dP_depth ts
    simp only [dPs, PyData.depth]
    omega
  sz := by
    have a := PyData.shown_le 20 (by decide) (dPs ts) (by simp only [dPs, PyData.leavesShort]; exact ps_leaves h)
    have b := ps_weight h
    have c : PyData.weight (dPs ts) ≤ 200 * ts.length := by simp only [dPs, PyData.weight]; exact b
    have d : (20 + 2) * PyData.weight (dPs ts) ≤ 22 * (200 * 1000) := Nat.mul_le_mul (by decide) (by omega)
    rw [sizeLine_eq]
    omega
theorem dpPs {K : PySem.W.Frag} {H : Hp} {a : Addr} {us : List V} {ts : List P2} (h : SqL K H a us) (p : PI K H us ts) : Dp K H (.ref a) (dPs ts) := .lst h p.dp
theorem upP_inj : ∀ {ps qs : K02.PL}, upP ps = upP qs → ps = qs
  | [], [], _ => rfl
  | [], _ :: _, h => by cases h
  | _ :: _, [], h => by cases h
  | (a, b) :: ps, (c, d) :: qs, h => by
    have h1 : (((a : Int), (b : Int)) : P2) = ((c : Int), (d : Int)) := (List.cons.inj h).1
    have h2 : upP ps = upP qs := (List.cons.inj h).2
    rw [upP_inj h2]
    have e1 := congrArg Prod.fst h1
    have e2 := congrArg Prod.snd h1
    dsimp only at e1 e2
    have : a = c := by omega
    have : b = d := by omega
    subst a b
    rfl
theorem upP_rev (ps : K02.PL) : (upP ps).reverse = upP ps.reverse := by unfold upP; rw [List.map_reverse]
theorem upP_app (ps qs : K02.PL) : upP ps ++ upP qs = upP (ps ++ qs) := by unfold upP; rw [List.map_append]
theorem PI.rev {K : PySem.W.Frag} {H : Hp} : ∀ {vs : List V} {qs : List P2}, PI K H vs qs → PI K H vs.reverse qs.reverse
  | _, _, .nil => .nil
  | _, _, .cons f r => by
    rw [List.reverse_cons, List.reverse_cons]
    exact P_append (PI.rev r) (.cons f .nil)
theorem set_self {σ : L2.St} {j : Nat} {x : V} (h : σ[j]? = some (some x)) : σ.set j (some x) = σ := by
  apply List.ext_getElem?
  intro k
  rw [List.getElem?_set]
  by_cases ek : j = k
  · subst ek
    rw [if_pos rfl, if_pos (List.getElem?_eq_some_iff.mp h).1, h]
  · rw [if_neg ek]
theorem asgN {te : TE} {i : Nat} {rest : TS} {D : Ends} {σ : L2.St} {H : Hp} (q : te σ H (fun x H1 => ∀ σ' : L2.St, σ.set i (some x) = σ' → rest D σ' H1)) : tSeq (tAsg te (gName i)) rest D σ H := by
  have e : (fun (x : V) (H1 : Hp) => ∀ σ' : L2.St, σ.set i (some x) = σ' → rest D σ' H1) = (fun x H1 => rest D (σ.set i (some x)) H1) := by
    funext x H1
    exact propext ⟨fun h => h _ rfl, fun h σ' e => by rw [← e]; exact h⟩
  rw [e] at q
  exact q
theorem nextS {u : TS} {D : Ends} {σ : L2.St} {H : Hp} (q : u D σ H) : tNext { D with nx := u D } σ H := q
theorem ifsetP {t : TT} {e1 : TE} {i1 : Nat} {rest : TS} {D : Ends} {σ : L2.St} {H : Hp} {w1 : V} {C : Prop} (Pst : V → Hp → Prop) (ht : ∀ Q : Bool → Hp → Prop, (∀ b, (b = true ↔ C) → Q b H) → t σ H Q) (h1 : σ[i1]? = some (some w1)) (h0 : ¬ C → Pst w1 H)
    (ev1 : C → ∀ Q : VK, (∀ v H', Pst v H' → Q v H') → e1 σ H Q) (q : ∀ u1 H', Pst u1 H' → rest D (σ.set i1 (some u1)) H') : tSeq (tIfS t (tAsg e1 (gName i1)) tNext) rest D σ H := by
  refine ht _ fun b hb => ?_
  cases b with
  | true =>
    rw [if_pos rfl]
    exact ev1 (hb.mp rfl) _ (fun v H' p => q v H' p)
  | false =>
    rw [if_neg Bool.false_ne_true]
    have := q w1 H (h0 fun z => Bool.noConfusion (hb.mpr z))
    rw [set_self h1] at this
    exact this
theorem P_drop {α β : Type} {F : α → β → Prop} : ∀ {xs : List α} {ys : List β} (k : Nat), Paired F xs ys → Paired F (xs.drop k) (ys.drop k)
  | _, _, 0, h => h
  | _, _, k + 1, .nil => .nil
  | _, _, k + 1, .cons _ r => P_drop k r
theorem testI {n : Nat} {z : Int} {Q : Bool → Hp → Prop} {H : Hp} (h : ∀ b, (b = true ↔ (n : Int) = z) → Q b H) : Q (decide (nV n = V.int z)) H := h _ ⟨fun e => V.int.inj (of_decide_eq_true e), fun e => decide_eq_true (congrArg V.int e)⟩
theorem P_take {α β : Type} {F : α → β → Prop} : ∀ {xs : List α} {ys : List β} (k : Nat), Paired F xs ys → Paired F (xs.take k) (ys.take k)
  | _, _, 0, _ => .nil
  | _, _, _ + 1, .nil => .nil
  | _, _, k + 1, .cons f r => .cons f (P_take k r)
theorem ifsetQ {t : TT} {e1 : TE} {i1 : Nat} {rest : TS} {D : Ends} {σ : L2.St} {H : Hp} {w1 : V} (Pst : V → Hp → Prop) (ht : ∀ Q : Bool → Hp → Prop, (∀ b, Q b H) → t σ H Q) (h1 : σ[i1]? = some (some w1)) (h0 : Pst w1 H)
    (ev1 : ∀ Q : VK, (∀ v H', Pst v H' → Q v H') → e1 σ H Q) (q : ∀ u1 H', Pst u1 H' → rest D (σ.set i1 (some u1)) H') : tSeq (tIfS t (tAsg e1 (gName i1)) tNext) rest D σ H := by
  refine ht _ fun b => ?_
  cases b with
  | true =>
    rw [if_pos rfl]
    exact ev1 _ (fun v H' p => q v H' p)
  | false =>
    rw [if_neg Bool.false_ne_true]
    have := q w1 H h0
    rw [set_self h1] at this
    exact this
theorem P_mid {T T' : List P2} (h : MidP T) (h' : MidP T') : MidP (T ++ T') := fun q hq => (List.mem_append.mp hq).elim (h q) (h' q)
theorem ifbrk {t : TT} {body rest : TS} {D : Ends} {σ : L2.St} {H : Hp} {C : Prop} (ht : ∀ Qb : Bool → Hp → Prop, (∀ b H', Same H H' → (b = true ↔ C) → Qb b H') → t σ H Qb) (hb : C → ∀ H', Same H H' → body { D with nx := rest D } σ H')
    (q : ¬ C → ∀ H', Same H H' → rest D σ H') : tSeq (tIfS t body tNext) rest D σ H := by
  refine ht _ fun b H' s h => ?_
  cases b with
  | true =>
    rw [if_pos rfl]
    exact hb (h.mp rfl) H' s
  | false =>
    rw [if_neg Bool.false_ne_true]
    exact q (fun z => Bool.noConfusion (h.mpr z)) H' s
theorem ifbrk1 {t : TT} {body : TS} {D : Ends} {σ : L2.St} {H : Hp} {C : Prop} (ht : ∀ Qb : Bool → Hp → Prop, (∀ b H', Same H H' → (b = true ↔ C) → Qb b H') → t σ H Qb) (hb : C → ∀ H', Same H H' → body D σ H')
    (q : ¬ C → ∀ H', Same H H' → D.nx σ H') : tIfS t body tNext D σ H := by
  refine ht _ fun b H' s h => ?_
  cases b with
  | true =>
    rw [if_pos rfl]
    exact hb (h.mp rfl) H' s
  | false =>
    rw [if_neg Bool.false_ne_true]
    exact q (fun z => Bool.noConfusion (h.mpr z)) H' s
theorem ifset1 {t : TT} {e1 : TE} {i1 : Nat} {rest : TS} {D : Ends} {σ : L2.St} {H : Hp} {v1 w1 : V} (ht : ∀ Q : Bool → Hp → Prop, (∀ b, Q b H) → t σ H Q) (h1 : σ[i1]? = some (some w1)) (ev1 : ∀ Q : VK, Q v1 H → e1 σ H Q)
    (q : ∀ u1, u1 = v1 ∨ u1 = w1 → rest D (σ.set i1 (some u1)) H) : tSeq (tIfS t (tAsg e1 (gName i1)) tNext) rest D σ H := by
  refine ht _ fun b => ?_
  cases b with
  | true =>
    rw [if_pos rfl]
    exact ev1 _ (q v1 (.inl rfl))
  | false =>
    rw [if_neg Bool.false_ne_true]
    have := q w1 (.inr rfl)
    rw [set_self h1] at this
    exact this
end KP

/-! sorted(xs) of data with a Lean type, any number of them -/
namespace L2
open PySem PySem.Spec PyProof.Rows PySem.W
section
variable {X : Cx}
def rSortedA (α : Type) [DecidableEq α] [DatumOrd α] (K : PySem.W.Frag) : List V → Hp → VK → Prop := fun us H Q => ∃ (a : Addr) (ws : List V) (xs : List α), us = [V.ref a] ∧ SqL K H a ws ∧ DpAll K H ws (xs.map Datum.toD) ∧
  ∀ (ys : List V) (p : Addr), DpAll K H ys ((xs.mergeSort (dataLe false Datum.toD)).map Datum.toD) → (∀ y ∈ ys, y ∈ ws) → H p = none → Q (.ref p) (upd H p (.lst ys))
theorem each_of {α : Type} [DecidableEq α] [DatumOrd α] {K : PySem.W.Frag} {H : Hp} {all : List V} : ∀ {ws : List V} {its : List Value} {xs : List α}, Vals ws its → DpAll K H ws (xs.map Datum.toD) → (∀ y ∈ ws, y ∈ all) →
    EachIs (fun (v : Value) (b : α) => ∃ y : V, RelV y v ∧ Dp K H y (Datum.toD b) ∧ y ∈ all) its xs
  | _, _, [], .nil, .nil, _ => .nil
  | _, _, x :: xs, .cons r rs, .cons d ds, h => .cons ⟨_, r, d, h _ List.mem_cons_self⟩ (each_of rs ds fun y hy => h y (List.mem_cons_of_mem _ hy))
theorem each_back {α : Type} [DecidableEq α] [DatumOrd α] {K : PySem.W.Frag} {H : Hp} {all : List V} {out : List Value} {xs : List α} (h : EachIs (fun (v : Value) (b : α) => ∃ y : V, RelV y v ∧ Dp K H y (Datum.toD b) ∧ y ∈ all) out xs) :
    ∃ ys : List V, Vals ys out ∧ DpAll K H ys (xs.map Datum.toD) ∧ ∀ y ∈ ys, y ∈ all := by
  induction h with
  | nil => exact ⟨[], .nil, .nil, fun y hy => by cases hy⟩
  | cons f _ ih =>
    obtain ⟨y, r, d, m⟩ := f
    obtain ⟨ys, rs, ds, ms⟩ := ih
    refine ⟨y :: ys, .cons r rs, .cons d ds, fun z hz => ?_⟩
    rcases List.mem_cons.mp hz with rfl | hz
    · exact m
    · exact ms z hz
theorem each_mono {α β : Type} {R S : α → β → Prop} (h : ∀ a b, R a b → S a b) : ∀ {as : List α} {bs : List β}, EachIs R as bs → EachIs S as bs
  | _, _, .nil => .nil
  | _, _, .cons r t => .cons (h _ _ r) (each_mono h t)
theorem cr_sortedA (α : Type) [DecidableEq α] [DatumOrd α] (hu : X.A.units + 64 < cLine) (hd : Datum.depth α ≤ 60) (hk : ∀ bs : List α, Sortable (bs.map Datum.toD)) : CallR X (.builtin "sorted") (rSortedA α X.K) := by
  intro pins s σ H vs us Q I r h
  obtain ⟨a, ws, xs, rfl, hs, hda, q⟩ := h
  obtain ⟨its, rv, hl, hz⟩ := I.list hs
  rw [Vals.ref1 r]
  have e := each_of rv hda (fun y hy => hy)
  have er := each_mono (S := fun (v : Value) (b : α) => ∃ as, Reads s.heap v (Datum.toD b) as) (fun v b ⟨y, ry, dy, _⟩ => Dp.reads I _ y v dy ry) e
  have lx : xs.length = its.length := e.length.symm
  refine sorted_data (enc := Datum.toD) hl.isList e er (AllAlike.of fun b b' => DatumOrd.alike b b') (hk xs) (by rw [lx, ← rv.length]; exact hz) (fun b _ => by have := Datum.depth_le b; omega) fun out lo eo => ?_
  obtain ⟨ys, ry, dy, my⟩ := each_back eo
  obtain ⟨ep, he'⟩ := PyProof.Rows.sortedAll_at s.heap its out.toArray
  have hlen : ys.length ≤ sizeLine := by
    rw [ry.length, lo, lx, ← rv.length]
    exact hz
  exact ⟨.ref _, upd H (s.heap.objs.size + 1) (.lst ys), I.laid (t' := s.toks) (fun _ _ => PyProof.Rows.sortedAll_old) (Nat.le_succ _) ⟨hlen, out, ep, ry, he'⟩, rfl, q ys _ dy my (I.hok.fresh (Nat.le_succ _))⟩
end
end L2

/-! A nested def that is handed to another def of the module and called there. -/
namespace L2
open PySem PySem.Spec PyProof.Rows LamX NdefX
/-- as FnOk, told too what the cells hold that the handed function captured -/
structure FnOkW (P : Program) (w : World) (K : PySem.W.Frag) (mg : Str → Option Value) (base : Heap) (CX : CXT) (k : Nat) (f : Addr) (fd : FuncData) (ps fr : List Str) (sp : NF → List (Option V) → Sp) : Prop where
  len : ∀ F ws vs H Q E, sp F ws vs H Q E → vs.length = ps.length
  run : ∀ (A : Around) (outer : List Env) (s : Shared) (H : Hp) (args : Args) (us : List Value) (vs : List V) (F : NF) (ws : List (Option V)) (Q : VK) (E : XK), Room k A → Env0 P w K mg base A outer s H → BindsTo s fd args (ps.zip us) → Vals vs us →
    CellsAt F.cl fr ws s.heap H → (∀ y c, F.cl.lookup y = some c → c ∉ frs outer) → sp F ws vs H Q E → codeAny (model P w) A (.call (.ref f) args) (CR CX outer P w H s Q E) s
section
variable {P : Program} {w : World} {K : PySem.W.Frag} {mg : Str → Option Value} {base : Heap}
/-- such a def by its body -/
theorem Fun.okW {CX : CXT} {x qual : Str} {st : Stmt} {f : Addr} {fd : FuncData} {N ps fr : List Str} {k : Nat} {sp : NF → List (Option V) → Sp} (F : Fun K x qual st f fd) (S : FnScope N ps (defScope st)) (len : ∀ F ws vs H Q E, sp F ws vs H Q E → vs.length = ps.length)
    (hbody : ∀ (cdv : Value) (A : Around) (outer : List Env) (s : Shared) (H : Hp) (vs : List V) (G : NF) (ws : List (Option V)) (Q : VK) (E : XK), Room k (A.deeper (envOfC qual (defScope st) s.heap.objs.size f cdv)) → CellsAt G.cl fr ws s.heap H → (∀ y c, G.cl.lookup y = some c → c ∉ frs outer) → sp G ws vs H Q E →
      ∃ t, PSs (cxOf CX P w K mg base N qual (defScope st) f cdv A outer s H E) (defBody st) t ∧ t { nx := fun _ H' => Q .non H', rt := Q } (start N vs) H) : FnOkW P w K mg base CX (k + 1) f fd ps fr sp where
  len := len
  run := by
    intro A outer s H args us vs G ws Q E room e0 bind rel cells off want
    obtain ⟨oc, od, kV, doc, pm, an, cdv, ct, osl, rfl, lk, code⟩ := F.ex
    have same := len _ _ _ _ _ _ want
    have up : ∀ b o, base.get? b = some o → s.heap.get? b = some o := fun b o e => (e0.bs b o e).1
    have inK := e0.mod.kin.keeps up
    have places : ∀ y ∈ ps.zip us, (defScope st).names.lookup y.1 = some .local ∨
        ((defScope st).names.lookup y.1 = some .cell ∧ ((cellsFrom (s.heap.objs.size + 1) (defScope st).names []).lookup y.1).isSome = true) := by
      rintro ⟨n, v⟩ hy
      cases S.par n (List.of_mem_zip hy).1 with
      | inl q => exact Or.inl q
      | inr q => exact Or.inr ⟨q, PySem.W.cellsFrom_some _ _ _ (.inl q)⟩
    refine codeAny_call_function room.depth (inK _ _ lk) rfl S.co S.gen rfl (PySem.W.codeRec_of inK code) (bind _ _ _ _ (wpAny_newFunctionEnv_cells S.kind places fun env same_env s1 made => ?_))
    subst same_env
    have nolim := e0.mod.nolimit.keeps up
    refine ⟨nolim.keeps made.toInCall.keep, codeAny_func ?_⟩
    obtain ⟨t, rule, reading⟩ := hbody cdv A outer s H vs G ws Q E (room.deeper _) cells off want
    have first := inv_start (CX := CX) (E := E) S room.hd e0 same rel made
    refine wpAny_mono (rule.run [] s1 (start N vs) H _ first reading) ?_ (fun _ _ z => z)
    intro fl s' out
    match fl, out with
    | .ret u, ⟨v, _, H', J, rv, q⟩ => exact ⟨v, H', J.os, J.bare, J.base, J.hok, rv, q⟩
    | .next, ⟨_, H', J, q⟩ => exact ⟨.non, H', J.os, J.bare, J.base, J.hok, rfl, q⟩
    | .brk, ⟨_, _, _, q⟩ => exact q.elim
    | .cont, ⟨_, _, _, q⟩ => exact q.elim
end
/-- f(..), f a parameter that holds the function handed on -/
def tCallW (F : NF) (ws : List (Option V)) (i : Nat) (sp : Addr → List (Option V) → Sp) (E : XK) (t : TA) : TE := fun σ H Q => ∃ f, σ[i]? = some (some (.ref f)) ∧ H f = some (FnO f F) ∧
  t σ H fun vs H1 => H1 f = some (FnO f F) ∧ H1 F.c = some (CodeO F.c F.qual) ∧ sp f ws vs H1 Q E
section
variable {X : Cx} {CX : CXT} {F : NF} {ps fr : List Str} {ws : List (Option V)} {i j k : Nat} {x : Str} {sp : Addr → List (Option V) → Sp} {E : XK} {t : TA} {e : Expr} {es : List Expr} {p pos : Pos}
theorem pe_callW (C : CellsAt F.cl fr ws X.s_0.heap X.H_0) (off : ∀ y c, F.cl.lookup y = some c → c ∉ X.fs) (hex : X.ex = []) (Fn : ∀ f, NOk X.prog X.w X.K X.mg X.base CX k f F ps fr (sp f)) (hr : Room j X.A) (hk : k ≤ j) (hx : Passes CX X E) (hN : X.N[i]? = some x) (hv : Vis X.env.scope x) (ha : PA X (e :: es) t)
    (hd : (x == ("__debug__" : Str)) = false := by decide) (hcd : (x == ("__classdict__" : Str)) = false := by decide)
    (he : starEach (e :: es) X.env = (false, eval e X.env) :: starEach es X.env := by rfl) (hpl : (backTo pos (starEach es X.env)).any (·.1) = false := by rfl) :
    PE X (.Call (.Name x p) (e :: es) [] pos) (tCallW F ws i sp E t) := by
  refine ⟨fun pins s σ H Q I h => ?_⟩
  obtain ⟨f, hs, hf, ht⟩ := h
  refine wpAny_Call_Name_kw (thn ((pe_var (pos := p) hN hv hd hcd).run pins s σ H (fun v H1 => v = .ref f ∧ H1 = H) I ⟨.ref f, hs, rfl, rfl⟩) fun u s1 ⟨v, H1, I1, r1, q1⟩ => ?_)
  obtain ⟨ev, eH⟩ := q1
  subst ev
  rw [eH] at I1
  obtain rfl : u = Value.ref f := r1
  refine PySem.W.callWith_F (first := []) (fnAt_of I1 hf) (thn (ha.run pos pins s1 σ H _ I1 ht) fun us s2 ⟨vs, H2, I2, r, h1, h2, q⟩ => ⟨fnAt_of I2 h1, ?_⟩) he hpl
  show wpAny _ _ (call (.ref f) us) _ _ _
  have C2 : CellsAt F.cl fr ws s2.heap H2 := C.later off (fun y c _ => by rw [hex]; simp) I2
  refine wpAny_call (codeAny_mono ((Fn f).run X.A X.stack s2 H2 us vs ws Q E (hr.mono hk) I2.env0 h1 h2 C2 r q) fun r s' hq => ?_)
  cases r with
  | error e => exact hx pins σ H2 s2 e s' I2 hq
  | ok fl =>
    cases fl with
    | ret u => exact I2.after hq
    | next => exact False.elim hq
    | brk => exact False.elim hq
    | cont => exact False.elim hq
end
/-- g(f, ..), f a nested def of the running frame: the call of a def that is handed a function -/
def tCallFW (mk : Addr → NF) (js : List Nat) (sp : NF → List (Option V) → Sp) (E : XK) (t : TA) : TE := fun σ H Q => t σ H fun vs H1 => ∃ c', sp (mk c') (js.map (NdefX.slotAt σ)) vs H1 Q E
section
variable {X : Cx} {CX : CXT} {mk : Addr → NF} {cl : List (Str × Addr)} {fd : FuncData} {ps fr : List Str} {js : List Nat} {k : Nat} {g : Addr} {x : Str} {sp : NF → List (Option V) → Sp} {E : XK} {t : TA} {e : Expr} {es : List Expr} {p pos : Pos}
theorem pe_callFW (F : FnOkW X.prog X.w X.K X.mg X.base CX k g fd ps fr sp) (hr : Room k X.A) (hg : Gl X x) (hm : X.mg x = some (.ref g)) (hk : PySem.W.keepIn X.K (.ref g) = true) (hb : Binds X.K fd ps []) (hx : Passes CX X E) (hcl : ∀ c', (mk c').cl = cl) (cp : X.Ok → Caps X cl fr js) (hfn : ∀ y, X.fn y = true)
    (ha : PA X (e :: es) t) (hdb : (x == ("__debug__" : Str)) = false := by decide) (he : starEach (e :: es) X.env = (false, eval e X.env) :: starEach es X.env := by rfl) (hpl : (backTo pos (starEach es X.env)).any (·.1) = false := by rfl) :
    PE X (.Call (.Name x p) (e :: es) [] pos) (tCallFW mk js sp E t) := by
  refine ⟨fun pins s σ H Q I h => ?_⟩
  refine wpAny_Call_Name_kw (ld_glob I hg hm ?_ hdb)
  refine PySem.W.callWith_K (h₀ := X.base) I.ok.mod.kin hk (thn (ha.run pos pins s σ H _ I h) fun us s1 ⟨vs, H1, I1, r, c', q⟩ => ⟨I1.kIn, ?_⟩) he hpl
  have cp1 := cp I1.ok
  have C : CellsAt (mk c').cl fr (js.map (NdefX.slotAt σ)) s1.heap H1 := by
    rw [hcl c']
    exact cells_of I1 cp1
  have off : ∀ y c, (mk c').cl.lookup y = some c → c ∉ frs X.stack := fun y c ey hc => by
    rw [hcl c'] at ey
    have ec := cp1.sub y c ey
    have ge := I1.ok.cab y c (hfn y) ec
    have low : c ∉ frs X.outer := fun z => by
      obtain ⟨_, o, ho, _⟩ := I1.ok.funs.mem z
      exact absurd (Nat.lt_of_lt_of_le (Heap.lt_size ho) ge) (Nat.lt_irrefl _)
    rcases I1.ok.stk with e1 | ⟨e1, e2⟩
    · rw [e1] at hc
      exact low hc
    · rw [e1] at hc
      unfold frs at hc
      rw [List.filterMap_cons, e2] at hc
      rcases List.mem_cons.mp hc with z | z
      · exact I1.cne y c ec z
      · exact low z
  have hl : us.length = ps.length := by rw [← r.length]; exact F.len _ _ _ _ _ _ q
  have e0 : us ++ [] = us := List.append_nil us
  have bd := hb s1 us I1.kIn (by rw [e0]; exact hl)
  rw [e0] at bd
  refine wpAny_call (codeAny_mono (F.run X.A X.stack s1 H1 ⟨us, []⟩ us vs (mk c') (js.map (NdefX.slotAt σ)) Q E hr I1.env0 bd r C off q) fun r s' hq => ?_)
  cases r with
  | error e => exact hx pins σ H1 s1 e s' I1 hq
  | ok fl =>
    cases fl with
    | ret u => exact I1.after hq
    | next => exact False.elim hq
    | brk => exact False.elim hq
    | cont => exact False.elim hq
end
end L2

/-! Least lists that hit lists, in plain Lean: what a search by missed lists looks at, and what it finds. -/
namespace K25
abbrev Lot := List Int
theorem sub_len {α : Type} [DecidableEq α] : ∀ (l m : List α), l.Nodup → (∀ x ∈ l, x ∈ m) → l.length ≤ m.length
  | [], m, _, _ => Nat.zero_le _
  | x :: l, m, nd, s => by
    obtain ⟨h1, h2⟩ := List.nodup_cons.mp nd
    have hx : x ∈ m := s x List.mem_cons_self
    have := sub_len l (m.erase x) h2 fun y hy => (List.mem_erase_of_ne (fun e : y = x => h1 (e ▸ hy))).mpr (s y (List.mem_cons_of_mem _ hy))
    rw [List.length_erase_of_mem hx] at this
    have := List.length_pos_of_mem hx
    rw [List.length_cons]
    omega
theorem pw_uniq {α : Type} {R : α → α → Prop} (irr : ∀ a, ¬ R a a) (tr : ∀ a b c, R a b → R b c → R a c) : ∀ {l m : List α}, l.Pairwise R → m.Pairwise R → (∀ x, x ∈ l ↔ x ∈ m) → l = m
  | [], [], _, _, _ => rfl
  | [], y :: m, _, _, h => absurd ((h y).mpr List.mem_cons_self) (by simp)
  | x :: l, [], _, _, h => absurd ((h x).mp List.mem_cons_self) (by simp)
  | x :: l, y :: m, hl, hm, h => by
    obtain ⟨l1, l2⟩ := List.pairwise_cons.mp hl
    obtain ⟨m1, m2⟩ := List.pairwise_cons.mp hm
    have e : x = y := by
      rcases List.mem_cons.mp ((h x).mp List.mem_cons_self) with e | hx
      · exact e
      · rcases List.mem_cons.mp ((h y).mpr List.mem_cons_self) with e | hy
        · exact e.symm
        · exact absurd (tr _ _ _ (l1 y hy) (m1 x hx)) (irr x)
    subst e
    refine congrArg _ (pw_uniq irr tr l2 m2 fun z => ⟨fun hz => ?_, fun hz => ?_⟩)
    · rcases List.mem_cons.mp ((h z).mp (List.mem_cons_of_mem _ hz)) with e | hz'
      · exact absurd (l1 z hz) (by rw [e]; exact irr x)
      · exact hz'
    · rcases List.mem_cons.mp ((h z).mpr (List.mem_cons_of_mem _ hz)) with e | hz'
      · exact absurd (m1 z hz) (by rw [e]; exact irr x)
      · exact hz'
def Asc (T : Lot) : Prop := T.Pairwise (· < ·)
theorem Asc.nd {T : Lot} (h : Asc T) : T.Nodup := List.Pairwise.imp (fun h e => by omega) h
theorem asc_ext {A B : Lot} (a : Asc A) (b : Asc B) (h : ∀ x, x ∈ A ↔ x ∈ B) : A = B := pw_uniq (fun a => by omega) (fun a b c h g => by omega) a b h
def Sub (A B : Lot) : Prop := ∀ x ∈ A, x ∈ B
theorem Sub.len {A B : Lot} (a : Asc A) (h : Sub A B) : A.length ≤ B.length := sub_len A B a.nd h
theorem sub_eq {A B : Lot} (a : Asc A) (b : Asc B) (h : Sub A B) (l : B.length ≤ A.length) : A = B := by
  refine asc_ext a b fun x => ⟨h x, fun hx => Classical.byContradiction fun no => ?_⟩
  have := sub_len (x :: A) B (List.nodup_cons.mpr ⟨no, a.nd⟩) fun y hy => by
    rcases List.mem_cons.mp hy with e | hy
    · rw [e]
      exact hx
    · exact h y hy
  rw [List.length_cons] at this
  omega
/-- hits all lists -/
def Hit (ss : List Lot) (T : Lot) : Prop := ∀ s ∈ ss, ∃ x ∈ T, x ∈ s
def missB (T s : Lot) : Bool := !T.any fun x => s.contains x
/-- the first list that is missed -/
def fm (ss : List Lot) (T : Lot) : Option Lot := ss.find? (missB T)
theorem missB_iff {T s : Lot} : missB T s = true ↔ ∀ x ∈ T, x ∉ s := by
  unfold missB
  simp
theorem fm_none {ss : List Lot} {T : Lot} : fm ss T = none ↔ Hit ss T := by
  unfold fm
  rw [List.find?_eq_none]
  constructor
  · intro h s hs
    have := h s hs
    rw [missB_iff] at this
    refine Classical.byContradiction fun no => this fun x hx hxs => no ⟨x, hx, hxs⟩
  · intro h s hs
    rw [missB_iff]
    obtain ⟨x, hx, hxs⟩ := h s hs
    exact fun no => no x hx hxs
theorem fm_some {ss : List Lot} {T s : Lot} (h : fm ss T = some s) : s ∈ ss ∧ ∀ x ∈ T, x ∉ s := ⟨List.mem_of_find?_eq_some h, missB_iff.mp (List.find?_some h)⟩
structure Min (ss : List Lot) (T : Lot) : Prop where
  asc : Asc T
  hit : Hit ss T
  least : ∀ U, Sub U T → Hit ss U → Sub T U
theorem Hit.mono {ss : List Lot} {A B : Lot} (h : Hit ss A) (s : Sub A B) : Hit ss B := fun t ht => by
  obtain ⟨x, hx, hxs⟩ := h t ht
  exact ⟨x, s x hx, hxs⟩
theorem Min.eq {ss : List Lot} {A B : Lot} (a : Min ss A) (b : Min ss B) (h : Sub A B) : A = B := asc_ext a.asc b.asc fun x => ⟨h x, b.least A h a.hit x⟩
theorem Asc.erase {T : Lot} (h : Asc T) (x : Int) : Asc (T.erase x) := List.Pairwise.sublist List.erase_sublist h
/-- a lot that hits holds a least one -/
theorem has_min {ss : List Lot} : ∀ (n : Nat) (T : Lot), T.length ≤ n → Asc T → Hit ss T → ∃ M, Min ss M ∧ Sub M T
  | 0, T, hn, a, h => by
    obtain rfl : T = [] := List.length_eq_zero_iff.mp (by omega)
    exact ⟨[], ⟨a, h, fun U _ _ x hx => (by cases hx)⟩, fun x hx => hx⟩
  | n + 1, T, hn, a, h => by
    by_cases c : ∃ x ∈ T, Hit ss (T.erase x)
    · obtain ⟨x, hx, hh⟩ := c
      have hl := List.length_erase_of_mem hx
      have hp := List.length_pos_of_mem hx
      obtain ⟨M, m, s⟩ := has_min n (T.erase x) (by omega) (a.erase x) hh
      exact ⟨M, m, fun y hy => List.mem_of_mem_erase (s y hy)⟩
    · refine ⟨T, ⟨a, h, fun U su hu x hx => Classical.byContradiction fun no => c ⟨x, hx, hu.mono fun y hy => ?_⟩⟩, fun x hx => hx⟩
      exact (List.mem_erase_of_ne (fun e : y = x => no (e ▸ hy))).mpr (su y hy)
/-- a number put into its place -/
def ins (p : Int) : Lot → Lot
  | [] => [p]
  | x :: T => if p < x then p :: x :: T else x :: ins p T
theorem mem_ins {p x : Int} : ∀ {T : Lot}, x ∈ ins p T ↔ x ∈ T ∨ x = p
  | [] => by
    unfold ins
    simp
  | y :: T => by
    unfold ins
    split
    · simp only [List.mem_cons]
      constructor
      · rintro (h | h | h)
        · exact .inr h
        · exact .inl (.inl h)
        · exact .inl (.inr h)
      · rintro ((h | h) | h)
        · exact .inr (.inl h)
        · exact .inr (.inr h)
        · exact .inl h
    · simp only [List.mem_cons]
      rw [mem_ins]
      constructor
      · rintro (h | h | h)
        · exact .inl (.inl h)
        · exact .inl (.inr h)
        · exact .inr h
      · rintro ((h | h) | h)
        · exact .inl h
        · exact .inr (.inl h)
        · exact .inr (.inr h)
theorem ins_asc {p : Int} : ∀ {T : Lot}, Asc T → p ∉ T → Asc (ins p T)
  | [], _, _ => List.pairwise_singleton _ _
  | y :: T, a, no => by
    obtain ⟨a1, a2⟩ := List.pairwise_cons.mp a
    unfold ins
    split
    · rename_i h
      refine List.pairwise_cons.mpr ⟨fun z hz => ?_, a⟩
      rcases List.mem_cons.mp hz with e | hz
      · omega
      · have := a1 z hz
        omega
    · rename_i h
      refine List.pairwise_cons.mpr ⟨fun z hz => ?_, ins_asc a2 fun z => no (List.mem_cons_of_mem _ z)⟩
      rcases mem_ins.mp hz with hz | e
      · exact a1 z hz
      · have : p ≠ y := fun e => no (by rw [e]; exact List.mem_cons_self)
        omega
theorem ins_len {T U : Lot} {p : Int} (a : Asc T) (b : Asc U) (no : p ∉ T) (h : ∀ x, x ∈ U ↔ x ∈ T ∨ x = p) : U.length = T.length + 1 := by
  have h1 := sub_len (p :: T) U (List.nodup_cons.mpr ⟨no, a.nd⟩) fun x hx => (h x).mpr ((List.mem_cons.mp hx).elim .inr .inl)
  have h2 := sub_len U (p :: T) b.nd fun x hx => ((h x).mp hx).elim (fun z => List.mem_cons_of_mem _ z) fun z => by rw [z]; exact List.mem_cons_self
  rw [List.length_cons] at h1 h2
  omega
/-- a lot and one more number -/
structure Ext (ss : List Lot) (most : Nat) (T U : Lot) : Prop where
  ex : ∃ s p, fm ss T = some s ∧ p ∈ s ∧ ∀ x, x ∈ U ↔ x ∈ T ∨ x = p
  lt : T.length < most
  asc : Asc U
/-- what is looked at -/
inductive Lk (ss : List Lot) (most : Nat) : Lot → Prop
  | nil : Lk ss most []
  | step {T U : Lot} : Lk ss most T → Ext ss most T U → (∀ M, Min ss M → Sub M U → ¬ M.length < U.length) → Lk ss most U
section
variable {ss : List Lot} {most : Nat}
theorem Lk.asc {T : Lot} (h : Lk ss most T) : Asc T := by
  cases h with
  | nil => exact List.Pairwise.nil
  | step _ e _ => exact e.asc
theorem Ext.len {T U : Lot} (h : Ext ss most T U) (a : Asc T) : U.length = T.length + 1 := by
  obtain ⟨s, p, h1, h2, h3⟩ := h.ex
  exact ins_len a h.asc (fun z => (fm_some h1).2 p z h2) h3
theorem Lk.le {T : Lot} (h : Lk ss most T) : T.length ≤ most := by
  cases h with
  | nil => exact Nat.zero_le _
  | step a e _ =>
    rw [e.len a.asc]
    exact e.lt
theorem Lk.mem {T : Lot} (h : Lk ss most T) : ∀ x ∈ T, ∃ s ∈ ss, x ∈ s := by
  induction h with
  | nil => exact fun x hx => by cases hx
  | step _ e _ ih =>
    obtain ⟨s, p, h1, h2, h3⟩ := e.ex
    intro x hx
    rcases (h3 x).mp hx with hx | rfl
    · exact ih x hx
    · exact ⟨s, (fm_some h1).1, h2⟩
/-- what hits and is looked at is least -/
theorem Lk.min {T : Lot} (h : Lk ss most T) (hit : Hit ss T) : Min ss T := by
  obtain ⟨M, m, s⟩ := has_min T.length T (Nat.le_refl _) h.asc hit
  have : M = T := by
    refine sub_eq m.asc h.asc s ?_
    cases h with
    | nil => exact Nat.zero_le _
    | step _ _ no =>
      have := no M m s
      omega
  rw [← this]
  exact m
/-- least ones are looked at -/
theorem Min.way {M : Lot} (m : Min ss M) (hm : M.length ≤ most) : ∀ k, k ≤ M.length → ∃ T, Lk ss most T ∧ Sub T M ∧ T.length = k
  | 0, _ => ⟨[], .nil, fun x hx => (by cases hx), rfl⟩
  | k + 1, hk => by
    obtain ⟨T, lk, s, l⟩ := m.way hm k (by omega)
    have no : ¬ Hit ss T := fun h => by
      have := Sub.len m.asc (m.least T s h)
      omega
    cases c : fm ss T with
    | none => exact absurd (fm_none.mp c) no
    | some t =>
      obtain ⟨ht, off⟩ := fm_some c
      obtain ⟨p, hp, hpt⟩ := m.hit t ht
      have pT : p ∉ T := fun z => off p z hpt
      have ext : Ext ss most T (ins p T) := ⟨⟨t, p, c, hpt, fun x => mem_ins⟩, by omega, ins_asc lk.asc pT⟩
      have sub : Sub (ins p T) M := fun x hx => by
        rcases mem_ins.mp hx with hx | rfl
        · exact s x hx
        · exact hp
      refine ⟨ins p T, .step lk ext fun M' m' s' lt => ?_, sub, by rw [ext.len lk.asc, l]⟩
      have e := m'.eq m fun x hx => sub x (s' x hx)
      have := Sub.len ext.asc sub
      rw [e] at lt
      omega
theorem Min.lk {M : Lot} (m : Min ss M) (hm : M.length ≤ most) : Lk ss most M := by
  obtain ⟨T, lk, s, l⟩ := m.way hm M.length (Nat.le_refl _)
  rw [← sub_eq lk.asc m.asc s (by omega)]
  exact lk
/-- where a long one is looked at, one of each lesser size was to be looked at -/
theorem Lk.back {T : Lot} (h : Lk ss most T) {r : Nat} (hr : r < T.length) : ∃ T' U, Lk ss most T' ∧ T'.length = r ∧ Ext ss most T' U := by
  induction h with
  | nil => cases hr
  | @step T U a e _ ih =>
    have := e.len a.asc
    by_cases c : T.length = r
    · exact ⟨T, U, a, c, e⟩
    · exact ih (by omega)
theorem hit_nil {T : Lot} (h : Hit ss []) : fm ss T = none := by
  refine fm_none.mpr fun s hs => ?_
  obtain ⟨x, hx, _⟩ := h s hs
  cases hx
/-- by numbers, then by the first unlike one -/
def lx : Lot → Lot → Bool
  | _, [] => false
  | [], _ :: _ => true
  | x :: a, y :: b => if x = y then lx a b else decide (x < y)
theorem lx_irr : ∀ a : Lot, lx a a = false
  | [] => rfl
  | x :: a => by
    unfold lx
    rw [if_pos rfl]
    exact lx_irr a
theorem lx_tr : ∀ a b c : Lot, lx a b = true → lx b c = true → lx a c = true
  | _, [], _, h, _ => by
    unfold lx at h
    cases h
  | _, _ :: _, [], _, h => by
    unfold lx at h
    cases h
  | [], _ :: _, _ :: _, _, _ => rfl
  | x :: a, y :: b, z :: c, h, g => by
    unfold lx at *
    by_cases e1 : x = y
    · rw [if_pos e1] at h
      by_cases e2 : y = z
      · rw [if_pos e2] at g
        rw [if_pos (by omega)]
        exact lx_tr a b c h g
      · rw [if_neg e2] at g
        rw [if_neg (by omega)]
        simp only [decide_eq_true_eq] at *
        omega
    · rw [if_neg e1] at h
      simp only [decide_eq_true_eq] at h
      by_cases e2 : y = z
      · rw [if_neg (by omega)]
        simp only [decide_eq_true_eq]
        omega
      · rw [if_neg e2] at g
        simp only [decide_eq_true_eq] at g
        rw [if_neg (by omega)]
        simp only [decide_eq_true_eq]
        omega
def od (a b : Lot) : Prop := a.length < b.length ∨ (a.length = b.length ∧ lx a b = true)
theorem od_irr (a : Lot) : ¬ od a a := fun h => h.elim (fun z => by omega) fun z => by rw [lx_irr] at z; cases z.2
theorem od_tr (a b c : Lot) (h : od a b) (g : od b c) : od a c := by
  unfold od at *
  rcases h with h | ⟨h1, h2⟩ <;> rcases g with g | ⟨g1, g2⟩
  · exact .inl (by omega)
  · exact .inl (by omega)
  · exact .inl (by omega)
  · exact .inr ⟨by omega, lx_tr a b c h2 g2⟩
/-- all least lists of at most so many numbers, in order -/
structure All (ss : List Lot) (most : Nat) (L : List Lot) : Prop where
  mem : ∀ M, M ∈ L ↔ Min ss M ∧ M.length ≤ most
  ord : L.Pairwise od
theorem All.uniq {L L' : List Lot} (h : All ss most L) (g : All ss most L') : L = L' := pw_uniq od_irr od_tr h.ord g.ord fun M => by rw [h.mem, g.mem]
/-- the search at the start of a round -/
structure Rd (ss : List Lot) (most r looked : Nat) (found lots : List Lot) : Prop where
  f : ∀ M, M ∈ found ↔ Min ss M ∧ M.length < r ∧ M.length ≤ most
  fo : found.Pairwise od
  l : ∀ U, U ∈ lots ↔ (r = 0 ∧ U = []) ∨ ∃ T, Lk ss most T ∧ T.length + 1 = r ∧ Ext ss most T U
  lo : lots.Pairwise fun a b => lx a b = true
  k : ∃ seen : List Lot, seen.Nodup ∧ (∀ T, T ∈ seen ↔ Lk ss most T ∧ T.length < r) ∧ seen.length = looked
theorem Rd.start (ss : List Lot) (most : Nat) : Rd ss most 0 0 [] [[]] := by
  refine ⟨fun M => ⟨fun h => (by cases h), fun h => absurd h.2.1 (Nat.not_lt_zero _)⟩, .nil, fun U => ⟨fun h => .inl ⟨rfl, List.mem_singleton.mp h⟩, fun h => ?_⟩, List.pairwise_singleton _ _, [], List.nodup_nil, fun T => ⟨fun h => (by cases h), fun h => absurd h.2 (Nat.not_lt_zero _)⟩, rfl⟩
  rcases h with ⟨_, rfl⟩ | ⟨T, _, h, _⟩
  · exact List.mem_singleton.mpr rfl
  · cases h
theorem Rd.asc {r looked : Nat} {found lots : List Lot} (h : Rd ss most r looked found lots) {U : Lot} (hU : U ∈ lots) : Asc U ∧ U.length = r ∧ U.length ≤ most := by
  rcases (h.l U).mp hU with ⟨e, rfl⟩ | ⟨T, lk, e, ext⟩
  · exact ⟨.nil, e.symm, Nat.zero_le _⟩
  · have := ext.len lk.asc
    exact ⟨ext.asc, by omega, by have := ext.lt; omega⟩
/-- a part found before -/
def part (found : List Lot) (U : Lot) : Prop := ∃ M ∈ found, M ≠ [] ∧ Sub M U
theorem Rd.lk {r looked : Nat} {found lots : List Lot} (h : Rd ss most r looked found lots) {U : Lot} (hU : U ∈ lots) : Lk ss most U ↔ ¬ part found U := by
  obtain ⟨asc, len, le⟩ := h.asc hU
  constructor
  · rintro lk ⟨M, hM, ne, s⟩
    obtain ⟨m, lt, _⟩ := (h.f M).mp hM
    cases lk with
    | nil => exact ne (List.length_eq_zero_iff.mp (by have : ([] : Lot).length = 0 := rfl; omega))
    | step _ _ no => exact no M m s (by omega)
  · intro np
    rcases (h.l U).mp hU with ⟨_, rfl⟩ | ⟨T, lk, e, ext⟩
    · exact .nil
    · refine .step lk ext fun M m s lt => np ⟨M, (h.f M).mpr ⟨m, by omega, by omega⟩, fun z => ?_, s⟩
      obtain ⟨t, p, h1, _⟩ := ext.ex
      subst z
      rw [hit_nil m.hit] at h1
      cases h1
/-- the end: nothing is left to be looked at -/
theorem Rd.all {r looked : Nat} {found : List Lot} (h : Rd ss most r looked found []) : All ss most found ∧ ∃ seen : List Lot, seen.Nodup ∧ (∀ T, T ∈ seen ↔ Lk ss most T) ∧ seen.length = looked := by
  have low : ∀ T, Lk ss most T → T.length < r := fun T lk => by
    refine Classical.byContradiction fun ge => ?_
    cases r with
    | zero => exact absurd ((h.l []).mpr (.inl ⟨rfl, rfl⟩)) (by simp)
    | succ r =>
      obtain ⟨T', U, a, b, c⟩ := lk.back (r := r) (by omega)
      exact absurd ((h.l U).mpr (.inr ⟨T', a, by omega, c⟩)) (by simp)
  refine ⟨⟨fun M => ?_, h.fo⟩, ?_⟩
  · rw [h.f]
    exact ⟨fun z => ⟨z.1, z.2.2⟩, fun z => ⟨z.1, low M (z.1.lk z.2), z.2⟩⟩
  · obtain ⟨seen, a, b, c⟩ := h.k
    exact ⟨seen, a, fun T => by rw [b]; exact ⟨fun z => z.1, fun z => ⟨z, low T z⟩⟩, c⟩
/-- the round: good ones, missed ones, longer ones -/
theorem Rd.next {r looked : Nat} {found lots lots' : List Lot} (h : Rd ss most r looked found lots) {act good : List Lot} (ha : ∀ U, U ∈ act ↔ U ∈ lots ∧ ¬ part found U) (an : act.Pairwise fun a b => lx a b = true)
    (hg : ∀ U, U ∈ good ↔ U ∈ act ∧ Hit ss U) (go : good.Pairwise fun a b => lx a b = true) (hl : ∀ U, U ∈ lots' ↔ ∃ T, T ∈ act ∧ Ext ss most T U) (lo : lots'.Pairwise fun a b => lx a b = true) : Rd ss most (r + 1) (looked + act.length) (found ++ good) lots' := by
  have act_lk : ∀ U, U ∈ act ↔ Lk ss most U ∧ U.length = r := fun U => by
    rw [ha]
    constructor
    · rintro ⟨h1, h2⟩
      exact ⟨(h.lk h1).mpr h2, (h.asc h1).2.1⟩
    · rintro ⟨h1, h2⟩
      have hU : U ∈ lots := by
        cases h1 with
        | nil => exact (h.l []).mpr (.inl ⟨h2.symm, rfl⟩)
        | step a e _ => exact (h.l U).mpr (.inr ⟨_, a, by rw [← h2, e.len a.asc], e⟩)
      exact ⟨hU, (h.lk hU).mp h1⟩
  refine ⟨fun M => ?_, ?_, fun U => ?_, lo, ?_⟩
  · rw [List.mem_append, h.f, hg, act_lk]
    constructor
    · rintro (⟨a, b, c⟩ | ⟨⟨a, b⟩, c⟩)
      · exact ⟨a, by omega, c⟩
      · exact ⟨a.min c, by omega, a.le⟩
    · rintro ⟨a, b, c⟩
      by_cases e : M.length < r
      · exact .inl ⟨a, e, c⟩
      · exact .inr ⟨⟨a.lk c, by omega⟩, a.hit⟩
  · refine List.pairwise_append.mpr ⟨h.fo, ?_, fun A hA B hB => ?_⟩
    · refine List.Pairwise.imp_of_mem (fun {a b} ha hb hab => ?_) go
      have l1 := ((act_lk a).mp ((hg a).mp ha).1).2
      have l2 := ((act_lk b).mp ((hg b).mp hb).1).2
      exact .inr ⟨by omega, hab⟩
    · have l1 := ((h.f A).mp hA).2.1
      have l2 := ((act_lk B).mp ((hg B).mp hB).1).2
      exact .inl (by omega)
  · rw [hl]
    constructor
    · rintro ⟨T, a, b⟩
      exact .inr ⟨T, ((act_lk T).mp a).1, by rw [((act_lk T).mp a).2], b⟩
    · rintro (⟨z, _⟩ | ⟨T, a, b, c⟩)
      · cases z
      · exact ⟨T, (act_lk T).mpr ⟨a, by omega⟩, c⟩
  · obtain ⟨seen, a, b, c⟩ := h.k
    refine ⟨seen ++ act, List.nodup_append.mpr ⟨a, List.Pairwise.imp (fun {x y} h e => by rw [e, lx_irr] at h; cases h) an, fun x hx y hy e => ?_⟩, fun T => ?_, by rw [List.length_append, c]⟩
    · have l1 := ((b x).mp hx).2
      have l2 := ((act_lk y).mp hy).2
      rw [e] at l1
      omega
    · rw [List.mem_append, b, act_lk]
      constructor
      · rintro (⟨a, b⟩ | ⟨a, b⟩)
        · exact ⟨a, by omega⟩
        · exact ⟨a, by omega⟩
      · rintro ⟨a, b⟩
        by_cases e : T.length < r
        · exact .inl ⟨a, e⟩
        · exact .inr ⟨a, by omega⟩
/-- what was looked at within a round -/
theorem Rd.looked {r looked : Nat} {found lots : List Lot} (h : Rd ss most r looked found lots) {act : List Lot} (ha : ∀ U, U ∈ act → U ∈ lots ∧ ¬ part found U) (an : act.Pairwise fun a b => lx a b = true) : ∃ seen : List Lot, seen.Nodup ∧ (∀ T ∈ seen, Lk ss most T) ∧ seen.length = looked + act.length := by
  obtain ⟨seen, a, b, c⟩ := h.k
  refine ⟨seen ++ act, List.nodup_append.mpr ⟨a, List.Pairwise.imp (fun {x y} h e => by rw [e, lx_irr] at h; cases h) an, fun x hx y hy e => ?_⟩, fun T hT => ?_, by rw [List.length_append, c]⟩
  · have l1 := ((b x).mp hx).2
    have l2 := (h.asc (ha y hy).1).2.1
    rw [e] at l1
    omega
  · rcases List.mem_append.mp hT with hT | hT
    · exact ((b T).mp hT).1
    · exact (h.lk (ha T hT).1).mpr (ha T hT).2
theorem Rd.short {r looked : Nat} {found lots : List Lot} (h : Rd ss most r looked found lots) (ne : lots ≠ []) : r ≤ most := by
  obtain ⟨U, hU⟩ := List.exists_mem_of_ne_nil _ ne
  obtain ⟨_, a, b⟩ := h.asc hU
  omega
end
/-! ### few numbers: few lots -/
def pows : Lot → List Lot
  | [] => [[]]
  | x :: P => pows P ++ (pows P).map (x :: ·)
theorem pows_len : ∀ P : Lot, (pows P).length = 2 ^ P.length
  | [] => rfl
  | x :: P => by
    show (pows P ++ (pows P).map (x :: ·)).length = _
    rw [List.length_append, List.length_map, pows_len P, List.length_cons, Nat.pow_succ]
    omega
theorem pows_fil (f : Int → Bool) : ∀ P : Lot, P.filter f ∈ pows P
  | [] => List.mem_singleton.mpr rfl
  | x :: P => by
    show _ ∈ pows P ++ (pows P).map (x :: ·)
    rw [List.filter_cons]
    split
    · exact List.mem_append_right _ (List.mem_map.mpr ⟨_, pows_fil f P, rfl⟩)
    · exact List.mem_append_left _ (pows_fil f P)
theorem few {P : Lot} (ap : Asc P) {L : List Lot} (nd : L.Nodup) (h : ∀ T ∈ L, Asc T ∧ Sub T P) : L.length ≤ 2 ^ P.length := by
  rw [← pows_len]
  refine sub_len L _ nd fun T hT => ?_
  obtain ⟨a, s⟩ := h T hT
  have : P.filter (fun x => T.contains x) = T := by
    refine asc_ext (List.Pairwise.sublist List.filter_sublist ap) a fun x => ?_
    rw [List.mem_filter]
    constructor
    · rintro ⟨_, h⟩
      simpa using h
    · intro h
      exact ⟨s x h, by simpa using h⟩
  rw [← this]
  exact pows_fil _ P
end K25

local macro_rules | `(tactic| walk_at "nz") => `(tactic| (dsimp only; first | decide | omega))
namespace K25W
open PySem PySem.Spec PyProof.Rows L2 KH KD KP K25 LamX NdefX
def topS (i : Nat) : Stmt := PySem.Challenge.pw_changeskept_k25_lists_that_hit.main.body.getD i (.Pass ⟨0, 0, 0, 0⟩)
abbrev s_law_cell : Stmt := topS 14
theorem sc_law_cell : FnScope ["script", "k", "spare", "cell"] ["script", "k"] (defScope s_law_cell) := ⟨rfl, rfl, rfl, by decide +kernel, rfl, by decide +kernel, by decide +kernel⟩

abbrev s_law_draws : Stmt := topS 15
theorem sc_law_draws : FnScope ["cell", "sizes", "whole", "found", "number", "size", "k", "mixed"] ["cell", "sizes"] (defScope s_law_draws) := ⟨rfl, rfl, rfl, by decide +kernel, rfl, by decide +kernel, by decide +kernel⟩

/-- the built-in names are what they are -/
structure Txt (mg : Str → Option Value) : Prop where
  len : mg "len" = none
  abs : mg "abs" = none
  int : mg "int" = none
  range : mg "range" = none
  list : mg "list" = none
  tuple : mg "tuple" = none
  max : mg "max" = none
  isinstance : mg "isinstance" = none
  bool : mg "bool" = none
  reversed : mg "reversed" = none
  sorted : mg "sorted" = none
  enumerate : mg "enumerate" = none
  all : mg "all" = none
  any : mg "any" = none
  super : mg "super" = none
  ValueError : mg "ValueError" = none
  MOST_LOTS : ∃ t, mg "MOST_LOTS" = some (.int 2000 t)
/-- a def as its callers know it -/
structure Cal (P : Program) (w : World) (K : PySem.W.Frag) (mg : Str → Option Value) (base : Heap) (k : Nat) (x : Str) (ps : List Str) (sp : Sp) (f : Addr) (fd : FuncData) : Prop where
  ok : FnOk P w K mg base CX0 k f fd ps sp
  mg : mg x = some (.ref f)
  kp : PySem.W.keepIn K (.ref f) = true
  b : Binds K fd ps []
/-- .. one that may raise -/
structure CalX (P : Program) (w : World) (K : PySem.W.Frag) (mg : Str → Option Value) (base : Heap) (k : Nat) (x : Str) (ps : List Str) (sp : Sp) (f : Addr) (fd : FuncData) : Prop where
  ok : FnOk P w K mg base (L2.CX P w) k f fd ps sp
  mg : mg x = some (.ref f)
  kp : PySem.W.keepIn K (.ref f) = true
  b : Binds K fd ps []
section
variable {P : Program} {w : World} {K : PySem.W.Frag} {mg : Str → Option Value} {base : Heap}
/-! ### a cell of the script -/
def sp_cell (K : PySem.W.Frag) : Sp := fun vs H Q _ => ∃ (a : Addr) (ns : List Int) (k : Nat), vs = [.ref a, nV k] ∧ SqL K H a (ns.map V.int) ∧ ns.length ≤ 63 ∧ k ≤ 1000 ∧ ∀ n H', Same H H' → Q (.int n) H'
theorem ok_cell {f : Addr} {fd : FuncData} (F : Fun K "_law_cell" "_law_cell" s_law_cell f fd) (T : Txt mg) : FnOk P w K mg base CX0 1 f fd ["script", "k"] (sp_cell K) := by
  refine F.ok sc_law_cell (fun vs H Q E h => ?_) (fun cdv A outer s H vs Q E hr h => ?_)
  · obtain ⟨a, ns, k, rfl, _⟩ := h
    rfl
  · obtain ⟨a, ns, k, rfl, hS, hl, hk, q⟩ := h
    refine ⟨_, (pss_cons (ps_if (pt_cmpR op_lt (pv 1) (pe_callB call_len_seq (by rfl) T.len (by decide +kernel) (pa_cons (pv 0) pa_nil)) (nomark _))
 (pss_one (ps_ret (pe_ix ix_list (pv 0) (pv 1) (fun _ _ => rfl))))
 pss_nil)
 (pss_cons (ps_set (i := 2) sc_law_cell.nd rfl (.inl rfl) pe_int)
 (pss_cons (ps_for PassesOwn.never rfl (pi_list (pe_slice sl_list (pv 0) po_none (po_some pe_int))) (pg_name (i := 3) sc_law_cell.nd rfl (.inl rfl))
 (pss_one (ps_set (i := 2) sc_law_cell.nd rfl (.inl rfl) (pe_op op_add (pv 2) (pe_op op_modN (pe_callB call_abs (by rfl) T.abs (by decide +kernel) (pa_cons (pe_callTy call_int1 (by rfl) T.int (by decide +kernel) (pa_cons (pv 3) pa_nil)) pa_nil)) pe_int)))))
 (pss_one (ps_ret (pe_op op_add (pv 2) (pe_op op_mul pe_int (pv 1)))))))), ?_⟩
    refine ⟨_, rfl, _, rfl, a, _, rfl, .inl hS, _, _, rfl, rfl, _, rfl, ite2 (fun hlt => ?_) (fun _ => ?_)⟩
    · have hlt' : k < ns.length := by
        have := of_decide_eq_true hlt
        rw [List.length_map] at this
        omega
      obtain ⟨n, hn⟩ := get_lt hlt'
      exact ⟨_, rfl, _, rfl, a, _, _, _, rfl, rfl, hS, at_n (getn hn), q n H (Same.refl H)⟩
    · refine ⟨_, rfl, 3, rfl, a, _, rfl, hS, fun p np => ?_⟩
      obtain ⟨ms, em⟩ := cut_ints ns none (some 3)
      rw [em]
      refine ⟨p, rfl, ⟨_, SqL.of upd_same⟩, for_list (K := K) (a := p) (xs := ms.map V.int) (fun i σ H' => ∃ (z : Int) (v : Option V), σ = [some (.ref a), some (nV k), some (.int z), v] ∧ Same H H' ∧ H' p = some (.lst (ms.map V.int)))
        ⟨0, none, rfl, (Same.refl H).new np, upd_same⟩ (fun i σ H' _ ⟨_, _, _, _, e⟩ => SqL.of e) ?_ ?_⟩
      · rintro i y σ H' hi ⟨z, v, rfl, sm, e⟩
        obtain ⟨c, _, rfl⟩ := getn_inv hi
        refine ⟨_, rfl, _, rfl, .inl ⟨_, rfl, _, rfl, _, _, rfl, rfl, (by walk_at "nz"), _, _, rfl, rfl, ?_⟩⟩
        exact ⟨_, _, rfl, sm, e⟩
      · rintro σ H' ⟨z, v, rfl, sm, e⟩
        exact ⟨_, rfl, _, rfl, _, _, rfl, rfl, .inl ⟨by decide, by decide⟩, _, _, rfl, rfl, q _ _ sm⟩
/-! ### drawn numbers -/
def sp_draws (K : PySem.W.Frag) : Sp := fun vs H Q _ => ∃ (a : Addr) (c : Int) (zs : List Nat), vs = [.int c, .ref a] ∧ SqL K H a (zs.map nV) ∧ zs.length ≤ 1000 ∧ (∀ z ∈ zs, 0 < z ∧ z < 1073741824) ∧
  ∀ p ds H', Same H H' → H p = none → H' p = some (.lst (ds.map nV)) → Drawn ds zs → Q (.ref p) H'
theorem ok_draws {f : Addr} {fd : FuncData} (F : Fun K "_law_draws" "_law_draws" s_law_draws f fd) (T : Txt mg) : FnOk P w K mg base CX0 1 f fd ["cell", "sizes"] (sp_draws K) := by
  refine F.ok sc_law_draws (fun vs H Q E h => ?_) (fun cdv A outer s H vs Q E hr h => ?_)
  · obtain ⟨a, c, zs, rfl, _⟩ := h
    rfl
  · obtain ⟨a, c, zs, rfl, hS, hl, hz, q⟩ := h
    refine ⟨_, (pss_cons (ps_set (i := 2) sc_law_draws.nd rfl (.inl rfl) (pe_callB call_abs (by rfl) T.abs (by decide +kernel) (pa_cons (pe_callTy call_int1 (by rfl) T.int (by decide +kernel) (pa_cons (pv 0) pa_nil)) pa_nil)))
 (pss_cons (ps_set (i := 3) sc_law_draws.nd rfl (.inl rfl) (pe_lst pa_nil))
 (pss_cons (ps_if (pt_cmpR op_ge (pv 2) (pe_op op_pow pe_int pe_int) (nomark _))
 (pss_cons (ps_set (i := 4) sc_law_draws.nd rfl (.inl rfl) (pe_op op_sub (pv 2) (pe_op op_pow pe_int pe_int)))
 (pss_cons (ps_for PassesOwn.never rfl (pi_list (pv 1)) (pg_name (i := 5) sc_law_draws.nd rfl (.inl rfl))
 (pss_cons (ps_expr (pe_bm PySem.F.plainAttrs_list PySem.F.slot_list_append PySem.F.type_list_append mt_append (pv 3) (pa_cons (pe_op op_modN (pe_callTy call_int1 (by rfl) T.int (by decide +kernel) (pa_cons (pv 4) pa_nil)) (pv 5)) pa_nil)))
 (pss_one (ps_set (i := 4) sc_law_draws.nd rfl (.inl rfl) (pe_op op_fdivN (pv 4) (pv 5))))))
 (pss_one (ps_ret (pv 3)))))
 pss_nil)
 (pss_cons (ps_for PassesOwn.never rfl (pi_range1 rfl T.range (pa_cons (pe_callB call_len_seq (by rfl) T.len (by decide +kernel) (pa_cons (pv 1) pa_nil)) pa_nil)) (pg_name (i := 6) sc_law_draws.nd rfl (.inl rfl))
 (pss_cons (ps_set (i := 7) sc_law_draws.nd rfl (.inl rfl) (pe_op op_modN (pe_callTy call_int1 (by rfl) T.int (by decide +kernel) (pa_cons (pe_op op_add (pe_op op_add (pv 2) (pe_op op_mul pe_int (pv 6))) pe_int) pa_nil)) pe_int))
 (pss_cons (ps_set (i := 7) sc_law_draws.nd rfl (.inl rfl) (pe_op op_modN (pe_callTy call_int1 (by rfl) T.int (by decide +kernel) (pa_cons (pe_op op_mul (pv 7) (pe_op op_add (pv 7) pe_int)) pa_nil)) pe_int))
 (pss_cons (ps_set (i := 7) sc_law_draws.nd rfl (.inl rfl) (pe_op op_modN (pe_callTy call_int1 (by rfl) T.int (by decide +kernel) (pa_cons (pe_op op_add (pe_op op_mul (pv 7) (pe_op op_add (pv 7) pe_int)) (pe_op op_mul pe_int (pv 6))) pa_nil)) pe_int))
 (pss_one (ps_expr (pe_bm PySem.F.plainAttrs_list PySem.F.slot_list_append PySem.F.type_list_append mt_append (pv 3) (pa_cons (pe_op op_modN (pe_callTy call_int1 (by rfl) T.int (by decide +kernel) (pa_cons (pe_op op_fdivN (pv 7) pe_int) pa_nil)) (pe_ix ix_list (pv 1) (pv 6) (fun _ _ => rfl))) pa_nil))))))))
 (pss_one (ps_ret (pv 3))))))), ?_⟩
    -- whole = abs(int(cell)); found = []
    refine ⟨_, rfl, .inl ⟨_, rfl, _, rfl, ?_⟩⟩
    refine ⟨Nat.zero_le _, fun p np => ?_⟩
    have s0 : Same H (upd H p (.lst [])) := (Same.refl H).new np
    -- if whole >= 10 ** 18
    refine ⟨_, rfl, _, _, rfl, rfl, ⟨by decide, by decide, by decide⟩, _, _, rfl, rfl, _, rfl, ite2 (fun _ => ?_) (fun hsm => ?_)⟩
    · refine ⟨_, rfl, _, _, rfl, rfl, ⟨by decide, by decide, by decide⟩, _, _, rfl, rfl, ?_⟩
      refine ⟨_, rfl, a, rfl, ⟨_, s0.seq hS⟩, for_list (K := K) (a := a) (xs := zs.map nV) (fun i σ H' => ∃ (w n : Int) (ds : List Nat) (v5 v6 v7 : Option V), σ = [some (.int c), some (.ref a), some (.int w), some (.ref p), some (.int n), v5, v6, v7] ∧ Same H H' ∧ H' p = some (.lst (ds.map nV)) ∧ Drawn ds (zs.take i))
        ⟨_, _, [], none, none, none, rfl, s0, upd_same, .nil⟩ (fun i σ H' _ ⟨_, _, _, _, _, _, _, sm, _⟩ => sm.seq hS) ?_ ?_⟩
      · rintro i y σ H' hi ⟨w', n, ds, v5, v6, v7, rfl, sm, e, dr⟩
        obtain ⟨z, hzi, rfl⟩ := getn_inv hi
        obtain ⟨hz0, hz1⟩ := hz z (List.mem_of_getElem? hzi)
        obtain ⟨d, ed, hd⟩ := fmod_nat n hz0
        refine ⟨_, rfl, .inl ⟨rfl, _, SqL.of e⟩, _, rfl, .inl ⟨_, rfl, _, rfl, _, _, rfl, rfl, (by walk_at "nz"), p, _, _, rfl, rfl, e, ?_, ?_⟩⟩
        · rw [List.length_map, P_len dr]
          exact szl (Nat.le_trans (List.length_take_le' _ _) (by omega))
        · refine ⟨_, rfl, _, rfl, _, _, rfl, rfl, ⟨by omega, by omega⟩, ?_⟩
          refine ⟨_, _, ds ++ [d], _, _, _, rfl, sm.mut np, ?_, drawn_snoc dr hzi hd⟩
          dsimp only
          rw [upd_same, ed, List.map_append]
          rfl
      · rintro σ H' ⟨w', n, ds, v5, v6, v7, rfl, sm, e, dr⟩
        rw [List.length_map, List.take_length] at dr
        exact ⟨_, rfl, q p ds H' sm np e dr⟩
    · -- the mixing
      have hwb : ∃ w : Nat, (if c < 0 then -c else c) = (w : Int) ∧ w < 10 ^ 18 := by
        have h1 : ¬ ((10 : Int) ^ (18 : Int).toNat ≤ if c < 0 then -c else c) := fun z => hsm (decide_eq_true z)
        have e18 : (10 : Int) ^ (18 : Int).toNat = 1000000000000000000 := by decide
        rw [e18] at h1
        refine ⟨(if c < 0 then -c else c).toNat, ?_, ?_⟩ <;> split at h1 <;> split <;> omega
      obtain ⟨wn, ew, hw⟩ := hwb
      rw [ew]
      refine ⟨_, rfl, a, _, rfl, .inl (s0.seq hS), _, rfl, (by omega), (by rw [List.length_map]; omega), ?_⟩
      have el : (((zs.map nV).length : Nat) : Int).toNat = zs.length := by rw [List.length_map]; omega
      rw [el]
      refine for_range (lo := 0) (n := zs.length) (fun i σ H' => ∃ (ds : List Nat) (v4 v5 v6 v7 : Option V), σ = [some (.int c), some (.ref a), some (nV wn), some (.ref p), v4, v5, v6, v7] ∧ Same H H' ∧ H' p = some (.lst (ds.map nV)) ∧ Drawn ds (zs.take i))
        ⟨[], none, none, none, none, rfl, s0, upd_same, .nil⟩ ?_ ?_
      · rintro i σ H' hi ⟨ds, v4, v5, v6, v7, rfl, sm, e, dr⟩
        obtain ⟨z, hzi⟩ := get_lt hi
        obtain ⟨hz0, hz1⟩ := hz z (List.mem_of_getElem? hzi)
        obtain ⟨m1, e1, b1⟩ := fmod_nat ((wn : Int) + 7919 * ((0 : Int) + (i : Int)) + 13) (z := 2147483647) (by decide)
        obtain ⟨m2, e2, b2⟩ := fmod_nat ((m1 : Int) * ((m1 : Int) + 48271)) (z := 2147483629) (by decide)
        obtain ⟨m3, e3, b3⟩ := fmod_nat ((m2 : Int) * ((m2 : Int) + 69621) + 31 * ((0 : Int) + (i : Int))) (z := 2147483647) (by decide)
        obtain ⟨d, ed, hd⟩ := fmod_nat ((m3 : Int).fdiv 9) hz0
        -- mixed = int(whole + 7919 * k + 13) % 2147483647
        refine ⟨_, rfl, _, rfl, _, _, rfl, rfl, .inl ⟨by decide, by decide⟩, _, _, rfl, rfl, _, _, rfl, rfl, .inl ⟨_, rfl, _, _, rfl, rfl, (by walk_at "nz"), ?_⟩⟩
        dsimp only
        rw [show ((2147483647 : Nat) : Int) = 2147483647 by rfl] at e1
        rw [e1]
        -- mixed = int(mixed * (mixed + 48271)) % 2147483629
        refine ⟨_, rfl, _, rfl, _, _, rfl, rfl, _, _, rfl, rfl, .inl ⟨by omega, by omega⟩, .inl ⟨_, rfl, _, _, rfl, rfl, (by walk_at "nz"), ?_⟩⟩
        dsimp only
        rw [show ((2147483629 : Nat) : Int) = 2147483629 by rfl] at e2
        rw [e2]
        refine ⟨_, rfl, _, rfl, _, _, rfl, rfl, _, _, rfl, rfl, .inl ⟨by omega, by omega⟩, _, rfl, _, _, rfl, rfl, .inl ⟨by decide, by decide⟩, _, _, rfl, rfl, .inl ⟨_, rfl, _, _, rfl, rfl, (by walk_at "nz"), ?_⟩⟩
        dsimp only
        rw [show ((2147483647 : Nat) : Int) = 2147483647 by rfl] at e3
        rw [e3]
        -- found.append(int(mixed // 9) % sizes[k])
        refine ⟨_, rfl, .inl ⟨rfl, _, SqL.of e⟩, _, rfl, _, _, rfl, rfl, ⟨by decide, by decide⟩, .inl ⟨_, rfl, _, rfl, _, rfl, a, _, _, nV z, rfl, rfl, sm.seq hS, ?_, _, _, rfl, rfl, (by walk_at "nz"), p, _, _, rfl, rfl, e, ?_, ?_⟩⟩
        · rw [show (0 : Int) + (i : Int) = (i : Int) by omega]
          exact at_n (getn hzi)
        · rw [List.length_map, P_len dr]
          exact szl (Nat.le_trans (List.length_take_le' _ _) (by omega))
        · refine ⟨ds ++ [d], _, _, _, _, rfl, sm.mut np, ?_, drawn_snoc dr hzi hd⟩
          dsimp only
          rw [upd_same, ed, List.map_append]
          rfl
      · rintro σ H' ⟨ds, v4, v5, v6, v7, rfl, sm, e, dr⟩
        rw [List.take_length] at dr
        exact ⟨_, rfl, q p ds H' sm np e dr⟩
end
/-- the errors' classes, as the written part has them -/
structure Exm (P : Program) (K : PySem.W.Frag) (mg : Str → Option Value) (CN CB CT fJ : Addr) : Prop where
  own : PySem.OwX.OwnTxt P K CT fJ ["what", "most"]
  gN : mg "TooMany" = some (.ref CT)
  gB : mg "BusError" = some (.ref CB)
  gD : mg "BadNumber" = some (.ref CN)
  ec : ExcC K CT
  xf : XfC K CT
  te : PySem.W.exmOne K (.ref CT) (.ref CB) = some true
  kT : PySem.W.kitOne K (.ref CT) (.ref CT) = some true
  kV : PySem.W.kitOne K (.ref CT) (.type "ValueError") = some true
  kN : PySem.W.kitOne K (.ref CT) (.ref CN) = some false
/-- the error with its fields -/
def Err (CT : Addr) (R : Hp → Prop) (H : Hp) (E : XK) : Prop := ∀ d H', R H' → H d = none → H' d = some (.xd [("most", .int 2000), ("what", .str "lots")]) → E (.ref CT) (some d) H'
theorem lk_what {x y : V} : List.lookup ("what" : Str) [(("most" : Str), x), (("what" : Str), y)] = some y := by
  have e : (("what" : Str) == ("most" : Str)) = false := by decide
  simp [List.lookup, e]
theorem lk_most {x y : V} : List.lookup ("most" : Str) [(("most" : Str), x), (("what" : Str), y)] = some x := by simp [List.lookup]
end K25W

namespace K25W
open PySem PySem.Spec PyProof.Rows L2 KH KD KP K25 LamX NdefX
abbrev sholds_all : Stmt := topS 5
theorem scholds_all : FnScope ["lot", "part", "item"] ["lot", "part"] (defScope sholds_all) := ⟨rfl, rfl, rfl, by decide +kernel, rfl, by decide +kernel, by decide +kernel⟩

abbrev s_has_part : Stmt := topS 8
theorem sc_has_part : FnScope ["lot", "begun", "place", "part"] ["lot", "begun"] (defScope s_has_part) := ⟨rfl, rfl, rfl, by decide +kernel, rfl, by decide +kernel, by decide +kernel⟩

/-- what holds between two statements -/
theorem seqM {t u : TS} {D : Ends} {σ : L2.St} {H : Hp} (Mid : L2.St → Hp → Prop) (h : ∀ N : L2.St → Hp → Prop, (∀ σ' H', Mid σ' H' → N σ' H') → t { D with nx := N } σ H) (q : ∀ σ' H', Mid σ' H' → u D σ' H') : tSeq t u D σ H := h _ q
/-- a test that says b -/
def Dc (t : TT) (σ : L2.St) (H : Hp) (b : Bool) : Prop := ∀ Q : Bool → Hp → Prop, Q b H → t σ H Q
theorem Dc.and {t u : TT} {σ : L2.St} {H : Hp} {a b : Bool} (h : Dc t σ H a) (g : a = true → Dc u σ H b) : Dc (tAnd t u) σ H (a && b) := fun Q q => h _ (by
  cases a with
  | true => exact iteT (g rfl Q q)
  | false => exact iteF q)
theorem Dc.or {t u : TT} {σ : L2.St} {H : Hp} {a b : Bool} (h : Dc t σ H a) (g : a = false → Dc u σ H b) : Dc (tOr t u) σ H (a || b) := fun Q q => h _ (by
  cases a with
  | true => exact iteT q
  | false => exact iteF (g rfl Q q))
theorem Dc.ifS {c : TT} {t u : TS} {D : Ends} {σ : L2.St} {H : Hp} {b : Bool} (h : Dc c σ H b) (ht : b = true → t D σ H) (hu : b = false → u D σ H) : tIfS c t u D σ H := h _ (by
  cases b with
  | true => exact iteT (ht rfl)
  | false => exact iteF (hu rfl))
theorem in_i (k : Int) : ∀ gs : List Int, inV (V.int k) (IL gs) = gs.contains k
  | [] => rfl
  | x :: gs => by
    have ih := in_i k gs
    unfold inV IL at ih ⊢
    rw [List.map_cons, List.any_cons, ih, List.contains_cons]
    congr 1
    show ((x : Int) == (k : Int)) = (k == x)
    rw [Bool.eq_iff_iff]
    simp only [beq_iff_eq]
    omega
theorem flat_i (gs : List Int) : (IL gs).all flatV = true := List.all_eq_true.mpr fun x hx => by
  obtain ⟨_, _, rfl⟩ := List.mem_map.mp hx
  rfl
/-- lots as tuples -/
def TL (K : PySem.W.Frag) (H : Hp) (us : List V) (L : List Lot) : Prop := Paired (fun v T => ∃ a, v = V.ref a ∧ SqT K H a (IL T)) us L
theorem TL.same {K : PySem.W.Frag} {H H' : Hp} {us : List V} {L : List Lot} (h : TL K H us L) (s : Same H H') : TL K H' us L := P_mono (fun _ _ ⟨a, e, q⟩ => ⟨a, e, s.seqT q⟩) h
theorem TL.mutL {K : PySem.W.Frag} {H : Hp} {o : Addr} {vs us : List V} {L : List Lot} {x : HO} (h : TL K H vs L) (e : H o = some (.lst us)) : TL K (upd H o x) vs L := P_mono (fun _ _ ⟨t, et, q⟩ => ⟨t, et, sqT_mutL q e⟩) h
/-- lists of numbers -/
def LL (H : Hp) (us : List V) (L : List Lot) : Prop := Paired (fun v T => ∃ a, v = V.ref a ∧ H a = some (.lst (IL T))) us L
theorem LL.same {H H' : Hp} {us : List V} {L : List Lot} (h : LL H us L) (s : Same H H') : LL H' us L := P_mono (fun _ _ ⟨a, e, q⟩ => ⟨a, e, s _ _ q⟩) h
/-- the lots that begin with a number -/
def byH (i : Int) (found : List Lot) : List Lot := found.filter fun M => M.head? == some i
theorem mem_byH {i : Int} {found : List Lot} {M : Lot} : M ∈ byH i found ↔ M ∈ found ∧ ∃ r, M = i :: r := by
  unfold byH
  rw [List.mem_filter, beq_iff_eq]
  constructor
  · rintro ⟨h, e⟩
    cases M with
    | nil => cases e
    | cons x r => exact ⟨h, r, by cases e; rfl⟩
  · rintro ⟨h, r, rfl⟩
    exact ⟨h, rfl⟩
/-- lots by their first numbers, to be read -/
structure Bgr (K : PySem.W.Frag) (H : Hp) (D : Addr) (found : List Lot) : Prop where
  ex : ∃ kvs : List (Key × V), H D = some (.dK kvs) ∧ ∀ i : Int, (valV kvs (.inl i) = none ∧ byH i found = []) ∨ ∃ l us, valV kvs (.inl i) = some (.ref l) ∧ H l = some (.lst us) ∧ TL K H us (byH i found)
theorem Bgr.same {K : PySem.W.Frag} {H H' : Hp} {D : Addr} {found : List Lot} (h : Bgr K H D found) (s : Same H H') : Bgr K H' D found := by
  obtain ⟨kvs, e, q⟩ := h.ex
  refine ⟨kvs, s _ _ e, fun i => ?_⟩
  rcases q i with z | ⟨l, us, a, b, c⟩
  · exact .inl z
  · exact .inr ⟨l, us, a, s _ _ b, c.same s⟩
section
variable {P : Program} {w : World} {K : PySem.W.Frag} {mg : Str → Option Value} {base : Heap} {CN CB CT fJ : Addr}
def sp_holds (K : PySem.W.Frag) : Sp := fun vs H Q _ => ∃ (ta pa : Addr) (T M : Lot), vs = [.ref ta, .ref pa] ∧ SqT K H ta (IL T) ∧ SqT K H pa (IL M) ∧ M.length ≤ 1000 ∧ ∀ b H', Same H H' → (b = true ↔ Sub M T) → Q (.bl b) H'
theorem ok_holds {f : Addr} {fd : FuncData} (F : Fun K "holds_all" "holds_all" sholds_all f fd) (T : Txt mg) : FnOk P w K mg base CX0 1 f fd ["lot", "part"] (sp_holds K) := by
  refine F.ok scholds_all (fun vs H Q E h => ?_) (fun cdv A outer s H vs Q E hr h => ?_)
  · obtain ⟨ta, pa, L, M, rfl, _⟩ := h
    rfl
  · obtain ⟨ta, pa, L, M, rfl, et, em, hl, q⟩ := h
    refine ⟨_, (pss_one (ps_ret (pe_callB (cr_all rfl) (by rfl) T.all (by decide +kernel) (pa_cons (pe_lc (own := [("item", 2)]) (g := gName 2) (tt := tYes) rfl scholds_all.nd (pi_seq (pv 1)) (blkOk_by (N := ["lot", "part", "item"]) (sc := defScope sholds_all) (by decide +kernel)) (fun _ _ _ _ _ => (pg_name (i := 2) scholds_all.nd rfl (.inl rfl))) (fun _ _ _ _ _ => pts_nil) (fun _ _ _ _ _ => (pe_cmpR (r := rIn K false) op_in_seq (pv 2) (pv 0) (by rfl)))) pa_nil)))), ?_⟩
    refine ⟨_, rfl, ?_⟩
    refine lc_seq (K := K) (a := pa) (xs := IL M) (H0 := H) (.inr em) (Same.refl H) (fun D i H' => Same H H' ∧ H' D = some (.lst (((M.take i).map fun x => L.contains x).map V.bl))) (fun D nD => ⟨(Same.refl H).new nD, upd_same⟩) (fun D i H' _ _ ⟨s, _⟩ => s) ?_ ?_
    · rintro D i x H' nD hx ⟨sm, eD⟩
      obtain ⟨y, hy, rfl⟩ := getn_inv hx
      refine ⟨rfl, _, rfl, _, rfl, ta, _, rfl, .inr (sm.seqT et), rfl, flat_i _, _, eD, ?_, sm.mut nD, ?_⟩
      · rw [List.length_map, List.length_map]
        exact szl (Nat.le_trans (List.length_take_le' _ _) (by omega))
      · rw [upd_same, in_i, take_more hy, List.map_append, List.map_append]
        rfl
    · rintro D H' nD ⟨sm, eD⟩
      refine ⟨D, _, rfl, SqL.of eD, q _ H' sm ?_⟩
      rw [show (IL M).length = M.length by unfold IL; rw [List.length_map], List.take_length, List.all_map, List.all_eq_true]
      constructor
      · intro h x hx
        have := h x hx
        simpa using this
      · intro h x hx
        have := h x hx
        simpa using this
def sp_haspart (K : PySem.W.Frag) : Sp := fun vs H Q _ => ∃ (ta D : Addr) (T : Lot) (found : List Lot), vs = [.ref ta, .ref D] ∧ SqT K H ta (IL T) ∧ Bgr K H D found ∧ (∀ M ∈ found, M.length ≤ 1000) ∧ ∀ b H', Same H H' → (b = true ↔ part found T) → Q (.bl b) H'
theorem ok_haspart {f f1 : Addr} {fd fd1 : FuncData} (F : Fun K "_has_part" "_has_part" s_has_part f fd) (T : Txt mg) (Cholds_all : Cal P w K mg base 1 "holds_all" ["lot", "part"] (sp_holds K) f1 fd1) : FnOk P w K mg base CX0 2 f fd ["lot", "begun"] (sp_haspart K) := by
  refine F.ok sc_has_part (fun vs H Q E h => ?_) (fun cdv A outer s H vs Q E hr h => ?_)
  · obtain ⟨ta, D, L, found, rfl, _⟩ := h
    rfl
  · obtain ⟨ta, D, L, found, rfl, et, bg, hl, q⟩ := h
    refine ⟨_, (pss_cons (ps_for PassesOwn.never rfl (pi_tup (pv 0)) (pg_name (i := 2) sc_has_part.nd rfl (.inl rfl))
 (pss_one (ps_for PassesOwn.never rfl (pi_list (pe_dget2 (hu_of hr) (pv 1) (pv 2) (pe_lst pa_nil) ⟨by rfl, by rfl, by rfl, by rfl⟩)) (pg_name (i := 3) sc_has_part.nd rfl (.inl rfl))
 (pss_one (ps_if (pt_val (pe_call Cholds_all.ok (hr.mono (by decide)) (by rfl) Cholds_all.mg Cholds_all.kp Cholds_all.b .nil pass0 (pa_cons (pv 0) (pa_cons (pv 3) pa_nil))))
 (pss_one (ps_ret pe_bl))
 pss_nil)))))
 (pss_one (ps_ret pe_bl))), ?_⟩
    refine ⟨_, rfl, ta, rfl, ⟨_, et⟩, for_tup (K := K) (a := ta) (xs := IL L) (fun i σ H' => ∃ (v2 v3 : Option V), σ = [some (.ref ta), some (.ref D), v2, v3] ∧ Same H H' ∧ ∀ x ∈ L.take i, ∀ M ∈ byH x found, ¬ Sub M L)
      ⟨none, none, rfl, Same.refl H, fun x h => by rw [List.take_zero] at h; cases h⟩ (fun i σ H' _ ⟨_, _, _, sm, _⟩ => sm.seqT et) ?_ ?_⟩
    · rintro i x σ H1 hx ⟨v2, v3, rfl, s1, no⟩
      obtain ⟨y, hy, rfl⟩ := getn_inv hx
      have bg1 := bg.same s1
      obtain ⟨kvs, eD, cases_⟩ := bg1.ex
      refine ⟨_, rfl, D, rfl, .inl ⟨kvs, .inl eD⟩, _, rfl, Nat.zero_le _, fun z nz => ⟨_, DGet.k (k := .inl y) (by rw [upd_ne (ne_of_none eD nz)]; exact eD), ?_⟩⟩
      have sz : Same H1 (upd H1 z (.lst [])) := (Same.refl H1).new nz
      have ez : (upd H1 z (.lst [])) z = some (.lst []) := upd_same
      have bz := bg1.same sz
      generalize upd H1 z (.lst []) = H2 at sz ez bz ⊢
      have s2 := s1.trans sz
      have key : ∃ l us, (valV kvs (.inl y)).getD (.ref z) = .ref l ∧ H2 l = some (.lst us) ∧ TL K H2 us (byH y found) := by
        rcases cases_ y with ⟨a, b⟩ | ⟨l, us, a, b, c⟩
        · exact ⟨z, [], by rw [a]; rfl, ez, by rw [b]; exact .nil⟩
        · exact ⟨l, us, by rw [a]; rfl, sz _ _ b, c.same sz⟩
      obtain ⟨l, us, el, eu, tl⟩ := key
      rw [el]
      refine ⟨l, rfl, ⟨_, SqL.of eu⟩, for_list (K := K) (a := l) (xs := us) (fun j σ H' => ∃ (v3 : Option V), σ = [some (.ref ta), some (.ref D), some (.int y), v3] ∧ Same H2 H' ∧ ∀ M ∈ (byH y found).take j, ¬ Sub M L)
        ⟨v3, rfl, Same.refl H2, fun M h => by rw [List.take_zero] at h; cases h⟩ (fun j σ H' _ ⟨_, _, sm, _⟩ => SqL.of (sm _ _ eu)) ?_ ?_⟩
      · rintro j v σ H3 hv ⟨v3, rfl, s3, no2⟩
        obtain ⟨M, hM, p, rfl, ep⟩ := P_right tl hv
        have hmem := (mem_byH.mp (List.mem_of_getElem? hM)).1
        refine ⟨_, rfl, _, rfl, ta, p, L, M, rfl, (s2.trans s3).seqT et, s3.seqT ep, hl M hmem, fun b H4 s4 hb => ⟨_, rfl, ?_⟩⟩
        cases b with
        | true =>
          have sub := hb.mp rfl
          obtain ⟨_, r, er⟩ := mem_byH.mp (List.mem_of_getElem? hM)
          exact iteT (q true H4 ((s2.trans s3).trans s4) ⟨fun _ => ⟨M, hmem, (by rw [er]; exact fun z => by cases z), sub⟩, fun _ => rfl⟩)
        | false =>
          refine iteF ⟨_, rfl, s3.trans s4, fun M' h' => ?_⟩
          rw [take_more hM] at h'
          rcases List.mem_append.mp h' with h | h
          · exact no2 M' h
          · rw [List.mem_singleton.mp h]
            exact fun z => by cases hb.mpr z
      · rintro σ H3 ⟨v3, rfl, s3, no2⟩
        rw [P_len tl, List.take_length] at no2
        refine ⟨_, _, rfl, s2.trans s3, fun x hx M hM => ?_⟩
        rw [take_more hy] at hx
        rcases List.mem_append.mp hx with h | h
        · exact no x h M hM
        · rw [List.mem_singleton.mp h] at hM
          exact no2 M hM
    · rintro σ H1 ⟨v2, v3, rfl, s1, no⟩
      rw [show (IL L).length = L.length by unfold IL; rw [List.length_map], List.take_length] at no
      refine q false H1 s1 ⟨fun z => Bool.noConfusion z, ?_⟩
      rintro ⟨M, hM, ne, s⟩
      cases M with
      | nil => exact (ne rfl).elim
      | cons x r => exact absurd s (no x (s x List.mem_cons_self) (x :: r) (mem_byH.mpr ⟨hM, r, rfl⟩))
end
end K25W

namespace K25W
open PySem PySem.Spec PyProof.Rows L2 KH KD KP K25 LamX NdefX
abbrev s_enlarged : Stmt := topS 9
theorem sc_enlarged : FnScope ["missed", "most", "longer", "lot", "places", "place"] ["missed", "most"] (defScope s_enlarged) := ⟨rfl, rfl, rfl, by decide +kernel, rfl, by decide +kernel, by decide +kernel⟩

/-! ### tuples sorted -/
/-- tuples with at least one number -/
structure NT where
  hd : Int
  tl : List Int
  deriving DecidableEq
def NT.tup (t : NT) : PySem.W.Tup Int := ⟨t.hd :: t.tl⟩
theorem NT.inj {t u : NT} (h : t.tup = u.tup) : t = u := by
  cases t
  cases u
  unfold NT.tup at h
  cases h
  rfl
instance : PySem.W.Datum NT where
  toD t := PySem.W.Datum.toD t.tup
  plain t := PySem.W.Datum.plain t.tup
  eqv t u := (PySem.W.Datum.eqv t.tup u.tup).trans (decide_eq_decide.mpr ⟨NT.inj, fun e => by rw [e]⟩)
  depth := PySem.W.Datum.depth (PySem.W.Tup Int)
  depth_le t := PySem.W.Datum.depth_le t.tup
instance : PySem.W.DatumOrd NT where
  lt t u := PySem.W.DatumOrd.lt t.tup u.tup
  alike t u := PySem.W.DatumOrd.alike t.tup u.tup
  notNone a := PySem.W.DatumOrd.notNone a.tup
  lt_eq t u := PySem.W.DatumOrd.lt_eq t.tup u.tup
def toNT (T : Lot) : NT := ⟨T.headD 0, T.tail⟩
theorem toNT_tup {T : Lot} (h : T ≠ []) : (toNT T).tup = ⟨T⟩ := by
  cases T with
  | nil => exact (h rfl).elim
  | cons x r => rfl
theorem sortT : ∀ bs : List NT, PySem.W.Sortable (bs.map PySem.W.Datum.toD) := fun bs => PySem.W.Sortable.tuples (enc := PySem.W.Datum.toD (α := NT)) fun b => ⟨_, _, rfl⟩
theorem sortL : ∀ bs : List (List Int), PySem.W.Sortable (bs.map PySem.W.Datum.toD) := fun bs => PySem.W.Sortable.others (enc := PySem.W.Datum.toD (α := List Int)) fun b => ⟨fun z => (by cases z), fun xs z => (by cases z)⟩
theorem listLt_lx : ∀ a b : Lot, PySem.W.listLt a b = lx a b
  | [], [] => rfl
  | [], _ :: _ => rfl
  | _ :: _, [] => rfl
  | x :: a, y :: b => by
    show (if x = y then PySem.W.listLt a b else decide (x < y)) = if x = y then lx a b else decide (x < y)
    rw [listLt_lx a b]
theorem lx_anti : ∀ a b : Lot, lx a b = false → lx b a = false → a = b
  | [], [], _, _ => rfl
  | [], _ :: _, h, _ => by cases h
  | _ :: _, [], _, h => by cases h
  | x :: a, y :: b, h, g => by
    unfold lx at h g
    by_cases e : x = y
    · rw [if_pos e] at h
      rw [if_pos e.symm] at g
      rw [e, lx_anti a b h g]
    · rw [if_neg e] at h
      rw [if_neg fun z => e z.symm] at g
      simp only [decide_eq_false_iff_not] at h g
      omega
def le (a b : Lot) : Bool := !lx b a
theorem le_tr (a b c : Lot) (h : le a b = true) (g : le b c = true) : le a c = true := by
  unfold le at *
  simp only [Bool.not_eq_true'] at *
  cases e : lx c a with
  | false => rfl
  | true =>
    cases e1 : lx a b with
    | true => rw [lx_tr c a b e e1] at g; cases g
    | false =>
      have := lx_anti a b e1 h
      subst this
      rw [e] at g
      cases g
theorem le_tot (a b : Lot) : (le a b || le b a) = true := by
  unfold le
  cases h : lx b a with
  | false => rfl
  | true =>
    cases g : lx a b with
    | false => rfl
    | true =>
      have := lx_tr a b a g h
      rw [lx_irr] at this
      cases this
def sortS (L : List Lot) : List Lot := L.mergeSort le
theorem sortS_mem {L : List Lot} {T : Lot} : T ∈ sortS L ↔ T ∈ L := (List.mergeSort_perm L le).mem_iff
theorem sortS_len (L : List Lot) : (sortS L).length = L.length := (List.mergeSort_perm L le).length_eq
theorem sortS_lt {L : List Lot} (nd : L.Nodup) : (sortS L).Pairwise fun a b => lx a b = true := by
  have h := List.pairwise_mergeSort (le := le) (fun a b c => le_tr a b c) (fun a b => le_tot a b) L
  have nd2 : (sortS L).Nodup := (List.mergeSort_perm L le).nodup_iff.mpr nd
  refine List.Pairwise.imp (fun {a b} hab => ?_) (List.pairwise_and_iff.mpr ⟨h, nd2⟩)
  obtain ⟨h1, h2⟩ := hab
  unfold le at h1
  simp only [Bool.not_eq_true'] at h1
  cases e : lx a b with
  | true => rfl
  | false => exact absurd (lx_anti a b e h1) h2
theorem dataLe_T {a b : Lot} (ha : a ≠ []) (hb : b ≠ []) : PySem.W.dataLe false (PySem.W.Datum.toD (α := NT)) (toNT a) (toNT b) = le a b := by
  rw [PySem.W.dataLe_eq]
  show (!PySem.W.dataLt (PySem.W.Datum.toD (α := NT) (toNT b)) (PySem.W.Datum.toD (α := NT) (toNT a))) = _
  rw [PySem.W.DatumOrd.lt_eq]
  show (!PySem.W.DatumOrd.lt (toNT b).tup (toNT a).tup) = _
  rw [toNT_tup ha, toNT_tup hb]
  show (!PySem.W.listLt b a) = _
  rw [listLt_lx]
  rfl
theorem dataLe_L (a b : Lot) : PySem.W.dataLe false (PySem.W.Datum.toD (α := List Int)) a b = le a b := by
  rw [PySem.W.dataLe_eq]
  show (!PySem.W.dataLt (PySem.W.Datum.toD (α := List Int) b) (PySem.W.Datum.toD (α := List Int) a)) = _
  rw [PySem.W.DatumOrd.lt_eq]
  show (!PySem.W.listLt b a) = _
  rw [listLt_lx]
  rfl
theorem sort_T {L : List Lot} (h : ∀ T ∈ L, T ≠ []) : (L.map toNT).mergeSort (PySem.W.dataLe false PySem.W.Datum.toD) = (sortS L).map toNT := by
  unfold sortS
  exact (PySem.W.sort_maps toNT fun a ha b hb => (dataLe_T (h a ha) (h b hb)).symm).symm
theorem sort_L (L : List Lot) : L.mergeSort (PySem.W.dataLe false (PySem.W.Datum.toD (α := List Int))) = sortS L := PySem.W.sort_congr fun a _ b _ => dataLe_L a b
theorem dpall_ints {K : PySem.W.Frag} {H : Hp} : ∀ {r : Lot} {vs : List V}, DpAll K H vs (r.map PySem.W.Datum.toD) → vs = IL r
  | [], _, h => by cases h; rfl
  | k :: r, _, h => by
    cases h with
    | cons h1 h2 =>
      have e := dpall_ints (r := r) h2
      subst e
      cases h1
      rfl
theorem ints_dpall {K : PySem.W.Frag} {H : Hp} : ∀ r : Lot, DpAll K H (IL r) (r.map PySem.W.Datum.toD)
  | [] => .nil
  | k :: r => .cons (.int k) (ints_dpall r)
theorem nt_toD {T : Lot} (h : T ≠ []) : PySem.W.Datum.toD (toNT T) = .tuple (T.map PySem.W.Datum.toD) := by
  show PySem.W.Datum.toD (toNT T).tup = _
  rw [toNT_tup h]
  rfl
theorem tl_of {K : PySem.W.Frag} {H : Hp} : ∀ {L : List Lot} {ys : List V}, (∀ T ∈ L, T ≠ []) → DpAll K H ys ((L.map toNT).map PySem.W.Datum.toD) → TL K H ys L
  | [], _, _, h => by cases h; exact .nil
  | T :: L, _, ne, h => by
    cases h with
    | cons h1 h2 =>
      rw [nt_toD (ne T List.mem_cons_self)] at h1
      cases h1 with
      | tup a b => exact .cons ⟨_, rfl, by rw [← dpall_ints b]; exact a⟩ (tl_of (fun U hU => ne U (List.mem_cons_of_mem _ hU)) h2)
theorem tl_dp {K : PySem.W.Frag} {H : Hp} : ∀ {ys : List V} {L : List Lot}, (∀ T ∈ L, T ≠ []) → TL K H ys L → DpAll K H ys ((L.map toNT).map PySem.W.Datum.toD)
  | _, _, _, .nil => .nil
  | _, T :: L, ne, .cons ⟨a, e, q⟩ r => by
    subst e
    refine .cons ?_ (tl_dp (fun U hU => ne U (List.mem_cons_of_mem _ hU)) r)
    rw [nt_toD (ne T List.mem_cons_self)]
    exact .tup q (ints_dpall _)
/-! ### keys -/
def kk (T : Lot) : List Key := T.map .inl
theorem kk_V (T : Lot) : (kk T).map kV = IL T := by
  unfold kk
  rw [List.map_map]
  rfl
theorem IL_inj : ∀ {A B : Lot}, IL A = IL B → A = B
  | [], [], _ => rfl
  | [], _ :: _, h => by cases h
  | _ :: _, [], h => by cases h
  | x :: A, y :: B, h => by
    have h1 : V.int x = V.int y := (List.cons.inj h).1
    have h2 : IL A = IL B := (List.cons.inj h).2
    rw [IL_inj h2, V.int.inj h1]
theorem kk_inj {A B : Lot} (h : kk A = kk B) : A = B := by
  have := congrArg (List.map kV) h
  rw [kk_V, kk_V] at this
  exact IL_inj this
theorem put_keys (kvs : List (List Key × V)) (ks : List Lot) (U : Lot) (v : V) (h : kvs.map (·.1) = ks.map kk) : (putK kvs (kk U) v).map (·.1) = (if U ∈ ks then ks else ks ++ [U]).map kk := by
  have mem : (kvs.any fun kv => decide (kv.1 = kk U)) = decide (U ∈ ks) := by
    rw [Bool.eq_iff_iff, List.any_eq_true, decide_eq_true_eq]
    constructor
    · rintro ⟨kv, hk, e⟩
      have : kv.1 ∈ ks.map kk := by rw [← h]; exact List.mem_map.mpr ⟨kv, hk, rfl⟩
      obtain ⟨T, hT, eT⟩ := List.mem_map.mp this
      rw [of_decide_eq_true e] at eT
      rw [← kk_inj eT]
      exact hT
    · intro hU
      have : kk U ∈ kvs.map (·.1) := by rw [h]; exact List.mem_map.mpr ⟨U, hU, rfl⟩
      obtain ⟨kv, hk, e⟩ := List.mem_map.mp this
      exact ⟨kv, hk, decide_eq_true e⟩
  unfold putK
  rw [mem]
  by_cases c : U ∈ ks
  · rw [decide_eq_true c, if_pos rfl, if_pos c, ← h, List.map_map]
    refine List.map_congr_left fun kv _ => ?_
    show (if kv.1 = kk U then (kv.1, v) else kv).1 = kv.1
    split <;> rfl
  · rw [decide_eq_false c, if_neg Bool.false_ne_true, if_neg c, List.map_append, List.map_append, h]
    rfl
/-- one number more -/
def One (T : Lot) (p : Int) (U : Lot) : Prop := Asc U ∧ ∀ x, x ∈ U ↔ x ∈ T ∨ x = p
def Pr (ms : List (Lot × Lot)) (most : Nat) (U : Lot) : Prop := ∃ q ∈ ms, q.1.length < most ∧ ∃ p ∈ q.2, One q.1 p U
theorem one_uniq {T U W : Lot} {p : Int} (a : One T p U) (b : One T p W) : U = W := asc_ext a.1 b.1 fun x => by rw [a.2, b.2]
/-- lots and what they miss -/
def ML (K : PySem.W.Frag) (H : Hp) (us : List V) (ms : List (Lot × Lot)) : Prop := Paired (fun v q => ∃ t a b, v = V.ref t ∧ SqT K H t [.ref a, .ref b] ∧ SqT K H a (IL q.1) ∧ SqL K H b (IL q.2)) us ms
theorem ML.same {K : PySem.W.Frag} {H H' : Hp} {us : List V} {ms : List (Lot × Lot)} (h : ML K H us ms) (s : Same H H') : ML K H' us ms := P_mono (fun _ _ ⟨t, a, b, e, q1, q2, q3⟩ => ⟨t, a, b, e, s.seqT q1, s.seqT q2, s.seq q3⟩) h
section
variable {P : Program} {w : World} {K : PySem.W.Frag} {mg : Str → Option Value} {base : Heap} {CN CB CT fJ : Addr}
def sp_enl (K : PySem.W.Frag) : Sp := fun vs H Q _ => ∃ (ma : Addr) (us : List V) (ms : List (Lot × Lot)) (most : Nat), vs = [.ref ma, nV most] ∧ SqL K H ma us ∧ ML K H us ms ∧ ms.length ≤ 3000 ∧ (∀ q ∈ ms, q.2.length ≤ 500 ∧ q.1.length ≤ 1000 ∧ Asc q.1 ∧ ∀ x ∈ q.1, x ∉ q.2) ∧
  ∀ r ws L H', Same H H' → H r = none → H' r = some (.lst ws) → TL K H' ws L → (∀ U, U ∈ L ↔ Pr ms most U) → L.Pairwise (fun a b => lx a b = true) → Q (.ref r) H'
theorem ok_enl {f : Addr} {fd : FuncData} (F : Fun K "_enlarged" "_enlarged" s_enlarged f fd) (T : Txt mg) : FnOk P w K mg base CX0 1 f fd ["missed", "most"] (sp_enl K) := by
  refine F.ok sc_enlarged (fun vs H Q E h => ?_) (fun cdv A outer s H vs Q E hr h => ?_)
  · obtain ⟨ma, us, ms, most, rfl, _⟩ := h
    rfl
  · obtain ⟨ma, us, ms, most, rfl, hS, hM, hl, hms, q⟩ := h
    refine ⟨_, (pss_cons (ps_set (i := 2) sc_enlarged.nd rfl (.inl rfl) pe_dnewT)
 (pss_cons (ps_for PassesOwn.never rfl (pi_list (pv 0)) (pg_tup rfl (pgs_cons (pg_name (i := 3) sc_enlarged.nd rfl (.inl rfl)) (pgs_cons (pg_name (i := 4) sc_enlarged.nd rfl (.inl rfl)) pgs_nil)))
 (pss_one (ps_if (pt_cmpR op_lt (pe_callB call_len_seq (by rfl) T.len (by decide +kernel) (pa_cons (pv 3) pa_nil)) (pv 1) (nomark _))
 (pss_one (ps_for PassesOwn.never rfl (pi_list (pv 4)) (pg_name (i := 5) sc_enlarged.nd rfl (.inl rfl))
 (pss_one (ps_dput (hu_of hr) (pv 2) (pe_callTy call_tuple_of (by rfl) T.tuple (by decide +kernel) (pa_cons (pe_callB cr_sortedI (by rfl) T.sorted (by decide +kernel) (pa_cons (pe_lst (StX.pa_star (pv 3) (pa_cons (pv 5) pa_nil))) pa_nil)) pa_nil)) pe_bl rfl))))
 pss_nil)))
 (pss_one (ps_ret (pe_callB (cr_sortedA NT hr.units (by decide) sortT) (by rfl) T.sorted (by decide +kernel) (pa_cons (pe_callTy (call_list_dT rfl) (by rfl) T.list (by decide +kernel) (pa_cons (pv 2) pa_nil)) pa_nil)))))), ?_⟩
    refine fun D nD => ?_
    have s0 : Same H (upd H D (.dT [])) := (Same.refl H).new nD
    refine ⟨_, rfl, ma, rfl, ⟨_, s0.seq hS⟩, for_list (K := K) (a := ma) (xs := us) (fun i σ H' => ∃ (v3 v4 v5 : Option V) (kvs : List (List Key × V)) (ks : List Lot), σ = [some (.ref ma), some (nV most), some (.ref D), v3, v4, v5] ∧ Same H H' ∧ H' D = some (.dT kvs) ∧ kvs.map (·.1) = ks.map kk ∧ ks.Nodup ∧ ks.length ≤ 500 * i ∧ ∀ U, U ∈ ks ↔ Pr (ms.take i) most U)
      ⟨none, none, none, [], [], rfl, s0, upd_same, rfl, List.nodup_nil, by decide, fun U => ⟨fun h => (by cases h), fun ⟨q, h, _⟩ => by rw [List.take_zero] at h; cases h⟩⟩ (fun i σ H' _ ⟨_, _, _, _, _, _, sm, _⟩ => sm.seq hS) ?_ ?_⟩
    · rintro i x σ H1 hx ⟨v3, v4, v5, kvs, ks, rfl, s1, eD, ek, nk, kl, mem⟩
      obtain ⟨⟨L, sv⟩, hq, t, a, b, rfl, et, ea, eb⟩ := P_right hM hx
      obtain ⟨l1, l2, asc, off⟩ := hms _ (List.mem_of_getElem? hq)
      have hi : i < 3000 := Nat.lt_of_lt_of_le (lt_get hq) hl
      dsimp only at et ea eb l1 l2 asc off
      refine ⟨t, _, rfl, s1.seqT et, rfl, _, _, rfl, _, _, rfl, rfl, ?_⟩
      have step : ∀ U, Pr (ms.take (i + 1)) most U ↔ Pr (ms.take i) most U ∨ (L.length < most ∧ ∃ p ∈ sv, One L p U) := fun U => by
        unfold Pr
        rw [take_more hq]
        constructor
        · rintro ⟨q, h, z⟩
          rcases List.mem_append.mp h with h | h
          · exact .inl ⟨q, h, z⟩
          · rw [List.mem_singleton.mp h] at z
            exact .inr z
        · rintro (⟨q, h, z⟩ | z)
          · exact ⟨q, List.mem_append_left _ h, z⟩
          · exact ⟨(L, sv), List.mem_append_right _ (List.mem_singleton.mpr rfl), z⟩
      refine Dc.ifS (b := decide (L.length < most)) (fun Q q => ⟨_, rfl, a, _, rfl, .inr (s1.seqT ea), _, rfl, _, _, rfl, rfl, _, rfl, ?_⟩) (fun hlt => ?_) (fun hlt => ?_)
      · rw [show decide ((((IL L).length : Nat) : Int) < (most : Int)) = decide (L.length < most) from decide_eq_decide.mpr (by unfold IL; rw [List.length_map]; omega)]
        exact q
      · have hlt := of_decide_eq_true hlt
        refine ⟨_, rfl, b, rfl, ⟨_, s1.seq eb⟩, for_list (K := K) (a := b) (xs := IL sv) (fun j σ H' => ∃ (v5 : Option V) (kvs : List (List Key × V)) (ks : List Lot), σ = [some (.ref ma), some (nV most), some (.ref D), some (.ref a), some (.ref b), v5] ∧ Same H H' ∧ H' D = some (.dT kvs) ∧ kvs.map (·.1) = ks.map kk ∧ ks.Nodup ∧ ks.length ≤ 500 * i + j ∧ ∀ U, U ∈ ks ↔ Pr (ms.take i) most U ∨ ∃ p ∈ sv.take j, One L p U)
          ⟨v5, kvs, ks, rfl, s1, eD, ek, nk, kl, fun U => by rw [mem, List.take_zero]; exact ⟨.inl, fun h => h.elim id fun ⟨p, h, _⟩ => by cases h⟩⟩ (fun j σ H' _ ⟨_, _, _, _, sm, _⟩ => sm.seq eb) ?_ ?_⟩
        · rintro j y σ H2 hy ⟨v5, kvs, ks, rfl, s2, eD, ek, nk, kl, mem⟩
          obtain ⟨p, hp, rfl⟩ := getn_inv hy
          have hj : j < 500 := Nat.lt_of_lt_of_le (lt_get hp) l1
          have noT : p ∉ L := fun z => off p z (List.mem_of_getElem? hp)
          refine ⟨_, rfl, _, rfl, a, _, rfl, .inl (s2.seqT ea), _, rfl, ?_, fun l nl => ?_⟩
          · rw [List.length_append]
            unfold IL
            rw [List.length_map]
            exact szle (by show L.length + 1 ≤ 10000; omega)
          have sl : Same H2 (upd H2 l (.lst (IL (L ++ [p])))) := (Same.refl H2).new nl
          have el : (upd H2 l (.lst (IL (L ++ [p])))) l = some (.lst (IL (L ++ [p]))) := upd_same
          rw [← IL_snoc]
          generalize upd H2 l (.lst (IL (L ++ [p]))) = H3 at sl el ⊢
          refine ⟨l, L ++ [p], rfl, SqL.of el, fun U g pm pw ng => ?_⟩
          have one : One L p U := by
            have nd : (L ++ [p]).Nodup := List.nodup_append.mpr ⟨asc.nd, by simp, fun x hx y hy e => noT (by rw [← List.mem_singleton.mp hy, ← e]; exact hx)⟩
            refine ⟨?_, fun x => by rw [pm.mem_iff]; simp⟩
            refine List.Pairwise.imp (fun {a b} h => ?_) (List.pairwise_and_iff.mpr ⟨pw, pm.nodup_iff.mpr nd⟩)
            obtain ⟨h1, h2⟩ := h
            omega
          have sg : Same H3 (upd H3 g (.lst (IL U))) := (Same.refl H3).new ng
          have eg : (upd H3 g (.lst (IL U))) g = some (.lst (IL U)) := upd_same
          generalize upd H3 g (.lst (IL U)) = H4 at sg eg ⊢
          refine ⟨g, _, rfl, .inl ⟨SqL.of eg, fun k nk' => ?_⟩⟩
          have sk : Same H4 (upd H4 k (.tup (IL U))) := (Same.refl H4).new nk'
          have ekk : (upd H4 k (.tup (IL U))) k = some (.tup ((kk U).map kV)) := by rw [kk_V]; exact upd_same
          generalize upd H4 k (.tup (IL U)) = H5 at sk ekk ⊢
          have s25 := sl.trans (sg.trans sk)
          have klen : kvs.length = ks.length := by
            have := congrArg List.length ek
            rwa [List.length_map, List.length_map] at this
          have hsz : kvs.length < sizeLine := by
            rw [sizeLine_eq]
            omega
          refine ⟨D, _, rfl, DPut.t (s25 _ _ eD) ekk hsz, ?_⟩
          refine ⟨_, putK kvs (kk U) (.bl true), if U ∈ ks then ks else ks ++ [U], rfl, (s2.trans s25).mut nD, upd_same, put_keys kvs ks U _ ek, ?_, ?_, fun W => ?_⟩
          · split
            · exact nk
            · rename_i h
              exact List.nodup_append.mpr ⟨nk, by simp, fun x hx y hy e => h (by rw [← List.mem_singleton.mp hy, ← e]; exact hx)⟩
          · split
            · omega
            · rw [List.length_append, List.length_singleton]
              omega
          · have e1 : W ∈ (if U ∈ ks then ks else ks ++ [U]) ↔ W ∈ ks ∨ W = U := by
              split
              · rename_i h
                exact ⟨.inl, fun z => z.elim id fun e => by rw [e]; exact h⟩
              · simp
            rw [e1, mem, take_more hp]
            constructor
            · rintro ((h | ⟨p', h, o⟩) | rfl)
              · exact .inl h
              · exact .inr ⟨p', List.mem_append_left _ h, o⟩
              · exact .inr ⟨p, List.mem_append_right _ (List.mem_singleton.mpr rfl), one⟩
            · rintro (h | ⟨p', h, o⟩)
              · exact .inl (.inl h)
              · rcases List.mem_append.mp h with h | h
                · exact .inl (.inr ⟨p', h, o⟩)
                · rw [List.mem_singleton.mp h] at o
                  exact .inr (one_uniq o one)
        · rintro σ H2 ⟨v5, kvs, ks, rfl, s2, eD, ek, nk, kl, mem⟩
          have hsl : (IL sv).length = sv.length := by unfold IL; rw [List.length_map]
          rw [hsl] at kl mem
          rw [List.take_length] at mem
          exact ⟨_, _, _, kvs, ks, rfl, s2, eD, ek, nk, by omega, fun U => by
            rw [mem, step]
            exact ⟨fun h => h.elim .inl fun z => .inr ⟨hlt, z⟩, fun h => h.elim .inl fun z => .inr z.2⟩⟩
      · have hlt := of_decide_eq_false hlt
        exact ⟨_, _, _, kvs, ks, rfl, s1, eD, ek, nk, by omega, fun U => by
          rw [mem, step]
          exact ⟨.inl, fun h => h.elim id fun z => absurd z.1 hlt⟩⟩
    · rintro σ H1 ⟨v3, v4, v5, kvs, ks, rfl, s1, eD, ek, nk, kl, mem⟩
      rw [P_len hM, List.take_length] at mem
      refine ⟨_, rfl, D, kvs, rfl, .inl eD, fun p bs np ik => ?_⟩
      have s2 : Same H1 (upd H1 p (.lst (bs.map V.ref))) := (Same.refl H1).new np
      have ep : (upd H1 p (.lst (bs.map V.ref))) p = some (.lst (bs.map V.ref)) := upd_same
      have tl : TL K (upd H1 p (.lst (bs.map V.ref))) (bs.map V.ref) ks := by
        have key : ∀ {kvs : List (List Key × V)} {bs : List Addr} {ks : List Lot}, IsKeys H1 kvs bs → kvs.map (·.1) = ks.map kk → TL K H1 (bs.map V.ref) ks := fun {kvs bs ks} ik => by
          induction ik generalizing ks with
          | nil =>
            intro e
            cases ks with
            | nil => exact .nil
            | cons _ _ => cases e
          | cons h _ ih =>
            intro e
            cases ks with
            | nil => cases e
            | cons U ks =>
              rw [List.map_cons, List.map_cons] at e
              obtain ⟨e1, e2⟩ := List.cons.inj e
              refine .cons ⟨_, rfl, SqT.of ?_⟩ (ih e2)
              rw [h, e1, kk_V]
        exact (key ik ek).same s2
      generalize upd H1 p (.lst (bs.map V.ref)) = H2 at s2 ep tl ⊢
      have ne : ∀ T ∈ ks, T ≠ [] := fun T hT e => by
        obtain ⟨_, _, _, p, _, o⟩ := (mem T).mp hT
        have := (o.2 p).mpr (.inr rfl)
        rw [e] at this
        cases this
      refine ⟨p, _, ks.map toNT, rfl, SqL.of ep, tl_dp ne tl, fun ys r dp _ nr => ?_⟩
      rw [sort_T ne] at dp
      have s3 : Same H2 (upd H2 r (.lst ys)) := (Same.refl H2).new nr
      exact q r ys (sortS ks) _ ((s1.trans s2).trans s3) ((s1.trans s2).free nr) upd_same ((tl_of (fun T hT => ne T (sortS_mem.mp hT)) dp).same s3) (fun U => by rw [sortS_mem]; exact mem U) (sortS_lt nk)
end
end K25W

namespace K25W
open PySem PySem.Spec PyProof.Rows L2 KH KD KP K25 LamX NdefX
abbrev s_first_missed : Stmt := topS 11
theorem sc_first_missed : FnScope ["sets", "lot", "numbers", "number"] ["sets", "lot"] (defScope s_first_missed) := ⟨rfl, rfl, rfl, by decide +kernel, rfl, by decide +kernel, by decide +kernel⟩

abbrev sall_hits : Stmt := topS 12
theorem scall_hits : FnScope ["sets", "most", "held", "witness", "numbers", "lot"] ["sets", "most"] (defScope sall_hits) := ⟨rfl, rfl, rfl, by decide +kernel, rfl, by decide +kernel, by decide +kernel⟩

/-- the nested def -/
def sw : Stmt := (defBody sall_hits).getD 2 (.Pass ⟨0, 0, 0, 0⟩)
/-- lists that are read -/
def LS (K : PySem.W.Frag) (H : Hp) (us : List V) (L : List Lot) : Prop := Paired (fun v T => ∃ a, v = V.ref a ∧ SqL K H a (IL T)) us L
theorem LS.same {K : PySem.W.Frag} {H H' : Hp} {us : List V} {L : List Lot} (h : LS K H us L) (s : Same H H') : LS K H' us L := P_mono (fun _ _ ⟨a, e, q⟩ => ⟨a, e, s.seq q⟩) h
theorem fm_at {ss : List Lot} {T : Lot} {i : Nat} {s : Lot} (h : ss[i]? = some s) (miss : missB T s = true) (low : ∀ t ∈ ss.take i, missB T t = false) : fm ss T = some s := by
  have e : ss = ss.take i ++ s :: ss.drop (i + 1) := by
    have hl := lt_get h
    rw [show s = ss[i] from ((List.getElem?_eq_some_iff.mp h).2).symm, ← List.drop_eq_getElem_cons hl, List.take_append_drop]
  unfold fm
  rw [e, List.find?_append, List.find?_eq_none.mpr fun t ht => by rw [low t ht]; exact Bool.false_ne_true, List.find?_cons, miss]
  rfl
section
variable {P : Program} {w : World} {K : PySem.W.Frag} {mg : Str → Option Value} {base : Heap} {CN CB CT fJ : Addr}
def sp_fmiss (K : PySem.W.Frag) : Sp := fun vs H Q _ => ∃ (ha ta : Addr) (us : List V) (ss : List Lot) (T : Lot), vs = [.ref ha, .ref ta] ∧ SqL K H ha us ∧ LS K H us ss ∧ SqT K H ta (IL T) ∧ T.length ≤ 1000 ∧
  (fm ss T = none → ∀ H', Same H H' → Q .non H') ∧ ∀ (s : Lot) (a : Addr) (i : Nat) H', fm ss T = some s → us[i]? = some (.ref a) → ss[i]? = some s → Same H H' → Q (.ref a) H'
theorem ok_fmiss {f : Addr} {fd : FuncData} (F : Fun K "_first_missed" "_first_missed" s_first_missed f fd) (T : Txt mg) : FnOk P w K mg base CX0 1 f fd ["sets", "lot"] (sp_fmiss K) := by
  refine F.ok sc_first_missed (fun vs H Q E h => ?_) (fun cdv A outer s H vs Q E hr h => ?_)
  · obtain ⟨ha, ta, us, ss, L, rfl, _⟩ := h
    rfl
  · obtain ⟨ha, ta, us, ss, L, rfl, hS, hL, hT, hl, q0, q1⟩ := h
    refine ⟨_, (pss_cons (ps_for PassesOwn.never rfl (pi_list (pv 0)) (pg_name (i := 2) sc_first_missed.nd rfl (.inr rfl))
 (pss_one (ps_if (pt_not (pt_val (pe_callB (cr_any rfl) (by rfl) T.any (by decide +kernel) (pa_cons (pe_lc (own := [("number", 3)]) (g := gName 3) (tt := tYes) rfl sc_first_missed.nd (pi_tup (pv 1)) (blkOk_by (N := ["sets", "lot", "numbers", "number"]) (sc := defScope s_first_missed) (by decide +kernel)) (fun _ _ _ _ _ => (pg_name (i := 3) sc_first_missed.nd rfl (.inl rfl))) (fun _ _ _ _ _ => pts_nil) (fun _ _ _ _ _ => (pe_cmpR (r := rIn K false) op_in_seq (pv 3) (pv 2) (by rfl)))) pa_nil))))
 (pss_one (ps_ret (pv 2)))
 pss_nil)))
 (pss_one (ps_ret pe_non))), ?_⟩
    refine ⟨_, rfl, ha, rfl, ⟨_, hS⟩, for_list (K := K) (a := ha) (xs := us) (fun i σ H' => ∃ (v2 v3 : Option V), σ = [some (.ref ha), some (.ref ta), v2, v3] ∧ Same H H' ∧ ∀ s ∈ ss.take i, missB L s = false)
      ⟨none, none, rfl, Same.refl H, fun s h => by rw [List.take_zero] at h; cases h⟩ (fun i σ H' _ ⟨_, _, _, sm, _⟩ => sm.seq hS) ?_ ?_⟩
    · rintro i x σ H1 hx ⟨v2, v3, rfl, s1, low⟩
      obtain ⟨sv, hs, a, rfl, ea⟩ := P_right hL hx
      refine ⟨_, rfl, ta, rfl, ⟨_, s1.seqT hT⟩, fun D nD => ?_⟩
      refine lc_tup (K := K) (a := ta) (xs := IL L) (fun i H' => Same H1 H' ∧ H' D = some (.lst (((L.take i).map fun x => sv.contains x).map V.bl))) ⟨(Same.refl H1).new nD, upd_same⟩ (fun i H' _ ⟨s, _⟩ => (s1.trans s).seqT hT) ?_ ?_
      · rintro j y H2 hy ⟨s2, eD⟩
        obtain ⟨p, hp, rfl⟩ := getn_inv hy
        refine ⟨rfl, _, rfl, _, rfl, a, _, rfl, .inl ((s1.trans s2).seq ea), rfl, flat_i _, _, eD, ?_, s2.mut nD, ?_⟩
        · rw [List.length_map, List.length_map]
          exact szl (Nat.le_trans (List.length_take_le' _ _) (by omega))
        · rw [upd_same, in_i, take_more hp, List.map_append, List.map_append]
          rfl
      rintro H2 ⟨s2, eD⟩
      rw [show (IL L).length = L.length by unfold IL; rw [List.length_map], List.take_length] at eD
      refine ⟨D, _, rfl, SqL.of eD, _, rfl, ?_⟩
      have em : (!(L.map fun x => sv.contains x).any id) = missB L sv := by
        unfold missB
        rw [List.any_map]
        rfl
      dsimp only
      rw [em]
      cases c : missB L sv with
      | true => exact iteT ⟨_, rfl, q1 sv a i H2 (fm_at hs c low) hx hs (s1.trans s2)⟩
      | false =>
        refine iteF ⟨_, _, rfl, s1.trans s2, fun t ht => ?_⟩
        rw [take_more hs] at ht
        rcases List.mem_append.mp ht with h | h
        · exact low t h
        · rw [List.mem_singleton.mp h]
          exact c
    · rintro σ H1 ⟨v2, v3, rfl, s1, low⟩
      rw [P_len hL, List.take_length] at low
      refine q0 ?_ H1 s1
      unfold fm
      exact List.find?_eq_none.mpr fun t ht => by rw [low t ht]; exact Bool.false_ne_true
/-- the nested def, as the search calls it -/
def sp_wit (K : PySem.W.Frag) (ws : List (Option V)) : Sp := fun vs H Q _ => ∃ (ha ta : Addr) (us : List V) (ss : List Lot) (T : Lot), vs = [.ref ta] ∧ ws = [some (.ref ha)] ∧ SqL K H ha us ∧ LS K H us ss ∧ SqT K H ta (IL T) ∧ T.length ≤ 1000 ∧
  (fm ss T = none → ∀ H', Same H H' → Q .non H') ∧ ∀ (s : Lot) (a : Addr) (i : Nat) H', fm ss T = some s → us[i]? = some (.ref a) → ss[i]? = some s → Same H H' → Q (.ref a) H'
theorem ok_wit {f1 : Addr} {fd1 : FuncData} (T : Txt mg) (C_first_missed : Cal P w K mg base 1 "_first_missed" ["sets", "lot"] (sp_fmiss K) f1 fd1) (q : Str) (cl : List (Str × Addr)) (c f : Addr) : NOk P w K mg base CX0 2 f (NF.of sw "witness" q cl c) ["lot"] ["held"] (sp_wit K) := by
  refine nok_of (N := ["lot", "held"]) (nscope_by (show nscB ["lot", "held"] ["lot"] ["held"] (C8.fnScope sw) = true by decide +kernel)) (fun doc pm ctv us hl => match us, hl with | [_], _ => rfl) (fun ws vs H Q E h => ?_) (fun A outer s H vs ws Q E hr hf hc hl h => ?_)
  · obtain ⟨ha, ta, us, ss, L, rfl, _⟩ := h
    rfl
  · obtain ⟨ha, ta, us, ss, L, rfl, rfl, h⟩ := h
    refine ⟨_, pss_one (ps_ret (pe_call C_first_missed.ok hr (by rfl) C_first_missed.mg C_first_missed.kp C_first_missed.b .nil pass0 (pa_cons (pe_var (i := 1) rfl (.inr (.inr rfl))) (pa_cons (pe_var (i := 0) rfl (.inl rfl)) pa_nil)))), ?_⟩
    obtain ⟨h1, h2, h3, h4, h5, h6⟩ := h
    exact ⟨_, rfl, _, rfl, ha, ta, us, ss, L, rfl, h1, h2, h3, h4, h5, h6⟩
end
end K25W

namespace K25W
open PySem PySem.Spec PyProof.Rows L2 KH KD KP K25 LamX NdefX
abbrev sleast_hits : Stmt := topS 10
theorem scleast_hits : FnScope ["witness", "most", "found", "begun", "looked", "lots", "good", "missed", "lot", "places"] ["witness", "most"] (defScope sleast_hits) := ⟨rfl, rfl, rfl, by decide +kernel, rfl, by decide +kernel, by decide +kernel⟩

/-! ### lots by their first numbers -/
structure Bg (K : PySem.W.Frag) (H0 H : Hp) (D : Addr) (Pt : Addr → Prop) (found : List Lot) : Prop where
  ex : ∃ (kvs : List (Key × V)) (ad : Int → Addr), H D = some (.dK kvs) ∧ kvs.length ≤ found.length ∧ (∀ i j, valV kvs (.inl i) ≠ none → valV kvs (.inl j) ≠ none → ad i = ad j → i = j) ∧
    ∀ i : Int, (valV kvs (.inl i) = none ∧ byH i found = []) ∨ (valV kvs (.inl i) = some (.ref (ad i)) ∧ H0 (ad i) = none ∧ ¬ Pt (ad i) ∧ ∃ us, H (ad i) = some (.lst us) ∧ TL K H us (byH i found))
section
variable {K : PySem.W.Frag} {H0 H H' : Hp} {D : Addr} {Pt : Addr → Prop} {found : List Lot}
theorem Bg.same (h : Bg K H0 H D Pt found) (s : Same H H') : Bg K H0 H' D Pt found := by
  obtain ⟨kvs, ad, e, l, inj, q⟩ := h.ex
  refine ⟨kvs, ad, s _ _ e, l, inj, fun i => ?_⟩
  rcases q i with z | ⟨a, b, c, us, d, t⟩
  · exact .inl z
  · exact .inr ⟨a, b, c, us, s _ _ d, t.same s⟩
theorem Bg.toR (h : Bg K H0 H D Pt found) : Bgr K H D found := by
  obtain ⟨kvs, ad, e, _, _, q⟩ := h.ex
  refine ⟨kvs, e, fun i => ?_⟩
  rcases q i with z | ⟨a, _, _, us, d, t⟩
  · exact .inl z
  · exact .inr ⟨_, us, a, d, t⟩
/-- one more list that is apart -/
theorem Bg.more (h : Bg K H0 H D Pt found) {z : Addr} (nz : H z = none) : Bg K H0 H D (fun a => Pt a ∨ a = z) found := by
  obtain ⟨kvs, ad, e, l, inj, q⟩ := h.ex
  refine ⟨kvs, ad, e, l, inj, fun i => ?_⟩
  rcases q i with z | ⟨a, b, c, us, d, t⟩
  · exact .inl z
  · exact .inr ⟨a, b, (fun x => x.elim c fun e => (by rw [e, nz] at d; cases d)), us, d, t⟩
theorem Bg.less {Pt' : Addr → Prop} (h : Bg K H0 H D Pt found) (w : ∀ a, Pt' a → Pt a) : Bg K H0 H D Pt' found := by
  obtain ⟨kvs, ad, e, l, inj, q⟩ := h.ex
  refine ⟨kvs, ad, e, l, inj, fun i => ?_⟩
  rcases q i with z | ⟨a, b, c, us, d, t⟩
  · exact .inl z
  · exact .inr ⟨a, b, fun x => c (w _ x), us, d, t⟩
/-- a list apart is changed -/
theorem Bg.mutP (h : Bg K H0 H D Pt found) {o : Addr} {us us' : List V} (ho : Pt o) (e : H o = some (.lst us)) : Bg K H0 (upd H o (.lst us')) D Pt found := by
  obtain ⟨kvs, ad, eD, l, inj, q⟩ := h.ex
  refine ⟨kvs, ad, by rw [upd_ne (ne_of eD e (by intro z; cases z))]; exact eD, l, inj, fun i => ?_⟩
  rcases q i with z | ⟨a, b, c, us1, d, t⟩
  · exact .inl z
  · exact .inr ⟨a, b, c, us1, by rw [upd_ne (fun z => c (by rw [z]; exact ho))]; exact d, t.mutL e⟩
theorem byH_app (i : Int) (found : List Lot) (M : Lot) : byH i (found ++ [M]) = byH i found ++ (if M.head? = some i then [M] else []) := by
  unfold byH
  rw [List.filter_append]
  congr 1
  by_cases e : M.head? = some i
  · rw [if_pos e]
    simp [List.filter_cons, e]
  · rw [if_neg e]
    simp [List.filter_cons, e]
theorem Bg.skip (h : Bg K H0 H D Pt found) : Bg K H0 H D Pt (found ++ [[]]) := by
  obtain ⟨kvs, ad, e, l, inj, q⟩ := h.ex
  refine ⟨kvs, ad, e, by rw [List.length_append]; omega, inj, fun i => ?_⟩
  have e1 : byH i (found ++ [[]]) = byH i found := by
    rw [byH_app, if_neg (by intro z; cases z), List.append_nil]
  rw [e1]
  exact q i
end
theorem sqT_mutD {K : PySem.W.Frag} {H : Hp} {a o : Addr} {xs : List V} {kvs : List (Key × V)} {x : HO} (h : SqT K H a xs) (e : H o = some (.dK kvs)) : SqT K (upd H o x) a xs := by
  rcases h with (h | ⟨ob, h⟩) | h
  · exact .inl (.inl (by rw [upd_ne (ne_of h e (by intro z; cases z))]; exact h))
  · exact .inl (.inr ⟨ob, by rw [upd_ne (ne_of h e (by intro z; cases z))]; exact h⟩)
  · exact .inr h
/-- what a round looks at -/
def partB (found : List Lot) (U : Lot) : Bool := found.any fun M => !M.isEmpty && M.all fun x => U.contains x
theorem partB_iff {found : List Lot} {U : Lot} : partB found U = true ↔ part found U := by
  unfold partB K25.part K25.Sub
  rw [List.any_eq_true]
  constructor
  · rintro ⟨M, hM, h⟩
    simp only [Bool.and_eq_true, Bool.not_eq_true', List.isEmpty_eq_false_iff, List.all_eq_true, List.contains_eq_mem, decide_eq_true_eq] at h
    exact ⟨M, hM, h.1, h.2⟩
  · rintro ⟨M, hM, ne, s⟩
    refine ⟨M, hM, ?_⟩
    simp only [Bool.and_eq_true, Bool.not_eq_true', List.isEmpty_eq_false_iff, List.all_eq_true, List.contains_eq_mem, decide_eq_true_eq]
    exact ⟨ne, s⟩
def actL (found lots : List Lot) : List Lot := lots.filter fun U => !partB found U
def goodL (ss act : List Lot) : List Lot := act.filter fun U => (fm ss U).isNone
def missL (ss act : List Lot) : List (Lot × Lot) := act.filterMap fun U => (fm ss U).map fun s => (U, s)
theorem mem_act {found lots : List Lot} {U : Lot} : U ∈ actL found lots ↔ U ∈ lots ∧ ¬ part found U := by
  unfold actL
  rw [List.mem_filter, ← partB_iff]
  simp
theorem mem_good {ss act : List Lot} {U : Lot} : U ∈ goodL ss act ↔ U ∈ act ∧ Hit ss U := by
  unfold goodL
  rw [List.mem_filter, Option.isNone_iff_eq_none, fm_none]
theorem mem_miss {ss act : List Lot} {q : Lot × Lot} : q ∈ missL ss act ↔ q.1 ∈ act ∧ fm ss q.1 = some q.2 := by
  unfold missL
  rw [List.mem_filterMap]
  constructor
  · rintro ⟨U, hU, e⟩
    cases c : fm ss U with
    | none => rw [c] at e; cases e
    | some s =>
      rw [c] at e
      cases e
      exact ⟨hU, c⟩
  · rintro ⟨h, e⟩
    exact ⟨q.1, h, by rw [e]; rfl⟩
theorem act_more {found lots : List Lot} {i : Nat} {U : Lot} (h : lots[i]? = some U) : actL found (lots.take (i + 1)) = actL found (lots.take i) ++ (if partB found U then [] else [U]) := by
  unfold actL
  rw [take_more h, List.filter_append]
  congr 1
  cases c : partB found U <;> simp [List.filter_cons, c]
theorem good_snoc (ss act : List Lot) (U : Lot) : goodL ss (act ++ [U]) = goodL ss act ++ (if (fm ss U).isNone then [U] else []) := by
  unfold goodL
  rw [List.filter_append]
  congr 1
  cases c : (fm ss U).isNone <;> simp [List.filter_cons, c]
theorem miss_snoc (ss act : List Lot) (U : Lot) : missL ss (act ++ [U]) = missL ss act ++ (match fm ss U with | none => [] | some s => [(U, s)]) := by
  unfold missL
  rw [List.filterMap_append]
  congr 1
  cases c : fm ss U <;> simp [List.filterMap_cons, c]
theorem act_len (found lots : List Lot) : (actL found lots).length ≤ lots.length := List.length_filter_le _ _
/-- lots and what they miss, on a heap that was before -/
def MW (K : PySem.W.Frag) (H0 H : Hp) (us : List V) (ms : List (Lot × Lot)) : Prop := Paired (fun v q => ∃ t a b, v = V.ref t ∧ SqT K H t [.ref a, .ref b] ∧ SqT K H a (IL q.1) ∧ SqL K H0 b (IL q.2)) us ms
theorem MW.same {K : PySem.W.Frag} {H0 H H' : Hp} {us : List V} {ms : List (Lot × Lot)} (h : MW K H0 H us ms) (s : Same H H') : MW K H0 H' us ms := P_mono (fun _ _ ⟨t, a, b, e, q1, q2, q3⟩ => ⟨t, a, b, e, s.seqT q1, s.seqT q2, q3⟩) h
theorem MW.mutL {K : PySem.W.Frag} {H0 H : Hp} {o : Addr} {ws us : List V} {x : HO} {ms : List (Lot × Lot)} (h : MW K H0 H us ms) (e : H o = some (.lst ws)) : MW K H0 (upd H o x) us ms := P_mono (fun _ _ ⟨t, a, b, e1, q1, q2, q3⟩ => ⟨t, a, b, e1, sqT_mutL q1 e, sqT_mutL q2 e, q3⟩) h
theorem MW.ml {K : PySem.W.Frag} {H0 H : Hp} {us : List V} {ms : List (Lot × Lot)} (h : MW K H0 H us ms) (s : Same H0 H) : ML K H us ms := P_mono (fun _ _ ⟨t, a, b, e, q1, q2, q3⟩ => ⟨t, a, b, e, q1, q2, s.seq q3⟩) h
section
variable {P : Program} {w : World} {K : PySem.W.Frag} {mg : Str → Option Value} {base : Heap} {CN CB CT fJ : Addr}
def sp_least (K : PySem.W.Frag) (CT : Addr) (F : NF) (ws : List (Option V)) : Sp := fun vs H Q E => ∃ (q : Str) (cl : List (Str × Addr)) (c f ha : Addr) (most : Nat) (us : List V) (ss : List Lot), F = NF.of sw "witness" q cl c ∧ vs = [.ref f, nV most] ∧ ws = [some (.ref ha)] ∧ H f = some (FnO f F) ∧ H F.c = some (CodeO F.c F.qual) ∧ SqL K H ha us ∧ LS K H us ss ∧ most ≤ 100 ∧ (∀ s ∈ ss, s.length ≤ 500) ∧
  ((∃ seen : List Lot, seen.Nodup ∧ (∀ T ∈ seen, Lk ss most T) ∧ 2000 < seen.length) → Err CT (Same H) H E) ∧
  ∀ (L seen : List Lot) r us' H', All ss most L → seen.Nodup → (∀ T, T ∈ seen ↔ Lk ss most T) → seen.length ≤ 2000 → Same H H' → H r = none → H' r = some (.lst us') → TL K H' us' L → Q (.ref r) H'
theorem ok_least {f f1 f2 f3 : Addr} {fd fd1 fd2 fd3 : FuncData} (F : Fun K "least_hits" "least_hits" sleast_hits f fd) (T : Txt mg) (XTooMany : Exm P K mg CN CB CT fJ) (C_has_part : Cal P w K mg base 2 "_has_part" ["lot", "begun"] (sp_haspart K) f1 fd1)
    (C_enlarged : Cal P w K mg base 1 "_enlarged" ["missed", "most"] (sp_enl K) f2 fd2) (C_first_missed : Cal P w K mg base 1 "_first_missed" ["sets", "lot"] (sp_fmiss K) f3 fd3) : FnOkW P w K mg base (L2.CX P w) 4 f fd ["witness", "most"] ["held"] (sp_least K CT) := by
  refine F.okW scleast_hits (fun G ws vs H Q E h => ?_) (fun cdv A outer s H vs G ws Q E hr cells off h => ?_)
  · obtain ⟨q, cl, c, f, ha, most, us, ss, rfl, rfl, _⟩ := h
    rfl
  · obtain ⟨qn, cl, c, fw, ha, most, us, ss, rfl, rfl, rfl, ef, ec, hS, hL, hm, hss, qe, q⟩ := h
    have Wn : ∀ f, NOk P w K mg base CX0 2 f (NF.of sw "witness" qn cl c) ["lot"] ["held"] (sp_wit K) := fun f => ok_wit T C_first_missed qn cl c f
    obtain ⟨tk, hML⟩ := T.MOST_LOTS
    refine ⟨_, (pss_cons (ps_set (i := 2) scleast_hits.nd rfl (.inl rfl) (pe_lst pa_nil))
 (pss_cons (ps_set (i := 3) scleast_hits.nd rfl (.inl rfl) pe_dnewK)
 (pss_cons (ps_set (i := 4) scleast_hits.nd rfl (.inl rfl) pe_int)
 (pss_cons (ps_set (i := 5) scleast_hits.nd rfl (.inl rfl) (pe_lst (pa_cons (pe_tup pa_nil) pa_nil)))
 (pss_cons (ps_while (passes_of rfl) (pt_truth (pv 5) (by intro _; rfl))
 (pss_cons (ps_set (i := 6) scleast_hits.nd rfl (.inl rfl) (pe_lst pa_nil))
 (pss_cons (ps_set (i := 7) scleast_hits.nd rfl (.inl rfl) (pe_lst pa_nil))
 (pss_cons (ps_for (passes_of rfl) rfl (pi_list (pv 5)) (pg_name (i := 8) scleast_hits.nd rfl (.inl rfl))
 (pss_one (ps_if (pt_not (pt_val (pe_call C_has_part.ok (hr.mono (by decide)) (by rfl) C_has_part.mg C_has_part.kp C_has_part.b .nil pass0 (pa_cons (pv 8) (pa_cons (pv 3) pa_nil)))))
 (pss_cons (ps_aug (i := 4) scleast_hits.nd rfl (.inl rfl) pe_int ip_add)
 (pss_cons (ps_if (pt_cmpR op_gt (pv 4) (pe_glob (v := .int 2000) rfl hML ⟨_, rfl⟩) (nomark _))
 (pss_one (ps_raiseOwnS rfl XTooMany.own XTooMany.gN T.super (by decide) (by decide) (by simp) hr (takes_of rfl rfl rfl rfl) (by exact (pa_cons pe_str (pa_cons (pe_glob (v := .int 2000) rfl hML ⟨_, rfl⟩) pa_nil))) rfl))
 pss_nil)
 (pss_cons (ps_set (i := 9) scleast_hits.nd rfl (.inl rfl) (pe_callW (i := 0) cells off rfl Wn (hr.mono (by decide)) (Nat.le_refl _) pass0 rfl (.inl rfl) (by exact (pa_cons (pv 8) pa_nil))))
 (pss_one (ps_if (pt_cmpR op_isN (pv 9) pe_non (nomark _))
 (pss_one (ps_expr (pe_bm PySem.F.plainAttrs_list PySem.F.slot_list_append PySem.F.type_list_append mt_append (pv 6) (pa_cons (pv 8) pa_nil))))
 (pss_one (ps_expr (pe_bm PySem.F.plainAttrs_list PySem.F.slot_list_append PySem.F.type_list_append mt_append (pv 7) (pa_cons (pe_tup (pa_cons (pv 8) (pa_cons (pv 9) pa_nil))) pa_nil)))))))))
 pss_nil)))
 (pss_cons (ps_for (passes_of rfl) rfl (pi_list (pv 6)) (pg_name (i := 8) scleast_hits.nd rfl (.inl rfl))
 (pss_one (ps_if (pt_truth (pv 8) (by intro _; rfl))
 (pss_one (ps_expr (pe_bm PySem.F.plainAttrs_list PySem.F.slot_list_append PySem.F.type_list_append mt_append (pe_dsetd (pv 3) (pe_ix ix_tup (pv 8) pe_int (fun _ _ => rfl)) (pe_lst pa_nil) ⟨by rfl, by rfl, by rfl, by rfl⟩) (pa_cons (pv 8) pa_nil))))
 pss_nil)))
 (pss_cons (ps_expr (pe_bm PySem.F.plainAttrs_list PySem.F.slot_list_extend PySem.F.type_list_extend mt_extend (pv 2) (pa_cons (pv 6) pa_nil)))
 (pss_one (ps_set (i := 5) scleast_hits.nd rfl (.inl rfl) (pe_call C_enlarged.ok (hr.mono (by decide)) (by rfl) C_enlarged.mg C_enlarged.kp C_enlarged.b .nil pass0 (pa_cons (pv 7) (pa_cons (pv 1) pa_nil)))))))))))
 (pss_one (ps_ret (pv 2)))))))), ?_⟩
    -- found, begun, looked, lots
    refine ⟨Nat.zero_le _, fun fo nfo D nD => ⟨Nat.zero_le _, fun t0 nt0 => ⟨(by show 1 ≤ sizeLine; decide), fun lo nlo => ?_⟩⟩⟩
    have k1 : Same H (upd H fo (.lst [])) := (Same.refl H).new nfo
    have nD0 : H D = none := k1.free nD
    have k2 := (Same.refl (upd H fo (.lst []))).new (o := .dK []) nD
    have k3 := (Same.refl (upd (upd H fo (.lst [])) D (.dK []))).new (o := .tup []) nt0
    have k4 := (Same.refl (upd (upd (upd H fo (.lst [])) D (.dK [])) t0 (.tup []))).new (o := .lst [.ref t0]) nlo
    have s1 := k1.trans (k2.trans (k3.trans k4))
    have efo := (k2.trans (k3.trans k4)) fo _ upd_same
    have eD := (k3.trans k4) D _ upd_same
    have et0 := k4 t0 _ upd_same
    have elo : (upd (upd (upd (upd H fo (.lst [])) D (.dK [])) t0 (.tup [])) lo (.lst [.ref t0])) lo = some (.lst [.ref t0]) := upd_same
    generalize upd (upd (upd (upd H fo (.lst [])) D (.dK [])) t0 (.tup [])) lo (.lst [.ref t0]) = H1 at s1 efo eD et0 elo ⊢
    refine ⟨fun m σ H' => ∃ (r looked : Nat) (found lots : List Lot) (lo : Addr) (usf usl : List V) (v6 v7 v8 v9 : Option V), σ = [some (.ref fw), some (nV most), some (.ref fo), some (.ref D), some (nV looked), some (.ref lo), v6, v7, v8, v9] ∧ Same H H' ∧ H' fo = some (.lst usf) ∧ TL K H' usf found ∧ Bg K H H' D (fun a => a = fo) found ∧ H' lo = some (.lst usl) ∧ TL K H' usl lots ∧ Rd ss most r looked found lots ∧ looked ≤ 2000 ∧ m = most + 2 - r,
      ⟨_, 0, 0, [], [[]], lo, [], [.ref t0], none, none, none, none, rfl, s1, efo, .nil, ⟨[], fun _ => 0, eD, Nat.le_refl _, fun i j h => (h rfl).elim, fun i => .inl ⟨rfl, rfl⟩⟩, elo, .cons ⟨t0, rfl, SqT.of et0⟩ .nil, Rd.start ss most, by decide, rfl⟩, ?_⟩
    clear s1 efo eD et0 elo k1 k2 k3 k4 nlo nt0
    rintro m σ H2 ⟨r, looked, found, lots, lo, usf, usl, v6, v7, v8, v9, rfl, s2, efo, tlf, bg, elo, tll, rd, hlk, rfl⟩
    refine ⟨_, rfl, !usl.isEmpty, .inl ⟨usl, SqL.of elo, rfl⟩, ?_⟩
    by_cases hne : lots = []
    · subst hne
      have : usl = [] := List.length_eq_zero_iff.mp (P_len tll)
      subst this
      obtain ⟨all, seen, n1, n2, n3⟩ := rd.all
      exact iteF ⟨_, rfl, q found seen fo usf H2 all n1 n2 (by omega) s2 nfo efo tlf⟩
    have hr := rd.short hne
    have une : (!usl.isEmpty) = true := by
      cases usl with
      | nil => exact absurd (List.length_eq_zero_iff.mp (P_len tll).symm) hne
      | cons _ _ => rfl
    rw [une]
    refine iteT ⟨fun σ H' => ∃ (looked : Nat) (found lots : List Lot) (lo : Addr) (usf usl : List V) (v6 v7 v8 v9 : Option V), σ = [some (.ref fw), some (nV most), some (.ref fo), some (.ref D), some (nV looked), some (.ref lo), v6, v7, v8, v9] ∧ Same H H' ∧ H' fo = some (.lst usf) ∧ TL K H' usf found ∧ Bg K H H' D (fun a => a = fo) found ∧ H' lo = some (.lst usl) ∧ TL K H' usl lots ∧ Rd ss most (r + 1) looked found lots ∧ looked ≤ 2000, ?_, ?_⟩
    · rintro σ' H' ⟨looked, found, lots, lo, usf, usl, v6, v7, v8, v9, rfl, a1, a2, a3, a4, a5, a6, a7, a8⟩
      exact ⟨most + 2 - (r + 1), by omega, r + 1, looked, found, lots, lo, usf, usl, v6, v7, v8, v9, rfl, a1, a2, a3, a4, a5, a6, a7, a8, rfl⟩
    refine ⟨Nat.zero_le _, fun go ngo => ⟨Nat.zero_le _, fun mi nmi => ?_⟩⟩
    have c1 : Same H2 (upd H2 go (.lst [])) := (Same.refl H2).new ngo
    have c2 := (Same.refl (upd H2 go (.lst []))).new (o := .lst []) nmi
    have s3 := c1.trans c2
    have ego := c2 go _ upd_same
    have emi : (upd (upd H2 go (.lst [])) mi (.lst [])) mi = some (.lst []) := upd_same
    have gm : go ≠ mi := ne_of_none upd_same nmi
    have nmi2 : H2 mi = none := c1.free nmi
    generalize upd (upd H2 go (.lst [])) mi (.lst []) = H3 at s3 ego emi ⊢
    clear c1 c2 nmi
    refine ⟨_, rfl, lo, rfl, ⟨_, SqL.of (s3 _ _ elo)⟩, for_list (K := K) (a := lo) (xs := usl) (fun i σ H' => ∃ (v8 v9 : Option V) (ug um : List V), σ = [some (.ref fw), some (nV most), some (.ref fo), some (.ref D), some (nV (looked + (actL found (lots.take i)).length)), some (.ref lo), some (.ref go), some (.ref mi), v8, v9] ∧ Same H2 H' ∧ H' go = some (.lst ug) ∧ H' mi = some (.lst um) ∧ TL K H' ug (goodL ss (actL found (lots.take i))) ∧ MW K H H' um (missL ss (actL found (lots.take i))) ∧ looked + (actL found (lots.take i)).length ≤ 2000)
      ⟨v8, v9, [], [], rfl, s3, ego, emi, .nil, .nil, hlk⟩ (fun i σ H' _ ⟨_, _, _, _, _, sm, _⟩ => SqL.of (sm _ _ elo)) ?_ ?_⟩
    · rintro i x σ H4 hx ⟨v8, v9, ug, um, rfl, s4, ego, emi, tlg, mw, hlk2⟩
      obtain ⟨U, hU, tU, rfl, eU⟩ := P_right tll hx
      have hUm := List.mem_of_getElem? hU
      obtain ⟨aU, lU, mU⟩ := rd.asc hUm
      have am := act_more (found := found) hU
      refine ⟨_, rfl, _, rfl, tU, D, U, found, rfl, s4.seqT eU, (bg.same s4).toR, fun M hM => by have := ((rd.f M).mp hM).2.2; omega, fun b H5 s5 hb => ⟨_, rfl, ?_⟩⟩
      have s45 := s4.trans s5
      cases b with
      | true =>
        have pt : partB found U = true := partB_iff.mpr (hb.mp rfl)
        rw [pt, if_pos rfl, List.append_nil] at am
        refine iteF ⟨some (.ref tU), v9, ug, um, by rw [am]; rfl, s45, s5 _ _ ego, s5 _ _ emi, ?_, ?_, by rw [am]; exact hlk2⟩
        · rw [am]
          exact tlg.same s5
        · rw [am]
          exact mw.same s5
      | false =>
        have np : partB found U = false := by
          cases c : partB found U with
          | false => rfl
          | true => exact absurd (hb.mpr (partB_iff.mp c)) Bool.false_ne_true
        rw [np, if_neg Bool.false_ne_true] at am
        have alen : (actL found (lots.take (i + 1))).length = (actL found (lots.take i)).length + 1 := by rw [am, List.length_append, List.length_singleton]
        refine iteT ?_
        refine ⟨_, rfl, _, _, rfl, rfl, ?_⟩
        refine ⟨_, rfl, _, _, rfl, rfl, _, rfl, ?_⟩
        by_cases big : 2000 < looked + (actL found (lots.take i)).length + 1
        · rw [decide_eq_true (show (2000 : Int) < ((looked + (actL found (lots.take i)).length : Nat) : Int) + 1 by omega)]
          refine iteT ⟨rfl, fun d nd => ?_⟩
          have pw : (actL found (lots.take (i + 1))).Pairwise fun a b => lx a b = true := by
            unfold actL
            exact List.Pairwise.sublist (List.filter_sublist.trans (List.take_sublist _ _)) rd.lo
          obtain ⟨seen, n1, n2, n3⟩ := rd.looked (act := actL found (lots.take (i + 1))) (fun W hW => ⟨List.mem_of_mem_take (mem_act.mp hW).1, (mem_act.mp hW).2⟩) pw
          exact qe ⟨seen, n1, n2, by omega⟩ d _ ((s2.trans s45).new nd) ((s2.trans s45).free nd) upd_same
        rw [decide_eq_false (show ¬ (2000 : Int) < ((looked + (actL found (lots.take i)).length : Nat) : Int) + 1 by omega)]
        refine iteF (nextS (asgN ⟨fw, rfl, (s2.trans s45) _ _ ef, _, rfl, (s2.trans s45) _ _ ef, (s2.trans s45) _ _ ec, ha, tU, us, ss, U, rfl, rfl, (s2.trans s45).seq hS, hL.same (s2.trans s45), s45.seqT eU, by omega, fun none_ H6 s6 σ' e => ?_, fun sv a j H6 some_ hus hsv s6 σ' e => ?_⟩))
        · obtain rfl : σ' = [some (.ref fw), some (nV most), some (.ref fo), some (.ref D), some (nV (looked + (actL found (lots.take (i + 1))).length)), some (.ref lo), some (.ref go), some (.ref mi), some (.ref tU), some .non] := by
            rw [← e, alen]
            rfl
          clear e
          refine ⟨_, rfl, rfl, _, rfl, ?_⟩
          rw [decide_eq_true rfl]
          have ego6 := (s5.trans s6) _ _ ego
          have s26 := s45.trans s6
          have gl : ug.length ≤ 2000 := by
            rw [P_len tlg]
            exact Nat.le_trans (List.length_filter_le _ _) (by omega)
          refine iteT ⟨_, rfl, .inl ⟨rfl, _, SqL.of ego6⟩, _, rfl, go, _, _, rfl, rfl, ego6, szl (by omega), ⟨_, _, ug ++ [.ref tU], um, rfl, s26.mut ngo, upd_same, ?_, ?_, ?_, by rw [alen]; omega⟩⟩
          · rw [upd_ne (Ne.symm gm)]
            exact (s5.trans s6) _ _ emi
          · rw [am, good_snoc, none_]
            exact P_append ((tlg.same (s5.trans s6)).mutL ego6) (.cons ⟨tU, rfl, sqT_mutL (s26.seqT eU) ego6⟩ .nil)
          · rw [am, miss_snoc, none_, List.append_nil]
            exact (mw.same (s5.trans s6)).mutL ego6
        · obtain rfl : σ' = [some (.ref fw), some (nV most), some (.ref fo), some (.ref D), some (nV (looked + (actL found (lots.take (i + 1))).length)), some (.ref lo), some (.ref go), some (.ref mi), some (.ref tU), some (.ref a)] := by
            rw [← e, alen]
            rfl
          clear e
          obtain ⟨sv', hsv', a', ea', qa⟩ := P_right hL hus
          rw [hsv] at hsv'
          cases hsv'
          cases ea'
          have emi6 := (s5.trans s6) _ _ emi
          have s26 := s45.trans s6
          have ml : um.length ≤ 2000 := by
            rw [P_len mw]
            unfold missL
            exact Nat.le_trans (List.length_filterMap_le _ _) (by omega)
          refine ⟨_, rfl, rfl, _, rfl, ?_⟩
          rw [decide_eq_false (show ¬ V.ref a = V.non from fun z => by cases z)]
          refine iteF ⟨_, rfl, .inl ⟨rfl, _, SqL.of emi6⟩, _, rfl, _, rfl, sp2, fun t nt => ?_⟩
          have st : Same H6 (upd H6 t (.tup [.ref tU, .ref a])) := (Same.refl H6).new nt
          have et : (upd H6 t (.tup [.ref tU, .ref a])) t = some (.tup [.ref tU, .ref a]) := upd_same
          generalize upd H6 t (.tup [.ref tU, .ref a]) = H7 at st et ⊢
          have emi7 := st _ _ emi6
          have s27 := s26.trans st
          have s57 := (s5.trans s6).trans st
          refine ⟨mi, _, _, rfl, rfl, emi7, szl (by omega), ⟨_, _, ug, um ++ [.ref t], rfl, s27.mut nmi2, ?_, upd_same, ?_, ?_, by rw [alen]; omega⟩⟩
          · rw [upd_ne gm]
            exact s57 _ _ ego
          · rw [am, good_snoc, some_]
            show TL K _ ug (goodL ss (actL found (lots.take i)) ++ [])
            rw [List.append_nil]
            exact (tlg.same s57).mutL emi7
          · rw [am, miss_snoc, some_]
            exact P_append ((mw.same s57).mutL emi7) (.cons ⟨t, tU, a, rfl, sqT_mutL (SqT.of et) emi7, sqT_mutL (s27.seqT eU) emi7, qa⟩ .nil)
    · rintro σ H4 ⟨v8, v9, ug, um, rfl, s4, ego, emi, tlg, mw, hlk2⟩
      rw [P_len tll, List.take_length] at tlg mw hlk2 ⊢
      obtain ⟨act, eact⟩ : ∃ act, actL found lots = act := ⟨_, rfl⟩
      rw [eact] at tlg mw hlk2 ⊢
      have fl2 : found.length ≤ 2000 := by
        obtain ⟨seen, n1, n2, n3⟩ := rd.k
        have := sub_len found seen (List.Pairwise.imp (fun {a b} (h : od a b) (e : a = b) => od_irr a (by rw [← e] at h; exact h)) rd.fo) fun M hM => by
          obtain ⟨m1, m2, m3⟩ := (rd.f M).mp hM
          exact (n2 M).mpr ⟨m1.lk m3, m2⟩
        omega
      have gl : (goodL ss act).length ≤ 2000 := Nat.le_trans (List.length_filter_le _ _) (by omega)
      have mlen : (missL ss act).length ≤ 2000 := by
        unfold missL
        exact Nat.le_trans (List.length_filterMap_le _ _) (by omega)
      have bg4 : Bg K H H4 D (fun a => (a = fo ∨ a = go) ∨ a = mi) found := ((bg.more ngo).more nmi2).same s4
      have nfg : fo ≠ go := ne_of_none efo ngo
      have nfm : fo ≠ mi := ne_of_none efo nmi2
      have efo4 := s4 _ _ efo
      have tlf4 := tlf.same s4
      clear bg
      refine ⟨_, rfl, go, rfl, ⟨_, SqL.of ego⟩, for_list (K := K) (a := go) (xs := ug) (fun k σ H' => ∃ (v8 : Option V), σ = [some (.ref fw), some (nV most), some (.ref fo), some (.ref D), some (nV (looked + act.length)), some (.ref lo), some (.ref go), some (.ref mi), v8, v9] ∧ Same H H' ∧ H' go = some (.lst ug) ∧ H' mi = some (.lst um) ∧ H' fo = some (.lst usf) ∧ TL K H' usf found ∧ TL K H' ug (goodL ss act) ∧ MW K H H' um (missL ss act) ∧ Bg K H H' D (fun a => (a = fo ∨ a = go) ∨ a = mi) (found ++ (goodL ss act).take k))
        ⟨v8, rfl, s2.trans s4, ego, emi, efo4, tlf4, tlg, mw, by rw [List.take_zero, List.append_nil]; exact bg4⟩ (fun i σ H' _ ⟨_, _, _, e, _⟩ => SqL.of e) ?_ ?_⟩
      · rintro k x σ H5 hx ⟨v8, rfl, s5, ego, emi, efo, tlf, tlg, mw, bg⟩
        obtain ⟨U, hU, tU, rfl, eU⟩ := P_right tlg hx
        have etk : found ++ (goodL ss act).take (k + 1) = found ++ (goodL ss act).take k ++ [U] := by rw [take_more hU, List.append_assoc]
        rw [etk]
        refine ⟨_, rfl, !(IL U).isEmpty, .inr (.inl ⟨IL U, eU, rfl⟩), ?_⟩
        cases U with
        | nil => exact iteF ⟨_, rfl, s5, ego, emi, efo, tlf, tlg, mw, bg.skip⟩
        | cons p rest =>
          obtain ⟨kvs, ad, eD, kl, inj, cs⟩ := bg.ex
          have hfl : (found ++ (goodL ss act).take k).length ≤ 4000 := by
            rw [List.length_append]
            have := List.length_take_le' k (goodL ss act)
            omega
          refine iteT ⟨_, rfl, D, rfl, .inl ⟨kvs, .inl eD⟩, _, rfl, tU, _, 0, V.int p, rfl, rfl, eU, at_n (j := 0) rfl, Nat.zero_le _, fun z nz => ⟨kvs, .inl p, by rw [upd_ne (ne_of_none eD nz)]; exact eD, rfl, szl (by omega), fun v hv => ?_, fun hn => ?_⟩⟩
          · have sz : Same H5 (upd H5 z (.lst [])) := (Same.refl H5).new nz
            generalize upd H5 z (.lst []) = H6 at sz ⊢
            rcases cs p with ⟨c, _⟩ | ⟨c, n0, npt, us1, ea, ta⟩
            · rw [hv] at c
              cases c
            · rw [hv] at c
              cases c
              have ea6 := sz _ _ ea
              have ul : us1.length ≤ 4000 := by
                rw [P_len ta]
                exact Nat.le_trans (List.length_filter_le _ _) hfl
              have keep : ∀ o u, H5 o = some (.lst u) → ((o = fo ∨ o = go) ∨ o = mi) → (upd H6 (ad p) (.lst (us1 ++ [.ref tU]))) o = some (.lst u) := fun o u e pt => by
                rw [upd_ne fun zz => npt (by rw [← zz]; exact pt)]
                exact sz _ _ e
              refine ⟨.inl ⟨rfl, _, SqL.of ea6⟩, _, rfl, ad p, _, _, rfl, rfl, ea6, szl (by omega), ⟨_, rfl, (s5.trans sz).mut n0, keep go ug ego (.inl (.inr rfl)), keep mi um emi (.inr rfl), keep fo usf efo (.inl (.inl rfl)), (tlf.same sz).mutL ea6, (tlg.same sz).mutL ea6, (mw.same sz).mutL ea6, ⟨kvs, ad, ?_, by rw [List.length_append]; omega, inj, fun i => ?_⟩⟩⟩
              · rw [upd_ne (ne_of (sz _ _ eD) ea6 (by intro z; cases z))]
                exact sz _ _ eD
              · rw [byH_app]
                by_cases ei : i = p
                · subst ei
                  refine .inr ⟨hv, n0, npt, us1 ++ [.ref tU], upd_same, ?_⟩
                  rw [if_pos (show (i :: rest).head? = some i from rfl)]
                  exact P_append ((ta.same sz).mutL ea6) (.cons ⟨tU, rfl, sqT_mutL (sz.seqT eU) ea6⟩ .nil)
                · rw [if_neg (show ¬ (p :: rest).head? = some i from fun zz => ei (Option.some.inj zz).symm), List.append_nil]
                  rcases cs i with c | ⟨c, m0, mpt, us2, eb, tb⟩
                  · exact .inl c
                  · refine .inr ⟨c, m0, mpt, us2, ?_, (tb.same sz).mutL ea6⟩
                    rw [upd_ne fun zz => ei (inj i p (by rw [c]; exact fun y => by cases y) (by rw [hv]; exact fun y => by cases y) zz)]
                    exact sz _ _ eb
          · have sz : Same H5 (upd H5 z (.lst [])) := (Same.refl H5).new nz
            have ez : (upd H5 z (.lst [])) z = some (.lst []) := upd_same
            generalize upd H5 z (.lst []) = H6 at sz ez ⊢
            have eD6 := sz _ _ eD
            have zD : z ≠ D := fun e => by rw [e, eD6] at ez; cases ez
            have ez7 : (upd H6 D (.dK (putK kvs (.inl p) (.ref z)))) z = some (.lst []) := by rw [upd_ne zD]; exact ez
            have nz0 := s5.free nz
            have s7 : Same H (upd H6 D (.dK (putK kvs (.inl p) (.ref z)))) := (s5.trans sz).mut nD0
            have apart : ∀ o, H5 o ≠ none → o ≠ z := fun o h e => h (by rw [e]; exact nz)
            have keep : ∀ o u, H5 o = some (.lst u) → (upd (upd H6 D (.dK (putK kvs (.inl p) (.ref z)))) z (.lst [.ref tU])) o = some (.lst u) := fun o u e => by
              rw [upd_ne (apart o (by rw [e]; exact fun y => by cases y)), upd_ne (ne_of (sz _ _ e) eD6 (by intro y; cases y))]
              exact sz _ _ e
            have tup : ∀ {a xs}, SqT K H5 a xs → SqT K (upd (upd H6 D (.dK (putK kvs (.inl p) (.ref z)))) z (.lst [.ref tU])) a xs := fun {a xs} h => sqT_mutL (sqT_mutD (sz.seqT h) eD6) ez7
            refine ⟨.inl ⟨rfl, _, SqL.of ez7⟩, _, rfl, z, _, _, rfl, rfl, ez7, by decide, ⟨_, rfl, s7.mut nz0, keep go ug ego, keep mi um emi, keep fo usf efo, P_mono (fun _ _ ⟨t, et, q⟩ => ⟨t, et, tup q⟩) tlf, P_mono (fun _ _ ⟨t, et, q⟩ => ⟨t, et, tup q⟩) tlg, P_mono (fun _ _ ⟨t, a, b, e1, q1, q2, q3⟩ => ⟨t, a, b, e1, tup q1, tup q2, q3⟩) mw, ⟨putK kvs (.inl p) (.ref z), fun i => if i = p then z else ad i, ?_, ?_, fun i j hi hj e => ?_, fun i => ?_⟩⟩⟩
            · rw [upd_ne (Ne.symm zD)]
              exact upd_same
            · have := length_putK kvs (.inl p) (.ref z)
              rw [List.length_append, List.length_singleton]
              omega
            · have adz : ∀ i, valV kvs (.inl i) ≠ none → ad i ≠ z := fun i h => by
                rcases cs i with ⟨c, _⟩ | ⟨_, _, _, us2, eb, _⟩
                · exact absurd c h
                · exact apart _ (by rw [eb]; exact fun y => by cases y)
              rw [valV_put] at hi hj
              dsimp only at e
              by_cases ei : i = p <;> by_cases ej : j = p
              · rw [ei, ej]
              · rw [if_neg (fun y => ej (Sum.inl.inj y))] at hj
                rw [if_pos ei, if_neg ej] at e
                exact absurd e.symm (adz j hj)
              · rw [if_neg (fun y => ei (Sum.inl.inj y))] at hi
                rw [if_neg ei, if_pos ej] at e
                exact absurd e (adz i hi)
              · rw [if_neg (fun y => ei (Sum.inl.inj y))] at hi
                rw [if_neg (fun y => ej (Sum.inl.inj y))] at hj
                rw [if_neg ei, if_neg ej] at e
                exact inj i j hi hj e
            · rw [byH_app, valV_put]
              dsimp only
              by_cases ei : i = p
              · subst ei
                rw [if_pos rfl, if_pos rfl, if_pos (show (i :: rest).head? = some i from rfl)]
                have e0 : byH i (found ++ (goodL ss act).take k) = [] := by
                  rcases cs i with ⟨_, c⟩ | ⟨c, _⟩
                  · exact c
                  · rw [hn] at c
                    cases c
                refine .inr ⟨rfl, nz0, fun pt => ?_, [.ref tU], upd_same, ?_⟩
                · rcases pt with (rfl | rfl) | rfl
                  · rw [efo] at nz; cases nz
                  · rw [ego] at nz; cases nz
                  · rw [emi] at nz; cases nz
                · rw [e0]
                  exact .cons ⟨tU, rfl, tup eU⟩ .nil
              · rw [if_neg (fun y => ei (Sum.inl.inj y)), if_neg (show ¬ (p :: rest).head? = some i from fun zz => ei (Option.some.inj zz).symm), List.append_nil, if_neg ei]
                rcases cs i with c | ⟨c, m0, mpt, us2, eb, tb⟩
                · exact .inl c
                · exact .inr ⟨c, m0, mpt, us2, keep _ _ eb, P_mono (fun _ _ ⟨t, et, q⟩ => ⟨t, et, tup q⟩) tb⟩
      · rintro σ H5 ⟨v8, rfl, s5, ego, emi, efo, tlf, tlg, mw, bg⟩
        rw [P_len tlg, List.take_length] at bg
        refine ⟨_, rfl, .inl ⟨rfl, _, SqL.of efo⟩, _, rfl, fo, go, _, _, rfl, rfl, efo, ego, ?_, ?_⟩
        · rw [P_len tlf, P_len tlg]
          exact szle (by omega)
        have s6 : Same H (upd H5 fo (.lst (usf ++ ug))) := s5.mut nfo
        have efo6 : (upd H5 fo (.lst (usf ++ ug))) fo = some (.lst (usf ++ ug)) := upd_same
        have emi6 : (upd H5 fo (.lst (usf ++ ug))) mi = some (.lst um) := by rw [upd_ne (Ne.symm nfm)]; exact emi
        have tl6 : TL K (upd H5 fo (.lst (usf ++ ug))) (usf ++ ug) (found ++ goodL ss act) := P_append (tlf.mutL efo) (tlg.mutL efo)
        have mw6 : MW K H (upd H5 fo (.lst (usf ++ ug))) um (missL ss act) := mw.mutL efo
        have bg6 : Bg K H (upd H5 fo (.lst (usf ++ ug))) D (fun a => a = fo) (found ++ goodL ss act) := (bg.mutP (.inl (.inl rfl)) efo).less fun a e => .inl (.inl e)
        generalize upd H5 fo (.lst (usf ++ ug)) = H6 at s6 efo6 emi6 tl6 mw6 bg6 ⊢
        refine ⟨_, rfl, _, rfl, mi, um, missL ss act, most, rfl, SqL.of emi6, mw6.ml s6, by omega, fun q hq => ?_, fun r' ws L' H7 s7 nr er tl mem pw => ?_⟩
        · obtain ⟨h1, h2⟩ := mem_miss.mp hq
          rw [← eact] at h1
          obtain ⟨a1, a2, a3⟩ := rd.asc (mem_act.mp h1).1
          obtain ⟨b1, b2⟩ := fm_some h2
          exact ⟨hss _ b1, by omega, a1, b2⟩
        · have pwa : act.Pairwise fun a b => lx a b = true := by
            rw [← eact]
            unfold actL
            exact List.Pairwise.sublist List.filter_sublist rd.lo
          refine ⟨looked + act.length, found ++ goodL ss act, L', r', _, ws, _, _, _, _, rfl, s6.trans s7, s7 _ _ efo6, tl6.same s7, bg6.same s7, er, tl, ?_, hlk2⟩
          refine rd.next (act := act) (fun U => by rw [← eact]; exact mem_act) pwa (fun U => mem_good) (List.Pairwise.sublist List.filter_sublist pwa) (fun U => ?_) pw
          rw [mem]
          unfold Pr One
          constructor
          · rintro ⟨q, hq, lt, p, hp, o1, o2⟩
            obtain ⟨h1, h2⟩ := mem_miss.mp hq
            exact ⟨q.1, h1, ⟨⟨q.2, p, h2, hp, o2⟩, lt, o1⟩⟩
          · rintro ⟨W, hW, ⟨sv, p, h2, hp, o2⟩, lt, o1⟩
            exact ⟨(W, sv), mem_miss.mpr ⟨hW, h2⟩, lt, p, hp, o1, o2⟩
end
end K25W

namespace K25W
open PySem PySem.Spec PyProof.Rows L2 KH KD KP K25 LamX NdefX
/-- the nested def's full name -/
def qW : Str := (envOfC "all_hits" (defScope sall_hits) 0 0 .none).qual ++ "witness"
theorem nd1 : ndefB (defScope sall_hits) (C8.fnScope sw) ["held"] = true := by decide +kernel
/-- the table of all_hits's code object -/
def Tb (Pt : Addr) (H : Hp) : Prop := TabsN [(Pt, fun _ _ => qW)] H
theorem Tb.same {Pt : Addr} {H H' : Hp} (h : Tb Pt H) (s : Same H H') : Tb Pt H' := TabsN.ext h s
/-- rows that are read: lists or tuples -/
def QS (K : PySem.W.Frag) (H : Hp) (us : List V) (L : List Lot) : Prop := Paired (fun v T => ∃ a, v = V.ref a ∧ Sq K H a (IL T)) us L
theorem sq_same {K : PySem.W.Frag} {H H' : Hp} {a : Addr} {xs : List V} (h : Sq K H a xs) (s : Same H H') : Sq K H' a xs := h.elim (fun h => .inl (s.seq h)) fun h => .inr (s.seqT h)
theorem QS.same {K : PySem.W.Frag} {H H' : Hp} {us : List V} {L : List Lot} (h : QS K H us L) (s : Same H H') : QS K H' us L := P_mono (fun _ _ ⟨a, e, q⟩ => ⟨a, e, sq_same q s⟩) h
/-- new lists -/
def LN (H0 H : Hp) (us : List V) (L : List Lot) : Prop := Paired (fun v T => ∃ a, v = V.ref a ∧ H0 a = none ∧ H a = some (.lst (IL T))) us L
section
variable {P : Program} {w : World} {K : PySem.W.Frag} {mg : Str → Option Value} {base : Heap} {CN CB CT fJ : Addr}
def sp_all (K : PySem.W.Frag) (CT Pt : Addr) : Sp := fun vs H Q E => ∃ (sa : Addr) (most : Nat) (us : List V) (ss : List Lot), vs = [.ref sa, nV most] ∧ Sq K H sa us ∧ QS K H us ss ∧ most ≤ 100 ∧ ss.length ≤ 100 ∧ (∀ s ∈ ss, s.length ≤ 500) ∧ Tb Pt H ∧
  ((∃ seen : List Lot, seen.Nodup ∧ (∀ T ∈ seen, Lk ss most T) ∧ 2000 < seen.length) → (∀ s ∈ ss, s ≠ []) → Err CT (fun H' => ExtN H H' ∧ Tb Pt H') H E) ∧
  ((∃ s ∈ ss, s = []) → ∀ r H', ExtN H H' → Tb Pt H' → H r = none → H' r = some (.lst []) → Q (.ref r) H') ∧
  ((∀ s ∈ ss, s ≠ []) → ∀ (L seen : List Lot) r us' H', All ss most L → seen.Nodup → (∀ T, T ∈ seen ↔ Lk ss most T) → seen.length ≤ 2000 → ExtN H H' → Tb Pt H' → H r = none → H' r = some (.lst us') → LN H H' us' L → Q (.ref r) H')
theorem ok_all {f f1 : Addr} {fd1 : FuncData} {oc kV doc pm ct : Value} {od an : Option Addr} {osl : Array (Option Value)} {cdd Pt : Addr}
    (lk : K.lookup f = some ⟨oc, od, .func (PySem.W.fnOf "all_hits" "all_hits" (defArgs sall_hits) (defBody sall_hits) (defScope sall_hits) .none kV doc pm an (.ref cdd) ct), osl⟩) (hcd : PySem.W.codeIn K (.ref cdd) "all_hits" = true) (TB : TabB base mg cdd Pt) (T : Txt mg)
    (Cleast_ok : FnOkW P w K mg base (L2.CX P w) 4 f1 fd1 ["witness", "most"] ["held"] (sp_least K CT)) (Cleast_mg : mg "least_hits" = some (.ref f1)) (Cleast_kp : PySem.W.keepIn K (.ref f1) = true) (Cleast_b : Binds K fd1 ["witness", "most"] []) :
    FnOk P w K mg base (L2.CX P w) 5 f (PySem.W.fnOf "all_hits" "all_hits" (defArgs sall_hits) (defBody sall_hits) (defScope sall_hits) .none kV doc pm an (.ref cdd) ct) ["sets", "most"] (sp_all K CT Pt) := by
  refine fn_of lk hcd scall_hits (fun vs H Q E h => ?_) (fun A outer s H vs Q E hr h => ?_)
  · obtain ⟨sa, most, us, ss, rfl, _⟩ := h
    rfl
  · obtain ⟨sa, most, us, ss, rfl, hS, hL, hm, hsl, hss, tb, qe, q0, q1⟩ := h
    refine ⟨_, (pss_cons (ps_set (i := 2) scall_hits.nd rfl (.inr rfl) (pe_lc (own := [("numbers", 4)]) (g := gName 4) (tt := tYes) rfl scall_hits.nd (pi_seq (pv 0)) (blkOk_by (N := ["sets", "most", "held", "witness", "numbers", "lot"]) (sc := defScope sall_hits) (by decide +kernel)) (fun _ _ _ _ _ => (pg_name (i := 4) scall_hits.nd rfl (.inl rfl))) (fun _ _ _ _ _ => pts_nil) (fun _ _ _ _ _ => (pe_callTy (r := rListOf K) call_list_of (by rfl) T.list (by decide +kernel) (pa_cons (pv 4) pa_nil)))))
      (pss_cons (ps_if (pt_val (pe_callB (cr_any rfl) (by rfl) T.any (by decide +kernel) (pa_cons (pe_lc (own := [("numbers", 4)]) (g := gName 4) (tt := tYes) (te := tNotT K (tVar 4)) rfl scall_hits.nd (pi_list (pv 2)) (blkOk_by (N := ["sets", "most", "held", "witness", "numbers", "lot"]) (sc := defScope sall_hits) (by decide +kernel)) (fun _ _ _ _ _ => (pg_name (i := 4) scall_hits.nd rfl (.inl rfl))) (fun _ _ _ _ _ => pts_nil) (fun _ _ _ _ _ => (pe_notT (pv 4)))) pa_nil)))
        (pss_one (ps_ret (pe_lst pa_nil))) pss_nil)
      (pss_cons (ps_ndefMS (st := sw) (T := [(Pt, fun _ _ => qW)]) (nm := fun _ _ => qW) (name := "witness") (i := 3) rfl TB rfl (List.mem_singleton.mpr rfl) rfl (fun p hp _ => by rw [List.mem_singleton.mp hp]) (ndef_free nd1) rfl rfl rfl scall_hits.nd rfl (.inl rfl) (.inl rfl))
      (pss_one (ps_ret (pe_lc (own := [("lot", 5)]) (g := gName 5) (tt := tYes) rfl scall_hits.nd (pi_list (pe_callFW (js := [2]) (mk := NF.of sw "witness" qW (cloFrom (cellsFrom (s.heap.objs.size + 1) (defScope sall_hits).names []) (C8.fnScope sw).names [])) Cleast_ok (hr.mono (by decide)) (by rfl) Cleast_mg Cleast_kp Cleast_b (L2.passes_call (takes_of rfl rfl rfl rfl) (fun _ _ _ _ h => h)) (fun _ => rfl) (fun ok => Caps.made (scope := C8.fnScope sw) (fr := ["held"]) (js := [2]) ok (ndef_free nd1) (ndef_fr nd1) rfl) (fun _ => rfl) (pa_cons (pv 3) (pa_cons (pv 1) pa_nil)))) (blkOk_by (N := ["sets", "most", "held", "witness", "numbers", "lot"]) (sc := defScope sall_hits) (by decide +kernel)) (fun _ _ _ _ _ => (pg_name (i := 5) scall_hits.nd rfl (.inl rfl))) (fun _ _ _ _ _ => pts_nil) (fun _ _ _ _ _ => (pe_callTy (r := rListOf K) call_list_of (by rfl) T.list (by decide +kernel) (pa_cons (pv 5) pa_nil))))))))), ?_⟩
    have hul : us.length = ss.length := P_len hL
    -- held
    refine asgN ⟨_, rfl, ?_⟩
    refine lc_seq (K := K) (a := sa) (xs := us) (H0 := H) hS (Same.refl H) (fun D i H' => ∃ ws, Same H H' ∧ H' D = some (.lst ws) ∧ Paired (fun v T => ∃ a, v = V.ref a ∧ a ≠ D ∧ H' a = some (.lst (IL T))) ws (ss.take i)) (fun D nD => ⟨[], (Same.refl H).new nD, upd_same, .nil⟩) (fun D i H' _ _ ⟨_, s, _⟩ => s) ?_ ?_
    · rintro D i x H' nD hx ⟨ws, sm, eD, hW⟩
      obtain ⟨sv, hs, a, rfl, qa⟩ := P_right hL hx
      refine ⟨rfl, _, rfl, a, IL sv, rfl, sq_same qa sm, fun l nl => ?_⟩
      have lD : l ≠ D := fun e => by rw [e, eD] at nl; cases nl
      have sl : Same H' (upd H' l (.lst (IL sv))) := (Same.refl H').new nl
      have el : (upd H' l (.lst (IL sv))) l = some (.lst (IL sv)) := upd_same
      generalize upd H' l (.lst (IL sv)) = H2 at sl el ⊢
      refine ⟨ws, sl _ _ eD, ?_, ws ++ [.ref l], (sm.trans sl).mut nD, upd_same, ?_⟩
      · rw [P_len hW]
        exact szl (Nat.le_trans (List.length_take_le' _ _) (by omega))
      · rw [take_more hs]
        exact P_append (P_mono (fun v T ⟨a, e, n, q⟩ => ⟨a, e, n, by rw [upd_ne n]; exact sl _ _ q⟩) hW) (.cons ⟨l, rfl, lD, by rw [upd_ne lD]; exact el⟩ .nil)
    rintro ha H1 nha ⟨ws, s1, eha, hW⟩ σ' e
    obtain rfl : σ' = [some (.ref sa), some (nV most), some (.ref ha), none, none, none] := e.symm
    clear e
    rw [hul, List.take_length] at hW
    have hL1 : LS K H1 ws ss := P_mono (fun v T ⟨a, e, _, q⟩ => ⟨a, e, SqL.of q⟩) hW
    -- any(not ..)
    refine ⟨_, rfl, ha, rfl, ⟨_, SqL.of eha⟩, fun D nD => ?_⟩
    refine lc_list (K := K) (a := ha) (xs := ws) (fun i H' => Same H1 H' ∧ H' D = some (.lst (((ss.take i).map fun s => s.isEmpty).map V.bl))) ⟨(Same.refl H1).new nD, upd_same⟩ (fun i H' _ ⟨s, _⟩ => SqL.of (s _ _ eha)) ?_ ?_
    · rintro i x H2 hx ⟨s2, eD⟩
      obtain ⟨sv, hs, a, rfl, qa⟩ := P_right hL1 hx
      refine ⟨rfl, _, rfl, !(IL sv).isEmpty, .inl ⟨_, s2.seq qa, rfl⟩, _, eD, ?_, s2.mut nD, ?_⟩
      · rw [List.length_map, List.length_map]
        exact szl (Nat.le_trans (List.length_take_le' _ _) (by omega))
      · rw [upd_same, take_more hs, List.map_append, List.map_append]
        cases sv <;> rfl
    rintro H2 ⟨s2, eD⟩
    rw [P_len hL1, List.take_length] at eD
    refine ⟨D, _, rfl, SqL.of eD, _, rfl, ?_⟩
    have s02 := s1.trans s2
    have eany : ((ss.map fun s => s.isEmpty).any id = true) ↔ ∃ s ∈ ss, s = [] := by
      rw [List.any_map, List.any_eq_true]
      constructor
      · rintro ⟨s, hs, e⟩
        exact ⟨s, hs, List.isEmpty_iff.mp e⟩
      · rintro ⟨s, hs, e⟩
        exact ⟨s, hs, List.isEmpty_iff.mpr e⟩
    cases c : (ss.map fun s => s.isEmpty).any id with
    | true =>
      refine iteT ⟨Nat.zero_le _, fun r nr => ?_⟩
      exact q0 (eany.mp c) r _ (ExtN.of (s02.new nr)) (tb.same (s02.new nr)) (s02.free nr) upd_same
    | false =>
      have full : ∀ s ∈ ss, s ≠ [] := fun s hs e => by
        rw [eany.mpr ⟨s, hs, e⟩] at c
        cases c
      refine iteF (nextS ⟨tb.same s02, fun f c' H3 x3 back tb3 nf ef ec => ?_⟩)
      have x03 : ExtN H H3 := (ExtN.of s02).trans x3
      have keep : ∀ {b : Addr} {l : List V}, H2 b = some (.lst l) → H3 b = some (.lst l) := fun e => x3 _ _ e fun ps z => by cases z
      have eha3 := keep (s2 _ _ eha)
      have hL3 : LS K H3 ws ss := P_mono (fun v T ⟨a, e, _, q⟩ => ⟨a, e, SqL.of (keep (s2 _ _ q))⟩) hW
      refine ⟨_, rfl, _, rfl, c', qW, _, c', f, ha, most, ws, ss, rfl, rfl, rfl, ef, ec, SqL.of eha3, hL3, hm, hss, fun h d H4 x4 nd ed => qe h full d H4 ⟨x03.trans (ExtN.of x4), Tb.same tb3 x4⟩ (s02.free (back _ nd)) ed, fun L seen r us' H4 all n1 n2 n3 s4 nr er tl => ?_⟩
      have Ll : L.length ≤ 2000 := by
        have := sub_len L seen (List.Pairwise.imp (fun {a b} (h : K25.od a b) (e : a = b) => od_irr a (by rw [← e] at h; exact h)) all.ord) fun M hM => (n2 M).mpr (((all.mem M).mp hM).1.lk ((all.mem M).mp hM).2)
        omega
      have nH : ∀ a, H4 a = none → H a = none := fun a h => s02.free (back _ (s4.free h))
      refine ⟨r, rfl, ⟨_, SqL.of er⟩, fun D nD => ?_⟩
      refine lc_list (K := K) (a := r) (xs := us') (fun i H' => ∃ ws, Same H4 H' ∧ H' D = some (.lst ws) ∧ Paired (fun v T => ∃ a, v = V.ref a ∧ a ≠ D ∧ H4 a = none ∧ H' a = some (.lst (IL T))) ws (L.take i)) ⟨[], (Same.refl H4).new nD, upd_same, .nil⟩ (fun i H' _ ⟨_, s, _⟩ => SqL.of (s _ _ er)) ?_ ?_
      · rintro i x H5 hx ⟨ws, s5, eD, hW⟩
        obtain ⟨U, hU, t, rfl, qt⟩ := P_right tl hx
        refine ⟨rfl, _, rfl, t, IL U, rfl, .inr (s5.seqT qt), fun l nl => ?_⟩
        have lD : l ≠ D := fun e => by rw [e, eD] at nl; cases nl
        have sl : Same H5 (upd H5 l (.lst (IL U))) := (Same.refl H5).new nl
        have el : (upd H5 l (.lst (IL U))) l = some (.lst (IL U)) := upd_same
        have nl4 := s5.free nl
        generalize upd H5 l (.lst (IL U)) = H6 at sl el ⊢
        refine ⟨ws, sl _ _ eD, ?_, ws ++ [.ref l], (s5.trans sl).mut nD, upd_same, ?_⟩
        · rw [P_len hW]
          exact szl (Nat.le_trans (List.length_take_le' _ _) (by omega))
        · rw [take_more hU]
          exact P_append (P_mono (fun v T ⟨a, e, n, n4, q⟩ => ⟨a, e, n, n4, by rw [upd_ne n]; exact sl _ _ q⟩) hW) (.cons ⟨l, rfl, lD, nl4, by rw [upd_ne lD]; exact el⟩ .nil)
      rintro H5 ⟨ws, s5, eD, hW⟩
      rw [P_len tl, List.take_length] at hW
      exact q1 full L seen D ws H5 all n1 n2 n3 (x03.trans (ExtN.of (s4.trans s5))) (Tb.same tb3 (s4.trans s5)) (nH D nD) eD (P_mono (fun v T ⟨a, e, _, n4, q⟩ => ⟨a, e, nH a n4, q⟩) hW)
end
end K25W

namespace K25W
open PySem PySem.Spec PyProof.Rows L2 KH KD KP K25 LamX NdefX
abbrev s_law_ask : Stmt := topS 22
theorem sc_law_ask : FnScope ["sets", "cap", "e"] ["sets", "cap"] (defScope s_law_ask) := ⟨rfl, rfl, rfl, by decide +kernel, rfl, by decide +kernel, by decide +kernel⟩

section
variable {P : Program} {w : World} {K : PySem.W.Frag} {mg : Str → Option Value} {base : Heap} {CN CB CT fJ : Addr}
/-- what is asked; whether and what is told -/
structure Told (K : PySem.W.Frag) (Pt : Addr) (H H' : Hp) (t r : Addr) (L : List Lot) : Prop where
  x : ExtN H H'
  tb : Tb Pt H'
  at_ : H' t = some (.tup [.str "told", .ref r])
  new : H r = none
  ex : ∃ us, H' r = some (.lst us) ∧ LN H H' us L
/-- the promise of asking, as a structure: so that it is not unfolded where it is to be met -/
structure AskP (K : PySem.W.Frag) (Pt : Addr) (vs : List V) (H : Hp) (Q : VK) (E : XK) : Prop where
  get : ∃ (sa : Addr) (most : Nat) (us : List V) (ss : List Lot), vs = [.ref sa, nV most] ∧ Sq K H sa us ∧ QS K H us ss ∧ most ≤ 100 ∧ ss.length ≤ 100 ∧ (∀ s ∈ ss, s.length ≤ 500) ∧ Tb Pt H ∧
  ((∃ seen : List Lot, seen.Nodup ∧ (∀ T ∈ seen, Lk ss most T) ∧ 2000 < seen.length) → (∀ s ∈ ss, s ≠ []) → ∀ t H', ExtN H H' → Tb Pt H' → H' t = some (.tup [.str "refused", .str "lots", .int 2000]) → Q (.ref t) H') ∧
  ((∃ s ∈ ss, s = []) → ∀ t r H', Told K Pt H H' t r [] → Q (.ref t) H') ∧
  ((∀ s ∈ ss, s ≠ []) → ∀ (L seen : List Lot) t r H', All ss most L → seen.Nodup → (∀ T, T ∈ seen ↔ Lk ss most T) → seen.length ≤ 2000 → Told K Pt H H' t r L → Q (.ref t) H')
def sp_ask (K : PySem.W.Frag) (Pt : Addr) : Sp := fun vs H Q E => AskP K Pt vs H Q E
theorem ok_ask {f f1 Pt : Addr} {fd fd1 : FuncData} (F : Fun K "_law_ask" "_law_ask" s_law_ask f fd) (T : Txt mg) (XB : Exm P K mg CN CB CT fJ) (Call_hits : CalX P w K mg base 5 "all_hits" ["sets", "most"] (sp_all K CT Pt) f1 fd1) : FnOk P w K mg base CX0 6 f fd ["sets", "cap"] (sp_ask K Pt) := by
  refine F.ok sc_law_ask (fun vs H Q E h => ?_) (fun cdv A outer s H vs Q E hr h => ?_)
  · obtain ⟨⟨sa, most, us, ss, rfl, _⟩⟩ := h
    rfl
  · obtain ⟨⟨sa, most, us, ss, rfl, hS, hL, hm, hsl, hss, tb, qe, q0, q1⟩⟩ := h
    have nW : PySem.W.findIn K (.ref CT) "what" = some none := XB.own.noN "what" (by simp)
    have nM : PySem.W.findIn K (.ref CT) "most" = some none := XB.own.noN "most" (by simp)
    refine ⟨_, (pss_cons (ps_try_as (i := 2) (tb := fun W => tRet (tTup (tCons (tC (.str "told")) (tCons (tCallS (sp_all K CT Pt) (WE W) (tCons (tVar 0) (tCons (tVar 1) tNil))) tNil)))) (Wout := fun _ _ _ _ => False) rfl rfl sc_law_ask.nd rfl rfl ⟨rfl, by decide, Or.inl XB.gB⟩ L2.takes0
          (fun W pn xe tk _ => pss_one (ps_ret (pe_tup (pa_cons pe_str (pa_cons (by exact (pe_callS Call_hits.ok hr rfl Call_hits.mg Call_hits.kp Call_hits.b (fun σ => passAt tk σ) (by exact (pa_cons (pv 0) (pa_cons (pv 1) pa_nil))))) pa_nil)))))
          (fun a oe cls d pn hz hf => (pss_one (ps_if (PW.pt (pw_and (pt_val (pe_callB (r := rIsC K a cls d) (call_isC hz hf) (by rfl) T.isinstance (by decide +kernel) (pa_cons (pv 2) (pa_cons (pe_glob (v := .ref CT) rfl XB.gN rfl) pa_nil)))) (pw_and (pt_val (pe_callB (r := rIsC K a cls d) (call_isC hz hf) (by rfl) T.isinstance (by decide +kernel) (pa_cons (pv 2) (pa_cons (pe_bltn (v := .ty "ValueError") (by rfl) T.ValueError (by decide +kernel) rfl) pa_nil)))) (pw_and1 (pt_not (pt_val (pe_callB (r := rIsC K a cls d) (call_isC hz hf) (by rfl) T.isinstance (by decide +kernel) (pa_cons (pv 2) (pa_cons (pe_glob (v := .ref CN) rfl XB.gD rfl) pa_nil)))))))))
            (pss_one (ps_ret (pe_tup (pa_cons pe_str (pa_cons (pe_xf XB.xf nW hz hf (pv 2)) (pa_cons (pe_xf XB.xf nM hz hf (pv 2)) pa_nil)))))) pss_nil))))
      (pss_one (ps_ret (pe_tup (pa_cons pe_str pa_nil))))), ?_⟩
    refine ⟨_, rfl, _, rfl, sa, most, us, ss, rfl, hS, hL, hm, hsl, hss, tb, fun h full d H1 x1 nd ed => ?_, fun h r H1 x1 tb1 nr er => ?_, fun full L seen r us' H1 all n1 n2 n3 x1 tb1 nr er ln => ?_⟩
    · obtain ⟨x1, tb1⟩ := x1
      refine ⟨true, XB.te, fun _ x nx => ?_, fun z => Bool.noConfusion z⟩
      refine ⟨_, rfl, CT, _, _, true, rfl, ⟨rfl, XB.ec, d, _, rfl, ed⟩, .own CT, XB.kT, _, rfl, iteT ?_⟩
      refine ⟨_, rfl, CT, _, _, true, rfl, ⟨rfl, XB.ec, d, _, rfl, ed⟩, .ty "ValueError", XB.kV, _, rfl, iteT ?_⟩
      refine ⟨_, rfl, CT, _, _, false, rfl, ⟨rfl, XB.ec, d, _, rfl, ed⟩, .own CN, XB.kN, _, rfl, iteT ?_⟩
      refine ⟨_, rfl, rfl, rfl, d, _, _, rfl, ed, lk_what, _, rfl, rfl, rfl, d, _, _, rfl, ed, lk_most, (by show 3 ≤ sizeLine; decide), fun t nt => ?_⟩
      have s2 : Same H1 (upd H1 t (.tup [.str "refused", .str "lots", .int 2000])) := (Same.refl H1).new nt
      exact qe h full t _ (x1.trans (ExtN.of s2)) (Tb.same tb1 s2) upd_same
    · refine ⟨sp2, fun t nt => ?_⟩
      have s2 : Same H1 (upd H1 t (.tup [.str "told", .ref r])) := (Same.refl H1).new nt
      exact q0 h t r _ ⟨x1.trans (ExtN.of s2), Tb.same tb1 s2, upd_same, nr, [], s2 _ _ er, .nil⟩
    · refine ⟨sp2, fun t nt => ?_⟩
      have s2 : Same H1 (upd H1 t (.tup [.str "told", .ref r])) := (Same.refl H1).new nt
      exact q1 full L seen t r _ all n1 n2 n3 ⟨x1.trans (ExtN.of s2), Tb.same tb1 s2, upd_same, nr, us', s2 _ _ er, P_mono (fun v T ⟨a, e, n, q⟩ => ⟨a, e, n, s2 _ _ q⟩) ln⟩
end
end K25W

namespace K25W
open PySem PySem.Spec PyProof.Rows L2 KH KD KP K25 LamX NdefX
abbrev s_law_numbers : Stmt := topS 16
theorem sc_law_numbers : FnScope ["cell", "drawn", "step", "numbers", "k"] ["cell"] (defScope s_law_numbers) := ⟨rfl, rfl, rfl, by decide +kernel, rfl, by decide +kernel, by decide +kernel⟩

theorem atI_last {xs : List V} {v : V} (h : xs ≠ []) (e : xs.getLast? = some v) : atI xs (-1) = some v := by
  have hl : 0 < xs.length := List.length_pos_iff.mpr h
  unfold atI ixN
  rw [if_neg (by omega), if_pos (by omega)]
  show xs[(-1 + (xs.length : Int)).toNat]? = some v
  rw [show (-1 + (xs.length : Int)).toNat = xs.length - 1 by omega, ← List.getLast?_eq_getElem?]
  exact e
theorem last_IL {l : Lot} {x : Int} : (IL (l ++ [x])).getLast? = some (V.int x) := by
  rw [IL_snoc, List.getLast?_append]
  rfl
theorem asc_snoc {l : Lot} {x y : Int} (h : Asc (l ++ [x])) (lt : x < y) : Asc (l ++ [x] ++ [y]) := by
  refine List.pairwise_append.mpr ⟨h, List.pairwise_singleton _ _, fun a ha b hb => ?_⟩
  rw [List.mem_singleton.mp hb]
  rcases List.mem_append.mp ha with ha | ha
  · have := (List.pairwise_append.mp h).2.2 a ha x (List.mem_singleton.mpr rfl)
    omega
  · rw [List.mem_singleton.mp ha]
    exact lt
/-- a part, the empty one too -/
def partE (found : List Lot) (U : Lot) : Prop := ∃ M ∈ found, K25.Sub M U
section
variable {P : Program} {w : World} {K : PySem.W.Frag} {mg : Str → Option Value} {base : Heap} {CN CB CT fJ : Addr}
def sp_numbers : Sp := fun vs H Q _ => ∃ c : Int, vs = [.int c] ∧ ∀ p ns H', Same H H' → H p = none → H' p = some (.lst (IL ns)) → ns.length = 7 → Asc ns → Q (.ref p) H'
theorem ok_numbers {f f1 : Addr} {fd fd1 : FuncData} (F : Fun K "_law_numbers" "_law_numbers" s_law_numbers f fd) (T : Txt mg) (C_law_draws : Cal P w K mg base 1 "_law_draws" ["cell", "sizes"] (sp_draws K) f1 fd1) : FnOk P w K mg base CX0 2 f fd ["cell"] sp_numbers := by
  refine F.ok sc_law_numbers (fun vs H Q E h => ?_) (fun cdv A outer s H vs Q E hr h => ?_)
  · obtain ⟨c, rfl, _⟩ := h
    rfl
  · obtain ⟨c, rfl, q⟩ := h
    refine ⟨_, (pss_cons (ps_set (i := 1) sc_law_numbers.nd rfl (.inl rfl) (pe_call C_law_draws.ok (hr.mono (by decide)) (by rfl) C_law_draws.mg C_law_draws.kp C_law_draws.b .nil pass0 (pa_cons (pv 0) (pa_cons (pe_lst (pa_cons pe_int (pa_cons pe_int (pa_cons pe_int (pa_cons pe_int (pa_cons pe_int (pa_cons pe_int (pa_cons pe_int (pa_cons pe_int pa_nil))))))))) pa_nil))))
 (pss_cons (ps_set (i := 2) sc_law_numbers.nd rfl (.inl rfl) (pe_ix ix_list (pe_lst (pa_cons pe_int (pa_cons pe_int (pa_cons pe_int (pa_cons pe_int pa_nil))))) (pe_ix ix_list (pv 1) pe_int (fun _ _ => rfl)) (fun _ _ => rfl)))
 (pss_cons (ps_set (i := 3) sc_law_numbers.nd rfl (.inl rfl) (pe_lst (pa_cons (pe_op op_sub (pe_ix ix_list (pv 1) pe_int (fun _ _ => rfl)) pe_int) pa_nil)))
 (pss_cons (ps_for PassesOwn.never rfl (pi_range1 rfl T.range (pa_cons pe_int pa_nil)) (pg_name (i := 4) sc_law_numbers.nd rfl (.inl rfl))
 (pss_one (ps_expr (pe_bm PySem.F.plainAttrs_list PySem.F.slot_list_append PySem.F.type_list_append mt_append (pv 3) (pa_cons (pe_op op_add (pe_op op_add (pe_ix ix_list (pv 3) (pe_un un_neg pe_int) (fun _ _ => rfl)) pe_int) (pe_op op_mul (pv 2) (pe_ix ix_list (pv 1) (pe_op op_add pe_int (pv 4)) (fun _ _ => rfl)))) pa_nil)))))
 (pss_one (ps_ret (pv 3))))))), ?_⟩
    refine asgN ⟨_, rfl, (by show 8 ≤ sizeLine; decide), fun z nz => ⟨z, c, [4, 60, 9, 9, 9, 9, 9, 9], rfl, SqL.of upd_same, by decide, by decide, fun dp ds H2 s2 ndp edp dr σ' e => ?_⟩⟩
    obtain rfl : σ' = [some (.int c), some (.ref dp), none, none, none] := e.symm
    clear e
    have t2 : Same H H2 := ((Same.refl H).new nz).trans s2
    have hG : SqL K H2 dp (ds.map nV) := SqL.of edp
    have dl : ds.length = 8 := P_len dr
    obtain ⟨d0, hd0, l0⟩ := P_left dr (i := 0) (y := 4) rfl
    obtain ⟨d1, hd1, l1⟩ := P_left dr (i := 1) (y := 60) rfl
    -- step
    obtain ⟨st, hst, b1, b2⟩ : ∃ st : Int, ([V.int 1, V.int 7, V.int 1000, V.int 123456789] : List V)[d0]? = some (V.int st) ∧ 0 < st ∧ st < 1000000000 := by
      match d0, l0 with
      | 0, _ => exact ⟨1, rfl, by decide, by decide⟩
      | 1, _ => exact ⟨7, rfl, by decide, by decide⟩
      | 2, _ => exact ⟨1000, rfl, by decide, by decide⟩
      | 3, _ => exact ⟨123456789, rfl, by decide, by decide⟩
    refine asgN ⟨(by show 4 ≤ sizeLine; decide), fun m nm => ⟨_, rfl, dp, _, 0, nV d0, rfl, rfl, ((Same.refl H2).new nm).seq hG, at_n (j := 0) (getn hd0), m, _, d0, V.int st, rfl, rfl, SqL.of upd_same, at_n hst, fun σ' e => ?_⟩⟩
    obtain rfl : σ' = [some (.int c), some (.ref dp), some (.int st), none, none] := e.symm
    clear e
    have s3 : Same H2 (upd H2 m (.lst [V.int 1, V.int 7, V.int 1000, V.int 123456789])) := (Same.refl H2).new nm
    generalize upd H2 m (.lst [V.int 1, V.int 7, V.int 1000, V.int 123456789]) = H3 at s3 ⊢
    have t3 := t2.trans s3
    have hG3 := s3.seq hG
    refine ⟨_, rfl, dp, _, 1, nV d1, rfl, rfl, hG3, at_n (j := 1) (getn hd1), _, _, rfl, rfl, (by show 1 ≤ sizeLine; decide), fun p np => ?_⟩
    have s4 : Same H3 (upd H3 p (.lst (IL [(d1 : Int) - 30]))) := (Same.refl H3).new np
    refine ⟨_, rfl, (by decide), (by decide), for_range (lo := 0) (n := 6) (fun i σ H' => ∃ (v4 : Option V) (ns : Lot) (x : Int), σ = [some (.int c), some (.ref dp), some (.int st), some (.ref p), v4] ∧ Same H3 H' ∧ H' p = some (.lst (IL (ns ++ [x]))) ∧ ns.length = i ∧ Asc (ns ++ [x]))
      ⟨none, [], (d1 : Int) - 30, rfl, s4, upd_same, rfl, List.pairwise_singleton _ _⟩ ?_ ?_⟩
    · rintro i σ H5 hi ⟨v4, ns, x, rfl, s5, ep, nl, asc⟩
      rw [show (0 : Int) + (i : Int) = (i : Int) by omega]
      obtain ⟨d, hd⟩ := get_lt (l := ds) (i := 2 + i) (by omega)
      obtain ⟨z, hz, lz⟩ := P_right dr hd
      have l9 : d < 9 := by
        match i, hi with
        | 0, _ => cases hz; exact lz
        | 1, _ => cases hz; exact lz
        | 2, _ => cases hz; exact lz
        | 3, _ => cases hz; exact lz
        | 4, _ => cases hz; exact lz
        | 5, _ => cases hz; exact lz
      refine ⟨_, rfl, .inl ⟨rfl, _, SqL.of ep⟩, _, rfl, _, rfl, p, _, -1, V.int x, rfl, rfl, SqL.of ep, atI_last (by unfold IL; simp) last_IL, _, _, rfl, rfl, _, rfl, _, rfl, _, rfl, _, _, rfl, rfl, dp, _, _, nV d, rfl, rfl, s5.seq hG3, at_n (j := 2 + i) (getn hd), _, _, rfl, rfl, .inl ⟨by omega, by omega⟩, _, _, rfl, rfl, p, _, _, rfl, rfl, ep, ?_, ?_⟩
      · unfold IL
        rw [List.length_map, List.length_append, nl]
        exact szl (by show i + 1 ≤ 10000; omega)
      · refine ⟨_, ns ++ [x], x + 1 + st * (d : Int), rfl, s5.mut np, ?_, by rw [List.length_append, nl]; rfl, asc_snoc asc ?_⟩
        · rw [upd_same]
          dsimp only
          rw [IL_snoc (ns ++ [x])]
        · have : 0 ≤ st * (d : Int) := Int.mul_nonneg (by omega) (by omega)
          omega
    · rintro σ H5 ⟨v4, ns, x, rfl, s5, ep, nl, asc⟩
      exact ⟨_, rfl, q p (ns ++ [x]) H5 (t3.trans s5) (t3.free np) ep (by rw [List.length_append, nl]; rfl) asc⟩
end
end K25W

namespace K25W
open PySem PySem.Spec PyProof.Rows L2 KH KD KP K25 LamX NdefX
abbrev s_law_sets : Stmt := topS 17
theorem sc_law_sets : FnScope ["script", "numbers", "count", "rows", "k", "drawn", "size", "row", "j"] ["script", "numbers", "count"] (defScope s_law_sets) := ⟨rfl, rfl, rfl, by decide +kernel, rfl, by decide +kernel, by decide +kernel⟩

abbrev s_law_shares : Stmt := topS 18
theorem sc_law_shares : FnScope ["lot", "row", "number"] ["lot", "row"] (defScope s_law_shares) := ⟨rfl, rfl, rfl, by decide +kernel, rfl, by decide +kernel, by decide +kernel⟩

abbrev s_law_hits : Stmt := topS 19
theorem sc_law_hits : FnScope ["sets", "lot", "row"] ["sets", "lot"] (defScope s_law_hits) := ⟨rfl, rfl, rfl, by decide +kernel, rfl, by decide +kernel, by decide +kernel⟩

abbrev s_law_has_part : Stmt := topS 20
theorem sc_law_has_part : FnScope ["lot", "found", "part", "number"] ["lot", "found"] (defScope s_law_has_part) := ⟨rfl, rfl, rfl, by decide +kernel, rfl, by decide +kernel, by decide +kernel⟩

theorem fil_more {α : Type} {l : List α} {i : Nat} {x : α} (h : l[i]? = some x) (p : α → Bool) : (l.take (i + 1)).filter p = (l.take i).filter p ++ (if p x then [x] else []) := by
  rw [take_more h, List.filter_append]
  congr 1
  cases c : p x <;> simp [List.filter_cons, c]
theorem LL.ls {K : PySem.W.Frag} {H : Hp} {us : List V} {L : List Lot} (h : LL H us L) : LS K H us L := P_mono (fun _ _ ⟨a, e, q⟩ => ⟨a, e, SqL.of q⟩) h
theorem sub_rev {s ns : Lot} (h : K25.Sub s ns) : K25.Sub s.reverse ns := fun x hx => h x (List.mem_reverse.mp hx)
section
variable {P : Program} {w : World} {K : PySem.W.Frag} {mg : Str → Option Value} {base : Heap} {CN CB CT fJ : Addr}
def sp_sets (K : PySem.W.Frag) : Sp := fun vs H Q _ => ∃ (a b : Addr) (is : List Int) (ns : Lot) (n : Nat), vs = [.ref a, .ref b, nV n] ∧ SqL K H a (is.map V.int) ∧ is.length ≤ 63 ∧ SqL K H b (IL ns) ∧ ns.length = 7 ∧ n ≤ 10 ∧
  ∀ p us ss H', Same H H' → H p = none → H' p = some (.lst us) → LL H' us ss → ss.length = n → (∀ s ∈ ss, s.length ≤ 4 ∧ K25.Sub s ns) → Q (.ref p) H'
theorem ok_sets {f f1 f2 : Addr} {fd fd1 fd2 : FuncData} (F : Fun K "_law_sets" "_law_sets" s_law_sets f fd) (T : Txt mg) (C_law_draws : Cal P w K mg base 1 "_law_draws" ["cell", "sizes"] (sp_draws K) f1 fd1) (C_law_cell : Cal P w K mg base 1 "_law_cell" ["script", "k"] (sp_cell K) f2 fd2) : FnOk P w K mg base CX0 2 f fd ["script", "numbers", "count"] (sp_sets K) := by
  refine F.ok sc_law_sets (fun vs H Q E h => ?_) (fun cdv A outer s H vs Q E hr h => ?_)
  · obtain ⟨a, b, is, ns, n, rfl, _⟩ := h
    rfl
  · obtain ⟨a, b, is, ns, n, rfl, hS, his, hN, hn7, hn, q⟩ := h
    refine ⟨_, (pss_cons (ps_set (i := 3) sc_law_sets.nd rfl (.inl rfl) (pe_lst pa_nil))
 (pss_cons (ps_for PassesOwn.never rfl (pi_range1 rfl T.range (pa_cons (pv 2) pa_nil)) (pg_name (i := 4) sc_law_sets.nd rfl (.inl rfl))
 (pss_cons (ps_set (i := 5) sc_law_sets.nd rfl (.inr rfl) (pe_call C_law_draws.ok (hr.mono (by decide)) (by rfl) C_law_draws.mg C_law_draws.kp C_law_draws.b .nil pass0 (pa_cons (pe_call C_law_cell.ok (hr.mono (by decide)) (by rfl) C_law_cell.mg C_law_cell.kp C_law_cell.b .nil pass0 (pa_cons (pv 0) (pa_cons (pe_op op_add pe_int (pv 4)) pa_nil))) (pa_cons (pe_lst (pa_cons pe_int (pa_cons pe_int (pa_cons pe_int (pa_cons pe_int (pa_cons pe_int (pa_cons pe_int pa_nil))))))) pa_nil))))
 (pss_cons (ps_set (i := 6) sc_law_sets.nd rfl (.inl rfl) pe_int)
 (pss_cons (ps_if (pt_cmpR op_gt (pe_ix ix_list (pv 5) pe_int (fun _ _ => rfl)) pe_int (nomark _))
 (pss_one (ps_set (i := 6) sc_law_sets.nd rfl (.inl rfl) (pe_op op_add pe_int (pe_op op_modN (pe_callTy call_int1 (by rfl) T.int (by decide +kernel) (pa_cons (pe_op op_sub (pe_ix ix_list (pv 5) pe_int (fun _ _ => rfl)) pe_int) pa_nil)) pe_int))))
 pss_nil)
 (pss_cons (ps_setLc (i := 7) (own := [("j", 8)]) (g := gName 8) (tt := tYes) rfl sc_law_sets.nd rfl rfl (sw_true rfl rfl rfl (by decide +kernel)) (pi_range1 rfl T.range (pa_cons (pv 6) pa_nil)) (blkOk_by (N := ["script", "numbers", "count", "rows", "k", "drawn", "size", "row", "j"]) (sc := defScope s_law_sets) (by decide +kernel)) (fun _ _ _ _ _ => (pg_name (i := 8) sc_law_sets.nd rfl (.inl rfl))) (fun _ _ _ _ _ => pts_nil) (fun _ _ _ _ _ => (pe_ix (r := rIxL K) ix_list (pv 1) (pe_ix (r := rIxL K) ix_list (pv 5) (pe_op op_add pe_int (pv 8)) (fun _ _ => rfl)) (fun _ _ => rfl))))
 (pss_cons (ps_if (PW.pt (pw_and (pt_cmpR op_eq (pe_ix ix_list (pv 5) pe_int (fun _ _ => rfl)) pe_int (nomark _)) (pw_and1 (pt_cmpR op_gt (pv 4) pe_int (nomark _)))))
 (pss_one (ps_set (i := 7) sc_law_sets.nd rfl (.inl rfl) (pe_lstRev rfl rfl T.list rfl T.reversed (pe_ix ix_list (pv 3) (pe_op op_sub (pv 4) pe_int) (fun _ _ => rfl)))))
 pss_nil)
 (pss_one (ps_expr (pe_bm PySem.F.plainAttrs_list PySem.F.slot_list_append PySem.F.type_list_append mt_append (pv 3) (pa_cons (pv 7) pa_nil))))))))))
 (pss_one (ps_ret (pv 3))))), ?_⟩
    refine ⟨Nat.zero_le _, fun p np => ?_⟩
    have s1 : Same H (upd H p (.lst [])) := (Same.refl H).new np
    have ep : (upd H p (.lst [])) p = some (.lst []) := upd_same
    generalize upd H p (.lst []) = H1 at s1 ep ⊢
    refine ⟨_, rfl, _, rfl, (by omega), (by omega), ?_⟩
    rw [show ((n : Nat) : Int).toNat = n by omega]
    refine for_range (lo := 0) (n := n) (fun i σ H' => ∃ (v4 v5 v6 v7 : Option V) (us : List V) (ss : List Lot), σ = [some (.ref a), some (.ref b), some (nV n), some (.ref p), v4, v5, v6, v7, none] ∧ Same H H' ∧ H' p = some (.lst us) ∧ Paired (fun v T => ∃ a, v = V.ref a ∧ a ≠ p ∧ H' a = some (.lst (IL T))) us ss ∧ ss.length = i ∧ ∀ s ∈ ss, s.length ≤ 4 ∧ K25.Sub s ns)
      ⟨none, none, none, none, [], [], rfl, s1, ep, .nil, rfl, fun s h => (by cases h)⟩ ?_ ?_
    · rintro i σ H2 hi ⟨v4, v5, v6, v7, us, ss, rfl, s2, ep, hW, ssl, sw⟩
      rw [show (0 : Int) + (i : Int) = (i : Int) by omega]
      refine asgN ⟨_, rfl, _, rfl, _, _, rfl, rfl, a, is, 2 + i, by congr 1, s2.seq hS, his, by omega, fun c H3 s3 => ⟨(by show 6 ≤ sizeLine; decide), fun z nz => ⟨z, c, [13, 7, 7, 7, 7, 6], rfl, SqL.of upd_same, by decide, by decide, fun dp ds H4 s4 ndp edp dr σ' e => ?_⟩⟩⟩
      obtain rfl : σ' = [some (.ref a), some (.ref b), some (nV n), some (.ref p), some (nV i), some (.ref dp), v6, v7, none] := e.symm
      clear e
      have t4 := (s3.new (o := .lst ([13, 7, 7, 7, 7, 6].map nV)) nz).trans s4
      have hG : SqL K H4 dp (ds.map nV) := SqL.of edp
      obtain ⟨d0, d1, d2, d3, d4, d5, rfl, b0, b1, b2, b3, b4, b5⟩ : ∃ d0 d1 d2 d3 d4 d5, ds = [d0, d1, d2, d3, d4, d5] ∧ d0 < 13 ∧ d1 < 7 ∧ d2 < 7 ∧ d3 < 7 ∧ d4 < 7 ∧ d5 < 6 := by
        cases dr with | cons h0 dr => cases dr with | cons h1 dr => cases dr with | cons h2 dr => cases dr with | cons h3 dr => cases dr with | cons h4 dr => cases dr with | cons h5 dr => cases dr with | nil => exact ⟨_, _, _, _, _, _, rfl, h0, h1, h2, h3, h4, h5⟩
      -- size
      refine asgN (fun σ' e => ?_)
      obtain rfl : σ' = [some (.ref a), some (.ref b), some (nV n), some (.ref p), some (nV i), some (.ref dp), some (nV 0), v7, none] := e.symm
      clear e
      obtain ⟨g, eg, hg⟩ := fmod_nat ((d0 : Int) - 1) (z := 4) (by decide)
      refine ifsetP (i1 := 6) (C := 0 < d0) (fun v H' => ∃ g : Nat, v = nV g ∧ g ≤ 4 ∧ H4 = H') (fun Q hq => ⟨_, rfl, dp, _, 0, nV d0, rfl, rfl, hG, at_n (j := 0) rfl, _, _, rfl, rfl, _, rfl, hq _ ⟨fun h => by have := of_decide_eq_true h; omega, fun h => decide_eq_true (by omega)⟩⟩) rfl (fun _ => ⟨0, rfl, by omega, rfl⟩)
        (fun _ Q hq => ⟨_, rfl, dp, _, 0, nV d0, rfl, rfl, hG, at_n (j := 0) rfl, _, _, rfl, rfl, .inl ⟨_, rfl, _, _, rfl, rfl, (show (4 : Int) ≠ 0 by decide), _, _, rfl, rfl, ?_⟩⟩) ?_
      · dsimp only
        rw [show ((4 : Nat) : Int) = 4 from rfl] at eg
        rw [eg]
        exact hq _ _ ⟨1 + g, by show V.int _ = V.int _; congr 1, by omega, rfl⟩
      rintro u1 _ ⟨sz, rfl, hsz, rfl⟩
      -- row
      refine ⟨_, rfl, _, rfl, (by omega), (by omega), ?_⟩
      rw [show ((sz : Nat) : Int).toNat = sz by omega]
      refine fun ra nra => ?_
      refine lc_range (lo := 0) (n := sz) (fun j H' => ∃ l : Lot, Same H4 H' ∧ H' ra = some (.lst (IL l)) ∧ l.length = j ∧ K25.Sub l ns) ⟨[], (Same.refl H4).new nra, upd_same, rfl, fun x h => (by cases h)⟩ ?_ ?_
      · rintro j H5 hj ⟨l, s5, er, ll, sl⟩
        rw [show (0 : Int) + (j : Int) = (j : Int) by omega]
        obtain ⟨d, hd, ld⟩ : ∃ d, [d0, d1, d2, d3, d4, d5][1 + j]? = some d ∧ d < 7 := by
          match j, (show j < 4 by omega) with
          | 0, _ => exact ⟨d1, rfl, b1⟩
          | 1, _ => exact ⟨d2, rfl, b2⟩
          | 2, _ => exact ⟨d3, rfl, b3⟩
          | 3, _ => exact ⟨d4, rfl, b4⟩
        obtain ⟨x, hx⟩ := get_lt (l := ns) (i := d) (by omega)
        have t5 := (s2.trans t4).trans s5
        refine ⟨rfl, _, rfl, _, rfl, _, rfl, _, _, rfl, rfl, dp, _, _, nV d, rfl, rfl, s5.seq hG, at_n (j := 1 + j) (getn hd), b, _, _, V.int x, rfl, rfl, t5.seq hN, at_n (getn hx), _, er, ?_, l ++ [x], s5.mut nra, ?_, by rw [List.length_append, ll]; rfl, fun y hy => ?_⟩
        · unfold IL
          rw [List.length_map, ll]
          exact szl (by omega)
        · rw [upd_same, IL_snoc]
        · rcases List.mem_append.mp hy with h | h
          · exact sl y h
          · rw [List.mem_singleton.mp h]
            exact List.mem_of_getElem? hx
      rintro H5 ⟨l, s5, er, ll, sl⟩
      have t5 := (s2.trans t4).trans s5
      have s25 := t4.trans s5
      have ep5 := s25 _ _ ep
      have nap : ra ≠ p := fun e => by
        rw [e] at nra
        rw [t4 _ _ ep] at nra
        cases nra
      refine nextS (ifsetP (i1 := 7) (C := d5 = 0 ∧ 0 < i) (fun v H' => ∃ (ra : Addr) (l : Lot), v = .ref ra ∧ ra ≠ p ∧ Same H5 H' ∧ H' ra = some (.lst (IL l)) ∧ l.length ≤ 4 ∧ K25.Sub l ns) (fun Q hq => ?_) rfl (fun _ => ⟨ra, l, rfl, nap, Same.refl H5, er, by omega, sl⟩) (fun hc Q hq => ?_) ?_)
      · refine ⟨_, rfl, dp, _, 5, nV d5, rfl, rfl, s5.seq hG, at_n (j := 5) rfl, rfl, _, rfl, ?_⟩
        by_cases e5 : d5 = 0
        · rw [decide_eq_true (show nV d5 = V.int 0 by rw [e5]; rfl)]
          exact iteT ⟨_, rfl, _, _, rfl, rfl, _, rfl, hq _ ⟨fun h => ⟨e5, by have := of_decide_eq_true h; omega⟩, fun h => decide_eq_true (by omega)⟩⟩
        · rw [decide_eq_false (show ¬ nV d5 = V.int 0 from fun z => e5 (by have := V.int.inj z; omega))]
          exact iteF (hq _ ⟨fun h => Bool.noConfusion h, fun h => absurd h.1 e5⟩)
      · obtain ⟨rw_, hrw⟩ := get_lt (l := ss) (i := i - 1) (by omega)
        obtain ⟨v, hv, ra', rfl, np', e'⟩ := P_left hW hrw
        refine ⟨_, rfl, _, rfl, _, _, rfl, rfl, p, _, _, .ref ra', rfl, rfl, SqL.of ep5, ?_, ra', _, rfl, SqL.of (s25 _ _ e'), fun rb nrb => hq _ _ ⟨rb, rw_.reverse, rfl, (fun e => by rw [e, ep5] at nrb; cases nrb), (Same.refl H5).new nrb, ?_, ?_, ?_⟩⟩
        · rw [show (i : Int) - 1 = ((i - 1 : Nat) : Int) by omega]
          exact at_n hv
        · rw [upd_same]
          unfold IL
          rw [List.map_reverse]
        · rw [List.length_reverse]
          exact (sw _ (List.mem_of_getElem? hrw)).1
        · exact sub_rev (sw _ (List.mem_of_getElem? hrw)).2
      rintro u1 H6 ⟨rb, l', rfl, nbp, s6, eb, ll', sl'⟩
      have ep6 := s6 _ _ ep5
      have ul : us.length = i := by rw [P_len hW, ssl]
      refine ⟨_, rfl, .inl ⟨rfl, _, SqL.of ep6⟩, _, rfl, p, _, _, rfl, rfl, ep6, szl (by omega), ⟨_, _, _, _, us ++ [.ref rb], ss ++ [l'], rfl, (t5.trans s6).mut np, upd_same, ?_, by rw [List.length_append, ssl]; rfl, fun s hs => ?_⟩⟩
      · exact P_append (P_mono (fun v T ⟨a, e, n, q⟩ => ⟨a, e, n, by rw [upd_ne n]; exact (s25.trans s6) _ _ q⟩) hW) (.cons ⟨rb, rfl, nbp, by rw [upd_ne nbp]; exact eb⟩ .nil)
      · rcases List.mem_append.mp hs with h | h
        · exact sw s h
        · rw [List.mem_singleton.mp h]
          exact ⟨ll', sl'⟩
    · rintro σ H2 ⟨v4, v5, v6, v7, us, ss, rfl, s2, ep, hW, sl, sw⟩
      exact ⟨_, rfl, q p us ss H2 s2 np ep (P_mono (fun v T ⟨a, e, _, q⟩ => ⟨a, e, q⟩) hW) sl sw⟩
def sp_shares (K : PySem.W.Frag) : Sp := fun vs H Q _ => ∃ (a b : Addr) (T s : Lot), vs = [.ref a, .ref b] ∧ SqL K H a (IL T) ∧ SqL K H b (IL s) ∧ ∀ r, (r = true ↔ ∃ x ∈ T, x ∈ s) → Q (.bl r) H
theorem ok_shares {f : Addr} {fd : FuncData} (F : Fun K "_law_shares" "_law_shares" s_law_shares f fd) (T : Txt mg) : FnOk P w K mg base CX0 1 f fd ["lot", "row"] (sp_shares K) := by
  refine F.ok sc_law_shares (fun vs H Q E h => ?_) (fun cdv A outer s H vs Q E hr h => ?_)
  · obtain ⟨a, b, L, s, rfl, _⟩ := h
    rfl
  · obtain ⟨a, b, L, sv, rfl, hA, hB, q⟩ := h
    refine ⟨_, (pss_cons (ps_for PassesOwn.never rfl (pi_list (pv 1)) (pg_name (i := 2) sc_law_shares.nd rfl (.inl rfl))
 (pss_one (ps_if (pt_cmpR op_in_seq (pv 2) (pv 0) (by rfl))
 (pss_one (ps_ret pe_bl))
 pss_nil)))
 (pss_one (ps_ret pe_bl))), ?_⟩
    refine ⟨_, rfl, b, rfl, ⟨_, hB⟩, for_list (K := K) (a := b) (xs := IL sv) (fun i σ H' => ∃ v2 : Option V, σ = [some (.ref a), some (.ref b), v2] ∧ H' = H ∧ ∀ x ∈ sv.take i, x ∉ L)
      ⟨none, rfl, rfl, fun x h => by rw [List.take_zero] at h; cases h⟩ (fun i σ H' _ ⟨_, _, e, _⟩ => by rw [e]; exact hB) ?_ ?_⟩
    · rintro i x σ H' hx ⟨v2, rfl, rfl, no⟩
      obtain ⟨y, hy, rfl⟩ := getn_inv hx
      refine ⟨_, rfl, _, rfl, a, _, rfl, .inl hA, rfl, flat_i _, _, rfl, ?_⟩
      rw [in_i]
      cases c : L.contains y with
      | true => exact iteT (q true ⟨fun _ => ⟨y, by simpa using c, List.mem_of_getElem? hy⟩, fun _ => rfl⟩)
      | false =>
        refine iteF ⟨_, rfl, rfl, fun x hx => ?_⟩
        rw [take_more hy] at hx
        rcases List.mem_append.mp hx with h | h
        · exact no x h
        · rw [List.mem_singleton.mp h]
          simpa using c
    · rintro σ H' ⟨v2, rfl, rfl, no⟩
      rw [show (IL sv).length = sv.length by unfold IL; rw [List.length_map], List.take_length] at no
      exact q false ⟨fun z => Bool.noConfusion z, fun ⟨x, h1, h2⟩ => absurd h1 (no x h2)⟩
def sp_hits (K : PySem.W.Frag) : Sp := fun vs H Q _ => ∃ (a b : Addr) (us : List V) (ss : List Lot) (T : Lot), vs = [.ref a, .ref b] ∧ SqL K H a us ∧ LS K H us ss ∧ SqL K H b (IL T) ∧ ∀ r, (r = true ↔ Hit ss T) → Q (.bl r) H
theorem ok_hits {f f1 : Addr} {fd fd1 : FuncData} (F : Fun K "_law_hits" "_law_hits" s_law_hits f fd) (T : Txt mg) (C_law_shares : Cal P w K mg base 1 "_law_shares" ["lot", "row"] (sp_shares K) f1 fd1) : FnOk P w K mg base CX0 2 f fd ["sets", "lot"] (sp_hits K) := by
  refine F.ok sc_law_hits (fun vs H Q E h => ?_) (fun cdv A outer s H vs Q E hr h => ?_)
  · obtain ⟨a, b, us, ss, L, rfl, _⟩ := h
    rfl
  · obtain ⟨a, b, us, ss, L, rfl, hA, hL, hB, q⟩ := h
    refine ⟨_, (pss_cons (ps_for PassesOwn.never rfl (pi_list (pv 0)) (pg_name (i := 2) sc_law_hits.nd rfl (.inl rfl))
 (pss_one (ps_if (pt_not (pt_val (pe_call C_law_shares.ok (hr.mono (by decide)) (by rfl) C_law_shares.mg C_law_shares.kp C_law_shares.b .nil pass0 (pa_cons (pv 1) (pa_cons (pv 2) pa_nil)))))
 (pss_one (ps_ret pe_bl))
 pss_nil)))
 (pss_one (ps_ret pe_bl))), ?_⟩
    refine ⟨_, rfl, a, rfl, ⟨_, hA⟩, for_list (K := K) (a := a) (xs := us) (fun i σ H' => ∃ v2 : Option V, σ = [some (.ref a), some (.ref b), v2] ∧ H' = H ∧ ∀ s ∈ ss.take i, ∃ x ∈ L, x ∈ s)
      ⟨none, rfl, rfl, fun x h => by rw [List.take_zero] at h; cases h⟩ (fun i σ H' _ ⟨_, _, e, _⟩ => by rw [e]; exact hA) ?_ ?_⟩
    · rintro i x σ H' hx ⟨v2, rfl, rfl, ok⟩
      obtain ⟨sv, hs, c, rfl, ec⟩ := P_right hL hx
      refine ⟨_, rfl, _, rfl, b, c, L, sv, rfl, hB, ec, fun r hr' => ⟨_, rfl, ?_⟩⟩
      cases r with
      | true =>
        refine iteF ⟨_, rfl, rfl, fun t ht => ?_⟩
        rw [take_more hs] at ht
        rcases List.mem_append.mp ht with h | h
        · exact ok t h
        · rw [List.mem_singleton.mp h]
          exact hr'.mp rfl
      | false => exact iteT (q false ⟨fun z => Bool.noConfusion z, fun h => Bool.noConfusion (hr'.mpr (h sv (List.mem_of_getElem? hs)))⟩)
    · rintro σ H' ⟨v2, rfl, rfl, ok⟩
      rw [P_len hL, List.take_length] at ok
      exact q true ⟨fun _ => ok, fun _ => rfl⟩
def sp_lpart (K : PySem.W.Frag) : Sp := fun vs H Q _ => ∃ (a b : Addr) (us : List V) (found : List Lot) (T : Lot), vs = [.ref a, .ref b] ∧ SqL K H a (IL T) ∧ SqL K H b us ∧ LS K H us found ∧ (∀ M ∈ found, M.length ≤ 1000) ∧ ∀ r H', Same H H' → (r = true ↔ partE found T) → Q (.bl r) H'
theorem ok_lpart {f : Addr} {fd : FuncData} (F : Fun K "_law_has_part" "_law_has_part" s_law_has_part f fd) (T : Txt mg) : FnOk P w K mg base CX0 1 f fd ["lot", "found"] (sp_lpart K) := by
  refine F.ok sc_law_has_part (fun vs H Q E h => ?_) (fun cdv A outer s H vs Q E hr h => ?_)
  · obtain ⟨a, b, us, found, L, rfl, _⟩ := h
    rfl
  · obtain ⟨a, b, us, found, L, rfl, hA, hB, hL, hml, q⟩ := h
    refine ⟨_, (pss_cons (ps_for PassesOwn.never rfl (pi_list (pv 1)) (pg_name (i := 2) sc_law_has_part.nd rfl (.inl rfl))
 (pss_one (ps_if (pt_cmpR op_eq (pe_callB call_len_seq (by rfl) T.len (by decide +kernel) (pa_cons (pe_lc (own := [("number", 3)]) (g := gName 3) rfl sc_law_has_part.nd (pi_list (pv 2)) (blkOk_by (N := ["lot", "found", "part", "number"]) (sc := defScope s_law_has_part) (by decide +kernel)) (fun _ _ _ _ _ => (pg_name (i := 3) sc_law_has_part.nd rfl (.inl rfl))) (fun _ _ _ _ _ => pts_one (pt_cmpR (r := rIn K false) op_in_seq (pv 3) (pv 0) (by rfl))) (fun _ _ _ _ _ => (pv 3))) pa_nil)) (pe_callB call_len_seq (by rfl) T.len (by decide +kernel) (pa_cons (pv 2) pa_nil)) (nomark _))
 (pss_one (ps_ret pe_bl))
 pss_nil)))
 (pss_one (ps_ret pe_bl))), ?_⟩
    refine ⟨_, rfl, b, rfl, ⟨_, hB⟩, for_list (K := K) (a := b) (xs := us) (fun i σ H' => ∃ v2 v3 : Option V, σ = [some (.ref a), some (.ref b), v2, v3] ∧ Same H H' ∧ ∀ M ∈ found.take i, ¬ K25.Sub M L)
      ⟨none, none, rfl, Same.refl H, fun x h => by rw [List.take_zero] at h; cases h⟩ (fun i σ H' _ ⟨_, _, _, s, _⟩ => s.seq hB) ?_ ?_⟩
    · rintro i x σ H1 hx ⟨v2, v3, rfl, s1, no⟩
      obtain ⟨M, hM, c, rfl, ec⟩ := P_right hL hx
      have hMl := hml M (List.mem_of_getElem? hM)
      refine ⟨_, rfl, c, rfl, ⟨_, s1.seq ec⟩, fun D nD => ?_⟩
      refine lc_list (K := K) (a := c) (xs := IL M) (fun i H' => Same H1 H' ∧ H' D = some (.lst (IL ((M.take i).filter fun x => L.contains x)))) ⟨(Same.refl H1).new nD, upd_same⟩ (fun i H' _ ⟨s, _⟩ => (s1.trans s).seq ec) ?_ ?_
      · rintro j y H2 hy ⟨s2, eD⟩
        obtain ⟨p, hp, rfl⟩ := getn_inv hy
        refine ⟨rfl, _, rfl, _, rfl, a, _, rfl, .inl ((s1.trans s2).seq hA), rfl, flat_i _, _, rfl, ?_⟩
        rw [in_i]
        have e1 : (M.take (j + 1)).filter (fun x => L.contains x) = (M.take j).filter (fun x => L.contains x) ++ (if L.contains p then [p] else []) := by
          exact fil_more hp (fun x => L.contains x)
        rw [e1]
        cases z : L.contains p with
        | false => exact iteF ⟨s2, by rw [eD]; simp⟩
        | true =>
          refine iteT ⟨_, rfl, _, eD, ?_, s2.mut nD, ?_⟩
          · unfold IL
            rw [List.length_map]
            exact szl (Nat.le_trans (List.length_filter_le _ _) (Nat.le_trans (List.length_take_le' _ _) (by omega)))
          · rw [upd_same, if_pos rfl, IL_snoc]
      rintro H2 ⟨s2, eD⟩
      rw [show (IL M).length = M.length by unfold IL; rw [List.length_map], List.take_length] at eD
      refine ⟨D, _, rfl, .inl (SqL.of eD), _, rfl, c, _, rfl, .inl ((s1.trans s2).seq ec), rfl, _, rfl, ?_⟩
      have e2 : decide (V.int (((IL (M.filter fun x => L.contains x)).length : Nat) : Int) = V.int (((IL M).length : Nat) : Int)) = true ↔ K25.Sub M L := by
        rw [decide_eq_true_eq]
        unfold IL
        rw [List.length_map, List.length_map]
        constructor
        · intro h x hx
          have h2 : (M.filter fun x => L.contains x).length = M.length := by have := V.int.inj h; omega
          have := List.length_filter_eq_length_iff.mp h2 x hx
          simpa using this
        · intro h
          rw [List.length_filter_eq_length_iff.mpr fun x hx => by simpa using h x hx]
      generalize decide (V.int (((IL (M.filter fun x => L.contains x)).length : Nat) : Int) = V.int (((IL M).length : Nat) : Int)) = r at e2 ⊢
      cases r with
      | true => exact iteT (q true H2 (s1.trans s2) ⟨fun _ => ⟨M, List.mem_of_getElem? hM, e2.mp rfl⟩, fun _ => rfl⟩)
      | false =>
        refine iteF ⟨_, _, rfl, s1.trans s2, fun N hN => ?_⟩
        rw [take_more hM] at hN
        rcases List.mem_append.mp hN with h | h
        · exact no N h
        · rw [List.mem_singleton.mp h]
          exact fun z => Bool.noConfusion (e2.mpr z)
    · rintro σ H1 ⟨v2, v3, rfl, s1, no⟩
      rw [P_len hL, List.take_length] at no
      exact q false H1 s1 ⟨fun z => Bool.noConfusion z, fun ⟨M, h1, h2⟩ => absurd h2 (no M h1)⟩
end
end K25W

namespace K25W
open PySem PySem.Spec PyProof.Rows L2 KH KD KP K25 LamX NdefX
/-! ### all lots of a pool, by their numbers -/
theorem min_pool {ss : List Lot} {M : Lot} (m : Min ss M) : ∀ x ∈ M, ∃ s ∈ ss, x ∈ s := fun x hx => Classical.byContradiction fun no => by
  have hit : Hit ss (M.erase x) := fun s hs => by
    obtain ⟨y, hy, hys⟩ := m.hit s hs
    exact ⟨y, (List.mem_erase_of_ne (fun e : y = x => no ⟨s, hs, e ▸ hys⟩)).mpr hy, hys⟩
  have sub : K25.Sub (M.erase x) M := fun y hy => List.mem_of_mem_erase hy
  have := m.least _ sub hit x hx
  exact absurd this (List.Nodup.not_mem_erase m.asc.nd)
theorem lx_app1 : ∀ {A B : Lot} {a b : Int}, A.length = B.length → lx A B = true → lx (A ++ [a]) (B ++ [b]) = true
  | [], [], _, _, _, h => by cases h
  | [], _ :: _, _, _, h, _ => by cases h
  | _ :: _, [], _, _, h, _ => by cases h
  | x :: A, y :: B, a, b, l, h => by
    show (if x = y then lx (A ++ [a]) (B ++ [b]) else decide (x < y)) = true
    have h' : (if x = y then lx A B else decide (x < y)) = true := h
    by_cases e : x = y
    · rw [if_pos e] at h' ⊢
      exact lx_app1 (Nat.succ.inj l) h'
    · rw [if_neg e] at h' ⊢
      exact h'
theorem lx_app2 {a b : Int} (h : a < b) : ∀ A : Lot, lx (A ++ [a]) (A ++ [b]) = true
  | [] => by
    show (if a = b then lx [] [] else decide (a < b)) = true
    rw [if_neg (by omega)]
    exact decide_eq_true h
  | x :: A => by
    show (if x = x then lx (A ++ [a]) (A ++ [b]) else decide (x < x)) = true
    rw [if_pos rfl]
    exact lx_app2 h A
structure Lv (pool : Lot) (k : Nat) (lots : List Lot) : Prop where
  l : ∀ U, U ∈ lots ↔ Asc U ∧ U.length = k ∧ K25.Sub U pool
  lo : lots.Pairwise fun a b => lx a b = true
structure Fd (ss : List Lot) (k : Nat) (pre found : List Lot) : Prop where
  f : ∀ M, M ∈ found ↔ Min ss M ∧ (M.length < k ∨ M ∈ pre)
  fo : found.Pairwise K25.od
theorem lx_nd {L : List Lot} (h : L.Pairwise fun a b => lx a b = true) : L.Nodup := List.Pairwise.imp (fun {a b} (h : lx a b = true) (e : a = b) => by rw [e, lx_irr] at h; cases h) h
theorem od_nd {L : List Lot} (h : L.Pairwise K25.od) : L.Nodup := List.Pairwise.imp (fun {a b} (h : K25.od a b) (e : a = b) => od_irr a (by rw [← e] at h; exact h)) h
section
variable {ss : List Lot} {pool : Lot} {k i : Nat} {lots found : List Lot}
theorem Lv.few (h : Lv pool k lots) (ap : Asc pool) (lp : pool.length ≤ 7) : lots.length ≤ 128 := by
  have := K25.few ap (lx_nd h.lo) fun T hT => ⟨((h.l T).mp hT).1, ((h.l T).mp hT).2.2⟩
  have : 2 ^ pool.length ≤ 2 ^ 7 := Nat.pow_le_pow_right (by decide) lp
  omega
theorem Fd.test (lv : Lv pool k lots) (fd : Fd ss k (lots.take i) found) {U : Lot} (hU : lots[i]? = some U) : (Hit ss U ∧ ¬ partE found U) ↔ Min ss U := by
  obtain ⟨asc, len, sub⟩ := (lv.l U).mp (List.mem_of_getElem? hU)
  have notin : U ∉ lots.take i := fun z => by
    obtain ⟨j, hj⟩ := List.mem_iff_getElem?.mp z
    rw [List.getElem?_take] at hj
    split at hj
    · rename_i lt
      have := (List.getElem?_inj (lt_get hU) (lx_nd lv.lo)).mp (hU.trans hj.symm)
      omega
    · cases hj
  constructor
  · rintro ⟨hit, np⟩
    obtain ⟨M, m, s⟩ := has_min U.length U (Nat.le_refl _) asc hit
    by_cases e : M.length < k
    · exact absurd ⟨M, (fd.f M).mpr ⟨m, .inl e⟩, s⟩ np
    · rw [← sub_eq m.asc asc s (by omega)]
      exact m
  · intro m
    refine ⟨m.hit, fun ⟨M, hM, s⟩ => ?_⟩
    obtain ⟨m', z⟩ := (fd.f M).mp hM
    have e := m'.eq m s
    subst e
    exact z.elim (fun z => by omega) notin
theorem Fd.yes (lv : Lv pool k lots) (fd : Fd ss k (lots.take i) found) {U : Lot} (hU : lots[i]? = some U) (m : Min ss U) : Fd ss k (lots.take (i + 1)) (found ++ [U]) := by
  have len := ((lv.l U).mp (List.mem_of_getElem? hU)).2.1
  have et := take_more hU
  refine ⟨fun M => ?_, List.pairwise_append.mpr ⟨fd.fo, List.pairwise_singleton _ _, fun A hA B hB => ?_⟩⟩
  · rw [List.mem_append, fd.f, et, List.mem_append, List.mem_singleton]
    constructor
    · rintro (⟨a, b | b⟩ | rfl)
      · exact ⟨a, .inl b⟩
      · exact ⟨a, .inr (.inl b)⟩
      · exact ⟨m, .inr (.inr rfl)⟩
    · rintro ⟨a, b | b | b⟩
      · exact .inl ⟨a, .inl b⟩
      · exact .inl ⟨a, .inr b⟩
      · exact .inr b
  · rw [List.mem_singleton.mp hB]
    obtain ⟨a, b⟩ := (fd.f A).mp hA
    rcases b with b | b
    · exact .inl (by omega)
    · have h1 := ((lv.l A).mp (List.mem_of_mem_take b)).2.1
      refine .inr ⟨by omega, ?_⟩
      have pw := lv.lo.sublist (List.take_sublist (i + 1) lots)
      rw [et] at pw
      exact (List.pairwise_append.mp pw).2.2 A b U (List.mem_singleton.mpr rfl)
theorem Fd.no (fd : Fd ss k (lots.take i) found) {U : Lot} (hU : lots[i]? = some U) (m : ¬ Min ss U) : Fd ss k (lots.take (i + 1)) found := by
  refine ⟨fun M => ?_, fd.fo⟩
  rw [fd.f, take_more hU, List.mem_append, List.mem_singleton]
  constructor
  · rintro ⟨a, b | b⟩
    · exact ⟨a, .inl b⟩
    · exact ⟨a, .inr (.inl b)⟩
  · rintro ⟨a, b | b | b⟩
    · exact ⟨a, .inl b⟩
    · exact ⟨a, .inr b⟩
    · rw [b] at a
      exact absurd a m
theorem Fd.round (lv : Lv pool k lots) (hp : ∀ s ∈ ss, K25.Sub s pool) (fd : Fd ss k lots found) : Fd ss (k + 1) [] found := by
  refine ⟨fun M => ?_, fd.fo⟩
  rw [fd.f]
  constructor
  · rintro ⟨a, b⟩
    refine ⟨a, .inl ?_⟩
    rcases b with b | b
    · omega
    · have := ((lv.l M).mp b).2.1
      omega
  · rintro ⟨a, b | b⟩
    · refine ⟨a, ?_⟩
      by_cases e : M.length < k
      · exact .inl e
      · refine .inr ((lv.l M).mpr ⟨a.asc, by omega, fun x hx => ?_⟩)
        obtain ⟨s, hs, hxs⟩ := min_pool a x hx
        exact hp s hs x hxs
    · cases b
/-- longer ones: of the lots ahead, and of one with the numbers ahead -/
structure Lg (pool : Lot) (pre : List Lot) (U : Lot) (ps : Lot) (L : List Lot) : Prop where
  m : ∀ W, W ∈ L ↔ (∃ V ∈ pre, ∃ p ∈ pool, W = V ++ [p] ∧ Asc W) ∨ ∃ p ∈ ps, W = U ++ [p] ∧ Asc W
  o : L.Pairwise fun a b => lx a b = true
theorem Lg.start (pool : Lot) (U : Lot) : Lg pool [] U [] [] := ⟨fun W => ⟨fun h => (by cases h), fun h => h.elim (fun ⟨_, h, _⟩ => by cases h) fun ⟨_, h, _⟩ => by cases h⟩, .nil⟩
theorem Lg.swap {pre : List Lot} {U U' : Lot} {L : List Lot} (h : Lg pool pre U [] L) : Lg pool pre U' [] L := by
  refine ⟨fun W => ?_, h.o⟩
  rw [h.m]
  constructor
  · rintro (z | ⟨_, z, _⟩)
    · exact .inl z
    · cases z
  · rintro (z | ⟨_, z, _⟩)
    · exact .inl z
    · cases z
theorem Lg.done {pre : List Lot} {U U' : Lot} {L : List Lot} (h : Lg pool pre U pool L) : Lg pool (pre ++ [U]) U' [] L := by
  refine ⟨fun W => ?_, h.o⟩
  rw [h.m]
  constructor
  · rintro (⟨V, hV, z⟩ | z)
    · exact .inl ⟨V, List.mem_append_left _ hV, z⟩
    · exact .inl ⟨U, List.mem_append_right _ (List.mem_singleton.mpr rfl), z⟩
  · rintro (⟨V, hV, z⟩ | ⟨_, z, _⟩)
    · rcases List.mem_append.mp hV with hV | hV
      · exact .inl ⟨V, hV, z⟩
      · rw [List.mem_singleton.mp hV] at z
        exact .inr z
    · cases z
theorem Lg.yes {pre : List Lot} {U : Lot} {L : List Lot} {j : Nat} {p : Int} (ap : Asc pool) (h : Lg pool pre U (pool.take j) L) (hp : pool[j]? = some p) (hl : ∀ V ∈ pre, V.length = U.length ∧ lx V U = true) (a : Asc (U ++ [p])) : Lg pool pre U (pool.take (j + 1)) (L ++ [U ++ [p]]) := by
  refine ⟨fun W => ?_, List.pairwise_append.mpr ⟨h.o, List.pairwise_singleton _ _, fun A hA B hB => ?_⟩⟩
  · rw [List.mem_append, h.m, take_more hp, List.mem_singleton]
    constructor
    · rintro ((z | ⟨q, hq, z⟩) | rfl)
      · exact .inl z
      · exact .inr ⟨q, List.mem_append_left _ hq, z⟩
      · exact .inr ⟨p, List.mem_append_right _ (List.mem_singleton.mpr rfl), rfl, a⟩
    · rintro (z | ⟨q, hq, e, z⟩)
      · exact .inl (.inl z)
      · rcases List.mem_append.mp hq with hq | hq
        · exact .inl (.inr ⟨q, hq, e, z⟩)
        · rw [List.mem_singleton.mp hq] at e
          exact .inr e
  · rw [List.mem_singleton.mp hB]
    rcases (h.m A).mp hA with ⟨V, hV, q, _, e, _⟩ | ⟨q, hq, e, _⟩
    · rw [e]
      exact lx_app1 (hl V hV).1 (hl V hV).2
    · rw [e]
      refine lx_app2 ?_ U
      have pw := ap.sublist (List.take_sublist (j + 1) pool)
      rw [take_more hp] at pw
      exact (List.pairwise_append.mp pw).2.2 q hq p (List.mem_singleton.mpr rfl)
theorem Lg.no {pre : List Lot} {U : Lot} {L : List Lot} {j : Nat} {p : Int} (h : Lg pool pre U (pool.take j) L) (hp : pool[j]? = some p) (a : ¬ Asc (U ++ [p])) : Lg pool pre U (pool.take (j + 1)) L := by
  refine ⟨fun W => ?_, h.o⟩
  rw [h.m, take_more hp]
  constructor
  · rintro (z | ⟨q, hq, z⟩)
    · exact .inl z
    · exact .inr ⟨q, List.mem_append_left _ hq, z⟩
  · rintro (z | ⟨q, hq, e, z⟩)
    · exact .inl z
    · rcases List.mem_append.mp hq with hq | hq
      · exact .inr ⟨q, hq, e, z⟩
      · rw [List.mem_singleton.mp hq] at e
        rw [e] at z
        exact absurd z a
theorem Lg.small {pre : List Lot} {U : Lot} {ps : Lot} {L : List Lot} (h : Lg pool pre U ps L) (ap : Asc pool) (lp : pool.length ≤ 7) (hpre : ∀ V ∈ pre, K25.Sub V pool) (hU : K25.Sub U pool) (hps : K25.Sub ps pool) : L.length ≤ 128 := by
  have := K25.few ap (lx_nd h.o) fun W hW => by
    rcases (h.m W).mp hW with ⟨V, hV, q, hq, e, a⟩ | ⟨q, hq, e, a⟩
    · refine ⟨a, fun x hx => ?_⟩
      rw [e] at hx
      rcases List.mem_append.mp hx with hx | hx
      · exact hpre V hV x hx
      · rw [List.mem_singleton.mp hx]
        exact hq
    · refine ⟨a, fun x hx => ?_⟩
      rw [e] at hx
      rcases List.mem_append.mp hx with hx | hx
      · exact hU x hx
      · rw [List.mem_singleton.mp hx]
        exact hps q hq
  have : 2 ^ pool.length ≤ 2 ^ 7 := Nat.pow_le_pow_right (by decide) lp
  omega
theorem Lg.lv {U : Lot} {L : List Lot} (lv : Lv pool k lots) (h : Lg pool lots U [] L) : Lv pool (k + 1) L := by
  refine ⟨fun W => ?_, h.o⟩
  rw [h.m]
  constructor
  · rintro (⟨V, hV, q, hq, e, a⟩ | ⟨_, z, _⟩)
    · obtain ⟨a1, a2, a3⟩ := (lv.l V).mp hV
      refine ⟨a, by rw [e, List.length_append, a2]; rfl, fun x hx => ?_⟩
      rw [e] at hx
      rcases List.mem_append.mp hx with hx | hx
      · exact a3 x hx
      · rw [List.mem_singleton.mp hx]
        exact hq
    · cases z
  · rintro ⟨a, l, s⟩
    have ne : W ≠ [] := fun e => by rw [e] at l; cases l
    have e := List.dropLast_concat_getLast ne
    refine .inl ⟨W.dropLast, (lv.l _).mpr ⟨List.Pairwise.sublist (List.dropLast_sublist W) a, by rw [List.length_dropLast, l]; rfl, fun x hx => s x ((List.dropLast_sublist W).subset hx)⟩, W.getLast ne, s _ (List.getLast_mem ne), e.symm, a⟩
end
end K25W

namespace K25W
open PySem PySem.Spec PyProof.Rows L2 KH KD KP K25 LamX NdefX
abbrev s_law_least : Stmt := topS 21
theorem sc_law_least : FnScope ["sets", "cap", "pool", "row", "number", "found", "lots", "size", "longer", "lot"] ["sets", "cap"] (defScope s_law_least) := ⟨rfl, rfl, rfl, by decide +kernel, rfl, by decide +kernel, by decide +kernel⟩

theorem ints_lay : ∀ l : List Int, PyData.canLayAll0 (l.map PySem.W.Datum.toD) = true
  | [] => by simp [PyData.canLayAll0]
  | x :: l => by
    have ih := ints_lay l
    rw [List.map_cons]
    show PyData.canLayAll0 (.int x :: _) = true
    simp only [PyData.canLayAll0, PyData.canLay0, ih, Bool.and_self]
theorem ints_depth : ∀ l : List Int, PyData.depthAll (l.map PySem.W.Datum.toD) = 0
  | [] => by simp [PyData.depthAll]
  | x :: l => by
    have ih := ints_depth l
    rw [List.map_cons]
    show PyData.depthAll (.int x :: _) = 0
    simp only [PyData.depthAll, PyData.depth, ih]
    rfl
theorem shapedL (l : Lot) : SeqAt.shaped (PySem.W.Datum.toD (α := List Int) l) = true := by
  show SeqAt.shaped (.list (l.map PySem.W.Datum.toD)) = true
  unfold SeqAt.shaped
  simp only [PyData.canLay0, ints_lay, Bool.true_and, PyData.depth, decide_eq_true_eq, ints_depth]
  decide
theorem dpL {K : PySem.W.Frag} {H : Hp} {a : Addr} {l : Lot} (h : SqL K H a (IL l)) : Dp K H (.ref a) (PySem.W.Datum.toD (α := List Int) l) := .lst h (ints_dpall l)
/-- rows apart from two lists -/
def RX (x y : Addr) (H : Hp) (us : List V) (L : List Lot) : Prop := Paired (fun v T => ∃ a, v = V.ref a ∧ a ≠ x ∧ a ≠ y ∧ H a = some (.lst (IL T))) us L
section
variable {x y z : Addr} {H H' : Hp} {us : List V} {L : List Lot}
theorem RX.same (h : RX x y H us L) (s : Same H H') : RX x y H' us L := P_mono (fun _ _ ⟨a, e, n, m, q⟩ => ⟨a, e, n, m, s _ _ q⟩) h
theorem RX.updX {o : HO} (h : RX x y H us L) : RX x y (upd H x o) us L := P_mono (fun _ _ ⟨a, e, n, m, q⟩ => ⟨a, e, n, m, by rw [upd_ne n]; exact q⟩) h
theorem RX.updY {o : HO} (h : RX x y H us L) : RX x y (upd H y o) us L := P_mono (fun _ _ ⟨a, e, n, m, q⟩ => ⟨a, e, n, m, by rw [upd_ne m]; exact q⟩) h
theorem RX.new (h : RX x y H us L) (n : H z = none) : RX x z H us L := P_mono (fun _ _ ⟨a, e, n1, _, q⟩ => ⟨a, e, n1, ne_of_none q n, q⟩) h
theorem RX.ls {K : PySem.W.Frag} (h : RX x y H us L) : LS K H us L := P_mono (fun _ _ ⟨a, e, _, _, q⟩ => ⟨a, e, SqL.of q⟩) h
end
section
variable {P : Program} {w : World} {K : PySem.W.Frag} {mg : Str → Option Value} {base : Heap} {CN CB CT fJ : Addr}
def sp_lleast (K : PySem.W.Frag) : Sp := fun vs H Q _ => ∃ (sa : Addr) (cap : Nat) (us : List V) (ss : List Lot) (ns : Lot), vs = [.ref sa, nV cap] ∧ SqL K H sa us ∧ LS K H us ss ∧ cap ≤ 100 ∧ Asc ns ∧ ns.length ≤ 7 ∧ (∀ s ∈ ss, K25.Sub s ns) ∧
  ∀ r ws L H', Same H H' → H' r = some (.lst ws) → LS K H' ws L → ((∃ s ∈ ss, s = []) → L = []) → ((∀ s ∈ ss, s ≠ []) → All ss cap L) → Q (.ref r) H'
theorem ok_lleast {f f1 f2 : Addr} {fd fd1 fd2 : FuncData} (F : Fun K "_law_least" "_law_least" s_law_least f fd) (T : Txt mg) (C_law_hits : Cal P w K mg base 2 "_law_hits" ["sets", "lot"] (sp_hits K) f1 fd1) (C_law_has_part : Cal P w K mg base 1 "_law_has_part" ["lot", "found"] (sp_lpart K) f2 fd2) : FnOk P w K mg base CX0 3 f fd ["sets", "cap"] (sp_lleast K) := by
  refine F.ok sc_law_least (fun vs H Q E h => ?_) (fun cdv A outer s H vs Q E hr h => ?_)
  · obtain ⟨sa, cap, us, ss, ns, rfl, _⟩ := h
    rfl
  · obtain ⟨sa, cap, us, ss, ns, rfl, hS, hL, hcap, an, ln, sub, q⟩ := h
    refine ⟨_, (pss_cons (ps_set (i := 2) sc_law_least.nd rfl (.inl rfl) (pe_lst pa_nil))
 (pss_cons (ps_for PassesOwn.never rfl (pi_list (pv 0)) (pg_name (i := 3) sc_law_least.nd rfl (.inl rfl))
 (pss_cons (ps_if (pt_cmpR (op_eqD hr.units) (pv 3) (pe_lst pa_nil) (nomark _))
 (pss_one (ps_ret (pe_lst pa_nil)))
 pss_nil)
 (pss_one (ps_for PassesOwn.never rfl (pi_list (pv 3)) (pg_name (i := 4) sc_law_least.nd rfl (.inl rfl))
 (pss_one (ps_if (pt_cmpR op_notIn_seq (pv 4) (pv 2) (by rfl))
 (pss_one (ps_expr (pe_bm PySem.F.plainAttrs_list PySem.F.slot_list_append PySem.F.type_list_append mt_append (pv 2) (pa_cons (pv 4) pa_nil))))
 pss_nil))))))
 (pss_cons (ps_set (i := 2) sc_law_least.nd rfl (.inl rfl) (pe_callB cr_sortedI (by rfl) T.sorted (by decide +kernel) (pa_cons (pv 2) pa_nil)))
 (pss_cons (ps_set (i := 5) sc_law_least.nd rfl (.inl rfl) (pe_lst pa_nil))
 (pss_cons (ps_set (i := 6) sc_law_least.nd rfl (.inl rfl) (pe_lst (pa_cons (pe_lst pa_nil) pa_nil)))
 (pss_cons (ps_for PassesOwn.never rfl (pi_range1 rfl T.range (pa_cons (pe_op op_add (pv 1) pe_int) pa_nil)) (pg_name (i := 7) sc_law_least.nd rfl (.inl rfl))
 (pss_cons (ps_set (i := 8) sc_law_least.nd rfl (.inl rfl) (pe_lst pa_nil))
 (pss_cons (ps_for PassesOwn.never rfl (pi_list (pv 6)) (pg_name (i := 9) sc_law_least.nd rfl (.inl rfl))
 (pss_cons (ps_if (PW.pt (pw_and (pt_val (pe_call C_law_hits.ok (hr.mono (by decide)) (by rfl) C_law_hits.mg C_law_hits.kp C_law_hits.b .nil pass0 (pa_cons (pv 0) (pa_cons (pv 9) pa_nil)))) (pw_and1 (pt_not (pt_val (pe_call C_law_has_part.ok (hr.mono (by decide)) (by rfl) C_law_has_part.mg C_law_has_part.kp C_law_has_part.b .nil pass0 (pa_cons (pv 9) (pa_cons (pv 5) pa_nil))))))))
 (pss_one (ps_expr (pe_bm PySem.F.plainAttrs_list PySem.F.slot_list_append PySem.F.type_list_append mt_append (pv 5) (pa_cons (pv 9) pa_nil))))
 pss_nil)
 (pss_one (ps_for PassesOwn.never rfl (pi_list (pv 2)) (pg_name (i := 4) sc_law_least.nd rfl (.inl rfl))
 (pss_one (ps_if (PW.pt (pw_or (pt_cmpR (op_eqD hr.units) (pv 9) (pe_lst pa_nil) (nomark _)) (pw_or1 (pt_cmpR op_gt (pv 4) (pe_ix ix_list (pv 9) (pe_un un_neg pe_int) (fun _ _ => rfl)) (nomark _)))))
 (pss_one (ps_expr (pe_bm PySem.F.plainAttrs_list PySem.F.slot_list_append PySem.F.type_list_append mt_append (pv 8) (pa_cons (pe_op op_cat (pv 9) (pe_lst (pa_cons (pv 4) pa_nil))) pa_nil))))
 pss_nil))))))
 (pss_one (ps_set (i := 6) sc_law_least.nd rfl (.inl rfl) (pe_callTy call_list_of (by rfl) T.list (by decide +kernel) (pa_cons (pv 8) pa_nil)))))))
 (pss_one (ps_ret (pv 5))))))))), ?_⟩
    refine ⟨Nat.zero_le _, fun po npo => ?_⟩
    have s1 : Same H (upd H po (.lst [])) := (Same.refl H).new npo
    have epo : (upd H po (.lst [])) po = some (.lst (IL [])) := upd_same
    generalize upd H po (.lst []) = H1 at s1 epo ⊢
    refine ⟨_, rfl, sa, rfl, ⟨_, s1.seq hS⟩, for_list (K := K) (a := sa) (xs := us) (fun i σ H' => ∃ (v3 v4 : Option V) (ps : Lot), σ = [some (.ref sa), some (nV cap), some (.ref po), v3, v4, none, none, none, none, none] ∧ Same H H' ∧ H' po = some (.lst (IL ps)) ∧ ps.Nodup ∧ (∀ x, x ∈ ps ↔ ∃ s ∈ ss.take i, x ∈ s) ∧ ∀ s ∈ ss.take i, s ≠ [])
      ⟨none, none, [], rfl, s1, epo, List.nodup_nil, fun x => ⟨fun h => (by cases h), fun ⟨s, h, _⟩ => by rw [List.take_zero] at h; cases h⟩, fun s h => by rw [List.take_zero] at h; cases h⟩ (fun i σ H' _ ⟨_, _, _, _, sm, _⟩ => sm.seq hS) ?_ ?_⟩
    · rintro i x σ H2 hx ⟨v3, v4, ps, rfl, s2, epo, nd, mem, full⟩
      obtain ⟨sv, hs, a, rfl, ea⟩ := P_right hL hx
      have hsm := List.mem_of_getElem? hs
      refine ⟨_, rfl, Nat.zero_le _, fun z nz => ⟨_, _, dpL (((Same.refl H2).new nz).seq (s2.seq ea)), dpL (l := []) (SqL.of upd_same), shapedL _, shapedL _, _, rfl, ?_⟩⟩
      have sz : Same H2 (upd H2 z (.lst [])) := (Same.refl H2).new nz
      rw [PySem.W.Datum.eqv]
      by_cases c : sv = []
      · rw [decide_eq_true c]
        refine iteT ⟨Nat.zero_le _, fun r nr => ?_⟩
        exact q r [] [] _ ((s2.trans sz).new nr) upd_same .nil (fun _ => rfl) (fun h => absurd c (h sv hsm))
      rw [decide_eq_false c]
      generalize upd H2 z (.lst []) = H3 at sz ⊢
      refine iteF ⟨_, rfl, a, rfl, ⟨_, (s2.trans sz).seq ea⟩, for_list (K := K) (a := a) (xs := IL sv) (fun j σ H' => ∃ (v4 : Option V) (ps : Lot), σ = [some (.ref sa), some (nV cap), some (.ref po), some (.ref a), v4, none, none, none, none, none] ∧ Same H H' ∧ H' po = some (.lst (IL ps)) ∧ ps.Nodup ∧ ∀ x, x ∈ ps ↔ (∃ s ∈ ss.take i, x ∈ s) ∨ x ∈ sv.take j)
        ⟨v4, ps, rfl, s2.trans sz, sz _ _ epo, nd, fun x => by rw [mem, List.take_zero]; simp⟩ (fun j σ H' _ ⟨_, _, _, sm, _⟩ => sm.seq ea) ?_ ?_⟩
      · rintro j y σ H4 hy ⟨v4, ps, rfl, s4, epo, nd, mem⟩
        obtain ⟨p, hp, rfl⟩ := getn_inv hy
        have lps : ps.length ≤ 7 := by
          have := sub_len ps ns nd fun x hx => by
            rcases (mem x).mp hx with ⟨s, h, hxs⟩ | h
            · exact sub s (List.mem_of_mem_take h) x hxs
            · exact sub sv hsm x (List.mem_of_mem_take h)
          omega
        refine Dc.ifS (b := !ps.contains p) (fun Q q => ⟨_, rfl, _, rfl, po, _, rfl, .inl (SqL.of epo), rfl, flat_i _, _, rfl, by rw [in_i]; exact q⟩) (fun hc => ?_) (fun hc => ?_)
        · have np : p ∉ ps := by simpa using hc
          refine ⟨_, rfl, .inl ⟨rfl, _, SqL.of epo⟩, _, rfl, po, _, _, rfl, rfl, epo, ?_, ⟨_, ps ++ [p], rfl, s4.mut npo, ?_, List.nodup_append.mpr ⟨nd, by simp, fun x hx y hy e => np (by rw [← List.mem_singleton.mp hy, ← e]; exact hx)⟩, fun x => ?_⟩⟩
          · unfold IL
            rw [List.length_map]
            exact szl (by omega)
          · rw [upd_same, IL_snoc]
          · rw [List.mem_append, mem, take_more hp, List.mem_append, or_assoc]
        · have ip : p ∈ ps := by simpa using hc
          refine ⟨_, ps, rfl, s4, epo, nd, fun x => ?_⟩
          rw [mem, take_more hp, List.mem_append, List.mem_singleton]
          constructor
          · rintro (h | h)
            · exact .inl h
            · exact .inr (.inl h)
          · rintro (h | h | rfl)
            · exact .inl h
            · exact .inr h
            · exact (mem x).mp ip
      · rintro σ H4 ⟨v4, ps, rfl, s4, epo, nd, mem⟩
        rw [show (IL sv).length = sv.length by unfold IL; rw [List.length_map], List.take_length] at mem
        refine ⟨_, _, ps, rfl, s4, epo, nd, fun x => ?_, fun t ht => ?_⟩
        · rw [mem, take_more hs]
          constructor
          · rintro (⟨t, h, hx⟩ | h)
            · exact ⟨t, List.mem_append_left _ h, hx⟩
            · exact ⟨sv, List.mem_append_right _ (List.mem_singleton.mpr rfl), h⟩
          · rintro ⟨t, h, hx⟩
            rcases List.mem_append.mp h with h | h
            · exact .inl ⟨t, h, hx⟩
            · rw [List.mem_singleton.mp h] at hx
              exact .inr hx
        · rw [take_more hs] at ht
          rcases List.mem_append.mp ht with h | h
          · exact full t h
          · rw [List.mem_singleton.mp h]
            exact c
    rintro σ H2 ⟨v3, v4, ps, rfl, s2, epo, nd, mem, full⟩
    rw [P_len hL, List.take_length] at mem full
    -- pool = sorted(pool)
    refine nextS (asgN ⟨_, rfl, po, ps, rfl, SqL.of epo, fun P pl pm pw npl σ' e => ?_⟩)
    obtain rfl : σ' = [some (.ref sa), some (nV cap), some (.ref pl), v3, v4, none, none, none, none, none] := e.symm
    clear e
    have aP : Asc P := by
      refine List.Pairwise.imp (fun {a b} h => ?_) (List.pairwise_and_iff.mpr ⟨pw, pm.nodup_iff.mpr nd⟩)
      obtain ⟨h1, h2⟩ := h
      omega
    have memP : ∀ x, x ∈ P ↔ ∃ s ∈ ss, x ∈ s := fun x => by rw [pm.mem_iff, mem]
    have lP : P.length ≤ 7 := by
      have := sub_len P ns aP.nd fun x hx => by
        obtain ⟨s, h, hxs⟩ := (memP x).mp hx
        exact sub s h x hxs
      omega
    have subP : ∀ s ∈ ss, K25.Sub s P := fun s hs x hx => (memP x).mpr ⟨s, hs, hx⟩
    have s3 : Same H2 (upd H2 pl (.lst (IL P))) := (Same.refl H2).new npl
    have epl : (upd H2 pl (.lst (IL P))) pl = some (.lst (IL P)) := upd_same
    have e3 : upd H2 pl (.lst (IL P)) = upd H2 pl (.lst (P.map V.int)) := rfl
    rw [← e3]
    generalize upd H2 pl (.lst (IL P)) = H3 at s3 epl ⊢
    have s03 := s2.trans s3
    clear e3 mem epo nd pm pw
    -- found, lots
    refine ⟨Nat.zero_le _, fun fo nfo => ⟨Nat.zero_le _, fun z0 nz0 => ⟨(by show 1 ≤ sizeLine; decide), fun lo nlo => ?_⟩⟩⟩
    have k1 : Same H3 (upd H3 fo (.lst [])) := (Same.refl H3).new nfo
    have k2 := (Same.refl (upd H3 fo (.lst []))).new (o := .lst []) nz0
    have k3 := (Same.refl (upd (upd H3 fo (.lst [])) z0 (.lst []))).new (o := .lst [.ref z0]) nlo
    have s4 := k1.trans (k2.trans k3)
    have efo := (k2.trans k3) fo _ upd_same
    have ez0 := k3 z0 _ upd_same
    have elo : (upd (upd (upd H3 fo (.lst [])) z0 (.lst [])) lo (.lst [.ref z0])) lo = some (.lst [.ref z0]) := upd_same
    have zf : z0 ≠ fo := Ne.symm (ne_of_none upd_same nz0)
    have lf : lo ≠ fo := Ne.symm (ne_of_none ((k2 fo _ upd_same)) nlo)
    generalize upd (upd (upd H3 fo (.lst [])) z0 (.lst [])) lo (.lst [.ref z0]) = H4 at s4 efo ez0 elo ⊢
    clear k1 k2 k3 nlo nz0
    refine ⟨_, rfl, _, _, rfl, rfl, ((cap + 1 : Nat) : Int), rfl, (by omega), (by omega), ?_⟩
    rw [show (((cap + 1 : Nat) : Int)).toNat = cap + 1 by omega]
    refine for_range (lo := 0) (n := cap + 1) (fun k σ H' => ∃ (v3 v4 v7 v8 v9 : Option V) (lo : Addr) (usf usl : List V) (found lots : List Lot), σ = [some (.ref sa), some (nV cap), some (.ref pl), v3, v4, some (.ref fo), some (.ref lo), v7, v8, v9] ∧ Same H3 H' ∧ H' fo = some (.lst usf) ∧ RX fo fo H' usf found ∧ lo ≠ fo ∧ H' lo = some (.lst usl) ∧ RX fo fo H' usl lots ∧ Lv P k lots ∧ Fd ss k [] found)
      ⟨v3, v4, none, none, none, lo, [], [.ref z0], [], [[]], rfl, s4, efo, .nil, lf, elo, .cons ⟨z0, rfl, zf, zf, ez0⟩ .nil, ⟨fun U => ⟨fun h => by rw [List.mem_singleton.mp h]; exact ⟨.nil, rfl, fun x h => (by cases h)⟩, fun h => List.mem_singleton.mpr (List.length_eq_zero_iff.mp h.2.1)⟩, List.pairwise_singleton _ _⟩, ⟨fun M => ⟨fun h => (by cases h), fun h => h.2.elim (fun z => absurd z (Nat.not_lt_zero _)) fun z => (by cases z)⟩, .nil⟩⟩ ?_ ?_
    · rintro k σ H5 hk ⟨v3, v4, v7, v8, v9, lo, usf, usl, found, lots, rfl, s5, efo, rf, lf, elo, rl, lv, fd⟩
      rw [show (0 : Int) + (k : Int) = (k : Int) by omega]
      refine ⟨Nat.zero_le _, fun lg nlg => ?_⟩
      have s6 : Same H5 (upd H5 lg (.lst [])) := (Same.refl H5).new nlg
      have elg : (upd H5 lg (.lst [])) lg = some (.lst []) := upd_same
      have gf : lg ≠ fo := Ne.symm (ne_of_none efo nlg)
      have ll : lo ≠ lg := ne_of_none elo nlg
      have rf6 := (rf.new nlg).same s6
      have rl6 := (rl.new nlg).same s6
      have nlg3 := s5.free nlg
      have lfew := lv.few aP lP
      generalize upd H5 lg (.lst []) = H6 at s6 elg rf6 rl6 ⊢
      refine ⟨_, rfl, lo, rfl, ⟨_, SqL.of (s6 _ _ elo)⟩, for_list (K := K) (a := lo) (xs := usl) (fun i σ H' => ∃ (v4 v9 : Option V) (usf wl : List V) (found L : List Lot), σ = [some (.ref sa), some (nV cap), some (.ref pl), v3, v4, some (.ref fo), some (.ref lo), some (nV k), some (.ref lg), v9] ∧ Same H3 H' ∧ H' fo = some (.lst usf) ∧ RX fo lg H' usf found ∧ H' lo = some (.lst usl) ∧ RX fo lg H' usl lots ∧ H' lg = some (.lst wl) ∧ RX fo lg H' wl L ∧ Fd ss k (lots.take i) found ∧ Lg P (lots.take i) [] [] L)
        ⟨v4, v9, usf, [], found, [], rfl, s5.trans s6, s6 _ _ efo, rf6, s6 _ _ elo, rl6, elg, .nil, fd, Lg.start P []⟩ (fun i σ H' _ ⟨_, _, _, _, _, _, _, _, _, _, e, _⟩ => SqL.of e) ?_ ?_⟩
      · rintro i x σ H7 hx ⟨v4, v9, usf, wl, found, L, rfl, s7, efo, rf, elo, rl, elg, rw_, fd, lgm⟩
        obtain ⟨U, hU, a, rfl, naf, nag, ea⟩ := P_right rl hx
        obtain ⟨aU, lU, sU⟩ := (lv.l U).mp (List.mem_of_getElem? hU)
        have flen : ∀ M ∈ found, M.length ≤ 1000 := fun M hM => by
          have m := ((fd.f M).mp hM).1
          have := Sub.len m.asc fun x hx => (memP x).mpr (min_pool m x hx)
          omega
        have ffew : found.length ≤ 128 := by
          have := K25.few aP (od_nd fd.fo) fun M hM => by
            have m := ((fd.f M).mp hM).1
            exact ⟨m.asc, fun x hx => (memP x).mpr (min_pool m x hx)⟩
          have : 2 ^ P.length ≤ 2 ^ 7 := Nat.pow_le_pow_right (by decide) lP
          omega
        -- found
        refine seqM (fun σ H' => ∃ (usf : List V) (found : List Lot), σ = [some (.ref sa), some (nV cap), some (.ref pl), v3, v4, some (.ref fo), some (.ref lo), some (nV k), some (.ref lg), some (.ref a)] ∧ Same H3 H' ∧ H' fo = some (.lst usf) ∧ RX fo lg H' usf found ∧ H' lo = some (.lst usl) ∧ RX fo lg H' usl lots ∧ H' lg = some (.lst wl) ∧ RX fo lg H' wl L ∧ H' a = some (.lst (IL U)) ∧ Fd ss k (lots.take (i + 1)) found) (fun N qN => ?_) ?_
        · refine ⟨_, rfl, _, rfl, sa, a, us, ss, U, rfl, (s03.trans s7).seq hS, hL.same (s03.trans s7), SqL.of ea, fun r hr1 => ⟨_, rfl, ?_⟩⟩
          have leave : ∀ H', Same H7 H' → ¬ Min ss U → N [some (.ref sa), some (nV cap), some (.ref pl), v3, v4, some (.ref fo), some (.ref lo), some (nV k), some (.ref lg), some (.ref a)] H' := fun H' sm no => qN _ _ ⟨usf, found, rfl, s7.trans sm, sm _ _ efo, rf.same sm, sm _ _ elo, rl.same sm, sm _ _ elg, rw_.same sm, sm _ _ ea, fd.no hU no⟩
          cases r with
          | false => exact iteF (iteF (leave H7 (Same.refl H7) fun m => Bool.noConfusion (hr1.mpr m.hit)))
          | true =>
            refine iteT ⟨_, rfl, _, rfl, a, fo, usf, found, U, rfl, SqL.of ea, SqL.of efo, rf.ls, flen, fun r' H8 s8 hr2 => ⟨_, rfl, ?_⟩⟩
            cases r' with
            | true => exact iteF (leave H8 s8 fun m => (((fd.test lv hU).mpr m).2) (hr2.mp rfl))
            | false =>
              have m : Min ss U := (fd.test lv hU).mp ⟨hr1.mp rfl, fun z => Bool.noConfusion (hr2.mpr z)⟩
              have efo8 := s8 _ _ efo
              refine iteT ⟨_, rfl, .inl ⟨rfl, _, SqL.of efo8⟩, _, rfl, fo, _, _, rfl, rfl, efo8, ?_, qN _ _ ⟨usf ++ [.ref a], found ++ [U], rfl, (s7.trans s8).mut nfo, upd_same, ?_, ?_, (rl.same s8).updX, ?_, (rw_.same s8).updX, ?_, fd.yes lv hU m⟩⟩
              · rw [P_len rf]
                exact szl (by omega)
              · exact P_append (rf.same s8).updX (.cons ⟨a, rfl, naf, nag, by rw [upd_ne naf]; exact s8 _ _ ea⟩ .nil)
              · rw [upd_ne lf]
                exact s8 _ _ elo
              · rw [upd_ne gf]
                exact s8 _ _ elg
              · rw [upd_ne naf]
                exact s8 _ _ ea
        rintro σ H8 ⟨usf, found, rfl, s8, efo, rf, elo, rl, elg, rw_, ea, fd⟩
        have lt_i : ∀ V ∈ lots.take i, V.length = U.length ∧ lx V U = true := fun V hV => by
          refine ⟨by rw [((lv.l V).mp (List.mem_of_mem_take hV)).2.1, lU], ?_⟩
          have pw := lv.lo.sublist (List.take_sublist (i + 1) lots)
          rw [take_more hU] at pw
          exact (List.pairwise_append.mp pw).2.2 V hV U (List.mem_singleton.mpr rfl)
        refine ⟨_, rfl, pl, rfl, ⟨_, SqL.of (s8 _ _ epl)⟩, for_list (K := K) (a := pl) (xs := IL P) (fun j σ H' => ∃ (v4 : Option V) (wl : List V) (L : List Lot), σ = [some (.ref sa), some (nV cap), some (.ref pl), v3, v4, some (.ref fo), some (.ref lo), some (nV k), some (.ref lg), some (.ref a)] ∧ Same H3 H' ∧ H' fo = some (.lst usf) ∧ RX fo lg H' usf found ∧ H' lo = some (.lst usl) ∧ RX fo lg H' usl lots ∧ H' lg = some (.lst wl) ∧ RX fo lg H' wl L ∧ H' a = some (.lst (IL U)) ∧ Lg P (lots.take i) U (P.take j) L)
          ⟨v4, wl, L, rfl, s8, efo, rf, elo, rl, elg, rw_, ea, by rw [List.take_zero]; exact lgm.swap⟩ (fun j σ H' _ ⟨_, _, _, _, sm, _⟩ => SqL.of (sm _ _ epl)) ?_ ?_⟩
        · rintro j y σ H9 hy ⟨v4, wl, L, rfl, s9, efo, rf, elo, rl, elg, rw_, ea, lgm⟩
          obtain ⟨p, hp, rfl⟩ := getn_inv hy
          have Lfew : L.length ≤ 128 := lgm.small aP lP (fun V hV => ((lv.l V).mp (List.mem_of_mem_take hV)).2.2) sU (fun x hx => List.mem_of_mem_take hx)
          refine ⟨_, rfl, Nat.zero_le _, fun z nz => ⟨_, _, dpL (((Same.refl H9).new nz).seq (SqL.of ea)), dpL (l := []) (SqL.of upd_same), shapedL _, shapedL _, _, rfl, ?_⟩⟩
          have sz : Same H9 (upd H9 z (.lst [])) := (Same.refl H9).new nz
          rw [PySem.W.Datum.eqv]
          generalize upd H9 z (.lst []) = HA at sz ⊢
          have sA := s9.trans sz
          have eaA := sz _ _ ea
          have elgA := sz _ _ elg
          by_cases c : U = []
          · rw [decide_eq_true c]
            have qa : Asc (U ++ [p]) := by
              rw [c]
              exact List.pairwise_singleton _ _
            refine iteT ?_
            refine iteT ⟨_, rfl, .inl ⟨rfl, _, SqL.of elgA⟩, _, rfl, _, rfl, (by show 1 ≤ sizeLine; decide), fun w nw => ?_⟩
            have sw : Same HA (upd HA w (.lst [V.int p])) := (Same.refl HA).new nw
            have ew : (upd HA w (.lst [V.int p])) w = some (.lst [V.int p]) := upd_same
            generalize upd HA w (.lst [V.int p]) = HB at sw ew ⊢
            refine ⟨a, w, _, _, rfl, rfl, sw _ _ eaA, ew, ?_, fun v nv => ?_⟩
            · unfold IL
              rw [List.length_map, lU]
              exact szle (by show k + 1 ≤ 10000; omega)
            have sv : Same HB (upd HB v (.lst (IL (U ++ [p])))) := (Same.refl HB).new nv
            have ev : (upd HB v (.lst (IL (U ++ [p])))) v = some (.lst (IL (U ++ [p]))) := upd_same
            rw [show IL U ++ [V.int p] = IL (U ++ [p]) from (IL_snoc U p).symm]
            generalize upd HB v (.lst (IL (U ++ [p]))) = HC at sv ev ⊢
            have sAC := sw.trans sv
            have s9C := sz.trans sAC
            have elgC := sAC _ _ elgA
            have nvg : v ≠ lg := fun e => by rw [e, (sw _ _ elgA)] at nv; cases nv
            have nvf : v ≠ fo := fun e => by rw [e, ((sz.trans sw) _ _ efo)] at nv; cases nv
            refine ⟨lg, _, _, rfl, rfl, elgC, ?_, ⟨_, wl ++ [.ref v], L ++ [U ++ [p]], rfl, (s9.trans s9C).mut nlg3, ?_, (rf.same s9C).updY, ?_, (rl.same s9C).updY, upd_same, ?_, ?_, lgm.yes aP hp lt_i qa⟩⟩
            · rw [P_len rw_]
              exact szl (by omega)
            · rw [upd_ne (Ne.symm gf)]
              exact s9C _ _ efo
            · rw [upd_ne ll]
              exact s9C _ _ elo
            · exact P_append (rw_.same s9C).updY (.cons ⟨v, rfl, nvf, nvg, by rw [upd_ne nvg]; exact ev⟩ .nil)
            · rw [upd_ne nag]
              exact s9C _ _ ea
          rw [decide_eq_false c]
          obtain ⟨l, x, eU⟩ : ∃ l x, U = l ++ [x] := ⟨U.dropLast, U.getLast c, (List.dropLast_concat_getLast c).symm⟩
          have la : atI (IL U) (-1) = some (V.int x) := by
            rw [eU]
            exact atI_last (by unfold IL; simp) last_IL
          refine iteF ⟨_, rfl, _, rfl, _, rfl, a, _, -1, V.int x, rfl, rfl, SqL.of eaA, la, _, _, rfl, rfl, _, rfl, ?_⟩
          by_cases lt : x < p
          · rw [decide_eq_true lt]
            have qa : Asc (U ++ [p]) := by
              rw [eU] at aU ⊢
              exact asc_snoc aU lt
            refine iteT ⟨_, rfl, .inl ⟨rfl, _, SqL.of elgA⟩, _, rfl, _, rfl, (by show 1 ≤ sizeLine; decide), fun w nw => ?_⟩
            have sw : Same HA (upd HA w (.lst [V.int p])) := (Same.refl HA).new nw
            have ew : (upd HA w (.lst [V.int p])) w = some (.lst [V.int p]) := upd_same
            generalize upd HA w (.lst [V.int p]) = HB at sw ew ⊢
            refine ⟨a, w, _, _, rfl, rfl, sw _ _ eaA, ew, ?_, fun v nv => ?_⟩
            · unfold IL
              rw [List.length_map, lU]
              exact szle (by show k + 1 ≤ 10000; omega)
            have sv : Same HB (upd HB v (.lst (IL (U ++ [p])))) := (Same.refl HB).new nv
            have ev : (upd HB v (.lst (IL (U ++ [p])))) v = some (.lst (IL (U ++ [p]))) := upd_same
            rw [show IL U ++ [V.int p] = IL (U ++ [p]) from (IL_snoc U p).symm]
            generalize upd HB v (.lst (IL (U ++ [p]))) = HC at sv ev ⊢
            have sAC := sw.trans sv
            have s9C := sz.trans sAC
            have elgC := sAC _ _ elgA
            have nvg : v ≠ lg := fun e => by rw [e, (sw _ _ elgA)] at nv; cases nv
            have nvf : v ≠ fo := fun e => by rw [e, ((sz.trans sw) _ _ efo)] at nv; cases nv
            refine ⟨lg, _, _, rfl, rfl, elgC, ?_, ⟨_, wl ++ [.ref v], L ++ [U ++ [p]], rfl, (s9.trans s9C).mut nlg3, ?_, (rf.same s9C).updY, ?_, (rl.same s9C).updY, upd_same, ?_, ?_, lgm.yes aP hp lt_i qa⟩⟩
            · rw [P_len rw_]
              exact szl (by omega)
            · rw [upd_ne (Ne.symm gf)]
              exact s9C _ _ efo
            · rw [upd_ne ll]
              exact s9C _ _ elo
            · exact P_append (rw_.same s9C).updY (.cons ⟨v, rfl, nvf, nvg, by rw [upd_ne nvg]; exact ev⟩ .nil)
            · rw [upd_ne nag]
              exact s9C _ _ ea
          · rw [decide_eq_false lt]
            refine iteF ⟨_, wl, L, rfl, sA, sz _ _ efo, rf.same sz, sz _ _ elo, rl.same sz, elgA, rw_.same sz, eaA, lgm.no hp fun z => lt ?_⟩
            exact (List.pairwise_append.mp z).2.2 x (by rw [eU]; simp) p (List.mem_singleton.mpr rfl)
        · rintro σ H9 ⟨v4, wl, L, rfl, s9, efo, rf, elo, rl, elg, rw_, ea, lgm⟩
          rw [show (IL P).length = P.length by unfold IL; rw [List.length_map], List.take_length] at lgm
          exact ⟨_, _, usf, wl, found, L, rfl, s9, efo, rf, elo, rl, elg, rw_, fd, by rw [take_more hU]; exact lgm.done⟩
      · rintro σ H7 ⟨v4, v9, usf, wl, found, L, rfl, s7, efo, rf, elo, rl, elg, rw_, fd, lgm⟩
        rw [P_len rl, List.take_length] at fd lgm
        refine ⟨_, rfl, lg, wl, rfl, .inl (SqL.of elg), fun lo' nlo' => ?_⟩
        have s8 : Same H7 (upd H7 lo' (.lst wl)) := (Same.refl H7).new nlo'
        have back : ∀ {us : List V} {L : List Lot}, RX fo lg H7 us L → RX fo fo (upd H7 lo' (.lst wl)) us L := fun h => P_mono (fun _ _ ⟨a, e, n, _, q⟩ => ⟨a, e, n, n, s8 _ _ q⟩) h
        exact ⟨_, _, _, _, _, lo', usf, wl, found, L, rfl, s7.trans s8, s8 _ _ efo, back rf, Ne.symm (ne_of_none efo nlo'), upd_same, back rw_, lgm.lv lv, fd.round lv subP⟩
    · rintro σ H5 ⟨v3, v4, v7, v8, v9, lo, usf, usl, found, lots, rfl, s5, efo, rf, lf, elo, rl, lv, fd⟩
      refine ⟨_, rfl, q fo usf found H5 (s03.trans s5) efo rf.ls (fun ⟨s, hs, e⟩ => absurd e (full s hs)) fun _ => ⟨fun M => ?_, fd.fo⟩⟩
      rw [fd.f]
      constructor
      · rintro ⟨a, b | b⟩
        · exact ⟨a, by omega⟩
        · cases b
      · rintro ⟨a, b⟩
        exact ⟨a, .inl (by omega)⟩
end
end K25W

namespace K25W
open PySem PySem.Spec PyProof.Rows L2 KH KD KP K25 LamX NdefX
abbrev s_law_same : Stmt := topS 23
theorem sc_law_same : FnScope ["told", "due", "k", "j", "number"] ["told", "due"] (defScope s_law_same) := ⟨rfl, rfl, rfl, by decide +kernel, rfl, by decide +kernel, by decide +kernel⟩

section
variable {P : Program} {w : World} {K : PySem.W.Frag} {mg : Str → Option Value} {base : Heap} {CN CB CT fJ : Addr}
def sp_same (K : PySem.W.Frag) : Sp := fun vs H Q _ => ∃ (a b : Addr) (us ws : List V) (L : List Lot), vs = [.ref a, .ref b] ∧ H a = some (.lst us) ∧ LL H us L ∧ SqL K H b ws ∧ LS K H ws L ∧ L.length ≤ 9000 ∧ (∀ T ∈ L, T.length ≤ 1000) ∧ Q (.bl true) H
theorem ok_same {f : Addr} {fd : FuncData} (F : Fun K "_law_same" "_law_same" s_law_same f fd) (T : Txt mg) : FnOk P w K mg base CX0 1 f fd ["told", "due"] (sp_same K) := by
  refine F.ok sc_law_same (fun vs H Q E h => ?_) (fun cdv A outer s H vs Q E hr h => ?_)
  · obtain ⟨a, b, us, ws, L, rfl, _⟩ := h
    rfl
  · obtain ⟨a, b, us, ws, L, rfl, ha, hL, hb, hW, hl, hT, q⟩ := h
    refine ⟨_, (pss_cons (ps_if (PW.pt (pw_or (pt_not (pt_val (pe_callB call_isi (by rfl) T.isinstance (by decide +kernel) (pa_cons (pv 0) (pa_cons (pe_bltn (v := .ty "list") (by rfl) T.list (by decide +kernel) rfl) pa_nil))))) (pw_or1 (pt_cmpR op_ne (pe_callB call_len_seq (by rfl) T.len (by decide +kernel) (pa_cons (pv 0) pa_nil)) (pe_callB call_len_seq (by rfl) T.len (by decide +kernel) (pa_cons (pv 1) pa_nil)) (nomark _)))))
 (pss_one (ps_ret pe_bl))
 pss_nil)
 (pss_cons (ps_for PassesOwn.never rfl (pi_range1 rfl T.range (pa_cons (pe_callB call_len_seq (by rfl) T.len (by decide +kernel) (pa_cons (pv 1) pa_nil)) pa_nil)) (pg_name (i := 2) sc_law_same.nd rfl (.inl rfl))
 (pss_cons (ps_if (PW.pt (pw_or (pt_not (pt_val (pe_callB call_isi (by rfl) T.isinstance (by decide +kernel) (pa_cons (pe_ix ix_list (pv 0) (pv 2) (fun _ _ => rfl)) (pa_cons (pe_bltn (v := .ty "list") (by rfl) T.list (by decide +kernel) rfl) pa_nil))))) (pw_or1 (pt_cmpR op_ne (pe_callB call_len_seq (by rfl) T.len (by decide +kernel) (pa_cons (pe_ix ix_list (pv 0) (pv 2) (fun _ _ => rfl)) pa_nil)) (pe_callB call_len_seq (by rfl) T.len (by decide +kernel) (pa_cons (pe_ix ix_list (pv 1) (pv 2) (fun _ _ => rfl)) pa_nil)) (nomark _)))))
 (pss_one (ps_ret pe_bl))
 pss_nil)
 (pss_one (ps_for PassesOwn.never rfl (pi_range1 rfl T.range (pa_cons (pe_callB call_len_seq (by rfl) T.len (by decide +kernel) (pa_cons (pe_ix ix_list (pv 1) (pv 2) (fun _ _ => rfl)) pa_nil)) pa_nil)) (pg_name (i := 3) sc_law_same.nd rfl (.inl rfl))
 (pss_cons (ps_set (i := 4) sc_law_same.nd rfl (.inl rfl) (pe_ix ix_list (pe_ix ix_list (pv 0) (pv 2) (fun _ _ => rfl)) (pv 3) (fun _ _ => rfl)))
 (pss_one (ps_if (PW.pt (pw_or (pt_not (pt_val (pe_callB call_isi (by rfl) T.isinstance (by decide +kernel) (pa_cons (pv 4) (pa_cons (pe_bltn (v := .ty "int") (by rfl) T.int (by decide +kernel) rfl) pa_nil))))) (pw_or (pt_val (pe_callB call_isi (by rfl) T.isinstance (by decide +kernel) (pa_cons (pv 4) (pa_cons (pe_bltn (v := .ty "bool") (by rfl) T.bool (by decide +kernel) rfl) pa_nil)))) (pw_or1 (pt_cmpR op_ne (pv 4) (pe_ix ix_list (pe_ix ix_list (pv 1) (pv 2) (fun _ _ => rfl)) (pv 3) (fun _ _ => rfl)) (nomark _))))))
 (pss_one (ps_ret pe_bl))
 pss_nil)))))))
 (pss_one (ps_ret pe_bl)))), ?_⟩
    have ul : us.length = L.length := P_len hL
    have wl : ws.length = L.length := P_len hW
    refine ⟨_, rfl, _, _, _, _, true, rfl, .ty "list", .base (.lst ha), kit_ty (by decide +kernel), _, rfl, ?_⟩
    refine iteF ⟨_, rfl, a, _, rfl, .inl (SqL.of ha), _, rfl, b, _, rfl, .inl hb, rfl, _, rfl, ?_⟩
    rw [decide_eq_true (show V.int (us.length : Int) = V.int (ws.length : Int) by rw [ul, wl])]
    refine iteF ?_
    refine ⟨_, rfl, b, _, rfl, .inl hb, _, rfl, (by omega), (by omega), ?_⟩
    rw [show ((ws.length : Nat) : Int).toNat = L.length by omega]
    refine for_range (lo := 0) (n := L.length) (fun i σ H' => ∃ (v2 v3 v4 : Option V), σ = [some (.ref a), some (.ref b), v2, v3, v4] ∧ H' = H) ⟨_, _, _, rfl, rfl⟩ ?_ ?_
    · rintro i σ H' hi ⟨v2, v3, v4, rfl, rfl⟩
      rw [show (0 : Int) + (i : Int) = (i : Int) by omega]
      obtain ⟨U, hU⟩ := get_lt hi
      obtain ⟨_, hu, p, rfl, ep⟩ := P_left hL hU
      obtain ⟨_, hw, r, rfl, er⟩ := P_left hW hU
      have Ul := hT U (List.mem_of_getElem? hU)
      have iul : (IL U).length = U.length := by unfold IL; rw [List.length_map]
      have rowA : ∀ {Q : VK}, Q (.ref p) H' → rIxL K (.ref a) (.int (i : Int)) H' Q := fun q => ixl (SqL.of ha) (at_n hu) q
      have rowB : ∀ {Q : VK}, Q (.ref r) H' → rIxL K (.ref b) (.int (i : Int)) H' Q := fun q => ixl hb (at_n hw) q
      refine ⟨_, rfl, _, rfl, rowA ⟨_, _, _, _, true, rfl, .ty "list", .base (.lst ep), kit_ty (by decide +kernel), _, rfl, ?_⟩⟩
      refine iteF ⟨_, rfl, _, rfl, rowA ⟨p, _, rfl, .inl (SqL.of ep), _, rfl, _, rfl, rowB ⟨r, _, rfl, .inl er, rfl, _, rfl, ?_⟩⟩⟩
      rw [decide_eq_true rfl]
      refine iteF ⟨_, rfl, _, rfl, rowB ⟨r, _, rfl, .inl er, _, rfl, (by omega), (by omega), ?_⟩⟩
      rw [show (((IL U).length : Nat) : Int).toNat = U.length by omega]
      refine for_range (lo := 0) (n := U.length) (fun j σ H'' => ∃ (v3 v4 : Option V), σ = [some (.ref a), some (.ref b), some (nV i), v3, v4] ∧ H'' = H') ⟨_, _, rfl, rfl⟩ ?_ ?_
      · rintro j σ H'' hj ⟨v3, v4, rfl, rfl⟩
        rw [show (0 : Int) + (j : Int) = (j : Int) by omega]
        obtain ⟨x, hx⟩ := get_lt hj
        refine ⟨_, rfl, _, rfl, rowA ⟨_, rfl, ixl (SqL.of ep) (at_n (getn hx)) ?_⟩⟩
        refine ⟨_, rfl, _, _, _, _, true, rfl, .ty "int", .base (.int _), kit_ty (by decide +kernel), _, rfl, ?_⟩
        refine iteF ⟨_, rfl, _, _, _, _, false, rfl, .ty "bool", .base (.int _), kit_ty (by decide +kernel), _, rfl, ?_⟩
        refine iteF ⟨_, rfl, _, rfl, _, rfl, rowB ⟨_, rfl, ixl er (at_n (getn hx)) ⟨rfl, _, rfl, ?_⟩⟩⟩
        rw [decide_eq_true rfl]
        exact iteF ⟨_, _, rfl, rfl⟩
      · rintro σ H'' ⟨v3, v4, rfl, rfl⟩
        exact ⟨_, _, _, rfl, rfl⟩
    · rintro σ H' ⟨v2, v3, v4, rfl, rfl⟩
      exact q
end
end K25W

/-! Three lists of six kinds of numbers: what is looked at, counted; what is found. -/
namespace K25
def wt (k : Int → Nat) (U : Lot) : Nat := (U.map k).sum
theorem wt_ins (k : Int → Nat) (p : Int) : ∀ T : Lot, wt k (ins p T) = k p + wt k T
  | [] => by
    unfold wt ins
    simp
  | x :: T => by
    have ih := wt_ins k p T
    unfold ins
    split
    · unfold wt
      simp
    · unfold wt at *
      rw [List.map_cons, List.sum_cons, ih, List.map_cons, List.sum_cons]
      omega
/-- three lists, by the kinds: 1 in the first and the third, 10 first and second, 100 first, 1000 second, 10000 third, 100000 all -/
structure Sys (k : Int → Nat) (A B O C D E S1 S2 S3 : Lot) : Prop where
  a : ∀ x ∈ A, k x = 1
  b : ∀ x ∈ B, k x = 10
  o : ∀ x ∈ O, k x = 100
  c : ∀ x ∈ C, k x = 1000
  d : ∀ x ∈ D, k x = 10000
  e : ∀ x ∈ E, k x = 100000
  nA : A.Nodup
  nB : B.Nodup
  nO : O.Nodup
  nC : C.Nodup
  nD : D.Nodup
  nE : E.Nodup
  s1 : ∀ x, x ∈ S1 ↔ x ∈ A ∨ x ∈ B ∨ x ∈ O ∨ x ∈ E
  s2 : ∀ x, x ∈ S2 ↔ x ∈ B ∨ x ∈ C ∨ x ∈ E
  s3 : ∀ x, x ∈ S3 ↔ x ∈ A ∨ x ∈ D ∨ x ∈ E
  ob : ∀ x ∈ O, ∀ y ∈ B, False
def prs (X Y : Lot) : List Lot := X.flatMap fun x => Y.map fun y => ins y [x]
def trs (X Y Z : Lot) : List Lot := X.flatMap fun x => Y.flatMap fun y => Z.map fun z => ins z (ins y [x])
def sgl (X : Lot) : List Lot := X.map fun x => [x]
theorem mem_prs {X Y U : Lot} : U ∈ prs X Y ↔ ∃ x ∈ X, ∃ y ∈ Y, U = ins y [x] := by
  unfold prs
  simp only [List.mem_flatMap, List.mem_map]
  constructor
  · rintro ⟨x, hx, y, hy, e⟩
    exact ⟨x, hx, y, hy, e.symm⟩
  · rintro ⟨x, hx, y, hy, e⟩
    exact ⟨x, hx, y, hy, e.symm⟩
theorem mem_trs {X Y Z U : Lot} : U ∈ trs X Y Z ↔ ∃ x ∈ X, ∃ y ∈ Y, ∃ z ∈ Z, U = ins z (ins y [x]) := by
  unfold trs
  simp only [List.mem_flatMap, List.mem_map]
  constructor
  · rintro ⟨x, hx, y, hy, z, hz, e⟩
    exact ⟨x, hx, y, hy, z, hz, e.symm⟩
  · rintro ⟨x, hx, y, hy, z, hz, e⟩
    exact ⟨x, hx, y, hy, z, hz, e.symm⟩
theorem mem_sgl {X U : Lot} : U ∈ sgl X ↔ ∃ x ∈ X, U = [x] := by
  unfold sgl
  simp only [List.mem_map]
  exact ⟨fun ⟨x, h, e⟩ => ⟨x, h, e.symm⟩, fun ⟨x, h, e⟩ => ⟨x, h, e.symm⟩⟩
theorem mem_two {x y z : Int} : z ∈ ins y [x] ↔ z = x ∨ z = y := by
  rw [mem_ins]
  simp
theorem mem_three {x y w z : Int} : z ∈ ins w (ins y [x]) ↔ z = x ∨ z = y ∨ z = w := by
  rw [mem_ins, mem_two, or_assoc]
theorem prs_len (X Y : Lot) : (prs X Y).length = X.length * Y.length := by
  unfold prs
  induction X with
  | nil => simp
  | cons x X ih =>
    rw [List.flatMap_cons, List.length_append, ih, List.length_map, List.length_cons, Nat.add_mul]
    omega
theorem trs_len (X Y Z : Lot) : (trs X Y Z).length = X.length * (Y.length * Z.length) := by
  unfold trs
  induction X with
  | nil => simp
  | cons x X ih =>
    rw [List.flatMap_cons, List.length_append, ih, List.length_cons, Nat.add_mul]
    have : (Y.flatMap fun y => Z.map fun z => ins z (ins y [x])).length = Y.length * Z.length := by
      clear ih
      induction Y with
      | nil => simp
      | cons y Y ih =>
        rw [List.flatMap_cons, List.length_append, ih, List.length_map, List.length_cons, Nat.add_mul]
        omega
    omega
theorem prs_nd {k : Int → Nat} {X Y : Lot} {i j : Nat} (hX : ∀ x ∈ X, k x = i) (hY : ∀ y ∈ Y, k y = j) (ne : i ≠ j) (nX : X.Nodup) (nY : Y.Nodup) : (prs X Y).Nodup := by
  have apart : ∀ x ∈ X, ∀ y ∈ Y, x ≠ y := fun x hx y hy e => ne (by rw [← hX x hx, e, hY y hy])
  unfold prs
  rw [List.Nodup, List.pairwise_flatMap]
  refine ⟨fun x hx => ?_, ?_⟩
  · rw [List.pairwise_map]
    refine List.Pairwise.imp_of_mem (fun {y y'} hy hy' n e => n ?_) nY
    have : y ∈ ins y' [x] := by rw [← e]; exact mem_two.mpr (.inr rfl)
    rcases mem_two.mp this with z | z
    · exact absurd z.symm (apart x hx y hy)
    · exact z
  · refine List.Pairwise.imp_of_mem (fun {x x'} hx hx' n U hU V hV e => n ?_) nX
    obtain ⟨y, hy, rfl⟩ := List.mem_map.mp hU
    obtain ⟨y', hy', rfl⟩ := List.mem_map.mp hV
    have : x ∈ ins y' [x'] := by rw [← e]; exact mem_two.mpr (.inl rfl)
    rcases mem_two.mp this with z | z
    · exact z
    · exact absurd z (apart x hx y' hy')
theorem trs_nd {k : Int → Nat} {X Y Z : Lot} {i j l : Nat} (hX : ∀ x ∈ X, k x = i) (hY : ∀ y ∈ Y, k y = j) (hZ : ∀ z ∈ Z, k z = l) (n1 : i ≠ j) (n2 : i ≠ l) (n3 : j ≠ l) (nX : X.Nodup) (nY : Y.Nodup) (nZ : Z.Nodup) : (trs X Y Z).Nodup := by
  have apart1 : ∀ x ∈ X, ∀ y ∈ Y, x ≠ y := fun x hx y hy e => n1 (by rw [← hX x hx, e, hY y hy])
  have apart2 : ∀ x ∈ X, ∀ y ∈ Z, x ≠ y := fun x hx y hy e => n2 (by rw [← hX x hx, e, hZ y hy])
  have apart3 : ∀ x ∈ Y, ∀ y ∈ Z, x ≠ y := fun x hx y hy e => n3 (by rw [← hY x hx, e, hZ y hy])
  unfold trs
  rw [List.Nodup, List.pairwise_flatMap]
  refine ⟨fun x hx => ?_, ?_⟩
  · rw [List.pairwise_flatMap]
    refine ⟨fun y hy => ?_, ?_⟩
    · rw [List.pairwise_map]
      refine List.Pairwise.imp_of_mem (fun {z z'} hz hz' n e => n ?_) nZ
      have : z ∈ ins z' (ins y [x]) := by rw [← e]; exact mem_three.mpr (.inr (.inr rfl))
      rcases mem_three.mp this with w | w | w
      · exact absurd w.symm (apart2 x hx z hz)
      · exact absurd w.symm (apart3 y hy z hz)
      · exact w
    · refine List.Pairwise.imp_of_mem (fun {y y'} hy hy' n U hU V hV e => n ?_) nY
      obtain ⟨z, hz, rfl⟩ := List.mem_map.mp hU
      obtain ⟨z', hz', rfl⟩ := List.mem_map.mp hV
      have : y ∈ ins z' (ins y' [x]) := by rw [← e]; exact mem_three.mpr (.inr (.inl rfl))
      rcases mem_three.mp this with w | w | w
      · exact absurd w.symm (apart1 x hx y hy)
      · exact w
      · exact absurd w (apart3 y hy z' hz')
  · refine List.Pairwise.imp_of_mem (fun {x x'} hx hx' n U hU V hV e => n ?_) nX
    obtain ⟨y, hy, hU⟩ := List.mem_flatMap.mp hU
    obtain ⟨z, hz, rfl⟩ := List.mem_map.mp hU
    obtain ⟨y', hy', hV⟩ := List.mem_flatMap.mp hV
    obtain ⟨z', hz', rfl⟩ := List.mem_map.mp hV
    have : x ∈ ins z' (ins y' [x']) := by rw [← e]; exact mem_three.mpr (.inl rfl)
    rcases mem_three.mp this with w | w | w
    · exact w
    · exact absurd w (apart1 x hx y' hy')
    · exact absurd w (apart2 x hx z' hz')
theorem sgl_nd {X : Lot} (n : X.Nodup) : (sgl X).Nodup := by
  unfold sgl
  rw [List.Nodup, List.pairwise_map]
  exact List.Pairwise.imp (fun {a b} h e => h (List.cons.inj e).1) n
theorem fm3 (S1 S2 S3 T : Lot) : fm [S1, S2, S3] T = if missB T S1 then some S1 else if missB T S2 then some S2 else if missB T S3 then some S3 else none := by
  unfold fm
  cases h1 : missB T S1 <;> cases h2 : missB T S2 <;> cases h3 : missB T S3 <;> simp [List.find?_cons, h1, h2, h3]
theorem missF {T s : Lot} : missB T s = false ↔ ∃ x ∈ T, x ∈ s := by
  rw [← Bool.not_eq_true, missB_iff]
  exact ⟨fun h => Classical.byContradiction fun n => h fun x hx hs => n ⟨x, hx, hs⟩, fun ⟨x, h1, h2⟩ h => h x h1 h2⟩
namespace Sys
variable {k : Int → Nat} {A B O C D E S1 S2 S3 : Lot} (h : Sys k A B O C D E S1 S2 S3) {cap : Nat}
include h
/-- the kind of a number tells where it is -/
theorem in1 {x : Int} : x ∈ S1 → k x = 1 ∨ k x = 10 ∨ k x = 100 ∨ k x = 100000 := fun hx => by
  rcases (h.s1 x).mp hx with z | z | z | z
  · exact .inl (h.a x z)
  · exact .inr (.inl (h.b x z))
  · exact .inr (.inr (.inl (h.o x z)))
  · exact .inr (.inr (.inr (h.e x z)))
theorem in2 {x : Int} : x ∈ S2 → k x = 10 ∨ k x = 1000 ∨ k x = 100000 := fun hx => by
  rcases (h.s2 x).mp hx with z | z | z
  · exact .inl (h.b x z)
  · exact .inr (.inl (h.c x z))
  · exact .inr (.inr (h.e x z))
theorem in3 {x : Int} : x ∈ S3 → k x = 1 ∨ k x = 10000 ∨ k x = 100000 := fun hx => by
  rcases (h.s3 x).mp hx with z | z | z
  · exact .inl (h.a x z)
  · exact .inr (.inl (h.d x z))
  · exact .inr (.inr (h.e x z))
theorem hit_iff {T : Lot} : Hit [S1, S2, S3] T ↔ (∃ x ∈ T, x ∈ S1) ∧ (∃ x ∈ T, x ∈ S2) ∧ ∃ x ∈ T, x ∈ S3 := by
  unfold Hit
  simp
/-- a single number that hits is of the last kind -/
theorem one_hit {x : Int} (z : Hit [S1, S2, S3] [x]) : x ∈ E := by
  obtain ⟨⟨x1, m1, h1⟩, ⟨x2, m2, h2⟩, x3, m3, h3⟩ := h.hit_iff.mp z
  rw [List.mem_singleton.mp m1] at h1
  rw [List.mem_singleton.mp m2] at h2
  rw [List.mem_singleton.mp m3] at h3
  have i2 := h.in2 h2
  have i3 := h.in3 h3
  rcases (h.s2 x).mp h2 with y | y | y
  · have := h.b x y
    omega
  · have := h.c x y
    omega
  · exact y
theorem e_hit {x : Int} (z : x ∈ E) : Hit [S1, S2, S3] [x] := h.hit_iff.mpr ⟨⟨x, List.mem_singleton.mpr rfl, (h.s1 x).mpr (.inr (.inr (.inr z)))⟩, ⟨x, List.mem_singleton.mpr rfl, (h.s2 x).mpr (.inr (.inr z))⟩, x, List.mem_singleton.mpr rfl, (h.s3 x).mpr (.inr (.inr z))⟩
omit h in
theorem nil_hit : ¬ Hit [S1, S2, S3] [] := fun z => by
  obtain ⟨x, hx, _⟩ := z S1 (by simp)
  cases hx
/-- pairs that are looked at -/
def Pair (A B O C D : Lot) (x y : Int) : Prop := (x ∈ A ∧ y ∈ B) ∨ (x ∈ A ∧ y ∈ C) ∨ (x ∈ B ∧ y ∈ D) ∨ (x ∈ O ∧ y ∈ C)
theorem pair_ne {x y : Int} (p : Pair A B O C D x y) : x ≠ y ∧ x ∉ E ∧ y ∉ E := by
  have key : k x ≠ k y ∧ k x ≠ 100000 ∧ k y ≠ 100000 := by
    rcases p with ⟨p, q⟩ | ⟨p, q⟩ | ⟨p, q⟩ | ⟨p, q⟩
    · rw [h.a x p, h.b y q]; decide
    · rw [h.a x p, h.c y q]; decide
    · rw [h.b x p, h.d y q]; decide
    · rw [h.o x p, h.c y q]; decide
  exact ⟨fun e => key.1 (by rw [e]), fun z => key.2.1 (h.e x z), fun z => key.2.2 (h.e y z)⟩
theorem two_asc {x y : Int} (ne : x ≠ y) : Asc (ins y [x]) ∧ (ins y [x]).length = 2 := by
  have no : y ∉ [x] := fun z => ne (List.mem_singleton.mp z).symm
  have a := ins_asc (p := y) (T := [x]) (List.pairwise_singleton _ _) no
  exact ⟨a, ins_len (List.pairwise_singleton _ _) a no fun z => mem_ins⟩
/-- what is looked at, written out -/
def wl (A B O C D E : Lot) (cap : Nat) : List Lot := [[]] ++ (if 0 < cap then sgl A ++ (sgl B ++ (sgl O ++ sgl E)) else []) ++ (if 1 < cap then prs A B ++ (prs A C ++ (prs B D ++ prs O C)) else []) ++ (if 2 < cap then trs O C D else [])
omit h in
theorem mem_wl {U : Lot} : U ∈ wl A B O C D E cap ↔ U = [] ∨ (0 < cap ∧ ∃ x, (x ∈ A ∨ x ∈ B ∨ x ∈ O ∨ x ∈ E) ∧ U = [x]) ∨ (1 < cap ∧ ∃ x y, Pair A B O C D x y ∧ U = ins y [x]) ∨ (2 < cap ∧ ∃ x ∈ O, ∃ y ∈ C, ∃ z ∈ D, U = ins z (ins y [x])) := by
  unfold wl
  simp only [List.mem_append, List.mem_singleton]
  have e1 : (U ∈ if 0 < cap then sgl A ++ (sgl B ++ (sgl O ++ sgl E)) else []) ↔ (0 < cap ∧ ∃ x, (x ∈ A ∨ x ∈ B ∨ x ∈ O ∨ x ∈ E) ∧ U = [x]) := by
    split
    · rename_i z
      simp only [List.mem_append, mem_sgl]
      constructor
      · rintro (⟨x, a, b⟩ | ⟨x, a, b⟩ | ⟨x, a, b⟩ | ⟨x, a, b⟩)
        · exact ⟨z, x, .inl a, b⟩
        · exact ⟨z, x, .inr (.inl a), b⟩
        · exact ⟨z, x, .inr (.inr (.inl a)), b⟩
        · exact ⟨z, x, .inr (.inr (.inr a)), b⟩
      · rintro ⟨_, x, a | a | a | a, b⟩
        · exact .inl ⟨x, a, b⟩
        · exact .inr (.inl ⟨x, a, b⟩)
        · exact .inr (.inr (.inl ⟨x, a, b⟩))
        · exact .inr (.inr (.inr ⟨x, a, b⟩))
    · rename_i z
      exact ⟨fun y => (by cases y), fun y => absurd y.1 z⟩
  have e2 : (U ∈ if 1 < cap then prs A B ++ (prs A C ++ (prs B D ++ prs O C)) else []) ↔ (1 < cap ∧ ∃ x y, Pair A B O C D x y ∧ U = ins y [x]) := by
    split
    · rename_i z
      simp only [List.mem_append, mem_prs]
      constructor
      · rintro (⟨x, a, y, b, c⟩ | ⟨x, a, y, b, c⟩ | ⟨x, a, y, b, c⟩ | ⟨x, a, y, b, c⟩)
        · exact ⟨z, x, y, .inl ⟨a, b⟩, c⟩
        · exact ⟨z, x, y, .inr (.inl ⟨a, b⟩), c⟩
        · exact ⟨z, x, y, .inr (.inr (.inl ⟨a, b⟩)), c⟩
        · exact ⟨z, x, y, .inr (.inr (.inr ⟨a, b⟩)), c⟩
      · rintro ⟨_, x, y, ⟨a, b⟩ | ⟨a, b⟩ | ⟨a, b⟩ | ⟨a, b⟩, c⟩
        · exact .inl ⟨x, a, y, b, c⟩
        · exact .inr (.inl ⟨x, a, y, b, c⟩)
        · exact .inr (.inr (.inl ⟨x, a, y, b, c⟩))
        · exact .inr (.inr (.inr ⟨x, a, y, b, c⟩))
    · rename_i z
      exact ⟨fun y => (by cases y), fun y => absurd y.1 z⟩
  have e3 : (U ∈ if 2 < cap then trs O C D else []) ↔ (2 < cap ∧ ∃ x ∈ O, ∃ y ∈ C, ∃ z ∈ D, U = ins z (ins y [x])) := by
    split
    · rename_i z
      rw [mem_trs]
      exact ⟨fun y => ⟨z, y⟩, fun y => y.2⟩
    · rename_i z
      exact ⟨fun y => (by cases y), fun y => absurd y.1 z⟩
  rw [e1, e2, e3]
  constructor
  · rintro (((a | a) | a) | a)
    · exact .inl a
    · exact .inr (.inl a)
    · exact .inr (.inr (.inl a))
    · exact .inr (.inr (.inr a))
  · rintro (a | a | a | a)
    · exact .inl (.inl (.inl a))
    · exact .inl (.inl (.inr a))
    · exact .inl (.inr a)
    · exact .inr a
omit h in
/-- a smaller lot that hits -/
theorem small {U V : Lot} (no : ∀ M, Min [S1, S2, S3] M → Sub M U → ¬ M.length < U.length) (a : Asc V) (z : Hit [S1, S2, S3] V) (s : Sub V U) (l : V.length < U.length) : False := by
  obtain ⟨M, m, sM⟩ := has_min V.length V (Nat.le_refl _) a z
  have := Sub.len m.asc sM
  exact no M m (fun x hx => s x (sM x hx)) (by omega)
theorem pair_hit {x y : Int} (p : Pair A B O C D x y) (no : x ∉ O) : Hit [S1, S2, S3] (ins y [x]) := by
  have mx : x ∈ ins y [x] := mem_two.mpr (.inl rfl)
  have my : y ∈ ins y [x] := mem_two.mpr (.inr rfl)
  rcases p with ⟨p, q⟩ | ⟨p, q⟩ | ⟨p, q⟩ | ⟨p, q⟩
  · exact h.hit_iff.mpr ⟨⟨x, mx, (h.s1 x).mpr (.inl p)⟩, ⟨y, my, (h.s2 y).mpr (.inl q)⟩, x, mx, (h.s3 x).mpr (.inl p)⟩
  · exact h.hit_iff.mpr ⟨⟨x, mx, (h.s1 x).mpr (.inl p)⟩, ⟨y, my, (h.s2 y).mpr (.inr (.inl q))⟩, x, mx, (h.s3 x).mpr (.inl p)⟩
  · exact h.hit_iff.mpr ⟨⟨x, mx, (h.s1 x).mpr (.inr (.inl p))⟩, ⟨x, mx, (h.s2 x).mpr (.inl p)⟩, y, my, (h.s3 y).mpr (.inr (.inl q))⟩
  · exact absurd p no
theorem fm_nil : fm [S1, S2, S3] [] = some S1 := by
  rw [fm3, missB_iff.mpr (fun x hx => by cases hx), if_pos rfl]
/-- what is looked at is written out -/
theorem lk_wl {U : Lot} (lk : Lk [S1, S2, S3] cap U) : U ∈ wl A B O C D E cap := by
  induction lk with
  | nil => exact mem_wl.mpr (.inl rfl)
  | @step T U lk ext no ih =>
    obtain ⟨s, p, f, hp, mem⟩ := ext.ex
    have lt := ext.lt
    have len := ext.len lk.asc
    rcases mem_wl.mp ih with rfl | ⟨c1, x, hx, rfl⟩ | ⟨c2, x, y, pr, rfl⟩ | ⟨c3, x, hx, y, hy, z, hz, rfl⟩
    · rw [h.fm_nil] at f
      cases f
      refine mem_wl.mpr (.inr (.inl ⟨lt, p, (h.s1 p).mp hp, asc_ext ext.asc (List.pairwise_singleton _ _) fun z => ?_⟩))
      rw [mem]
      simp
    · -- a single one
      have hS1 : missB [x] S1 = false := missF.mpr ⟨x, List.mem_singleton.mpr rfl, (h.s1 x).mpr hx⟩
      rw [fm3, hS1, if_neg Bool.false_ne_true] at f
      have lt2 : 1 < cap := lt
      have pE : p ∉ E := fun z => small no (List.pairwise_singleton _ p) (h.e_hit z) (fun w hw => (mem w).mpr (.inr (List.mem_singleton.mp hw))) (by rw [len]; exact Nat.lt_succ_self 1)
      have eU : ∀ q, p = q → U = ins q [x] := fun q e => by
        subst e
        have ne : x ≠ p := fun e => by
          have h1 : U.length ≤ 1 := sub_len U [x] ext.asc.nd fun w hw => by
            rcases (mem w).mp hw with z | z
            · exact z
            · rw [z, ← e]; exact List.mem_singleton.mpr rfl
          have l1 : [x].length = 1 := rfl
          omega
        exact asc_ext ext.asc (h.two_asc ne).1 fun z => by rw [mem, mem_two, List.mem_singleton]
      have eU' : ∀ q, p = q → U = ins x [q] := fun q e => by
        subst e
        have ne : p ≠ x := fun e => by
          have h1 : U.length ≤ 1 := sub_len U [x] ext.asc.nd fun w hw => by
            rcases (mem w).mp hw with z | z
            · exact z
            · rw [z, e]; exact List.mem_singleton.mpr rfl
          have l1 : [x].length = 1 := rfl
          omega
        exact asc_ext ext.asc (h.two_asc ne).1 fun z => by rw [mem, mem_two, List.mem_singleton]; exact or_comm
      by_cases m2 : missB [x] S2 = true
      · rw [m2, if_pos rfl] at f
        cases f
        have notB : x ∉ B := fun z => missB_iff.mp m2 x (List.mem_singleton.mpr rfl) ((h.s2 x).mpr (.inl z))
        have notE : x ∉ E := fun z => missB_iff.mp m2 x (List.mem_singleton.mpr rfl) ((h.s2 x).mpr (.inr (.inr z)))
        rcases (h.s2 p).mp hp with q | q | q
        · rcases hx with hx | hx | hx | hx
          · exact mem_wl.mpr (.inr (.inr (.inl ⟨lt2, x, p, .inl ⟨hx, q⟩, eU p rfl⟩)))
          · exact absurd hx notB
          · exact (h.ob x hx p q).elim
          · exact absurd hx notE
        · rcases hx with hx | hx | hx | hx
          · exact mem_wl.mpr (.inr (.inr (.inl ⟨lt2, x, p, .inr (.inl ⟨hx, q⟩), eU p rfl⟩)))
          · exact absurd hx notB
          · exact mem_wl.mpr (.inr (.inr (.inl ⟨lt2, x, p, .inr (.inr (.inr ⟨hx, q⟩)), eU p rfl⟩)))
          · exact absurd hx notE
        · exact absurd q pE
      · rw [if_neg m2] at f
        by_cases m3 : missB [x] S3 = true
        · rw [m3, if_pos rfl] at f
          cases f
          have notA : x ∉ A := fun z => missB_iff.mp m3 x (List.mem_singleton.mpr rfl) ((h.s3 x).mpr (.inl z))
          have notE : x ∉ E := fun z => missB_iff.mp m3 x (List.mem_singleton.mpr rfl) ((h.s3 x).mpr (.inr (.inr z)))
          have in2 : x ∈ S2 := by
            obtain ⟨w, hw, hs⟩ := missF.mp ((Bool.not_eq_true _).mp m2)
            rw [List.mem_singleton.mp hw] at hs
            exact hs
          have xB : x ∈ B := by
            rcases hx with hx | hx | hx | hx
            · exact absurd hx notA
            · exact hx
            · have := h.o x hx
              have := h.in2 in2
              omega
            · exact absurd hx notE
          rcases (h.s3 p).mp hp with q | q | q
          · exact mem_wl.mpr (.inr (.inr (.inl ⟨lt2, p, x, .inl ⟨q, xB⟩, eU' p rfl⟩)))
          · exact mem_wl.mpr (.inr (.inr (.inl ⟨lt2, x, p, .inr (.inr (.inl ⟨xB, q⟩)), eU p rfl⟩)))
          · exact absurd q pE
        · rw [if_neg m3] at f
          cases f
    · -- a pair
      have pn := h.pair_ne pr
      have asc2 := h.two_asc pn.1
      by_cases xo : x ∈ O
      · have yc : y ∈ C := by
          rcases pr with ⟨q, _⟩ | ⟨q, _⟩ | ⟨q, _⟩ | ⟨_, q⟩
          · have := h.a x q; have := h.o x xo; omega
          · have := h.a x q; have := h.o x xo; omega
          · have := h.b x q; have := h.o x xo; omega
          · exact q
        have m1 : missB (ins y [x]) S1 = false := missF.mpr ⟨x, mem_two.mpr (.inl rfl), (h.s1 x).mpr (.inr (.inr (.inl xo)))⟩
        have m2 : missB (ins y [x]) S2 = false := missF.mpr ⟨y, mem_two.mpr (.inr rfl), (h.s2 y).mpr (.inr (.inl yc))⟩
        rw [fm3, m1, m2, if_neg Bool.false_ne_true, if_neg Bool.false_ne_true] at f
        by_cases m3 : missB (ins y [x]) S3 = true
        · rw [m3, if_pos rfl] at f
          cases f
          rw [asc2.2] at lt len
          rcases (h.s3 p).mp hp with q | q | q
          · -- a part before
            have pc : Pair A B O C D p y := .inr (.inl ⟨q, yc⟩)
            have ne := (h.pair_ne pc).1
            refine (small no (h.two_asc ne).1 (h.pair_hit pc fun z => ?_) (fun w hw => (mem w).mpr ?_) (by rw [(h.two_asc ne).2, len]; decide)).elim
            · have := h.a p q; have := h.o p z; omega
            · rcases mem_two.mp hw with e | e
              · exact .inr e
              · exact .inl (mem_two.mpr (.inr e))
          · refine mem_wl.mpr (.inr (.inr (.inr ⟨lt, x, xo, y, yc, p, q, ?_⟩)))
            have np : p ∉ ins y [x] := fun z => missB_iff.mp m3 p z hp
            refine asc_ext ext.asc (ins_asc asc2.1 np) fun w => ?_
            exact (mem w).trans mem_ins.symm
          · exact (small no (List.pairwise_singleton _ p) (h.e_hit q) (fun w hw => (mem w).mpr (.inr (List.mem_singleton.mp hw))) (by rw [len]; show 1 < 3; decide)).elim
        · rw [if_neg m3] at f
          cases f
      · have := fm_none.mpr (h.pair_hit pr xo)
        rw [this] at f
        cases f
    · -- a triple
      have hit : Hit [S1, S2, S3] (ins z (ins y [x])) := h.hit_iff.mpr ⟨⟨x, mem_three.mpr (.inl rfl), (h.s1 x).mpr (.inr (.inr (.inl hx)))⟩, ⟨y, mem_three.mpr (.inr (.inl rfl)), (h.s2 y).mpr (.inr (.inl hy))⟩, z, mem_three.mpr (.inr (.inr rfl)), (h.s3 z).mpr (.inr (.inl hz))⟩
      rw [fm_none.mpr hit] at f
      cases f
theorem sgl_lk {x : Int} (hc : 0 < cap) (hx : x ∈ S1) : Lk [S1, S2, S3] cap [x] := by
  refine .step .nil ⟨⟨S1, x, h.fm_nil, hx, fun z => by simp⟩, hc, List.pairwise_singleton _ _⟩ fun M m s lt => ?_
  have : M = [] := List.length_eq_zero_iff.mp (by have : M.length < 1 := lt; omega)
  rw [this] at m
  exact nil_hit m.hit
theorem pair_lk {x y : Int} (hc : 1 < cap) (p : Pair A B O C D x y) : Lk [S1, S2, S3] cap (ins y [x]) := by
  obtain ⟨ne, xE, yE⟩ := h.pair_ne p
  obtain ⟨asc, len⟩ := h.two_asc ne
  have hx1 : x ∈ S1 := (h.s1 x).mpr (by
    rcases p with ⟨q, _⟩ | ⟨q, _⟩ | ⟨q, _⟩ | ⟨q, _⟩
    · exact .inl q
    · exact .inl q
    · exact .inr (.inl q)
    · exact .inr (.inr (.inl q)))
  have m1 : missB [x] S1 = false := missF.mpr ⟨x, List.mem_singleton.mpr rfl, hx1⟩
  have ext : Ext [S1, S2, S3] cap [x] (ins y [x]) := by
    refine ⟨?_, hc, asc⟩
    have key : ∀ q, q ∈ [x] → k q = k x := fun q hq => by rw [List.mem_singleton.mp hq]
    rcases p with ⟨q, r⟩ | ⟨q, r⟩ | ⟨q, r⟩ | ⟨q, r⟩
    · have m2 : missB [x] S2 = true := missB_iff.mpr fun w hw hs => by have := h.in2 hs; rw [key w hw, h.a x q] at this; omega
      exact ⟨S2, y, by rw [fm3, m1, m2, if_neg Bool.false_ne_true, if_pos rfl], (h.s2 y).mpr (.inl r), fun z => mem_ins⟩
    · have m2 : missB [x] S2 = true := missB_iff.mpr fun w hw hs => by have := h.in2 hs; rw [key w hw, h.a x q] at this; omega
      exact ⟨S2, y, by rw [fm3, m1, m2, if_neg Bool.false_ne_true, if_pos rfl], (h.s2 y).mpr (.inr (.inl r)), fun z => mem_ins⟩
    · have m2 : missB [x] S2 = false := missF.mpr ⟨x, List.mem_singleton.mpr rfl, (h.s2 x).mpr (.inl q)⟩
      have m3 : missB [x] S3 = true := missB_iff.mpr fun w hw hs => by have := h.in3 hs; rw [key w hw, h.b x q] at this; omega
      exact ⟨S3, y, by rw [fm3, m1, m2, m3, if_neg Bool.false_ne_true, if_neg Bool.false_ne_true, if_pos rfl], (h.s3 y).mpr (.inr (.inl r)), fun z => mem_ins⟩
    · have m2 : missB [x] S2 = true := missB_iff.mpr fun w hw hs => by have := h.in2 hs; rw [key w hw, h.o x q] at this; omega
      exact ⟨S2, y, by rw [fm3, m1, m2, if_neg Bool.false_ne_true, if_pos rfl], (h.s2 y).mpr (.inr (.inl r)), fun z => mem_ins⟩
  refine .step (h.sgl_lk (by omega) hx1) ext fun M m s lt => ?_
  rw [len] at lt
  match M, lt, m, s with
  | [], _, m, _ => exact nil_hit m.hit
  | [z], _, m, s =>
    have := h.one_hit m.hit
    rcases mem_two.mp (s z List.mem_cons_self) with e | e
    · exact xE (e ▸ this)
    · exact yE (e ▸ this)
  | _ :: _ :: _, lt, _, _ => simp at lt; omega
theorem wl_lk {U : Lot} (hU : U ∈ wl A B O C D E cap) : Lk [S1, S2, S3] cap U := by
  rcases mem_wl.mp hU with rfl | ⟨c1, x, hx, rfl⟩ | ⟨c2, x, y, pr, rfl⟩ | ⟨c3, x, hx, y, hy, z, hz, rfl⟩
  · exact .nil
  · exact h.sgl_lk c1 ((h.s1 x).mpr hx)
  · exact h.pair_lk c2 pr
  · have pr : Pair A B O C D x y := .inr (.inr (.inr ⟨hx, hy⟩))
    obtain ⟨asc, len⟩ := h.two_asc (h.pair_ne pr).1
    have kx := h.o x hx
    have ky := h.c y hy
    have kz := h.d z hz
    have nz : z ∉ ins y [x] := fun w => by
      rcases mem_two.mp w with e | e
      · rw [e] at kz; omega
      · rw [e] at kz; omega
    have a3 := ins_asc asc nz
    have l3 : (ins z (ins y [x])).length = 3 := by rw [ins_len asc a3 nz fun w => mem_ins, len]
    have m1 : missB (ins y [x]) S1 = false := missF.mpr ⟨x, mem_two.mpr (.inl rfl), (h.s1 x).mpr (.inr (.inr (.inl hx)))⟩
    have m2 : missB (ins y [x]) S2 = false := missF.mpr ⟨y, mem_two.mpr (.inr rfl), (h.s2 y).mpr (.inr (.inl hy))⟩
    have m3 : missB (ins y [x]) S3 = true := missB_iff.mpr fun w hw hs => by
      have := h.in3 hs
      rcases mem_two.mp hw with e | e
      · rw [e, kx] at this; omega
      · rw [e, ky] at this; omega
    refine .step (h.pair_lk (by omega) pr) ⟨⟨S3, z, by rw [fm3, m1, m2, m3, if_neg Bool.false_ne_true, if_neg Bool.false_ne_true, if_pos rfl], (h.s3 z).mpr (.inr (.inl hz)), fun w => mem_ins⟩, by rw [len]; exact c3, a3⟩ fun M m s lt => ?_
    rw [l3] at lt
    obtain ⟨⟨x1, n1, h1⟩, ⟨x2, n2, h2⟩, x3, n3, h3⟩ := h.hit_iff.mp m.hit
    have j1 := h.in1 h1
    have j2 := h.in2 h2
    have j3 := h.in3 h3
    have e1 : x1 = x := by
      rcases mem_three.mp (s x1 n1) with e | e | e
      · exact e
      · rw [e, ky] at j1; omega
      · rw [e, kz] at j1; omega
    have e2 : x2 = y := by
      rcases mem_three.mp (s x2 n2) with e | e | e
      · rw [e, kx] at j2; omega
      · exact e
      · rw [e, kz] at j2; omega
    have e3 : x3 = z := by
      rcases mem_three.mp (s x3 n3) with e | e | e
      · rw [e, kx] at j3; omega
      · rw [e, ky] at j3; omega
      · exact e
    have := sub_len (ins z (ins y [x])) M a3.nd fun w hw => by
      rcases mem_three.mp hw with e | e | e
      · rw [e, ← e1]; exact n1
      · rw [e, ← e2]; exact n2
      · rw [e, ← e3]; exact n3
    omega
theorem lk_iff {U : Lot} : Lk [S1, S2, S3] cap U ↔ U ∈ wl A B O C D E cap := ⟨h.lk_wl, h.wl_lk⟩
theorem wl_nd : (wl A B O C D E cap).Nodup := by
  have w1 : ∀ {X : Lot} {i : Nat}, (∀ x ∈ X, k x = i) → ∀ U ∈ sgl X, wt k U = i := fun hX U hU => by
    obtain ⟨x, hx, rfl⟩ := mem_sgl.mp hU
    unfold wt
    simp [hX x hx]
  have w2 : ∀ {X Y : Lot} {i j : Nat}, (∀ x ∈ X, k x = i) → (∀ y ∈ Y, k y = j) → ∀ U ∈ prs X Y, wt k U = i + j := fun hX hY U hU => by
    obtain ⟨x, hx, y, hy, rfl⟩ := mem_prs.mp hU
    rw [wt_ins, hY y hy]
    unfold wt
    simp [hX x hx, Nat.add_comm]
  have w3 : ∀ U ∈ trs O C D, wt k U = 11100 := fun U hU => by
    obtain ⟨x, hx, y, hy, z, hz, rfl⟩ := mem_trs.mp hU
    rw [wt_ins, wt_ins, h.d z hz, h.c y hy]
    unfold wt
    simp [h.o x hx]
  have app : ∀ {L M : List Lot}, L.Nodup → M.Nodup → (∀ U ∈ L, ∀ V ∈ M, wt k U ≠ wt k V) → (L ++ M).Nodup := fun a b c => List.nodup_append.mpr ⟨a, b, fun x hx y hy e => c x hx y hy (by rw [e])⟩
  have q0 : ∀ U ∈ [([] : Lot)], wt k U = 0 := fun U hU => by rw [List.mem_singleton.mp hU]; rfl
  have qs : ∀ U ∈ (if 0 < cap then sgl A ++ (sgl B ++ (sgl O ++ sgl E)) else []), wt k U = 1 ∨ wt k U = 10 ∨ wt k U = 100 ∨ wt k U = 100000 := fun U hU => by
    split at hU
    · simp only [List.mem_append] at hU
      rcases hU with u | u | u | u
      · exact .inl (w1 h.a U u)
      · exact .inr (.inl (w1 h.b U u))
      · exact .inr (.inr (.inl (w1 h.o U u)))
      · exact .inr (.inr (.inr (w1 h.e U u)))
    · cases hU
  have qp : ∀ U ∈ (if 1 < cap then prs A B ++ (prs A C ++ (prs B D ++ prs O C)) else []), wt k U = 11 ∨ wt k U = 1001 ∨ wt k U = 10010 ∨ wt k U = 1100 := fun U hU => by
    split at hU
    · simp only [List.mem_append] at hU
      rcases hU with u | u | u | u
      · exact .inl (w2 h.a h.b U u)
      · exact .inr (.inl (w2 h.a h.c U u))
      · exact .inr (.inr (.inl (w2 h.b h.d U u)))
      · exact .inr (.inr (.inr (w2 h.o h.c U u)))
    · cases hU
  have qt : ∀ U ∈ (if 2 < cap then trs O C D else []), wt k U = 11100 := fun U hU => by
    split at hU
    · exact w3 U hU
    · cases hU
  unfold wl
  refine app (app (app (by simp) ?_ ?_) ?_ ?_) ?_ ?_
  · split
    · refine app (sgl_nd h.nA) (app (sgl_nd h.nB) (app (sgl_nd h.nO) (sgl_nd h.nE) ?_) ?_) ?_
      · intro U hU V hV
        rw [w1 h.o U hU, w1 h.e V hV]
        decide
      · intro U hU V hV
        rw [w1 h.b U hU]
        rcases List.mem_append.mp hV with v | v
        · rw [w1 h.o V v]; decide
        · rw [w1 h.e V v]; decide
      · intro U hU V hV
        rw [w1 h.a U hU]
        simp only [List.mem_append] at hV
        rcases hV with v | v | v
        · rw [w1 h.b V v]; decide
        · rw [w1 h.o V v]; decide
        · rw [w1 h.e V v]; decide
    · exact List.nodup_nil
  · intro U hU V hV
    have := qs V hV
    rw [q0 U hU]
    omega
  · split
    · refine app (prs_nd h.a h.b (by decide) h.nA h.nB) (app (prs_nd h.a h.c (by decide) h.nA h.nC) (app (prs_nd h.b h.d (by decide) h.nB h.nD) (prs_nd h.o h.c (by decide) h.nO h.nC) ?_) ?_) ?_
      · intro U hU V hV
        rw [w2 h.b h.d U hU, w2 h.o h.c V hV]
        decide
      · intro U hU V hV
        rw [w2 h.a h.c U hU]
        rcases List.mem_append.mp hV with v | v
        · rw [w2 h.b h.d V v]; decide
        · rw [w2 h.o h.c V v]; decide
      · intro U hU V hV
        rw [w2 h.a h.b U hU]
        simp only [List.mem_append] at hV
        rcases hV with v | v | v
        · rw [w2 h.a h.c V v]; decide
        · rw [w2 h.b h.d V v]; decide
        · rw [w2 h.o h.c V v]; decide
    · exact List.nodup_nil
  · intro U hU V hV
    have v := qp V hV
    rcases List.mem_append.mp hU with u | u
    · rw [q0 U u]; omega
    · have := qs U u; omega
  · split
    · exact trs_nd h.o h.c h.d (by decide) (by decide) (by decide) h.nO h.nC h.nD
    · exact List.nodup_nil
  · intro U hU V hV
    have v := qt V hV
    rcases List.mem_append.mp hU with u | u
    · rcases List.mem_append.mp u with u | u
      · rw [q0 U u]; omega
      · have := qs U u; omega
    · have := qp U u; omega
omit h in
theorem wl_len : (wl A B O C D E cap).length = 1 + (if 0 < cap then A.length + (B.length + (O.length + E.length)) else 0) + (if 1 < cap then A.length * B.length + (A.length * C.length + (B.length * D.length + O.length * C.length)) else 0) + (if 2 < cap then O.length * (C.length * D.length) else 0) := by
  unfold wl sgl
  rw [List.length_append, List.length_append, List.length_append]
  congr 1
  · congr 1
    · congr 1
      split <;> simp
    · split <;> simp [prs_len]
  · split <;> simp [trs_len]
/-- what is found -/
def gl (A B O C D E : Lot) (cap : Nat) : List Lot := (if 0 < cap then sgl E else []) ++ (if 1 < cap then prs A B ++ (prs A C ++ prs B D) else []) ++ (if 2 < cap then trs O C D else [])
theorem gl_iff {M : Lot} : M ∈ gl A B O C D E cap ↔ Min [S1, S2, S3] M ∧ M.length ≤ cap := by
  have kinds : M ∈ gl A B O C D E cap ↔ (0 < cap ∧ M ∈ sgl E) ∨ (1 < cap ∧ (M ∈ prs A B ∨ M ∈ prs A C ∨ M ∈ prs B D)) ∨ (2 < cap ∧ M ∈ trs O C D) := by
    unfold gl
    simp only [List.mem_append]
    constructor
    · rintro ((u | u) | u)
      · split at u
        · exact .inl ⟨by assumption, u⟩
        · cases u
      · split at u
        · simp only [List.mem_append] at u
          exact .inr (.inl ⟨by assumption, u⟩)
        · cases u
      · split at u
        · exact .inr (.inr ⟨by assumption, u⟩)
        · cases u
    · rintro (⟨c, u⟩ | ⟨c, u⟩ | ⟨c, u⟩)
      · exact .inl (.inl (by rw [if_pos c]; exact u))
      · exact .inl (.inr (by rw [if_pos c]; simp only [List.mem_append]; exact u))
      · exact .inr (by rw [if_pos c]; exact u)
  rw [kinds]
  constructor
  · intro u
    have key : Lk [S1, S2, S3] cap M ∧ Hit [S1, S2, S3] M := by
      rcases u with ⟨c, u⟩ | ⟨c, u⟩ | ⟨c, u⟩
      · obtain ⟨x, hx, rfl⟩ := mem_sgl.mp u
        exact ⟨h.sgl_lk c ((h.s1 x).mpr (.inr (.inr (.inr hx)))), h.e_hit hx⟩
      · rcases u with u | u | u <;> obtain ⟨x, hx, y, hy, rfl⟩ := mem_prs.mp u
        · have p : Pair A B O C D x y := .inl ⟨hx, hy⟩
          exact ⟨h.pair_lk c p, h.pair_hit p fun z => by have := h.a x hx; have := h.o x z; omega⟩
        · have p : Pair A B O C D x y := .inr (.inl ⟨hx, hy⟩)
          exact ⟨h.pair_lk c p, h.pair_hit p fun z => by have := h.a x hx; have := h.o x z; omega⟩
        · have p : Pair A B O C D x y := .inr (.inr (.inl ⟨hx, hy⟩))
          exact ⟨h.pair_lk c p, h.pair_hit p fun z => by have := h.b x hx; have := h.o x z; omega⟩
      · obtain ⟨x, hx, y, hy, z, hz, rfl⟩ := mem_trs.mp u
        exact ⟨h.wl_lk (mem_wl.mpr (.inr (.inr (.inr ⟨c, x, hx, y, hy, z, hz, rfl⟩)))), h.hit_iff.mpr ⟨⟨x, mem_three.mpr (.inl rfl), (h.s1 x).mpr (.inr (.inr (.inl hx)))⟩, ⟨y, mem_three.mpr (.inr (.inl rfl)), (h.s2 y).mpr (.inr (.inl hy))⟩, z, mem_three.mpr (.inr (.inr rfl)), (h.s3 z).mpr (.inr (.inl hz))⟩⟩
    exact ⟨key.1.min key.2, key.1.le⟩
  · rintro ⟨m, le⟩
    rcases mem_wl.mp (h.lk_wl (m.lk le)) with rfl | ⟨c1, x, hx, rfl⟩ | ⟨c2, x, y, pr, rfl⟩ | ⟨c3, x, hx, y, hy, z, hz, rfl⟩
    · exact absurd m.hit nil_hit
    · exact .inl ⟨c1, mem_sgl.mpr ⟨x, h.one_hit m.hit, rfl⟩⟩
    · refine .inr (.inl ⟨c2, ?_⟩)
      rcases pr with ⟨p, q⟩ | ⟨p, q⟩ | ⟨p, q⟩ | ⟨p, q⟩
      · exact .inl (mem_prs.mpr ⟨x, p, y, q, rfl⟩)
      · exact .inr (.inl (mem_prs.mpr ⟨x, p, y, q, rfl⟩))
      · exact .inr (.inr (mem_prs.mpr ⟨x, p, y, q, rfl⟩))
      · obtain ⟨_, _, w, hw, hs⟩ := h.hit_iff.mp m.hit
        have := h.in3 hs
        rcases mem_two.mp hw with e | e
        · rw [e, h.o x p] at this; omega
        · rw [e, h.c y q] at this; omega
    · exact .inr (.inr ⟨c3, mem_trs.mpr ⟨x, hx, y, hy, z, hz, rfl⟩⟩)
end Sys
end K25

/-! Three lists of six kinds of numbers: all least lists, in order; how many are looked at. -/
namespace K25
theorem nd_len {L M : List Lot} (a : L.Nodup) (b : M.Nodup) (h : ∀ T, T ∈ L ↔ T ∈ M) : L.length = M.length := by
  have h1 := sub_len L M a fun x hx => (h x).mp hx
  have h2 := sub_len M L b fun x hx => (h x).mpr hx
  omega
theorem sgl_lx {E : Lot} (h : Asc E) : (sgl E).Pairwise fun a b => lx a b = true := by
  unfold sgl
  rw [List.pairwise_map]
  refine List.Pairwise.imp (fun {a b} hab => ?_) h
  show (if a = b then lx [] [] else decide (a < b)) = true
  rw [if_neg (by omega)]
  exact decide_eq_true hab
namespace Sys
variable {k : Int → Nat} {A B O C D E S1 S2 S3 : Lot} (h : Sys k A B O C D E S1 S2 S3) {cap : Nat}
include h
theorem all {L1 L2 L3 : List Lot} (m1 : ∀ M, M ∈ L1 ↔ 0 < cap ∧ M ∈ sgl E) (m2 : ∀ M, M ∈ L2 ↔ 1 < cap ∧ (M ∈ prs A B ∨ M ∈ prs A C ∨ M ∈ prs B D)) (m3 : ∀ M, M ∈ L3 ↔ 2 < cap ∧ M ∈ trs O C D)
    (p1 : L1.Pairwise fun a b => lx a b = true) (p2 : L2.Pairwise fun a b => lx a b = true) (p3 : L3.Pairwise fun a b => lx a b = true) : All [S1, S2, S3] cap (L1 ++ (L2 ++ L3)) := by
  have le1 : ∀ M ∈ L1, M.length = 1 := fun M hM => by
    obtain ⟨x, _, rfl⟩ := mem_sgl.mp ((m1 M).mp hM).2
    rfl
  have le2 : ∀ M ∈ L2, M.length = 2 := fun M hM => by
    have : ∃ x y, Pair A B O C D x y ∧ M = ins y [x] := by
      rcases ((m2 M).mp hM).2 with u | u | u <;> obtain ⟨x, hx, y, hy, e⟩ := mem_prs.mp u
      · exact ⟨x, y, .inl ⟨hx, hy⟩, e⟩
      · exact ⟨x, y, .inr (.inl ⟨hx, hy⟩), e⟩
      · exact ⟨x, y, .inr (.inr (.inl ⟨hx, hy⟩)), e⟩
    obtain ⟨x, y, p, rfl⟩ := this
    exact (h.two_asc (h.pair_ne p).1).2
  have le3 : ∀ M ∈ L3, M.length = 3 := fun M hM => by
    obtain ⟨x, hx, y, hy, z, hz, rfl⟩ := mem_trs.mp ((m3 M).mp hM).2
    have pr : Pair A B O C D x y := .inr (.inr (.inr ⟨hx, hy⟩))
    obtain ⟨asc, len⟩ := h.two_asc (h.pair_ne pr).1
    have kx := h.o x hx
    have ky := h.c y hy
    have kz := h.d z hz
    have nz : z ∉ ins y [x] := fun w => by
      rcases mem_two.mp w with e | e
      · rw [e] at kz; omega
      · rw [e] at kz; omega
    rw [ins_len asc (ins_asc asc nz) nz fun w => mem_ins, len]
  have od1 : ∀ {n : Nat} {L : List Lot}, (∀ M ∈ L, M.length = n) → (L.Pairwise fun a b => lx a b = true) → L.Pairwise od := fun hn hp => List.Pairwise.imp_of_mem (fun {a b} ha hb hab => .inr ⟨by rw [hn a ha, hn b hb], hab⟩) hp
  refine ⟨fun M => ?_, List.pairwise_append.mpr ⟨od1 le1 p1, List.pairwise_append.mpr ⟨od1 le2 p2, od1 le3 p3, fun a ha b hb => .inl (by rw [le2 a ha, le3 b hb]; decide)⟩, fun a ha b hb => .inl ?_⟩⟩
  · rw [← h.gl_iff, List.mem_append, List.mem_append, m1, m2, m3]
    unfold gl
    simp only [List.mem_append]
    constructor
    · rintro (⟨c, u⟩ | ⟨c, u⟩ | ⟨c, u⟩)
      · exact .inl (.inl (by rw [if_pos c]; exact u))
      · exact .inl (.inr (by rw [if_pos c]; simp only [List.mem_append]; exact u))
      · exact .inr (by rw [if_pos c]; exact u)
    · rintro ((u | u) | u)
      · split at u
        · exact .inl ⟨by assumption, u⟩
        · cases u
      · split at u
        · simp only [List.mem_append] at u
          exact .inr (.inl ⟨by assumption, u⟩)
        · cases u
      · split at u
        · exact .inr (.inr ⟨by assumption, u⟩)
        · cases u
  · rw [le1 a ha]
    rcases List.mem_append.mp hb with hb | hb
    · rw [le2 b hb]; decide
    · rw [le3 b hb]; decide
/-- what is seen, counted -/
theorem seen_len {seen : List Lot} (nd : seen.Nodup) (m : ∀ T, T ∈ seen ↔ Lk [S1, S2, S3] cap T) : seen.length = (wl A B O C D E cap).length := nd_len nd h.wl_nd fun T => by rw [m, h.lk_iff]
theorem seen_le {seen : List Lot} (nd : seen.Nodup) (m : ∀ T ∈ seen, Lk [S1, S2, S3] cap T) : seen.length ≤ (wl A B O C D E cap).length := sub_len seen _ nd fun T hT => h.lk_iff.mp (m T hT)
end Sys
end K25

namespace K25W
open PySem PySem.Spec PyProof.Rows L2 KH KD KP K25 LamX NdefX
abbrev s_law_wide : Stmt := topS 24
theorem sc_law_wide : FnScope ["drawn", "firsts", "seconds", "fourths", "rest", "thirds", "shared", "groups", "k", "size", "code", "j"] ["drawn"] (defScope s_law_wide) := ⟨rfl, rfl, rfl, by decide +kernel, rfl, by decide +kernel, by decide +kernel⟩

theorem for_enumL {K : PySem.W.Frag} {a : Addr} {xs : List V} {g : TG} {tb : TS} {D : Ends} {σ : L2.St} {H : Hp} (Pv : Nat → L2.St → Hp → Prop) (h0 : Pv 0 σ H) (hl : ∀ i σ' H', i ≤ xs.length → Pv i σ' H' → SqL K H' a xs)
    (hs : ∀ i x t σ H, xs[i]? = some x → Pv i σ H → H t = none → g (.ref t) σ (upd H t (.tup [.int (i : Nat), x])) fun σ2 H2 => tb { D with nx := Pv (i + 1), ct := Pv (i + 1), bk := D.nx } σ2 H2) (hd : ∀ σ H, Pv xs.length σ H → D.nx σ H) :
    ∃ W : Nat → Nat → L2.St → Hp → Prop, (∃ m, W 0 m σ H) ∧ ∀ i m σ H, W i m σ H →
      ((Ite K a).stop i H ∧ D.nx σ H) ∨ ((Ite K a).go i H ∧ ∃ N : L2.St → Hp → Prop, (∀ σ' H', N σ' H' → ∃ m', m' < m ∧ W (i + 1) m' σ' H') ∧ ∀ x H', (Ite K a).yld i H x H' → g x σ H' fun σ2 H2 => tb { D with nx := N, ct := N, bk := D.nx } σ2 H2) := by
  have turn : ∀ i x σ H H', i < xs.length → Pv i σ H → YPair (fun i => some (.int (i : Nat))) (fun i => xs[i]?) i H x H' → g x σ H' fun σ2 H2 => tb { D with nx := Pv (i + 1), ct := Pv (i + 1), bk := D.nx } σ2 H2 := by
    rintro i x σ H H' hi p ⟨t, u, v, rfl, nt, rfl, hu, hv⟩
    cases hu
    exact hs i v t σ H hv p nt
  exact for_it (walk_enum (K := K) (a := a) (xs := xs)) Pv h0 hl turn hd
/-- numbers of one rest by five -/
def gr (n c : Nat) : Lot := (List.range n).map fun j : Nat => 5 * (j : Int) + (c : Int) - 40
def Wd (d : Nat) (ns : List Nat) (i : Nat) : List Lot := (List.range i).map fun k => gr (ns.getD k 0) ((k + d) % 5)
theorem Wd_more (d : Nat) (ns : List Nat) (i : Nat) : Wd d ns (i + 1) = Wd d ns i ++ [gr (ns.getD i 0) ((i + d) % 5)] := by
  unfold Wd
  rw [List.range_succ, List.map_append]
  rfl
theorem gr_more (n c : Nat) : gr (n + 1) c = gr n c ++ [5 * (n : Int) + (c : Int) - 40] := by
  unfold gr
  rw [List.range_succ, List.map_append]
  rfl
/-- lists of their own -/
def RO (o : Addr) (H : Hp) (us : List V) (L : List Lot) : Prop := Paired (fun v T => ∃ a, v = V.ref a ∧ a ≠ o ∧ H a = some (.lst (IL T))) us L
theorem RO.same {o : Addr} {H H' : Hp} {us : List V} {L : List Lot} (h : RO o H us L) (s : Same H H') : RO o H' us L := P_mono (fun _ _ ⟨a, e, n, q⟩ => ⟨a, e, n, s _ _ q⟩) h
theorem RO.up {o : Addr} {H : Hp} {x : HO} {us : List V} {L : List Lot} (h : RO o H us L) : RO o (upd H o x) us L := P_mono (fun _ _ ⟨a, e, n, q⟩ => ⟨a, e, n, by rw [upd_ne n]; exact q⟩) h
theorem RO.ll {o : Addr} {H : Hp} {us : List V} {L : List Lot} (h : RO o H us L) : LL H us L := P_mono (fun _ _ ⟨a, e, _, q⟩ => ⟨a, e, q⟩) h
theorem adj4 : ∀ {d : Nat}, d < 4 → ∃ ad : Nat, ([V.int 1, V.int 0, V.int 2, V.int 1] : List V)[d]? = some (nV ad) ∧ ad ≤ 2
  | 0, _ => ⟨1, rfl, by decide⟩
  | 1, _ => ⟨0, rfl, by decide⟩
  | 2, _ => ⟨2, rfl, by decide⟩
  | 3, _ => ⟨1, rfl, by decide⟩
section
variable {P : Program} {w : World} {K : PySem.W.Frag} {mg : Str → Option Value} {base : Heap} {CN CB CT fJ : Addr}
def sp_wide (K : PySem.W.Frag) : Sp := fun vs H Q _ => ∃ (a : Addr) (ds : List Nat), vs = [.ref a] ∧ SqL K H a (ds.map nV) ∧ Drawn ds [15, 8, 8, 4, 5, 6, 2, 5] ∧
  ∀ p us (d n0 n1 n2 n3 n4 : Nat) H', Same H H' → H p = none → H' p = some (.lst us) → LL H' us (Wd d [n0, n1, n2, n3, n4] 5) → d < 5 → 0 < n0 → 0 < n2 → n0 ≤ 24 → n1 ≤ 7 → n2 ≤ 198 → n3 ≤ 7 → n4 ≤ 30 → Q (.ref p) H'
theorem ok_wide {f : Addr} {fd : FuncData} (F : Fun K "_law_wide" "_law_wide" s_law_wide f fd) (T : Txt mg) : FnOk P w K mg base CX0 1 f fd ["drawn"] (sp_wide K) := by
  refine F.ok sc_law_wide (fun vs H Q E h => ?_) (fun cdv A outer s H vs Q E hr h => ?_)
  · obtain ⟨a, ds, rfl, _⟩ := h
    rfl
  · obtain ⟨a, ds, rfl, hD, dr, q⟩ := h
    refine ⟨_, (pss_cons (ps_set (i := 1) sc_law_wide.nd rfl (.inl rfl) (pe_op op_add pe_int (pe_ix ix_list (pv 0) pe_int (fun _ _ => rfl))))
 (pss_cons (ps_set (i := 2) sc_law_wide.nd rfl (.inl rfl) (pe_ix ix_list (pv 0) pe_int (fun _ _ => rfl)))
 (pss_cons (ps_set (i := 3) sc_law_wide.nd rfl (.inl rfl) (pe_ix ix_list (pv 0) pe_int (fun _ _ => rfl)))
 (pss_cons (ps_set (i := 4) sc_law_wide.nd rfl (.inl rfl) (pe_op op_sub (pe_op op_sub (pe_op op_sub (pe_op op_sub pe_int (pv 1)) (pv 2)) (pe_op op_mul (pv 1) (pv 2))) (pe_op op_mul (pv 2) (pv 3))))
 (pss_cons (ps_set (i := 5) sc_law_wide.nd rfl (.inl rfl) (pe_op op_fdivN (pv 4) (pv 1)))
 (pss_cons (ps_set (i := 6) sc_law_wide.nd rfl (.inl rfl) (pe_callB (call_max2 rfl) (by rfl) T.max (by decide +kernel) (pa_cons pe_int (pa_cons (pe_op op_sub (pe_op op_add (pe_op op_sub (pv 4) (pe_op op_mul (pv 1) (pv 5))) (pe_ix ix_list (pe_lst (pa_cons pe_int (pa_cons pe_int (pa_cons pe_int (pa_cons pe_int pa_nil))))) (pe_ix ix_list (pv 0) pe_int (fun _ _ => rfl)) (fun _ _ => rfl))) pe_int) pa_nil))))
 (pss_cons (ps_set (i := 7) sc_law_wide.nd rfl (.inl rfl) (pe_lst pa_nil))
 (pss_cons (ps_for PassesOwn.never rfl (pi_enum (by rfl) T.enumerate (pa_cons (pe_lst (pa_cons (pv 1) (pa_cons (pv 2) (pa_cons (pv 5) (pa_cons (pv 3) (pa_cons (pv 6) pa_nil)))))) pa_nil)) (pg_tup rfl (pgs_cons (pg_name (i := 8) sc_law_wide.nd rfl (.inl rfl)) (pgs_cons (pg_name (i := 9) sc_law_wide.nd rfl (.inl rfl)) pgs_nil)))
 (pss_cons (ps_set (i := 10) sc_law_wide.nd rfl (.inr rfl) (pe_op op_modN (pe_callTy call_int1 (by rfl) T.int (by decide +kernel) (pa_cons (pe_op op_add (pv 8) (pe_ix ix_list (pv 0) pe_int (fun _ _ => rfl))) pa_nil)) pe_int))
 (pss_one (ps_expr (pe_bm PySem.F.plainAttrs_list PySem.F.slot_list_append PySem.F.type_list_append mt_append (pv 7) (pa_cons (pe_lc (own := [("j", 11)]) (g := gName 11) (tt := tYes) rfl sc_law_wide.nd (pi_range1 rfl T.range (pa_cons (pv 9) pa_nil)) (blkOk_by (N := ["drawn", "firsts", "seconds", "fourths", "rest", "thirds", "shared", "groups", "k", "size", "code", "j"]) (sc := defScope s_law_wide) (by decide +kernel)) (fun _ _ _ _ _ => (pg_name (i := 11) sc_law_wide.nd rfl (.inl rfl))) (fun _ _ _ _ _ => pts_nil) (fun _ _ _ _ _ => (pe_op op_sub (pe_op op_add (pe_op op_mul pe_int (pv 11)) (pv 10)) pe_int))) pa_nil))))))
 (pss_one (ps_ret (pv 7))))))))))), ?_⟩
    obtain ⟨d0, d1, d2, d3, d4, d5, d6, d7, rfl, b0, b1, b2, b3, b4⟩ : ∃ d0 d1 d2 d3 d4 d5 d6 d7, ds = [d0, d1, d2, d3, d4, d5, d6, d7] ∧ d0 < 15 ∧ d1 < 8 ∧ d2 < 8 ∧ d3 < 4 ∧ d4 < 5 := by
      cases dr with | cons h0 dr => cases dr with | cons h1 dr => cases dr with | cons h2 dr => cases dr with | cons h3 dr => cases dr with | cons h4 dr => cases dr with | cons h5 dr => cases dr with | cons h6 dr => cases dr with | cons h7 dr => cases dr with | nil => exact ⟨_, _, _, _, _, _, _, _, rfl, h0, h1, h2, h3, h4⟩
    refine asgN ⟨_, rfl, a, _, 0, nV d0, rfl, rfl, hD, at_n (j := 0) rfl, _, _, rfl, rfl, fun σ' e => ?_⟩
    obtain ⟨n0, e0⟩ : ∃ n0, n0 = 10 + d0 := ⟨_, rfl⟩
    obtain rfl : σ' = [some (.ref a), some (nV n0), none, none, none, none, none, none, none, none, none, none] := by rw [← e, e0]; rfl
    clear e
    refine asgN ⟨_, rfl, a, _, 1, nV d1, rfl, rfl, hD, at_n (j := 1) rfl, fun σ' e => ?_⟩
    obtain rfl : σ' = [some (.ref a), some (nV n0), some (nV d1), none, none, none, none, none, none, none, none, none] := e.symm
    clear e
    refine asgN ⟨_, rfl, a, _, 2, nV d2, rfl, rfl, hD, at_n (j := 2) rfl, fun σ' e => ?_⟩
    obtain rfl : σ' = [some (.ref a), some (nV n0), some (nV d1), some (nV d2), none, none, none, none, none, none, none, none] := e.symm
    clear e
    have p1 : n0 * d1 ≤ 24 * 7 := Nat.mul_le_mul (by omega) (by omega)
    have p2 : d1 * d2 ≤ 7 * 7 := Nat.mul_le_mul (by omega) (by omega)
    refine asgN ⟨_, rfl, _, _, rfl, rfl, _, rfl, _, _, rfl, rfl, _, rfl, _, rfl, _, _, rfl, rfl, .inl ⟨by omega, by omega⟩, _, _, rfl, rfl, _, rfl, _, rfl, _, _, rfl, rfl, .inl ⟨by omega, by omega⟩, _, _, rfl, rfl, fun σ' e => ?_⟩
    obtain ⟨rs, ers⟩ : ∃ rs, rs = 1999 - n0 - d1 - n0 * d1 - d1 * d2 := ⟨_, rfl⟩
    obtain rfl : σ' = [some (.ref a), some (nV n0), some (nV d1), some (nV d2), some (nV rs), none, none, none, none, none, none, none] := by
      rw [← e]
      dsimp only [List.set]
      rw [show (1999 : Int) - (n0 : Int) - (d1 : Int) - (n0 : Int) * (d1 : Int) - (d1 : Int) * (d2 : Int) = (rs : Int) by
        have z1 : (n0 : Int) * (d1 : Int) = ((n0 * d1 : Nat) : Int) := by rw [Int.natCast_mul]
        have z2 : (d1 : Int) * (d2 : Int) = ((d1 * d2 : Nat) : Int) := by rw [Int.natCast_mul]
        rw [z1, z2]
        omega]
    clear e
    -- thirds
    obtain ⟨n2, en2⟩ : ∃ n2, n2 = rs / n0 := ⟨_, rfl⟩
    have hn0 : 0 < n0 := by omega
    have dm := Nat.div_add_mod rs n0
    have ml := Nat.mod_lt rs hn0
    rw [← en2] at dm
    have n2l : n2 ≤ 198 := by
      rw [en2]
      have : rs / n0 ≤ rs / 10 := Nat.div_le_div_left (by omega) (by decide)
      omega
    have n2p : 0 < n2 := by
      rw [en2]
      exact Nat.div_pos (by omega) hn0
    refine asgN ⟨_, rfl, _, rfl, _, _, rfl, rfl, ⟨by omega, by omega⟩, fun σ' e => ?_⟩
    obtain rfl : σ' = [some (.ref a), some (nV n0), some (nV d1), some (nV d2), some (nV rs), some (nV n2), none, none, none, none, none, none] := by
      rw [← e, en2]
      dsimp only [List.set]
      rw [show ((rs : Nat) : Int).fdiv ((n0 : Nat) : Int) = ((rs / n0 : Nat) : Int) from (Int.ofNat_fdiv rs n0).symm]
    clear e
    -- shared
    obtain ⟨ad, had, la⟩ := adj4 b3
    refine asgN ⟨_, rfl, _, rfl, _, rfl, _, _, rfl, rfl, .inl ⟨by omega, by omega⟩, _, _, rfl, rfl, (by show 4 ≤ sizeLine; decide), fun m nm => ⟨_, rfl, a, _, 3, nV d3, rfl, rfl, ((Same.refl H).new nm).seq hD, at_n (j := 3) rfl, m, _, d3, nV ad, rfl, rfl, SqL.of upd_same, at_n had, _, _, rfl, rfl, _, _, rfl, rfl, _, _, rfl, fun σ' e => ?_⟩⟩
    have s1 : Same H (upd H m (.lst [V.int 1, V.int 0, V.int 2, V.int 1])) := (Same.refl H).new nm
    generalize upd H m (.lst [V.int 1, V.int 0, V.int 2, V.int 1]) = H1 at s1 ⊢
    obtain ⟨n4, en4, n4l⟩ : ∃ n4 : Nat, (if (rs : Int) - (n0 : Int) * (n2 : Int) + (ad : Int) - 1 > 0 then (rs : Int) - (n0 : Int) * (n2 : Int) + (ad : Int) - 1 else 0) = (n4 : Int) ∧ n4 ≤ 30 := by
      have z1 : (n0 : Int) * (n2 : Int) = ((n0 * n2 : Nat) : Int) := by rw [Int.natCast_mul]
      rw [z1]
      refine ⟨(if ((rs : Int) - ((n0 * n2 : Nat) : Int) + (ad : Int) - 1) > 0 then (rs : Int) - ((n0 * n2 : Nat) : Int) + (ad : Int) - 1 else 0).toNat, ?_, ?_⟩ <;> split <;> omega
    obtain rfl : σ' = [some (.ref a), some (nV n0), some (nV d1), some (nV d2), some (nV rs), some (nV n2), some (nV n4), none, none, none, none, none] := by
      rw [← e]
      dsimp only [List.set]
      rw [en4]
    clear e
    -- groups
    refine asgN ⟨Nat.zero_le _, fun p np σ' e => ?_⟩
    obtain rfl : σ' = [some (.ref a), some (nV n0), some (nV d1), some (nV d2), some (nV rs), some (nV n2), some (nV n4), some (.ref p), none, none, none, none] := e.symm
    clear e
    have s2 : Same H1 (upd H1 p (.lst [])) := (Same.refl H1).new np
    have ep : (upd H1 p (.lst [])) p = some (.lst []) := upd_same
    have npH := s1.free np
    generalize upd H1 p (.lst []) = H2 at s2 ep ⊢
    have s02 := s1.trans s2
    refine ⟨_, rfl, _, rfl, _, rfl, _, rfl, _, rfl, (by show 5 ≤ sizeLine; decide), fun z nz => ⟨_, _, rfl, SqL.of upd_same, ?_⟩⟩
    have s3 : Same H2 (upd H2 z (.lst ([n0, d1, n2, d2, n4].map nV))) := (Same.refl H2).new nz
    have ez : (upd H2 z (.lst ([n0, d1, n2, d2, n4].map nV))) z = some (.lst ([n0, d1, n2, d2, n4].map nV)) := upd_same
    have ep3 := s3 _ _ ep
    have ep2' := ep
    refine for_enumL (K := K) (a := z) (xs := [n0, d1, n2, d2, n4].map nV) (fun i σ H' => ∃ (v8 v9 v10 : Option V) (us : List V), σ = [some (.ref a), some (nV n0), some (nV d1), some (nV d2), some (nV rs), some (nV n2), some (nV n4), some (.ref p), v8, v9, v10, none] ∧ Same H H' ∧ H' z = some (.lst ([n0, d1, n2, d2, n4].map nV)) ∧ H' p = some (.lst us) ∧ RO p H' us (Wd d4 [n0, d1, n2, d2, n4] i))
      ⟨none, none, none, [], rfl, s02.trans s3, ez, ep3, .nil⟩ (fun i σ H' _ ⟨_, _, _, _, _, _, e, _⟩ => SqL.of e) ?_ ?_
    · rintro i x tt σ H4 hx ⟨v8, v9, v10, us, rfl, s4, sz, ep, hW⟩ ntt
      have s5 : Same H4 (upd H4 tt (.tup [nV i, x])) := (Same.refl H4).new ntt
      have ett : (upd H4 tt (.tup [nV i, x])) tt = some (.tup [nV i, x]) := upd_same
      generalize upd H4 tt (.tup [nV i, x]) = H5 at s5 ett ⊢
      obtain ⟨n, hn, rfl⟩ := getn_inv hx
      have li : i < 5 := lt_get hn
      have ep5 := s5 _ _ ep
      have t5 := s4.trans s5
      have hW5 := hW.same s5
      refine ⟨tt, _, rfl, SqT.of ett, rfl, _, _, rfl, _, _, rfl, rfl, ?_⟩
      obtain ⟨cd, ecd⟩ : ∃ cd, cd = (i + d4) % 5 := ⟨_, rfl⟩
      refine asgN ⟨_, rfl, _, rfl, a, _, 4, nV d4, rfl, rfl, t5.seq hD, at_n (j := 4) rfl, _, _, rfl, rfl, .inl ⟨_, rfl, _, _, rfl, rfl, (show (5 : Int) ≠ 0 by decide), fun σ' e => ?_⟩⟩
      obtain rfl : σ' = [some (.ref a), some (nV n0), some (nV d1), some (nV d2), some (nV rs), some (nV n2), some (nV n4), some (.ref p), some (nV i), some (nV n), some (nV cd), none] := by
        rw [← e]
        dsimp only [List.set]
        rw [show ((i : Nat) : Int) + ((d4 : Nat) : Int) = ((i + d4 : Nat) : Int) by omega, show ((i + d4 : Nat) : Int).fmod 5 = ((cd : Nat) : Int) by rw [ecd]; exact (Int.ofNat_fmod (i + d4) 5).symm]
      clear e
      have nl : n ≤ 198 := by
        have := List.mem_of_getElem? hn
        simp only [List.mem_cons, List.not_mem_nil, or_false] at this
        omega
      refine ⟨_, rfl, .inl ⟨rfl, _, SqL.of ep5⟩, _, rfl, _, rfl, (by omega), (by omega), ?_⟩
      rw [show ((n : Nat) : Int).toNat = n by omega]
      refine fun ra nra => ?_
      refine lc_range (lo := 0) (n := n) (fun j H' => Same H5 H' ∧ H' ra = some (.lst (IL (gr j cd)))) ⟨(Same.refl H5).new nra, upd_same⟩ ?_ ?_
      · rintro j H6 hj ⟨s6, er⟩
        rw [show (0 : Int) + (j : Int) = (j : Int) by omega]
        refine ⟨rfl, _, rfl, _, _, rfl, rfl, .inl ⟨by omega, by omega⟩, _, rfl, _, _, rfl, rfl, _, _, rfl, rfl, _, er, ?_, s6.mut nra, ?_⟩
        · unfold IL gr
          rw [List.length_map, List.length_map, List.length_range]
          exact szl (by omega)
        · rw [upd_same, gr_more, IL_snoc]
      rintro H6 ⟨s6, er⟩
      have ep6 := s6 _ _ ep5
      have nap : ra ≠ p := fun e => by
        rw [e, ep5] at nra
        cases nra
      refine ⟨p, _, _, rfl, rfl, ep6, ?_, ?_⟩
      · rw [P_len hW]
        unfold Wd
        rw [List.length_map, List.length_range]
        exact szl (by omega)
      refine ⟨_, _, _, us ++ [.ref ra], rfl, (t5.trans s6).mut npH, ?_, upd_same, ?_⟩
      · rw [upd_ne (fun e => by rw [e, ep2'] at nz; cases nz)]
        exact s6 _ _ (s5 _ _ sz)
      · rw [Wd_more]
        refine P_append ((hW5.same s6).up) (.cons ⟨ra, rfl, nap, ?_⟩ .nil)
        rw [upd_ne nap, er, show ([n0, d1, n2, d2, n4] : List Nat).getD i 0 = n by rw [List.getD_eq_getElem?_getD, hn]; rfl, ecd]
    · rintro σ H4 ⟨v8, v9, v10, us, rfl, s4, sz, ep, hW⟩
      exact ⟨_, rfl, q p us d4 n0 d1 n2 d2 n4 H4 s4 npH ep hW.ll b4 hn0 n2p (by omega) (by omega) n2l (by omega) n4l⟩
end
end K25W

namespace K25W
open PySem PySem.Spec PyProof.Rows L2 KH KD KP K25 LamX NdefX
abbrev s_law_wide_due : Stmt := topS 25
theorem sc_law_wide_due : FnScope ["groups", "cap", "looked", "pairs", "one", "two", "number", "due", "other"] ["groups", "cap"] (defScope s_law_wide_due) := ⟨rfl, rfl, rfl, by decide +kernel, rfl, by decide +kernel, by decide +kernel⟩

theorem sort2 {x y : Int} {ns : Lot} (ne : x ≠ y) (pm : ns.Perm [x, y]) (pw : ns.Pairwise (· ≤ ·)) : ns = ins y [x] := by
  have nd : ns.Nodup := pm.nodup_iff.mpr (List.nodup_cons.mpr ⟨fun z => ne (List.mem_singleton.mp z), List.pairwise_singleton _ _⟩)
  have no : y ∉ [x] := fun z => ne (List.mem_singleton.mp z).symm
  refine asc_ext ?_ (ins_asc (List.pairwise_singleton _ _) no) fun z => ?_
  · exact List.Pairwise.imp (fun {a b} h => by
      obtain ⟨h1, h2⟩ := h
      have h2 : a ≠ b := h2
      omega) (List.pairwise_and_iff.mpr ⟨pw, nd⟩)
  · rw [pm.mem_iff, mem_two]
    simp
theorem ls_dp {K : PySem.W.Frag} {H : Hp} : ∀ {us : List V} {L : List Lot}, LS K H us L → DpAll K H us (L.map (PySem.W.Datum.toD (α := List Int)))
  | _, _, .nil => .nil
  | _, T :: L, .cons ⟨a, e, q⟩ r => by
    subst e
    exact .cons (dpL q) (ls_dp r)
theorem ls_of {K : PySem.W.Frag} {H : Hp} : ∀ {L : List Lot} {us : List V}, DpAll K H us (L.map (PySem.W.Datum.toD (α := List Int))) → LS K H us L
  | [], _, h => by cases h; exact .nil
  | T :: L, _, h => by
    cases h with
    | cons h1 h2 => cases h1 with
      | lst a b => exact .cons ⟨_, rfl, by rw [← dpall_ints b]; exact a⟩ (ls_of h2)
theorem prs_more {X Y : Lot} {i : Nat} {x : Int} (h : X[i]? = some x) : prs (X.take (i + 1)) Y = prs (X.take i) Y ++ Y.map fun y => ins y [x] := by
  unfold prs
  rw [take_more h, List.flatMap_append]
  simp
theorem prs_take_len (X Y : Lot) (i : Nat) : (prs (X.take i) Y).length ≤ X.length * Y.length := by
  rw [prs_len]
  exact Nat.mul_le_mul_right _ (by rw [List.length_take]; omega)
section
variable {P : Program} {w : World} {K : PySem.W.Frag} {mg : Str → Option Value} {base : Heap} {CN CB CT fJ : Addr}
/-- pairs -/
def pw3 (A B C D : Lot) (cap : Nat) : List Lot := if 1 < cap then prs A B ++ (prs A C ++ prs B D) else []
def sp_wdue (K : PySem.W.Frag) : Sp := fun vs H Q _ => ∃ (g : Addr) (cap : Nat) (us : List V) (A B C D E : Lot), vs = [.ref g, nV cap] ∧ SqL K H g us ∧ LS K H us [A, B, C, D, E] ∧ A.length ≤ 24 ∧ B.length ≤ 7 ∧ C.length ≤ 198 ∧ D.length ≤ 7 ∧ E.length ≤ 30 ∧
  (∀ x ∈ A, ∀ y ∈ B, x ≠ y) ∧ (∀ x ∈ A, ∀ y ∈ C, x ≠ y) ∧ (∀ x ∈ B, ∀ y ∈ D, x ≠ y) ∧
  (2000 < 1 + (if 0 < cap then A.length + (B.length + E.length) else 0) + (pw3 A B C D cap).length → ∀ t H', Same H H' → H' t = some (.tup [.str "refused", .str "lots", .int 2000]) → Q (.ref t) H') ∧
  (1 + (if 0 < cap then A.length + (B.length + E.length) else 0) + (pw3 A B C D cap).length ≤ 2000 → ∀ t r us H', Same H H' → H' t = some (.tup [.str "told", .ref r]) → H' r = some (.lst us) → LS K H' us ((if 0 < cap then sgl E else []) ++ sortS (pw3 A B C D cap)) → Q (.ref t) H')
theorem ok_wdue {f : Addr} {fd : FuncData} (F : Fun K "_law_wide_due" "_law_wide_due" s_law_wide_due f fd) (T : Txt mg) : FnOk P w K mg base CX0 1 f fd ["groups", "cap"] (sp_wdue K) := by
  refine F.ok sc_law_wide_due (fun vs H Q E h => ?_) (fun cdv A outer s H vs Q E hr h => ?_)
  · obtain ⟨g, cap, us, A, B, C, D, E, rfl, _⟩ := h
    rfl
  · obtain ⟨g, cap, us, A', B, C, D, E', rfl, hG, hL, lA, lB, lC, lD, lE, ab, ac, bd, q1, q2⟩ := h
    refine ⟨_, (pss_cons (ps_set (i := 2) sc_law_wide_due.nd rfl (.inl rfl) pe_int)
 (pss_cons (ps_if (pt_cmpR op_gt (pv 1) pe_int (nomark _))
 (pss_one (ps_set (i := 2) sc_law_wide_due.nd rfl (.inl rfl) (pe_op op_add (pe_op op_add (pe_op op_add (pv 2) (pe_callB call_len_seq (by rfl) T.len (by decide +kernel) (pa_cons (pe_ix ix_list (pv 0) pe_int (fun _ _ => rfl)) pa_nil))) (pe_callB call_len_seq (by rfl) T.len (by decide +kernel) (pa_cons (pe_ix ix_list (pv 0) pe_int (fun _ _ => rfl)) pa_nil))) (pe_callB call_len_seq (by rfl) T.len (by decide +kernel) (pa_cons (pe_ix ix_list (pv 0) pe_int (fun _ _ => rfl)) pa_nil)))))
 pss_nil)
 (pss_cons (ps_set (i := 3) sc_law_wide_due.nd rfl (.inl rfl) (pe_lst pa_nil))
 (pss_cons (ps_if (pt_cmpR op_gt (pv 1) pe_int (nomark _))
 (pss_one (ps_for PassesOwn.never rfl (pi_list (pe_lst (pa_cons (pe_tup (pa_cons pe_int (pa_cons pe_int pa_nil))) (pa_cons (pe_tup (pa_cons pe_int (pa_cons pe_int pa_nil))) (pa_cons (pe_tup (pa_cons pe_int (pa_cons pe_int pa_nil))) pa_nil))))) (pg_tup rfl (pgs_cons (pg_name (i := 4) sc_law_wide_due.nd rfl (.inl rfl)) (pgs_cons (pg_name (i := 5) sc_law_wide_due.nd rfl (.inl rfl)) pgs_nil)))
 (pss_one (ps_for PassesOwn.never rfl (pi_list (pe_ix ix_list (pv 0) (pv 4) (fun _ _ => rfl))) (pg_name (i := 6) sc_law_wide_due.nd rfl (.inr rfl))
 (pss_one (ps_expr (pe_bm PySem.F.plainAttrs_list PySem.F.slot_list_extend PySem.F.type_list_extend mt_extend (pv 3) (pa_cons (pe_lc (own := [("other", 8)]) (g := gName 8) (tt := tYes) rfl sc_law_wide_due.nd (pi_list (pe_ix ix_list (pv 0) (pv 5) (fun _ _ => rfl))) (blkOk_by (N := ["groups", "cap", "looked", "pairs", "one", "two", "number", "due", "other"]) (sc := defScope s_law_wide_due) (by decide +kernel)) (fun _ _ _ _ _ => (pg_name (i := 8) sc_law_wide_due.nd rfl (.inl rfl))) (fun _ _ _ _ _ => pts_nil) (fun _ _ _ _ _ => (pe_callB (r := rSortedI K) cr_sortedI (by rfl) T.sorted (by decide +kernel) (pa_cons (pe_lst (pa_cons (pv 6) (pa_cons (pv 8) pa_nil))) pa_nil)))) pa_nil))))))))
 pss_nil)
 (pss_cons (ps_if (pt_cmpR op_gt (pe_op op_add (pv 2) (pe_callB call_len_seq (by rfl) T.len (by decide +kernel) (pa_cons (pv 3) pa_nil))) pe_int (nomark _))
 (pss_one (ps_ret (pe_tup (pa_cons pe_str (pa_cons pe_str (pa_cons pe_int pa_nil))))))
 pss_nil)
 (pss_cons (ps_set (i := 7) sc_law_wide_due.nd rfl (.inl rfl) (pe_lst pa_nil))
 (pss_cons (ps_if (pt_cmpR op_gt (pv 1) pe_int (nomark _))
 (pss_one (ps_setLc (i := 7) (own := [("number", 6)]) (g := gName 6) (tt := tYes) rfl sc_law_wide_due.nd rfl rfl (sw_true rfl rfl rfl (by decide +kernel)) (pi_list (pe_ix ix_list (pv 0) pe_int (fun _ _ => rfl))) (blkOk_by (N := ["groups", "cap", "looked", "pairs", "one", "two", "number", "due", "other"]) (sc := defScope s_law_wide_due) (by decide +kernel)) (fun _ _ _ _ _ => (pg_name (i := 6) sc_law_wide_due.nd rfl (.inl rfl))) (fun _ _ _ _ _ => pts_nil) (fun _ _ _ _ _ => (pe_lst (pa_cons (pv 6) pa_nil)))))
 pss_nil)
 (pss_one (ps_ret (pe_tup (pa_cons pe_str (pa_cons (pe_op op_cat (pv 7) (pe_callB (cr_sortedA (List Int) hr.units (by decide) sortL) (by rfl) T.sorted (by decide +kernel) (pa_cons (pv 3) pa_nil))) pa_nil)))))))))))), ?_⟩
    have il : ∀ l : Lot, (IL l).length = l.length := fun l => by unfold IL; rw [List.length_map]
    cases hL with | @cons _ _ _ _ hA hL => cases hL with | @cons _ _ _ _ hB hL => cases hL with | @cons _ _ _ _ hC hL => cases hL with | @cons _ _ _ _ hD hL => cases hL with | @cons _ _ _ _ hE hL => cases hL with | nil =>
    obtain ⟨aA, rfl, hA⟩ := hA
    obtain ⟨aB, rfl, hB⟩ := hB
    obtain ⟨aC, rfl, hC⟩ := hC
    obtain ⟨aD, rfl, hD⟩ := hD
    obtain ⟨aE, rfl, hE⟩ := hE
    refine asgN fun σ' e => ?_
    obtain rfl : σ' = [some (.ref g), some (nV cap), some (nV 1), none, none, none, none, none, none] := e.symm
    clear e
    -- looked
    refine seqM (fun σ H' => H = H' ∧ σ = [some (.ref g), some (nV cap), some (nV (1 + (if 0 < cap then A'.length + (B.length + E'.length) else 0))), none, none, none, none, none, none]) (fun N qN => ?_) ?_
    · refine Dc.ifS (b := decide (0 < cap)) (fun Q q => ⟨_, rfl, _, _, rfl, rfl, _, rfl, by rw [show decide ((0 : Int) < (cap : Int)) = decide (0 < cap) from decide_eq_decide.mpr (by omega)]; exact q⟩) (fun hc => ?_) (fun hc => ?_)
      · refine ⟨_, rfl, _, rfl, g, _, 0, .ref aA, rfl, rfl, hG, at_n (j := 0) rfl, aA, _, rfl, .inl hA, _, _, rfl, rfl, _, rfl, g, _, 1, .ref aB, rfl, rfl, hG, at_n (j := 1) rfl, aB, _, rfl, .inl hB, _, _, rfl, rfl, _, rfl, g, _, 4, .ref aE, rfl, rfl, hG, at_n (j := 4) rfl, aE, _, rfl, .inl hE, _, _, rfl, rfl, qN _ _ ⟨rfl, ?_⟩⟩
        rw [if_pos (of_decide_eq_true hc), il, il, il]
        dsimp only
        rw [show ((1 : Nat) : Int) + (A'.length : Int) + (B.length : Int) + (E'.length : Int) = ((1 + (A'.length + (B.length + E'.length)) : Nat) : Int) by omega]
        rfl
      · exact qN _ _ ⟨rfl, by rw [if_neg (of_decide_eq_false hc)]⟩
    rintro σ _ ⟨rfl, rfl⟩
    generalize eLk : 1 + (if 0 < cap then A'.length + (B.length + E'.length) else 0) = lk at *
    refine asgN ⟨Nat.zero_le _, fun p np σ' e => ?_⟩
    obtain rfl : σ' = [some (.ref g), some (nV cap), some (nV lk), some (.ref p), none, none, none, none, none] := e.symm
    clear e
    have s1 : Same H (upd H p (.lst [])) := (Same.refl H).new np
    have ep : (upd H p (.lst [])) p = some (.lst []) := upd_same
    generalize upd H p (.lst []) = H1 at s1 ep ⊢
    -- pairs
    refine seqM (fun σ H' => ∃ (v4 v5 v6 : Option V) (ws : List V), σ = [some (.ref g), some (nV cap), some (nV lk), some (.ref p), v4, v5, v6, none, none] ∧ Same H H' ∧ H' p = some (.lst ws) ∧ RO p H' ws (pw3 A' B C D cap)) (fun N qN => ?_) ?_
    · refine Dc.ifS (b := decide (1 < cap)) (fun Q q => ⟨_, rfl, _, _, rfl, rfl, _, rfl, by rw [show decide ((1 : Int) < (cap : Int)) = decide (1 < cap) from decide_eq_decide.mpr (by omega)]; exact q⟩) (fun hc => ?_) (fun hc => ?_)
      · have hc := of_decide_eq_true hc
        refine ⟨sp2, fun t1 n1 => ⟨sp2, fun t2 n2 => ⟨sp2, fun t3 n3 => ⟨(by show 3 ≤ sizeLine; decide), fun z nz => ⟨z, rfl, ⟨_, SqL.of upd_same⟩, ?_⟩⟩⟩⟩⟩
        obtain ⟨H3, e3⟩ : ∃ H3, H3 = upd (upd (upd (upd H1 t1 (.tup [V.int 0, V.int 1])) t2 (.tup [V.int 0, V.int 2])) t3 (.tup [V.int 1, V.int 3])) z (.lst [.ref t1, .ref t2, .ref t3]) := ⟨_, rfl⟩
        rw [← e3]
        have a1 : Same H1 (upd H1 t1 (.tup [V.int 0, V.int 1])) := (Same.refl H1).new n1
        have a2 := (Same.refl (upd H1 t1 (.tup [V.int 0, V.int 1]))).new (o := .tup [V.int 0, V.int 2]) n2
        have a3 := (Same.refl (upd (upd H1 t1 (.tup [V.int 0, V.int 1])) t2 (.tup [V.int 0, V.int 2]))).new (o := .tup [V.int 1, V.int 3]) n3
        have a4 := (Same.refl (upd (upd (upd H1 t1 (.tup [V.int 0, V.int 1])) t2 (.tup [V.int 0, V.int 2])) t3 (.tup [V.int 1, V.int 3]))).new (o := .lst [.ref t1, .ref t2, .ref t3]) nz
        rw [← e3] at a4
        have s13 : Same H1 H3 := ((a1.trans a2).trans a3).trans a4
        have et1 : H3 t1 = some (.tup [nV 0, nV 1]) := a4 _ _ (a3 _ _ (a2 _ _ upd_same))
        have et2 : H3 t2 = some (.tup [nV 0, nV 2]) := a4 _ _ (a3 _ _ upd_same)
        have et3 : H3 t3 = some (.tup [nV 1, nV 3]) := a4 _ _ upd_same
        have ez : H3 z = some (.lst [.ref t1, .ref t2, .ref t3]) := by rw [e3]; exact upd_same
        have ep3 := s13 _ _ ep
        have n1p : t1 ≠ p := Ne.symm (ne_of_none ep n1)
        have n2p : t2 ≠ p := Ne.symm (ne_of_none (a1 _ _ ep) n2)
        have n3p : t3 ≠ p := Ne.symm (ne_of_none ((a1.trans a2) _ _ ep) n3)
        have nzp : z ≠ p := Ne.symm (ne_of_none (((a1.trans a2).trans a3) _ _ ep) nz)
        clear e3 a1 a2 a3 a4
        have s03 := s1.trans s13
        obtain ⟨pt, p0, p1, p2, p3⟩ : ∃ pt : Nat → List Lot, pt 0 = [] ∧ pt 1 = pt 0 ++ prs A' B ∧ pt 2 = pt 1 ++ prs A' C ∧ pt 3 = pt 2 ++ prs B D := ⟨fun i => match i with | 0 => [] | 1 => prs A' B | 2 => prs A' B ++ prs A' C | _ => prs A' B ++ prs A' C ++ prs B D, rfl, rfl, rfl, rfl⟩
        have l1 : A'.length * B.length ≤ 24 * 7 := Nat.mul_le_mul lA lB
        have l2 : A'.length * C.length ≤ 24 * 198 := Nat.mul_le_mul lA lC
        have l3 : B.length * D.length ≤ 7 * 7 := Nat.mul_le_mul lB lD
        have q0 : (pt 0).length = 0 := by rw [p0]; rfl
        have q1' : (pt 1).length = A'.length * B.length := by rw [p1, List.length_append, q0, prs_len]; omega
        have q2' : (pt 2).length = A'.length * B.length + A'.length * C.length := by rw [p2, List.length_append, q1', prs_len]
        have sam : ∀ {H' : Hp}, StN0 H3 H' p p → Same H H' := fun st c o hc => st c o (s03 c o hc) (ne_of_none hc np) (ne_of_none hc np)
        have keep : ∀ {H' : Hp}, StN0 H3 H' p p → ∀ {a : Addr} {xs : List V}, SqL K H a xs → SqL K H' a xs := fun st _ _ h => (sam st).seq h
        refine for_list (K := K) (a := z) (xs := [.ref t1, .ref t2, .ref t3]) (fun i σ H' => ∃ (v4 v5 v6 : Option V) (ws : List V), σ = [some (.ref g), some (nV cap), some (nV lk), some (.ref p), v4, v5, v6, none, none] ∧ StN0 H3 H' p p ∧ H' p = some (.lst ws) ∧ RO p H' ws (pt i))
          ⟨_, _, _, [], rfl, StN0.refl _ _ _, ep3, by rw [p0]; exact .nil⟩ (fun i σ H' _ ⟨_, _, _, _, _, st, _⟩ => SqL.of (st _ _ ez nzp nzp)) ?_ ?_
        · rintro i x σ H4 hx ⟨v4, v5, v6, ws, rfl, st, ep4, hW⟩
          obtain ⟨o, t, tt, X, Y, ax, ay, rfl, ett, ntp, ho, ht, hX, hY, ap, lX, lY, pe, pl⟩ : ∃ (o t : Nat) (tt : Addr) (X Y : Lot) (ax ay : Addr), x = .ref tt ∧ H3 tt = some (.tup [nV o, nV t]) ∧ tt ≠ p ∧ [V.ref aA, .ref aB, .ref aC, .ref aD, .ref aE][o]? = some (.ref ax) ∧ [V.ref aA, .ref aB, .ref aC, .ref aD, .ref aE][t]? = some (.ref ay) ∧ SqL K H ax (IL X) ∧ SqL K H ay (IL Y) ∧ (∀ x ∈ X, ∀ y ∈ Y, x ≠ y) ∧ X.length ≤ 24 ∧ Y.length ≤ 198 ∧ pt (i + 1) = pt i ++ prs X Y ∧ (pt i).length + X.length * Y.length ≤ 9000 := by
            match i, hx with
            | 0, hx => exact ⟨0, 1, t1, A', B, aA, aB, (Option.some.inj hx).symm, et1, n1p, rfl, rfl, hA, hB, ab, lA, by omega, p1, by omega⟩
            | 1, hx => exact ⟨0, 2, t2, A', C, aA, aC, (Option.some.inj hx).symm, et2, n2p, rfl, rfl, hA, hC, ac, lA, lC, p2, by omega⟩
            | 2, hx => exact ⟨1, 3, t3, B, D, aB, aD, (Option.some.inj hx).symm, et3, n3p, rfl, rfl, hB, hD, bd, by omega, by omega, p3, by omega⟩
            | _ + 3, hx => cases hx
          refine ⟨tt, _, rfl, SqT.of (st _ _ ett ntp ntp), rfl, _, _, rfl, _, _, rfl, rfl, ?_⟩
          refine ⟨_, rfl, _, rfl, g, _, o, .ref ax, rfl, rfl, keep st hG, at_n ho, ax, rfl, ⟨_, keep st hX⟩, for_list (K := K) (a := ax) (xs := IL X) (fun j σ H' => ∃ (v6 : Option V) (ws : List V), σ = [some (.ref g), some (nV cap), some (nV lk), some (.ref p), some (nV o), some (nV t), v6, none, none] ∧ StN0 H3 H' p p ∧ H' p = some (.lst ws) ∧ RO p H' ws (pt i ++ prs (X.take j) Y))
            ⟨v6, ws, rfl, st, ep4, by rw [show prs (X.take 0) Y = [] from rfl, List.append_nil]; exact hW⟩ (fun j σ H' _ ⟨_, _, _, st, _⟩ => keep st hX) ?_ ?_⟩
          · rintro j xv σ H5 hx ⟨v6, ws, rfl, st, ep5, hW⟩
            obtain ⟨x, hxx, rfl⟩ := getn_inv hx
            refine ⟨_, rfl, .inl ⟨rfl, _, SqL.of ep5⟩, _, rfl, _, rfl, g, _, t, .ref ay, rfl, rfl, keep st hG, at_n ht, ay, rfl, ⟨_, keep st hY⟩, fun ra nra => ?_⟩
            have nrp : ra ≠ p := Ne.symm (ne_of_none ep5 nra)
            refine lc_list (K := K) (a := ay) (xs := IL Y) (fun m H' => ∃ vs, Same H5 H' ∧ H' ra = some (.lst vs) ∧ RX p ra H' vs ((Y.take m).map fun y => ins y [x])) ⟨[], (Same.refl H5).new nra, upd_same, .nil⟩ (fun m H' _ ⟨_, s5, _⟩ => s5.seq (keep st hY)) ?_ ?_
            · rintro m yv H6 hy ⟨vs, s6, er, hV⟩
              obtain ⟨y, hyy, rfl⟩ := getn_inv hy
              have ne := ap x (List.mem_of_getElem? hxx) y (List.mem_of_getElem? hyy)
              refine ⟨rfl, _, rfl, _, rfl, sp2, fun z1 nz1 => ⟨z1, [x, y], rfl, SqL.of upd_same, fun ns z2 pm pw nz2 => ?_⟩⟩
              rw [sort2 ne pm pw]
              have b1 : Same H6 (upd H6 z1 (.lst [V.int x, V.int y])) := (Same.refl H6).new nz1
              generalize upd H6 z1 (.lst [V.int x, V.int y]) = H7 at b1 nz2 ⊢
              have b2 : Same H7 (upd H7 z2 (.lst (IL (ins y [x])))) := (Same.refl H7).new nz2
              have ez2 : (upd H7 z2 (.lst (IL (ins y [x])))) z2 = some (.lst (IL (ins y [x]))) := upd_same
              have b12 := b1.trans b2
              have z2r : z2 ≠ ra := Ne.symm (ne_of_none (b1 _ _ er) nz2)
              have z2p : z2 ≠ p := Ne.symm (ne_of_none (b1 _ _ (s6 _ _ ep5)) nz2)
              show ∃ acc, (upd H7 z2 (.lst (IL (ins y [x])))) ra = _ ∧ _
              generalize upd H7 z2 (.lst (IL (ins y [x]))) = H8 at b2 ez2 b12 ⊢
              refine ⟨vs, b12 _ _ er, ?_, vs ++ [.ref z2], (s6.trans b12).mut nra, upd_same, ?_⟩
              · rw [P_len hV, List.length_map]
                exact szl (Nat.le_trans (List.length_take_le' _ _) (by omega))
              · rw [take_more hyy, List.map_append]
                exact P_append ((hV.same b12).updY) (.cons ⟨z2, rfl, z2p, z2r, by rw [upd_ne z2r]; exact ez2⟩ .nil)
            rintro H6 ⟨vs, s6, er, hV⟩
            rw [il, List.take_length] at hV
            have ep6 := s6 _ _ ep5
            have wsl : ws.length ≤ (pt i).length + X.length * Y.length := by
              rw [P_len hW, List.length_append]
              have := prs_take_len X Y j
              omega
            have vsl : vs.length ≤ 198 := by
              rw [P_len hV, List.length_map]
              exact lY
            refine ⟨p, ra, _, _, rfl, rfl, ep6, er, szle (by omega), _, ws ++ vs, rfl, ?_, upd_same, ?_⟩
            · exact fun c o hc n m => by rw [upd_ne n]; exact s6 _ _ (st c o hc n m)
            · rw [prs_more hxx, ← List.append_assoc]
              exact P_append ((hW.same s6).up) (P_mono (fun _ _ ⟨a, e, n, _, q⟩ => ⟨a, e, n, by rw [upd_ne n]; exact q⟩) hV)
          · rintro σ H5 ⟨v6, ws, rfl, st, ep5, hW⟩
            rw [il, List.take_length, ← pe] at hW
            exact ⟨_, _, _, ws, rfl, st, ep5, hW⟩
        · rintro σ H4 ⟨v4, v5, v6, ws, rfl, st, ep4, hW⟩
          refine qN _ _ ⟨_, _, _, ws, rfl, sam st, ep4, ?_⟩
          · unfold pw3
            rw [if_pos hc, ← List.append_assoc]
            have : pt 3 = prs A' B ++ prs A' C ++ prs B D := by rw [p3, p2, p1, p0, List.nil_append]
            rw [← this]
            exact hW
      · exact qN _ _ ⟨_, _, _, [], rfl, s1, ep, by unfold pw3; rw [if_neg (of_decide_eq_false hc)]; exact .nil⟩
    rintro σ H2 ⟨v4, v5, v6, ws, rfl, s2, ep, hW⟩
    have wl : ws.length = (pw3 A' B C D cap).length := P_len hW
    have pl : (pw3 A' B C D cap).length ≤ 9000 := by
      unfold pw3
      split
      · rw [List.length_append, List.length_append, prs_len, prs_len, prs_len]
        have l1 : A'.length * B.length ≤ 24 * 7 := Nat.mul_le_mul lA lB
        have l2 : A'.length * C.length ≤ 24 * 198 := Nat.mul_le_mul lA lC
        have l3 : B.length * D.length ≤ 7 * 7 := Nat.mul_le_mul lB lD
        omega
      · exact Nat.zero_le _
    refine Dc.ifS (b := decide (2000 < lk + (pw3 A' B C D cap).length)) (fun Q q => ⟨_, rfl, _, rfl, p, _, rfl, .inl (SqL.of ep), _, _, rfl, rfl, _, _, rfl, rfl, _, rfl, by rw [wl, show decide ((2000 : Int) < (lk : Int) + ((pw3 A' B C D cap).length : Int)) = decide (2000 < lk + (pw3 A' B C D cap).length) from decide_eq_decide.mpr (by omega)]; exact q⟩) (fun hb => ?_) (fun hb => ?_)
    · refine ⟨(by show 3 ≤ sizeLine; decide), fun t nt => ?_⟩
      exact q1 (of_decide_eq_true hb) t _ (s2.new nt) upd_same
    refine nextS ?_
    have hb := of_decide_eq_false hb
    refine asgN ⟨Nat.zero_le _, fun d nd σ' e => ?_⟩
    obtain rfl : σ' = [some (.ref g), some (nV cap), some (nV lk), some (.ref p), v4, v5, v6, some (.ref d), none] := e.symm
    clear e
    have s3 : Same H2 (upd H2 d (.lst [])) := (Same.refl H2).new nd
    have ed : (upd H2 d (.lst [])) d = some (.lst []) := upd_same
    have hW3 := hW.same s3
    have ep3 := s3 _ _ ep
    have t3 := s2.trans s3
    generalize upd H2 d (.lst []) = H3 at s3 ed hW3 ep3 t3 ⊢
    refine seqM (fun σ H' => ∃ (d : Addr) (ds : List V), σ = [some (.ref g), some (nV cap), some (nV lk), some (.ref p), v4, v5, v6, some (.ref d), none] ∧ Same H H' ∧ H' p = some (.lst ws) ∧ RO p H' ws (pw3 A' B C D cap) ∧ H' d = some (.lst ds) ∧ LS K H' ds (if 0 < cap then sgl E' else [])) (fun N qN => ?_) ?_
    · refine Dc.ifS (b := decide (0 < cap)) (fun Q q => ⟨_, rfl, _, _, rfl, rfl, _, rfl, by rw [show decide ((0 : Int) < (cap : Int)) = decide (0 < cap) from decide_eq_decide.mpr (by omega)]; exact q⟩) (fun hc => ?_) (fun hc => ?_)
      · refine ⟨_, rfl, g, _, 4, .ref aE, rfl, rfl, t3.seq hG, at_n (j := 4) rfl, aE, rfl, ⟨_, t3.seq hE⟩, fun ra nra => ?_⟩
        have nrp : ra ≠ p := Ne.symm (ne_of_none ep3 nra)
        refine lc_list (K := K) (a := aE) (xs := IL E') (fun m H' => ∃ vs, Same H3 H' ∧ H' ra = some (.lst vs) ∧ RX p ra H' vs (sgl (E'.take m))) ⟨[], (Same.refl H3).new nra, upd_same, .nil⟩ (fun m H' _ ⟨_, s5, _⟩ => (t3.trans s5).seq hE) ?_ ?_
        · rintro m yv H6 hy ⟨vs, s6, er, hV⟩
          obtain ⟨y, hyy, rfl⟩ := getn_inv hy
          refine ⟨rfl, _, rfl, (by show 1 ≤ sizeLine; decide), fun z1 nz1 => ?_⟩
          have b1 : Same H6 (upd H6 z1 (.lst [V.int y])) := (Same.refl H6).new nz1
          have ez1 : (upd H6 z1 (.lst [V.int y])) z1 = some (.lst (IL [y])) := upd_same
          have z1r : z1 ≠ ra := Ne.symm (ne_of_none er nz1)
          have z1p : z1 ≠ p := Ne.symm (ne_of_none (s6 _ _ ep3) nz1)
          generalize upd H6 z1 (.lst [V.int y]) = H7 at b1 ez1 ⊢
          refine ⟨vs, b1 _ _ er, ?_, vs ++ [.ref z1], (s6.trans b1).mut nra, upd_same, ?_⟩
          · rw [P_len hV]
            unfold sgl
            rw [List.length_map]
            exact szl (Nat.le_trans (List.length_take_le' _ _) (by omega))
          · unfold sgl
            rw [take_more hyy, List.map_append]
            exact P_append ((hV.same b1).updY) (.cons ⟨z1, rfl, z1p, z1r, by rw [upd_ne z1r]; exact ez1⟩ .nil)
        rintro H6 ⟨vs, s6, er, hV⟩
        rw [il, List.take_length] at hV
        refine qN _ _ ⟨ra, vs, rfl, t3.trans s6, s6 _ _ ep3, hW3.same s6, er, ?_⟩
        rw [if_pos (of_decide_eq_true hc)]
        exact hV.ls
      · exact qN _ _ ⟨d, [], rfl, t3, ep3, hW3, ed, by rw [if_neg (of_decide_eq_false hc)]; exact .nil⟩
    rintro σ H4 ⟨d, ds, rfl, s4, ep4, hW4, ed4, hD4⟩
    have hP : LS K H4 ws (pw3 A' B C D cap) := P_mono (fun _ _ ⟨a, e, _, q⟩ => ⟨a, e, SqL.of q⟩) hW4
    refine ⟨_, rfl, _, rfl, p, ws, pw3 A' B C D cap, rfl, SqL.of ep4, ls_dp hP, fun ys r dy my nr => ?_⟩
    rw [sort_L] at dy
    have b1 : Same H4 (upd H4 r (.lst ys)) := (Same.refl H4).new nr
    have er : (upd H4 r (.lst ys)) r = some (.lst ys) := upd_same
    have hY : LS K (upd H4 r (.lst ys)) ys (sortS (pw3 A' B C D cap)) := (ls_of dy).same b1
    generalize upd H4 r (.lst ys) = H5 at b1 er hY ⊢
    have dl : ds.length ≤ 30 := by
      rw [P_len hD4]
      split
      · unfold sgl
        rw [List.length_map]
        exact lE
      · exact Nat.zero_le _
    refine ⟨d, r, _, _, rfl, rfl, b1 _ _ ed4, er, ?_, fun v nv => ⟨sp2, fun t nt => ?_⟩⟩
    · rw [P_len hY, sortS_len]
      exact szle (by omega)
    have b2 : Same H5 (upd H5 v (.lst (ds ++ ys))) := (Same.refl H5).new nv
    have b3 := (Same.refl (upd H5 v (.lst (ds ++ ys)))).new (o := .tup [.str "told", .ref v]) nt
    exact q2 (by omega) t v (ds ++ ys) _ ((s4.trans b1).trans (b2.trans b3)) upd_same (b3 _ _ upd_same) (P_append (hD4.same (b1.trans (b2.trans b3))) (hY.same (b2.trans b3)))
end
end K25W

namespace K25W
open PySem PySem.Spec PyProof.Rows L2 KH KD KP K25 LamX NdefX
/-! ### the groups, by their rests by five -/
def kd (d : Nat) (x : Int) : Nat := if (x - d) % 5 = 0 then 1 else if (x - d) % 5 = 1 then 10 else if (x - d) % 5 = 2 then 1000 else if (x - d) % 5 = 3 then 10000 else 100000
theorem mem_gr {n c : Nat} {x : Int} (h : x ∈ gr n c) : ∃ j : Nat, j < n ∧ x = 5 * (j : Int) + (c : Int) - 40 := by
  unfold gr at h
  obtain ⟨j, hj, e⟩ := List.mem_map.mp h
  exact ⟨j, List.mem_range.mp hj, e.symm⟩
theorem gr_asc (n c : Nat) : Asc (gr n c) := by
  unfold gr Asc
  rw [List.pairwise_map]
  exact List.Pairwise.imp (fun {a b} h => by omega) List.pairwise_lt_range
theorem gr_len (n c : Nat) : (gr n c).length = n := by
  unfold gr
  rw [List.length_map, List.length_range]
theorem gr_kd {n d k : Nat} {x : Int} (h : x ∈ gr n ((k + d) % 5)) (hk : k < 5) : (x - d) % 5 = k := by
  obtain ⟨j, _, rfl⟩ := mem_gr h
  omega
theorem gr_ne {n c : Nat} (h : 0 < n) : gr n c ≠ [] := fun e => by
  have := gr_len n c
  rw [e] at this
  simp at this
  omega
section
variable {d n0 n1 n2 n3 n4 : Nat} {S1 S2 S3 : Lot}
theorem wide_sys (h1 : ∀ x, x ∈ S1 ↔ x ∈ gr n0 ((0 + d) % 5) ++ gr n1 ((1 + d) % 5) ++ gr n4 ((4 + d) % 5)) (h2 : ∀ x, x ∈ S2 ↔ x ∈ gr n1 ((1 + d) % 5) ++ gr n2 ((2 + d) % 5) ++ gr n4 ((4 + d) % 5)) (h3 : ∀ x, x ∈ S3 ↔ x ∈ gr n0 ((0 + d) % 5) ++ gr n3 ((3 + d) % 5) ++ gr n4 ((4 + d) % 5)) :
    Sys (kd d) (gr n0 ((0 + d) % 5)) (gr n1 ((1 + d) % 5)) [] (gr n2 ((2 + d) % 5)) (gr n3 ((3 + d) % 5)) (gr n4 ((4 + d) % 5)) S1 S2 S3 where
  a x hx := by
    have := gr_kd hx (by decide)
    unfold kd
    rw [this]
    rfl
  b x hx := by
    have := gr_kd hx (by decide)
    unfold kd
    rw [this]
    rfl
  o x hx := by cases hx
  c x hx := by
    have := gr_kd hx (by decide)
    unfold kd
    rw [this]
    rfl
  d x hx := by
    have := gr_kd hx (by decide)
    unfold kd
    rw [this]
    rfl
  e x hx := by
    have := gr_kd hx (by decide)
    unfold kd
    rw [this]
    rfl
  nA := (gr_asc _ _).nd
  nB := (gr_asc _ _).nd
  nO := List.nodup_nil
  nC := (gr_asc _ _).nd
  nD := (gr_asc _ _).nd
  nE := (gr_asc _ _).nd
  s1 x := by rw [h1]; simp only [List.mem_append, List.not_mem_nil, false_or]; exact or_assoc
  s2 x := by rw [h2]; simp only [List.mem_append]; exact or_assoc
  s3 x := by rw [h3]; simp only [List.mem_append]; exact or_assoc
  ob x hx := by cases hx
end
section
variable {k : Int → Nat} {A B C D E S1 S2 S3 : Lot} {cap : Nat}
theorem wide_all (h : Sys k A B [] C D E S1 S2 S3) (aE : Asc E) : All [S1, S2, S3] cap ((if 0 < cap then sgl E else []) ++ sortS (pw3 A B C D cap)) := by
  have nd : (pw3 A B C D cap).Nodup := by
    have := h.wl_nd (cap := cap)
    unfold Sys.wl at this
    unfold pw3
    split
    · rename_i c
      rw [if_pos c] at this
      have := (List.nodup_append.mp (List.nodup_append.mp this).1).2.1
      rw [show prs [] C = [] from rfl, List.append_nil] at this
      exact this
    · exact List.nodup_nil
  have := h.all (cap := cap) (L1 := if 0 < cap then sgl E else []) (L2 := sortS (pw3 A B C D cap)) (L3 := []) (fun M => ?_) (fun M => ?_) (fun M => ?_) ?_ (sortS_lt nd) .nil
  · rw [List.append_nil] at this
    exact this
  · by_cases c : 0 < cap
    · rw [if_pos c]
      exact ⟨fun z => ⟨c, z⟩, fun z => z.2⟩
    · rw [if_neg c]
      exact ⟨fun z => (by cases z), fun z => absurd z.1 c⟩
  · rw [sortS_mem]
    unfold pw3
    by_cases c : 1 < cap
    · rw [if_pos c, List.mem_append, List.mem_append]
      exact ⟨fun z => ⟨c, z⟩, fun z => z.2⟩
    · rw [if_neg c]
      exact ⟨fun z => (by cases z), fun z => absurd z.1 c⟩
  · exact ⟨fun z => (by cases z), fun z => (by cases z.2)⟩
  · split
    · exact sgl_lx aE
    · exact .nil
theorem wide_len : (Sys.wl A B [] C D E cap).length = 1 + (if 0 < cap then A.length + (B.length + E.length) else 0) + (pw3 A B C D cap).length := by
  rw [Sys.wl_len]
  unfold pw3
  split <;> split <;> split <;> simp [prs_len] <;> omega
end
theorem pe_lstRevK {X : Cx} {K : PySem.W.Frag} {e : Expr} {te : TE} {p p2 pos pos2 : Pos} (hK : X.K = K) (hc : X.calm = true) (hg : Gl X "list") (hm : X.mg "list" = none) (hg2 : Gl X "reversed") (hm2 : X.mg "reversed" = none) (he : PE X e te)
    (hs : starEach [e] X.env = (false, eval e X.env) :: starEach [] X.env := by rfl)
    (hs2 : starEach [.Call (.Name "reversed" p2) [e] [] pos2] X.env = (false, eval (.Call (.Name "reversed" p2) [e] [] pos2) X.env) :: starEach [] X.env := by rfl) :
    PE X (.Call (.Name "list" p) [.Call (.Name "reversed" p2) [e] [] pos2] [] pos) (tLstRev K te) := by
  subst hK
  exact pe_lstRev hc hg hm hg2 hm2 he hs hs2
theorem il (l : Lot) : (IL l).length = l.length := by unfold IL; rw [List.length_map]
theorem IL_app (a b : Lot) : IL a ++ IL b = IL (a ++ b) := by unfold IL; rw [List.map_append]
/-- two lists put together, and a third one -/
theorem lists_lay : ∀ L : List Lot, PyData.canLayAll0 (L.map (PySem.W.Datum.toD (α := List Int))) = true
  | [] => by simp [PyData.canLayAll0]
  | l :: L => by
    have ih := lists_lay L
    rw [List.map_cons]
    show PyData.canLayAll0 (.list (l.map PySem.W.Datum.toD) :: _) = true
    simp only [PyData.canLayAll0, PyData.canLay0, ints_lay, ih, Bool.and_self]
theorem lists_depth : ∀ L : List Lot, PyData.depthAll (L.map (PySem.W.Datum.toD (α := List Int))) ≤ 1
  | [] => by simp [PyData.depthAll]
  | l :: L => by
    have ih := lists_depth L
    rw [List.map_cons]
    show PyData.depthAll (.list (l.map PySem.W.Datum.toD) :: _) ≤ 1
    simp only [PyData.depthAll, PyData.depth, ints_depth]
    omega
theorem shapedLL (L : List Lot) : SeqAt.shaped (PySem.W.Datum.toD (α := List (List Int)) L) = true := by
  show SeqAt.shaped (.list (L.map PySem.W.Datum.toD)) = true
  have := lists_depth L
  unfold SeqAt.shaped
  simp only [PyData.canLay0, lists_lay, Bool.true_and, PyData.depth, decide_eq_true_eq]
  exact decide_eq_true (by omega)
theorem dpLL {K : PySem.W.Frag} {H : Hp} {a : Addr} {us : List V} {L : List Lot} (h : SqL K H a us) (hL : LS K H us L) : Dp K H (.ref a) (PySem.W.Datum.toD (α := List (List Int)) L) := .lst h (ls_dp hL)
/-- what is due, as asked -/
def Few (SS : List Lot) (cap : Nat) : Prop := ∀ seen : List Lot, seen.Nodup → (∀ T ∈ seen, Lk SS cap T) → seen.length ≤ 2000
def Many (SS : List Lot) (cap : Nat) : Prop := ∃ seen : List Lot, seen.Nodup ∧ (∀ T ∈ seen, Lk SS cap T) ∧ 2000 < seen.length
def DueIs (SS : List Lot) (cap : Nat) (L : List Lot) : Prop := ((∃ s ∈ SS, s = []) ∧ L = []) ∨ ((∀ s ∈ SS, s ≠ []) ∧ All SS cap L ∧ Few SS cap)
theorem exS {K : PySem.W.Frag} {H H' : Hp} {a : Addr} {xs : List V} (h : SqL K H a xs) (x : ExtN H H') : SqL K H' a xs := by
  rcases h with (h | ⟨o, h⟩) | h
  · exact .inl (.inl (x _ _ h fun ps e => by cases e))
  · exact .inl (.inr ⟨o, x _ _ h fun ps e => by cases e⟩)
  · exact .inr h
theorem LS.ex {K : PySem.W.Frag} {H H' : Hp} {us : List V} {L : List Lot} (h : LS K H us L) (x : ExtN H H') : LS K H' us L := P_mono (fun _ _ ⟨a, e, q⟩ => ⟨a, e, exS q x⟩) h
/-- what is due, as it stands -/
def DueT (K : PySem.W.Frag) (H : Hp) (dt : Addr) (SS : List Lot) (cap : Nat) : Prop := ((∀ s ∈ SS, s ≠ []) ∧ Many SS cap ∧ H dt = some (.tup [.str "refused", .str "lots", .int 2000])) ∨
  ∃ (r : Addr) (ws : List V) (L : List Lot), H dt = some (.tup [.str "told", .ref r]) ∧ H r = some (.lst ws) ∧ LS K H ws L ∧ DueIs SS cap L ∧ L.length ≤ 9000 ∧ ∀ T ∈ L, T.length ≤ 1000
theorem DueT.same {K : PySem.W.Frag} {H H' : Hp} {dt : Addr} {SS : List Lot} {cap : Nat} (h : DueT K H dt SS cap) (s : Same H H') : DueT K H' dt SS cap := by
  rcases h with ⟨a, b, c⟩ | ⟨r, ws, L, a, b, c, d⟩
  · exact .inl ⟨a, b, s _ _ c⟩
  · exact .inr ⟨r, ws, L, s _ _ a, s _ _ b, c.same s, d⟩
def dRef : PyData := .tuple [.str "refused", .str "lots", .int 2000]
def dThree : PyData := .tuple [.str "told", .list [.list [.int 3]]]
theorem shaped_ref : SeqAt.shaped dRef = true := by
  unfold SeqAt.shaped dRef
  simp [PyData.canLay0, PyData.canLayAll0, PyData.depth, PyData.depthAll]
  decide +kernel
theorem shaped_three : SeqAt.shaped dThree = true := by
  unfold SeqAt.shaped dThree
  simp [PyData.canLay0, PyData.canLayAll0, PyData.depth, PyData.depthAll]
  decide +kernel
theorem eqv_ref : PyData.eqv dRef dRef = true := by simp [dRef, PyData.eqv, PyData.eqvAll]
theorem eqv_three : PyData.eqv dThree dThree = true := by simp [dThree, PyData.eqv, PyData.eqvAll]
theorem few_of {SS : List Lot} {cap : Nat} {P : Lot} (aP : Asc P) (h : ∀ s ∈ SS, ∀ x ∈ s, x ∈ P) (l : 2 ^ P.length ≤ 2000) : Few SS cap := fun seen nd m => by
  have := K25.few aP nd fun T hT => ⟨(m T hT).asc, fun x hx => by
    obtain ⟨s, hs, hxs⟩ := (m T hT).mem x hx
    exact h s hs x hxs⟩
  omega
theorem three_due : DueIs [[3, 3], [1, 3]] 1 [[3]] := by
  refine .inr ⟨fun s hs e => ?_, ⟨fun M => ⟨fun hM => ?_, fun ⟨m, l⟩ => ?_⟩, List.pairwise_singleton _ _⟩, few_of (P := [1, 3]) (List.pairwise_cons.mpr ⟨fun x hx => by rw [List.mem_singleton.mp hx]; decide, List.pairwise_singleton _ _⟩) (fun s hs x hx => ?_) (by decide)⟩
  · rw [e] at hs
    simp at hs
  · rw [List.mem_singleton.mp hM]
    refine ⟨⟨List.pairwise_singleton _ _, fun s hs => ⟨3, List.mem_singleton.mpr rfl, ?_⟩, fun U _ hU x hx => ?_⟩, by decide⟩
    · simp only [List.mem_cons, List.not_mem_nil, or_false] at hs
      rcases hs with rfl | rfl <;> simp
    · obtain ⟨y, hy, h3⟩ := hU [3, 3] (by simp)
      simp only [List.mem_cons, List.not_mem_nil, or_false, or_self] at h3
      rw [List.mem_singleton.mp hx, ← h3]
      exact hy
  · obtain ⟨y, hy, h3⟩ := m.hit [3, 3] (by simp)
    simp only [List.mem_cons, List.not_mem_nil, or_false, or_self] at h3
    subst h3
    match M, l, hy with
    | [z], _, hy => rw [List.mem_singleton.mp hy]; exact List.mem_singleton.mpr rfl
    | _ :: _ :: _, l, _ => simp at l
  · simp only [List.mem_cons, List.not_mem_nil, or_false] at hs
    rcases hs with rfl | rfl <;> simp at hx ⊢ <;> omega
theorem cap6 : ∀ {d : Nat}, d < 6 → ∃ c : Nat, ([V.int 2, V.int 3, V.int 2, V.int 1, V.int 0, V.int 3] : List V)[d]? = some (nV c) ∧ c ≤ 3
  | 0, _ => ⟨2, rfl, by decide⟩
  | 1, _ => ⟨3, rfl, by decide⟩
  | 2, _ => ⟨2, rfl, by decide⟩
  | 3, _ => ⟨1, rfl, by decide⟩
  | 4, _ => ⟨0, rfl, by decide⟩
  | 5, _ => ⟨3, rfl, by decide⟩
section
variable {P : Program} {w : World} {K : PySem.W.Frag} {mg : Str → Option Value} {base : Heap} {CN CB CT fJ : Addr} {Pt : Addr}
/-- asked where it is known what is due -/
theorem ask_many {H : Hp} {Q : VK} {E : XK} {sa : Addr} {most : Nat} {us vs : List V} {ss : List Lot} (hv : vs = [.ref sa, nV most]) (hS : Sq K H sa us) (hL : QS K H us ss) (hm : most ≤ 100) (hn : ss.length ≤ 100) (hs : ∀ s ∈ ss, s.length ≤ 500) (tb : Tb Pt H) (full : ∀ s ∈ ss, s ≠ []) (many : Many ss most)
    (q : ∀ t H', ExtN H H' → Tb Pt H' → H' t = some (.tup [.str "refused", .str "lots", .int 2000]) → Q (.ref t) H') : sp_ask K Pt vs H Q E :=
  ⟨⟨sa, most, us, ss, hv, hS, hL, hm, hn, hs, tb, fun _ _ => q, fun ⟨s, h, e⟩ => absurd e (full s h), fun _ L seen t r H' all nd mem le _ => by
    obtain ⟨seen', nd', m', lt⟩ := many
    have := sub_len seen' seen nd' fun T hT => (mem T).mpr (m' T hT)
    omega⟩⟩
theorem ask_told {H : Hp} {Q : VK} {E : XK} {sa : Addr} {most : Nat} {us vs : List V} {ss L : List Lot} (hv : vs = [.ref sa, nV most]) (hS : Sq K H sa us) (hL : QS K H us ss) (hm : most ≤ 100) (hn : ss.length ≤ 100) (hs : ∀ s ∈ ss, s.length ≤ 500) (tb : Tb Pt H) (due : DueIs ss most L)
    (q : ∀ t r H', Told K Pt H H' t r L → Q (.ref t) H') : sp_ask K Pt vs H Q E := by
  refine ⟨⟨sa, most, us, ss, hv, hS, hL, hm, hn, hs, tb, fun many full => ?_, fun emp t r H' told => ?_, fun full L' seen t r H' all nd mem le told => ?_⟩⟩
  · rcases due with ⟨⟨s, h, e⟩, _⟩ | ⟨_, _, few⟩
    · exact absurd e (full s h)
    · obtain ⟨seen, nd, m, lt⟩ := many
      have := few seen nd m
      omega
  · rcases due with ⟨_, rfl⟩ | ⟨full, _, _⟩
    · exact q t r H' told
    · obtain ⟨s, h, e⟩ := emp
      exact absurd e (full s h)
  · rcases due with ⟨⟨s, h, e⟩, _⟩ | ⟨_, al, _⟩
    · exact absurd e (full s h)
    · rw [al.uniq all] at q
      exact q t r H' told
end
end K25W

namespace K25W
open PySem PySem.Spec PyProof.Rows L2 KH KD KP K25 LamX NdefX
abbrev s_law_wide_holds : Stmt := topS 26
theorem sc_law_wide_holds : FnScope ["cell", "drawn", "groups", "cap", "sets", "due", "handed", "asked", "row"] ["cell"] (defScope s_law_wide_holds) := ⟨rfl, rfl, rfl, by decide +kernel, rfl, by decide +kernel, by decide +kernel⟩

section
variable {P : Program} {w : World} {K : PySem.W.Frag} {mg : Str → Option Value} {base : Heap} {CN CB CT fJ : Addr}
def sp_true (Pt : Addr) (H : Hp) (Q : VK) : Prop := ∀ H', ExtN H H' → Tb Pt H' → Q (.bl true) H'
def sp_wholds (Pt : Addr) : Sp := fun vs H Q _ => ∃ c : Int, vs = [.int c] ∧ Tb Pt H ∧ sp_true Pt H Q
theorem ok_wholds {Pt f f1 f2 f3 f4 f5 : Addr} {fd fd1 fd2 fd3 fd4 fd5 : FuncData} (F : Fun K "_law_wide_holds" "_law_wide_holds" s_law_wide_holds f fd) (T : Txt mg) (C_law_draws : Cal P w K mg base 1 "_law_draws" ["cell", "sizes"] (sp_draws K) f1 fd1) (C_law_wide : Cal P w K mg base 1 "_law_wide" ["drawn"] (sp_wide K) f2 fd2) (C_law_wide_due : Cal P w K mg base 1 "_law_wide_due" ["groups", "cap"] (sp_wdue K) f3 fd3) (C_law_ask : Cal P w K mg base 6 "_law_ask" ["sets", "cap"] (sp_ask K Pt) f4 fd4) (C_law_same : Cal P w K mg base 1 "_law_same" ["told", "due"] (sp_same K) f5 fd5) : FnOk P w K mg base CX0 7 f fd ["cell"] (sp_wholds Pt) := by
  refine F.ok sc_law_wide_holds (fun vs H Q E h => ?_) (fun cdv A' outer s H vs Q E' hr h => ?_)
  · obtain ⟨c, rfl, _⟩ := h
    rfl
  · obtain ⟨c, rfl, tb, q⟩ := h
    refine ⟨_, (pss_cons (ps_set (i := 1) sc_law_wide_holds.nd rfl (.inl rfl) (pe_call C_law_draws.ok (hr.mono (by decide)) (by rfl) C_law_draws.mg C_law_draws.kp C_law_draws.b .nil pass0 (pa_cons (pv 0) (pa_cons (pe_lst (pa_cons pe_int (pa_cons pe_int (pa_cons pe_int (pa_cons pe_int (pa_cons pe_int (pa_cons pe_int (pa_cons pe_int (pa_cons pe_int pa_nil))))))))) pa_nil))))
 (pss_cons (ps_set (i := 2) sc_law_wide_holds.nd rfl (.inl rfl) (pe_call C_law_wide.ok (hr.mono (by decide)) (by rfl) C_law_wide.mg C_law_wide.kp C_law_wide.b .nil pass0 (pa_cons (pv 1) pa_nil)))
 (pss_cons (ps_set (i := 3) sc_law_wide_holds.nd rfl (.inl rfl) (pe_ix ix_list (pe_lst (pa_cons pe_int (pa_cons pe_int (pa_cons pe_int (pa_cons pe_int (pa_cons pe_int (pa_cons pe_int pa_nil))))))) (pe_ix ix_list (pv 1) pe_int (fun _ _ => rfl)) (fun _ _ => rfl)))
 (pss_cons (ps_set (i := 4) sc_law_wide_holds.nd rfl (.inl rfl) (pe_lst (pa_cons (pe_op op_cat (pe_op op_cat (pe_ix ix_list (pv 2) pe_int (fun _ _ => rfl)) (pe_ix ix_list (pv 2) pe_int (fun _ _ => rfl))) (pe_ix ix_list (pv 2) pe_int (fun _ _ => rfl))) (pa_cons (pe_op op_cat (pe_op op_cat (pe_ix ix_list (pv 2) pe_int (fun _ _ => rfl)) (pe_ix ix_list (pv 2) pe_int (fun _ _ => rfl))) (pe_ix ix_list (pv 2) pe_int (fun _ _ => rfl))) (pa_cons (pe_op op_cat (pe_op op_cat (pe_ix ix_list (pv 2) pe_int (fun _ _ => rfl)) (pe_ix ix_list (pv 2) pe_int (fun _ _ => rfl))) (pe_ix ix_list (pv 2) pe_int (fun _ _ => rfl))) pa_nil)))))
 (pss_cons (ps_if (pt_cmpR op_eq (pe_ix ix_list (pv 1) pe_int (fun _ _ => rfl)) pe_int (nomark _))
 (pss_one (ps_setLc (i := 4) (own := [("row", 8)]) (g := gName 8) (tt := tYes) rfl sc_law_wide_holds.nd rfl rfl (sw_true rfl rfl rfl (by decide +kernel)) (pi_list (pv 4)) (blkOk_by (N := ["cell", "drawn", "groups", "cap", "sets", "due", "handed", "asked", "row"]) (sc := defScope s_law_wide_holds) (by decide +kernel)) (fun _ _ _ _ _ => (pg_name (i := 8) sc_law_wide_holds.nd rfl (.inl rfl))) (fun _ _ _ _ _ => pts_nil) (fun _ _ _ _ _ => (pe_lstRevK (K := K) (by rfl) (by rfl) (by rfl) T.list (by rfl) T.reversed (pv 8)))))
 pss_nil)
 (pss_cons (ps_set (i := 5) sc_law_wide_holds.nd rfl (.inl rfl) (pe_call C_law_wide_due.ok (hr.mono (by decide)) (by rfl) C_law_wide_due.mg C_law_wide_due.kp C_law_wide_due.b .nil pass0 (pa_cons (pv 2) (pa_cons (pv 3) pa_nil))))
 (pss_cons (ps_if (pt_cmpR op_eq (pe_ix ix_list (pv 1) pe_int (fun _ _ => rfl)) pe_int (nomark _))
 (pss_cons (ps_expr (pe_bm PySem.F.plainAttrs_list PySem.F.slot_list_append PySem.F.type_list_append mt_append (pv 4) (pa_cons (pe_lst pa_nil) pa_nil)))
 (pss_one (ps_set (i := 5) sc_law_wide_holds.nd rfl (.inl rfl) (pe_tup (pa_cons pe_str (pa_cons (pe_lst pa_nil) pa_nil))))))
 pss_nil)
 (pss_cons (ps_setLc (i := 6) (own := [("row", 8)]) (g := gName 8) (tt := tYes) rfl sc_law_wide_holds.nd rfl rfl (sw_true rfl rfl rfl (by decide +kernel)) (pi_list (pv 4)) (blkOk_by (N := ["cell", "drawn", "groups", "cap", "sets", "due", "handed", "asked", "row"]) (sc := defScope s_law_wide_holds) (by decide +kernel)) (fun _ _ _ _ _ => (pg_name (i := 8) sc_law_wide_holds.nd rfl (.inl rfl))) (fun _ _ _ _ _ => pts_nil) (fun _ _ _ _ _ => (pe_callTy (r := rListOf K) call_list_of (by rfl) T.list (by decide +kernel) (pa_cons (pv 8) pa_nil))))
 (pss_cons (ps_set (i := 7) sc_law_wide_holds.nd rfl (.inl rfl) (pe_call C_law_ask.ok (hr.mono (by decide)) (by rfl) C_law_ask.mg C_law_ask.kp C_law_ask.b .nil pass0 (pa_cons (pv 6) (pa_cons (pv 3) pa_nil))))
 (pss_cons (ps_if (PW.pt (pw_or (pt_cmpR (op_neD hr.units) (pv 6) (pv 4) (nomark _)) (pw_or1 (pt_cmpR op_ne (pe_ix ix_tup (pv 7) pe_int (fun _ _ => rfl)) (pe_ix ix_tup (pv 5) pe_int (fun _ _ => rfl)) (nomark _)))))
 (pss_one (ps_ret pe_bl))
 pss_nil)
 (pss_cons (ps_if (pt_cmpR op_eq (pe_ix ix_tup (pv 5) pe_int (fun _ _ => rfl)) pe_str (nomark _))
 (pss_one (ps_ret (pe_and (pe_cmpR (op_eqD hr.units) (pv 7) (pv 5) (nomark _)) (pe_one (pe_cmpR (op_eqD hr.units) (pe_call C_law_ask.ok (hr.mono (by decide)) (by rfl) C_law_ask.mg C_law_ask.kp C_law_ask.b .nil pass0 (pa_cons (pe_lst (pa_cons (pe_lst (pa_cons pe_int (pa_cons pe_int pa_nil))) (pa_cons (pe_tup (pa_cons pe_int (pa_cons pe_int pa_nil))) pa_nil))) (pa_cons pe_int pa_nil))) (pe_tup (pa_cons pe_str (pa_cons (pe_lst (pa_cons (pe_lst (pa_cons pe_int pa_nil)) pa_nil)) pa_nil))) (nomark _))))))
 pss_nil)
 (pss_one (ps_ret (pe_call C_law_same.ok (hr.mono (by decide)) (by rfl) C_law_same.mg C_law_same.kp C_law_same.b .nil pass0 (pa_cons (pe_ix ix_tup (pv 7) pe_int (fun _ _ => rfl)) (pa_cons (pe_ix ix_tup (pv 5) pe_int (fun _ _ => rfl)) pa_nil)))))))))))))))), ?_⟩
    refine asgN ⟨_, rfl, (by show 8 ≤ sizeLine; decide), fun z nz => ⟨z, c, [15, 8, 8, 4, 5, 6, 2, 5], rfl, SqL.of upd_same, by decide, by decide, fun dp ds H2 s2 ndp edp dr σ' e => ?_⟩⟩
    obtain rfl : σ' = [some (.int c), some (.ref dp), none, none, none, none, none, none, none] := e.symm
    clear e
    have t2 : Same H H2 := ((Same.refl H).new nz).trans s2
    refine asgN ⟨_, rfl, dp, ds, rfl, SqL.of edp, dr, fun g us d n0 n1 n2 n3 n4 H3 s3 ng eg hL bd b00 b20 b0 b1 b2 b3 b4 σ' e => ?_⟩
    obtain rfl : σ' = [some (.int c), some (.ref dp), some (.ref g), none, none, none, none, none, none] := e.symm
    clear e
    have t3 := t2.trans s3
    have edp3 := s3 _ _ edp
    obtain ⟨d0, d1, d2, d3, d4, d5, d6, d7, rfl, b5⟩ : ∃ d0 d1 d2 d3 d4 d5 d6 d7, ds = [d0, d1, d2, d3, d4, d5, d6, d7] ∧ d5 < 6 := by
      cases dr with | cons h0 dr => cases dr with | cons h1 dr => cases dr with | cons h2 dr => cases dr with | cons h3 dr => cases dr with | cons h4 dr => cases dr with | cons h5 dr => cases dr with | cons h6 dr => cases dr with | cons h7 dr => cases dr with | nil => exact ⟨_, _, _, _, _, _, _, _, rfl, h5⟩
    have hGd : SqL K H3 dp _ := SqL.of edp3
    obtain ⟨cap, hcap, bc⟩ := cap6 b5
    refine asgN ⟨(by show 6 ≤ sizeLine; decide), fun m nm => ⟨_, rfl, dp, _, 5, nV d5, rfl, rfl, ((Same.refl H3).new nm).seq hGd, at_n (j := 5) rfl, m, _, d5, nV cap, rfl, rfl, SqL.of upd_same, at_n hcap, fun σ' e => ?_⟩⟩
    obtain rfl : σ' = [some (.int c), some (.ref dp), some (.ref g), some (nV cap), none, none, none, none, none] := e.symm
    clear e
    have x00 : Same H3 (upd H3 m (.lst [V.int 2, V.int 3, V.int 2, V.int 1, V.int 0, V.int 3])) := (Same.refl H3).new nm
    generalize upd H3 m (.lst [V.int 2, V.int 3, V.int 2, V.int 1, V.int 0, V.int 3]) = X0 at x00 ⊢
    have aE : Asc (gr n4 ((4 + d) % 5)) := gr_asc _ _
    have hL : LL H3 us [gr n0 ((0 + d) % 5), gr n1 ((1 + d) % 5), gr n2 ((2 + d) % 5), gr n3 ((3 + d) % 5), gr n4 ((4 + d) % 5)] := hL
    obtain ⟨A, eA⟩ : ∃ A, gr n0 ((0 + d) % 5) = A := ⟨_, rfl⟩
    obtain ⟨B, eB⟩ : ∃ A, gr n1 ((1 + d) % 5) = A := ⟨_, rfl⟩
    obtain ⟨C, eC⟩ : ∃ A, gr n2 ((2 + d) % 5) = A := ⟨_, rfl⟩
    obtain ⟨D, eD⟩ : ∃ A, gr n3 ((3 + d) % 5) = A := ⟨_, rfl⟩
    obtain ⟨E, eE⟩ : ∃ A, gr n4 ((4 + d) % 5) = A := ⟨_, rfl⟩
    have sys0 := @wide_sys d n0 n1 n2 n3 n4
    have neA : A ≠ [] := by rw [← eA]; exact gr_ne b00
    have neC : C ≠ [] := by rw [← eC]; exact gr_ne b20
    have lA : A.length = n0 := by rw [← eA]; exact gr_len _ _
    have lB : B.length = n1 := by rw [← eB]; exact gr_len _ _
    have lC : C.length = n2 := by rw [← eC]; exact gr_len _ _
    have lD : D.length = n3 := by rw [← eD]; exact gr_len _ _
    have lE : E.length = n4 := by rw [← eE]; exact gr_len _ _
    rw [eA, eB, eC, eD, eE] at hL sys0
    rw [eE] at aE
    clear eA eB eC eD eE
    cases hL with | @cons _ _ _ _ hA hL => cases hL with | @cons _ _ _ _ hB hL => cases hL with | @cons _ _ _ _ hC hL => cases hL with | @cons _ _ _ _ hD hL => cases hL with | @cons _ _ _ _ hE hL => cases hL with | nil =>
    obtain ⟨aA, rfl, hA⟩ := hA
    obtain ⟨aB, rfl, hB⟩ := hB
    obtain ⟨aC, rfl, hC⟩ := hC
    obtain ⟨aD, rfl, hD⟩ := hD
    obtain ⟨aE_, rfl, hE⟩ := hE
    have hG : SqL K H3 g _ := SqL.of eg
    refine asgN ?_
    refine ⟨_, rfl, g, _, 0, .ref aA, rfl, rfl, x00.seq hG, at_n (j := 0) rfl, _, rfl, g, _, 1, .ref aB, rfl, rfl, x00.seq hG, at_n (j := 1) rfl, aA, aB, _, _, rfl, rfl, x00 _ _ hA, x00 _ _ hB, by rw [il, il, lA, lB]; exact szle (by omega), fun u0 nu0 => ?_⟩
    rw [IL_app]
    have w0 := x00.new (o := .lst (IL (A ++ B))) nu0
    have eu0 : (upd X0 u0 (.lst (IL (A ++ B)))) u0 = some (.lst (IL (A ++ B))) := upd_same
    have f0 := (Same.refl _ : Same X0 X0).new (o := .lst (IL (A ++ B))) nu0
    generalize upd X0 u0 (.lst (IL (A ++ B))) = Y0 at w0 eu0 f0 ⊢
    refine ⟨_, rfl, g, _, 4, .ref aE_, rfl, rfl, w0.seq hG, at_n (j := 4) rfl, u0, aE_, _, _, rfl, rfl, eu0, w0 _ _ hE, by rw [il, il, List.length_append, lA, lB, lE]; exact szle (by omega), fun v0 nv0 => ?_⟩
    rw [IL_app]
    have x0 := w0.new (o := .lst (IL (A ++ B ++ E))) nv0
    have ev0 : (upd Y0 v0 (.lst (IL (A ++ B ++ E)))) v0 = some (.lst (IL (A ++ B ++ E))) := upd_same
    have g0 := f0.trans ((Same.refl Y0).new (o := .lst (IL (A ++ B ++ E))) nv0)
    generalize upd Y0 v0 (.lst (IL (A ++ B ++ E))) = X1 at x0 ev0 g0 ⊢
    refine ⟨_, rfl, g, _, 1, .ref aB, rfl, rfl, x0.seq hG, at_n (j := 1) rfl, _, rfl, g, _, 2, .ref aC, rfl, rfl, x0.seq hG, at_n (j := 2) rfl, aB, aC, _, _, rfl, rfl, x0 _ _ hB, x0 _ _ hC, by rw [il, il, lB, lC]; exact szle (by omega), fun u1 nu1 => ?_⟩
    rw [IL_app]
    have w1 := x0.new (o := .lst (IL (B ++ C))) nu1
    have eu1 : (upd X1 u1 (.lst (IL (B ++ C)))) u1 = some (.lst (IL (B ++ C))) := upd_same
    have f1 := (Same.refl _ : Same X1 X1).new (o := .lst (IL (B ++ C))) nu1
    generalize upd X1 u1 (.lst (IL (B ++ C))) = Y1 at w1 eu1 f1 ⊢
    refine ⟨_, rfl, g, _, 4, .ref aE_, rfl, rfl, w1.seq hG, at_n (j := 4) rfl, u1, aE_, _, _, rfl, rfl, eu1, w1 _ _ hE, by rw [il, il, List.length_append, lB, lC, lE]; exact szle (by omega), fun v1 nv1 => ?_⟩
    rw [IL_app]
    have x1 := w1.new (o := .lst (IL (B ++ C ++ E))) nv1
    have ev1 : (upd Y1 v1 (.lst (IL (B ++ C ++ E)))) v1 = some (.lst (IL (B ++ C ++ E))) := upd_same
    have g1 := f1.trans ((Same.refl Y1).new (o := .lst (IL (B ++ C ++ E))) nv1)
    generalize upd Y1 v1 (.lst (IL (B ++ C ++ E))) = X2 at x1 ev1 g1 ⊢
    refine ⟨_, rfl, g, _, 0, .ref aA, rfl, rfl, x1.seq hG, at_n (j := 0) rfl, _, rfl, g, _, 3, .ref aD, rfl, rfl, x1.seq hG, at_n (j := 3) rfl, aA, aD, _, _, rfl, rfl, x1 _ _ hA, x1 _ _ hD, by rw [il, il, lA, lD]; exact szle (by omega), fun u2 nu2 => ?_⟩
    rw [IL_app]
    have w2 := x1.new (o := .lst (IL (A ++ D))) nu2
    have eu2 : (upd X2 u2 (.lst (IL (A ++ D)))) u2 = some (.lst (IL (A ++ D))) := upd_same
    have f2 := (Same.refl _ : Same X2 X2).new (o := .lst (IL (A ++ D))) nu2
    generalize upd X2 u2 (.lst (IL (A ++ D))) = Y2 at w2 eu2 f2 ⊢
    refine ⟨_, rfl, g, _, 4, .ref aE_, rfl, rfl, w2.seq hG, at_n (j := 4) rfl, u2, aE_, _, _, rfl, rfl, eu2, w2 _ _ hE, by rw [il, il, List.length_append, lA, lD, lE]; exact szle (by omega), fun v2 nv2 => ?_⟩
    rw [IL_app]
    have x2 := w2.new (o := .lst (IL (A ++ D ++ E))) nv2
    have ev2 : (upd Y2 v2 (.lst (IL (A ++ D ++ E)))) v2 = some (.lst (IL (A ++ D ++ E))) := upd_same
    have g2 := f2.trans ((Same.refl Y2).new (o := .lst (IL (A ++ D ++ E))) nv2)
    generalize upd Y2 v2 (.lst (IL (A ++ D ++ E))) = X3 at x2 ev2 g2 ⊢
    refine ⟨(by show 3 ≤ sizeLine; decide), fun sp nsp σ' e => ?_⟩
    obtain rfl : σ' = [some (.int c), some (.ref dp), some (.ref g), some (nV cap), some (.ref sp), none, none, none, none] := e.symm
    clear e
    have x3 : Same X3 (upd X3 sp (.lst [.ref v0, .ref v1, .ref v2])) := (Same.refl X3).new nsp
    have esp : (upd X3 sp (.lst [.ref v0, .ref v1, .ref v2])) sp = some (.lst [.ref v0, .ref v1, .ref v2]) := upd_same
    have hR : RO sp (upd X3 sp (.lst [.ref v0, .ref v1, .ref v2])) [.ref v0, .ref v1, .ref v2] [A ++ B ++ E, B ++ C ++ E, A ++ D ++ E] := by
      refine .cons ⟨v0, rfl, ne_of_none ((g1.trans g2) _ _ ev0) nsp, x3 _ _ ((g1.trans g2) _ _ ev0)⟩ (.cons ⟨v1, rfl, ne_of_none (g2 _ _ ev1) nsp, x3 _ _ (g2 _ _ ev1)⟩ (.cons ⟨v2, rfl, ne_of_none ev2 nsp, x3 _ _ ev2⟩ .nil))
    have s34 : Same H3 (upd X3 sp (.lst [.ref v0, .ref v1, .ref v2])) := x2.trans x3
    have nspH : H sp = none := t3.free (x2.free nsp)
    have nsp3 : H3 sp = none := x2.free nsp
    generalize upd X3 sp (.lst [.ref v0, .ref v1, .ref v2]) = H4 at esp hR s34 ⊢
    clear x3 g0 g1 g2 x2 x1 x0 w0 w1 w2 f0 f1 f2 ev0 ev1 ev2 eu0 eu1 eu2
    -- turned
    refine seqM (fun σ H' => ∃ (sp : Addr) (us : List V) (fl : Lot → Lot), σ = [some (.int c), some (.ref dp), some (.ref g), some (nV cap), some (.ref sp), none, none, none, none] ∧ Same H3 H' ∧ H3 sp = none ∧ H' sp = some (.lst us) ∧ RO sp H' us [fl (A ++ B ++ E), fl (B ++ C ++ E), fl (A ++ D ++ E)] ∧ (∀ X x, x ∈ fl X ↔ x ∈ X) ∧ ∀ X, (fl X).length = X.length) (fun N qN => ?_) ?_
    · refine Dc.ifS (b := decide (nV d6 = V.int 1)) (fun Q q => ⟨_, rfl, dp, _, 6, nV d6, rfl, rfl, s34.seq hGd, at_n (j := 6) rfl, rfl, _, rfl, q⟩) (fun hc => ?_) (fun hc => ?_)
      · refine ⟨_, rfl, sp, rfl, ⟨_, SqL.of esp⟩, fun ra nra => ?_⟩
        refine lc_list (K := K) (a := sp) (xs := [.ref v0, .ref v1, .ref v2]) (fun m H' => ∃ vs, Same H4 H' ∧ H' ra = some (.lst vs) ∧ RO ra H' vs (([A ++ B ++ E, B ++ C ++ E, A ++ D ++ E].take m).map List.reverse)) ⟨[], (Same.refl H4).new nra, upd_same, .nil⟩ (fun m H' _ ⟨_, s5, _⟩ => SqL.of (s5 _ _ esp)) ?_ ?_
        · rintro m yv H6 hy ⟨vs, s6, er, hV⟩
          obtain ⟨X, hX, a, rfl, _, ea⟩ := P_right hR hy
          refine ⟨rfl, _, rfl, a, _, rfl, SqL.of (s6 _ _ ea), fun z1 nz1 => ?_⟩
          rw [show (IL X).reverse = IL X.reverse by unfold IL; rw [List.map_reverse]]
          have b1 : Same H6 (upd H6 z1 (.lst (IL X.reverse))) := (Same.refl H6).new nz1
          have ez1 : (upd H6 z1 (.lst (IL X.reverse))) z1 = some (.lst (IL X.reverse)) := upd_same
          have z1r : z1 ≠ ra := Ne.symm (ne_of_none er nz1)
          generalize upd H6 z1 (.lst (IL X.reverse)) = H7 at b1 ez1 ⊢
          refine ⟨vs, b1 _ _ er, ?_, vs ++ [.ref z1], (s6.trans b1).mut nra, upd_same, ?_⟩
          · rw [P_len hV, List.length_map]
            exact szl (Nat.le_trans (List.length_take_le' _ _) (by show 3 ≤ 10000; decide))
          · rw [take_more hX, List.map_append]
            exact P_append ((hV.same b1).up) (.cons ⟨z1, rfl, z1r, by rw [upd_ne z1r]; exact ez1⟩ .nil)
        rintro H6 ⟨vs, s6, er, hV⟩
        exact qN _ _ ⟨ra, vs, List.reverse, rfl, s34.trans s6, s34.free nra, er, hV, fun X x => List.mem_reverse, fun X => List.length_reverse⟩
      · exact qN _ _ ⟨sp, _, id, rfl, s34, nsp3, esp, hR, fun X x => Iff.rfl, fun X => rfl⟩
    rintro σ H5 ⟨sp, us5, fl, rfl, s5, nsp3, esp, hR5, fm_, fL⟩
    clear s34 hR nspH
    have sys : Sys (kd d) A B [] C D E (fl (A ++ B ++ E)) (fl (B ++ C ++ E)) (fl (A ++ D ++ E)) := sys0 (fun x => fm_ _ x) (fun x => fm_ _ x) (fun x => fm_ _ x)
    have full : ∀ s ∈ [fl (A ++ B ++ E), fl (B ++ C ++ E), fl (A ++ D ++ E)], s ≠ [] := fun s hs e => by
      have hl : s.length = 0 := by rw [e]; rfl
      simp only [List.mem_cons, List.not_mem_nil, or_false] at hs
      rcases hs with rfl | rfl | rfl <;> rw [fL, List.length_append, List.length_append] at hl <;> omega
    have small : ∀ s ∈ [fl (A ++ B ++ E), fl (B ++ C ++ E), fl (A ++ D ++ E)], s.length ≤ 500 := fun s hs => by
      simp only [List.mem_cons, List.not_mem_nil, or_false] at hs
      rcases hs with rfl | rfl | rfl <;> rw [fL, List.length_append, List.length_append] <;> omega
    have wlen := @wide_len A B C D E cap
    have dif : ∀ {X Y : Lot} {i j : Nat}, (∀ x ∈ X, kd d x = i) → (∀ x ∈ Y, kd d x = j) → i ≠ j → ∀ x ∈ X, ∀ y ∈ Y, x ≠ y := fun hX hY ne x hx y hy e => ne (by rw [← hX x hx, e, hY y hy])
    -- what is due
    refine seqM (fun σ H' => ∃ (dt : Addr), σ = [some (.int c), some (.ref dp), some (.ref g), some (nV cap), some (.ref sp), some (.ref dt), none, none, none] ∧ Same H5 H' ∧ DueT K H' dt [fl (A ++ B ++ E), fl (B ++ C ++ E), fl (A ++ D ++ E)] cap) (fun N qN => ?_) ?_
    · refine ⟨_, rfl, _, rfl, g, cap, _, A, B, C, D, E, rfl, s5.seq hG, ?_, by omega, by omega, by omega, by omega, by omega, dif sys.a sys.b (by decide), dif sys.a sys.c (by decide), dif sys.b sys.d (by decide), fun many t H' s6 et => ?_, fun few t r us6 H' s6 et er hL6 => ?_⟩
      · exact .cons ⟨aA, rfl, SqL.of (s5 _ _ hA)⟩ (.cons ⟨aB, rfl, SqL.of (s5 _ _ hB)⟩ (.cons ⟨aC, rfl, SqL.of (s5 _ _ hC)⟩ (.cons ⟨aD, rfl, SqL.of (s5 _ _ hD)⟩ (.cons ⟨aE_, rfl, SqL.of (s5 _ _ hE)⟩ .nil))))
      · exact qN _ _ ⟨t, rfl, s6, .inl ⟨full, ⟨_, sys.wl_nd, fun T hT => sys.lk_iff.mpr hT, by rw [wlen]; exact many⟩, et⟩⟩
      · have al := wide_all (cap := cap) sys aE
        refine qN _ _ ⟨t, rfl, s6, .inr ⟨r, us6, _, et, er, hL6, .inr ⟨full, al, fun seen nd m => ?_⟩, ?_, fun T hT => ?_⟩⟩
        · have := sys.seen_le nd m
          rw [wlen] at this
          omega
        · rw [List.length_append, sortS_len]
          have : (if 0 < cap then sgl E else []).length ≤ 30 := by
            split
            · unfold sgl
              rw [List.length_map]
              omega
            · exact Nat.zero_le _
          omega
        · have := ((al.mem T).mp hT).2
          omega
    rintro σ H6 ⟨dt, rfl, s56, due⟩
    have s6 := s5.trans s56
    have esp6 := s56 _ _ esp
    have hR6 := hR5.same s56
    clear esp hR5 s5 s56
    have ul : us5.length = 3 := P_len hR6
    -- an empty list more
    refine seqM (fun σ H' => ∃ (dt : Addr) (us : List V) (SS : List Lot), σ = [some (.int c), some (.ref dp), some (.ref g), some (nV cap), some (.ref sp), some (.ref dt), none, none, none] ∧ Same H3 H' ∧ H' sp = some (.lst us) ∧ RO sp H' us SS ∧ SS.length ≤ 4 ∧ (∀ s ∈ SS, s.length ≤ 500) ∧ DueT K H' dt SS cap) (fun N qN => ?_) ?_
    · refine Dc.ifS (b := decide (nV d7 = V.int 0)) (fun Q q => ⟨_, rfl, dp, _, 7, nV d7, rfl, rfl, s6.seq hGd, at_n (j := 7) rfl, rfl, _, rfl, q⟩) (fun hc => ?_) (fun hc => ?_)
      · refine ⟨_, rfl, .inl ⟨rfl, _, SqL.of esp6⟩, Nat.zero_le _, fun e ne => ⟨sp, _, _, rfl, rfl, ((Same.refl H6).new ne) _ _ esp6, szl (by omega), ?_⟩⟩
        have b1 : Same H6 (upd H6 e (.lst [])) := (Same.refl H6).new ne
        have ee : (upd H6 e (.lst [])) e = some (.lst (IL [])) := upd_same
        have nes : e ≠ sp := Ne.symm (ne_of_none esp6 ne)
        generalize upd H6 e (.lst []) = H7 at b1 ee ⊢
        have hR8 : RO sp (upd H7 sp (.lst (us5 ++ [.ref e]))) (us5 ++ [.ref e]) ([fl (A ++ B ++ E), fl (B ++ C ++ E), fl (A ++ D ++ E)] ++ [[]]) := P_append ((hR6.same b1).up) (.cons ⟨e, rfl, nes, by rw [upd_ne nes]; exact ee⟩ .nil)
        have s8 : Same H3 (upd H7 sp (.lst (us5 ++ [.ref e]))) := (s6.trans b1).mut nsp3
        have e8 : (upd H7 sp (.lst (us5 ++ [.ref e]))) sp = some (.lst (us5 ++ [.ref e])) := upd_same
        generalize upd H7 sp (.lst (us5 ++ [.ref e])) = H8 at hR8 s8 e8 ⊢
        refine ⟨Nat.zero_le _, fun r nr => ⟨sp2, fun t nt => ?_⟩⟩
        have b2 : Same H8 (upd H8 r (.lst [])) := (Same.refl H8).new nr
        have b3 := (Same.refl (upd H8 r (.lst []))).new (o := .tup [.str "told", .ref r]) nt
        have b4 := b2.trans b3
        refine qN _ _ ⟨t, _, _, rfl, s8.trans b4, b4 _ _ e8, hR8.same b4, Nat.le_refl 4, fun s hs => ?_, .inr ⟨r, [], [], upd_same, b3 _ _ upd_same, .nil, .inl ⟨⟨[], by simp, rfl⟩, rfl⟩, by decide, fun T hT => (by cases hT)⟩⟩
        rcases List.mem_append.mp hs with h | h
        · exact small s h
        · rw [List.mem_singleton.mp h]
          decide
      · exact qN _ _ ⟨dt, us5, _, rfl, s6, esp6, hR6, (by show 3 ≤ 4; decide), small, due⟩
    rintro σ H7 ⟨dt, us7, SS, rfl, s7, esp7, hR7, lSS, small7, due7⟩
    have ul7 : us7.length = SS.length := P_len hR7
    -- handed
    refine ⟨_, rfl, sp, rfl, ⟨_, SqL.of esp7⟩, fun ha nha => ?_⟩
    refine lc_list (K := K) (a := sp) (xs := us7) (fun m H' => ∃ vs, Same H7 H' ∧ H' ha = some (.lst vs) ∧ RO ha H' vs (SS.take m)) ⟨[], (Same.refl H7).new nha, upd_same, .nil⟩ (fun m H' _ ⟨_, s5, _⟩ => SqL.of (s5 _ _ esp7)) ?_ ?_
    · rintro m yv H8 hy ⟨vs, s8, er, hV⟩
      obtain ⟨X, hX, a, rfl, _, ea⟩ := P_right hR7 hy
      refine ⟨rfl, _, rfl, a, _, rfl, .inl (SqL.of (s8 _ _ ea)), fun z1 nz1 => ?_⟩
      have b1 : Same H8 (upd H8 z1 (.lst (IL X))) := (Same.refl H8).new nz1
      have ez1 : (upd H8 z1 (.lst (IL X))) z1 = some (.lst (IL X)) := upd_same
      have z1r : z1 ≠ ha := Ne.symm (ne_of_none er nz1)
      generalize upd H8 z1 (.lst (IL X)) = H9 at b1 ez1 ⊢
      refine ⟨vs, b1 _ _ er, ?_, vs ++ [.ref z1], (s8.trans b1).mut nha, upd_same, ?_⟩
      · rw [P_len hV]
        exact szl (Nat.le_trans (List.length_take_le' _ _) (by omega))
      · rw [take_more hX]
        exact P_append ((hV.same b1).up) (.cons ⟨z1, rfl, z1r, by rw [upd_ne z1r]; exact ez1⟩ .nil)
    rintro H8 ⟨hs, s78, eha, hV⟩
    rw [ul7, List.take_length] at hV
    refine nextS ?_
    have due8 := due7.same s78
    have s8 := s7.trans s78
    have s08 : Same H H8 := t3.trans s8
    have esp8 := s78 _ _ esp7
    have hR8 := hR7.same s78
    have tb8 := Tb.same tb s08
    have qs : QS K H8 hs SS := P_mono (fun _ _ ⟨a, e, _, q⟩ => ⟨a, e, .inl (SqL.of q)⟩) hV
    have noD : ∀ o ps, (∃ xs, o = HO.lst xs) ∨ (∃ xs, o = HO.tup xs) → o ≠ HO.tbl ps := fun o ps h e => by
      rcases h with ⟨_, rfl⟩ | ⟨_, rfl⟩ <;> cases e
    have exL : ∀ {H9 : Hp}, ExtN H8 H9 → ∀ {a xs}, H8 a = some (.lst xs) → H9 a = some (.lst xs) := fun x _ _ h => x _ _ h fun ps => noD _ ps (.inl ⟨_, rfl⟩)
    have exT : ∀ {H9 : Hp}, ExtN H8 H9 → ∀ {a xs}, H8 a = some (.tup xs) → H9 a = some (.tup xs) := fun x _ _ h => x _ _ h fun ps => noD _ ps (.inr ⟨_, rfl⟩)
    have exR : ∀ {H9 : Hp}, ExtN H8 H9 → ∀ {o us L}, RO o H8 us L → LS K H9 us L := fun x _ _ _ h => P_mono (fun _ _ ⟨a, e, _, q⟩ => ⟨a, e, SqL.of (exL x q)⟩) h
    have eqLL : ∀ L : List Lot, PyData.eqv (PySem.W.Datum.toD (α := List (List Int)) L) (PySem.W.Datum.toD (α := List (List Int)) L) = true := fun L => by rw [PySem.W.Datum.eqv]; exact decide_eq_true rfl
    rcases due8 with ⟨full8, many, edt⟩ | ⟨r, ws, L, edt, er, hLS, dis, Ll, LT⟩
    · refine asgN ⟨_, rfl, _, rfl, ?_⟩
      refine ask_many rfl (.inl (SqL.of eha)) qs (by omega) (by omega) small7 tb8 full8 many fun ad H9 x9 tb9 ead σ' e => ?_
      obtain rfl : σ' = [some (.int c), some (.ref dp), some (.ref g), some (nV cap), some (.ref sp), some (.ref dt), some (.ref ha), some (.ref ad), none] := e.symm
      clear e
      refine ⟨_, rfl, _, rfl, _, _, dpLL (SqL.of (exL x9 eha)) (exR x9 hV), dpLL (SqL.of (exL x9 esp8)) (exR x9 hR8), shapedLL _, shapedLL _, _, rfl, ?_⟩
      rw [eqLL]
      have edt9 := exT x9 edt
      refine iteF ⟨_, rfl, ad, _, 0, .str "refused", rfl, rfl, SqT.of ead, rfl, _, rfl, dt, _, 0, .str "refused", rfl, rfl, SqT.of edt9, rfl, rfl, _, rfl, ?_⟩
      rw [decide_eq_true (show V.str "refused" = V.str "refused" from rfl)]
      refine iteF ⟨_, rfl, dt, _, 0, .str "refused", rfl, rfl, SqT.of edt9, rfl, rfl, _, rfl, ?_⟩
      rw [decide_eq_true (show V.str "refused" = V.str "refused" from rfl)]
      refine iteT ?_
      have x09 : ExtN H H9 := (ExtN.of s08).trans x9
      refine ⟨_, rfl, _, rfl, dRef, dRef, .tup (SqT.of ead) (.cons (.str _) (.cons (.str _) (.cons (.int _) .nil))), .tup (SqT.of edt9) (.cons (.str _) (.cons (.str _) (.cons (.int _) .nil))), shaped_ref, shaped_ref, ?_⟩
      rw [eqv_ref]
      refine ⟨true, rfl, iteT ?_⟩
      refine ⟨sp2, fun p1 m1 => ⟨sp2, fun p2 m2 => ⟨sp2, fun p3 m3 => ?_⟩⟩⟩
      have c1 : Same H9 (upd H9 p1 (.lst (IL [3, 3]))) := (Same.refl H9).new m1
      have e1 : (upd H9 p1 (.lst (IL [3, 3]))) p1 = some (.lst (IL [3, 3])) := upd_same
      have c2 := (Same.refl (upd H9 p1 (.lst (IL [3, 3])))).new (o := .tup (IL [1, 3])) m2
      have e2 : (upd (upd H9 p1 (.lst (IL [3, 3]))) p2 (.tup (IL [1, 3]))) p2 = some (.tup (IL [1, 3])) := upd_same
      have c3 := (Same.refl (upd (upd H9 p1 (.lst (IL [3, 3]))) p2 (.tup (IL [1, 3])))).new (o := .lst [.ref p1, .ref p2]) m3
      have e3 : (upd (upd (upd H9 p1 (.lst (IL [3, 3]))) p2 (.tup (IL [1, 3]))) p3 (.lst [.ref p1, .ref p2])) p3 = some (.lst [.ref p1, .ref p2]) := upd_same
      have e1 := c3 _ _ (c2 _ _ e1)
      have e2 := c3 _ _ e2
      have c := (c1.trans c2).trans c3
      show sp_ask K Pt _ (upd (upd (upd H9 p1 (.lst (IL [3, 3]))) p2 (.tup (IL [1, 3]))) p3 (.lst [.ref p1, .ref p2])) _ _
      generalize upd (upd (upd H9 p1 (.lst (IL [3, 3]))) p2 (.tup (IL [1, 3]))) p3 (.lst [.ref p1, .ref p2]) = H10 at c e1 e2 e3 ⊢
      refine ask_told (most := 1) rfl (.inl (SqL.of e3)) (.cons ⟨p1, rfl, .inl (SqL.of e1)⟩ (.cons ⟨p2, rfl, .inr (SqT.of e2)⟩ .nil)) (by decide) (by decide) (fun s hs => ?_) (Tb.same tb9 c) three_due fun t r H11 told => ?_
      · simp only [List.mem_cons, List.not_mem_nil, or_false] at hs
        rcases hs with rfl | rfl <;> decide
      obtain ⟨x11, tb11, et, nr, us', er, ln⟩ := told
      cases ln with | @cons _ _ _ _ hu ln => cases ln with | nil =>
      obtain ⟨a3, rfl, _, ea3⟩ := hu
      refine ⟨(by show 1 ≤ sizeLine; decide), fun p4 m4 => ⟨(by show 1 ≤ sizeLine; decide), fun p5 m5 => ⟨sp2, fun p6 m6 => ?_⟩⟩⟩
      have k1 : Same H11 (upd H11 p4 (.lst (IL [3]))) := (Same.refl H11).new m4
      have f1 : (upd H11 p4 (.lst (IL [3]))) p4 = some (.lst (IL [3])) := upd_same
      have k2 := (Same.refl (upd H11 p4 (.lst (IL [3])))).new (o := .lst [.ref p4]) m5
      have f2 : (upd (upd H11 p4 (.lst (IL [3]))) p5 (.lst [.ref p4])) p5 = some (.lst [.ref p4]) := upd_same
      have k3 := (Same.refl (upd (upd H11 p4 (.lst (IL [3]))) p5 (.lst [.ref p4]))).new (o := .tup [.str "told", .ref p5]) m6
      have f3 : (upd (upd (upd H11 p4 (.lst (IL [3]))) p5 (.lst [.ref p4])) p6 (.tup [.str "told", .ref p5])) p6 = some (.tup [.str "told", .ref p5]) := upd_same
      have f1 := k3 _ _ (k2 _ _ f1)
      have f2 := k3 _ _ f2
      have kk := (k1.trans k2).trans k3
      refine ⟨dThree, dThree, .tup (SqT.of (kk _ _ et)) (.cons (.str _) (.cons (.lst (SqL.of (kk _ _ er)) (.cons (.lst (SqL.of (kk _ _ ea3)) (.cons (.int _) .nil)) .nil)) .nil)), .tup (SqT.of f3) (.cons (.str _) (.cons (.lst (SqL.of f2) (.cons (.lst (SqL.of f1) (.cons (.int _) .nil)) .nil)) .nil)), shaped_three, shaped_three, ?_⟩
      rw [eqv_three]
      exact q _ (((x09.trans (ExtN.of c)).trans x11).trans (ExtN.of kk)) (Tb.same tb11 kk)
    · refine asgN ⟨_, rfl, _, rfl, ?_⟩
      refine ask_told rfl (.inl (SqL.of eha)) qs (by omega) (by omega) small7 tb8 dis fun ad r2 H9 told σ' e => ?_
      obtain rfl : σ' = [some (.int c), some (.ref dp), some (.ref g), some (nV cap), some (.ref sp), some (.ref dt), some (.ref ha), some (.ref ad), none] := e.symm
      clear e
      obtain ⟨x9, tb9, ead, nr2, us', er2, ln⟩ := told
      refine ⟨_, rfl, _, rfl, _, _, dpLL (SqL.of (exL x9 eha)) (exR x9 hV), dpLL (SqL.of (exL x9 esp8)) (exR x9 hR8), shapedLL _, shapedLL _, _, rfl, ?_⟩
      rw [eqLL]
      have edt9 := exT x9 edt
      refine iteF ⟨_, rfl, ad, _, 0, .str "told", rfl, rfl, SqT.of ead, rfl, _, rfl, dt, _, 0, .str "told", rfl, rfl, SqT.of edt9, rfl, rfl, _, rfl, ?_⟩
      rw [decide_eq_true (show V.str "told" = V.str "told" from rfl)]
      refine iteF ⟨_, rfl, dt, _, 0, .str "told", rfl, rfl, SqT.of edt9, rfl, rfl, _, rfl, ?_⟩
      rw [decide_eq_false (show ¬ V.str "told" = V.str "refused" by decide)]
      refine iteF ?_
      have x09 : ExtN H H9 := (ExtN.of s08).trans x9
      refine ⟨_, rfl, ad, _, 1, .ref r2, rfl, rfl, SqT.of ead, rfl, _, rfl, dt, _, 1, .ref r, rfl, rfl, SqT.of edt9, rfl, r2, r, _, _, L, rfl, er2, P_mono (fun _ _ ⟨a, e, _, q⟩ => ⟨a, e, q⟩) ln, SqL.of (exL x9 er), ?_, Ll, LT, q _ x09 tb9⟩
      exact hLS.ex x9
end
end K25W

namespace K25W
open PySem PySem.Spec PyProof.Rows L2 KH KD KP K25 LamX NdefX
/-! ### places apart from one another -/
def pl7 (n d : Nat) : Lot := (List.range n).map fun k : Nat => (((7 * k + d) % 211 : Nat) : Int)
theorem pl7_more (n d : Nat) : pl7 (n + 1) d = pl7 n d ++ [(((7 * n + d) % 211 : Nat) : Int)] := by
  unfold pl7
  rw [List.range_succ, List.map_append]
  rfl
theorem pl7_len (n d : Nat) : (pl7 n d).length = n := by
  unfold pl7
  rw [List.length_map, List.length_range]
theorem pl7_nd {n d : Nat} (h : n ≤ 211) : (pl7 n d).Nodup := by
  unfold pl7
  rw [List.Nodup, List.pairwise_map]
  refine List.Pairwise.imp_of_mem (fun {a b} ha hb (lt : a < b) e => ?_) List.pairwise_lt_range
  have := List.mem_range.mp ha
  have := List.mem_range.mp hb
  omega
theorem cut_mid {us : List V} {a b : Nat} (l : a ≤ b) (h : b ≤ us.length) : cutV us (some (a : Int)) (some (b : Int)) = (us.drop a).take (b - a) := by
  unfold cutV
  rw [HT.sIx_nat, HT.sIx_nat, show min a us.length = a from Nat.min_eq_left (by omega), show min b us.length = b from Nat.min_eq_left h]
theorem cut_from {us : List V} {a : Nat} (h : a ≤ us.length) : cutV us (some (a : Int)) none = us.drop a := by
  unfold cutV
  rw [HT.sIx_none, HT.sIx_nat, show min a us.length = a from Nat.min_eq_left h]
  exact List.take_of_length_le (by rw [List.length_drop]; exact Nat.le_refl _)
theorem cut_R {b : Int} {R : Lot} {lo hi : Int} {i j : Nat} (e1 : lo = 1 + (i : Int)) (e2 : hi = 1 + (i : Int) + (j : Int)) (l : i + j ≤ R.length) : cutV (IL (b :: R)) (some lo) (some hi) = IL ((R.drop i).take j) := by
  rw [show lo = ((i + 1 : Nat) : Int) by omega, show hi = ((i + 1 + j : Nat) : Int) by omega, cut_mid (by omega) (by unfold IL; rw [List.length_map, List.length_cons]; omega), show i + 1 + j - (i + 1) = j by omega]
  unfold IL
  rw [List.map_cons, List.drop_succ_cons, List.map_take, List.map_drop]
theorem cut_Rn {b : Int} {R : Lot} {lo : Int} {i : Nat} (e1 : lo = 1 + (i : Int)) (l : i ≤ R.length) : cutV (IL (b :: R)) (some lo) none = IL (R.drop i) := by
  rw [show lo = ((i + 1 : Nat) : Int) by omega, cut_from (by unfold IL; rw [List.length_map, List.length_cons]; omega)]
  unfold IL
  rw [List.map_cons, List.drop_succ_cons, List.map_drop]
theorem sort3 {x y z : Int} {ns : Lot} (nd : [x, y, z].Nodup) (pm : ns.Perm [x, y, z]) (pw : ns.Pairwise (· ≤ ·)) : ns = ins z (ins y [x]) := by
  have nd2 : ns.Nodup := pm.nodup_iff.mpr nd
  obtain ⟨n1, nd⟩ := List.nodup_cons.mp nd
  obtain ⟨n2, _⟩ := List.nodup_cons.mp nd
  simp only [List.mem_cons, List.not_mem_nil, or_false, not_or] at n1 n2
  have a2 : Asc (ins y [x]) := ins_asc (List.pairwise_singleton _ _) fun h => n1.1 (List.mem_singleton.mp h).symm
  refine asc_ext ?_ (ins_asc a2 fun h => ?_) fun w => ?_
  · exact List.Pairwise.imp (fun {a b} h => by
      obtain ⟨h1, h2⟩ := h
      have h2 : a ≠ b := h2
      omega) (List.pairwise_and_iff.mpr ⟨pw, nd2⟩)
  · rcases mem_two.mp h with e | e
    · exact n1.2 e.symm
    · exact n2 e.symm
  · rw [pm.mem_iff, mem_three]
    simp
def tr1 (x y : Int) (D : Lot) : List Lot := D.map fun z => ins z (ins y [x])
def tr2 (x : Int) (C D : Lot) : List Lot := C.flatMap fun y => tr1 x y D
theorem trs_more {O C D : Lot} {i : Nat} {x : Int} (h : O[i]? = some x) : trs (O.take (i + 1)) C D = trs (O.take i) C D ++ tr2 x C D := by
  unfold trs tr2 tr1
  rw [take_more h, List.flatMap_append]
  simp
theorem tr2_more {C D : Lot} {i : Nat} {x y : Int} (h : C[i]? = some y) : tr2 x (C.take (i + 1)) D = tr2 x (C.take i) D ++ tr1 x y D := by
  unfold tr2
  rw [take_more h, List.flatMap_append]
  simp
theorem tr2_len (x : Int) (C D : Lot) : (tr2 x C D).length = C.length * D.length := by
  unfold tr2
  induction C with
  | nil => simp
  | cons y C ih =>
    rw [List.flatMap_cons, List.length_append, ih, List.length_cons, Nat.add_mul]
    unfold tr1
    rw [List.length_map]
    omega
theorem adj3 : ∀ {d : Nat}, d < 3 → ∃ ad : Int, ([V.int 0, V.int 1, V.int (-1)] : List V)[d]? = some (V.int ad) ∧ -1 ≤ ad ∧ ad ≤ 1
  | 0, _ => ⟨0, rfl, by decide⟩
  | 1, _ => ⟨1, rfl, by decide⟩
  | 2, _ => ⟨-1, rfl, by decide⟩
section
variable {b : Int} {O C D E S1 S2 S3 : Lot}
open Classical in
/-- by where a number is -/
noncomputable def kp (b : Int) (O C D : Lot) (x : Int) : Nat := if x = b then 1 else if x ∈ O then 100 else if x ∈ C then 1000 else if x ∈ D then 10000 else 100000
theorem deep_sys (nd : (b :: (O ++ (C ++ (D ++ E)))).Nodup) (h1 : ∀ x, x ∈ S1 ↔ x ∈ [b] ++ O ++ E) (h2 : ∀ x, x ∈ S2 ↔ x ∈ C ++ E) (h3 : ∀ x, x ∈ S3 ↔ x ∈ D ++ [b] ++ E) : Sys (kp b O C D) [b] [] O C D E S1 S2 S3 := by
  obtain ⟨nb, nd⟩ := List.nodup_cons.mp nd
  obtain ⟨nO, nd, dO⟩ := List.nodup_append.mp nd
  obtain ⟨nC, nd, dC⟩ := List.nodup_append.mp nd
  obtain ⟨nD, nE, dD⟩ := List.nodup_append.mp nd
  simp only [List.mem_append, not_or] at nb
  have inO : ∀ x ∈ O, x ≠ b := fun x hx e => nb.1 (e ▸ hx)
  have inC : ∀ x ∈ C, x ≠ b ∧ x ∉ O := fun x hx => ⟨fun e => nb.2.1 (e ▸ hx), fun h => dO x h x (List.mem_append_left _ hx) rfl⟩
  have inD : ∀ x ∈ D, x ≠ b ∧ x ∉ O ∧ x ∉ C := fun x hx => ⟨fun e => nb.2.2.1 (e ▸ hx), fun h => dO x h x (List.mem_append_right _ (List.mem_append_left _ hx)) rfl, fun h => dC x h x (List.mem_append_left _ hx) rfl⟩
  have inE : ∀ x ∈ E, x ≠ b ∧ x ∉ O ∧ x ∉ C ∧ x ∉ D := fun x hx => ⟨fun e => nb.2.2.2 (e ▸ hx), fun h => dO x h x (List.mem_append_right _ (List.mem_append_right _ hx)) rfl, fun h => dC x h x (List.mem_append_right _ hx) rfl, fun h => dD x h x hx rfl⟩
  refine { a := fun x hx => ?_, b := fun x hx => (by cases hx), o := fun x hx => ?_, c := fun x hx => ?_, d := fun x hx => ?_, e := fun x hx => ?_, nA := List.nodup_cons.mpr ⟨by simp, List.nodup_nil⟩, nB := List.nodup_nil, nO := nO, nC := nC, nD := nD, nE := nE, s1 := fun x => ?_, s2 := fun x => ?_, s3 := fun x => ?_, ob := fun x _ y hy => (by cases hy) }
  · unfold kp
    rw [if_pos (List.mem_singleton.mp hx)]
  · unfold kp
    rw [if_neg (inO x hx), if_pos hx]
  · obtain ⟨z1, z2⟩ := inC x hx
    unfold kp
    rw [if_neg z1, if_neg z2, if_pos hx]
  · obtain ⟨z1, z2, z3⟩ := inD x hx
    unfold kp
    rw [if_neg z1, if_neg z2, if_neg z3, if_pos hx]
  · obtain ⟨z1, z2, z3, z4⟩ := inE x hx
    unfold kp
    rw [if_neg z1, if_neg z2, if_neg z3, if_neg z4]
  · rw [h1]
    simp only [List.mem_append, List.not_mem_nil, false_or, or_assoc]
  · rw [h2]
    simp only [List.mem_append, List.not_mem_nil, false_or]
  · rw [h3]
    simp only [List.mem_append]
    constructor
    · rintro ((z | z) | z)
      · exact .inr (.inl z)
      · exact .inl z
      · exact .inr (.inr z)
    · rintro (z | z | z)
      · exact .inl (.inr z)
      · exact .inl (.inl z)
      · exact .inr z
end
section
variable {k : Int → Nat} {b : Int} {O C D E S1 S2 S3 : Lot} {cap : Nat}
theorem deep_all (h : Sys k [b] [] O C D E S1 S2 S3) (hc : 2 < cap) : All [S1, S2, S3] cap (sortS (sgl E) ++ (sortS (prs [b] C) ++ sortS (trs O C D))) := by
  refine h.all (fun M => ?_) (fun M => ?_) (fun M => ?_) (sortS_lt (sgl_nd h.nE)) (sortS_lt (prs_nd h.a h.c (by decide) h.nA h.nC)) (sortS_lt (trs_nd h.o h.c h.d (by decide) (by decide) (by decide) h.nO h.nC h.nD))
  · rw [sortS_mem]
    exact ⟨fun z => ⟨by omega, z⟩, fun z => z.2⟩
  · rw [sortS_mem]
    refine ⟨fun z => ⟨by omega, .inr (.inl z)⟩, fun ⟨_, z⟩ => ?_⟩
    rcases z with z | z | z
    · obtain ⟨_, _, _, hy, _⟩ := mem_prs.mp z
      cases hy
    · exact z
    · obtain ⟨_, hx, _⟩ := mem_prs.mp z
      cases hx
  · rw [sortS_mem]
    exact ⟨fun z => ⟨hc, z⟩, fun z => z.2⟩
theorem deep_len (hc : 2 < cap) : (Sys.wl [b] [] O C D E cap).length = 2 + O.length + C.length + O.length * C.length * (1 + D.length) + E.length := by
  rw [Sys.wl_len, if_pos (by omega), if_pos (by omega), if_pos hc]
  simp only [List.length_cons, List.length_nil]
  rw [Nat.mul_add, Nat.mul_one, Nat.mul_assoc]
  omega
end
end K25W

namespace K25W
open PySem PySem.Spec PyProof.Rows L2 KH KD KP K25 LamX NdefX
abbrev s_law_deep_holds : Stmt := topS 27
theorem sc_law_deep_holds : FnScope ["cell", "drawn", "first", "second", "left", "third", "many", "places", "both", "ones", "twos", "threes", "every", "sets", "total", "asked", "due", "longer", "one", "two", "k", "row", "three"] ["cell"] (defScope s_law_deep_holds) := ⟨rfl, rfl, rfl, by decide +kernel, rfl, by decide +kernel, by decide +kernel⟩

section
variable {P : Program} {w : World} {K : PySem.W.Frag} {mg : Str → Option Value} {base : Heap} {CN CB CT fJ : Addr}
theorem ok_dholds {Pt f f1 f4 f5 : Addr} {fd fd1 fd4 fd5 : FuncData} (F : Fun K "_law_deep_holds" "_law_deep_holds" s_law_deep_holds f fd) (T : Txt mg) (C_law_draws : Cal P w K mg base 1 "_law_draws" ["cell", "sizes"] (sp_draws K) f1 fd1) (C_law_ask : Cal P w K mg base 6 "_law_ask" ["sets", "cap"] (sp_ask K Pt) f4 fd4) (C_law_same : Cal P w K mg base 1 "_law_same" ["told", "due"] (sp_same K) f5 fd5) : FnOk P w K mg base CX0 7 f fd ["cell"] (sp_wholds Pt) := by
  refine F.ok sc_law_deep_holds (fun vs H Q E h => ?_) (fun cdv A' outer s H vs Q E' hr h => ?_)
  · obtain ⟨c, rfl, _⟩ := h
    rfl
  · obtain ⟨c, rfl, tb, q⟩ := h
    refine ⟨_, (pss_cons (ps_set (i := 1) sc_law_deep_holds.nd rfl (.inr rfl) (pe_call C_law_draws.ok (hr.mono (by decide)) (by rfl) C_law_draws.mg C_law_draws.kp C_law_draws.b .nil pass0 (pa_cons (pv 0) (pa_cons (pe_lst (pa_cons pe_int (pa_cons pe_int (pa_cons pe_int (pa_cons pe_int (pa_cons pe_int (pa_cons pe_int pa_nil))))))) pa_nil))))
 (pss_cons (ps_set (i := 2) sc_law_deep_holds.nd rfl (.inl rfl) (pe_op op_add pe_int (pe_ix ix_list (pv 1) pe_int (fun _ _ => rfl))))
 (pss_cons (ps_set (i := 3) sc_law_deep_holds.nd rfl (.inl rfl) (pe_op op_add pe_int (pe_ix ix_list (pv 1) pe_int (fun _ _ => rfl))))
 (pss_cons (ps_set (i := 4) sc_law_deep_holds.nd rfl (.inl rfl) (pe_op op_sub (pe_op op_sub (pe_op op_sub pe_int (pv 2)) (pv 3)) (pe_op op_mul (pv 2) (pv 3))))
 (pss_cons (ps_set (i := 5) sc_law_deep_holds.nd rfl (.inl rfl) (pe_op op_fdivN (pv 4) (pe_op op_mul (pv 2) (pv 3))))
 (pss_cons (ps_set (i := 6) sc_law_deep_holds.nd rfl (.inl rfl) (pe_callB (call_max2 rfl) (by rfl) T.max (by decide +kernel) (pa_cons pe_int (pa_cons (pe_op op_add (pe_op op_sub (pv 4) (pe_op op_mul (pe_op op_mul (pv 5) (pv 2)) (pv 3))) (pe_ix ix_list (pe_lst (pa_cons pe_int (pa_cons pe_int (pa_cons (pe_un un_neg pe_int) pa_nil)))) (pe_ix ix_list (pv 1) pe_int (fun _ _ => rfl)) (fun _ _ => rfl))) pa_nil))))
 (pss_cons (ps_setLc (i := 7) (own := [("k", 20)]) (g := gName 20) (tt := tYes) rfl sc_law_deep_holds.nd rfl rfl (sw_true rfl rfl rfl (by decide +kernel)) (pi_range1 rfl T.range (pa_cons (pe_op op_add (pe_op op_add (pe_op op_add (pe_op op_add pe_int (pv 2)) (pv 3)) (pv 5)) (pv 6)) pa_nil)) (blkOk_by (N := ["cell", "drawn", "first", "second", "left", "third", "many", "places", "both", "ones", "twos", "threes", "every", "sets", "total", "asked", "due", "longer", "one", "two", "k", "row", "three"]) (sc := defScope s_law_deep_holds) (by decide +kernel)) (fun _ _ _ _ _ => (pg_name (i := 20) sc_law_deep_holds.nd rfl (.inl rfl))) (fun _ _ _ _ _ => pts_nil) (fun _ _ _ _ _ => (pe_op op_modN (pe_callTy call_int1 (by rfl) T.int (by decide +kernel) (pa_cons (pe_op op_add (pe_op op_mul pe_int (pv 20)) (pe_ix (r := rIxL K) ix_list (pv 1) pe_int (fun _ _ => rfl))) pa_nil)) pe_int)))
 (pss_cons (ps_set (i := 8) sc_law_deep_holds.nd rfl (.inr rfl) (pe_ix ix_list (pv 7) pe_int (fun _ _ => rfl)))
 (pss_cons (ps_set (i := 9) sc_law_deep_holds.nd rfl (.inl rfl) (pe_slice sl_list (pv 7) (po_some pe_int) (po_some (pe_op op_add pe_int (pv 2)))))
 (pss_cons (ps_set (i := 10) sc_law_deep_holds.nd rfl (.inl rfl) (pe_slice sl_list (pv 7) (po_some (pe_op op_add pe_int (pv 2))) (po_some (pe_op op_add (pe_op op_add pe_int (pv 2)) (pv 3)))))
 (pss_cons (ps_set (i := 11) sc_law_deep_holds.nd rfl (.inl rfl) (pe_slice sl_list (pv 7) (po_some (pe_op op_add (pe_op op_add pe_int (pv 2)) (pv 3))) (po_some (pe_op op_add (pe_op op_add (pe_op op_add pe_int (pv 2)) (pv 3)) (pv 5)))))
 (pss_cons (ps_set (i := 12) sc_law_deep_holds.nd rfl (.inl rfl) (pe_slice sl_list (pv 7) (po_some (pe_op op_add (pe_op op_add (pe_op op_add pe_int (pv 2)) (pv 3)) (pv 5))) po_none))
 (pss_cons (ps_set (i := 13) sc_law_deep_holds.nd rfl (.inl rfl) (pe_lst (pa_cons (pe_op op_cat (pe_op op_cat (pe_lst (pa_cons (pv 8) pa_nil)) (pv 9)) (pv 12)) (pa_cons (pe_op op_cat (pv 10) (pv 12)) (pa_cons (pe_op op_cat (pe_op op_cat (pv 11) (pe_lst (pa_cons (pv 8) pa_nil))) (pv 12)) pa_nil)))))
 (pss_cons (ps_if (pt_cmpR op_eq (pe_ix ix_list (pv 1) pe_int (fun _ _ => rfl)) pe_int (nomark _))
 (pss_one (ps_setLc (i := 13) (own := [("row", 21)]) (g := gName 21) (tt := tYes) rfl sc_law_deep_holds.nd rfl rfl (sw_true rfl rfl rfl (by decide +kernel)) (pi_list (pv 13)) (blkOk_by (N := ["cell", "drawn", "first", "second", "left", "third", "many", "places", "both", "ones", "twos", "threes", "every", "sets", "total", "asked", "due", "longer", "one", "two", "k", "row", "three"]) (sc := defScope s_law_deep_holds) (by decide +kernel)) (fun _ _ _ _ _ => (pg_name (i := 21) sc_law_deep_holds.nd rfl (.inl rfl))) (fun _ _ _ _ _ => pts_nil) (fun _ _ _ _ _ => (pe_lstRevK (K := K) (by rfl) (by rfl) (by rfl) T.list (by rfl) T.reversed (pv 21)))))
 pss_nil)
 (pss_cons (ps_set (i := 14) sc_law_deep_holds.nd rfl (.inl rfl) (pe_op op_add (pe_op op_add (pe_op op_add (pe_op op_add pe_int (pv 2)) (pv 3)) (pe_op op_mul (pe_op op_mul (pv 2) (pv 3)) (pe_op op_add pe_int (pv 5)))) (pv 6)))
 (pss_cons (ps_set (i := 15) sc_law_deep_holds.nd rfl (.inl rfl) (pe_call C_law_ask.ok (hr.mono (by decide)) (by rfl) C_law_ask.mg C_law_ask.kp C_law_ask.b .nil pass0 (pa_cons (pe_lc (own := [("row", 21)]) (g := gName 21) (tt := tYes) rfl sc_law_deep_holds.nd (pi_list (pv 13)) (blkOk_by (N := ["cell", "drawn", "first", "second", "left", "third", "many", "places", "both", "ones", "twos", "threes", "every", "sets", "total", "asked", "due", "longer", "one", "two", "k", "row", "three"]) (sc := defScope s_law_deep_holds) (by decide +kernel)) (fun _ _ _ _ _ => (pg_name (i := 21) sc_law_deep_holds.nd rfl (.inl rfl))) (fun _ _ _ _ _ => pts_nil) (fun _ _ _ _ _ => (pe_callTy (r := rListOf K) call_list_of (by rfl) T.list (by decide +kernel) (pa_cons (pv 21) pa_nil)))) (pa_cons (pe_op op_add pe_int (pe_ix ix_list (pv 1) pe_int (fun _ _ => rfl))) pa_nil))))
 (pss_cons (ps_if (pt_cmpR op_gt (pv 14) pe_int (nomark _))
 (pss_one (ps_ret (pe_cmpR (op_eqD hr.units) (pv 15) (pe_tup (pa_cons pe_str (pa_cons pe_str (pa_cons pe_int pa_nil)))) (nomark _))))
 pss_nil)
 (pss_cons (ps_set (i := 16) sc_law_deep_holds.nd rfl (.inl rfl) (pe_op op_cat (pe_callB (cr_sortedA (List Int) hr.units (by decide) sortL) (by rfl) T.sorted (by decide +kernel) (pa_cons (pe_lc (own := [("one", 18)]) (g := gName 18) (tt := tYes) rfl sc_law_deep_holds.nd (pi_list (pv 12)) (blkOk_by (N := ["cell", "drawn", "first", "second", "left", "third", "many", "places", "both", "ones", "twos", "threes", "every", "sets", "total", "asked", "due", "longer", "one", "two", "k", "row", "three"]) (sc := defScope s_law_deep_holds) (by decide +kernel)) (fun _ _ _ _ _ => (pg_name (i := 18) sc_law_deep_holds.nd rfl (.inl rfl))) (fun _ _ _ _ _ => pts_nil) (fun _ _ _ _ _ => (pe_lst (pa_cons (pv 18) pa_nil)))) pa_nil)) (pe_callB (cr_sortedA (List Int) hr.units (by decide) sortL) (by rfl) T.sorted (by decide +kernel) (pa_cons (pe_lc (own := [("two", 19)]) (g := gName 19) (tt := tYes) rfl sc_law_deep_holds.nd (pi_list (pv 10)) (blkOk_by (N := ["cell", "drawn", "first", "second", "left", "third", "many", "places", "both", "ones", "twos", "threes", "every", "sets", "total", "asked", "due", "longer", "one", "two", "k", "row", "three"]) (sc := defScope s_law_deep_holds) (by decide +kernel)) (fun _ _ _ _ _ => (pg_name (i := 19) sc_law_deep_holds.nd rfl (.inl rfl))) (fun _ _ _ _ _ => pts_nil) (fun _ _ _ _ _ => (pe_callB (r := rSortedI K) cr_sortedI (by rfl) T.sorted (by decide +kernel) (pa_cons (pe_lst (pa_cons (pv 8) (pa_cons (pv 19) pa_nil))) pa_nil)))) pa_nil))))
 (pss_cons (ps_set (i := 17) sc_law_deep_holds.nd rfl (.inl rfl) (pe_lst pa_nil))
 (pss_cons (ps_for PassesOwn.never rfl (pi_list (pv 9)) (pg_name (i := 18) sc_law_deep_holds.nd rfl (.inr rfl))
 (pss_one (ps_for PassesOwn.never rfl (pi_list (pv 10)) (pg_name (i := 19) sc_law_deep_holds.nd rfl (.inr rfl))
 (pss_one (ps_expr (pe_bm PySem.F.plainAttrs_list PySem.F.slot_list_extend PySem.F.type_list_extend mt_extend (pv 17) (pa_cons (pe_lc (own := [("three", 22)]) (g := gName 22) (tt := tYes) rfl sc_law_deep_holds.nd (pi_list (pv 11)) (blkOk_by (N := ["cell", "drawn", "first", "second", "left", "third", "many", "places", "both", "ones", "twos", "threes", "every", "sets", "total", "asked", "due", "longer", "one", "two", "k", "row", "three"]) (sc := defScope s_law_deep_holds) (by decide +kernel)) (fun _ _ _ _ _ => (pg_name (i := 22) sc_law_deep_holds.nd rfl (.inl rfl))) (fun _ _ _ _ _ => pts_nil) (fun _ _ _ _ _ => (pe_callB (r := rSortedI K) cr_sortedI (by rfl) T.sorted (by decide +kernel) (pa_cons (pe_lst (pa_cons (pv 18) (pa_cons (pv 19) (pa_cons (pv 22) pa_nil)))) pa_nil)))) pa_nil)))))))
 (pss_one (ps_ret (pe_and (pe_cmpR op_eq (pe_ix ix_tup (pv 15) pe_int (fun _ _ => rfl)) pe_str (nomark _)) (pe_one (pe_call C_law_same.ok (hr.mono (by decide)) (by rfl) C_law_same.mg C_law_same.kp C_law_same.b .nil pass0 (pa_cons (pe_ix ix_tup (pv 15) pe_int (fun _ _ => rfl)) (pa_cons (pe_op op_cat (pv 16) (pe_callB (cr_sortedA (List Int) hr.units (by decide) sortL) (by rfl) T.sorted (by decide +kernel) (pa_cons (pv 17) pa_nil))) pa_nil))))))))))))))))))))))))))), ?_⟩
    refine asgN ⟨_, rfl, (by show 6 ≤ sizeLine; decide), fun z nz => ⟨z, c, [5, 3, 211, 3, 2, 2], rfl, SqL.of upd_same, by decide, by decide, fun dp ds H2 s2 ndp edp dr σ' e => ?_⟩⟩
    obtain rfl : σ' = [some (.int c), some (.ref dp), none, none, none, none, none, none, none, none, none, none, none, none, none, none, none, none, none, none, none, none, none] := e.symm
    clear e
    have t2 : Same H H2 := ((Same.refl H).new nz).trans s2
    obtain ⟨d0, d1, d2, d3, d4, d5, rfl, b0, b1, b2, b3, b4, b5⟩ : ∃ d0 d1 d2 d3 d4 d5, ds = [d0, d1, d2, d3, d4, d5] ∧ d0 < 5 ∧ d1 < 3 ∧ d2 < 211 ∧ d3 < 3 ∧ d4 < 2 ∧ d5 < 2 := by
      cases dr with | cons h0 dr => cases dr with | cons h1 dr => cases dr with | cons h2 dr => cases dr with | cons h3 dr => cases dr with | cons h4 dr => cases dr with | cons h5 dr => cases dr with | nil => exact ⟨_, _, _, _, _, _, rfl, h0, h1, h2, h3, h4, h5⟩
    have hD : SqL K H2 dp ([d0, d1, d2, d3, d4, d5].map nV) := SqL.of edp
    obtain ⟨f0, ef0⟩ : ∃ n, n = 6 + d0 := ⟨_, rfl⟩
    obtain ⟨sc, esc⟩ : ∃ n, n = 8 + d1 := ⟨_, rfl⟩
    refine asgN ⟨_, rfl, dp, _, 0, nV d0, rfl, rfl, hD, at_n (j := 0) rfl, _, _, rfl, rfl, fun σ' e => ?_⟩
    obtain rfl : σ' = [some (.int c), some (.ref dp), some (nV f0), none, none, none, none, none, none, none, none, none, none, none, none, none, none, none, none, none, none, none, none] := by rw [← e, ef0]; rfl
    clear e
    refine asgN ⟨_, rfl, dp, _, 1, nV d1, rfl, rfl, hD, at_n (j := 1) rfl, _, _, rfl, rfl, fun σ' e => ?_⟩
    obtain rfl : σ' = [some (.int c), some (.ref dp), some (nV f0), some (nV sc), none, none, none, none, none, none, none, none, none, none, none, none, none, none, none, none, none, none, none] := by rw [← e, esc]; rfl
    clear e
    obtain ⟨p, ep⟩ : ∃ p, p = f0 * sc := ⟨_, rfl⟩
    have p1 : p ≤ 10 * 10 := by rw [ep]; exact Nat.mul_le_mul (by omega) (by omega)
    have p2 : 6 * 8 ≤ p := by rw [ep]; exact Nat.mul_le_mul (by omega) (by omega)
    obtain ⟨lf, elf⟩ : ∃ n, n = 1998 - f0 - sc - p := ⟨_, rfl⟩
    have zp : (f0 : Int) * (sc : Int) = (p : Int) := by rw [ep, Int.natCast_mul]
    refine asgN ⟨_, rfl, _, _, rfl, rfl, _, rfl, _, _, rfl, rfl, _, rfl, _, rfl, _, _, rfl, rfl, .inl ⟨by omega, by omega⟩, _, _, rfl, rfl, fun σ' e => ?_⟩
    obtain rfl : σ' = [some (.int c), some (.ref dp), some (nV f0), some (nV sc), some (nV lf), none, none, none, none, none, none, none, none, none, none, none, none, none, none, none, none, none, none] := by
      rw [← e]
      dsimp only [List.set]
      rw [zp, show (1998 : Int) - (f0 : Int) - (sc : Int) - (p : Int) = (lf : Int) by omega]
    clear e
    -- thirds
    obtain ⟨th, eth⟩ : ∃ n, n = lf / p := ⟨_, rfl⟩
    have hp : 0 < p := by omega
    have dm := Nat.div_add_mod lf p
    have ml := Nat.mod_lt lf hp
    rw [← eth] at dm
    have thl : th ≤ 41 := by
      rw [eth]
      have : lf / p ≤ lf / 48 := Nat.div_le_div_left (by omega) (by decide)
      omega
    refine asgN ⟨_, rfl, _, rfl, _, rfl, _, _, rfl, rfl, .inl ⟨by omega, by omega⟩, _, _, rfl, rfl, (by show CDivN _ ((f0 : Int) * (sc : Int)); rw [zp]; exact ⟨by omega, by omega⟩), fun σ' e => ?_⟩
    obtain rfl : σ' = [some (.int c), some (.ref dp), some (nV f0), some (nV sc), some (nV lf), some (nV th), none, none, none, none, none, none, none, none, none, none, none, none, none, none, none, none, none] := by
      rw [← e, eth]
      dsimp only [List.set]
      rw [zp, show ((lf : Nat) : Int).fdiv ((p : Nat) : Int) = ((lf / p : Nat) : Int) from (Int.ofNat_fdiv lf p).symm]
    clear e
    -- many
    obtain ⟨ad, had, la, lb⟩ := adj3 b3
    have zt : (th : Int) * (f0 : Int) * (sc : Int) = ((p * th : Nat) : Int) := by rw [Int.mul_assoc, zp, Int.natCast_mul, Int.mul_comm]
    have tf : th * f0 ≤ 41 * 10 := Nat.mul_le_mul thl (by omega)
    have ztf : (th : Int) * (f0 : Int) = ((th * f0 : Nat) : Int) := by rw [Int.natCast_mul]
    refine asgN ⟨_, rfl, _, rfl, _, rfl, _, _, rfl, rfl, .inl ⟨by omega, by omega⟩, _, rfl, _, _, rfl, rfl, .inr ⟨by omega, by omega⟩, _, _, rfl, rfl, _, rfl, (by show 3 ≤ sizeLine; decide), fun m nm => ⟨_, rfl, dp, _, 3, nV d3, rfl, rfl, ((Same.refl H2).new nm).seq hD, at_n (j := 3) rfl, m, _, d3, V.int ad, rfl, rfl, SqL.of upd_same, at_n had, _, _, rfl, rfl, _, _, rfl, fun σ' e => ?_⟩⟩
    have s3 : Same H2 (upd H2 m (.lst [V.int 0, V.int 1, V.int (-1)])) := (Same.refl H2).new nm
    generalize upd H2 m (.lst [V.int 0, V.int 1, V.int (-1)]) = H3 at s3 ⊢
    obtain ⟨mn, emn, mnl⟩ : ∃ mn : Nat, (if (lf : Int) - (th : Int) * (f0 : Int) * (sc : Int) + ad > 0 then (lf : Int) - (th : Int) * (f0 : Int) * (sc : Int) + ad else 0) = (mn : Int) ∧ mn ≤ 100 := by
      rw [zt]
      refine ⟨(if ((lf : Int) - ((p * th : Nat) : Int) + ad) > 0 then (lf : Int) - ((p * th : Nat) : Int) + ad else 0).toNat, ?_, ?_⟩ <;> split <;> omega
    obtain rfl : σ' = [some (.int c), some (.ref dp), some (nV f0), some (nV sc), some (nV lf), some (nV th), some (nV mn), none, none, none, none, none, none, none, none, none, none, none, none, none, none, none, none] := by
      rw [← e]
      dsimp only [List.set]
      rw [emn]
    clear e
    have t3 := t2.trans s3
    have hD3 := s3.seq hD
    -- places
    obtain ⟨n, en⟩ : ∃ n, n = 1 + f0 + sc + th + mn := ⟨_, rfl⟩
    have nl : n ≤ 211 := by omega
    refine ⟨_, rfl, _, _, rfl, rfl, _, rfl, _, _, rfl, rfl, _, rfl, _, _, rfl, rfl, _, rfl, _, _, rfl, rfl, _, rfl, (by omega), (by omega), ?_⟩
    rw [show (((1 : Int) + (f0 : Int) + (sc : Int) + (th : Int) + (mn : Int))).toNat = n by omega]
    refine fun ra nra => ?_
    refine lc_range (lo := 0) (n := n) (fun j H' => Same H3 H' ∧ H' ra = some (.lst (IL (pl7 j d2)))) ⟨(Same.refl H3).new nra, upd_same⟩ ?_ ?_
    · rintro j H6 hj ⟨s6, er⟩
      rw [show (0 : Int) + (j : Int) = (j : Int) by omega]
      refine ⟨rfl, _, rfl, _, _, rfl, rfl, .inl ⟨by omega, by omega⟩, _, rfl, dp, _, 2, nV d2, rfl, rfl, s6.seq hD3, at_n (j := 2) rfl, _, _, rfl, rfl, .inl ⟨_, rfl, _, _, rfl, rfl, (show (211 : Int) ≠ 0 by decide), _, er, ?_, s6.mut nra, ?_⟩⟩
      · rw [il, pl7_len]
        exact szl (by omega)
      · rw [upd_same, pl7_more, IL_snoc]
        dsimp only
        rw [show (7 : Int) * (j : Int) + ((d2 : Nat) : Int) = ((7 * j + d2 : Nat) : Int) by omega, show ((7 * j + d2 : Nat) : Int).fmod 211 = (((7 * j + d2) % 211 : Nat) : Int) from (Int.ofNat_fmod (7 * j + d2) 211).symm]
    rintro H4 ⟨s4, er⟩
    refine nextS ?_
    obtain ⟨b, R, eP⟩ : ∃ b R, pl7 n d2 = b :: R := by
      cases e : pl7 n d2 with
      | nil =>
        have := pl7_len n d2
        rw [e] at this
        have : 0 = n := this
        omega
      | cons b R => exact ⟨b, R, rfl⟩
    have ndP : (b :: R).Nodup := by rw [← eP]; exact pl7_nd nl
    have lR : R.length + 1 = n := by rw [← pl7_len n d2, eP]; rfl
    rw [eP] at er
    obtain ⟨O, eO⟩ : ∃ X, X = R.take f0 := ⟨_, rfl⟩
    obtain ⟨C, eC⟩ : ∃ X, X = (R.drop f0).take sc := ⟨_, rfl⟩
    obtain ⟨D, eD⟩ : ∃ X, X = (R.drop (f0 + sc)).take th := ⟨_, rfl⟩
    obtain ⟨E, eE⟩ : ∃ X, X = R.drop (f0 + sc + th) := ⟨_, rfl⟩
    have eR : R = O ++ (C ++ (D ++ E)) := by
      have h1 : D ++ E = R.drop (f0 + sc) := by
        rw [eD, eE, show R.drop (f0 + sc + th) = (R.drop (f0 + sc)).drop th from List.drop_drop.symm]
        exact List.take_append_drop th _
      have h2 : C ++ (D ++ E) = R.drop f0 := by
        rw [h1, eC, show R.drop (f0 + sc) = (R.drop f0).drop sc from List.drop_drop.symm]
        exact List.take_append_drop sc _
      rw [h2, eO]
      exact (List.take_append_drop f0 R).symm
    have lO : O.length = f0 := by rw [eO, List.length_take]; omega
    have lC : C.length = sc := by rw [eC, List.length_take, List.length_drop]; omega
    have lD : D.length = th := by rw [eD, List.length_take, List.length_drop]; omega
    have lE : E.length = mn := by rw [eE, List.length_drop]; omega
    have ndP : (b :: (O ++ (C ++ (D ++ E)))).Nodup := by rw [← eR]; exact ndP
    have t4 := t3.trans s4
    have hD4 := s4.seq hD3
    have lI : (IL (b :: R)).length = n := by rw [il]; exact lR
    refine asgN ⟨_, rfl, ra, _, 0, .int b, rfl, rfl, SqL.of er, at_n (j := 0) rfl, fun σ' e => ?_⟩
    obtain rfl : σ' = [some (.int c), some (.ref dp), some (nV f0), some (nV sc), some (nV lf), some (nV th), some (nV mn), some (.ref ra), some (.int b), none, none, none, none, none, none, none, none, none, none, none, none, none, none] := e.symm
    clear e
    -- ones
    refine asgN ⟨_, rfl, 1, rfl, _, rfl, _, _, rfl, rfl, _, rfl, ra, _, rfl, SqL.of er, fun ao nao σ' e => ?_⟩
    obtain rfl : σ' = [some (.int c), some (.ref dp), some (nV f0), some (nV sc), some (nV lf), some (nV th), some (nV mn), some (.ref ra), some (.int b), some (.ref ao), none, none, none, none, none, none, none, none, none, none, none, none, none] := e.symm
    clear e
    rw [show cutV (IL (b :: R)) (some 1) (some (1 + (f0 : Int))) = IL O by
      rw [show (1 : Int) = ((1 : Nat) : Int) from rfl, show ((1 : Nat) : Int) + (f0 : Int) = ((1 + f0 : Nat) : Int) by omega, cut_mid (by omega) (by omega), show 1 + f0 - 1 = f0 by omega, eO]
      unfold IL
      rw [List.map_take]
      rfl]
    have s5 : Same H4 (upd H4 ao (.lst (IL O))) := (Same.refl H4).new nao
    have eao : (upd H4 ao (.lst (IL O))) ao = some (.lst (IL O)) := upd_same
    generalize upd H4 ao (.lst (IL O)) = H5 at s5 eao ⊢
    -- twos
    refine asgN ⟨_, rfl, _, rfl, _, _, rfl, rfl, _, rfl, _, rfl, _, _, rfl, rfl, _, rfl, _, _, rfl, rfl, _, rfl, ra, _, rfl, SqL.of (s5 _ _ er), fun ac nac σ' e => ?_⟩
    obtain rfl : σ' = [some (.int c), some (.ref dp), some (nV f0), some (nV sc), some (nV lf), some (nV th), some (nV mn), some (.ref ra), some (.int b), some (.ref ao), some (.ref ac), none, none, none, none, none, none, none, none, none, none, none, none] := e.symm
    clear e
    rw [cut_R (i := f0) (j := sc) rfl rfl (by omega), ← eC]
    have s6 : Same H5 (upd H5 ac (.lst (IL C))) := (Same.refl H5).new nac
    have eac : (upd H5 ac (.lst (IL C))) ac = some (.lst (IL C)) := upd_same
    generalize upd H5 ac (.lst (IL C)) = H6 at s6 eac ⊢
    have s46 := s5.trans s6
    -- threes
    refine asgN ⟨_, rfl, _, rfl, _, _, rfl, rfl, _, rfl, _, _, rfl, rfl, _, rfl, _, rfl, _, _, rfl, rfl, _, rfl, _, _, rfl, rfl, _, rfl, _, _, rfl, rfl, _, rfl, ra, _, rfl, SqL.of (s46 _ _ er), fun ad_ nad σ' e => ?_⟩
    obtain rfl : σ' = [some (.int c), some (.ref dp), some (nV f0), some (nV sc), some (nV lf), some (nV th), some (nV mn), some (.ref ra), some (.int b), some (.ref ao), some (.ref ac), some (.ref ad_), none, none, none, none, none, none, none, none, none, none, none] := e.symm
    clear e
    rw [cut_R (i := f0 + sc) (j := th) (by omega) (by omega) (by omega), ← eD]
    have s7 : Same H6 (upd H6 ad_ (.lst (IL D))) := (Same.refl H6).new nad
    have ead : (upd H6 ad_ (.lst (IL D))) ad_ = some (.lst (IL D)) := upd_same
    generalize upd H6 ad_ (.lst (IL D)) = H7 at s7 ead ⊢
    have s47 := s46.trans s7
    -- every
    refine asgN ⟨_, rfl, _, rfl, _, _, rfl, rfl, _, rfl, _, _, rfl, rfl, _, rfl, _, _, rfl, rfl, _, rfl, ra, _, rfl, SqL.of (s47 _ _ er), fun ae nae σ' e => ?_⟩
    obtain rfl : σ' = [some (.int c), some (.ref dp), some (nV f0), some (nV sc), some (nV lf), some (nV th), some (nV mn), some (.ref ra), some (.int b), some (.ref ao), some (.ref ac), some (.ref ad_), some (.ref ae), none, none, none, none, none, none, none, none, none, none] := e.symm
    clear e
    rw [cut_Rn (i := f0 + sc + th) (by omega) (by omega), ← eE]
    have s8 : Same H7 (upd H7 ae (.lst (IL E))) := (Same.refl H7).new nae
    have eae : (upd H7 ae (.lst (IL E))) ae = some (.lst (IL E)) := upd_same
    generalize upd H7 ae (.lst (IL E)) = H8 at s8 eae ⊢
    have t8 := (t4.trans s47).trans s8
    have hO := (s6.trans (s7.trans s8)) _ _ eao
    have hC := (s7.trans s8) _ _ eac
    have hDD := s8 _ _ ead
    have hD8 := (s47.trans s8).seq hD4
    clear s5 s6 s7 s8 s46 s47 eao eac ead s4 s3 t2 t3 t4 hD hD3 hD4 er dm ml eO eC eD eE
    -- sets
    refine asgN ⟨_, rfl, (by show 1 ≤ sizeLine; decide), fun l1 nl1 => ?_⟩
    rw [show ([V.int b] : List V) = IL [b] from rfl]
    have k1 : Same H8 (upd H8 l1 (.lst (IL [b]))) := (Same.refl H8).new nl1
    have el1 : (upd H8 l1 (.lst (IL [b]))) l1 = some (.lst (IL [b])) := upd_same
    generalize upd H8 l1 (.lst (IL [b])) = G1 at k1 el1 ⊢
    have K1 : Same H8 G1 := k1
    refine ⟨_, rfl, l1, ao, _, _, rfl, rfl, el1, K1 _ _ hO, by rw [il, il]; simp only [List.length_append, List.length_cons, List.length_nil, lO, lC, lD, lE]; exact szle (by omega), fun u0 nu0 => ?_⟩
    rw [IL_app]
    have k2 : Same G1 (upd G1 u0 (.lst (IL ([b] ++ O)))) := (Same.refl G1).new nu0
    have eu0 : (upd G1 u0 (.lst (IL ([b] ++ O)))) u0 = some (.lst (IL ([b] ++ O))) := upd_same
    generalize upd G1 u0 (.lst (IL ([b] ++ O))) = G2 at k2 eu0 ⊢
    have K2 : Same H8 G2 := K1.trans k2
    refine ⟨_, rfl, u0, ae, _, _, rfl, rfl, eu0, K2 _ _ eae, by rw [il, il]; simp only [List.length_append, List.length_cons, List.length_nil, lO, lC, lD, lE]; exact szle (by omega), fun v0 nv0 => ?_⟩
    rw [IL_app]
    have k3 : Same G2 (upd G2 v0 (.lst (IL ([b] ++ O ++ E)))) := (Same.refl G2).new nv0
    have ev0 : (upd G2 v0 (.lst (IL ([b] ++ O ++ E)))) v0 = some (.lst (IL ([b] ++ O ++ E))) := upd_same
    generalize upd G2 v0 (.lst (IL ([b] ++ O ++ E))) = G3 at k3 ev0 ⊢
    have K3 : Same H8 G3 := K2.trans k3
    refine ⟨_, rfl, _, rfl, ac, ae, _, _, rfl, rfl, K3 _ _ hC, K3 _ _ eae, by rw [il, il]; simp only [List.length_append, List.length_cons, List.length_nil, lO, lC, lD, lE]; exact szle (by omega), fun v1 nv1 => ?_⟩
    rw [IL_app]
    have k4 : Same G3 (upd G3 v1 (.lst (IL (C ++ E)))) := (Same.refl G3).new nv1
    have ev1 : (upd G3 v1 (.lst (IL (C ++ E)))) v1 = some (.lst (IL (C ++ E))) := upd_same
    generalize upd G3 v1 (.lst (IL (C ++ E))) = G4 at k4 ev1 ⊢
    have K4 : Same H8 G4 := K3.trans k4
    refine ⟨_, rfl, _, rfl, (by show 1 ≤ sizeLine; decide), fun l2 nl2 => ?_⟩
    rw [show ([V.int b] : List V) = IL [b] from rfl]
    have k5 : Same G4 (upd G4 l2 (.lst (IL [b]))) := (Same.refl G4).new nl2
    have el2 : (upd G4 l2 (.lst (IL [b]))) l2 = some (.lst (IL [b])) := upd_same
    generalize upd G4 l2 (.lst (IL [b])) = G5 at k5 el2 ⊢
    have K5 : Same H8 G5 := K4.trans k5
    refine ⟨ad_, l2, _, _, rfl, rfl, K5 _ _ hDD, el2, by rw [il, il]; simp only [List.length_append, List.length_cons, List.length_nil, lO, lC, lD, lE]; exact szle (by omega), fun u2 nu2 => ?_⟩
    rw [IL_app]
    have k6 : Same G5 (upd G5 u2 (.lst (IL (D ++ [b])))) := (Same.refl G5).new nu2
    have eu2 : (upd G5 u2 (.lst (IL (D ++ [b])))) u2 = some (.lst (IL (D ++ [b]))) := upd_same
    generalize upd G5 u2 (.lst (IL (D ++ [b]))) = G6 at k6 eu2 ⊢
    have K6 : Same H8 G6 := K5.trans k6
    refine ⟨_, rfl, u2, ae, _, _, rfl, rfl, eu2, K6 _ _ eae, by rw [il, il]; simp only [List.length_append, List.length_cons, List.length_nil, lO, lC, lD, lE]; exact szle (by omega), fun v2 nv2 => ?_⟩
    rw [IL_app]
    have k7 : Same G6 (upd G6 v2 (.lst (IL (D ++ [b] ++ E)))) := (Same.refl G6).new nv2
    have ev2 : (upd G6 v2 (.lst (IL (D ++ [b] ++ E)))) v2 = some (.lst (IL (D ++ [b] ++ E))) := upd_same
    generalize upd G6 v2 (.lst (IL (D ++ [b] ++ E))) = G7 at k7 ev2 ⊢
    have K7 : Same H8 G7 := K6.trans k7
    refine ⟨(by show 3 ≤ sizeLine; decide), fun sp nsp σ' e => ?_⟩
    obtain rfl : σ' = [some (.int c), some (.ref dp), some (nV f0), some (nV sc), some (nV lf), some (nV th), some (nV mn), some (.ref ra), some (.int b), some (.ref ao), some (.ref ac), some (.ref ad_), some (.ref ae), some (.ref sp), none, none, none, none, none, none, none, none, none] := e.symm
    clear e
    have ev0 := (k4.trans (k5.trans (k6.trans k7))) _ _ ev0
    have ev1 := (k5.trans (k6.trans k7)) _ _ ev1
    have m0 := ne_of_none ev0 nsp
    have m1 := ne_of_none ev1 nsp
    have m2 := ne_of_none ev2 nsp
    have nsp8 := K7.free nsp
    have k8 : Same G7 (upd G7 sp (.lst [.ref v0, .ref v1, .ref v2])) := (Same.refl G7).new nsp
    have esp : (upd G7 sp (.lst [.ref v0, .ref v1, .ref v2])) sp = some (.lst [.ref v0, .ref v1, .ref v2]) := upd_same
    generalize upd G7 sp (.lst [.ref v0, .ref v1, .ref v2]) = G8 at k8 esp ⊢
    have K8 : Same H8 G8 := K7.trans k8
    have hR : RO sp G8 [.ref v0, .ref v1, .ref v2] [[b] ++ O ++ E, C ++ E, D ++ [b] ++ E] := .cons ⟨v0, rfl, m0, k8 _ _ ev0⟩ (.cons ⟨v1, rfl, m1, k8 _ _ ev1⟩ (.cons ⟨v2, rfl, m2, k8 _ _ ev2⟩ .nil))
    clear k1 k2 k3 k4 k5 k6 k7 k8 K1 K2 K3 K4 K5 K6 K7 el1 eu0 el2 eu2 ev0 ev1 ev2 m0 m1 m2
    -- turned
    refine seqM (fun σ H' => ∃ (sp : Addr) (us : List V) (fl : Lot → Lot), σ = [some (.int c), some (.ref dp), some (nV f0), some (nV sc), some (nV lf), some (nV th), some (nV mn), some (.ref ra), some (.int b), some (.ref ao), some (.ref ac), some (.ref ad_), some (.ref ae), some (.ref sp), none, none, none, none, none, none, none, none, none] ∧ Same H8 H' ∧ H' sp = some (.lst us) ∧ RO sp H' us [fl ([b] ++ O ++ E), fl (C ++ E), fl (D ++ [b] ++ E)] ∧ (∀ X x, x ∈ fl X ↔ x ∈ X) ∧ ∀ X, (fl X).length = X.length) (fun N qN => ?_) ?_
    · refine Dc.ifS (b := decide (nV d4 = V.int 1)) (fun Q q => ⟨_, rfl, dp, _, 4, nV d4, rfl, rfl, K8.seq hD8, at_n (j := 4) rfl, rfl, _, rfl, q⟩) (fun hc => ?_) (fun hc => ?_)
      · refine ⟨_, rfl, sp, rfl, ⟨_, SqL.of esp⟩, fun ra_ nra_ => ?_⟩
        refine lc_list (K := K) (a := sp) (xs := [.ref v0, .ref v1, .ref v2]) (fun m H' => ∃ vs, Same G8 H' ∧ H' ra_ = some (.lst vs) ∧ RO ra_ H' vs (([[b] ++ O ++ E, C ++ E, D ++ [b] ++ E].take m).map List.reverse)) ⟨[], (Same.refl G8).new nra_, upd_same, .nil⟩ (fun m H' _ ⟨_, s5, _⟩ => SqL.of (s5 _ _ esp)) ?_ ?_
        · rintro m yv H6 hy ⟨vs, s6, er, hV⟩
          obtain ⟨X, hX, a, rfl, _, ea⟩ := P_right hR hy
          refine ⟨rfl, _, rfl, a, _, rfl, SqL.of (s6 _ _ ea), fun z1 nz1 => ?_⟩
          rw [show (IL X).reverse = IL X.reverse by unfold IL; rw [List.map_reverse]]
          have b1 : Same H6 (upd H6 z1 (.lst (IL X.reverse))) := (Same.refl H6).new nz1
          have ez1 : (upd H6 z1 (.lst (IL X.reverse))) z1 = some (.lst (IL X.reverse)) := upd_same
          have z1r : z1 ≠ ra_ := Ne.symm (ne_of_none er nz1)
          generalize upd H6 z1 (.lst (IL X.reverse)) = H7 at b1 ez1 ⊢
          refine ⟨vs, b1 _ _ er, ?_, vs ++ [.ref z1], (s6.trans b1).mut nra_, upd_same, ?_⟩
          · rw [P_len hV, List.length_map]
            exact szl (Nat.le_trans (List.length_take_le' _ _) (by show 3 ≤ 10000; decide))
          · rw [take_more hX, List.map_append]
            exact P_append ((hV.same b1).up) (.cons ⟨z1, rfl, z1r, by rw [upd_ne z1r]; exact ez1⟩ .nil)
        rintro H6 ⟨vs, s6, er, hV⟩
        exact qN _ _ ⟨ra_, vs, List.reverse, rfl, K8.trans s6, er, hV, fun X x => List.mem_reverse, fun X => List.length_reverse⟩
      · exact qN _ _ ⟨sp, _, id, rfl, K8, esp, hR, fun X x => Iff.rfl, fun X => rfl⟩
    clear hR esp K8 nsp nsp8
    rintro σ H9 ⟨sp, us9, fl, rfl, s9, esp, hR, fm_, fL⟩
    have sys : Sys (kp b O C D) [b] [] O C D E (fl ([b] ++ O ++ E)) (fl (C ++ E)) (fl (D ++ [b] ++ E)) := deep_sys ndP (fun x => fm_ _ x) (fun x => fm_ _ x) (fun x => fm_ _ x)
    have full : ∀ s ∈ [fl ([b] ++ O ++ E), fl (C ++ E), fl (D ++ [b] ++ E)], s ≠ [] := fun s hs e => by
      have hl : s.length = 0 := by rw [e]; rfl
      simp only [List.mem_cons, List.not_mem_nil, or_false] at hs
      rcases hs with rfl | rfl | rfl <;> rw [fL] at hl <;> simp only [List.length_append, List.length_cons, List.length_nil] at hl <;> omega
    have small : ∀ s ∈ [fl ([b] ++ O ++ E), fl (C ++ E), fl (D ++ [b] ++ E)], s.length ≤ 500 := fun s hs => by
      simp only [List.mem_cons, List.not_mem_nil, or_false] at hs
      rcases hs with rfl | rfl | rfl <;> rw [fL] <;> simp only [List.length_append, List.length_cons, List.length_nil] <;> omega
    -- total
    obtain ⟨tt, ett⟩ : ∃ n, n = 2 + f0 + sc + p * (1 + th) + mn := ⟨_, rfl⟩
    have ptl : p * (1 + th) ≤ 100 * 42 := Nat.mul_le_mul (by omega) (by omega)
    refine asgN ⟨_, rfl, _, _, rfl, rfl, _, rfl, _, _, rfl, rfl, _, rfl, _, rfl, _, _, rfl, rfl, .inl ⟨by omega, by omega⟩, _, rfl, _, _, rfl, rfl, _, _, rfl, rfl, .inr ⟨by omega, by omega⟩, _, _, rfl, rfl, _, rfl, _, _, rfl, rfl, fun σ' e => ?_⟩
    obtain rfl : σ' = [some (.int c), some (.ref dp), some (nV f0), some (nV sc), some (nV lf), some (nV th), some (nV mn), some (.ref ra), some (.int b), some (.ref ao), some (.ref ac), some (.ref ad_), some (.ref ae), some (.ref sp), some (nV tt), none, none, none, none, none, none, none, none] := by
      rw [← e]
      dsimp only [List.set]
      rw [zp, show (p : Int) * (1 + (th : Int)) = ((p * (1 + th) : Nat) : Int) by rw [Int.natCast_mul]; rfl, show (2 : Int) + (f0 : Int) + (sc : Int) + ((p * (1 + th) : Nat) : Int) + (mn : Int) = (tt : Int) by omega]
    clear e
    have wlen : (Sys.wl [b] [] O C D E (3 + d5)).length = tt := by
      rw [deep_len (by omega), lO, lC, lD, lE, ← ep, ett]
    -- asked
    have hD9 := s9.seq hD8
    have hO9 := s9 _ _ hO
    have hC9 := s9 _ _ hC
    have hT9 := s9 _ _ hDD
    have hE9 := s9 _ _ eae
    have t9 := t8.trans s9
    have ul9 : us9.length = 3 := P_len hR
    refine asgN ⟨_, rfl, sp, rfl, ⟨_, SqL.of esp⟩, fun ha nha => ?_⟩
    refine lc_list (K := K) (a := sp) (xs := us9) (fun m H' => ∃ vs, Same H9 H' ∧ H' ha = some (.lst vs) ∧ RO ha H' vs ([fl ([b] ++ O ++ E), fl (C ++ E), fl (D ++ [b] ++ E)].take m)) ⟨[], (Same.refl H9).new nha, upd_same, .nil⟩ (fun m H' _ ⟨_, s5, _⟩ => SqL.of (s5 _ _ esp)) ?_ ?_
    · rintro m yv H6 hy ⟨vs, s6, er, hV⟩
      obtain ⟨X, hX, a, rfl, _, ea⟩ := P_right hR hy
      refine ⟨rfl, _, rfl, a, _, rfl, .inl (SqL.of (s6 _ _ ea)), fun z1 nz1 => ?_⟩
      have b1 : Same H6 (upd H6 z1 (.lst (IL X))) := (Same.refl H6).new nz1
      have ez1 : (upd H6 z1 (.lst (IL X))) z1 = some (.lst (IL X)) := upd_same
      have z1r : z1 ≠ ha := Ne.symm (ne_of_none er nz1)
      generalize upd H6 z1 (.lst (IL X)) = H7 at b1 ez1 ⊢
      refine ⟨vs, b1 _ _ er, ?_, vs ++ [.ref z1], (s6.trans b1).mut nha, upd_same, ?_⟩
      · rw [P_len hV]
        exact szl (Nat.le_trans (List.length_take_le' _ _) (by show 3 ≤ 10000; decide))
      · rw [take_more hX]
        exact P_append ((hV.same b1).up) (.cons ⟨z1, rfl, z1r, by rw [upd_ne z1r]; exact ez1⟩ .nil)
    rintro H10 ⟨hs, s10, eha, hV⟩
    rw [ul9] at hV
    refine ⟨_, rfl, dp, _, 5, nV d5, rfl, rfl, s10.seq hD9, at_n (j := 5) rfl, _, _, rfl, rfl, ?_⟩
    have qs : QS K H10 hs [fl ([b] ++ O ++ E), fl (C ++ E), fl (D ++ [b] ++ E)] := P_mono (fun _ _ ⟨a, e, _, q⟩ => ⟨a, e, .inl (SqL.of q)⟩) hV
    have tb10 := Tb.same tb (t9.trans s10)
    have hvs : [V.ref ha, V.int (3 + (d5 : Int))] ++ [] = [.ref ha, nV (3 + d5)] := by
      rw [show (3 : Int) + (d5 : Int) = ((3 + d5 : Nat) : Int) by omega]
      rfl
    have x010 : ExtN H H10 := ExtN.of (t9.trans s10)
    by_cases many : 2000 < tt
    · refine ask_many hvs (.inl (SqL.of eha)) qs (by omega) (by show 3 ≤ 100; decide) small tb10 full ⟨_, sys.wl_nd, fun T hT => sys.lk_iff.mpr hT, by rw [wlen]; exact many⟩ fun ad9 H11 x11 tb11 ead σ' e => ?_
      obtain rfl : σ' = [some (.int c), some (.ref dp), some (nV f0), some (nV sc), some (nV lf), some (nV th), some (nV mn), some (.ref ra), some (.int b), some (.ref ao), some (.ref ac), some (.ref ad_), some (.ref ae), some (.ref sp), some (nV tt), some (.ref ad9), none, none, none, none, none, none, none] := e.symm
      clear e
      refine Dc.ifS (b := true) (fun Q q => ⟨_, rfl, _, _, rfl, rfl, _, rfl, by rw [show decide ((2000 : Int) < (tt : Int)) = true from decide_eq_true (by omega)]; exact q⟩) (fun hb => ?_) (fun hb => Bool.noConfusion hb)
      refine ⟨_, rfl, (by show 3 ≤ sizeLine; decide), fun t nt => ?_⟩
      have b1 : Same H11 (upd H11 t (.tup [.str "refused", .str "lots", .int 2000])) := (Same.refl H11).new nt
      refine ⟨dRef, dRef, .tup (SqT.of (b1 _ _ ead)) (.cons (.str _) (.cons (.str _) (.cons (.int _) .nil))), .tup (SqT.of upd_same) (.cons (.str _) (.cons (.str _) (.cons (.int _) .nil))), shaped_ref, shaped_ref, ?_⟩
      rw [eqv_ref]
      exact q _ ((x010.trans x11).trans (ExtN.of b1)) (Tb.same tb11 b1)
    have al := deep_all (cap := 3 + d5) sys (by omega)
    refine ask_told hvs (.inl (SqL.of eha)) qs (by omega) (by show 3 ≤ 100; decide) small tb10 (.inr ⟨full, al, fun seen nd m => by have := sys.seen_le nd m; rw [wlen] at this; omega⟩) fun ad9 r9 H11 told σ' e => ?_
    obtain rfl : σ' = [some (.int c), some (.ref dp), some (nV f0), some (nV sc), some (nV lf), some (nV th), some (nV mn), some (.ref ra), some (.int b), some (.ref ao), some (.ref ac), some (.ref ad_), some (.ref ae), some (.ref sp), some (nV tt), some (.ref ad9), none, none, none, none, none, none, none] := e.symm
    clear e
    obtain ⟨x11, tb11, ead, nr11, us11, er11, ln⟩ := told
    have hL11 : LL H11 us11 (sortS (sgl E) ++ (sortS (prs [b] C) ++ sortS (trs O C D))) := P_mono (fun _ _ ⟨a, e, _, q⟩ => ⟨a, e, q⟩) ln
    have x011 := x010.trans x11
    have exL : ∀ {a xs}, H9 a = some (.lst xs) → H11 a = some (.lst xs) := fun {a xs} h => x11 _ _ (s10 _ _ h) fun ps e => by cases e
    have hO1 := exL hO9
    have hC1 := exL hC9
    have hT1 := exL hT9
    have hE1 := exL hE9
    refine Dc.ifS (b := false) (fun Q q => ⟨_, rfl, _, _, rfl, rfl, _, rfl, by rw [show decide ((2000 : Int) < (tt : Int)) = false from decide_eq_false (by omega)]; exact q⟩) (fun hb => Bool.noConfusion hb) (fun hb => ?_)
    clear hb
    refine nextS ?_
    clear hR esp hV eha qs nha ln s10 s9 hO hC hDD eae t8
    -- due
    have lsgl : (sgl E).length ≤ 100 := by unfold sgl; rw [List.length_map]; omega
    have lprs : (prs [b] C).length ≤ 10 := by rw [prs_len]; show 1 * C.length ≤ 10; omega
    have ltrs : (trs O C D).length ≤ 4100 := by
      rw [trs_len, ← Nat.mul_assoc, lO, lC, lD, ← ep]
      exact Nat.mul_le_mul (by omega : p ≤ 100) (by omega : th ≤ 41)
    refine asgN ⟨_, rfl, ae, rfl, ⟨_, SqL.of hE1⟩, fun r1 n1 => ?_⟩
    refine lc_list (K := K) (a := ae) (xs := IL E) (fun m H' => ∃ vs, Same H11 H' ∧ H' r1 = some (.lst vs) ∧ RO r1 H' vs (sgl (E.take m))) ⟨[], (Same.refl H11).new n1, upd_same, .nil⟩ (fun m H' _ ⟨_, s5, _⟩ => SqL.of (s5 _ _ hE1)) ?_ ?_
    · rintro m yv H6 hy ⟨vs, s6, er, hV⟩
      obtain ⟨y, hyy, rfl⟩ := getn_inv hy
      refine ⟨rfl, _, rfl, (by show 1 ≤ sizeLine; decide), fun z1 nz1 => ?_⟩
      have b1 : Same H6 (upd H6 z1 (.lst [V.int y])) := (Same.refl H6).new nz1
      have ez1 : (upd H6 z1 (.lst [V.int y])) z1 = some (.lst (IL [y])) := upd_same
      have z1r : z1 ≠ r1 := Ne.symm (ne_of_none er nz1)
      generalize upd H6 z1 (.lst [V.int y]) = H7 at b1 ez1 ⊢
      refine ⟨vs, b1 _ _ er, ?_, vs ++ [.ref z1], (s6.trans b1).mut n1, upd_same, ?_⟩
      · rw [P_len hV]
        unfold sgl
        rw [List.length_map]
        exact szl (Nat.le_trans (List.length_take_le' _ _) (by omega))
      · unfold sgl
        rw [take_more hyy, List.map_append]
        exact P_append ((hV.same b1).up) (.cons ⟨z1, rfl, z1r, by rw [upd_ne z1r]; exact ez1⟩ .nil)
    rintro H12 ⟨vs1, s12, er1, hV1⟩
    rw [il, List.take_length] at hV1
    refine ⟨r1, vs1, sgl E, rfl, SqL.of er1, ls_dp (P_mono (fun _ _ ⟨a, e, _, q⟩ => ⟨a, e, SqL.of q⟩) hV1), fun ys1 y1 dy1 _ ny1 => ?_⟩
    rw [sort_L] at dy1
    have s13 : Same H12 (upd H12 y1 (.lst ys1)) := (Same.refl H12).new ny1
    have ey1 : (upd H12 y1 (.lst ys1)) y1 = some (.lst ys1) := upd_same
    have hY1 : LS K (upd H12 y1 (.lst ys1)) ys1 (sortS (sgl E)) := (ls_of dy1).same s13
    generalize upd H12 y1 (.lst ys1) = H13 at s13 ey1 hY1 ⊢
    have s113 := s12.trans s13
    have hC13 := s113 _ _ hC1
    refine ⟨_, rfl, ac, rfl, ⟨_, SqL.of hC13⟩, fun r2 n2 => ?_⟩
    refine lc_list (K := K) (a := ac) (xs := IL C) (fun m H' => ∃ vs, Same H13 H' ∧ H' r2 = some (.lst vs) ∧ RO r2 H' vs ((C.take m).map fun y => ins y [b])) ⟨[], (Same.refl H13).new n2, upd_same, .nil⟩ (fun m H' _ ⟨_, s5, _⟩ => SqL.of (s5 _ _ hC13)) ?_ ?_
    · rintro m yv H6 hy ⟨vs, s6, er, hV⟩
      obtain ⟨y, hyy, rfl⟩ := getn_inv hy
      have ne : b ≠ y := (sys.pair_ne (.inr (.inl ⟨List.mem_singleton.mpr rfl, List.mem_of_getElem? hyy⟩))).1
      refine ⟨rfl, _, rfl, _, rfl, sp2, fun z1 nz1 => ⟨z1, [b, y], rfl, SqL.of upd_same, fun ns z2 pm pw nz2 => ?_⟩⟩
      rw [sort2 ne pm pw]
      have b1 : Same H6 (upd H6 z1 (.lst [V.int b, V.int y])) := (Same.refl H6).new nz1
      generalize upd H6 z1 (.lst [V.int b, V.int y]) = H7 at b1 nz2 ⊢
      have b2 : Same H7 (upd H7 z2 (.lst (IL (ins y [b])))) := (Same.refl H7).new nz2
      have ez2 : (upd H7 z2 (.lst (IL (ins y [b])))) z2 = some (.lst (IL (ins y [b]))) := upd_same
      have b12 := b1.trans b2
      have z2r : z2 ≠ r2 := Ne.symm (ne_of_none (b1 _ _ er) nz2)
      show ∃ acc, (upd H7 z2 (.lst (IL (ins y [b])))) r2 = _ ∧ _
      generalize upd H7 z2 (.lst (IL (ins y [b]))) = H8' at b2 ez2 b12 ⊢
      refine ⟨vs, b12 _ _ er, ?_, vs ++ [.ref z2], (s6.trans b12).mut n2, upd_same, ?_⟩
      · rw [P_len hV, List.length_map]
        exact szl (Nat.le_trans (List.length_take_le' _ _) (by omega))
      · rw [take_more hyy, List.map_append]
        exact P_append ((hV.same b12).up) (.cons ⟨z2, rfl, z2r, by rw [upd_ne z2r]; exact ez2⟩ .nil)
    rintro H14 ⟨vs2, s14, er2, hV2⟩
    rw [il, List.take_length] at hV2
    have hV2 : RO r2 H14 vs2 (prs [b] C) := by
      unfold prs
      rw [List.flatMap_cons, List.flatMap_nil, List.append_nil]
      exact hV2
    refine ⟨r2, vs2, prs [b] C, rfl, SqL.of er2, ls_dp (P_mono (fun _ _ ⟨a, e, _, q⟩ => ⟨a, e, SqL.of q⟩) hV2), fun ys2 y2 dy2 _ ny2 => ?_⟩
    rw [sort_L] at dy2
    have s15 : Same H14 (upd H14 y2 (.lst ys2)) := (Same.refl H14).new ny2
    have ey2 : (upd H14 y2 (.lst ys2)) y2 = some (.lst ys2) := upd_same
    have hY2 : LS K (upd H14 y2 (.lst ys2)) ys2 (sortS (prs [b] C)) := (ls_of dy2).same s15
    generalize upd H14 y2 (.lst ys2) = H15 at s15 ey2 hY2 ⊢
    have s1315 := s14.trans s15
    refine ⟨y1, y2, _, _, rfl, rfl, s1315 _ _ ey1, ey2, ?_, fun dv ndv σ' e => ?_⟩
    · rw [P_len hY1, P_len hY2, sortS_len, sortS_len]
      exact szle (by omega)
    obtain rfl : σ' = [some (.int c), some (.ref dp), some (nV f0), some (nV sc), some (nV lf), some (nV th), some (nV mn), some (.ref ra), some (.int b), some (.ref ao), some (.ref ac), some (.ref ad_), some (.ref ae), some (.ref sp), some (nV tt), some (.ref ad9), some (.ref dv), none, none, none, none, none, none] := e.symm
    clear e
    have s16 : Same H15 (upd H15 dv (.lst (ys1 ++ ys2))) := (Same.refl H15).new ndv
    have edv : (upd H15 dv (.lst (ys1 ++ ys2))) dv = some (.lst (ys1 ++ ys2)) := upd_same
    generalize upd H15 dv (.lst (ys1 ++ ys2)) = H16 at s16 edv ⊢
    have hDv : LS K H16 (ys1 ++ ys2) (sortS (sgl E) ++ sortS (prs [b] C)) := P_append (hY1.same (s1315.trans s16)) (hY2.same s16)
    have s1116 := s113.trans (s1315.trans s16)
    have dvl : (ys1 ++ ys2).length ≤ 110 := by
      rw [P_len hDv, List.length_append, sortS_len, sortS_len]
      omega
    clear hY1 hY2 ey1 ey2 hV1 hV2 er1 er2 dy1 dy2 s12 s13 s14 s15 s16 s113 s1315 hC13
    -- longer
    refine asgN ⟨Nat.zero_le _, fun lg nlg σ' e => ?_⟩
    obtain rfl : σ' = [some (.int c), some (.ref dp), some (nV f0), some (nV sc), some (nV lf), some (nV th), some (nV mn), some (.ref ra), some (.int b), some (.ref ao), some (.ref ac), some (.ref ad_), some (.ref ae), some (.ref sp), some (nV tt), some (.ref ad9), some (.ref dv), some (.ref lg), none, none, none, none, none] := e.symm
    clear e
    have elg : (upd H16 lg (.lst [])) lg = some (.lst []) := upd_same
    have s17 : Same H16 (upd H16 lg (.lst [])) := (Same.refl H16).new nlg
    generalize upd H16 lg (.lst []) = H17 at elg s17 ⊢
    have hO6 := s1116 _ _ hO1
    have hC6 := s1116 _ _ hC1
    have hT6 := s1116 _ _ hT1
    refine ⟨_, rfl, ao, rfl, ⟨_, SqL.of (s17 _ _ hO6)⟩, for_list (K := K) (a := ao) (xs := IL O) (fun i σ H' => ∃ (v18 v19 : Option V) (ws : List V), σ = [some (.int c), some (.ref dp), some (nV f0), some (nV sc), some (nV lf), some (nV th), some (nV mn), some (.ref ra), some (.int b), some (.ref ao), some (.ref ac), some (.ref ad_), some (.ref ae), some (.ref sp), some (nV tt), some (.ref ad9), some (.ref dv), some (.ref lg), v18, v19, none, none, none] ∧ Same H16 H' ∧ H' lg = some (.lst ws) ∧ RO lg H' ws (trs (O.take i) C D))
      ⟨_, _, [], rfl, s17, elg, .nil⟩ (fun i σ H' _ ⟨_, _, _, _, sm, _⟩ => SqL.of (sm _ _ hO6)) ?_ ?_⟩
    · rintro i xv σ H18 hx ⟨v18, v19, ws, rfl, s18, elg, hW⟩
      obtain ⟨x, hxx, rfl⟩ := getn_inv hx
      have xO := List.mem_of_getElem? hxx
      refine ⟨_, rfl, ac, rfl, ⟨_, SqL.of (s18 _ _ hC6)⟩, for_list (K := K) (a := ac) (xs := IL C) (fun j σ H' => ∃ (v19 : Option V) (ws : List V), σ = [some (.int c), some (.ref dp), some (nV f0), some (nV sc), some (nV lf), some (nV th), some (nV mn), some (.ref ra), some (.int b), some (.ref ao), some (.ref ac), some (.ref ad_), some (.ref ae), some (.ref sp), some (nV tt), some (.ref ad9), some (.ref dv), some (.ref lg), some (.int x), v19, none, none, none] ∧ Same H16 H' ∧ H' lg = some (.lst ws) ∧ RO lg H' ws (trs (O.take i) C D ++ tr2 x (C.take j) D))
        ⟨_, ws, rfl, s18, elg, by rw [show tr2 x (C.take 0) D = [] from rfl, List.append_nil]; exact hW⟩ (fun i σ H' _ ⟨_, _, _, sm, _⟩ => SqL.of (sm _ _ hC6)) ?_ ?_⟩
      · rintro j yv σ H19 hy ⟨v19, ws, rfl, s19, elg, hW⟩
        obtain ⟨y, hyy, rfl⟩ := getn_inv hy
        have yC := List.mem_of_getElem? hyy
        have hT19 := s19 _ _ hT6
        refine ⟨_, rfl, .inl ⟨rfl, _, SqL.of elg⟩, _, rfl, ad_, rfl, ⟨_, SqL.of hT19⟩, fun ra nra => ?_⟩
        have nrl : ra ≠ lg := Ne.symm (ne_of_none elg nra)
        refine lc_list (K := K) (a := ad_) (xs := IL D) (fun m H' => ∃ vs, Same H19 H' ∧ H' ra = some (.lst vs) ∧ RX lg ra H' vs (tr1 x y (D.take m))) ⟨[], (Same.refl H19).new nra, upd_same, .nil⟩ (fun m H' _ ⟨_, s5, _⟩ => SqL.of (s5 _ _ hT19)) ?_ ?_
        · rintro m zv H6 hz ⟨vs, s6, er, hV⟩
          obtain ⟨z, hzz, rfl⟩ := getn_inv hz
          have zD := List.mem_of_getElem? hzz
          have nd3 : [x, y, z].Nodup := by
            have k1 := sys.o x xO
            have k2 := sys.c y yC
            have k3 := sys.d z zD
            have e1 : x ≠ y := fun e => by rw [e, k2] at k1; omega
            have e2 : x ≠ z := fun e => by rw [e, k3] at k1; omega
            have e3 : y ≠ z := fun e => by rw [e, k3] at k2; omega
            simp [e1, e2, e3]
          refine ⟨rfl, _, rfl, _, rfl, _, rfl, (by show 3 ≤ sizeLine; decide), fun z1 nz1 => ⟨z1, [x, y, z], rfl, SqL.of upd_same, fun ns z2 pm pw nz2 => ?_⟩⟩
          rw [sort3 nd3 pm pw]
          have b1 : Same H6 (upd H6 z1 (.lst [V.int x, V.int y, V.int z])) := (Same.refl H6).new nz1
          generalize upd H6 z1 (.lst [V.int x, V.int y, V.int z]) = H7' at b1 nz2 ⊢
          have b2 : Same H7' (upd H7' z2 (.lst (IL (ins z (ins y [x]))))) := (Same.refl H7').new nz2
          have ez2 : (upd H7' z2 (.lst (IL (ins z (ins y [x]))))) z2 = some (.lst (IL (ins z (ins y [x])))) := upd_same
          have b12 := b1.trans b2
          have z2r : z2 ≠ ra := Ne.symm (ne_of_none (b1 _ _ er) nz2)
          have z2p : z2 ≠ lg := Ne.symm (ne_of_none (b1 _ _ (s6 _ _ elg)) nz2)
          show ∃ acc, (upd H7' z2 (.lst (IL (ins z (ins y [x]))))) ra = _ ∧ _
          generalize upd H7' z2 (.lst (IL (ins z (ins y [x])))) = H8' at b2 ez2 b12 ⊢
          refine ⟨vs, b12 _ _ er, ?_, vs ++ [.ref z2], (s6.trans b12).mut nra, upd_same, ?_⟩
          · rw [P_len hV]
            unfold tr1
            rw [List.length_map]
            exact szl (Nat.le_trans (List.length_take_le' _ _) (by omega))
          · unfold tr1
            rw [take_more hzz, List.map_append]
            exact P_append ((hV.same b12).updY) (.cons ⟨z2, rfl, z2p, z2r, by rw [upd_ne z2r]; exact ez2⟩ .nil)
        rintro H6 ⟨vs, s6, er, hV⟩
        rw [il, List.take_length] at hV
        have elg6 := s6 _ _ elg
        have wsl : ws.length ≤ 4100 + 500 := by
          rw [P_len hW, List.length_append, tr2_len, trs_len]
          have h1 : (O.take i).length * (C.length * D.length) ≤ O.length * (C.length * D.length) := Nat.mul_le_mul_right _ (by rw [List.length_take]; omega)
          have h2 : (C.take j).length * D.length ≤ 10 * 41 := Nat.mul_le_mul (by rw [List.length_take]; omega) (by omega)
          rw [trs_len] at ltrs
          omega
        have vsl : vs.length ≤ 41 := by
          rw [P_len hV]
          unfold tr1
          rw [List.length_map]
          omega
        refine ⟨lg, ra, _, _, rfl, rfl, elg6, er, szle (by omega), _, ws ++ vs, rfl, (s19.trans s6).mut nlg, upd_same, ?_⟩
        rw [tr2_more hyy, ← List.append_assoc]
        exact P_append ((hW.same s6).up) (P_mono (fun _ _ ⟨a, e, n, _, q⟩ => ⟨a, e, n, by rw [upd_ne n]; exact q⟩) hV)
      · rintro σ H19 ⟨v19, ws, rfl, s19, elg, hW⟩
        rw [il, List.take_length, ← trs_more hxx] at hW
        exact ⟨_, _, ws, rfl, s19, elg, hW⟩
    rintro σ H18 ⟨v18, v19, ws, rfl, s18, elg, hW⟩
    rw [il, List.take_length] at hW
    have sE := s1116.trans s18
    have ead := sE _ _ ead
    refine ⟨_, rfl, ad9, _, 0, .str "told", rfl, rfl, SqT.of ead, rfl, rfl, ?_⟩
    rw [decide_eq_true (show V.str "told" = V.str "told" from rfl)]
    refine ⟨true, rfl, iteT ?_⟩
    refine ⟨_, rfl, ad9, _, 1, .ref r9, rfl, rfl, SqT.of ead, rfl, _, rfl, _, rfl, lg, ws, trs O C D, rfl, SqL.of elg, ls_dp (P_mono (fun _ _ ⟨a, e, _, q⟩ => ⟨a, e, SqL.of q⟩) hW), fun ys3 y3 dy3 _ ny3 => ?_⟩
    rw [sort_L] at dy3
    have s20 : Same H18 (upd H18 y3 (.lst ys3)) := (Same.refl H18).new ny3
    have ey3 : (upd H18 y3 (.lst ys3)) y3 = some (.lst ys3) := upd_same
    have hY3 : LS K (upd H18 y3 (.lst ys3)) ys3 (sortS (trs O C D)) := (ls_of dy3).same s20
    generalize upd H18 y3 (.lst ys3) = H20 at s20 ey3 hY3 ⊢
    refine ⟨dv, y3, _, _, rfl, rfl, (s18.trans s20) _ _ edv, ey3, ?_, fun v nv => ?_⟩
    · rw [P_len hY3, sortS_len]
      exact szle (by omega)
    have s21 : Same H20 (upd H20 v (.lst ((ys1 ++ ys2) ++ ys3))) := (Same.refl H20).new nv
    have ev : (upd H20 v (.lst ((ys1 ++ ys2) ++ ys3))) v = some (.lst ((ys1 ++ ys2) ++ ys3)) := upd_same
    generalize upd H20 v (.lst ((ys1 ++ ys2) ++ ys3)) = H21 at s21 ev ⊢
    have s1821 := s20.trans s21
    have hAll : LS K H21 ((ys1 ++ ys2) ++ ys3) (sortS (sgl E) ++ (sortS (prs [b] C) ++ sortS (trs O C D))) := by
      rw [← List.append_assoc]
      exact P_append (hDv.same (s18.trans s1821)) (hY3.same s21)
    have sF := sE.trans s1821
    refine ⟨r9, v, us11, _, _, rfl, sF _ _ er11, hL11.same sF, SqL.of ev, hAll, ?_, fun T hT => ?_, q _ (x011.trans (ExtN.of sF)) (Tb.same tb11 sF)⟩
    · rw [List.length_append, List.length_append, sortS_len, sortS_len, sortS_len]
      omega
    · have := ((al.mem T).mp hT).2
      omega
end
end K25W

namespace K25W
open PySem PySem.Spec PyProof.Rows L2 KH KD KP K25 LamX NdefX
abbrev slaw : Stmt := topS 28
theorem sclaw : FnScope ["script", "shape", "numbers", "sets", "due", "handed", "asked", "told", "row", "other", "between", "again"] ["script"] (defScope slaw) := ⟨rfl, rfl, rfl, by decide +kernel, rfl, by decide +kernel, by decide +kernel⟩

theorem DueIs.uniq {SS : List Lot} {c : Nat} {L L' : List Lot} (h : DueIs SS c L) (g : DueIs SS c L') : L = L' := by
  rcases h with ⟨⟨s, a, e⟩, rfl⟩ | ⟨f, al, _⟩ <;> rcases g with ⟨e2, rfl⟩ | ⟨f2, al2, _⟩
  · rfl
  · exact absurd e (f2 s a)
  · obtain ⟨s, a, e⟩ := e2
    exact absurd e (f s a)
  · exact al.uniq al2
theorem DueIs.small {SS : List Lot} {c : Nat} {L : List Lot} {ns : Lot} (h : DueIs SS c L) (aN : Asc ns) (ln : ns.length ≤ 7) (sub : ∀ s ∈ SS, K25.Sub s ns) : L.length ≤ 128 ∧ ∀ T ∈ L, T.length ≤ 7 := by
  rcases h with ⟨_, rfl⟩ | ⟨_, al, _⟩
  · exact ⟨by decide, fun T hT => (by cases hT)⟩
  · have key : ∀ T ∈ L, Asc T ∧ K25.Sub T ns := fun T hT => by
      have m := ((al.mem T).mp hT).1
      refine ⟨m.asc, fun x hx => ?_⟩
      obtain ⟨s, hs, hxs⟩ := min_pool m x hx
      exact sub s hs x hxs
    refine ⟨?_, fun T hT => ?_⟩
    · have := K25.few aN (od_nd al.ord) key
      have : 2 ^ ns.length ≤ 2 ^ 7 := Nat.pow_le_pow_right (by decide) ln
      omega
    · have := Sub.len (key T hT).1 (key T hT).2
      omega
/-- rows that grow -/
def RW (o : Addr) (B : Hp) (n : Nat) (H : Hp) (us : List V) : Prop := ∀ v ∈ us, ∃ a, v = V.ref a ∧ a ≠ o ∧ B a = none ∧ ∃ xs, H a = some (.lst xs) ∧ xs.length ≤ n
theorem RW.up {o a : Addr} {B H : Hp} {n : Nat} {us ys : List V} (h : RW o B n H us) (l : ys.length ≤ n + 1) : RW o B (n + 1) (upd H a (.lst ys)) us := fun v hv => by
  obtain ⟨c, e, ne, nB, xs, hx, hl⟩ := h v hv
  by_cases z : c = a
  · subst z
    exact ⟨c, e, ne, nB, ys, upd_same, l⟩
  · exact ⟨c, e, ne, nB, xs, by rw [upd_ne z]; exact hx, by omega⟩
theorem Tb.mutL {Pt a : Addr} {H : Hp} {xs ys : List V} (h : Tb Pt H) (e : H a = some (.lst xs)) : Tb Pt (upd H a (.lst ys)) := fun p hp => by
  obtain ⟨ps, h1, h2, h3⟩ := h p hp
  refine ⟨ps, by rw [upd_ne (fun z => by rw [z, e] at h1; cases h1)]; exact h1, h2, fun pos cv hc => ?_⟩
  obtain ⟨c, e1, e2⟩ := h3 pos cv hc
  exact ⟨c, e1, by rw [upd_ne (fun z => by rw [z, e] at e2; cases e2)]; exact e2⟩
theorem ExtN.mut {B H : Hp} {a : Addr} {o : HO} (h : ExtN B H) (n : B a = none) : ExtN B (upd H a o) := fun b x hb nt => by
  rw [upd_ne (fun z => by rw [z, n] at hb; cases hb)]
  exact h b x hb nt
theorem exLst {B H : Hp} (x : ExtN B H) {a : Addr} {xs : List V} (h : B a = some (.lst xs)) : H a = some (.lst xs) := x _ _ h fun ps e => by cases e
theorem exTup {B H : Hp} (x : ExtN B H) {a : Addr} {xs : List V} (h : B a = some (.tup xs)) : H a = some (.tup xs) := x _ _ h fun ps e => by cases e
section
variable {P : Program} {w : World} {K : PySem.W.Frag} {mg : Str → Option Value} {base : Heap} {CN CB CT fJ : Addr} {Pt : Addr}
theorem ask_few {H : Hp} {Q : VK} {E : XK} {sa : Addr} {most : Nat} {us vs : List V} {ss : List Lot} (hv : vs = [.ref sa, nV most]) (hS : Sq K H sa us) (hL : QS K H us ss) (hm : most ≤ 100) (hn : ss.length ≤ 100) (hs : ∀ s ∈ ss, s.length ≤ 500) (tb : Tb Pt H) (few : Few ss most)
    (q : ∀ L t r H', DueIs ss most L → Told K Pt H H' t r L → Q (.ref t) H') : sp_ask K Pt vs H Q E := by
  refine ⟨⟨sa, most, us, ss, hv, hS, hL, hm, hn, hs, tb, fun many full => ?_, fun emp t r H' told => ?_, fun full L seen t r H' all nd mem le told => ?_⟩⟩
  · obtain ⟨seen, nd, m, lt⟩ := many
    have := few seen nd m
    omega
  · exact q [] t r H' (.inl ⟨emp, rfl⟩) told
  · exact q L t r H' (.inr ⟨full, all, few⟩) told
def sp_law (K : PySem.W.Frag) (Pt : Addr) : Sp := fun vs H Q _ => ∃ (a : Addr) (ns : List Int), vs = [.ref a] ∧ SqL K H a (ns.map V.int) ∧ ns.length ≤ 63 ∧ Tb Pt H ∧ ∀ H', Q (.bl true) H'
theorem ok_law {f f1 f2 f3 f4 f5 f6 f7 f8 f9 : Addr} {fd fd1 fd2 fd3 fd4 fd5 fd6 fd7 fd8 fd9 : FuncData} (F : Fun K "law" "law" slaw f fd) (T : Txt mg) (C_law_draws : Cal P w K mg base 1 "_law_draws" ["cell", "sizes"] (sp_draws K) f1 fd1) (C_law_cell : Cal P w K mg base 1 "_law_cell" ["script", "k"] (sp_cell K) f2 fd2)
    (C_law_wide_holds : Cal P w K mg base 7 "_law_wide_holds" ["cell"] (sp_wholds Pt) f3 fd3) (C_law_deep_holds : Cal P w K mg base 7 "_law_deep_holds" ["cell"] (sp_wholds Pt) f4 fd4) (C_law_numbers : Cal P w K mg base 2 "_law_numbers" ["cell"] sp_numbers f5 fd5) (C_law_sets : Cal P w K mg base 2 "_law_sets" ["script", "numbers", "count"] (sp_sets K) f6 fd6)
    (C_law_least : Cal P w K mg base 3 "_law_least" ["sets", "cap"] (sp_lleast K) f7 fd7) (C_law_ask : Cal P w K mg base 6 "_law_ask" ["sets", "cap"] (sp_ask K Pt) f8 fd8) (C_law_same : Cal P w K mg base 1 "_law_same" ["told", "due"] (sp_same K) f9 fd9) : FnOk P w K mg base CX0 8 f fd ["script"] (sp_law K Pt) := by
  refine F.ok sclaw (fun vs H Q E h => ?_) (fun cdv A' outer s H vs Q E' hr h => ?_)
  · obtain ⟨a, is, rfl, _⟩ := h
    rfl
  · obtain ⟨a, is, rfl, hS, his, tb, q⟩ := h
    refine ⟨_, (pss_cons (ps_set (i := 1) sclaw.nd rfl (.inl rfl) (pe_call C_law_draws.ok (hr.mono (by decide)) (by rfl) C_law_draws.mg C_law_draws.kp C_law_draws.b .nil pass0 (pa_cons (pe_call C_law_cell.ok (hr.mono (by decide)) (by rfl) C_law_cell.mg C_law_cell.kp C_law_cell.b .nil pass0 (pa_cons (pv 0) (pa_cons pe_int pa_nil))) (pa_cons (pe_lst (pa_cons pe_int (pa_cons pe_int (pa_cons pe_int pa_nil)))) pa_nil))))
 (pss_cons (ps_if (pt_cmpR op_eq (pe_ix ix_list (pv 1) pe_int (fun _ _ => rfl)) pe_int (nomark _))
 (pss_one (ps_ret (pe_call C_law_wide_holds.ok (hr.mono (by decide)) (by rfl) C_law_wide_holds.mg C_law_wide_holds.kp C_law_wide_holds.b .nil pass0 (pa_cons (pe_call C_law_cell.ok (hr.mono (by decide)) (by rfl) C_law_cell.mg C_law_cell.kp C_law_cell.b .nil pass0 (pa_cons (pv 0) (pa_cons pe_int pa_nil))) pa_nil))))
 pss_nil)
 (pss_cons (ps_if (pt_cmpR op_eq (pe_ix ix_list (pv 1) pe_int (fun _ _ => rfl)) pe_int (nomark _))
 (pss_one (ps_ret (pe_call C_law_deep_holds.ok (hr.mono (by decide)) (by rfl) C_law_deep_holds.mg C_law_deep_holds.kp C_law_deep_holds.b .nil pass0 (pa_cons (pe_call C_law_cell.ok (hr.mono (by decide)) (by rfl) C_law_cell.mg C_law_cell.kp C_law_cell.b .nil pass0 (pa_cons (pv 0) (pa_cons pe_int pa_nil))) pa_nil))))
 pss_nil)
 (pss_cons (ps_set (i := 2) sclaw.nd rfl (.inl rfl) (pe_call C_law_numbers.ok (hr.mono (by decide)) (by rfl) C_law_numbers.mg C_law_numbers.kp C_law_numbers.b .nil pass0 (pa_cons (pe_call C_law_cell.ok (hr.mono (by decide)) (by rfl) C_law_cell.mg C_law_cell.kp C_law_cell.b .nil pass0 (pa_cons (pv 0) (pa_cons pe_int pa_nil))) pa_nil)))
 (pss_cons (ps_set (i := 3) sclaw.nd rfl (.inl rfl) (pe_call C_law_sets.ok (hr.mono (by decide)) (by rfl) C_law_sets.mg C_law_sets.kp C_law_sets.b .nil pass0 (pa_cons (pv 0) (pa_cons (pv 2) (pa_cons (pe_ix ix_list (pv 1) pe_int (fun _ _ => rfl)) pa_nil)))))
 (pss_cons (ps_set (i := 4) sclaw.nd rfl (.inl rfl) (pe_call C_law_least.ok (hr.mono (by decide)) (by rfl) C_law_least.mg C_law_least.kp C_law_least.b .nil pass0 (pa_cons (pv 3) (pa_cons (pe_ix ix_list (pv 1) pe_int (fun _ _ => rfl)) pa_nil))))
 (pss_cons (ps_setLc (i := 5) (own := [("row", 8)]) (g := gName 8) (tt := tYes) rfl sclaw.nd rfl rfl (sw_true rfl rfl rfl (by decide +kernel)) (pi_list (pv 3)) (blkOk_by (N := ["script", "shape", "numbers", "sets", "due", "handed", "asked", "told", "row", "other", "between", "again"]) (sc := defScope slaw) (by decide +kernel)) (fun _ _ _ _ _ => (pg_name (i := 8) sclaw.nd rfl (.inl rfl))) (fun _ _ _ _ _ => pts_nil) (fun _ _ _ _ _ => (pe_callTy (r := rListOf K) call_list_of (by rfl) T.list (by decide +kernel) (pa_cons (pv 8) pa_nil))))
 (pss_cons (ps_set (i := 6) sclaw.nd rfl (.inl rfl) (pe_call C_law_ask.ok (hr.mono (by decide)) (by rfl) C_law_ask.mg C_law_ask.kp C_law_ask.b .nil pass0 (pa_cons (pv 5) (pa_cons (pe_ix ix_list (pv 1) pe_int (fun _ _ => rfl)) pa_nil))))
 (pss_cons (ps_if (PW.pt (pw_or (pt_cmpR (op_neD hr.units) (pv 5) (pv 3) (nomark _)) (pw_or (pt_cmpR op_ne (pe_ix ix_tup (pv 6) pe_int (fun _ _ => rfl)) pe_str (nomark _)) (pw_or1 (pt_not (pt_val (pe_call C_law_same.ok (hr.mono (by decide)) (by rfl) C_law_same.mg C_law_same.kp C_law_same.b .nil pass0 (pa_cons (pe_ix ix_tup (pv 6) pe_int (fun _ _ => rfl)) (pa_cons (pv 4) pa_nil)))))))))
 (pss_one (ps_ret pe_bl))
 pss_nil)
 (pss_cons (ps_set (i := 7) sclaw.nd rfl (.inl rfl) (pe_ix ix_tup (pv 6) pe_int (fun _ _ => rfl)))
 (pss_cons (ps_for PassesOwn.never rfl (pi_list (pv 7)) (pg_name (i := 8) sclaw.nd rfl (.inl rfl))
 (pss_one (ps_expr (pe_bm PySem.F.plainAttrs_list PySem.F.slot_list_append PySem.F.type_list_append mt_append (pv 8) (pa_cons (pe_ix ix_list (pv 2) pe_int (fun _ _ => rfl)) pa_nil)))))
 (pss_cons (ps_expr (pe_bm PySem.F.plainAttrs_list PySem.F.slot_list_append PySem.F.type_list_append mt_append (pv 7) (pa_cons (pe_lst (pa_cons (pe_ix ix_list (pv 2) pe_int (fun _ _ => rfl)) pa_nil)) pa_nil)))
 (pss_cons (ps_for PassesOwn.never rfl (pi_list (pv 5)) (pg_name (i := 8) sclaw.nd rfl (.inl rfl))
 (pss_one (ps_expr (pe_bm PySem.F.plainAttrs_list PySem.F.slot_list_append PySem.F.type_list_append mt_append (pv 8) (pa_cons (pe_ix ix_list (pv 2) pe_int (fun _ _ => rfl)) pa_nil)))))
 (pss_cons (ps_expr (pe_bm PySem.F.plainAttrs_list PySem.F.slot_list_append PySem.F.type_list_append mt_append (pv 5) (pa_cons (pe_lst pa_nil) pa_nil)))
 (pss_cons (ps_set (i := 9) sclaw.nd rfl (.inl rfl) (pe_op op_modN (pe_callTy call_int1 (by rfl) T.int (by decide +kernel) (pa_cons (pe_op op_add (pe_op op_add (pe_ix ix_list (pv 1) pe_int (fun _ _ => rfl)) pe_int) (pe_ix ix_list (pv 1) pe_int (fun _ _ => rfl))) pa_nil)) pe_int))
 (pss_cons (ps_set (i := 10) sclaw.nd rfl (.inl rfl) (pe_call C_law_ask.ok (hr.mono (by decide)) (by rfl) C_law_ask.mg C_law_ask.kp C_law_ask.b .nil pass0 (pa_cons (pe_lc (own := [("row", 8)]) (g := gName 8) (tt := tYes) rfl sclaw.nd (pi_list (pv 3)) (blkOk_by (N := ["script", "shape", "numbers", "sets", "due", "handed", "asked", "told", "row", "other", "between", "again"]) (sc := defScope slaw) (by decide +kernel)) (fun _ _ _ _ _ => (pg_name (i := 8) sclaw.nd rfl (.inl rfl))) (fun _ _ _ _ _ => pts_nil) (fun _ _ _ _ _ => (pe_callTy (r := rListOf K) call_list_of (by rfl) T.list (by decide +kernel) (pa_cons (pv 8) pa_nil)))) (pa_cons (pv 9) pa_nil))))
 (pss_cons (ps_set (i := 11) sclaw.nd rfl (.inl rfl) (pe_call C_law_ask.ok (hr.mono (by decide)) (by rfl) C_law_ask.mg C_law_ask.kp C_law_ask.b .nil pass0 (pa_cons (pe_callTy call_tuple_of (by rfl) T.tuple (by decide +kernel) (pa_cons (pe_lc (own := [("row", 8)]) (g := gName 8) (tt := tYes) rfl sclaw.nd (pi_list (pv 3)) (blkOk_by (N := ["script", "shape", "numbers", "sets", "due", "handed", "asked", "told", "row", "other", "between", "again"]) (sc := defScope slaw) (by decide +kernel)) (fun _ _ _ _ _ => (pg_name (i := 8) sclaw.nd rfl (.inl rfl))) (fun _ _ _ _ _ => pts_nil) (fun _ _ _ _ _ => (pe_callTy (r := rTupOf K) call_tuple_of (by rfl) T.tuple (by decide +kernel) (pa_cons (pv 8) pa_nil)))) pa_nil)) (pa_cons (pe_ix ix_list (pv 1) pe_int (fun _ _ => rfl)) pa_nil))))
 (pss_cons (ps_if (PW.pt (pw_or (pt_cmpR op_ne (pe_ix ix_tup (pv 10) pe_int (fun _ _ => rfl)) pe_str (nomark _)) (pw_or1 (pt_cmpR op_ne (pe_ix ix_tup (pv 11) pe_int (fun _ _ => rfl)) pe_str (nomark _)))))
 (pss_one (ps_ret pe_bl))
 pss_nil)
 (pss_one (ps_ret (pe_and (pe_call C_law_same.ok (hr.mono (by decide)) (by rfl) C_law_same.mg C_law_same.kp C_law_same.b .nil pass0 (pa_cons (pe_ix ix_tup (pv 10) pe_int (fun _ _ => rfl)) (pa_cons (pe_call C_law_least.ok (hr.mono (by decide)) (by rfl) C_law_least.mg C_law_least.kp C_law_least.b .nil pass0 (pa_cons (pv 3) (pa_cons (pv 9) pa_nil))) pa_nil))) (pe_one (pe_call C_law_same.ok (hr.mono (by decide)) (by rfl) C_law_same.mg C_law_same.kp C_law_same.b .nil pass0 (pa_cons (pe_ix ix_tup (pv 11) pe_int (fun _ _ => rfl)) (pa_cons (pv 4) pa_nil))))))))))))))))))))))))), ?_⟩
    refine asgN ⟨_, rfl, a, is, 0, rfl, hS, his, by decide, fun c H1 s1 => ⟨(by show 3 ≤ sizeLine; decide), fun z nz => ⟨z, c, [8, 6, 6], rfl, SqL.of upd_same, by decide, by decide, fun dp ds H2 s2 ndp edp dr σ' e => ?_⟩⟩⟩
    obtain rfl : σ' = [some (.ref a), some (.ref dp), none, none, none, none, none, none, none, none, none, none] := e.symm
    clear e
    have t2 : Same H H2 := (s1.new nz).trans s2
    obtain ⟨d0, d1, d2, rfl, b0, b1, b2⟩ : ∃ d0 d1 d2, ds = [d0, d1, d2] ∧ d0 < 8 ∧ d1 < 6 ∧ d2 < 6 := by
      cases dr with | cons h0 dr => cases dr with | cons h1 dr => cases dr with | cons h2 dr => cases dr with | nil => exact ⟨_, _, _, rfl, h0, h1, h2⟩
    have hD : SqL K H2 dp ([d0, d1, d2].map nV) := SqL.of edp
    have tb2 := Tb.same tb t2
    refine Dc.ifS (b := decide (nV d0 = V.int 0)) (fun Q q => ⟨_, rfl, dp, _, 0, nV d0, rfl, rfl, hD, at_n (j := 0) rfl, rfl, _, rfl, q⟩) (fun _ => ?_) (fun _ => ?_)
    · exact ⟨_, rfl, a, is, 1, rfl, t2.seq hS, his, by decide, fun c H3 s3 => ⟨c, rfl, Tb.same tb2 s3, fun H' _ _ => q H'⟩⟩
    refine nextS ?_
    refine Dc.ifS (b := decide (nV d0 = V.int 1)) (fun Q q => ⟨_, rfl, dp, _, 0, nV d0, rfl, rfl, hD, at_n (j := 0) rfl, rfl, _, rfl, q⟩) (fun _ => ?_) (fun _ => ?_)
    · exact ⟨_, rfl, a, is, 1, rfl, t2.seq hS, his, by decide, fun c H3 s3 => ⟨c, rfl, Tb.same tb2 s3, fun H' _ _ => q H'⟩⟩
    refine nextS ?_
    -- numbers, sets
    refine asgN ⟨_, rfl, a, is, 1, rfl, t2.seq hS, his, by decide, fun c H3 s3 => ⟨c, rfl, fun np ns H4 s4 nnp enp ln aN σ' e => ?_⟩⟩
    obtain rfl : σ' = [some (.ref a), some (.ref dp), some (.ref np), none, none, none, none, none, none, none, none, none] := e.symm
    clear e
    have s24 := s3.trans s4
    have t4 := t2.trans s24
    refine asgN ⟨_, rfl, _, rfl, _, rfl, dp, _, 1, nV d1, rfl, rfl, s24.seq hD, at_n (j := 1) rfl, a, np, is, ns, d1, rfl, t4.seq hS, his, SqL.of enp, ln, by omega, fun sp us ss H5 s5 nsp esp hL lss sss σ' e => ?_⟩
    obtain rfl : σ' = [some (.ref a), some (.ref dp), some (.ref np), some (.ref sp), none, none, none, none, none, none, none, none] := e.symm
    clear e
    have s25 := s24.trans s5
    have t5 := t4.trans s5
    have enp5 := s5 _ _ enp
    have lN : ns.length ≤ 7 := by omega
    have subN : ∀ s ∈ ss, K25.Sub s ns := fun s h => (sss s h).2
    have few : ∀ c, Few ss c := fun c => few_of aN (fun s h x hx => subN s h x hx) (by rw [ln]; decide)
    have mkDue : ∀ {c : Nat} {L : List Lot}, ((∃ s ∈ ss, s = []) → L = []) → ((∀ s ∈ ss, s ≠ []) → All ss c L) → DueIs ss c L := fun {c L} h1 h2 => by
      by_cases e : ∃ s ∈ ss, s = []
      · exact .inl ⟨e, h1 e⟩
      · have full : ∀ s ∈ ss, s ≠ [] := fun s h z => e ⟨s, h, z⟩
        exact .inr ⟨full, h2 full, few c⟩
    have ls5 : LS K H5 us ss := hL.ls
    -- due
    refine asgN ⟨_, rfl, _, rfl, dp, _, 2, nV d2, rfl, rfl, s25.seq hD, at_n (j := 2) rfl, sp, d2, us, ss, ns, rfl, SqL.of esp, ls5, by omega, aN, lN, subN, fun dv ws L H6 s6 edv hLS h1 h2 σ' e => ?_⟩
    obtain rfl : σ' = [some (.ref a), some (.ref dp), some (.ref np), some (.ref sp), some (.ref dv), none, none, none, none, none, none, none] := e.symm
    clear e
    have due := mkDue h1 h2
    obtain ⟨Ll, LT⟩ := due.small aN lN subN
    have esp6 := s6 _ _ esp
    have enp6 := s6 _ _ enp5
    have hL6 : LL H6 us ss := P_mono (fun _ _ ⟨a, e, q⟩ => ⟨a, e, s6 _ _ q⟩) hL
    have hD6 := (s25.trans s6).seq hD
    have t6 := t5.trans s6
    have tb6 := Tb.same tb t6
    have ul : us.length = ss.length := P_len hL
    -- handed
    refine ⟨_, rfl, sp, rfl, ⟨_, SqL.of esp6⟩, fun ha nha => ?_⟩
    refine lc_list (K := K) (a := sp) (xs := us) (fun m H' => ∃ vs, Same H6 H' ∧ H' ha = some (.lst vs) ∧ Paired (fun v T => ∃ a, v = V.ref a ∧ a ≠ ha ∧ H6 a = none ∧ H' a = some (.lst (IL T))) vs (ss.take m)) ⟨[], (Same.refl H6).new nha, upd_same, .nil⟩ (fun m H' _ ⟨_, s5, _⟩ => SqL.of (s5 _ _ esp6)) ?_ ?_
    · rintro m yv H8 hy ⟨vs, s8, er, hV⟩
      obtain ⟨X, hX, a, rfl, ea⟩ := P_right hL6 hy
      refine ⟨rfl, _, rfl, a, _, rfl, .inl (SqL.of (s8 _ _ ea)), fun z1 nz1 => ?_⟩
      have b1 : Same H8 (upd H8 z1 (.lst (IL X))) := (Same.refl H8).new nz1
      have ez1 : (upd H8 z1 (.lst (IL X))) z1 = some (.lst (IL X)) := upd_same
      have z1r : z1 ≠ ha := Ne.symm (ne_of_none er nz1)
      have z16 := s8.free nz1
      generalize upd H8 z1 (.lst (IL X)) = H9 at b1 ez1 ⊢
      refine ⟨vs, b1 _ _ er, ?_, vs ++ [.ref z1], (s8.trans b1).mut nha, upd_same, ?_⟩
      · rw [P_len hV]
        exact szl (Nat.le_trans (List.length_take_le' _ _) (by omega))
      · rw [take_more hX]
        exact P_append (P_mono (fun _ _ ⟨a, e, n, n6, q⟩ => ⟨a, e, n, n6, by rw [upd_ne n]; exact b1 _ _ q⟩) hV) (.cons ⟨z1, rfl, z1r, z16, by rw [upd_ne z1r]; exact ez1⟩ .nil)
    rintro H7 ⟨hs, s7, eha, hV⟩
    rw [ul, List.take_length] at hV
    refine nextS ?_
    have small : ∀ s ∈ ss, s.length ≤ 500 := fun s h => by have := (sss s h).1; omega
    have tb7 := Tb.same tb6 s7
    have qs7 : QS K H7 hs ss := P_mono (fun _ _ ⟨a, e, _, _, q⟩ => ⟨a, e, .inl (SqL.of q)⟩) hV
    refine asgN ⟨_, rfl, _, rfl, dp, _, 2, nV d2, rfl, rfl, s7.seq hD6, at_n (j := 2) rfl, ?_⟩
    refine ask_few rfl (.inl (SqL.of eha)) qs7 (by omega) (by omega) small tb7 (few _) fun L' t r H8 due' told σ' e => ?_
    obtain rfl := due.uniq due'
    obtain rfl : σ' = [some (.ref a), some (.ref dp), some (.ref np), some (.ref sp), some (.ref dv), some (.ref ha), some (.ref t), none, none, none, none, none] := e.symm
    clear e due'
    obtain ⟨x8, tb8, et, nr, us', er, ln8⟩ := told
    have x68 : ExtN H6 H8 := (ExtN.of s7).trans x8
    have eqLL : PyData.eqv (PySem.W.Datum.toD (α := List (List Int)) ss) (PySem.W.Datum.toD (α := List (List Int)) ss) = true := by rw [PySem.W.Datum.eqv]; exact decide_eq_true rfl
    have lsH : LS K H8 hs ss := P_mono (fun _ _ ⟨a, e, _, _, q⟩ => ⟨a, e, SqL.of (exLst x8 q)⟩) hV
    have lsS : LS K H8 us ss := (hL6.ls (K := K)).ex x68
    have hLS6 : LS K H6 ws L := hLS
    refine ⟨_, rfl, _, rfl, _, _, dpLL (SqL.of (exLst x8 eha)) lsH, dpLL (SqL.of (exLst x68 esp6)) lsS, shapedLL _, shapedLL _, _, rfl, ?_⟩
    rw [eqLL]
    refine iteF ⟨_, rfl, t, _, 0, .str "told", rfl, rfl, SqT.of et, rfl, rfl, _, rfl, ?_⟩
    rw [decide_eq_true (show V.str "told" = V.str "told" from rfl)]
    refine iteF ?_
    obtain ⟨x0, hx0⟩ := get_lt (l := ns) (i := 0) (by omega)
    obtain ⟨x1, hx1⟩ := get_lt (l := ns) (i := 1) (by omega)
    obtain ⟨x2, hx2⟩ := get_lt (l := ns) (i := 2) (by omega)
    refine ⟨_, rfl, t, _, 1, .ref r, rfl, rfl, SqT.of et, rfl, _, rfl, r, dv, us', ws, L, rfl, er, P_mono (fun _ _ ⟨a, e, _, q⟩ => ⟨a, e, q⟩) ln8, SqL.of (exLst x68 edv), hLS6.ex x68, by omega, fun T hT => by have := LT T hT; omega, _, rfl, iteF ?_⟩
    refine nextS ?_
    -- told, changed
    refine asgN ⟨_, rfl, t, _, 1, .ref r, rfl, rfl, SqT.of et, rfl, fun σ' e => ?_⟩
    obtain rfl : σ' = [some (.ref a), some (.ref dp), some (.ref np), some (.ref sp), some (.ref dv), some (.ref ha), some (.ref t), some (.ref r), none, none, none, none] := e.symm
    clear e
    have ul8 : us'.length ≤ 128 := by
      have := P_len ln8
      omega
    have rw0 : RW r H7 (7 + 0) H8 us' := fun v hv => by
      obtain ⟨i, hi⟩ := List.mem_iff_getElem?.mp hv
      obtain ⟨U, hU, b, e, nb, eb⟩ := P_right ln8 hi
      refine ⟨b, e, fun z => ?_, nb, IL U, eb, ?_⟩
      · subst z
        rw [er] at eb
        have eb := HO.lst.inj (Option.some.inj eb)
        rw [eb] at hv
        unfold IL at hv
        obtain ⟨y, _, ey⟩ := List.mem_map.mp hv
        rw [e] at ey
        cases ey
      · rw [il]
        have := LT U (List.mem_of_getElem? hU)
        omega
    refine ⟨_, rfl, r, rfl, ⟨_, SqL.of er⟩, for_list (K := K) (a := r) (xs := us') (fun i σ H' => ∃ v8, σ = [some (.ref a), some (.ref dp), some (.ref np), some (.ref sp), some (.ref dv), some (.ref ha), some (.ref t), some (.ref r), v8, none, none, none] ∧ ExtN H7 H' ∧ Tb Pt H' ∧ H' r = some (.lst us') ∧ RW r H7 (7 + i) H' us')
      ⟨none, rfl, x8, tb8, er, rw0⟩ (fun i σ H' _ ⟨_, _, _, _, e, _⟩ => SqL.of e) ?_ ?_⟩
    · rintro i x σ H' hx ⟨v8, rfl, xx, tb', er', hW⟩
      obtain ⟨b, rfl, nbr, nb, xs, eb, lb⟩ := hW x (List.mem_of_getElem? hx)
      have lt := lt_get hx
      refine ⟨_, rfl, .inl ⟨rfl, _, SqL.of eb⟩, _, rfl, np, _, 0, .int x0, rfl, rfl, SqL.of (exLst ((ExtN.of s7).trans xx) enp6), at_n (j := 0) (getn hx0), b, _, _, rfl, rfl, eb, szl (by omega), _, rfl, ExtN.mut xx nb, Tb.mutL tb' eb, ?_, hW.up (by rw [List.length_append, List.length_singleton]; omega)⟩
      rw [upd_ne (Ne.symm nbr)]
      exact er'
    rintro σ H9 ⟨v8, rfl, x79, tb9, er9, _⟩
    refine ⟨_, rfl, .inl ⟨rfl, _, SqL.of er9⟩, _, rfl, np, _, 1, .int x1, rfl, rfl, SqL.of (exLst ((ExtN.of s7).trans x79) enp6), at_n (j := 1) (getn hx1), (by show 1 ≤ sizeLine; decide), fun z nz => ?_⟩
    have c1 : Same H9 (upd H9 z (.lst [V.int x1])) := (Same.refl H9).new nz
    generalize upd H9 z (.lst [V.int x1]) = HA at c1 ⊢
    have erA := c1 _ _ er9
    refine ⟨r, _, _, rfl, rfl, erA, szl (by omega), ?_⟩
    have xB : ExtN H7 (upd HA r (.lst (us' ++ [.ref z]))) := ExtN.mut (x79.trans (ExtN.of c1)) nr
    have tbB : Tb Pt (upd HA r (.lst (us' ++ [.ref z]))) := Tb.mutL (Tb.same tb9 c1) erA
    generalize upd HA r (.lst (us' ++ [.ref z])) = HB at xB tbB ⊢
    -- handed, changed
    have ehB := exLst xB eha
    have hsl : hs.length = ss.length := P_len hV
    have rwB : RW ha H6 (7 + 0) HB hs := fun v hv => by
      obtain ⟨i, hi⟩ := List.mem_iff_getElem?.mp hv
      obtain ⟨U, hU, b, e, nb, n6, eb⟩ := P_right hV hi
      refine ⟨b, e, nb, n6, IL U, exLst xB eb, ?_⟩
      rw [il]
      have := (sss U (List.mem_of_getElem? hU)).1
      omega
    have x6B : ExtN H6 HB := (ExtN.of s7).trans xB
    refine ⟨_, rfl, ha, rfl, ⟨_, SqL.of ehB⟩, for_list (K := K) (a := ha) (xs := hs) (fun i σ H' => ∃ v8, σ = [some (.ref a), some (.ref dp), some (.ref np), some (.ref sp), some (.ref dv), some (.ref ha), some (.ref t), some (.ref r), v8, none, none, none] ∧ ExtN H6 H' ∧ Tb Pt H' ∧ H' ha = some (.lst hs) ∧ RW ha H6 (7 + i) H' hs)
      ⟨_, rfl, x6B, tbB, ehB, rwB⟩ (fun i σ H' _ ⟨_, _, _, _, e, _⟩ => SqL.of e) ?_ ?_⟩
    · rintro i x σ H' hx ⟨v8, rfl, xx, tb', er', hW⟩
      obtain ⟨b, rfl, nbr, nb, xs, eb, lb⟩ := hW x (List.mem_of_getElem? hx)
      have lt := lt_get hx
      refine ⟨_, rfl, .inl ⟨rfl, _, SqL.of eb⟩, _, rfl, np, _, 2, .int x2, rfl, rfl, SqL.of (exLst xx enp6), at_n (j := 2) (getn hx2), b, _, _, rfl, rfl, eb, szl (by omega), _, rfl, ExtN.mut xx nb, Tb.mutL tb' eb, ?_, hW.up (by rw [List.length_append, List.length_singleton]; omega)⟩
      rw [upd_ne (Ne.symm nbr)]
      exact er'
    rintro σ HC ⟨v8, rfl, x6C, tbC, ehC, _⟩
    refine ⟨_, rfl, .inl ⟨rfl, _, SqL.of ehC⟩, Nat.zero_le _, fun z nz => ?_⟩
    have c2 : Same HC (upd HC z (.lst [])) := (Same.refl HC).new nz
    generalize upd HC z (.lst []) = HD at c2 ⊢
    have ehD := c2 _ _ ehC
    refine ⟨ha, _, _, rfl, rfl, ehD, szl (by omega), ?_⟩
    have x6_HE : ExtN H6 (upd HD ha (.lst (hs ++ [.ref z]))) := ExtN.mut (x6C.trans (ExtN.of c2)) nha
    have tbE : Tb Pt (upd HD ha (.lst (hs ++ [.ref z]))) := Tb.mutL (Tb.same tbC c2) ehD
    generalize upd HD ha (.lst (hs ++ [.ref z])) = HE at x6_HE tbE ⊢
    -- another number
    obtain ⟨o, eo⟩ : ∃ o, o = (d2 + 1 + d1) % 6 := ⟨_, rfl⟩
    have hDE : SqL K HE dp ([d0, d1, d2].map nV) := exS hD6 x6_HE
    dsimp only
    refine asgN ⟨_, rfl, dp, _, 2, nV d2, rfl, rfl, hDE, at_n (j := 2) rfl, _, _, rfl, rfl, _, rfl, dp, _, 1, nV d1, rfl, rfl, hDE, at_n (j := 1) rfl, _, _, rfl, rfl, .inl ⟨_, rfl, _, _, rfl, rfl, (show (6 : Int) ≠ 0 by decide), fun σ' e => ?_⟩⟩
    obtain rfl : σ' = [some (.ref a), some (.ref dp), some (.ref np), some (.ref sp), some (.ref dv), some (.ref ha), some (.ref t), some (.ref r), v8, some (nV o), none, none] := by
      rw [← e]
      dsimp only [List.set]
      rw [show ((d2 : Nat) : Int) + 1 + ((d1 : Nat) : Int) = ((d2 + 1 + d1 : Nat) : Int) by omega, show ((d2 + 1 + d1 : Nat) : Int).fmod 6 = ((o : Nat) : Int) by rw [eo]; exact (Int.ofNat_fmod (d2 + 1 + d1) 6).symm]
    clear e
    -- between
    refine asgN ⟨_, rfl, sp, rfl, ⟨_, SqL.of (exLst x6_HE esp6)⟩, fun ga nga => ?_⟩
    refine lc_list (K := K) (a := sp) (xs := us) (fun m H' => ∃ vs, Same HE H' ∧ H' ga = some (.lst vs) ∧ Paired (fun v T => ∃ a, v = V.ref a ∧ a ≠ ga ∧ H' a = some (.lst (IL T))) vs (ss.take m)) ⟨[], (Same.refl HE).new nga, upd_same, .nil⟩ (fun m H' _ ⟨_, s5, _⟩ => SqL.of (s5 _ _ (exLst x6_HE esp6))) ?_ ?_
    · rintro m yv G hy ⟨vs, s8, er_, hV_⟩
      obtain ⟨X, hX, a_, rfl, ea⟩ := P_right hL6 hy
      refine ⟨rfl, _, rfl, a_, _, rfl, .inl (SqL.of (s8 _ _ (exLst x6_HE ea))), fun z1 nz1 => ?_⟩
      have b1 : Same G (upd G z1 (.lst (IL X))) := (Same.refl G).new nz1
      have ez1 : (upd G z1 (.lst (IL X))) z1 = some (.lst (IL X)) := upd_same
      have z1r : z1 ≠ ga := Ne.symm (ne_of_none er_ nz1)
      generalize upd G z1 (.lst (IL X)) = G2 at b1 ez1 ⊢
      refine ⟨vs, b1 _ _ er_, ?_, vs ++ [.ref z1], (s8.trans b1).mut nga, upd_same, ?_⟩
      · rw [P_len hV_]
        exact szl (Nat.le_trans (List.length_take_le' _ _) (by omega))
      · rw [take_more hX]
        exact P_append (P_mono (fun _ _ ⟨a, e, n, q⟩ => ⟨a, e, n, by rw [upd_ne n]; exact b1 _ _ q⟩) hV_) (.cons ⟨z1, rfl, z1r, by rw [upd_ne z1r]; exact ez1⟩ .nil)
    rintro HF ⟨gs, sF, ega, gV⟩
    rw [ul, List.take_length] at gV
    refine ⟨_, rfl, ?_⟩
    refine ask_few rfl (.inl (SqL.of ega)) (P_mono (fun _ _ ⟨a, e, _, q⟩ => ⟨a, e, .inl (SqL.of q)⟩) gV) (by omega) (by omega) small (Tb.same tbE sF) (few _) fun L2 t2 r2 HG due2 told2 σ' e => ?_
    obtain rfl : σ' = [some (.ref a), some (.ref dp), some (.ref np), some (.ref sp), some (.ref dv), some (.ref ha), some (.ref t), some (.ref r), v8, some (nV o), some (.ref t2), none] := e.symm
    clear e
    obtain ⟨xG, tbG, et2, _, us2, er2, ln2⟩ := told2
    have x6_HG : ExtN H6 HG := (x6_HE.trans (ExtN.of sF)).trans xG
    -- again
    refine asgN ⟨_, rfl, sp, rfl, ⟨_, SqL.of (exLst x6_HG esp6)⟩, fun ka nka => ?_⟩
    refine lc_list (K := K) (a := sp) (xs := us) (fun m H' => ∃ vs, Same HG H' ∧ H' ka = some (.lst vs) ∧ Paired (fun v T => ∃ a, v = V.ref a ∧ a ≠ ka ∧ H' a = some (.tup (IL T))) vs (ss.take m)) ⟨[], (Same.refl HG).new nka, upd_same, .nil⟩ (fun m H' _ ⟨_, s5, _⟩ => SqL.of (s5 _ _ (exLst x6_HG esp6))) ?_ ?_
    · rintro m yv G hy ⟨vs, s8, er_, hV_⟩
      obtain ⟨X, hX, a_, rfl, ea⟩ := P_right hL6 hy
      refine ⟨rfl, _, rfl, a_, _, rfl, .inl ⟨SqL.of (s8 _ _ (exLst x6_HG ea)), fun z1 nz1 => ?_⟩⟩
      have b1 : Same G (upd G z1 (.tup (IL X))) := (Same.refl G).new nz1
      have ez1 : (upd G z1 (.tup (IL X))) z1 = some (.tup (IL X)) := upd_same
      have z1r : z1 ≠ ka := Ne.symm (ne_of_none er_ nz1)
      generalize upd G z1 (.tup (IL X)) = G2 at b1 ez1 ⊢
      refine ⟨vs, b1 _ _ er_, ?_, vs ++ [.ref z1], (s8.trans b1).mut nka, upd_same, ?_⟩
      · rw [P_len hV_]
        exact szl (Nat.le_trans (List.length_take_le' _ _) (by omega))
      · rw [take_more hX]
        exact P_append (P_mono (fun _ _ ⟨a, e, n, q⟩ => ⟨a, e, n, by rw [upd_ne n]; exact b1 _ _ q⟩) hV_) (.cons ⟨z1, rfl, z1r, by rw [upd_ne z1r]; exact ez1⟩ .nil)
    rintro HI ⟨ks, sI, eka, kV⟩
    rw [ul, List.take_length] at kV
    refine ⟨ka, _, rfl, .inl ⟨SqL.of eka, fun ta nta => ?_⟩⟩
    have cI : Same HI (upd HI ta (.tup ks)) := (Same.refl HI).new nta
    have eta : (upd HI ta (.tup ks)) ta = some (.tup ks) := upd_same
    generalize upd HI ta (.tup ks) = HJ at cI eta ⊢
    have sJ := sI.trans cI
    refine ⟨_, rfl, dp, _, 2, nV d2, rfl, rfl, sJ.seq (exS hD6 x6_HG), at_n (j := 2) rfl, ?_⟩
    refine ask_few rfl (.inr (SqT.of eta)) (P_mono (fun _ _ ⟨a, e, _, q⟩ => ⟨a, e, .inr (SqT.of (cI _ _ q))⟩) kV) (by omega) (by omega) small (Tb.same tbG sJ) (few _) fun L3 t3 r3 HK due3 told3 σ' e => ?_
    obtain rfl : σ' = [some (.ref a), some (.ref dp), some (.ref np), some (.ref sp), some (.ref dv), some (.ref ha), some (.ref t), some (.ref r), v8, some (nV o), some (.ref t2), some (.ref t3)] := e.symm
    clear e
    obtain rfl := due.uniq due3
    obtain ⟨xK, tbK, et3, _, us3, er3, ln3⟩ := told3
    have xGK : ExtN HG HK := (ExtN.of sJ).trans xK
    have x6K := x6_HG.trans xGK
    have et2 := exTup xGK et2
    have er2 := exLst xGK er2
    have ll2 : LL HK us2 L2 := P_mono (fun _ _ ⟨a, e, _, q⟩ => ⟨a, e, exLst xGK q⟩) ln2
    refine ⟨_, rfl, t2, _, 0, .str "told", rfl, rfl, SqT.of et2, rfl, rfl, _, rfl, ?_⟩
    rw [decide_eq_true (show V.str "told" = V.str "told" from rfl)]
    refine iteF ⟨_, rfl, t3, _, 0, .str "told", rfl, rfl, SqT.of et3, rfl, rfl, _, rfl, ?_⟩
    rw [decide_eq_true (show V.str "told" = V.str "told" from rfl)]
    refine iteF ?_
    refine nextS ?_
    refine ⟨_, rfl, t2, _, 1, .ref r2, rfl, rfl, SqT.of et2, rfl, _, rfl, _, rfl, sp, o, us, ss, ns, rfl, SqL.of (exLst x6K esp6), (hL6.ls (K := K)).ex x6K, by omega, aN, lN, subN, fun pv ws2 L2' HL sL epv hl2 g1 g2 => ?_⟩
    have due2' := mkDue g1 g2
    obtain rfl := due2.uniq due2'
    obtain ⟨Ll2, LT2⟩ := due2.small aN lN subN
    have x6L := x6K.trans (ExtN.of sL)
    refine ⟨r2, pv, us2, ws2, L2, rfl, sL _ _ er2, P_mono (fun _ _ ⟨a, e, q⟩ => ⟨a, e, sL _ _ q⟩) ll2, SqL.of epv, hl2, by omega, fun T hT => by have := LT2 T hT; omega, true, rfl, iteT ?_⟩
    exact ⟨_, rfl, t3, _, 1, .ref r3, rfl, rfl, SqT.of (sL _ _ et3), rfl, _, rfl, r3, dv, us3, ws, L, rfl, sL _ _ er3, P_mono (fun _ _ ⟨a, e, _, q⟩ => ⟨a, e, sL _ _ q⟩) ln3, SqL.of (exLst x6L edv), hLS6.ex x6L, by omega, fun T hT => by have := LT T hT; omega, q _⟩
end
end K25W

namespace K25W
open PySem PySem.Spec PyProof.Rows L2 KH KD KP K25 LamX NdefX
theorem kit_self {K : PySem.W.Frag} {C : Addr} : PySem.W.kitOne K (.ref C) (.ref C) = some true := by
  unfold PySem.W.kitOne
  rw [if_pos (by simp)]
theorem kit_other {K : PySem.W.Frag} {C D : Addr} {b : Bool} (ne : C ≠ D) (h : PySem.W.subIn K (.ref D) (.type "BaseException") = some true) (e : PySem.W.exmOne K (.ref C) (.ref D) = some b) : PySem.W.kitOne K (.ref C) (.ref D) = some b := by
  unfold PySem.W.exmOne at e
  have e1 : (PySem.W.subIn K (.ref D) (.type "BaseException") == some true) = true := by rw [h] <;> rfl
  rw [if_pos e1] at e
  unfold PySem.W.kitOne
  rw [if_neg (by simp [ne])]
  exact e
/-- the end where a def of the program makes a def: its own table is known to be empty -/
theorem walk_ofTabs {l : PySem.W.OpenLaw} {n k : Nat} {q : Program} {loose : List Str} {XP : (Str → Option Value) → Heap → Prop} {YP : World → Heap → Prop} {d : DefRec} {K : Params → PySem.W.Frag} {CX : World → CXT} {x nm : Str}
    (hn : l.most = some n) (hn2 : n ≤ sizeLine) (hdf : d.params.defaults = []) (hr : Room k callerA) (hrec : ((recsOf q).any fun e => e.name == nm) = true) (hY : ∀ (w : World) (h : Heap), YP w h → (K w.params).In h)
    (F : ∀ (w : World) (mg : Str → Option Value) (fa : Addr) (h : Heap), YP w h → (K w.params).In h → h.Ns mainGlobals mg → mg d.name = some (.ref fa) → (∀ f, mg nm = some (.ref f) → OwnTab (K w.params) f h) → LawAtS l w (K w.params) (CX w) k n x mg fa h)
    (hCX : ∀ (w : World) (H : Hp) (s : Shared) (e : Value) (s' : Shared), CX w [] H s (fun _ _ _ => False) e s' → False) :
    PySem.W.WalkO q loose XP YP l.row.toRowW d [] (fun f vs => PySem.call f vs) := by
  refine Att.attach_callB hn hdf fun w s₀ s₁ mg mb fa o pm cd doc a vs ns G Y ho hd hcd hmg hobj hints hlen hbits hg => ?_
  have KX := hY w _ Y
  have own : ∀ f, mg nm = some (.ref f) → OwnTab (K w.params) f s₁.heap := fun f hf c P o1 fd1 e dd vs1 sl k1 k2 k3 k4 k5 => by
    obtain ⟨dL, hm, hn1⟩ := List.any_eq_true.mp hrec
    have hn2 : dL.name = nm := beq_iff_eq.mp hn1
    obtain ⟨a', o', fd', c', P', h1, h2, h3, h4, h5, h6⟩ := G.T.tab dL hm
    rw [hn2, hf] at h1
    cases h1
    have g1 := KX _ _ k1
    rw [g1] at h2
    cases h2
    rw [k2] at h3
    cases h3
    rw [k3] at h4
    cases h4
    obtain ⟨⟨oc, vc, e1, _, e3, e4⟩, hP⟩ := h6
    have g2 := KX _ _ k4
    rw [g2] at e1
    cases e1
    cases e3
    rw [k5] at e4
    cases e4
    exact hP
  obtain ⟨fd, cs, sp, hT, nT, C, hb, hsp, hF⟩ := F w mg fa _ Y KX G.T.g hmg own
  exact law_callTs KX G.T.g G.T.b G.T.builtins G.T.nolimit hg hT nT C G.T.bmain hobj hints (Nat.le_trans hlen hn2) hr hF hb (fun H hH hS => hsp H a ns hlen hbits hH hS) fun H e s' => hCX w H s₁ e s'
theorem all_mk {l : PySem.W.OpenLaw} {w : World} {K : PySem.W.Frag} {h : Heap} {mg : Str → Option Value} {fa f0 f1 f2 f3 f4 f5 f6 f7 f8 f9 f10 f11 f12 f13 f14 f15 f16 f17 f18 f19 f20 : Addr} (X : K.In h) (G : h.Ns mainGlobals mg) (hfa : mg "law" = some (.ref fa)) (own0 : ∀ f, mg "all_hits" = some (.ref f) → OwnTab K f h)
    {od0 an0 od1 an1 od2 an2 od3 an3 od4 an4 od5 an5 od6 an6 od7 an7 od8 an8 od9 an9 od10 an10 od11 an11 od12 an12 od13 an13 od14 an14 od15 an15 od16 an16 od17 an17 od18 an18 od19 an19 od20 an20 odJ anJ cddJ cldJ cddH : Option Addr} {sl0 sl1 sl2 sl3 sl4 sl5 sl6 sl7 sl8 sl9 sl10 sl11 sl12 sl13 sl14 sl15 sl16 sl17 sl18 sl19 sl20 slJ csJ clsJ csH : Array (Option Value)} {vsJ vsH : Array Value} {oc0 kV0 dc0 pm0 cd0 ct0 oc1 kV1 dc1 pm1 cd1 ct1 oc2 kV2 dc2 pm2 cd2 ct2 oc3 kV3 dc3 pm3 cd3 ct3 oc4 kV4 dc4 pm4 cd4 ct4 oc5 kV5 dc5 pm5 cd5 ct5 oc6 kV6 dc6 pm6 cd6 ct6 oc7 kV7 dc7 pm7 ct7 oc8 kV8 dc8 pm8 cd8 ct8 oc9 kV9 dc9 pm9 cd9 ct9 oc10 kV10 dc10 pm10 cd10 ct10 oc11 kV11 dc11 pm11 cd11 ct11 oc12 kV12 dc12 pm12 cd12 ct12 oc13 kV13 dc13 pm13 cd13 ct13 oc14 kV14 dc14 pm14 cd14 ct14 oc15 kV15 dc15 pm15 cd15 ct15 oc16 kV16 dc16 pm16 cd16 ct16 oc17 kV17 dc17 pm17 cd17 ct17 oc18 kV18 dc18 pm18 cd18 ct18 oc19 kV19 dc19 pm19 cd19 ct19 oc20 kV20 dc20 pm20 cd20 ct20 ocJ kVJ dcJ pmJ ctJ cclJ clJ cclH : Value} {t8 tg : Tok} {filf : Str}
    {CN CB CT fJ cdb cb M cdd Pt : Addr} {nn qm : Str} {bt sut : List Value} {sm : List Str} {ac : Bool} {com : Option Bool} {de : Option Addr} {q0 q1 q2 q3 q5 : Option Value}
    (a0 : PySem.W.nsIn K mainGlobals "_law_cell" = some (some (.ref f0)))
    (l0 : K.lookup f0 = some ⟨oc0, od0, .func (PySem.W.fnOf "_law_cell" "_law_cell" (defArgs s_law_cell) (defBody s_law_cell) (defScope s_law_cell) .none kV0 dc0 pm0 an0 cd0 ct0), sl0⟩)
    (c0 : PySem.W.codeIn K cd0 "_law_cell" = true)
    (k0 : PySem.W.keepIn K (.ref f0) = true)
    (a1 : PySem.W.nsIn K mainGlobals "_law_draws" = some (some (.ref f1)))
    (l1 : K.lookup f1 = some ⟨oc1, od1, .func (PySem.W.fnOf "_law_draws" "_law_draws" (defArgs s_law_draws) (defBody s_law_draws) (defScope s_law_draws) .none kV1 dc1 pm1 an1 cd1 ct1), sl1⟩)
    (c1 : PySem.W.codeIn K cd1 "_law_draws" = true)
    (k1 : PySem.W.keepIn K (.ref f1) = true)
    (a2 : PySem.W.nsIn K mainGlobals "holds_all" = some (some (.ref f2)))
    (l2 : K.lookup f2 = some ⟨oc2, od2, .func (PySem.W.fnOf "holds_all" "holds_all" (defArgs sholds_all) (defBody sholds_all) (defScope sholds_all) .none kV2 dc2 pm2 an2 cd2 ct2), sl2⟩)
    (c2 : PySem.W.codeIn K cd2 "holds_all" = true)
    (k2 : PySem.W.keepIn K (.ref f2) = true)
    (a3 : PySem.W.nsIn K mainGlobals "_has_part" = some (some (.ref f3)))
    (l3 : K.lookup f3 = some ⟨oc3, od3, .func (PySem.W.fnOf "_has_part" "_has_part" (defArgs s_has_part) (defBody s_has_part) (defScope s_has_part) .none kV3 dc3 pm3 an3 cd3 ct3), sl3⟩)
    (c3 : PySem.W.codeIn K cd3 "_has_part" = true)
    (k3 : PySem.W.keepIn K (.ref f3) = true)
    (a4 : PySem.W.nsIn K mainGlobals "_enlarged" = some (some (.ref f4)))
    (l4 : K.lookup f4 = some ⟨oc4, od4, .func (PySem.W.fnOf "_enlarged" "_enlarged" (defArgs s_enlarged) (defBody s_enlarged) (defScope s_enlarged) .none kV4 dc4 pm4 an4 cd4 ct4), sl4⟩)
    (c4 : PySem.W.codeIn K cd4 "_enlarged" = true)
    (k4 : PySem.W.keepIn K (.ref f4) = true)
    (a5 : PySem.W.nsIn K mainGlobals "_first_missed" = some (some (.ref f5)))
    (l5 : K.lookup f5 = some ⟨oc5, od5, .func (PySem.W.fnOf "_first_missed" "_first_missed" (defArgs s_first_missed) (defBody s_first_missed) (defScope s_first_missed) .none kV5 dc5 pm5 an5 cd5 ct5), sl5⟩)
    (c5 : PySem.W.codeIn K cd5 "_first_missed" = true)
    (k5 : PySem.W.keepIn K (.ref f5) = true)
    (a6 : PySem.W.nsIn K mainGlobals "least_hits" = some (some (.ref f6)))
    (l6 : K.lookup f6 = some ⟨oc6, od6, .func (PySem.W.fnOf "least_hits" "least_hits" (defArgs sleast_hits) (defBody sleast_hits) (defScope sleast_hits) .none kV6 dc6 pm6 an6 cd6 ct6), sl6⟩)
    (c6 : PySem.W.codeIn K cd6 "least_hits" = true)
    (k6 : PySem.W.keepIn K (.ref f6) = true)
    (a7 : PySem.W.nsIn K mainGlobals "all_hits" = some (some (.ref f7)))
    (l7 : K.lookup f7 = some ⟨oc7, od7, .func (PySem.W.fnOf "all_hits" "all_hits" (defArgs sall_hits) (defBody sall_hits) (defScope sall_hits) .none kV7 dc7 pm7 an7 (.ref cdd) ct7), sl7⟩)
    (c7 : PySem.W.codeIn K (.ref cdd) "all_hits" = true)
    (k7 : PySem.W.keepIn K (.ref f7) = true)
    (a8 : PySem.W.nsIn K mainGlobals "_law_numbers" = some (some (.ref f8)))
    (l8 : K.lookup f8 = some ⟨oc8, od8, .func (PySem.W.fnOf "_law_numbers" "_law_numbers" (defArgs s_law_numbers) (defBody s_law_numbers) (defScope s_law_numbers) .none kV8 dc8 pm8 an8 cd8 ct8), sl8⟩)
    (c8 : PySem.W.codeIn K cd8 "_law_numbers" = true)
    (k8 : PySem.W.keepIn K (.ref f8) = true)
    (a9 : PySem.W.nsIn K mainGlobals "_law_ask" = some (some (.ref f9)))
    (l9 : K.lookup f9 = some ⟨oc9, od9, .func (PySem.W.fnOf "_law_ask" "_law_ask" (defArgs s_law_ask) (defBody s_law_ask) (defScope s_law_ask) .none kV9 dc9 pm9 an9 cd9 ct9), sl9⟩)
    (c9 : PySem.W.codeIn K cd9 "_law_ask" = true)
    (k9 : PySem.W.keepIn K (.ref f9) = true)
    (a10 : PySem.W.nsIn K mainGlobals "_law_sets" = some (some (.ref f10)))
    (l10 : K.lookup f10 = some ⟨oc10, od10, .func (PySem.W.fnOf "_law_sets" "_law_sets" (defArgs s_law_sets) (defBody s_law_sets) (defScope s_law_sets) .none kV10 dc10 pm10 an10 cd10 ct10), sl10⟩)
    (c10 : PySem.W.codeIn K cd10 "_law_sets" = true)
    (k10 : PySem.W.keepIn K (.ref f10) = true)
    (a11 : PySem.W.nsIn K mainGlobals "_law_shares" = some (some (.ref f11)))
    (l11 : K.lookup f11 = some ⟨oc11, od11, .func (PySem.W.fnOf "_law_shares" "_law_shares" (defArgs s_law_shares) (defBody s_law_shares) (defScope s_law_shares) .none kV11 dc11 pm11 an11 cd11 ct11), sl11⟩)
    (c11 : PySem.W.codeIn K cd11 "_law_shares" = true)
    (k11 : PySem.W.keepIn K (.ref f11) = true)
    (a12 : PySem.W.nsIn K mainGlobals "_law_hits" = some (some (.ref f12)))
    (l12 : K.lookup f12 = some ⟨oc12, od12, .func (PySem.W.fnOf "_law_hits" "_law_hits" (defArgs s_law_hits) (defBody s_law_hits) (defScope s_law_hits) .none kV12 dc12 pm12 an12 cd12 ct12), sl12⟩)
    (c12 : PySem.W.codeIn K cd12 "_law_hits" = true)
    (k12 : PySem.W.keepIn K (.ref f12) = true)
    (a13 : PySem.W.nsIn K mainGlobals "_law_has_part" = some (some (.ref f13)))
    (l13 : K.lookup f13 = some ⟨oc13, od13, .func (PySem.W.fnOf "_law_has_part" "_law_has_part" (defArgs s_law_has_part) (defBody s_law_has_part) (defScope s_law_has_part) .none kV13 dc13 pm13 an13 cd13 ct13), sl13⟩)
    (c13 : PySem.W.codeIn K cd13 "_law_has_part" = true)
    (k13 : PySem.W.keepIn K (.ref f13) = true)
    (a14 : PySem.W.nsIn K mainGlobals "_law_least" = some (some (.ref f14)))
    (l14 : K.lookup f14 = some ⟨oc14, od14, .func (PySem.W.fnOf "_law_least" "_law_least" (defArgs s_law_least) (defBody s_law_least) (defScope s_law_least) .none kV14 dc14 pm14 an14 cd14 ct14), sl14⟩)
    (c14 : PySem.W.codeIn K cd14 "_law_least" = true)
    (k14 : PySem.W.keepIn K (.ref f14) = true)
    (a15 : PySem.W.nsIn K mainGlobals "_law_same" = some (some (.ref f15)))
    (l15 : K.lookup f15 = some ⟨oc15, od15, .func (PySem.W.fnOf "_law_same" "_law_same" (defArgs s_law_same) (defBody s_law_same) (defScope s_law_same) .none kV15 dc15 pm15 an15 cd15 ct15), sl15⟩)
    (c15 : PySem.W.codeIn K cd15 "_law_same" = true)
    (k15 : PySem.W.keepIn K (.ref f15) = true)
    (a16 : PySem.W.nsIn K mainGlobals "_law_wide" = some (some (.ref f16)))
    (l16 : K.lookup f16 = some ⟨oc16, od16, .func (PySem.W.fnOf "_law_wide" "_law_wide" (defArgs s_law_wide) (defBody s_law_wide) (defScope s_law_wide) .none kV16 dc16 pm16 an16 cd16 ct16), sl16⟩)
    (c16 : PySem.W.codeIn K cd16 "_law_wide" = true)
    (k16 : PySem.W.keepIn K (.ref f16) = true)
    (a17 : PySem.W.nsIn K mainGlobals "_law_wide_due" = some (some (.ref f17)))
    (l17 : K.lookup f17 = some ⟨oc17, od17, .func (PySem.W.fnOf "_law_wide_due" "_law_wide_due" (defArgs s_law_wide_due) (defBody s_law_wide_due) (defScope s_law_wide_due) .none kV17 dc17 pm17 an17 cd17 ct17), sl17⟩)
    (c17 : PySem.W.codeIn K cd17 "_law_wide_due" = true)
    (k17 : PySem.W.keepIn K (.ref f17) = true)
    (a18 : PySem.W.nsIn K mainGlobals "_law_wide_holds" = some (some (.ref f18)))
    (l18 : K.lookup f18 = some ⟨oc18, od18, .func (PySem.W.fnOf "_law_wide_holds" "_law_wide_holds" (defArgs s_law_wide_holds) (defBody s_law_wide_holds) (defScope s_law_wide_holds) .none kV18 dc18 pm18 an18 cd18 ct18), sl18⟩)
    (c18 : PySem.W.codeIn K cd18 "_law_wide_holds" = true)
    (k18 : PySem.W.keepIn K (.ref f18) = true)
    (a19 : PySem.W.nsIn K mainGlobals "_law_deep_holds" = some (some (.ref f19)))
    (l19 : K.lookup f19 = some ⟨oc19, od19, .func (PySem.W.fnOf "_law_deep_holds" "_law_deep_holds" (defArgs s_law_deep_holds) (defBody s_law_deep_holds) (defScope s_law_deep_holds) .none kV19 dc19 pm19 an19 cd19 ct19), sl19⟩)
    (c19 : PySem.W.codeIn K cd19 "_law_deep_holds" = true)
    (k19 : PySem.W.keepIn K (.ref f19) = true)
    (a20 : PySem.W.nsIn K mainGlobals "law" = some (some (.ref f20)))
    (l20 : K.lookup f20 = some ⟨oc20, od20, .func (PySem.W.fnOf "law" "law" (defArgs slaw) (defBody slaw) (defScope slaw) .none kV20 dc20 pm20 an20 cd20 ct20), sl20⟩)
    (c20 : PySem.W.codeIn K cd20 "law" = true)
    (k20 : PySem.W.keepIn K (.ref f20) = true)
    (lch : K.lookup cdd = some ⟨cclH, cddH, .fields vsH, csH⟩)
    (hvh : vsH[11]? = some (.ref Pt))
    (hch : PySem.W.codeHdIn K cdd Pt = true)
    (nPt : K.lookup Pt = none)
    (z_len : PySem.W.nsIn K mainGlobals "len" = some none)
    (z_abs : PySem.W.nsIn K mainGlobals "abs" = some none)
    (z_int : PySem.W.nsIn K mainGlobals "int" = some none)
    (z_range : PySem.W.nsIn K mainGlobals "range" = some none)
    (z_list : PySem.W.nsIn K mainGlobals "list" = some none)
    (z_tuple : PySem.W.nsIn K mainGlobals "tuple" = some none)
    (z_max : PySem.W.nsIn K mainGlobals "max" = some none)
    (z_isinstance : PySem.W.nsIn K mainGlobals "isinstance" = some none)
    (z_bool : PySem.W.nsIn K mainGlobals "bool" = some none)
    (z_reversed : PySem.W.nsIn K mainGlobals "reversed" = some none)
    (z_sorted : PySem.W.nsIn K mainGlobals "sorted" = some none)
    (z_enumerate : PySem.W.nsIn K mainGlobals "enumerate" = some none)
    (z_all : PySem.W.nsIn K mainGlobals "all" = some none)
    (z_any : PySem.W.nsIn K mainGlobals "any" = some none)
    (z_super : PySem.W.nsIn K mainGlobals "super" = some none)
    (z_ValueError : PySem.W.nsIn K mainGlobals "ValueError" = some none)
    (m8 : PySem.W.nsIn K mainGlobals "MOST_LOTS" = some (some (.int 2000 t8)))
    (aCN : PySem.W.nsIn K mainGlobals "BadNumber" = some (some (.ref CN)))
    (aCB : PySem.W.nsIn K mainGlobals "BusError" = some (some (.ref CB)))
    (aCT : PySem.W.nsIn K mainGlobals "TooMany" = some (some (.ref CT)))
    (yN : K.lookup CT = some (excClassObj nn qm CT M bt [.ref CB, .type "ValueError", .type "Exception", .type "BaseException", .type "object"] true sm sut ac com de q0 q1 q2 q3 q5 "ValueError.__new__"))
    (sb : PySem.W.findIn K (.ref CT) "__setattr__" = some (some (.builtin "object.__setattr__")))
    (gb : PySem.W.findIn K (.ref CT) "__getattribute__" = some (some (.builtin "BaseException.__getattribute__")))
    (gh : PySem.W.findIn K (.ref CT) "__getattr__" = some none)
    (n3 : PySem.W.findIn K (.ref CT) "what" = some none)
    (n4 : PySem.W.findIn K (.ref CT) "most" = some none)
    (iT : PySem.W.findIn K (.ref CT) "__init__" = some (some (.ref fJ)))
    (tJ : PySem.W.typeIn K (.ref fJ) = some (.type "function"))
    (kT : PySem.W.keepIn K (.ref CT) = true)
    (eCN : PySem.W.subIn K (.ref CN) (.type "BaseException") = some true)
    (tCN : PySem.W.typeIn K (.ref CN) = some (.type "type"))
    (hCN : PySem.W.hasDictIn K CN = true)
    (eCB : PySem.W.subIn K (.ref CB) (.type "BaseException") = some true)
    (tCB : PySem.W.typeIn K (.ref CB) = some (.type "type"))
    (hCB : PySem.W.hasDictIn K CB = true)
    (eCT : PySem.W.subIn K (.ref CT) (.type "BaseException") = some true)
    (tCT : PySem.W.typeIn K (.ref CT) = some (.type "type"))
    (hCT : PySem.W.hasDictIn K CT = true)
    (rCN : PySem.W.subIn K (.ref CT) (.ref CN) = some false)
    (meCN : CT ≠ CN)
    (rCB : PySem.W.subIn K (.ref CT) (.ref CB) = some true)
    (kV : PySem.W.kitOne K (.ref CT) (.type "ValueError") = some true)
    (vT : PySem.W.subIn K (.ref CT) (.type "ValueError") = some true)
    (mT : PySem.W.mroIn K CT (.ref CT) = some true)
    (mP : PySem.W.mroIn K CT (.type "object") = some true)
    (suT : PySem.W.ks_superIn K CT CT "__init__" = some (some (.builtin "ValueError.__init__")))
    (noO : PySem.W.nsIn K cStatics "thirdparty.any" = some none)
    (top : (l.prog.main.scope.names.lookup ("super" : Str)).isSome = false)
    (lJ : K.lookup fJ = some ⟨ocJ, odJ, .func (PySem.W.ksFn "__init__" "TooMany.__init__" (defArgs (inClass (topS 3) 0)) (defBody (inClass (topS 3) 0)) (defScope (inClass (topS 3) 0)) .none kVJ dcJ pmJ anJ (.ref cdb) ctJ cb), slJ⟩)
    (cJ : PySem.W.codeIn K (.ref cdb) "TooMany.__init__" = true)
    (lce : K.lookup cdb = some ⟨cclJ, cddJ, .fields vsJ, csJ⟩)
    (hvt : vsJ[2]? = some (.str filf tg))
    (hfj : ((l.prog.main.file : Str) == filf) = true)
    (lcb : K.lookup cb = some ⟨clJ, cldJ, .cell (some (.ref CT)), clsJ⟩)
    (hcb : PySem.W.findIn K (.ref CT) "__class__" = some (some (.builtin "object.__class__")))
    (hsp : PySem.W.specialIn K (.builtin "object.__class__") "__get__" = some (some (.builtin "getset_descriptor.__get__")))
    (htk : PySem.W.takesIn K (.builtin "object.__class__") = some true)
    : LawAtS l w K CX0 8 63 "script" mg fa h := by
  have e := hfa.symm.trans (PySem.W.mg_of X G a20)
  cases e
  have F0 := fun_mk (st := s_law_cell) l0 c0 k0
  have b0 := F0.binds (ps := ["script", "k"]) fun _ _ _ _ _ _ us hl => match us, hl with | [_, _], _ => rfl
  have F1 := fun_mk (st := s_law_draws) l1 c1 k1
  have b1 := F1.binds (ps := ["cell", "sizes"]) fun _ _ _ _ _ _ us hl => match us, hl with | [_, _], _ => rfl
  have F2 := fun_mk (st := sholds_all) l2 c2 k2
  have b2 := F2.binds (ps := ["lot", "part"]) fun _ _ _ _ _ _ us hl => match us, hl with | [_, _], _ => rfl
  have F3 := fun_mk (st := s_has_part) l3 c3 k3
  have b3 := F3.binds (ps := ["lot", "begun"]) fun _ _ _ _ _ _ us hl => match us, hl with | [_, _], _ => rfl
  have F4 := fun_mk (st := s_enlarged) l4 c4 k4
  have b4 := F4.binds (ps := ["missed", "most"]) fun _ _ _ _ _ _ us hl => match us, hl with | [_, _], _ => rfl
  have F5 := fun_mk (st := s_first_missed) l5 c5 k5
  have b5 := F5.binds (ps := ["sets", "lot"]) fun _ _ _ _ _ _ us hl => match us, hl with | [_, _], _ => rfl
  have F6 := fun_mk (st := sleast_hits) l6 c6 k6
  have b6 := F6.binds (ps := ["witness", "most"]) fun _ _ _ _ _ _ us hl => match us, hl with | [_, _], _ => rfl
  have F7 := fun_mk (st := sall_hits) l7 c7 k7
  have b7 := F7.binds (ps := ["sets", "most"]) fun _ _ _ _ _ _ us hl => match us, hl with | [_, _], _ => rfl
  have F8 := fun_mk (st := s_law_numbers) l8 c8 k8
  have b8 := F8.binds (ps := ["cell"]) fun _ _ _ _ _ _ us hl => match us, hl with | [_], _ => rfl
  have F9 := fun_mk (st := s_law_ask) l9 c9 k9
  have b9 := F9.binds (ps := ["sets", "cap"]) fun _ _ _ _ _ _ us hl => match us, hl with | [_, _], _ => rfl
  have F10 := fun_mk (st := s_law_sets) l10 c10 k10
  have b10 := F10.binds (ps := ["script", "numbers", "count"]) fun _ _ _ _ _ _ us hl => match us, hl with | [_, _, _], _ => rfl
  have F11 := fun_mk (st := s_law_shares) l11 c11 k11
  have b11 := F11.binds (ps := ["lot", "row"]) fun _ _ _ _ _ _ us hl => match us, hl with | [_, _], _ => rfl
  have F12 := fun_mk (st := s_law_hits) l12 c12 k12
  have b12 := F12.binds (ps := ["sets", "lot"]) fun _ _ _ _ _ _ us hl => match us, hl with | [_, _], _ => rfl
  have F13 := fun_mk (st := s_law_has_part) l13 c13 k13
  have b13 := F13.binds (ps := ["lot", "found"]) fun _ _ _ _ _ _ us hl => match us, hl with | [_, _], _ => rfl
  have F14 := fun_mk (st := s_law_least) l14 c14 k14
  have b14 := F14.binds (ps := ["sets", "cap"]) fun _ _ _ _ _ _ us hl => match us, hl with | [_, _], _ => rfl
  have F15 := fun_mk (st := s_law_same) l15 c15 k15
  have b15 := F15.binds (ps := ["told", "due"]) fun _ _ _ _ _ _ us hl => match us, hl with | [_, _], _ => rfl
  have F16 := fun_mk (st := s_law_wide) l16 c16 k16
  have b16 := F16.binds (ps := ["drawn"]) fun _ _ _ _ _ _ us hl => match us, hl with | [_], _ => rfl
  have F17 := fun_mk (st := s_law_wide_due) l17 c17 k17
  have b17 := F17.binds (ps := ["groups", "cap"]) fun _ _ _ _ _ _ us hl => match us, hl with | [_, _], _ => rfl
  have F18 := fun_mk (st := s_law_wide_holds) l18 c18 k18
  have b18 := F18.binds (ps := ["cell"]) fun _ _ _ _ _ _ us hl => match us, hl with | [_], _ => rfl
  have F19 := fun_mk (st := s_law_deep_holds) l19 c19 k19
  have b19 := F19.binds (ps := ["cell"]) fun _ _ _ _ _ _ us hl => match us, hl with | [_], _ => rfl
  have F20 := fun_mk (st := slaw) l20 c20 k20
  have one : ∀ {p : Addr × Addr}, p ∈ [(cdd, Pt)] → p = (cdd, Pt) := fun h => List.mem_singleton.mp h
  refine ⟨PySem.W.fnOf "law" "law" (defArgs slaw) (defBody slaw) (defScope slaw) .none kV20 dc20 pm20 an20 cd20 ct20, [(cdd, Pt)], sp_law K Pt, fun p hp => ?_, fun p hp => ?_, fun p hp => ?_, fun s v => .of_eq rfl, fun H a ns hl _ hT hS => ⟨a, ns, rfl, hS, hl, fun p hp => ?_, fun _ => rfl⟩, fun base _ _ hTB => ?_⟩
  · rw [one hp]
    exact own0 f7 (PySem.W.mg_of X G a7) cdd Pt _ _ _ _ _ _ l7 rfl rfl lch hvh
  · rw [one hp]
    exact nPt
  · rw [one hp]
    exact PySem.W.codeHd_of_K X hch
  · rw [List.mem_singleton.mp hp]
    exact TabN.nil (hT (cdd, Pt) (List.mem_singleton.mpr rfl))
  have TB : TabB base mg cdd Pt := hTB (cdd, Pt) (List.mem_singleton.mpr rfl)
  have T : Txt mg := ⟨PySem.W.mg_none_of X G z_len, PySem.W.mg_none_of X G z_abs, PySem.W.mg_none_of X G z_int, PySem.W.mg_none_of X G z_range, PySem.W.mg_none_of X G z_list, PySem.W.mg_none_of X G z_tuple, PySem.W.mg_none_of X G z_max, PySem.W.mg_none_of X G z_isinstance, PySem.W.mg_none_of X G z_bool, PySem.W.mg_none_of X G z_reversed, PySem.W.mg_none_of X G z_sorted, PySem.W.mg_none_of X G z_enumerate, PySem.W.mg_none_of X G z_all, PySem.W.mg_none_of X G z_any, PySem.W.mg_none_of X G z_super, PySem.W.mg_none_of X G z_ValueError, ⟨_, PySem.W.mg_of X G m8⟩⟩
  have owT : PySem.OwX.OwnTxt l.prog K CT fJ ["what", "most"] :=
    { cls := ⟨nn, qm, M, bt, _, sm, sut, ac, com, de, q0, q1, q2, q3, q5, yN, by first | rfl | decide +kernel⟩, sa := sb, ga := gb, gg := gh,
      noN := fun f hf => by
        simp only [List.mem_cons, List.not_mem_nil, or_false] at hf
        rcases hf with rfl | rfl
        · exact n3
        · exact n4
      iC := iT, tC := tJ, kC := kT, exC := eCT, tyC := tCT, hdC := hCT, veC := vT, spC := mT, suC := suT, noO := noO, noS := z_super, top := top, few := by decide,
      fn := ⟨ocJ, odJ, "__init__", "TooMany.__init__", _, _, _, .none, kVJ, dcJ, pmJ, anJ, cdb, cb, ctJ, slJ, _, cclJ, cddJ, vsJ, csJ, filf, tg, clJ, cldJ, clsJ, lJ, cJ,
        .mk (by decide) (.cons (.cons .nil)), rfl, rfl, lce, hvt, hfj, lcb, rfl, rfl, (fun y hy => by
          simp only [List.mem_cons, List.not_mem_nil, or_false] at hy
          rcases hy with rfl | rfl | rfl <;> rfl), (by decide), rfl, rfl, rfl, fun s us hu => match us, hu with | [_, _, _], _ => .of_eq rfl⟩ }
  have et : ExcC K CT := ⟨gb, gh, eCT, hCT, hcb, hsp, htk, mP⟩
  have XT : Exm l.prog K mg CN CB CT fJ :=
    { own := owT, gN := PySem.W.mg_of X G aCT, gB := PySem.W.mg_of X G aCB, gD := PySem.W.mg_of X G aCN, ec := et, xf := ⟨gb, gh, eCT, hCT⟩,
      te := PySem.W.exm_ref eCB hCB tCB rCB, kT := kit_self, kV := kV, kN := kit_other meCN eCN (PySem.W.exm_ref eCN hCN tCN rCN) }
  have C_law_cell : Cal l.prog w K mg base 1 "_law_cell" ["script", "k"] (sp_cell K) f0 _ := ⟨ok_cell F0 T  , PySem.W.mg_of X G a0, k0, b0⟩
  have C_law_draws : Cal l.prog w K mg base 1 "_law_draws" ["cell", "sizes"] (sp_draws K) f1 _ := ⟨ok_draws F1 T  , PySem.W.mg_of X G a1, k1, b1⟩
  have Cholds_all : Cal l.prog w K mg base 1 "holds_all" ["lot", "part"] (sp_holds K) f2 _ := ⟨ok_holds F2 T  , PySem.W.mg_of X G a2, k2, b2⟩
  have C_has_part : Cal l.prog w K mg base 2 "_has_part" ["lot", "begun"] (sp_haspart K) f3 _ := ⟨ok_haspart F3 T  Cholds_all, PySem.W.mg_of X G a3, k3, b3⟩
  have C_enlarged : Cal l.prog w K mg base 1 "_enlarged" ["missed", "most"] (sp_enl K) f4 _ := ⟨ok_enl F4 T  , PySem.W.mg_of X G a4, k4, b4⟩
  have C_first_missed : Cal l.prog w K mg base 1 "_first_missed" ["sets", "lot"] (sp_fmiss K) f5 _ := ⟨ok_fmiss F5 T  , PySem.W.mg_of X G a5, k5, b5⟩
  have oL := ok_least (w := w) (base := base) F6 T XT C_has_part C_enlarged C_first_missed
  have Call_hits : CalX l.prog w K mg base 5 "all_hits" ["sets", "most"] (sp_all K CT Pt) f7 _ := ⟨ok_all l7 c7 TB T oL (PySem.W.mg_of X G a6) k6 b6, PySem.W.mg_of X G a7, k7, b7⟩
  have C_law_numbers : Cal l.prog w K mg base 2 "_law_numbers" ["cell"] sp_numbers f8 _ := ⟨ok_numbers F8 T  C_law_draws, PySem.W.mg_of X G a8, k8, b8⟩
  have C_law_ask : Cal l.prog w K mg base 6 "_law_ask" ["sets", "cap"] (sp_ask K Pt) f9 _ := ⟨ok_ask F9 T XT Call_hits, PySem.W.mg_of X G a9, k9, b9⟩
  have C_law_sets : Cal l.prog w K mg base 2 "_law_sets" ["script", "numbers", "count"] (sp_sets K) f10 _ := ⟨ok_sets F10 T  C_law_draws C_law_cell, PySem.W.mg_of X G a10, k10, b10⟩
  have C_law_shares : Cal l.prog w K mg base 1 "_law_shares" ["lot", "row"] (sp_shares K) f11 _ := ⟨ok_shares F11 T  , PySem.W.mg_of X G a11, k11, b11⟩
  have C_law_hits : Cal l.prog w K mg base 2 "_law_hits" ["sets", "lot"] (sp_hits K) f12 _ := ⟨ok_hits F12 T  C_law_shares, PySem.W.mg_of X G a12, k12, b12⟩
  have C_law_has_part : Cal l.prog w K mg base 1 "_law_has_part" ["lot", "found"] (sp_lpart K) f13 _ := ⟨ok_lpart F13 T  , PySem.W.mg_of X G a13, k13, b13⟩
  have C_law_least : Cal l.prog w K mg base 3 "_law_least" ["sets", "cap"] (sp_lleast K) f14 _ := ⟨ok_lleast F14 T  C_law_hits C_law_has_part, PySem.W.mg_of X G a14, k14, b14⟩
  have C_law_same : Cal l.prog w K mg base 1 "_law_same" ["told", "due"] (sp_same K) f15 _ := ⟨ok_same F15 T  , PySem.W.mg_of X G a15, k15, b15⟩
  have C_law_wide : Cal l.prog w K mg base 1 "_law_wide" ["drawn"] (sp_wide K) f16 _ := ⟨ok_wide F16 T  , PySem.W.mg_of X G a16, k16, b16⟩
  have C_law_wide_due : Cal l.prog w K mg base 1 "_law_wide_due" ["groups", "cap"] (sp_wdue K) f17 _ := ⟨ok_wdue F17 T  , PySem.W.mg_of X G a17, k17, b17⟩
  have C_law_wide_holds : Cal l.prog w K mg base 7 "_law_wide_holds" ["cell"] (sp_wholds Pt) f18 _ := ⟨ok_wholds F18 T  C_law_draws C_law_wide C_law_wide_due C_law_ask C_law_same, PySem.W.mg_of X G a18, k18, b18⟩
  have C_law_deep_holds : Cal l.prog w K mg base 7 "_law_deep_holds" ["cell"] (sp_wholds Pt) f19 _ := ⟨ok_dholds F19 T  C_law_draws C_law_ask C_law_same, PySem.W.mg_of X G a19, k19, b19⟩
  exact ok_law F20 T C_law_draws C_law_cell C_law_wide_holds C_law_deep_holds C_law_numbers C_law_sets C_law_least C_law_ask C_law_same
end K25W
open PySem PySem.W PyProof.Rows
set_option maxHeartbeats 0 in
theorem PySem.Challenge.cw_changeskept_k25_lists_that_hit_holds : PySem.Challenge.rw_changeskept_k25_lists_that_hit.Holds := by
  w_on; o_law; k_head; (case hw => w_witness2)
  k_fill
  refine K25W.walk_ofTabs (l := PySem.Challenge.rw_changeskept_k25_lists_that_hit) (n := 63) (k := 8) (x := "script") (nm := "all_hits") (CX := fun _ => L2.CX0) rfl (by decide) rfl ⟨rfl, by decide, by decide⟩ (by first | rfl | decide +kernel) (fun w h Y => PySem.W.km_in_of Y) ?F (fun _ _ _ _ _ h => h)
  case F =>
    intro w mg fa h _ KX G hmg own
    refine' K25W.all_mk KX G hmg own ?a0 ?l0 ?c0 ?k0 ?a1 ?l1 ?c1 ?k1 ?a2 ?l2 ?c2 ?k2 ?a3 ?l3 ?c3 ?k3 ?a4 ?l4 ?c4 ?k4 ?a5 ?l5 ?c5 ?k5 ?a6 ?l6 ?c6 ?k6 ?a7 ?l7 ?c7 ?k7 ?a8 ?l8 ?c8 ?k8 ?a9 ?l9 ?c9 ?k9 ?a10 ?l10 ?c10 ?k10 ?a11 ?l11 ?c11 ?k11 ?a12 ?l12 ?c12 ?k12 ?a13 ?l13 ?c13 ?k13 ?a14 ?l14 ?c14 ?k14 ?a15 ?l15 ?c15 ?k15 ?a16 ?l16 ?c16 ?k16 ?a17 ?l17 ?c17 ?k17 ?a18 ?l18 ?c18 ?k18 ?a19 ?l19 ?c19 ?k19 ?a20 ?l20 ?c20 ?k20 ?lch ?hvh ?hch ?nPt ?z_len ?z_abs ?z_int ?z_range ?z_list ?z_tuple ?z_max ?z_isinstance ?z_bool ?z_reversed ?z_sorted ?z_enumerate ?z_all ?z_any ?z_super ?z_ValueError ?m8 ?aCN ?aCB ?aCT ?yN ?sb ?gb ?gh ?n3 ?n4 ?iT ?tJ ?kT ?eCN ?tCN ?hCN ?eCB ?tCB ?hCB ?eCT ?tCT ?hCT ?rCN ?meCN ?rCB ?kV ?vT ?mT ?mP ?suT ?noO ?top ?lJ ?cJ ?lce ?hvt ?hfj ?lcb ?hcb ?hsp ?htk
    (case a0 => k_is); (case l0 => k_is); (case c0 => k_is); (case k0 => k_is); (case a1 => k_is); (case l1 => k_is); (case c1 => k_is); (case k1 => k_is)
    (case a2 => k_is); (case l2 => k_is); (case c2 => k_is); (case k2 => k_is); (case a3 => k_is); (case l3 => k_is); (case c3 => k_is); (case k3 => k_is)
    (case a4 => k_is); (case l4 => k_is); (case c4 => k_is); (case k4 => k_is); (case a5 => k_is); (case l5 => k_is); (case c5 => k_is); (case k5 => k_is)
    (case a6 => k_is); (case l6 => k_is); (case c6 => k_is); (case k6 => k_is); (case a7 => k_is); (case l7 => k_is); (case c7 => k_is); (case k7 => k_is)
    (case a8 => k_is); (case l8 => k_is); (case c8 => k_is); (case k8 => k_is); (case a9 => k_is); (case l9 => k_is); (case c9 => k_is); (case k9 => k_is)
    (case a10 => k_is); (case l10 => k_is); (case c10 => k_is); (case k10 => k_is); (case a11 => k_is); (case l11 => k_is); (case c11 => k_is); (case k11 => k_is)
    (case a12 => k_is); (case l12 => k_is); (case c12 => k_is); (case k12 => k_is); (case a13 => k_is); (case l13 => k_is); (case c13 => k_is); (case k13 => k_is)
    (case a14 => k_is); (case l14 => k_is); (case c14 => k_is); (case k14 => k_is); (case a15 => k_is); (case l15 => k_is); (case c15 => k_is); (case k15 => k_is)
    (case a16 => k_is); (case l16 => k_is); (case c16 => k_is); (case k16 => k_is); (case a17 => k_is); (case l17 => k_is); (case c17 => k_is); (case k17 => k_is)
    (case a18 => k_is); (case l18 => k_is); (case c18 => k_is); (case k18 => k_is); (case a19 => k_is); (case l19 => k_is); (case c19 => k_is); (case k19 => k_is)
    (case a20 => k_is); (case l20 => k_is); (case c20 => k_is); (case k20 => k_is); (case lch => k_is); (case hvh => rfl); (case hch => first | k_is | rfl | kernel_rfl | decide +kernel); (case nPt => first | k_is | rfl | kernel_rfl | decide +kernel)
    (case z_len => k_is); (case z_abs => k_is); (case z_int => k_is); (case z_range => k_is); (case z_list => k_is); (case z_tuple => k_is); (case z_max => k_is); (case z_isinstance => k_is)
    (case z_bool => k_is); (case z_reversed => k_is); (case z_sorted => k_is); (case z_enumerate => k_is); (case z_all => k_is); (case z_any => k_is); (case z_super => k_is); (case z_ValueError => k_is)
    (case m8 => k_is); (case aCN => k_is); (case aCB => k_is); (case aCT => k_is); (case yN => k_is); (case sb => k_is); (case gb => k_is); (case gh => k_is)
    (case n3 => k_is); (case n4 => k_is); (case iT => k_is); (case tJ => k_is); (case kT => k_is); (case eCN => k_is); (case tCN => k_is); (case hCN => k_is)
    (case eCB => k_is); (case tCB => k_is); (case hCB => k_is); (case eCT => k_is); (case tCT => k_is); (case hCT => k_is); (case rCN => first | k_is | rfl); (case meCN => decide)
    (case rCB => first | k_is | rfl); (case kV => first | k_is | rfl | kernel_rfl | decide +kernel); (case vT => k_is); (case mT => first | k_is | rfl | kernel_rfl); (case mP => first | k_is | rfl | kernel_rfl); (case suT => first | ks_is | rfl | kernel_rfl); (case noO => k_is); (case top => first | rfl | decide +kernel)
    (case lJ => k_is); (case cJ => k_is); (case lce => k_is); (case hvt => rfl); (case hfj => first | rfl | decide +kernel); (case lcb => k_is); (case hcb => k_is); (case hsp => first | k_is | rfl | kernel_rfl)
    (case htk => first | k_is | rfl | kernel_rfl)


