import PyProof.Rows.All
import Wide.All
import OpenK.AllK
import Wide.FinOn
import HandS.ForMost
import HandS.RevRange
import HandS.Rev
import HandS.IsInst
import HandS.More
import HandS.Conv
import HandS.Wide
import KE.DatumOrd
import PySem.Challenge.RW_changeskept_k02_order_or_ring
set_option Elab.async false
set_option linter.all false
set_option maxRecDepth 100000
set_option maxHeartbeats 4000000
/-! The mathematics of the law on the canonical order and the least ring: plain lists, no program in sight. -/
namespace K02
abbrev PL := List (Nat × Nat)
/-! ### lookups in lists of pairs -/
def look {β : Type} : List (Nat × β) → Nat → Option β
  | [], _ => none
  | p :: r, k => if p.1 = k then some p.2 else look r k
def put {β : Type} : List (Nat × β) → Nat → β → List (Nat × β)
  | [], k, v => [(k, v)]
  | p :: r, k, v => if p.1 = k then (p.1, v) :: r else p :: put r k v
theorem look_put {β : Type} (k : Nat) (v : β) : ∀ (l : List (Nat × β)) (j : Nat), look (put l k v) j = if k = j then some v else look l j
  | [], j => by
    show (if k = j then some v else none) = _
    rfl
  | p :: r, j => by
    unfold put
    by_cases h : p.1 = k
    · rw [if_pos h]
      show (if p.1 = j then some v else look r j) = if k = j then some v else (if p.1 = j then some p.2 else look r j)
      rw [h]
      by_cases e : k = j
      · rw [if_pos e, if_pos e]
      · rw [if_neg e, if_neg e, if_neg e]
    · rw [if_neg h]
      show (if p.1 = j then some p.2 else look (put r k v) j) = if k = j then some v else (if p.1 = j then some p.2 else look r j)
      rw [look_put k v r j]
      by_cases e : p.1 = j
      · have : ¬ k = j := fun z => h (e.trans z.symm)
        rw [if_pos e, if_neg this, if_pos e]
      · rw [if_neg e, if_neg e]
theorem look_mem {β : Type} : ∀ {l : List (Nat × β)} {k : Nat} {v : β}, look l k = some v → (k, v) ∈ l
  | [], _, _, h => by cases h
  | p :: r, k, v, h => by
    unfold look at h
    by_cases e : p.1 = k
    · rw [if_pos e] at h
      cases h
      rw [← e]
      exact List.mem_cons_self
    · rw [if_neg e] at h
      exact List.mem_cons_of_mem _ (look_mem h)
theorem look_snoc {β : Type} (k : Nat) (v : β) : ∀ (l : List (Nat × β)) (j : Nat), look l k = none → look (l ++ [(k, v)]) j = if k = j then some v else look l j
  | [], j, _ => by
    show (if k = j then some v else none) = _
    rfl
  | p :: r, j, h => by
    have h0 : ¬ p.1 = k := fun e => by
      unfold look at h
      rw [if_pos e] at h
      cases h
    have h1 : look r k = none := by
      unfold look at h
      rwa [if_neg h0] at h
    show (if p.1 = j then some p.2 else look (r ++ [(k, v)]) j) = if k = j then some v else (if p.1 = j then some p.2 else look r j)
    rw [look_snoc k v r j h1]
    by_cases e : p.1 = j
    · have : ¬ k = j := fun z => h0 (e.trans z.symm)
      rw [if_pos e, if_neg this, if_pos e]
    · rw [if_neg e, if_neg e]
theorem look_none_iff {β : Type} : ∀ {l : List (Nat × β)} {k : Nat}, look l k = none ↔ k ∉ l.map (·.1)
  | [], k => by simp [look]
  | p :: r, k => by
    unfold look
    by_cases e : p.1 = k
    · rw [if_pos e]
      simp [e]
    · rw [if_neg e, look_none_iff]
      simp only [List.map_cons, List.mem_cons, not_or]
      exact ⟨fun h => ⟨fun z => e z.symm, h⟩, fun h => h.2⟩
/-! ### pigeons -/
theorem nodup_len : ∀ (n : Nat) (l : List Nat), l.Nodup → (∀ x ∈ l, x < n) → l.length ≤ n
  | 0, [], _, _ => Nat.le_refl 0
  | 0, x :: r, _, h => absurd (h x List.mem_cons_self) (Nat.not_lt_zero _)
  | n + 1, l, hn, h => by
    have h1 : (l.erase n).Nodup := hn.erase n
    have h2 : ∀ x ∈ l.erase n, x < n := fun x hx => by
      have q := (hn.mem_erase_iff).mp hx
      have := h x q.2
      have := q.1
      omega
    have ih := nodup_len n (l.erase n) h1 h2
    have := List.le_length_erase (a := n) (l := l)
    omega
/-! ### pairs: what leads into a place, what leads out of it -/
def bef (ps : PL) (v : Nat) : List Nat := (ps.filter (fun p => p.2 == v)).map (·.1)
def aft (ps : PL) (v : Nat) : List Nat := (ps.filter (fun p => p.1 == v)).map (·.2)
theorem mem_bef {ps : PL} {u v : Nat} : u ∈ bef ps v ↔ (u, v) ∈ ps := by
  unfold bef
  rw [List.mem_map]
  constructor
  · rintro ⟨⟨a, b⟩, h, rfl⟩
    obtain ⟨h1, h2⟩ := List.mem_filter.mp h
    have e : b = v := by simpa using h2
    rw [← e]
    exact h1
  · intro h
    exact ⟨(u, v), List.mem_filter.mpr ⟨h, by simp⟩, rfl⟩
theorem mem_aft {ps : PL} {u v : Nat} : v ∈ aft ps u ↔ (u, v) ∈ ps := by
  unfold aft
  rw [List.mem_map]
  constructor
  · rintro ⟨⟨a, b⟩, h, rfl⟩
    obtain ⟨h1, h2⟩ := List.mem_filter.mp h
    have e : a = u := by simpa using h2
    rw [← e]
    exact h1
  · intro h
    exact ⟨(u, v), List.mem_filter.mpr ⟨h, by simp⟩, rfl⟩
/-! ### the canonical order -/
def freeP (ps : PL) (t : List Nat) (v : Nat) : Bool := !t.contains v && (bef ps v).all (fun b => t.contains b)
def nextP (m : Nat) (ps : PL) (t : List Nat) : Option Nat := (List.range m).find? (freeP ps t)
def growS (m : Nat) (ps : PL) (t : List Nat) : List Nat := match nextP m ps t with
  | none => t
  | some v => t ++ [v]
def grow (m : Nat) (ps : PL) : Nat → List Nat
  | 0 => []
  | k + 1 => growS m ps (grow m ps k)
def orderOf (m : Nat) (ps : PL) : Option (List Nat) := if (grow m ps m).length < m then none else some (grow m ps m)
theorem next_some {m : Nat} {ps : PL} {t : List Nat} {v : Nat} (h : nextP m ps t = some v) : v < m ∧ v ∉ t ∧ ∀ u, (u, v) ∈ ps → u ∈ t := by
  have h1 := List.find?_some h
  have h2 := List.mem_of_find?_eq_some h
  unfold freeP at h1
  rw [Bool.and_eq_true, List.all_eq_true] at h1
  refine ⟨List.mem_range.mp h2, by simpa using h1.1, fun u hu => ?_⟩
  simpa using h1.2 u (mem_bef.mpr hu)
theorem next_none {m : Nat} {ps : PL} {t : List Nat} (h : nextP m ps t = none) {v : Nat} (hv : v < m) (ht : v ∉ t) : ∃ u, (u, v) ∈ ps ∧ u ∉ t := by
  have h1 := List.find?_eq_none.mp h v (List.mem_range.mpr hv)
  have h2 : freeP ps t v = false := by simpa using h1
  unfold freeP at h2
  rw [Bool.and_eq_false_iff] at h2
  rcases h2 with h2 | h2
  · exact absurd (by simpa using h2) ht
  · rw [List.all_eq_false] at h2
    obtain ⟨u, hu, hc⟩ := h2
    exact ⟨u, mem_bef.mp hu, by simpa using hc⟩
theorem grow_len (m : Nat) (ps : PL) : ∀ k, (grow m ps k).length ≤ k
  | 0 => Nat.le_refl 0
  | k + 1 => by
    have ih := grow_len m ps k
    unfold grow growS
    cases nextP m ps (grow m ps k) with
    | none => exact Nat.le_succ_of_le ih
    | some v =>
      rw [List.length_append]
      exact Nat.succ_le_succ ih
theorem grow_stuck {m : Nat} {ps : PL} {k : Nat} (h : nextP m ps (grow m ps k) = none) : ∀ j, grow m ps (k + j) = grow m ps k
  | 0 => rfl
  | j + 1 => by
    have ih := grow_stuck h j
    show growS m ps (grow m ps (k + j)) = _
    rw [ih]
    unfold growS
    rw [h]
theorem grow_nodup (m : Nat) (ps : PL) : ∀ k, (grow m ps k).Nodup
  | 0 => List.nodup_nil
  | k + 1 => by
    have ih := grow_nodup m ps k
    unfold grow growS
    cases e : nextP m ps (grow m ps k) with
    | none => exact ih
    | some v =>
      refine List.nodup_append.mpr ⟨ih, by simp, ?_⟩
      intro a ha b hb
      have : b = v := by simpa using hb
      intro z
      rw [z, this] at ha
      exact (next_some e).2.1 ha
theorem grow_lt (m : Nat) (ps : PL) : ∀ k, ∀ x ∈ grow m ps k, x < m
  | 0, _, h => by cases h
  | k + 1, x, h => by
    have ih := grow_lt m ps k
    unfold grow growS at h
    cases e : nextP m ps (grow m ps k) with
    | none =>
      rw [e] at h
      exact ih x h
    | some v =>
      rw [e] at h
      rcases List.mem_append.mp h with q | q
      · exact ih x q
      · have : x = v := by simpa using q
        rw [this]
        exact (next_some e).1
/-- if each step found one, so many are taken -/
theorem grow_full {m : Nat} {ps : PL} : ∀ k, (∀ j, j < k → nextP m ps (grow m ps j) ≠ none) → (grow m ps k).length = k
  | 0, _ => rfl
  | k + 1, h => by
    have ih := grow_full k (fun j hj => h j (Nat.lt_succ_of_lt hj))
    unfold grow growS
    cases e : nextP m ps (grow m ps k) with
    | none => exact absurd e (h k (Nat.lt_succ_self k))
    | some v =>
      show (grow m ps k ++ [v]).length = k + 1
      rw [List.length_append, ih]
      rfl
theorem order_stuck {m : Nat} {ps : PL} {k : Nat} (hk : k < m) (h : nextP m ps (grow m ps k) = none) : orderOf m ps = none := by
  have e := grow_stuck h (m - k)
  rw [show k + (m - k) = m by omega] at e
  unfold orderOf
  rw [e, if_pos (Nat.lt_of_le_of_lt (grow_len m ps k) hk)]
theorem order_full {m : Nat} {ps : PL} (h : ∀ j, j < m → nextP m ps (grow m ps j) ≠ none) : orderOf m ps = some (grow m ps m) := by
  unfold orderOf
  rw [grow_full m h, if_neg (Nat.lt_irrefl _)]
/-- none: some step was stuck, with places left that lean on places left -/
theorem order_none {m : Nat} {ps : PL} (h : orderOf m ps = none) : ∃ t : List Nat, (∃ v, v < m ∧ v ∉ t) ∧ ∀ v, v < m → v ∉ t → ∃ u, (u, v) ∈ ps ∧ u ∉ t := by
  have hx : ∃ j, j < m ∧ nextP m ps (grow m ps j) = none := by
    apply Classical.byContradiction
    intro c
    have := order_full (m := m) (ps := ps) (fun j hj e => c ⟨j, hj, e⟩)
    rw [h] at this
    cases this
  obtain ⟨j, hj, e⟩ := hx
  refine ⟨grow m ps j, ?_, fun v hv ht => next_none e hv ht⟩
  apply Classical.byContradiction
  intro c
  have hall : ∀ v, v < m → v ∈ grow m ps j := fun v hv => Classical.byContradiction fun q => c ⟨v, hv, q⟩
  have h1 := nodup_len_ge (List.range m) (grow m ps j) List.nodup_range (fun x hx => hall x (List.mem_range.mp hx))
  rw [List.length_range] at h1
  have := grow_len m ps j
  omega
where
  nodup_len_ge : ∀ (a b : List Nat), a.Nodup → (∀ x ∈ a, x ∈ b) → a.length ≤ b.length
  | [], _, _, _ => Nat.zero_le _
  | x :: r, b, hn, h => by
    obtain ⟨h1, h2⟩ := List.nodup_cons.mp hn
    have ih := nodup_len_ge r (b.erase x) h2 (fun y hy => by
      have hyx : y ≠ x := fun z => h1 (z ▸ hy)
      exact (List.mem_erase_of_ne hyx).mpr (h y (List.mem_cons_of_mem _ hy)))
    have hx : x ∈ b := h x List.mem_cons_self
    have e := List.length_erase_of_mem hx
    have : 0 < b.length := List.length_pos_of_mem hx
    rw [List.length_cons]
    omega
/-! ### rings -/
/-- from u over the places of r, all beyond o, back to o -/
def Cl (ps : PL) (o : Nat) : Nat → List Nat → Prop
  | u, [] => (u, o) ∈ ps
  | u, v :: r => (u, v) ∈ ps ∧ o < v ∧ Cl ps o v r
def Len (ps : PL) (o u n : Nat) : Prop := ∃ r, Cl ps o u r ∧ r.length = n
/-- the first difference decides, else the shorter is the less -/
def lexLt : List Nat → List Nat → Bool
  | [], [] => false
  | [], _ :: _ => true
  | _ :: _, [] => false
  | x :: xs, y :: ys => if x = y then lexLt xs ys else decide (x < y)
theorem lex_irr : ∀ l : List Nat, lexLt l l = false
  | [] => rfl
  | x :: r => by
    unfold lexLt
    rw [if_pos rfl]
    exact lex_irr r
theorem lex_asym : ∀ {a b : List Nat}, lexLt a b = true → lexLt b a = false
  | [], [], h => by cases h
  | [], _ :: _, _ => rfl
  | _ :: _, [], h => by cases h
  | x :: xs, y :: ys, h => by
    unfold lexLt at h ⊢
    by_cases e : x = y
    · rw [if_pos e] at h
      rw [if_pos e.symm]
      exact lex_asym h
    · rw [if_neg e] at h
      rw [if_neg (fun z => e z.symm)]
      have := of_decide_eq_true h
      exact decide_eq_false (by omega)
theorem lex_anti : ∀ {a b : List Nat}, lexLt a b = false → lexLt b a = false → a = b
  | [], [], _, _ => rfl
  | [], _ :: _, h, _ => by cases h
  | _ :: _, [], _, h => by cases h
  | x :: xs, y :: ys, h, h' => by
    unfold lexLt at h h'
    by_cases e : x = y
    · rw [if_pos e] at h
      rw [if_pos e.symm] at h'
      rw [e, lex_anti h h']
    · rw [if_neg e] at h
      rw [if_neg (fun z => e z.symm)] at h'
      have := of_decide_eq_false h
      have := of_decide_eq_false h'
      omega
/-- not less goes on -/
theorem lex_le_trans : ∀ {a b c : List Nat}, lexLt b a = false → lexLt c b = false → lexLt c a = false
  | [], b, c, _, _ => by cases c <;> rfl
  | x :: xs, [], c, h, _ => by cases h
  | x :: xs, y :: ys, [], _, h => by cases h
  | x :: xs, y :: ys, z :: zs, h1, h2 => by
    unfold lexLt at h1 h2 ⊢
    by_cases e1 : y = x
    · rw [if_pos e1] at h1
      by_cases e2 : z = y
      · rw [if_pos e2] at h2
        rw [if_pos (e2.trans e1)]
        exact lex_le_trans h1 h2
      · rw [if_neg e2] at h2
        rw [if_neg (fun q => e2 (q.trans e1.symm))]
        have := of_decide_eq_false h2
        exact decide_eq_false (by omega)
    · rw [if_neg e1] at h1
      have g1 := of_decide_eq_false h1
      by_cases e2 : z = y
      · rw [if_neg (fun q => e1 (e2.symm.trans q))]
        exact decide_eq_false (by omega)
      · rw [if_neg e2] at h2
        have g2 := of_decide_eq_false h2
        rw [if_neg (by omega)]
        exact decide_eq_false (by omega)
theorem lex_app : ∀ {a b : List Nat} (x : List Nat), a.length = b.length → lexLt (a ++ x) (b ++ x) = lexLt a b
  | [], [], x, _ => lex_irr x
  | [], _ :: _, _, h => by simp at h
  | _ :: _, [], _, h => by simp at h
  | p :: a, q :: b, x, h => by
    show (if p = q then lexLt (a ++ x) (b ++ x) else decide (p < q)) = if p = q then lexLt a b else decide (p < q)
    rw [lex_app x (by simpa using h)]
/-- the least ring from o: the fewest places, then the first list -/
def LRing (ps : PL) (o : Nat) (l : List Nat) : Prop := ∃ r, l = o :: r ∧ Cl ps o o r ∧ ∀ r', Cl ps o o r' → r.length ≤ r'.length ∧ (r'.length = r.length → lexLt r' r = false)
theorem LRing.uniq {ps : PL} {o : Nat} {l m : List Nat} (a : LRing ps o l) (b : LRing ps o m) : l = m := by
  obtain ⟨r, rfl, c, h⟩ := a
  obtain ⟨t, rfl, d, k⟩ := b
  have h1 := h t d
  have k1 := k r c
  have e : r.length = t.length := Nat.le_antisymm h1.1 k1.1
  rw [lex_anti (k1.2 e) (h1.2 e.symm)]
open Classical in
noncomputable def ringOf (ps : PL) (o : Nat) : Option (List Nat) := if h : ∃ l, LRing ps o l then some (Classical.choose h) else none
theorem ringOf_some {ps : PL} {o : Nat} {l : List Nat} (h : LRing ps o l) : ringOf ps o = some l := by
  have hx : ∃ l, LRing ps o l := ⟨l, h⟩
  unfold ringOf
  rw [dif_pos hx, LRing.uniq (Classical.choose_spec hx) h]
theorem ringOf_none {ps : PL} {o : Nat} (h : ∀ r, ¬ Cl ps o o r) : ringOf ps o = none := by
  unfold ringOf
  rw [dif_neg]
  rintro ⟨l, r, _, c, _⟩
  exact h r c
theorem ringOf_is {ps : PL} {o : Nat} {l : List Nat} (h : ringOf ps o = some l) : LRing ps o l := by
  unfold ringOf at h
  by_cases hx : ∃ l, LRing ps o l
  · rw [dif_pos hx] at h
    cases h
    exact Classical.choose_spec hx
  · rw [dif_neg hx] at h
    cases h
def pick (b x : Option (List Nat)) : Option (List Nat) := match x, b with
  | none, _ => b
  | some l, none => some l
  | some l, some m => if l.length < m.length then some l else some m
noncomputable def best (ps : PL) : Nat → Option (List Nat)
  | 0 => none
  | o + 1 => pick (best ps o) (ringOf ps o)
/-! ### the program's way: steps backwards, then the least next place -/
/-- what the steps hold: o itself with 0; beyond o the fewest places of a way back to o, and one more -/
def IsSteps (ps : PL) (o : Nat) (S : Nat → Option Nat) : Prop := ∀ u n, S u = some n ↔ (u = o ∧ n = 0) ∨ (o < u ∧ ∃ k, n = k + 1 ∧ Len ps o u k ∧ ∀ j, j < k → ¬ Len ps o u j)
/-- row is built from u by the least next place -/
def Greedy (ps : PL) (S : Nat → Option Nat) : Nat → Nat → List Nat → Prop
  | _, 0, r => r = []
  | u, n + 1, r => ∃ v t, r = v :: t ∧ ((u, v) ∈ ps ∧ S v = some (n + 1)) ∧ (∀ w, (u, w) ∈ ps → S w = some (n + 1) → v ≤ w) ∧ Greedy ps S v n t
theorem greedy_len {ps : PL} {S : Nat → Option Nat} : ∀ {u n : Nat} {r : List Nat}, Greedy ps S u n r → r.length = n
  | _, 0, _, h => by
    have e : _ = _ := h
    rw [e]
    rfl
  | _, n + 1, _, ⟨v, t, e, _, _, h⟩ => by
    rw [e, List.length_cons, greedy_len h]
theorem greedy_least {ps : PL} {o : Nat} {S : Nat → Option Nat} (hS : IsSteps ps o S) : ∀ {n u : Nat} {r : List Nat}, Greedy ps S u n r → Len ps o u n → (∀ j, j < n → ¬ Len ps o u j) →
    Cl ps o u r ∧ ∀ r', Cl ps o u r' → r'.length = n → lexLt r' r = false
  | 0, u, r, h, hl, _ => by
    have e : r = [] := h
    obtain ⟨r0, c, z⟩ := hl
    have : r0 = [] := List.length_eq_zero_iff.mp z
    subst this
    subst e
    refine ⟨c, fun r' _ hz => ?_⟩
    rw [List.length_eq_zero_iff.mp hz]
    rfl
  | n + 1, u, r, ⟨v, t, e, ⟨huv, hv⟩, hmin, hg⟩, hl, hno => by
    subst e
    obtain ⟨q0, q1⟩ | ⟨hov, k, ek, hlv, hnv⟩ := (hS v (n + 1)).mp hv
    · cases q1
    · have ek' : k = n := by omega
      subst ek'
      obtain ⟨c, hm⟩ := greedy_least hS hg hlv hnv
      refine ⟨⟨huv, hov, c⟩, fun r' c' hz => ?_⟩
      cases r' with
      | nil => cases hz
      | cons w t' =>
        obtain ⟨huw, how, c2⟩ := c'
        have hz' : t'.length = k := by simpa using hz
        have hw : S w = some (k + 1) := (hS w (k + 1)).mpr (.inr ⟨how, k, rfl, ⟨t', c2, hz'⟩, fun j hj hL => by
          obtain ⟨r3, c3, z3⟩ := hL
          exact hno (j + 1) (by omega) ⟨w :: r3, ⟨huw, how, c3⟩, by rw [List.length_cons, z3]⟩⟩)
        have hle := hmin w huw hw
        unfold lexLt
        by_cases e : w = v
        · subst e
          rw [if_pos rfl]
          exact hm t' c2 hz'
        · rw [if_neg e]
          exact decide_eq_false (by omega)
theorem greedy_ring {ps : PL} {o : Nat} {S : Nat → Option Nat} (hS : IsSteps ps o S) {n : Nat} {r : List Nat} (h : Greedy ps S o n r) (hl : Len ps o o n) (hno : ∀ j, j < n → ¬ Len ps o o j) : LRing ps o (o :: r) := by
  obtain ⟨c, hm⟩ := greedy_least hS h hl hno
  have e := greedy_len h
  refine ⟨r, rfl, c, fun r' c' => ⟨?_, fun z => hm r' c' (z.trans e)⟩⟩
  rw [e]
  exact Nat.le_of_not_lt fun q => hno _ q ⟨r', c', rfl⟩
/-- a way with a next place: there is one that the greedy step may take -/
theorem greedy_next {ps : PL} {o : Nat} {S : Nat → Option Nat} (hS : IsSteps ps o S) {n u : Nat} (hl : Len ps o u (n + 1)) (hno : ∀ j, j < n + 1 → ¬ Len ps o u j) : ∃ v, (u, v) ∈ ps ∧ S v = some (n + 1) := by
  obtain ⟨r, c, z⟩ := hl
  cases r with
  | nil => cases z
  | cons w t =>
    obtain ⟨huw, how, c2⟩ := c
    have hz' : t.length = n := by simpa using z
    exact ⟨w, huw, (hS w (n + 1)).mpr (.inr ⟨how, n, rfl, ⟨t, c2, hz'⟩, fun j hj hL => by
      obtain ⟨r3, c3, z3⟩ := hL
      exact hno (j + 1) (by omega) ⟨w :: r3, ⟨huw, how, c3⟩, by rw [List.length_cons, z3]⟩⟩)⟩
theorem steps_beyond {ps : PL} {o : Nat} {S : Nat → Option Nat} (hS : IsSteps ps o S) {v n : Nat} (h : S v = some (n + 1)) : Len ps o v n ∧ ∀ j, j < n → ¬ Len ps o v j := by
  obtain ⟨_, q1⟩ | ⟨_, k, ek, hlv, hnv⟩ := (hS v (n + 1)).mp h
  · cases q1
  · have ek' : k = n := by omega
    subst ek'
    exact ⟨hlv, hnv⟩
/-- the lengths: the steps of the places behind o -/
theorem lens_some {ps : PL} {o : Nat} {S : Nat → Option Nat} (hS : IsSteps ps o S) {n : Nat} (hm : ∃ v, (o, v) ∈ ps ∧ S v = some n) (hle : ∀ v k, (o, v) ∈ ps → S v = some k → n ≤ k) : Len ps o o n ∧ ∀ j, j < n → ¬ Len ps o o j := by
  constructor
  · obtain ⟨v, hv, e⟩ := hm
    obtain ⟨rfl, rfl⟩ | ⟨hov, k, rfl, ⟨r, c, z⟩, _⟩ := (hS v n).mp e
    · exact ⟨[], hv, rfl⟩
    · exact ⟨v :: r, ⟨hv, hov, c⟩, by rw [List.length_cons, z]⟩
  · rintro j hj ⟨r, c, z⟩
    cases r with
    | nil =>
      have e : (o, o) ∈ ps := c
      have := hle o 0 e ((hS o 0).mpr (.inl ⟨rfl, rfl⟩))
      omega
    | cons v t =>
      obtain ⟨hov, hlt, c2⟩ := c
      -- the least way from v
      have hx : ∃ k, Len ps o v k ∧ ∀ i, i < k → ¬ Len ps o v i := least ⟨_, t, c2, rfl⟩
      obtain ⟨k, hk, hno⟩ := hx
      have hkt : k ≤ t.length := Nat.le_of_not_lt fun q => hno _ q ⟨t, c2, rfl⟩
      have := hle v (k + 1) hov ((hS v (k + 1)).mpr (.inr ⟨hlt, k, rfl, hk, hno⟩))
      rw [List.length_cons] at z
      omega
where
  least {P : Nat → Prop} (h : ∃ n, P n) : ∃ k, P k ∧ ∀ i, i < k → ¬ P i := by
    obtain ⟨n, hn⟩ := h
    induction n using Nat.strongRecOn with
    | ind n ih =>
      by_cases q : ∃ i, i < n ∧ P i
      · obtain ⟨i, hi, pi⟩ := q
        exact ih i hi pi
      · exact ⟨n, hn, fun i hi pi => q ⟨i, hi, pi⟩⟩
theorem lens_none {ps : PL} {o : Nat} {S : Nat → Option Nat} (hS : IsSteps ps o S) (h : ∀ v, (o, v) ∈ ps → S v = none) : ∀ r, ¬ Cl ps o o r := by
  intro r c
  cases r with
  | nil =>
    have := h o c
    rw [(hS o 0).mpr (.inl ⟨rfl, rfl⟩)] at this
    cases this
  | cons v t =>
    obtain ⟨hov, hlt, c2⟩ := c
    obtain ⟨k, hk, hno⟩ := lens_some.least (P := Len ps o v) ⟨_, t, c2, rfl⟩
    have := h v hov
    rw [(hS v (k + 1)).mpr (.inr ⟨hlt, k, rfl, hk, hno⟩)] at this
    cases this
/-- a ring from o has a least one -/
theorem greedy_is {ps : PL} {o : Nat} {S : Nat → Option Nat} (hS : IsSteps ps o S) : ∀ {n u : Nat}, Len ps o u n → (∀ j, j < n → ¬ Len ps o u j) → ∃ r, Greedy ps S u n r
  | 0, _, _, _ => ⟨[], rfl⟩
  | n + 1, u, hl, hno => by
    obtain ⟨v, ⟨huv, hv⟩, hmin⟩ := lens_some.least (P := fun v => (u, v) ∈ ps ∧ S v = some (n + 1)) (greedy_next hS hl hno)
    obtain ⟨h1, h2⟩ := steps_beyond hS hv
    obtain ⟨t, ht⟩ := greedy_is hS h1 h2
    exact ⟨v :: t, v, t, rfl, ⟨huv, hv⟩, fun w hw hs => Nat.le_of_not_lt fun q => hmin w q ⟨hw, hs⟩, ht⟩
open Classical in
noncomputable def trueSteps (ps : PL) (o u : Nat) : Option Nat := if u = o then some 0 else if h : o < u ∧ ∃ k, Len ps o u k then some (Classical.choose (lens_some.least h.2) + 1) else none
theorem trueSteps_is (ps : PL) (o : Nat) : IsSteps ps o (trueSteps ps o) := by
  intro u n
  unfold trueSteps
  by_cases e : u = o
  · rw [if_pos e]
    constructor
    · intro h
      cases h
      exact .inl ⟨e, rfl⟩
    · rintro (⟨_, rfl⟩ | ⟨h, _⟩)
      · rfl
      · omega
  · rw [if_neg e]
    by_cases h : o < u ∧ ∃ k, Len ps o u k
    · rw [dif_pos h]
      have q := Classical.choose_spec (lens_some.least h.2)
      constructor
      · intro z
        cases z
        exact .inr ⟨h.1, _, rfl, q.1, q.2⟩
      · rintro (⟨z, _⟩ | ⟨_, k, rfl, h1, h2⟩)
        · exact absurd z e
        · have a1 : ¬ k < Classical.choose (lens_some.least h.2) := fun z => q.2 _ z h1
          have a2 : ¬ Classical.choose (lens_some.least h.2) < k := fun z => h2 _ z q.1
          rw [show Classical.choose (lens_some.least h.2) = k by omega]
    · rw [dif_neg h]
      constructor
      · intro z
        cases z
      · rintro (⟨z, _⟩ | ⟨h1, k, _, h2, _⟩)
        · exact absurd z e
        · exact absurd ⟨h1, k, h2⟩ h
theorem ringOf_there {ps : PL} {o : Nat} {r : List Nat} (c : Cl ps o o r) : ∃ l, ringOf ps o = some l := by
  obtain ⟨n, h1, h2⟩ := lens_some.least (P := Len ps o o) ⟨_, r, c, rfl⟩
  obtain ⟨t, ht⟩ := greedy_is (trueSteps_is ps o) h1 h2
  exact ⟨_, ringOf_some (greedy_ring (trueSteps_is ps o) ht h1 h2)⟩
/-! ### the law's way: the least walk to each place, place by place longer -/
inductive Wk (ps : PL) (o : Nat) : List Nat → Nat → Prop
  | base : Wk ps o [o] o
  | step {l : List Nat} {u v : Nat} : Wk ps o l u → (u, v) ∈ ps → o < v → Wk ps o (l ++ [v]) v
theorem Wk.pos {ps : PL} {o : Nat} {l : List Nat} {v : Nat} (h : Wk ps o l v) : 0 < l.length := by
  cases h with
  | base => exact Nat.one_pos
  | step _ _ _ =>
    rw [List.length_append]
    exact Nat.succ_pos _
theorem wk_cl {ps : PL} {o : Nat} {l : List Nat} {u : Nat} (h : Wk ps o l u) : ∀ r, Cl ps o u r → ∃ t, l ++ r = o :: t ∧ Cl ps o o t := by
  induction h with
  | base => exact fun r c => ⟨r, rfl, c⟩
  | @step l u v _ huv hov ih =>
    intro r c
    obtain ⟨t, e, ct⟩ := ih (v :: r) ⟨huv, hov, c⟩
    exact ⟨t, by rw [List.append_assoc]; exact e, ct⟩
theorem cl_wk {ps : PL} {o : Nat} : ∀ {r l : List Nat} {u : Nat}, Wk ps o l u → Cl ps o u r → ∃ w, Wk ps o (l ++ r) w ∧ (w, o) ∈ ps
  | [], l, u, h, c => ⟨u, by rw [List.append_nil]; exact h, c⟩
  | v :: r, l, u, h, ⟨huv, hov, c⟩ => by
    obtain ⟨w, h1, h2⟩ := cl_wk (Wk.step h huv hov) c
    exact ⟨w, by rw [List.append_assoc] at h1; exact h1, h2⟩
/-- W holds the least walk of n + 1 places to each place -/
def IsWalks (ps : PL) (o n : Nat) (W : Nat → Option (List Nat)) : Prop :=
  (∀ v l, W v = some l → Wk ps o l v ∧ l.length = n + 1) ∧ ∀ v l', Wk ps o l' v → l'.length = n + 1 → ∃ l, W v = some l ∧ lexLt l' l = false
theorem walks_start (ps : PL) (o : Nat) : IsWalks ps o 0 (look [(o, [o])]) := by
  refine ⟨fun v l h => ?_, fun v l' h hl => ?_⟩
  · have h' : (if o = v then some [o] else none) = some l := h
    by_cases e : o = v
    · rw [if_pos e] at h'
      cases h'
      rw [← e]
      exact ⟨Wk.base, rfl⟩
    · rw [if_neg e] at h'
      cases h'
  · cases h with
    | base => exact ⟨[o], (show (if o = o then some [o] else none) = some [o] from if_pos rfl), lex_irr _⟩
    | step h1 _ _ =>
      have := h1.pos
      rw [List.length_append, List.length_singleton] at hl
      omega
def longerS (W : Nat → Option (List Nat)) (o : Nat) (lg : List (Nat × List Nat)) (p : Nat × Nat) : List (Nat × List Nat) :=
  if o < p.2 then
    match W p.1 with
    | none => lg
    | some l => match look lg p.2 with
      | none => put lg p.2 (l ++ [p.2])
      | some m => if lexLt (l ++ [p.2]) m then put lg p.2 (l ++ [p.2]) else lg
  else lg
def IsLonger (ps : PL) (W : Nat → Option (List Nat)) (o : Nat) (G : Nat → Option (List Nat)) : Prop :=
  (∀ v m, G v = some m → ∃ u l, (u, v) ∈ ps ∧ o < v ∧ W u = some l ∧ m = l ++ [v]) ∧ ∀ u v l, (u, v) ∈ ps → o < v → W u = some l → ∃ m, G v = some m ∧ lexLt (l ++ [v]) m = false
theorem longer_start (W : Nat → Option (List Nat)) (o : Nat) : IsLonger [] W o (look []) := ⟨fun _ _ h => (by cases h), fun _ _ _ h => (by cases h)⟩
theorem longer_stay {ps : PL} {W : Nat → Option (List Nat)} {o : Nat} {G : Nat → Option (List Nat)} {p : Nat × Nat} (h : IsLonger ps W o G) (hn : o < p.2 → ∀ l, W p.1 = some l → ∃ m, G p.2 = some m ∧ lexLt (l ++ [p.2]) m = false) : IsLonger (ps ++ [p]) W o G := by
  refine ⟨fun v m e => ?_, fun u v l hm hv hw => ?_⟩
  · obtain ⟨u, l, h1, h2, h3, h4⟩ := h.1 v m e
    exact ⟨u, l, List.mem_append_left _ h1, h2, h3, h4⟩
  · rcases List.mem_append.mp hm with q | q
    · exact h.2 u v l q hv hw
    · have e : (u, v) = p := by simpa using q
      subst e
      exact hn hv l hw
theorem longer_put {ps : PL} {W : Nat → Option (List Nat)} {o : Nat} {lg : List (Nat × List Nat)} {p : Nat × Nat} {l : List Nat} (h : IsLonger ps W o (look lg)) (ho : o < p.2) (hw : W p.1 = some l)
    (hle : ∀ m, look lg p.2 = some m → lexLt m (l ++ [p.2]) = false) : IsLonger (ps ++ [p]) W o (look (put lg p.2 (l ++ [p.2]))) := by
  refine ⟨fun v m e => ?_, fun u v l2 hm hv hw2 => ?_⟩
  · rw [look_put] at e
    by_cases q : p.2 = v
    · rw [if_pos q] at e
      cases e
      refine ⟨p.1, l, List.mem_append_right _ ?_, q ▸ ho, hw, by rw [q]⟩
      rw [← q]
      exact List.mem_singleton.mpr rfl
    · rw [if_neg q] at e
      obtain ⟨u, l, h1, h2, h3, h4⟩ := h.1 v m e
      exact ⟨u, l, List.mem_append_left _ h1, h2, h3, h4⟩
  · rw [look_put]
    rcases List.mem_append.mp hm with z | z
    · obtain ⟨m, hm1, hm2⟩ := h.2 u v l2 z hv hw2
      by_cases q : p.2 = v
      · rw [if_pos q]
        refine ⟨_, rfl, ?_⟩
        subst q
        exact lex_le_trans (hle m hm1) hm2
      · rw [if_neg q]
        exact ⟨m, hm1, hm2⟩
    · have e : (u, v) = p := by simpa using z
      subst e
      rw [if_pos rfl]
      have hw' : W u = some l := hw
      rw [hw'] at hw2
      cases hw2
      exact ⟨_, rfl, lex_irr _⟩
theorem longer_step {ps : PL} {W : Nat → Option (List Nat)} {o : Nat} {lg : List (Nat × List Nat)} {p : Nat × Nat} (h : IsLonger ps W o (look lg)) : IsLonger (ps ++ [p]) W o (look (longerS W o lg p)) := by
  unfold longerS
  by_cases ho : o < p.2
  · rw [if_pos ho]
    cases hw : W p.1 with
    | none => exact longer_stay h fun _ l q => by rw [hw] at q; cases q
    | some l =>
      cases hg : look lg p.2 with
      | none => exact longer_put h ho hw fun m q => by rw [hg] at q; cases q
      | some m =>
        show IsLonger (ps ++ [p]) W o (look (if lexLt (l ++ [p.2]) m = true then put lg p.2 (l ++ [p.2]) else lg))
        cases hc : lexLt (l ++ [p.2]) m with
        | true =>
          rw [if_pos rfl]
          exact longer_put h ho hw fun m2 q => by
            rw [hg] at q
            cases q
            exact lex_asym hc
        | false =>
          rw [if_neg Bool.false_ne_true]
          exact longer_stay h fun _ l2 q => by
            rw [hw] at q
            cases q
            exact ⟨m, hg, hc⟩
  · rw [if_neg ho]
    exact longer_stay h fun q => absurd q ho
theorem walks_longer {ps : PL} {o n : Nat} {W G : Nat → Option (List Nat)} (hW : IsWalks ps o n W) (hG : IsLonger ps W o G) : IsWalks ps o (n + 1) G := by
  refine ⟨fun v m e => ?_, fun v l' h hl => ?_⟩
  · obtain ⟨u, l, h1, h2, h3, rfl⟩ := hG.1 v m e
    obtain ⟨w1, w2⟩ := hW.1 u l h3
    exact ⟨Wk.step w1 h1 h2, by rw [List.length_append, w2]; rfl⟩
  · cases h with
    | base => exact absurd hl (by show ¬ 1 = n + 1 + 1; omega)
    | @step l u _ h1 h2 h3 =>
      have e : l.length = n + 1 := by
        rw [List.length_append, List.length_singleton] at hl
        omega
      obtain ⟨l0, q1, q2⟩ := hW.2 u l h1 e
      obtain ⟨m, r1, r2⟩ := hG.2 u v l0 h2 h3 q1
      refine ⟨m, r1, lex_le_trans r2 ?_⟩
      rw [lex_app [v] (e.trans (hW.1 u l0 q1).2.symm)]
      exact q2
/-- the rings that the walks close, in the order of the pairs -/
def ringsOf (ps : PL) (o : Nat) (W : Nat → Option (List Nat)) : List (List Nat) := ps.filterMap fun p => if p.2 = o then W p.1 else none
theorem rings_mem {ps : PL} {o n : Nat} {W : Nat → Option (List Nat)} (hW : IsWalks ps o n W) {l : List Nat} (h : l ∈ ringsOf ps o W) : ∃ t, l = o :: t ∧ Cl ps o o t ∧ t.length = n := by
  obtain ⟨p, hp, e⟩ := List.mem_filterMap.mp h
  by_cases q : p.2 = o
  · rw [if_pos q] at e
    obtain ⟨w1, w2⟩ := hW.1 _ _ e
    obtain ⟨t, e1, e2⟩ := wk_cl w1 [] (show (p.1, o) ∈ ps by rw [← q]; exact hp)
    rw [List.append_nil] at e1
    refine ⟨t, e1, e2, ?_⟩
    rw [e1, List.length_cons] at w2
    omega
  · rw [if_neg q] at e
    cases e
theorem rings_all {ps : PL} {o n : Nat} {W : Nat → Option (List Nat)} (hW : IsWalks ps o n W) {t : List Nat} (c : Cl ps o o t) (h : t.length = n) : ∃ l, l ∈ ringsOf ps o W ∧ lexLt (o :: t) l = false := by
  obtain ⟨w, h1, h2⟩ := cl_wk (Wk.base (ps := ps) (o := o)) c
  obtain ⟨l, q1, q2⟩ := hW.2 w ([o] ++ t) h1 (by show t.length + 1 = n + 1; rw [h])
  exact ⟨l, List.mem_filterMap.mpr ⟨(w, o), h2, by rw [if_pos rfl]; exact q1⟩, q2⟩
theorem law_none {ps : PL} {o n : Nat} {W : Nat → Option (List Nat)} (hW : IsWalks ps o n W) (h : ringsOf ps o W = []) (hno : ∀ r, Cl ps o o r → n ≤ r.length) : ∀ r, Cl ps o o r → n + 1 ≤ r.length := by
  intro r c
  have h1 := hno r c
  rcases Nat.lt_or_ge n r.length with q | q
  · exact q
  · obtain ⟨l, hl, _⟩ := rings_all hW c (Nat.le_antisymm q h1)
    rw [h] at hl
    cases hl
theorem law_ring {ps : PL} {o n : Nat} {W : Nat → Option (List Nat)} (hW : IsWalks ps o n W) (hno : ∀ r, Cl ps o o r → n ≤ r.length) {x : List Nat} (hx : x ∈ ringsOf ps o W) (hm : ∀ y, y ∈ ringsOf ps o W → lexLt y x = false) : LRing ps o x ∧ x.length = n + 1 := by
  obtain ⟨t, rfl, c, e⟩ := rings_mem hW hx
  refine ⟨⟨t, rfl, c, fun r' c' => ⟨by rw [e]; exact hno r' c', fun z => ?_⟩⟩, by rw [List.length_cons, e]⟩
  obtain ⟨l, hl, hle⟩ := rings_all hW c' (z.trans e)
  have h1 := lex_le_trans (hm l hl) hle
  unfold lexLt at h1
  rw [if_pos rfl] at h1
  exact h1
/-! ### the shortest rings fit in -/
def Within (m : Nat) (ps : PL) : Prop := ∀ p ∈ ps, p.1 < m ∧ p.2 < m
theorem cl_suffix {ps : PL} {o : Nat} : ∀ {a : List Nat} {u v : Nat} {c : List Nat}, Cl ps o u (a ++ v :: c) → Cl ps o v c
  | [], _, _, _, h => h.2.2
  | _ :: a, _, _, _, h => cl_suffix (a := a) h.2.2
theorem cl_nodup {ps : PL} {o : Nat} : ∀ {r : List Nat} {u : Nat}, Cl ps o u r → ∃ r', Cl ps o u r' ∧ r'.Nodup
  | [], _, h => ⟨[], h, List.nodup_nil⟩
  | v :: t, u, ⟨h1, h2, h3⟩ => by
    obtain ⟨t', c, hn⟩ := cl_nodup h3
    by_cases hv : v ∈ t'
    · obtain ⟨a, b, rfl⟩ := List.append_of_mem hv
      exact ⟨v :: b, ⟨h1, h2, cl_suffix c⟩, (List.nodup_append.mp hn).2.1⟩
    · exact ⟨v :: t', ⟨h1, h2, c⟩, List.nodup_cons.mpr ⟨hv, hn⟩⟩
theorem cl_within {m : Nat} {ps : PL} (hm : Within m ps) {o : Nat} : ∀ {r : List Nat} {u : Nat}, Cl ps o u r → u < m ∧ ∀ x ∈ r, o < x ∧ x < m
  | [], u, h => ⟨(hm _ h).1, fun _ q => by cases q⟩
  | v :: t, u, ⟨h1, h2, h3⟩ => by
    obtain ⟨q1, q2⟩ := cl_within hm h3
    refine ⟨(hm _ h1).1, fun x hx => ?_⟩
    rcases List.mem_cons.mp hx with e | e
    · subst e
      exact ⟨h2, q1⟩
    · exact q2 x e
theorem ring_fits {m : Nat} {ps : PL} (hm : Within m ps) {o : Nat} {r : List Nat} (c : Cl ps o o r) : ∃ r', Cl ps o o r' ∧ r'.length < m := by
  obtain ⟨r', c', hn⟩ := cl_nodup c
  obtain ⟨q1, q2⟩ := cl_within hm c'
  refine ⟨r', c', ?_⟩
  have := nodup_len m (o :: r') (List.nodup_cons.mpr ⟨fun z => Nat.lt_irrefl _ (q2 o z).1, hn⟩) (fun x hx => by
    rcases List.mem_cons.mp hx with e | e
    · rw [e]; exact q1
    · exact (q2 x e).2)
  exact this
/-! ### order or ring -/
theorem grow_mono (m : Nat) (ps : PL) {k : Nat} {x : Nat} (h : x ∈ grow m ps k) : x ∈ grow m ps (k + 1) := by
  unfold grow growS
  cases nextP m ps (grow m ps k) with
  | none => exact h
  | some v => exact List.mem_append_left _ h
theorem grow_new {m : Nat} {ps : PL} {k o : Nat} (h : o ∈ grow m ps (k + 1)) (h' : o ∉ grow m ps k) : ∀ w, (w, o) ∈ ps → w ∈ grow m ps k := by
  intro w hw
  unfold grow growS at h
  cases e : nextP m ps (grow m ps k) with
  | none =>
    rw [e] at h
    exact absurd h h'
  | some v =>
    rw [e] at h
    rcases List.mem_append.mp h with q | q
    · exact absurd q h'
    · have : o = v := by simpa using q
      subst this
      exact (next_some e).2.2 w hw
theorem grow_closed (m : Nat) (ps : PL) : ∀ (k : Nat) {a b : Nat}, (a, b) ∈ ps → b ∈ grow m ps k → a ∈ grow m ps k
  | 0, _, _, _, h => by cases h
  | k + 1, a, b, hab, h => by
    by_cases q : b ∈ grow m ps k
    · exact grow_mono m ps (grow_closed m ps k hab q)
    · exact grow_mono m ps (grow_new h q a hab)
theorem grow_back {m : Nat} {ps : PL} {k o : Nat} (h : ∀ w, (w, o) ∈ ps → w ∈ grow m ps k) : ∀ {r : List Nat} {u : Nat}, Cl ps o u r → u ∈ grow m ps k
  | [], u, c => h u c
  | _ :: _, _, ⟨h1, _, h3⟩ => grow_closed m ps k h1 (grow_back h h3)
theorem order_no_ring {m : Nat} {ps : PL} (hm : Within m ps) {t : List Nat} (h : orderOf m ps = some t) (o : Nat) : ∀ r, ¬ Cl ps o o r := by
  intro r c
  have hlen : m ≤ (grow m ps m).length := by
    unfold orderOf at h
    by_cases q : (grow m ps m).length < m
    · rw [if_pos q] at h
      cases h
    · exact Nat.le_of_not_lt q
  have ho : o < m := (cl_within hm c).1
  have hin : o ∈ grow m ps m := Classical.byContradiction fun q => by
    have := nodup_len m (o :: grow m ps m) (List.nodup_cons.mpr ⟨q, grow_nodup m ps m⟩) (fun x hx => by
      rcases List.mem_cons.mp hx with e | e
      · rw [e]; exact ho
      · exact grow_lt m ps m x e)
    rw [List.length_cons] at this
    omega
  obtain ⟨k, hk, hno⟩ := lens_some.least (P := fun k => o ∈ grow m ps k) ⟨m, hin⟩
  cases k with
  | zero => cases hk
  | succ k =>
    have q := hno k (Nat.lt_succ_self k)
    exact q (grow_back (grow_new hk q) c)
def backs (g : Nat → Nat) (s : Nat) : Nat → List Nat
  | 0 => []
  | j + 1 => g (s + j + 1) :: backs g s j
theorem backs_cl {ps : PL} {g : Nat → Nat} (hg : ∀ n, (g (n + 1), g n) ∈ ps) (s : Nat) : ∀ j, (∀ i, 1 ≤ i → i ≤ j → g s < g (s + i)) → Cl ps (g s) (g (s + j + 1)) (backs g s j)
  | 0, _ => hg s
  | j + 1, h => ⟨hg (s + j + 1), h (j + 1) (by omega) (Nat.le_refl _), backs_cl hg s j fun i h1 h2 => h i h1 (by omega)⟩
theorem pigeon (m : Nat) (g : Nat → Nat) (h : ∀ n, g n < m) : ∃ i j, i < j ∧ g i = g j := by
  apply Classical.byContradiction
  intro c
  have inj : ∀ i j, i < j → g i ≠ g j := fun i j hij e => c ⟨i, j, hij, e⟩
  have hn : ((List.range (m + 1)).map g).Nodup := by
    refine List.Pairwise.map g (R := fun i j => i < j) (fun i j hij => inj i j hij) ?_
    exact List.pairwise_lt_range
  have := nodup_len m _ hn (fun x hx => by
    obtain ⟨i, _, rfl⟩ := List.mem_map.mp hx
    exact h i)
  rw [List.length_map, List.length_range] at this
  omega
theorem seq_ring {m : Nat} {ps : PL} {g : Nat → Nat} (hg : ∀ n, (g (n + 1), g n) ∈ ps) (hm : ∀ n, g n < m) : ∃ o r, o < m ∧ Cl ps o o r := by
  obtain ⟨i, j, hij, e⟩ := pigeon m g hm
  -- the places seen from i on come again at j
  -- least place at or behind i, up to j
  obtain ⟨mu, ⟨s, h1, h2, rfl⟩, hmin⟩ := lens_some.least (P := fun x => ∃ s, i ≤ s ∧ s < j ∧ x = g s) ⟨g i, i, Nat.le_refl _, hij, rfl⟩
  -- the sequence s, s + 1, .., j = i, .., s: as a new sequence
  let g' : Nat → Nat := fun n => g (i + (s - i + n) % (j - i))
  have hp : 0 < j - i := by omega
  have hg' : ∀ n, (g' (n + 1), g' n) ∈ ps := by
    intro n
    show (g (i + (s - i + (n + 1)) % (j - i)), g (i + (s - i + n) % (j - i))) ∈ ps
    have hr := Nat.mod_lt (s - i + n) hp
    by_cases q : (s - i + n) % (j - i) + 1 = j - i
    · have e1 : (s - i + (n + 1)) % (j - i) = 0 := by
        rw [← Nat.add_assoc, ← Nat.mod_add_mod, q, Nat.mod_self]
      rw [e1, Nat.add_zero, e]
      have e2 : i + (s - i + n) % (j - i) = j - 1 := by omega
      rw [e2]
      have := hg (j - 1)
      rw [show j - 1 + 1 = j by omega] at this
      exact this
    · have e1 : (s - i + (n + 1)) % (j - i) = (s - i + n) % (j - i) + 1 := by
        rw [← Nat.add_assoc, ← Nat.mod_add_mod]
        exact Nat.mod_eq_of_lt (by omega)
      rw [e1]
      exact hg _
  have hle : ∀ n, g s ≤ g' n := by
    intro n
    have hr := Nat.mod_lt (s - i + n) hp
    exact Nat.le_of_not_lt fun q => hmin _ q ⟨i + (s - i + n) % (j - i), by omega, by omega, rfl⟩
  have h0 : g' 0 = g s := by
    show g (i + (s - i + 0) % (j - i)) = g s
    rw [Nat.add_zero, Nat.mod_eq_of_lt (by omega)]
    congr 1
    omega
  have hper : g' (j - i) = g s := by
    show g (i + (s - i + (j - i)) % (j - i)) = g s
    rw [Nat.add_mod_right, Nat.mod_eq_of_lt (by omega)]
    congr 1
    omega
  obtain ⟨q, ⟨hq1, hq2⟩, hno⟩ := lens_some.least (P := fun q => 1 ≤ q ∧ g' q = g s) ⟨j - i, by omega, hper⟩
  refine ⟨g s, backs g' 0 (q - 1), hm s, ?_⟩
  have := backs_cl hg' 0 (q - 1) (fun t t1 t2 => by
    rw [h0, Nat.zero_add]
    have a1 := hle t
    have a2 : g' t ≠ g s := fun z => hno t (by omega) ⟨t1, z⟩
    omega)
  rw [h0, show 0 + (q - 1) + 1 = q by omega, hq2] at this
  exact this
theorem order_or_ring {m : Nat} {ps : PL} (hm : Within m ps) (h : orderOf m ps = none) : ∃ o r, o < m ∧ Cl ps o o r := by
  obtain ⟨t, ⟨v, hv, hvt⟩, hall⟩ := order_none h
  have hch : ∀ x : {v : Nat // v < m ∧ v ∉ t}, ∃ y : {v : Nat // v < m ∧ v ∉ t}, (y.1, x.1) ∈ ps := fun x => by
    obtain ⟨u, hu1, hu2⟩ := hall x.1 x.2.1 x.2.2
    exact ⟨⟨u, (hm _ hu1).1, hu2⟩, hu1⟩
  let f : {v : Nat // v < m ∧ v ∉ t} → {v : Nat // v < m ∧ v ∉ t} := fun x => Classical.choose (hch x)
  let g : Nat → {v : Nat // v < m ∧ v ∉ t} := fun n => Nat.rec ⟨v, hv, hvt⟩ (fun _ x => f x) n
  exact seq_ring (m := m) (g := fun n => (g n).1) (fun n => Classical.choose_spec (hch (g n))) (fun n => (g n).2.1)
/-! ### the best ring -/
theorem pick_some {b : Option (List Nat)} {x : Option (List Nat)} {l : List Nat} (h : x = some l) : ∃ m, pick b x = some m := by
  subst h
  cases b with
  | none => exact ⟨_, rfl⟩
  | some k =>
    show ∃ m, (if l.length < k.length then some l else some k) = some m
    by_cases q : l.length < k.length
    · exact ⟨l, if_pos q⟩
    · exact ⟨k, if_neg q⟩
theorem best_keeps {ps : PL} {o : Nat} {l : List Nat} (h : best ps o = some l) : ∃ m, best ps (o + 1) = some m := by
  show ∃ m, pick (best ps o) (ringOf ps o) = some m
  rw [h]
  cases hx : ringOf ps o with
  | none => exact ⟨l, rfl⟩
  | some x => exact pick_some rfl
theorem best_there {ps : PL} {o : Nat} {r : List Nat} (c : Cl ps o o r) : ∀ j, ∃ l, best ps (o + 1 + j) = some l
  | 0 => by
    obtain ⟨l, hl⟩ := ringOf_there c
    exact pick_some hl
  | j + 1 => by
    obtain ⟨l, hl⟩ := best_there c j
    exact best_keeps hl
theorem best_none {ps : PL} (h : ∀ o r, ¬ Cl ps o o r) : ∀ m, best ps m = none
  | 0 => rfl
  | m + 1 => by
    show pick (best ps m) (ringOf ps m) = none
    rw [best_none h m, ringOf_none (h m)]
    rfl
theorem one_of_two {m : Nat} {ps : PL} (hm : Within m ps) : (orderOf m ps = none ↔ best ps m ≠ none) := by
  constructor
  · intro h
    obtain ⟨o, r, ho, c⟩ := order_or_ring hm h
    obtain ⟨l, hl⟩ := best_there c (m - (o + 1))
    rw [show o + 1 + (m - (o + 1)) = m by omega] at hl
    rw [hl]
    exact fun z => by cases z
  · intro h
    cases e : orderOf m ps with
    | none => rfl
    | some t => exact absurd (best_none (order_no_ring hm e) m) h
theorem pick_short {b : Option (List Nat)} {ps : PL} {o : Nat} {l : List Nat} (hb : b = some l) (h : ∀ r, Cl ps o o r → l.length ≤ r.length + 1) : pick b (ringOf ps o) = b := by
  subst hb
  cases hx : ringOf ps o with
  | none => rfl
  | some x =>
    obtain ⟨r, rfl, c, _⟩ := ringOf_is hx
    have := h r c
    show (if (o :: r).length < l.length then some (o :: r) else some l) = some l
    rw [if_neg (by rw [List.length_cons]; omega)]
theorem pick_no {b : Option (List Nat)} {ps : PL} {o : Nat} (h : ∀ r, ¬ Cl ps o o r) : pick b (ringOf ps o) = b := by
  rw [ringOf_none h]
  rfl
theorem pick_new {b : Option (List Nat)} {ps : PL} {o : Nat} {x : List Nat} (hx : LRing ps o x) (h : ∀ l, b = some l → x.length < l.length) : pick b (ringOf ps o) = some x := by
  rw [ringOf_some hx]
  cases b with
  | none => rfl
  | some l => exact if_pos (h l rfl)
end K02

/-! The steps of a search backwards, layer by layer (plain Lean). -/
namespace K02
/-- n steps from u back to o at the least -/
def Dst (ps : PL) (o u n : Nat) : Prop := (u = o ∧ n = 0) ∨ (o < u ∧ ∃ k, n = k + 1 ∧ Len ps o u k ∧ ∀ j, j < k → ¬ Len ps o u j)
theorem dst_fun {ps : PL} {o u n k : Nat} (h : Dst ps o u n) (h' : Dst ps o u k) : n = k := by
  rcases h with ⟨h1, h2⟩ | ⟨h1, a, rfl, h3, h4⟩
  · rcases h' with ⟨g1, g2⟩ | ⟨g1, _⟩
    · omega
    · omega
  · rcases h' with ⟨g1, g2⟩ | ⟨g1, b, rfl, g3, g4⟩
    · omega
    · have a1 : ¬ a < b := fun z => g4 a z h3
      have a2 : ¬ b < a := fun z => h4 b z g3
      omega
theorem dst_len {ps : PL} {o u k : Nat} (ho : o < u) (h : Len ps o u k) : ∃ n, n ≤ k + 1 ∧ Dst ps o u n := by
  obtain ⟨j, h1, h2⟩ := lens_some.least ⟨k, h⟩
  have : j ≤ k := Nat.le_of_not_lt fun z => h2 k z h
  exact ⟨j + 1, by omega, .inr ⟨ho, j, rfl, h1, h2⟩⟩
/-- one step further back -/
theorem len_back {ps : PL} {o u v d : Nat} (huv : (u, v) ∈ ps) (hv : Dst ps o v d) : Len ps o u d := by
  rcases hv with ⟨rfl, rfl⟩ | ⟨h1, k, rfl, ⟨r, c, e⟩, _⟩
  · exact ⟨[], huv, rfl⟩
  · exact ⟨v :: r, ⟨huv, h1, c⟩, by rw [List.length_cons, e]⟩
theorem dst_prev {ps : PL} {o u d : Nat} (h : Dst ps o u (d + 1)) : ∃ v, (u, v) ∈ ps ∧ Dst ps o v d := by
  rcases h with ⟨_, h⟩ | ⟨h1, k, e, ⟨r, c, er⟩, h4⟩
  · cases h
  · have ek : k = d := by omega
    subst ek
    cases r with
    | nil =>
      have : k = 0 := by simpa using er.symm
      exact ⟨o, c, .inl ⟨rfl, this⟩⟩
    | cons v t =>
      obtain ⟨c1, c2, c3⟩ := c
      rw [List.length_cons] at er
      refine ⟨v, c1, .inr ⟨c2, t.length, er.symm, ⟨t, c3, rfl⟩, fun j hj hL => ?_⟩⟩
      obtain ⟨r3, c4, e4⟩ := hL
      exact h4 (j + 1) (by omega) ⟨v :: r3, ⟨c1, c2, c4⟩, by rw [List.length_cons, e4]⟩
/-- the state of a round d, when the befores in seen have been looked at -/
structure Mid (m : Nat) (ps : PL) (o d : Nat) (n0 : Nat) (seen : List Nat) (st : List (Nat × Nat)) (wider : List Nat) : Prop where
  get : ∀ u n, look st u = some n ↔ (n ≤ d ∧ Dst ps o u n) ∨ (n = d + 1 ∧ Dst ps o u (d + 1) ∧ u ∈ seen)
  wide : ∀ u, u ∈ wider ↔ Dst ps o u (d + 1) ∧ u ∈ seen
  keys : (st.map (·.1)).Nodup
  few : ∀ u ∈ st.map (·.1), u < m
  len : st.length = n0 + wider.length
theorem Mid.size {m : Nat} {ps : PL} {o d n0 : Nat} {seen : List Nat} {st : List (Nat × Nat)} {wider : List Nat} (h : Mid m ps o d n0 seen st wider) : st.length ≤ m := by
  have := nodup_len m (st.map (·.1)) h.keys h.few
  rwa [List.length_map] at this
theorem Mid.skip {m : Nat} {ps : PL} {o d n0 u : Nat} {seen : List Nat} {st : List (Nat × Nat)} {wider : List Nat} (h : Mid m ps o d n0 seen st wider) (hu : u < o ∨ ∃ n, look st u = some n) : Mid m ps o d n0 (seen ++ [u]) st wider := by
  have key : Dst ps o u (d + 1) → u ∈ seen := fun hd => by
    rcases hu with hu | ⟨n, hn⟩
    · rcases hd with ⟨_, z⟩ | ⟨z, _⟩
      · cases z
      · omega
    · rcases (h.get u n).mp hn with ⟨h1, h2⟩ | ⟨_, _, h3⟩
      · have := dst_fun h2 hd
        omega
      · exact h3
  refine ⟨fun v n => ?_, fun v => ?_, h.keys, h.few, h.len⟩
  · rw [h.get v n]
    constructor
    · rintro (q | ⟨q1, q2, q3⟩)
      · exact .inl q
      · exact .inr ⟨q1, q2, List.mem_append_left _ q3⟩
    · rintro (q | ⟨q1, q2, q3⟩)
      · exact .inl q
      · rcases List.mem_append.mp q3 with q3 | q3
        · exact .inr ⟨q1, q2, q3⟩
        · have e : v = u := List.mem_singleton.mp q3
          subst e
          exact .inr ⟨q1, q2, key q2⟩
  · rw [h.wide v]
    constructor
    · rintro ⟨q2, q3⟩
      exact ⟨q2, List.mem_append_left _ q3⟩
    · rintro ⟨q2, q3⟩
      rcases List.mem_append.mp q3 with q3 | q3
      · exact ⟨q2, q3⟩
      · have e : v = u := List.mem_singleton.mp q3
        subst e
        exact ⟨q2, key q2⟩
/-- a place not seen before is one step further -/
theorem Mid.far {m : Nat} {ps : PL} {o d n0 u v : Nat} {seen : List Nat} {st : List (Nat × Nat)} {wider : List Nat} (h : Mid m ps o d n0 seen st wider) (hv : Dst ps o v d) (huv : (u, v) ∈ ps) (hu : o ≤ u) (hn : look st u = none) : Dst ps o u (d + 1) := by
  have hne : u ≠ o := fun e => by
    subst e
    have := (h.get u 0).mpr (.inl ⟨Nat.zero_le _, .inl ⟨rfl, rfl⟩⟩)
    rw [hn] at this
    cases this
  have ho : o < u := by omega
  have hl := len_back huv hv
  refine .inr ⟨ho, d, rfl, hl, fun j hj hL => ?_⟩
  obtain ⟨n, hn1, hn2⟩ := dst_len ho hL
  have := (h.get u n).mpr (.inl ⟨by omega, hn2⟩)
  rw [hn] at this
  cases this
theorem Mid.put {m : Nat} {ps : PL} {o d n0 u v : Nat} {seen : List Nat} {st : List (Nat × Nat)} {wider : List Nat} (h : Mid m ps o d n0 seen st wider) (hv : Dst ps o v d) (huv : (u, v) ∈ ps) (hu : o ≤ u) (hn : look st u = none) (hm : u < m) :
    Mid m ps o d n0 (seen ++ [u]) (st ++ [(u, d + 1)]) (wider ++ [u]) := by
  have hd := h.far hv huv hu hn
  have hk : u ∉ st.map (·.1) := look_none_iff.mp hn
  refine ⟨fun w n => ?_, fun w => ?_, ?_, ?_, ?_⟩
  · rw [look_snoc u (d + 1) st w hn]
    by_cases e : u = w
    · subst e
      rw [if_pos rfl]
      constructor
      · intro z
        cases z
        exact .inr ⟨rfl, hd, List.mem_append_right _ (List.mem_singleton.mpr rfl)⟩
      · rintro (⟨q1, q2⟩ | ⟨q1, _, _⟩)
        · have := dst_fun q2 hd
          omega
        · rw [q1]
    · rw [if_neg e, h.get w n]
      constructor
      · rintro (q | ⟨q1, q2, q3⟩)
        · exact .inl q
        · exact .inr ⟨q1, q2, List.mem_append_left _ q3⟩
      · rintro (q | ⟨q1, q2, q3⟩)
        · exact .inl q
        · rcases List.mem_append.mp q3 with q3 | q3
          · exact .inr ⟨q1, q2, q3⟩
          · exact absurd (List.mem_singleton.mp q3).symm e
  · rw [List.mem_append, h.wide w]
    constructor
    · rintro (⟨q2, q3⟩ | q)
      · exact ⟨q2, List.mem_append_left _ q3⟩
      · rw [List.mem_singleton.mp q]
        exact ⟨hd, List.mem_append_right _ (List.mem_singleton.mpr rfl)⟩
    · rintro ⟨q2, q3⟩
      rcases List.mem_append.mp q3 with q3 | q3
      · exact .inl ⟨q2, q3⟩
      · exact .inr q3
  · rw [List.map_append]
    refine List.nodup_append.mpr ⟨h.keys, by simp, fun a ha b hb => ?_⟩
    have : b = u := by simpa using hb
    rw [this]
    exact fun z => hk (z ▸ ha)
  · intro a ha
    rw [List.map_append] at ha
    rcases List.mem_append.mp ha with q | q
    · exact h.few a q
    · have : a = u := by simpa using q
      rw [this]
      exact hm
  · rw [List.length_append, List.length_append, h.len]
    simp only [List.length_cons, List.length_nil]
    omega
/-- a whole layer -/
structure Lay (m : Nat) (ps : PL) (o d : Nat) (st : List (Nat × Nat)) (layer : List Nat) : Prop where
  get : ∀ u n, look st u = some n ↔ n ≤ d ∧ Dst ps o u n
  lay : ∀ u, u ∈ layer ↔ Dst ps o u d
  keys : (st.map (·.1)).Nodup
  few : ∀ u ∈ st.map (·.1), u < m
theorem lay_start {m : Nat} (ps : PL) {o : Nat} (ho : o < m) : Lay m ps o 0 [(o, 0)] [o] := by
  have h0 : ∀ u, Dst ps o u 0 ↔ u = o := fun u => by
    constructor
    · rintro (⟨h, _⟩ | ⟨_, k, h, _⟩)
      · exact h
      · cases h
    · intro h
      exact .inl ⟨h, rfl⟩
  refine ⟨fun u n => ?_, fun u => ?_, by simp, fun u hu => ?_⟩
  · show (if o = u then some 0 else none) = some n ↔ _
    by_cases e : o = u
    · subst e
      rw [if_pos rfl]
      constructor
      · intro z
        cases z
        exact ⟨Nat.le_refl _, .inl ⟨rfl, rfl⟩⟩
      · rintro ⟨h, _⟩
        rw [show n = 0 by omega]
    · rw [if_neg e]
      constructor
      · intro z
        cases z
      · rintro ⟨h, h2⟩
        rw [show n = 0 by omega] at h2
        exact absurd ((h0 u).mp h2).symm e
  · rw [h0 u]
    exact List.mem_singleton
  · have : u = o := by simpa using hu
    rw [this]
    exact ho
theorem Lay.mid {m : Nat} {ps : PL} {o d : Nat} {st : List (Nat × Nat)} {layer : List Nat} (h : Lay m ps o d st layer) : Mid m ps o d st.length [] st [] := by
  refine ⟨fun u n => ?_, fun u => ?_, h.keys, h.few, rfl⟩
  · rw [h.get u n]
    constructor
    · exact .inl
    · rintro (q | ⟨_, _, q⟩)
      · exact q
      · cases q
  · constructor
    · intro q
      cases q
    · rintro ⟨_, q⟩
      cases q
theorem Mid.lay {m : Nat} {ps : PL} {o d n0 : Nat} {seen : List Nat} {st : List (Nat × Nat)} {wider : List Nat} (h : Mid m ps o d n0 seen st wider) (hs : ∀ u v, (u, v) ∈ ps → Dst ps o v d → u ∈ seen) : Lay m ps o (d + 1) st wider := by
  have key : ∀ u, Dst ps o u (d + 1) → u ∈ seen := fun u hu => by
    obtain ⟨v, h1, h2⟩ := dst_prev hu
    exact hs u v h1 h2
  refine ⟨fun u n => ?_, fun u => ?_, h.keys, h.few⟩
  · rw [h.get u n]
    constructor
    · rintro (⟨q1, q2⟩ | ⟨q1, q2, _⟩)
      · exact ⟨by omega, q2⟩
      · rw [q1]
        exact ⟨Nat.le_refl _, q2⟩
    · rintro ⟨q1, q2⟩
      by_cases e : n = d + 1
      · subst e
        exact .inr ⟨rfl, q2, key u q2⟩
      · exact .inl ⟨by omega, q2⟩
  · rw [h.wide u]
    exact ⟨fun q => q.1, fun q => ⟨q, key u q⟩⟩
theorem Lay.done {m : Nat} {ps : PL} {o d : Nat} {st : List (Nat × Nat)} (h : Lay m ps o d st []) : IsSteps ps o (look st) := by
  have hno : ∀ n u, ¬ Dst ps o u (d + n) := by
    intro n
    induction n with
    | zero => exact fun u hu => by have := (h.lay u).mpr hu; cases this
    | succ n ih =>
      intro u hu
      obtain ⟨v, _, hv⟩ := dst_prev hu
      exact ih v hv
  intro u n
  rw [h.get u n]
  show n ≤ d ∧ Dst ps o u n ↔ Dst ps o u n
  refine ⟨fun q => q.2, fun q => ⟨?_, q⟩⟩
  rcases Nat.lt_or_ge d n with z | z
  · exact absurd (show Dst ps o u (d + (n - d)) by rw [show d + (n - d) = n by omega]; exact q) (hno (n - d) u)
  · exact z
theorem Lay.size {m : Nat} {ps : PL} {o d : Nat} {st : List (Nat × Nat)} {layer : List Nat} (h : Lay m ps o d st layer) : st.length ≤ m := h.mid.size
end K02

/-! Rules of our own over the hand layer: a walk over a list or a tuple; the order of data; the least of a list of data; list(reversed(a list)). -/
namespace RT
open PySem PySem.Spec PyProof.Rows L2
section
variable {prog : Program} {w : World} {A : Around} {E : Value → Shared → Prop} {s : Shared}
theorem extend_rev {R : Result → Shared → Prop} {it l : Addr} {items : Array Value} (hh : A.handled = none) (S : Addr) (res : Value) (c₀ : Nat) (hS : s.heap.get? S = some { cls := .type "list", data := .seq #[] c₀ })
    (hit : s.heap.IsRevIter it l ((items.size : Int) - 1)) (hl : s.heap.IsList l items) (hne : l ≠ it) (hSi : S ≠ it) (hSl : S ≠ l) (hn : items.size ≤ sizeLine)
    (hR : ∀ h' tk acc' c', (∀ b o, b ≠ S → b ≠ it → s.heap.get? b = some o → h'.get? b = some o) → h'.get? S = some { cls := .type "list", dict := none, data := .seq acc' c', slots := #[] } →
      ItemsOf (fun i v => items[items.size - 1 - i]? = some v) acc' items.size → R (.ok (.ret res)) { s with heap := h', toks := tk }) :
    wpAny (model prog w) A.in1 (Builtin.List.listExtendWith (.ref S) (.ref it) res)
      (fun fin s' => match fin with | .done f => R (.ok f) s' | .again c' => c'.quiet = true ∧ codeAny (model prog w) A c' R s') (fun e s' => R (.error e) s') s := by
  have W := (Walks.listRev (prog := prog) (w := w) (A := A.in1) hh it l hne items).toS
  have hSf : S ∉ [it, l] := by simp only [List.mem_cons, List.not_mem_nil, or_false, not_or]; exact ⟨hSi, hSl⟩
  have hT : s.TypeIs (.ref it) "list_reverseiterator" := hit.typeIs
  have h1 : Builtin.List.listSameRef (.ref S) (.ref it) = false := by simp [Builtin.List.listSameRef, hSi]
  unfold Builtin.List.listExtendWith
  refine wpAny_bind (wpAny_typeOf hT ?_)
  rw [if_neg (by rw [h1]; decide)]
  refine wpAny_bind (wpAny_pyIter_revIter hit ?_)
  refine wpAny_bind (wpAny_holding ?_)
  unfold Builtin.List.listLengthHint
  refine wpAny_bind (wpAny_specialOf hT nolen_lri ?_)
  show wpAny _ A.in1 (specialOf (Value.ref it) (Str.ofString "__length_hint__") >>= _) _ _ _
  refine wpAny_bind (wpAny_specialOf hT hint_lri ?_)
  generalize hid : ("list_reverseiterator.__length_hint__" : String) = id0
  wp_delta
  rw [show splitId id0 = some ("list_reverseiterator", "__length_hint__") from by subst hid; decide +kernel]
  subst hid
  refine wpAny_bind (wpAny_isInstance (b := true) hT (by rw [isSubtype_type]; kernel_rfl) ?_)
  refine wpAny_pure ?_
  rw [if_neg (by decide)]
  have e0 : ((items.size : Nat) : Int) - 1 - ((0 : Nat) : Int) = (items.size : Int) - 1 := by omega
  refine wpAny_pure ⟨plainId_quiet F.plain_extend_loop _, codeAny_extend_loopS W hn _ hSf _ items.size 0 _ _ _ rfl (Nat.zero_le _) ⟨Nat.zero_le _, by rw [e0]; exact hit, hl⟩ hS (ItemsOf.nil _) fun s' acc' c' hm hS' hacc => ?_⟩
  rw [Moved.eq_with hm]
  refine hR s'.heap s'.toks acc' c' (fun b o hb hb2 e => hm.heap b o (fun hmem => ?_) e) hS' hacc
  rcases List.mem_cons.mp hmem with e' | hmem
  · exact hb e'
  · exact hb2 (List.mem_singleton.mp hmem)
theorem list_init_rev {R : Result → Shared → Prop} {it l : Addr} {items : Array Value} (hh : A.handled = none) (S : Addr) (hS : s.heap.get? S = some { cls := .type "list", data := .seq #[] })
    (hit : s.heap.IsRevIter it l ((items.size : Int) - 1)) (hl : s.heap.IsList l items) (hne : l ≠ it) (hSi : S ≠ it) (hSl : S ≠ l) (hn : items.size ≤ sizeLine)
    (hR : ∀ h' tk acc' c', (∀ b o, b ≠ S → b ≠ it → s.heap.get? b = some o → h'.get? b = some o) → h'.get? S = some { cls := .type "list", dict := none, data := .seq acc' c', slots := #[] } →
      ItemsOf (fun i v => items[items.size - 1 - i]? = some v) acc' items.size → R (.ok (.ret .none)) { s with heap := h', toks := tk }) :
    wpAny (model prog w) A.in1 (Builtin.«list.__init__» ⟨[.ref S, .ref it], []⟩)
      (fun fin s' => match fin with | .done f => R (.ok f) s' | .again c' => c'.quiet = true ∧ codeAny (model prog w) A c' R s') (fun e s' => R (.error e) s') s := by
  show wpAny _ _ (do let old ← Builtin.List.listItems (.ref S); Builtin.List.listUpdate (.ref S) (fun _ => #[]); letGo old.toList.reverse; Builtin.List.listExtendWith (.ref S) (.ref it) .none) _ _ s
  refine wpAny_bind ?_
  unfold Builtin.List.listItems
  refine wpAny_bind (wpAny_seqItems hS rfl (wpAny_pure ?_))
  show wpAny _ _ (updateSeq S (fun _ => #[]) >>= fun _ => letGo (#[] : Array Value).toList.reverse >>= fun _ => Builtin.List.listExtendWith (.ref S) (.ref it) .none) _ _ s
  refine wpAny_bind (wpAny_updateSeq hS rfl ?_)
  have hS₂ := Heap.get?_update_self (Obj.mapSeq (fun _ => (#[] : Array Value))) hS rfl
  have oth : ∀ b o, b ≠ S → s.heap.get? b = some o → (s.heap.update S (Obj.mapSeq (fun _ => (#[] : Array Value)))).get? b = some o :=
    fun b o hb e => (Heap.get?_update_other _ _ (Ne.symm hb)).trans e
  refine wpAny_bind (wpAny_letGo ?_)
  refine extend_rev hh S .none _ hS₂ (hit.at fun o e => oth _ _ (Ne.symm hSi) e) (hl.at fun o e => oth _ _ (Ne.symm hSl) e) hne hSi hSl hn fun h' tk acc' c' hk hS' hacc => ?_
  exact hR h' tk acc' c' (fun b o hb hb2 e => hk b o hb hb2 (oth b o hb e)) hS' hacc
theorem call_list_rev {it l : Addr} {items : Array Value} {Q : Value → Shared → Prop} (hh : A.handled = none) (hit : s.heap.IsRevIter it l ((items.size : Int) - 1)) (hl : s.heap.IsList l items) (hne : l ≠ it) (hn : items.size ≤ sizeLine)
    (hQ : ∀ h' tk acc' c', (∀ b o, b ≠ it → s.heap.get? b = some o → h'.get? b = some o) →
      h'.get? s.heap.objs.size = some { cls := .type "list", dict := none, data := .seq acc' c', slots := #[] } → ItemsOf (fun i v => items[items.size - 1 - i]? = some v) acc' items.size → Q (.ref s.heap.objs.size) { s with heap := h', toks := tk }) :
    wpAny (model prog w) A (call (.type "list") [.ref it]) Q E s := by
  obtain ⟨oi, hoi, _⟩ := id hit
  obtain ⟨ol, hol, _⟩ := id hl
  have hSi : s.heap.objs.size ≠ it := Nat.ne_of_gt (Heap.lt_size hoi)
  have hSl : s.heap.objs.size ≠ l := Nat.ne_of_gt (Heap.lt_size hol)
  refine callType_codes (Q₁ := fun obj s₁ => obj = .ref s.heap.objs.size ∧ s₁ = { s with heap := s.heap.push { cls := .type "list", data := .seq #[] } }) F.called_list (F.typeCall_list_1 _) F.entry_list_init
    (code_list_new _ ⟨rfl, rfl⟩) fun obj s₁ h₁ => ?_
  obtain ⟨rfl, rfl⟩ := h₁
  have hS : (s.heap.push { cls := .type "list", data := .seq #[] }).get? s.heap.objs.size = some { cls := .type "list", data := .seq #[] } := Heap.get?_push_size _ rfl
  refine ⟨⟨_, hS, rfl⟩, F.args_list_init_2 _ _, list_init_rev (A := A.in1) hh _ hS (hit.at fun o e => Heap.get?_push_of_some _ e) (hl.push _) hne hSi hSl hn fun h' tk acc' c' hk hS' hacc => ?_⟩
  exact ⟨rfl, hQ h' tk acc' c' (fun b o hb e => hk b o (Nat.ne_of_lt (Heap.lt_size e)) hb (Heap.get?_push_of_some _ e)) hS' hacc⟩
end
end RT
namespace L2
open PySem PySem.Spec PyProof.Rows
section
variable {X : Cx}
/-- list(reversed(x)), x a list: a new list -/
def tLstRev (K : PySem.W.Frag) (te : TE) : TE := fun σ H Q => te σ H fun v H1 => ∃ (a : Addr) (xs : List V), v = .ref a ∧ SqL K H1 a xs ∧ ∀ q, H1 q = none → Q (.ref q) (upd H1 q (.lst xs.reverse))
theorem pe_lstRev {e : Expr} {te : TE} {p p2 pos pos2 : Pos} (hc : X.calm = true) (hg : Gl X "list") (hm : X.mg "list" = none) (hg2 : Gl X "reversed") (hm2 : X.mg "reversed" = none) (he : PE X e te)
    (hs : starEach [e] X.env = (false, eval e X.env) :: starEach [] X.env := by rfl)
    (hs2 : starEach [.Call (.Name "reversed" p2) [e] [] pos2] X.env = (false, eval (.Call (.Name "reversed" p2) [e] [] pos2) X.env) :: starEach [] X.env := by rfl) :
    PE X (.Call (.Name "list" p) [.Call (.Name "reversed" p2) [e] [] pos2] [] pos) (tLstRev X.K te) := by
  refine ⟨fun pins s σ H Q I h => ?_⟩
  refine Call_ (ld_blt I hg hm boot_list (PyProof.Rows.callWith_type1 (args_cons ?_ hs2) hs2 rfl))
  refine Call_ (ld_blt I hg2 hm2 PyProof.Rows.boot_reversed (PyProof.Rows.callWith_type1 (args_cons ?_ hs) hs rfl))
  refine thn (he.run pins s σ H _ I h) fun u s1 ⟨v, H1, I1, r1, q1⟩ => args_nil ?_
  obtain ⟨a, xs, ev, hq, q⟩ := q1
  subst ev
  obtain rfl : u = Value.ref a := r1
  obtain ⟨its, rv, p', hz⟩ := I1.list hq
  refine call_reversed_list p'.isList (args_nil ?_)
  have k0 : ∀ b o, s1.heap.get? b = some o → (s1.heap.push (revObj a ((its.toArray.size : Int) - 1))).get? b = some o := fun b o e => Heap.get?_push_of_some _ e
  have I2 : Inv X pins σ H1 { s1 with heap := s1.heap.push (revObj a ((its.toArray.size : Int) - 1)) } := I1.kept (t' := s1.toks) k0
  obtain ⟨f0, f1, f2, f3, f4, f5⟩ := I1.fpOk (H' := H1) (b := s1.heap.objs.size) (Nat.le_refl _) (I1.hok.fresh (Nat.le_refl _))
  have hl := p'.isList
  obtain ⟨ol, hol, _⟩ := id hl
  have hne : a ≠ s1.heap.objs.size := Nat.ne_of_lt (Heap.lt_size hol)
  have hn : its.toArray.size ≤ sizeLine := by rw [List.size_toArray, ← rv.length]; exact hz
  refine RT.call_list_rev (s := { s1 with heap := s1.heap.push (revObj a ((its.toArray.size : Int) - 1)) }) (I1.ok.hd hc) ⟨_, Heap.get?_push_size _ rfl, rfl, rfl⟩ (hl.push _) hne hn fun h' tk acc c' hk hS' hi => ?_
  have ez : (s1.heap.push (revObj a ((its.toArray.size : Int) - 1))).objs.size = s1.heap.objs.size + 1 := Heap.size_push _ _
  have hS2 : h'.get? (s1.heap.objs.size + 1) = some { cls := .type "list", data := .seq acc c' } := by rw [← ez]; exact hS'
  show EP X pins σ Q (Value.ref (s1.heap.push (revObj a ((its.toArray.size : Int) - 1))).objs.size) _
  rw [ez]
  refine ⟨.ref (s1.heap.objs.size + 1), upd H1 (s1.heap.objs.size + 1) (.lst xs.reverse), I1.laid (t' := tk) (fun b o e => hk b o (Nat.ne_of_lt (Heap.lt_size e)) (k0 b o e)) (Nat.le_succ _) (show ObjOk X.prog X.w _ _ _ (.lst xs.reverse) from ⟨by rw [List.length_reverse]; exact hz, acc.toList, c', RT.vals_rev rv hi, ?_⟩), rfl, q _ (I1.hok.fresh (Nat.le_succ _))⟩
  rw [Array.toArray_toList]
  exact hS2
end
end L2
namespace L2
open PySem PySem.Spec PyProof.Rows PySem.W
section
variable {X : Cx}
/-- a list or a tuple, walked -/
def iSeq (K : PySem.W.Frag) (tl : TE) : TI := fun σ H R => tl σ H fun x H1 => ∃ a, x = .ref a ∧ (((∃ xs, SqL K H1 a xs) ∧ R (Itl K a) H1) ∨ ((∃ xs, SqT K H1 a xs) ∧ R (Itt K a) H1))
theorem pi_seq {tg l : Expr} {tl : TE} (hl : PE X l tl) : PI X tg l (iSeq X.K tl) := by
  refine ⟨fun pins s σ H R I h => ?_⟩
  refine thn (hl.run pins s σ H _ I h) fun v s1 ⟨x, H1, I1, r1, q1⟩ => ?_
  obtain ⟨a, e, ⟨⟨xs, hq⟩, q⟩ | ⟨⟨xs, hq⟩, q⟩⟩ := q1
  · subst e
    cases r1
    obtain ⟨its, rv, p, hz⟩ := I1.list hq
    refine wpAny_pyIter_list p.isList ?_
    refine ⟨s1.heap.objs.size, [s1.heap.objs.size], _, _, H1, rfl, I1.kept (t' := s1.toks) fun b o e => Heap.get?_push_of_some _ e, turn_list a _, ⟨_, Heap.get?_push_size _ rfl, rfl, rfl⟩, fun b hb => ?_, q⟩
    have e : b = s1.heap.objs.size := by simpa using hb
    subst e
    exact I1.fpOk (Nat.le_refl _) (I1.hok.fresh (Nat.le_refl _))
  · subst e
    cases r1
    obtain ⟨its, rv, p, hz⟩ := I1.tuple hq
    refine wpAny_pyIter_tuple (show s1.heap.IsTuple a its.toArray from p) ?_
    refine ⟨s1.heap.objs.size, [s1.heap.objs.size], _, _, H1, rfl, I1.kept (t' := s1.toks) fun b o e => Heap.get?_push_of_some _ e, turn_tuple a _, ⟨_, Heap.get?_push_size _ rfl, rfl, rfl⟩, fun b hb => ?_, q⟩
    have e : b = s1.heap.objs.size := by simpa using hb
    subst e
    exact I1.fpOk (Nat.le_refl _) (I1.hok.fresh (Nat.le_refl _))
/-- x < y of data with a Lean type -/
def rLtA (α : Type) [DecidableEq α] [DatumOrd α] (K : PySem.W.Frag) : R2 := fun x y H Q => ∃ (a b : α), Dp K H x (Datum.toD a) ∧ Dp K H y (Datum.toD b) ∧ Q (.bl (DatumOrd.lt a b)) H
theorem op_ltA (α : Type) [DecidableEq α] [DatumOrd α] (hu : X.A.units + 64 < cLine) (hd : Datum.depth α ≤ 60) : OpR X (compareOp .Lt) (rLtA α X.K) := by
  intro pins s σ H x y v u Q I rx ry h
  obtain ⟨a, b, ha, hb, q⟩ := h
  obtain ⟨as, r1⟩ := Dp.reads I _ x v ha rx
  obtain ⟨bs, r2⟩ := Dp.reads I _ y u hb ry
  exact lt_datum ⟨as, r1⟩ ⟨bs, r2⟩ (by omega) ⟨.bl _, H, I, rfl, q⟩
theorem DpAll.at {K : PySem.W.Frag} {H : Hp} : ∀ {vs : List V} {ds : List PyData}, DpAll K H vs ds → ∀ (i : Nat) (v : V), vs[i]? = some v → ∃ d, ds[i]? = some d ∧ Dp K H v d
  | _, _, .nil, i, v, h => by simp at h
  | _, _, .cons h1 h2, 0, v, h => by
    simp only [List.getElem?_cons_zero, Option.some.injEq] at h
    subst h
    exact ⟨_, rfl, h1⟩
  | _, _, .cons h1 h2, i + 1, v, h => DpAll.at h2 i v (by simpa using h)
theorem toD_inj {α : Type} [DecidableEq α] [Datum α] {a b : α} (h : Datum.toD a = Datum.toD b) : a = b := by
  have e := Datum.eqv a b
  rw [h, Datum.eqv b b, decide_eq_true rfl] at e
  exact of_decide_eq_true e.symm
/-- min(xs): the item that stands where the first least one stands -/
def rMinA (α : Type) [DecidableEq α] [DatumOrd α] (K : PySem.W.Frag) : List V → Hp → VK → Prop := fun us H Q => ∃ (a : Addr) (vs : List V) (x : α) (xs : List α), us = [V.ref a] ∧ SqL K H a vs ∧ DpAll K H vs ((x :: xs).map Datum.toD) ∧
  ∀ (i : Nat) (v : V), vs[i]? = some v → (x :: xs)[i]? = some (minOf x xs) → Q v H
theorem cr_minA (α : Type) [DecidableEq α] [DatumOrd α] (hc : X.calm = true) (hu : X.A.units + 64 < cLine) (hd : Datum.depth α ≤ 60) : CallR X (.builtin "min") (rMinA α X.K) := by
  intro pins s σ H vs us Q I r h
  obtain ⟨a, ws, x, xs, rfl, hs, hda, q⟩ := h
  obtain ⟨its, rv, hl, _⟩ := I.list hs
  rw [Vals.ref1 r]
  obtain ⟨as, hr⟩ := Dp.readsAll I _ _ its hda rv
  refine min_list_datum (x := x) (xs := xs) (I.ok.hd hc) hl.isList ⟨as, by simpa using hr⟩ (by omega) fun i v h' tk hi hv hk => ?_
  have hi' : its[i]? = some v := by simpa using hi
  -- the item's own V
  have hlt : i < its.length := (List.getElem?_eq_some_iff.mp hi').1
  have hlw : i < ws.length := by
    have := Vals.length rv
    omega
  have hw : ws[i]? = some ws[i] := List.getElem?_eq_getElem hlw
  obtain ⟨u, hu1, hu2⟩ := rv.get hw
  rw [hi'] at hu1
  cases hu1
  obtain ⟨d, hd1, hd2⟩ := hda.at i _ hw
  obtain ⟨y, hy1, hy2⟩ : ∃ y, (x :: xs)[i]? = some y ∧ Datum.toD y = d := by
    rw [List.getElem?_map] at hd1
    cases e : (x :: xs)[i]? with
    | none => rw [e] at hd1; cases hd1
    | some y => rw [e] at hd1; exact ⟨y, rfl, Option.some.inj hd1⟩
  subst hy2
  have I2 : Inv X pins σ H { s with heap := h', toks := tk } := I.kept hk
  obtain ⟨bs, r2⟩ := Dp.reads I2 _ _ v hd2 hu2
  obtain ⟨cs, r3⟩ := hv
  have e := toD_inj (alike_unique _ _ v bs cs (DatumOrd.alike y (minOf x xs)) r2 r3)
  exact ⟨_, H, I2, hu2, q i _ hw (by rw [hy1, e])⟩
end
end L2
namespace L2
open PySem PySem.Spec PyProof.Rows
def rLenQ (K : PySem.W.Frag) : List V → Hp → VK → Prop := fun xs H Q => ∃ p ys, xs = [.ref p] ∧ (SqL K H p ys ∨ SqT K H p ys) ∧ Q (.int ys.length) H
def rListOf (K : PySem.W.Frag) : List V → Hp → VK → Prop := fun xs H Q => ∃ p ys, xs = [.ref p] ∧ (SqL K H p ys ∨ SqT K H p ys) ∧ ∀ l, H l = none → Q (.ref l) (upd H l (.lst ys))
end L2

/-! Heaps in short: numbers, lists of lists, lists of pairs, dicts by numbers. -/
namespace KH
open PySem PySem.Spec PyProof.Rows L2 K02
abbrev nV (n : Nat) : V := .int (n : Int)
/-! ### lists -/
theorem getn {α β : Type} {f : α → β} {l : List α} {i : Nat} {x : α} (h : l[i]? = some x) : (l.map f)[i]? = some (f x) := by
  rw [List.getElem?_map, h]
  rfl
theorem getn_inv {α β : Type} {f : α → β} {l : List α} {i : Nat} {y : β} (h : (l.map f)[i]? = some y) : ∃ x, l[i]? = some x ∧ y = f x := by
  rw [List.getElem?_map] at h
  cases e : l[i]? with
  | none => rw [e] at h; cases h
  | some x => rw [e] at h; exact ⟨x, rfl, (Option.some.inj h).symm⟩
theorem get_lt {α : Type} {l : List α} {i : Nat} (h : i < l.length) : ∃ x, l[i]? = some x := ⟨l[i], List.getElem?_eq_getElem h⟩
theorem lt_get {α : Type} {l : List α} {i : Nat} {x : α} (h : l[i]? = some x) : i < l.length := (List.getElem?_eq_some_iff.mp h).1
theorem take_more {α : Type} {l : List α} {i : Nat} {x : α} (h : l[i]? = some x) : l.take (i + 1) = l.take i ++ [x] := by
  rw [List.take_add_one, h]
  rfl
theorem at_n {xs : List V} {j : Nat} {v : V} (h : xs[j]? = some v) : atI xs (j : Int) = some v := atI_nat h
theorem szl {n : Nat} (h : n ≤ 10000) : n < sizeLine := Nat.lt_of_le_of_lt h (by decide)
theorem szle {n : Nat} (h : n ≤ 10000) : n ≤ sizeLine := Nat.le_of_lt (szl h)
section
variable {α β : Type} {F G : α → β → Prop}
theorem P_len : ∀ {xs : List α} {ys : List β}, Paired F xs ys → xs.length = ys.length
  | _, _, .nil => rfl
  | _, _, .cons _ h => by rw [List.length_cons, List.length_cons, P_len h]
theorem P_get : ∀ {xs : List α} {ys : List β}, Paired F xs ys → ∀ {i : Nat} {x : α} {y : β}, xs[i]? = some x → ys[i]? = some y → F x y
  | _, _, .nil, i, x, _, h, _ => by simp at h
  | _, _, .cons f _, 0, x, y, h, h' => by
    simp at h h'
    subst h
    subst h'
    exact f
  | _, _, .cons _ r, i + 1, x, y, h, h' => P_get r (i := i) (by simpa using h) (by simpa using h')
theorem P_right {xs : List α} {ys : List β} (p : Paired F xs ys) {i : Nat} {x : α} (h : xs[i]? = some x) : ∃ y, ys[i]? = some y ∧ F x y := by
  have hl := lt_get h
  rw [P_len p] at hl
  obtain ⟨y, hy⟩ := get_lt hl
  exact ⟨y, hy, P_get p h hy⟩
theorem P_left {xs : List α} {ys : List β} (p : Paired F xs ys) {i : Nat} {y : β} (h : ys[i]? = some y) : ∃ x, xs[i]? = some x ∧ F x y := by
  have hl := lt_get h
  rw [← P_len p] at hl
  obtain ⟨x, hx⟩ := get_lt hl
  exact ⟨x, hx, P_get p hx h⟩
theorem P_mono (h : ∀ x y, F x y → G x y) : ∀ {xs : List α} {ys : List β}, Paired F xs ys → Paired G xs ys
  | _, _, .nil => .nil
  | _, _, .cons f r => .cons (h _ _ f) (P_mono h r)
theorem P_monoM : ∀ {xs : List α} {ys : List β}, (∀ x y, x ∈ xs → F x y → G x y) → Paired F xs ys → Paired G xs ys
  | _, _, _, .nil => .nil
  | _, _, h, .cons f r => .cons (h _ _ List.mem_cons_self f) (P_monoM (fun x y hx => h x y (List.mem_cons_of_mem _ hx)) r)
theorem P_set : ∀ {xs : List α} {ys : List β}, Paired F xs ys → ∀ {i : Nat} {x : α} {y : β}, F x y → Paired F (xs.set i x) (ys.set i y)
  | _, _, .nil, _, _, _, _ => .nil
  | _, _, .cons _ r, 0, _, _, f => .cons f r
  | _, _, .cons g r, i + 1, _, _, f => .cons g (P_set r f)
theorem P_setR {xs : List α} {ys : List β} (p : Paired F xs ys) {i : Nat} {x : α} {y : β} (hx : xs[i]? = some x) (f : F x y) : Paired F xs (ys.set i y) := by
  have := P_set p (i := i) f
  rwa [show xs.set i x = xs from List.set_getElem?_self hx] at this
where
  List.set_getElem?_self {l : List α} {i : Nat} {x : α} (h : l[i]? = some x) : l.set i x = l := by
    apply List.ext_getElem?
    intro j
    rw [List.getElem?_set]
    by_cases e : i = j
    · subst e
      rw [if_pos rfl, if_pos (lt_get h), h]
    · rw [if_neg e]
theorem P_append : ∀ {xs xs' : List α} {ys ys' : List β}, Paired F xs ys → Paired F xs' ys' → Paired F (xs ++ xs') (ys ++ ys')
  | _, _, _, _, .nil, h => h
  | _, _, _, _, .cons f r, h => .cons f (P_append r h)
end
/-! ### what stays -/
theorem _root_.L2.Same.seqT {K : PySem.W.Frag} {H H' : Hp} {a : Addr} {xs : List V} (e : Same H H') (h : SqT K H a xs) : SqT K H' a xs := by
  rcases h with (h | ⟨o, h⟩) | h
  · exact .inl (.inl (e _ _ h))
  · exact .inl (.inr ⟨o, e _ _ h⟩)
  · exact .inr h
theorem _root_.L2.Same.new {H H' : Hp} {p : Addr} {o : HO} (s : Same H H') (h : H' p = none) : Same H (upd H' p o) := fun b x e => by
  have e' := s b x e
  rw [upd_ne (ne_of_none e' h)]
  exact e'
theorem _root_.L2.Same.mut {H H' : Hp} {p : Addr} {o : HO} (s : Same H H') (h : H p = none) : Same H (upd H' p o) := fun b x e => by
  rw [upd_ne (ne_of_none e h)]
  exact s b x e
theorem new_free {H H' : Hp} {p : Addr} (s : Same H H') (h : H' p = none) : H p = none := s.free h
theorem ne_new {H : Hp} {a p : Addr} {o : HO} (h : H a = some o) (hp : H p = none) : a ≠ p := ne_of_none h hp
/-! ### a walk over a list or a tuple -/
def Sq (K : PySem.W.Frag) (H : Hp) (a : Addr) (xs : List V) : Prop := SqL K H a xs ∨ SqT K H a xs
theorem _root_.L2.Same.sq {K : PySem.W.Frag} {H H' : Hp} {a : Addr} {xs : List V} (e : Same H H') (h : Sq K H a xs) : Sq K H' a xs := h.imp (fun q => e.seq q) (fun q => e.seqT q)
theorem for_seq {K : PySem.W.Frag} {a : Addr} {xs : List V} {g : TG} {tb : TS} {D : Ends} {σ : L2.St} {H0 H : Hp} (hq : Sq K H0 a xs) (s0 : Same H0 H) (Pv : Nat → L2.St → Hp → Prop) (h0 : Pv 0 σ H) (hl : ∀ i σ' H', i ≤ xs.length → Pv i σ' H' → Same H0 H')
    (hs : ∀ i x σ H, xs[i]? = some x → Pv i σ H → g x σ H fun σ2 H2 => tb { D with nx := Pv (i + 1), ct := Pv (i + 1), bk := D.nx } σ2 H2) (hd : ∀ σ H, Pv xs.length σ H → D.nx σ H) :
    ∃ a', V.ref a = V.ref a' ∧ (((∃ xs, SqL K H a' xs) ∧ ∃ W : Nat → Nat → L2.St → Hp → Prop, (∃ m, W 0 m σ H) ∧ ∀ i m σ H, W i m σ H →
      ((Itl K a').stop i H ∧ D.nx σ H) ∨ ((Itl K a').go i H ∧ ∃ N : L2.St → Hp → Prop, (∀ σ' H', N σ' H' → ∃ m', m' < m ∧ W (i + 1) m' σ' H') ∧ ∀ x H', (Itl K a').yld i H x H' → g x σ H' fun σ2 H2 => tb { D with nx := N, ct := N, bk := D.nx } σ2 H2)) ∨
      ((∃ xs, SqT K H a' xs) ∧ ∃ W : Nat → Nat → L2.St → Hp → Prop, (∃ m, W 0 m σ H) ∧ ∀ i m σ H, W i m σ H →
      ((Itt K a').stop i H ∧ D.nx σ H) ∨ ((Itt K a').go i H ∧ ∃ N : L2.St → Hp → Prop, (∀ σ' H', N σ' H' → ∃ m', m' < m ∧ W (i + 1) m' σ' H') ∧ ∀ x H', (Itt K a').yld i H x H' → g x σ H' fun σ2 H2 => tb { D with nx := N, ct := N, bk := D.nx } σ2 H2))) := by
  rcases hq with hq | hq
  · exact ⟨a, rfl, .inl ⟨⟨_, s0.seq hq⟩, for_list (K := K) (a := a) (xs := xs) Pv h0 (fun i σ' H' hi p => (hl i σ' H' hi p).seq hq) hs hd⟩⟩
  · exact ⟨a, rfl, .inr ⟨⟨_, s0.seqT hq⟩, for_tup (K := K) (a := a) (xs := xs) Pv h0 (fun i σ' H' hi p => (hl i σ' H' hi p).seqT hq) hs hd⟩⟩
/-! ### dicts by numbers -/
def dkN {β : Type} (f : β → V) (l : List (Nat × β)) : List (Key × V) := l.map fun p => (Sum.inl (p.1 : Int), f p.2)
theorem key_eq {a b : Nat} : ((Sum.inl (a : Int) : Key) = Sum.inl (b : Int)) ↔ a = b := by
  constructor
  · intro h
    have := Sum.inl.inj h
    omega
  · intro h
    rw [h]
theorem val_dk {β : Type} (f : β → V) (k : Nat) : ∀ l : List (Nat × β), valV (dkN f l) (Sum.inl (k : Int)) = (look l k).map f
  | [] => rfl
  | p :: r => by
    show valV ((Sum.inl (p.1 : Int), f p.2) :: dkN f r) (Sum.inl (k : Int)) = (if p.1 = k then some p.2 else look r k).map f
    by_cases e : p.1 = k
    · rw [valV_pos (key_eq.mpr e), if_pos e]
      rfl
    · rw [valV_neg (fun z => e (key_eq.mp z)), if_neg e, val_dk f k r]
theorem put_dk {β : Type} (f : β → V) (k : Nat) (v : β) (l : List (Nat × β)) (hn : (l.map (·.1)).Nodup) : putK (dkN f l) (Sum.inl (k : Int)) (f v) = dkN f (put l k v) := by
  unfold putK
  rw [valV_any, val_dk]
  cases h : look l k with
  | none =>
    rw [if_neg (by simp)]
    rw [put_new l h]
    unfold dkN
    rw [List.map_append]
    rfl
  | some w =>
    rw [if_pos (by simp)]
    exact put_old l (by rw [h]; rfl) hn
where
  put_new : ∀ (l : List (Nat × β)), look l k = none → put l k v = l ++ [(k, v)]
    | [], _ => rfl
    | p :: r, h => by
      unfold look at h
      by_cases e : p.1 = k
      · rw [if_pos e] at h
        cases h
      · rw [if_neg e] at h
        show (if p.1 = k then (p.1, v) :: r else p :: put r k v) = _
        rw [if_neg e, put_new r h]
        rfl
  map_other : ∀ (l : List (Nat × β)), k ∉ l.map (·.1) → (dkN f l).map (fun kv => if kv.1 = Sum.inl (k : Int) then (kv.1, f v) else kv) = dkN f l
    | [], _ => rfl
    | p :: r, h => by
      rw [List.map_cons, List.mem_cons, not_or] at h
      show (if (Sum.inl (p.1 : Int) : Key) = Sum.inl (k : Int) then (Sum.inl (p.1 : Int), f v) else (Sum.inl (p.1 : Int), f p.2)) :: (dkN f r).map (fun kv => if kv.1 = Sum.inl (k : Int) then (kv.1, f v) else kv) = _
      rw [if_neg (fun z => h.1 (key_eq.mp z).symm), map_other r h.2]
      rfl
  put_old : ∀ (l : List (Nat × β)), (look l k).isSome = true → (l.map (·.1)).Nodup → (dkN f l).map (fun kv => if kv.1 = Sum.inl (k : Int) then (kv.1, f v) else kv) = dkN f (put l k v)
    | [], h, _ => by cases h
    | p :: r, h, hn => by
      rw [List.map_cons] at hn
      obtain ⟨h1, h2⟩ := List.nodup_cons.mp hn
      show (if (Sum.inl (p.1 : Int) : Key) = Sum.inl (k : Int) then (Sum.inl (p.1 : Int), f v) else (Sum.inl (p.1 : Int), f p.2)) :: (dkN f r).map (fun kv => if kv.1 = Sum.inl (k : Int) then (kv.1, f v) else kv) = dkN f (if p.1 = k then (p.1, v) :: r else p :: put r k v)
      by_cases e : p.1 = k
      · rw [if_pos (key_eq.mpr e), if_pos e, map_other r (by rw [← e]; exact h1)]
        rfl
      · rw [if_neg (fun z => e (key_eq.mp z)), if_neg e]
        unfold look at h
        rw [if_neg e] at h
        rw [put_old r h h2]
        rfl
theorem dk_len {β : Type} (f : β → V) (l : List (Nat × β)) : (dkN f l).length = l.length := by unfold dkN; rw [List.length_map]
theorem put_keys {β : Type} (k : Nat) (v : β) : ∀ (l : List (Nat × β)), (l.map (·.1)).Nodup → ((put l k v).map (·.1)).Nodup ∧ ∀ x, x ∈ (put l k v).map (·.1) → x = k ∨ x ∈ l.map (·.1)
  | [], _ => ⟨by simp [put], fun x h => .inl (by simpa [put] using h)⟩
  | p :: r, hn => by
    rw [List.map_cons] at hn
    obtain ⟨h1, h2⟩ := List.nodup_cons.mp hn
    unfold put
    by_cases e : p.1 = k
    · rw [if_pos e]
      exact ⟨hn, fun x h => .inr h⟩
    · rw [if_neg e]
      obtain ⟨i1, i2⟩ := put_keys k v r h2
      refine ⟨?_, fun x h => ?_⟩
      · rw [List.map_cons]
        refine List.nodup_cons.mpr ⟨fun z => ?_, i1⟩
        rcases i2 _ z with q | q
        · exact e q
        · exact h1 q
      · rw [List.map_cons, List.mem_cons] at h
        rcases h with q | q
        · rw [q, List.map_cons]
          exact .inr List.mem_cons_self
        · rcases i2 _ q with q | q
          · exact .inl q
          · rw [List.map_cons]
            exact .inr (List.mem_cons_of_mem _ q)
theorem dget_n {β : Type} {H : Hp} {a : Addr} {f : β → V} {l : List (Nat × β)} {k : Nat} (h : H a = some (.dK (dkN f l))) : DGet H a (nV k) ((look l k).map f) := by
  have := DGet.k (k := Sum.inl (k : Int)) h
  rw [val_dk] at this
  exact this
theorem dput_n {β : Type} {H : Hp} {a : Addr} {f : β → V} {l : List (Nat × β)} {k : Nat} {v : β} (h : H a = some (.dK (dkN f l))) (hl : l.length < sizeLine) (hn : (l.map (·.1)).Nodup) : DPut H a (nV k) (f v) (upd H a (.dK (dkN f (put l k v)))) := by
  have := DPut.k (k := Sum.inl (k : Int)) (v := f v) h (by rw [dk_len]; exact hl)
  rw [put_dk f k v l hn] at this
  exact this
/-! ### lists of lists of numbers, all new -/
/-- at a (new since H0) a list of lists, each new since H0, no two the same -/
structure LL (H0 H : Hp) (a : Addr) (bs : List (List Nat)) : Prop where
  new : H0 a = none
  ex : ∃ as : List Addr, H a = some (.lst (as.map V.ref)) ∧ as.Nodup ∧ (∀ x ∈ as, H0 x = none ∧ x ≠ a) ∧ Paired (fun x l => H x = some (.lst (l.map nV))) as bs
theorem LL.other {H0 H : Hp} {a p : Addr} {o : HO} {bs : List (List Nat)} (h : LL H0 H a bs) (hp : H p = none) : LL H0 (upd H p o) a bs := by
  obtain ⟨n, as, h1, h2, h3, h4⟩ := h
  refine ⟨n, as, by rw [upd_ne (ne_of_none h1 hp)]; exact h1, h2, h3, P_mono (fun x l e => ?_) h4⟩
  rw [upd_ne (ne_of_none e hp)]
  exact e
/-- what is not of it may change -/
theorem LL.apart {H0 H H' : Hp} {a : Addr} {bs : List (List Nat)} (h : LL H0 H a bs) (s : Same H H') : LL H0 H' a bs := by
  obtain ⟨n, as, h1, h2, h3, h4⟩ := h
  exact ⟨n, as, s _ _ h1, h2, h3, P_mono (fun x l e => s _ _ e) h4⟩
theorem LL.at {H0 H : Hp} {a : Addr} {bs : List (List Nat)} (h : LL H0 H a bs) {i : Nat} {l : List Nat} (hi : bs[i]? = some l) : ∃ (vs : List V) (x : Addr), H a = some (.lst vs) ∧ vs[i]? = some (V.ref x) ∧ H x = some (.lst (l.map nV)) ∧ H0 x = none ∧ x ≠ a := by
  obtain ⟨n, as, h1, h2, h3, h4⟩ := h
  obtain ⟨x, hx, hl⟩ := P_left h4 hi
  have hm : x ∈ as := List.mem_of_getElem? hx
  exact ⟨_, x, h1, getn hx, hl, (h3 x hm).1, (h3 x hm).2⟩
/-- the i-th list grows -/
theorem LL.grow {H0 H : Hp} {a : Addr} {bs : List (List Nat)} (h : LL H0 H a bs) {i : Nat} {l : List Nat} {vs : List V} {x : Addr} (hi : bs[i]? = some l) (hv : H a = some (.lst vs)) (hx : vs[i]? = some (V.ref x)) (m : List Nat) : LL H0 (upd H x (.lst (m.map nV))) a (bs.set i m) := by
  obtain ⟨n, as, h1, h2, h3, h4⟩ := h
  rw [h1] at hv
  cases hv
  obtain ⟨y, hy, e⟩ := getn_inv hx
  cases e
  have hm : x ∈ as := List.mem_of_getElem? hy
  refine ⟨n, as, ?_, h2, h3, ?_⟩
  · rw [upd_ne (Ne.symm (h3 x hm).2)]
    exact h1
  · have key : Paired (fun z l => (z = x → l = m) → (upd H x (.lst (m.map nV))) z = some (.lst (l.map nV))) as bs := P_mono (fun z l e q => by
      by_cases c : z = x
      · rw [c, upd_same, q c]
      · rw [upd_ne c]
        exact e) h4
    exact P_fix h2 key hy
where
  P_fix : ∀ {as : List Addr} {bs : List (List Nat)} {i : Nat}, as.Nodup → Paired (fun z l => (z = x → l = m) → (upd H x (.lst (m.map nV))) z = some (.lst (l.map nV))) as bs → as[i]? = some x →
      Paired (fun z l => (upd H x (.lst (m.map nV))) z = some (.lst (l.map nV))) as (bs.set i m)
    | _, _, _, _, .nil, h => by simp at h
    | _, _, 0, hn, .cons f r, h => by
      simp at h
      subst h
      obtain ⟨h1, h2⟩ := List.nodup_cons.mp hn
      refine .cons upd_same (P_monoM (fun z l hz e => e fun c => absurd (c ▸ hz) h1) r)
    | _, _, i + 1, hn, .cons f r, h => by
      obtain ⟨h1, h2⟩ := List.nodup_cons.mp hn
      have hx : _ := List.mem_of_getElem? (show _ from (by simpa using h : (_ : List Addr)[i]? = some x))
      refine .cons (f fun c => absurd (c ▸ hx) h1) (P_fix h2 r (by simpa using h))
/-! ### lists of pairs -/
/-- the refs of a list of pairs of numbers -/
def Prs (K : PySem.W.Frag) (H : Hp) (vs : List V) (ps : PL) : Prop := Paired (fun v q => ∃ t, v = V.ref t ∧ SqT K H t [nV q.1, nV q.2]) vs ps
theorem Prs.same {K : PySem.W.Frag} {H H' : Hp} {vs : List V} {ps : PL} (h : Prs K H vs ps) (s : Same H H') : Prs K H' vs ps := P_mono (fun _ _ ⟨t, e, q⟩ => ⟨t, e, s.seqT q⟩) h
end KH
namespace KH
open PySem PySem.Spec PyProof.Rows L2 K02
theorem Prs.len {K : PySem.W.Frag} {H : Hp} {vs : List V} {ps : PL} (h : Prs K H vs ps) : vs.length = ps.length := P_len h
theorem Prs.snoc {K : PySem.W.Frag} {H : Hp} {vs : List V} {ps : PL} {t : Addr} {a b : Nat} (h : Prs K H vs ps) (ht : SqT K H t [nV a, nV b]) : Prs K H (vs ++ [V.ref t]) (ps ++ [(a, b)]) := P_append h (.cons ⟨t, rfl, ht⟩ .nil)
theorem within_snoc {m : Nat} {ps : PL} {a b : Nat} (h : Within m ps) (ha : a < m) (hb : b < m) : Within m (ps ++ [(a, b)]) := fun p hp => by
  rcases List.mem_append.mp hp with q | q
  · exact h p q
  · rw [List.mem_singleton.mp q]
    exact ⟨ha, hb⟩
theorem within_app {m : Nat} {ps qs : PL} (h : Within m ps) (k : Within m qs) : Within m (ps ++ qs) := fun p hp => by
  rcases List.mem_append.mp hp with q | q
  · exact h p q
  · exact k p q
theorem within_nil {m : Nat} : Within m [] := fun _ h => by cases h
theorem sp2 : (2 : Nat) ≤ sizeLine := by decide
end KH
namespace KH
open PySem PySem.Spec PyProof.Rows L2 K02
/-- a tuple stands beside a list that changes -/
theorem sqT_mutL {K : PySem.W.Frag} {H : Hp} {t o : Addr} {xs us : List V} {x : HO} (h : SqT K H t xs) (e : H o = some (.lst us)) : SqT K (upd H o x) t xs := by
  rcases h with (h | ⟨ob, h⟩) | h
  · exact .inl (.inl (by rw [upd_ne (ne_of h e (by intro z; cases z))]; exact h))
  · exact .inl (.inr ⟨ob, by rw [upd_ne (ne_of h e (by intro z; cases z))]; exact h⟩)
  · exact .inr h
theorem Prs.mutL {K : PySem.W.Frag} {H : Hp} {o : Addr} {vs us : List V} {ps : PL} {x : HO} (h : Prs K H vs ps) (e : H o = some (.lst us)) : Prs K (upd H o x) vs ps := P_mono (fun _ _ ⟨t, et, q⟩ => ⟨t, et, sqT_mutL q e⟩) h
theorem sqT_new {K : PySem.W.Frag} {H : Hp} {t p : Addr} {xs : List V} {x : HO} (h : SqT K H t xs) (e : H p = none) : SqT K (upd H p x) t xs := ((Same.refl H).new e).seqT h
theorem Prs.new {K : PySem.W.Frag} {H : Hp} {p : Addr} {vs : List V} {ps : PL} {x : HO} (h : Prs K H vs ps) (e : H p = none) : Prs K (upd H p x) vs ps := h.same ((Same.refl H).new e)
end KH
namespace KH
open PySem PySem.Spec PyProof.Rows L2 K02
theorem LL.snoc {H0 H : Hp} {a p : Addr} {bs : List (List Nat)} {vs : List V} (h : LL H0 H a bs) (s : Same H0 H) (hp : H p = none) (hv : H a = some (.lst vs)) (l : List Nat) :
    LL H0 (upd (upd H p (.lst (l.map nV))) a (.lst (vs ++ [V.ref p]))) a (bs ++ [l]) := by
  obtain ⟨n, as, h1, h2, h3, h4⟩ := h
  rw [h1] at hv
  cases hv
  have hpa : p ≠ a := fun z => by rw [z, h1] at hp; cases hp
  have hpas : p ∉ as := fun z => by
    obtain ⟨i, hi⟩ := List.getElem?_of_mem z
    obtain ⟨l', _, e⟩ := P_right h4 hi
    rw [hp] at e
    cases e
  refine ⟨n, as ++ [p], ?_, ?_, ?_, ?_⟩
  · rw [upd_same, List.map_append]
    rfl
  · refine List.nodup_append.mpr ⟨h2, by simp, fun x hx y hy => ?_⟩
    rw [List.mem_singleton.mp hy]
    exact fun z => hpas (z ▸ hx)
  · intro x hx
    rcases List.mem_append.mp hx with q | q
    · exact h3 x q
    · rw [List.mem_singleton.mp q]
      exact ⟨s.free hp, hpa⟩
  · refine P_append (P_monoM (fun x l' hx e => ?_) h4) (.cons ?_ .nil)
    · rw [upd_ne (h3 x hx).2, upd_ne (ne_of_none e hp)]
      exact e
    · rw [upd_ne hpa, upd_same]
theorem LL.lst {H0 H : Hp} {a : Addr} {bs : List (List Nat)} (h : LL H0 H a bs) : ∃ vs, H a = some (.lst vs) ∧ vs.length = bs.length := by
  obtain ⟨n, as, h1, h2, h3, h4⟩ := h
  exact ⟨_, h1, by rw [List.length_map]; exact P_len h4⟩
theorem LL.nil {H : Hp} {a : Addr} (h : H a = none) : LL H (upd H a (.lst [])) a [] := ⟨h, [], upd_same, List.nodup_nil, fun x hx => (by cases hx), .nil⟩
/-- another new object that is none of its own changes -/
theorem LL.beside {H0 H : Hp} {a p : Addr} {o u : HO} {bs : List (List Nat)} (h : LL H0 H a bs) (hp : H p = some u) (hu : ∀ xs, u ≠ .lst xs) : LL H0 (upd H p o) a bs := by
  obtain ⟨n, as, h1, h2, h3, h4⟩ := h
  refine ⟨n, as, by rw [upd_ne (ne_of h1 hp (fun z => hu _ z.symm))]; exact h1, h2, h3, P_mono (fun x l e => ?_) h4⟩
  rw [upd_ne (ne_of e hp (fun z => hu _ z.symm))]
  exact e
/-! ### what the pairs give place by place -/
theorem bef_app (qs : PL) (a b v : Nat) : bef (qs ++ [(a, b)]) v = bef qs v ++ (if b = v then [a] else []) := by
  unfold bef
  rw [List.filter_append, List.map_append]
  by_cases h : b = v
  · rw [if_pos h]
    congr 1
    simp [h]
  · rw [if_neg h]
    congr 1
    simp [h]
theorem aft_app (qs : PL) (a b v : Nat) : aft (qs ++ [(a, b)]) v = aft qs v ++ (if a = v then [b] else []) := by
  unfold aft
  rw [List.filter_append, List.map_append]
  by_cases h : a = v
  · rw [if_pos h]
    congr 1
    simp [h]
  · rw [if_neg h]
    congr 1
    simp [h]
def befs (m : Nat) (ps : PL) : List (List Nat) := (List.range m).map (bef ps)
def afts (m : Nat) (ps : PL) : List (List Nat) := (List.range m).map (aft ps)
theorem befs_at {m v : Nat} (ps : PL) (h : v < m) : (befs m ps)[v]? = some (bef ps v) := by
  unfold befs
  rw [List.getElem?_map, List.getElem?_range h]
  rfl
theorem afts_at {m v : Nat} (ps : PL) (h : v < m) : (afts m ps)[v]? = some (aft ps v) := by
  unfold afts
  rw [List.getElem?_map, List.getElem?_range h]
  rfl
theorem set_map_range {m b : Nat} (f g : Nat → List Nat) (x : List Nat) (hx : g b = x) (hn : ∀ v, v < m → v ≠ b → g v = f v) : ((List.range m).map f).set b x = (List.range m).map g := by
  apply List.ext_getElem?
  intro j
  rw [List.getElem?_set, List.getElem?_map, List.getElem?_map, List.length_map, List.length_range]
  by_cases hj : j < m
  · rw [List.getElem?_range hj]
    by_cases e : b = j
    · subst e
      rw [if_pos rfl, if_pos hj]
      show some x = some (g b)
      rw [hx]
    · rw [if_neg e]
      show some (f j) = some (g j)
      rw [hn j hj (fun z => e z.symm)]
  · rw [List.getElem?_eq_none (by rw [List.length_range]; omega)]
    by_cases e : b = j
    · subst e
      rw [if_pos rfl, if_neg hj]
      rfl
    · rw [if_neg e]
      rfl
theorem befs_step {m a b i : Nat} {ps : PL} (h : ps[i]? = some (a, b)) : (befs m (ps.take i)).set b (bef (ps.take i) b ++ [a]) = befs m (ps.take (i + 1)) := by
  unfold befs
  refine set_map_range _ _ _ ?_ fun v hv hne => ?_
  · rw [take_more h, bef_app, if_pos rfl]
  · rw [take_more h, bef_app, if_neg (fun z => hne z.symm), List.append_nil]
theorem afts_step {m a b i : Nat} {ps : PL} (h : ps[i]? = some (a, b)) : (afts m (ps.take i)).set a (aft (ps.take i) a ++ [b]) = afts m (ps.take (i + 1)) := by
  unfold afts
  refine set_map_range _ _ _ ?_ fun v hv hne => ?_
  · rw [take_more h, aft_app, if_pos rfl]
  · rw [take_more h, aft_app, if_neg (fun z => hne z.symm), List.append_nil]
theorem befs_nil (m : Nat) : befs m [] = List.replicate m [] := by
  unfold befs
  apply List.ext_getElem?
  intro j
  rw [List.getElem?_map, List.getElem?_replicate]
  by_cases hj : j < m
  · rw [List.getElem?_range hj, if_pos hj]
    rfl
  · rw [List.getElem?_eq_none (by rw [List.length_range]; omega), if_neg hj]
    rfl
theorem afts_nil (m : Nat) : afts m [] = List.replicate m [] := by
  unfold afts
  apply List.ext_getElem?
  intro j
  rw [List.getElem?_map, List.getElem?_replicate]
  by_cases hj : j < m
  · rw [List.getElem?_range hj, if_pos hj]
    rfl
  · rw [List.getElem?_eq_none (by rw [List.length_range]; omega), if_neg hj]
    rfl
theorem bef_len (ps : PL) (v : Nat) : (bef ps v).length ≤ ps.length := by
  unfold bef
  rw [List.length_map]
  exact List.length_filter_le _ _
theorem aft_len (ps : PL) (v : Nat) : (aft ps v).length ≤ ps.length := by
  unfold aft
  rw [List.length_map]
  exact List.length_filter_le _ _
/-! ### the taken ones: a dict that holds True -/
def tk (t : List Nat) : List (Nat × Bool) := t.map fun x => (x, true)
theorem tk_keys (t : List Nat) : (tk t).map (·.1) = t := by
  unfold tk
  rw [List.map_map]
  exact List.map_id' t
theorem tk_len (t : List Nat) : (tk t).length = t.length := by unfold tk; rw [List.length_map]
theorem tk_look : ∀ (t : List Nat) (k : Nat), look (tk t) k = if t.contains k then some true else none
  | [], k => rfl
  | x :: r, k => by
    show (if x = k then some true else look (tk r) k) = _
    rw [tk_look r k, List.contains_cons]
    by_cases e : x = k
    · subst e
      simp
    · have : (k == x) = false := by simpa using fun z : k = x => e z.symm
      rw [if_neg e, this, Bool.false_or]
theorem tk_some (t : List Nat) (k : Nat) : ((look (tk t) k).map V.bl).isSome = t.contains k := by
  rw [tk_look]
  cases t.contains k <;> rfl
theorem tk_put {t : List Nat} {k : Nat} (h : k ∉ t) : put (tk t) k true = tk (t ++ [k]) := by
  rw [put_dk.put_new k true (tk t) (by rw [look_none_iff, tk_keys]; exact h)]
  unfold tk
  rw [List.map_append]
  rfl
/-- what a def hands back: None, or a new list -/
def OutL (H H' : Hp) (v : V) (r : Option (List Nat)) : Prop := match r with
  | none => v = .non
  | some l => ∃ p, v = .ref p ∧ H p = none ∧ H' p = some (.lst (l.map nV))
end KH
namespace KH
open PySem PySem.Spec PyProof.Rows L2 K02
/-! ### lists of lists that are read -/
def LR (H : Hp) (a : Addr) (bs : List (List Nat)) : Prop := ∃ as : List Addr, H a = some (.lst (as.map V.ref)) ∧ Paired (fun x l => H x = some (.lst (l.map nV))) as bs
theorem LR.same {H H' : Hp} {a : Addr} {bs : List (List Nat)} (h : LR H a bs) (s : Same H H') : LR H' a bs := by
  obtain ⟨as, h1, h2⟩ := h
  exact ⟨as, s _ _ h1, P_mono (fun _ _ e => s _ _ e) h2⟩
theorem LR.at {H : Hp} {a : Addr} {bs : List (List Nat)} (h : LR H a bs) {i : Nat} {l : List Nat} (hi : bs[i]? = some l) : ∃ (vs : List V) (x : Addr), H a = some (.lst vs) ∧ vs[i]? = some (V.ref x) ∧ H x = some (.lst (l.map nV)) := by
  obtain ⟨as, h1, h2⟩ := h
  obtain ⟨x, hx, hl⟩ := P_left h2 hi
  exact ⟨_, x, h1, getn hx, hl⟩
theorem LL.lr {H0 H : Hp} {a : Addr} {bs : List (List Nat)} (h : LL H0 H a bs) : LR H a bs := by
  obtain ⟨_, as, h1, _, _, h4⟩ := h
  exact ⟨as, h1, h4⟩
theorem OutL.same {H H1 H2 : Hp} {v : V} {r : Option (List Nat)} (h : OutL H H1 v r) (s : Same H1 H2) : OutL H H2 v r := by
  cases r with
  | none => exact h
  | some l =>
    obtain ⟨p, e, h0, hp⟩ := h
    exact ⟨p, e, h0, s _ _ hp⟩
/-- one of two, both new lists of lists: an own list of one changes -/
structure LX (H : Hp) (a : Addr) (as : List Addr) (bs : List (List Nat)) : Prop where
  top : H a = some (.lst (as.map V.ref))
  nd : as.Nodup
  na : a ∉ as
  ins : Paired (fun x l => H x = some (.lst (l.map nV))) as bs
theorem LL.lx {H0 H : Hp} {a : Addr} {bs : List (List Nat)} (h : LL H0 H a bs) : ∃ as, LX H a as bs ∧ (∀ x ∈ as, H0 x = none) := by
  obtain ⟨_, as, h1, h2, h3, h4⟩ := h
  exact ⟨as, ⟨h1, h2, fun z => (h3 a z).2 rfl, h4⟩, fun x hx => (h3 x hx).1⟩
theorem LX.same {H H' : Hp} {a : Addr} {as : List Addr} {bs : List (List Nat)} (h : LX H a as bs) (s : Same H H') : LX H' a as bs := ⟨s _ _ h.top, h.nd, h.na, P_mono (fun _ _ e => s _ _ e) h.ins⟩
theorem LX.frame {H : Hp} {a p : Addr} {o : HO} {as : List Addr} {bs : List (List Nat)} (h : LX H a as bs) (h1 : p ≠ a) (h2 : p ∉ as) : LX (upd H p o) a as bs :=
  ⟨by rw [upd_ne (Ne.symm h1)]; exact h.top, h.nd, h.na, P_monoM (fun x l hx e => by rw [upd_ne (show x ≠ p from fun z => h2 (z ▸ hx))]; exact e) h.ins⟩
theorem LX.lr {H : Hp} {a : Addr} {as : List Addr} {bs : List (List Nat)} (h : LX H a as bs) : LR H a bs := ⟨as, h.top, h.ins⟩
theorem LX.at {H : Hp} {a : Addr} {as : List Addr} {bs : List (List Nat)} (h : LX H a as bs) {i : Nat} {l : List Nat} (hi : bs[i]? = some l) : ∃ x : Addr, as[i]? = some x ∧ x ∈ as ∧ (as.map V.ref)[i]? = some (V.ref x) ∧ H x = some (.lst (l.map nV)) := by
  obtain ⟨x, hx, hl⟩ := P_left h.ins hi
  exact ⟨x, hx, List.mem_of_getElem? hx, getn hx, hl⟩
theorem P_fixA {H : Hp} {x : Addr} {m : List Nat} : ∀ {as : List Addr} {bs : List (List Nat)} {i : Nat}, as.Nodup → Paired (fun z l => (z = x → l = m) → (upd H x (.lst (m.map nV))) z = some (.lst (l.map nV))) as bs → as[i]? = some x →
      Paired (fun z l => (upd H x (.lst (m.map nV))) z = some (.lst (l.map nV))) as (bs.set i m)
    | _, _, _, _, .nil, h => by simp at h
    | _, _, 0, hn, .cons f r, h => by
      simp at h
      subst h
      obtain ⟨h1, h2⟩ := List.nodup_cons.mp hn
      refine .cons upd_same (P_monoM (fun z l hz e => e fun c => absurd (c ▸ hz) h1) r)
    | _, _, i + 1, hn, .cons f r, h => by
      obtain ⟨h1, h2⟩ := List.nodup_cons.mp hn
      have hx : _ := List.mem_of_getElem? (show _ from (by simpa using h : (_ : List Addr)[i]? = some x))
      refine .cons (f fun c => absurd (c ▸ hx) h1) (P_fixA h2 r (by simpa using h))
theorem LX.grow {H : Hp} {a x : Addr} {as : List Addr} {bs : List (List Nat)} (h : LX H a as bs) {i : Nat} (hx : as[i]? = some x) (m : List Nat) : LX (upd H x (.lst (m.map nV))) a as (bs.set i m) := by
  have hm : x ∈ as := List.mem_of_getElem? hx
  refine ⟨by rw [upd_ne (show a ≠ x from fun z => h.na (z ▸ hm))]; exact h.top, h.nd, h.na, ?_⟩
  have key : Paired (fun z l => (z = x → l = m) → (upd H x (.lst (m.map nV))) z = some (.lst (l.map nV))) as bs := P_mono (fun z l e q => by
    by_cases c : z = x
    · rw [c, upd_same, q c]
    · rw [upd_ne c]
      exact e) h.ins
  exact P_fixA h.nd key hx
end KH

local macro_rules | `(tactic| walk_at "nz") => `(tactic| (dsimp only; first | decide | omega))
namespace K02W
open PySem PySem.Spec PyProof.Rows L2 K02 KH
def topS (i : Nat) : Stmt := PySem.Challenge.pw_changeskept_k02_order_or_ring.main.body.getD i (.Pass ⟨0, 0, 0, 0⟩)
abbrev s_law_cell : Stmt := topS 7
theorem sc_law_cell : FnScope ["script", "k", "spare", "cell"] ["script", "k"] (defScope s_law_cell) := ⟨rfl, rfl, rfl, by decide +kernel, rfl, by decide +kernel, by decide +kernel⟩

abbrev s_law_draws : Stmt := topS 8
theorem sc_law_draws : FnScope ["cell", "sizes", "whole", "found", "number", "size", "k", "mixed"] ["cell", "sizes"] (defScope s_law_draws) := ⟨rfl, rfl, rfl, by decide +kernel, rfl, by decide +kernel, by decide +kernel⟩

abbrev s_law_permuted : Stmt := topS 9
theorem sc_law_permuted : FnScope ["cell", "many", "drawn", "order", "k"] ["cell", "many"] (defScope s_law_permuted) := ⟨rfl, rfl, rfl, by decide +kernel, rfl, by decide +kernel, by decide +kernel⟩

abbrev s_law_any_pairs : Stmt := topS 10
theorem sc_law_any_pairs : FnScope ["cell", "many", "count", "loops", "sizes", "k", "drawn", "pairs", "one", "two"] ["cell", "many", "count", "loops"] (defScope s_law_any_pairs) := ⟨rfl, rfl, rfl, by decide +kernel, rfl, by decide +kernel, by decide +kernel⟩

abbrev s_law_forward : Stmt := topS 11
theorem sc_law_forward : FnScope ["cell", "order", "count", "backward", "pairs", "one", "two", "low", "high"] ["cell", "order", "count", "backward"] (defScope s_law_forward) := ⟨rfl, rfl, rfl, by decide +kernel, rfl, by decide +kernel, by decide +kernel⟩

abbrev s_law_pairs : Stmt := topS 12
theorem sc_law_pairs : FnScope ["script", "many", "shape", "order", "line", "count", "pairs", "k"] ["script", "many", "shape"] (defScope s_law_pairs) := ⟨rfl, rfl, rfl, by decide +kernel, rfl, by decide +kernel, by decide +kernel⟩

/-- the built-in names are what they are -/
structure Txt (mg : Str → Option Value) : Prop where
  len : mg "len" = none
  abs : mg "abs" = none
  int : mg "int" = none
  range : mg "range" = none
  list : mg "list" = none
  tuple : mg "tuple" = none
  all : mg "all" = none
  min : mg "min" = none
  max : mg "max" = none
  reversed : mg "reversed" = none
  isinstance : mg "isinstance" = none
  bool : mg "bool" = none
/-- a def as its callers know it -/
structure Cal (P : Program) (w : World) (K : PySem.W.Frag) (mg : Str → Option Value) (base : Heap) (k : Nat) (x : Str) (ps : List Str) (sp : Sp) (f : Addr) (fd : FuncData) : Prop where
  ok : FnOk P w K mg base CX0 k f fd ps sp
  mg : mg x = some (.ref f)
  kp : PySem.W.keepIn K (.ref f) = true
  b : Binds K fd ps []
section
variable {P : Program} {w : World} {K : PySem.W.Frag} {mg : Str → Option Value} {base : Heap}
/-! ### a cell of the script -/
def sp_cell (K : PySem.W.Frag) : Sp := fun vs H Q _ => ∃ (a : Addr) (ns : List Int) (k : Nat), vs = [.ref a, nV k] ∧ SqL K H a (ns.map V.int) ∧ ns.length ≤ 63 ∧ k ≤ 1000 ∧ ∀ n H', Same H H' → Q (.int n) H'
theorem cut_ints (ns : List Int) (lo hi : Option Int) : ∃ ms : List Int, cutV (ns.map V.int) lo hi = ms.map V.int := by
  unfold cutV
  rw [← List.map_drop, ← List.map_take]
  exact ⟨_, rfl⟩
theorem ok_cell {f : Addr} {fd : FuncData} (F : Fun K "_law_cell" "_law_cell" s_law_cell f fd) (T : Txt mg) : FnOk P w K mg base CX0 1 f fd ["script", "k"] (sp_cell K) := by
  refine F.ok sc_law_cell (fun vs H Q E h => ?_) (fun cdv A outer s H vs Q E hr h => ?_)
  · obtain ⟨a, ns, k, rfl, _⟩ := h
    rfl
  · obtain ⟨a, ns, k, rfl, hS, hl, hk, q⟩ := h
    refine ⟨_, (pss_cons (ps_if (pt_cmpR op_lt (pv 1) (pe_callB call_len_seq (by rfl) T.len (by decide +kernel) (pa_cons (pv 0) pa_nil)) (nomark _))
 (pss_one (ps_ret (pe_ix ix_list (pv 0) (pv 1) (fun _ _ => rfl))))
 pss_nil)
 (pss_cons (ps_set (i := 2) sc_law_cell.nd rfl (.inl rfl) pe_int)
 (pss_cons (ps_for PassesOwn.never rfl (pi_list (pe_slice sl_list (pv 0) po_none (po_some pe_int))) (pg_name (i := 3) sc_law_cell.nd rfl (.inl rfl))
 (pss_one (ps_set (i := 2) sc_law_cell.nd rfl (.inl rfl) (pe_op op_add (pv 2) (pe_op op_modN (pe_callB call_abs (by rfl) T.abs (by decide +kernel) (pa_cons (pe_callTy call_int1 (by rfl) T.int (by decide +kernel) (pa_cons (pv 3) pa_nil)) pa_nil)) pe_int)))))
 (pss_one (ps_ret (pe_op op_add (pv 2) (pe_op op_mul pe_int (pv 1)))))))), ?_⟩
    refine ⟨_, rfl, _, rfl, a, _, rfl, .inl hS, _, _, rfl, rfl, _, rfl, ite2 (fun hlt => ?_) (fun _ => ?_)⟩
    · have hlt' : k < ns.length := by
        have := of_decide_eq_true hlt
        rw [List.length_map] at this
        omega
      obtain ⟨n, hn⟩ := get_lt hlt'
      exact ⟨_, rfl, _, rfl, a, _, _, _, rfl, rfl, hS, at_n (getn hn), q n H (Same.refl H)⟩
    · refine ⟨_, rfl, 3, rfl, a, _, rfl, hS, fun p np => ?_⟩
      obtain ⟨ms, em⟩ := cut_ints ns none (some 3)
      rw [em]
      refine ⟨p, rfl, ⟨_, SqL.of upd_same⟩, for_list (K := K) (a := p) (xs := ms.map V.int) (fun i σ H' => ∃ (z : Int) (v : Option V), σ = [some (.ref a), some (nV k), some (.int z), v] ∧ Same H H' ∧ H' p = some (.lst (ms.map V.int)))
        ⟨0, none, rfl, (Same.refl H).new np, upd_same⟩ (fun i σ H' _ ⟨_, _, _, _, e⟩ => SqL.of e) ?_ ?_⟩
      · rintro i y σ H' hi ⟨z, v, rfl, sm, e⟩
        obtain ⟨c, _, rfl⟩ := getn_inv hi
        refine ⟨_, rfl, _, rfl, .inl ⟨_, rfl, _, rfl, _, _, rfl, rfl, (by walk_at "nz"), _, _, rfl, rfl, ?_⟩⟩
        exact ⟨_, _, rfl, sm, e⟩
      · rintro σ H' ⟨z, v, rfl, sm, e⟩
        exact ⟨_, rfl, _, rfl, _, _, rfl, rfl, .inl ⟨by decide, by decide⟩, _, _, rfl, rfl, q _ _ sm⟩
/-! ### drawn numbers -/
/-- below the sizes -/
def Drawn (ds zs : List Nat) : Prop := Paired (fun d z => d < z) ds zs
def sp_draws (K : PySem.W.Frag) : Sp := fun vs H Q _ => ∃ (a : Addr) (c : Int) (zs : List Nat), vs = [.int c, .ref a] ∧ SqL K H a (zs.map nV) ∧ zs.length ≤ 1000 ∧ (∀ z ∈ zs, 0 < z ∧ z < 1073741824) ∧
  ∀ p ds H', Same H H' → H p = none → H' p = some (.lst (ds.map nV)) → Drawn ds zs → Q (.ref p) H'
theorem drawn_snoc {ds zs : List Nat} {i d z : Nat} (h : Drawn ds (zs.take i)) (hz : zs[i]? = some z) (hd : d < z) : Drawn (ds ++ [d]) (zs.take (i + 1)) := by
  rw [take_more hz]
  exact P_append h (.cons hd .nil)
theorem fmod_nat (x : Int) {z : Nat} (hz : 0 < z) : ∃ d : Nat, x.fmod (z : Int) = (d : Int) ∧ d < z := by
  have h1 : 0 ≤ x.fmod (z : Int) := Int.fmod_nonneg_of_pos x (by omega)
  have h2 : x.fmod (z : Int) < z := Int.fmod_lt_of_pos x (by omega)
  exact ⟨(x.fmod (z : Int)).toNat, by omega, by omega⟩
theorem ok_draws {f : Addr} {fd : FuncData} (F : Fun K "_law_draws" "_law_draws" s_law_draws f fd) (T : Txt mg) : FnOk P w K mg base CX0 1 f fd ["cell", "sizes"] (sp_draws K) := by
  refine F.ok sc_law_draws (fun vs H Q E h => ?_) (fun cdv A outer s H vs Q E hr h => ?_)
  · obtain ⟨a, c, zs, rfl, _⟩ := h
    rfl
  · obtain ⟨a, c, zs, rfl, hS, hl, hz, q⟩ := h
    refine ⟨_, (pss_cons (ps_set (i := 2) sc_law_draws.nd rfl (.inl rfl) (pe_callB call_abs (by rfl) T.abs (by decide +kernel) (pa_cons (pe_callTy call_int1 (by rfl) T.int (by decide +kernel) (pa_cons (pv 0) pa_nil)) pa_nil)))
 (pss_cons (ps_set (i := 3) sc_law_draws.nd rfl (.inl rfl) (pe_lst pa_nil))
 (pss_cons (ps_if (pt_cmpR op_ge (pv 2) (pe_op op_pow pe_int pe_int) (nomark _))
 (pss_cons (ps_set (i := 4) sc_law_draws.nd rfl (.inl rfl) (pe_op op_sub (pv 2) (pe_op op_pow pe_int pe_int)))
 (pss_cons (ps_for PassesOwn.never rfl (pi_list (pv 1)) (pg_name (i := 5) sc_law_draws.nd rfl (.inl rfl))
 (pss_cons (ps_expr (pe_bm PySem.F.plainAttrs_list PySem.F.slot_list_append PySem.F.type_list_append mt_append (pv 3) (pa_cons (pe_op op_modN (pe_callTy call_int1 (by rfl) T.int (by decide +kernel) (pa_cons (pv 4) pa_nil)) (pv 5)) pa_nil)))
 (pss_one (ps_set (i := 4) sc_law_draws.nd rfl (.inl rfl) (pe_op op_fdivN (pv 4) (pv 5))))))
 (pss_one (ps_ret (pv 3)))))
 pss_nil)
 (pss_cons (ps_for PassesOwn.never rfl (pi_range1 rfl T.range (pa_cons (pe_callB call_len_seq (by rfl) T.len (by decide +kernel) (pa_cons (pv 1) pa_nil)) pa_nil)) (pg_name (i := 6) sc_law_draws.nd rfl (.inl rfl))
 (pss_cons (ps_set (i := 7) sc_law_draws.nd rfl (.inl rfl) (pe_op op_modN (pe_callTy call_int1 (by rfl) T.int (by decide +kernel) (pa_cons (pe_op op_add (pe_op op_add (pv 2) (pe_op op_mul pe_int (pv 6))) pe_int) pa_nil)) pe_int))
 (pss_cons (ps_set (i := 7) sc_law_draws.nd rfl (.inl rfl) (pe_op op_modN (pe_callTy call_int1 (by rfl) T.int (by decide +kernel) (pa_cons (pe_op op_mul (pv 7) (pe_op op_add (pv 7) pe_int)) pa_nil)) pe_int))
 (pss_cons (ps_set (i := 7) sc_law_draws.nd rfl (.inl rfl) (pe_op op_modN (pe_callTy call_int1 (by rfl) T.int (by decide +kernel) (pa_cons (pe_op op_add (pe_op op_mul (pv 7) (pe_op op_add (pv 7) pe_int)) (pe_op op_mul pe_int (pv 6))) pa_nil)) pe_int))
 (pss_one (ps_expr (pe_bm PySem.F.plainAttrs_list PySem.F.slot_list_append PySem.F.type_list_append mt_append (pv 3) (pa_cons (pe_op op_modN (pe_callTy call_int1 (by rfl) T.int (by decide +kernel) (pa_cons (pe_op op_fdivN (pv 7) pe_int) pa_nil)) (pe_ix ix_list (pv 1) (pv 6) (fun _ _ => rfl))) pa_nil))))))))
 (pss_one (ps_ret (pv 3))))))), ?_⟩
    -- whole = abs(int(cell)); found = []
    refine ⟨_, rfl, .inl ⟨_, rfl, _, rfl, ?_⟩⟩
    refine ⟨Nat.zero_le _, fun p np => ?_⟩
    have s0 : Same H (upd H p (.lst [])) := (Same.refl H).new np
    -- if whole >= 10 ** 18
    refine ⟨_, rfl, _, _, rfl, rfl, ⟨by decide, by decide, by decide⟩, _, _, rfl, rfl, _, rfl, ite2 (fun _ => ?_) (fun hsm => ?_)⟩
    · refine ⟨_, rfl, _, _, rfl, rfl, ⟨by decide, by decide, by decide⟩, _, _, rfl, rfl, ?_⟩
      refine ⟨_, rfl, a, rfl, ⟨_, s0.seq hS⟩, for_list (K := K) (a := a) (xs := zs.map nV) (fun i σ H' => ∃ (w n : Int) (ds : List Nat) (v5 v6 v7 : Option V), σ = [some (.int c), some (.ref a), some (.int w), some (.ref p), some (.int n), v5, v6, v7] ∧ Same H H' ∧ H' p = some (.lst (ds.map nV)) ∧ Drawn ds (zs.take i))
        ⟨_, _, [], none, none, none, rfl, s0, upd_same, .nil⟩ (fun i σ H' _ ⟨_, _, _, _, _, _, _, sm, _⟩ => sm.seq hS) ?_ ?_⟩
      · rintro i y σ H' hi ⟨w', n, ds, v5, v6, v7, rfl, sm, e, dr⟩
        obtain ⟨z, hzi, rfl⟩ := getn_inv hi
        obtain ⟨hz0, hz1⟩ := hz z (List.mem_of_getElem? hzi)
        obtain ⟨d, ed, hd⟩ := fmod_nat n hz0
        refine ⟨_, rfl, .inl ⟨rfl, _, SqL.of e⟩, _, rfl, .inl ⟨_, rfl, _, rfl, _, _, rfl, rfl, (by walk_at "nz"), p, _, _, rfl, rfl, e, ?_, ?_⟩⟩
        · rw [List.length_map, P_len dr]
          exact szl (Nat.le_trans (List.length_take_le' _ _) (by omega))
        · refine ⟨_, rfl, _, rfl, _, _, rfl, rfl, ⟨by omega, by omega⟩, ?_⟩
          refine ⟨_, _, ds ++ [d], _, _, _, rfl, sm.mut np, ?_, drawn_snoc dr hzi hd⟩
          dsimp only
          rw [upd_same, ed, List.map_append]
          rfl
      · rintro σ H' ⟨w', n, ds, v5, v6, v7, rfl, sm, e, dr⟩
        rw [List.length_map, List.take_length] at dr
        exact ⟨_, rfl, q p ds H' sm np e dr⟩
    · -- the mixing
      have hwb : ∃ w : Nat, (if c < 0 then -c else c) = (w : Int) ∧ w < 10 ^ 18 := by
        have h1 : ¬ ((10 : Int) ^ (18 : Int).toNat ≤ if c < 0 then -c else c) := fun z => hsm (decide_eq_true z)
        have e18 : (10 : Int) ^ (18 : Int).toNat = 1000000000000000000 := by decide
        rw [e18] at h1
        refine ⟨(if c < 0 then -c else c).toNat, ?_, ?_⟩ <;> split at h1 <;> split <;> omega
      obtain ⟨wn, ew, hw⟩ := hwb
      rw [ew]
      refine ⟨_, rfl, a, _, rfl, .inl (s0.seq hS), _, rfl, (by omega), (by rw [List.length_map]; omega), ?_⟩
      have el : (((zs.map nV).length : Nat) : Int).toNat = zs.length := by rw [List.length_map]; omega
      rw [el]
      refine for_range (lo := 0) (n := zs.length) (fun i σ H' => ∃ (ds : List Nat) (v4 v5 v6 v7 : Option V), σ = [some (.int c), some (.ref a), some (nV wn), some (.ref p), v4, v5, v6, v7] ∧ Same H H' ∧ H' p = some (.lst (ds.map nV)) ∧ Drawn ds (zs.take i))
        ⟨[], none, none, none, none, rfl, s0, upd_same, .nil⟩ ?_ ?_
      · rintro i σ H' hi ⟨ds, v4, v5, v6, v7, rfl, sm, e, dr⟩
        obtain ⟨z, hzi⟩ := get_lt hi
        obtain ⟨hz0, hz1⟩ := hz z (List.mem_of_getElem? hzi)
        obtain ⟨m1, e1, b1⟩ := fmod_nat ((wn : Int) + 7919 * ((0 : Int) + (i : Int)) + 13) (z := 2147483647) (by decide)
        obtain ⟨m2, e2, b2⟩ := fmod_nat ((m1 : Int) * ((m1 : Int) + 48271)) (z := 2147483629) (by decide)
        obtain ⟨m3, e3, b3⟩ := fmod_nat ((m2 : Int) * ((m2 : Int) + 69621) + 31 * ((0 : Int) + (i : Int))) (z := 2147483647) (by decide)
        obtain ⟨d, ed, hd⟩ := fmod_nat ((m3 : Int).fdiv 9) hz0
        -- mixed = int(whole + 7919 * k + 13) % 2147483647
        refine ⟨_, rfl, _, rfl, _, _, rfl, rfl, .inl ⟨by decide, by decide⟩, _, _, rfl, rfl, _, _, rfl, rfl, .inl ⟨_, rfl, _, _, rfl, rfl, (by walk_at "nz"), ?_⟩⟩
        dsimp only
        rw [show ((2147483647 : Nat) : Int) = 2147483647 by rfl] at e1
        rw [e1]
        -- mixed = int(mixed * (mixed + 48271)) % 2147483629
        refine ⟨_, rfl, _, rfl, _, _, rfl, rfl, _, _, rfl, rfl, .inl ⟨by omega, by omega⟩, .inl ⟨_, rfl, _, _, rfl, rfl, (by walk_at "nz"), ?_⟩⟩
        dsimp only
        rw [show ((2147483629 : Nat) : Int) = 2147483629 by rfl] at e2
        rw [e2]
        refine ⟨_, rfl, _, rfl, _, _, rfl, rfl, _, _, rfl, rfl, .inl ⟨by omega, by omega⟩, _, rfl, _, _, rfl, rfl, .inl ⟨by decide, by decide⟩, _, _, rfl, rfl, .inl ⟨_, rfl, _, _, rfl, rfl, (by walk_at "nz"), ?_⟩⟩
        dsimp only
        rw [show ((2147483647 : Nat) : Int) = 2147483647 by rfl] at e3
        rw [e3]
        -- found.append(int(mixed // 9) % sizes[k])
        refine ⟨_, rfl, .inl ⟨rfl, _, SqL.of e⟩, _, rfl, _, _, rfl, rfl, ⟨by decide, by decide⟩, .inl ⟨_, rfl, _, rfl, _, rfl, a, _, _, nV z, rfl, rfl, sm.seq hS, ?_, _, _, rfl, rfl, (by walk_at "nz"), p, _, _, rfl, rfl, e, ?_, ?_⟩⟩
        · rw [show (0 : Int) + (i : Int) = (i : Int) by omega]
          exact at_n (getn hzi)
        · rw [List.length_map, P_len dr]
          exact szl (Nat.le_trans (List.length_take_le' _ _) (by omega))
        · refine ⟨ds ++ [d], _, _, _, _, rfl, sm.mut np, ?_, drawn_snoc dr hzi hd⟩
          dsimp only
          rw [upd_same, ed, List.map_append]
          rfl
      · rintro σ H' ⟨ds, v4, v5, v6, v7, rfl, sm, e, dr⟩
        rw [List.take_length] at dr
        exact ⟨_, rfl, q p ds H' sm np e dr⟩
end
end K02W

namespace K02W
open PySem PySem.Spec PyProof.Rows L2 K02 KH
section
variable {P : Program} {w : World} {K : PySem.W.Frag} {mg : Str → Option Value} {base : Heap}
/-! ### an order of the places -/
def sp_permuted : Sp := fun vs H Q _ => ∃ (c : Int) (m : Nat), vs = [.int c, nV m] ∧ m ≤ 100 ∧ ∀ (p : Addr) (os : List Nat) (H' : Hp), Same H H' → H p = none → H' p = some (.lst (os.map nV)) → os.length = m → (∀ x ∈ os, x < m) → Q (.ref p) H'
theorem ok_permuted {f f1 : Addr} {fd fd1 : FuncData} (F : Fun K "_law_permuted" "_law_permuted" s_law_permuted f fd) (T : Txt mg) (C_law_draws : Cal P w K mg base 1 "_law_draws" ["cell", "sizes"] (sp_draws K) f1 fd1) : FnOk P w K mg base CX0 2 f fd ["cell", "many"] sp_permuted := by
  refine F.ok sc_law_permuted (fun vs H Q E h => ?_) (fun cdv A outer s H vs Q E hr h => ?_)
  · obtain ⟨c, m, rfl, _⟩ := h
    rfl
  · obtain ⟨c, m, rfl, hm, q⟩ := h
    refine ⟨_, (pss_cons (ps_set (i := 2) sc_law_permuted.nd rfl (.inl rfl) (pe_call C_law_draws.ok (hr.mono (by decide)) (by rfl) C_law_draws.mg C_law_draws.kp C_law_draws.b .nil pass0 (pa_cons (pv 0) (pa_cons (pe_lc (own := [("k", 4)]) (g := gName 4) (tt := tYes) rfl sc_law_permuted.nd (pi_range1 rfl T.range (pa_cons (pv 1) pa_nil)) (blkOk_by (N := ["cell", "many", "drawn", "order", "k"]) (sc := defScope s_law_permuted) (by decide +kernel)) (fun _ _ _ _ _ => (pg_name (i := 4) sc_law_permuted.nd rfl (.inl rfl))) (fun _ _ _ _ _ => pts_nil) (fun _ _ _ _ _ => (pe_op op_add (pv 4) pe_int))) pa_nil))))
 (pss_cons (ps_set (i := 3) sc_law_permuted.nd rfl (.inl rfl) (pe_lst pa_nil))
 (pss_cons (ps_for PassesOwn.never rfl (pi_range1 rfl T.range (pa_cons (pv 1) pa_nil)) (pg_name (i := 4) sc_law_permuted.nd rfl (.inl rfl))
 (pss_one (ps_expr (pe_bm PySem.F.plainAttrs_list PySem.F.slot_list_insert PySem.F.type_list_insert mt_insert (pv 3) (pa_cons (pe_ix ix_list (pv 2) (pv 4) (fun _ _ => rfl)) (pa_cons (pv 4) pa_nil))))))
 (pss_one (ps_ret (pv 3)))))), ?_⟩
    -- [k + 1 for k in range(many)]
    refine ⟨_, rfl, _, rfl, _, rfl, (by omega), (by omega), fun D nD => ?_⟩
    rw [show ((m : Nat) : Int).toNat = m by omega]
    refine lc_range (lo := 0) (n := m) (fun i H' => Same H H' ∧ H' D = some (.lst (((List.range i).map (· + 1)).map nV))) ⟨(Same.refl H).new nD, upd_same⟩ ?_ ?_
    · rintro i H' hi ⟨sm, e⟩
      refine ⟨rfl, _, rfl, _, _, rfl, rfl, _, e, ?_, sm.mut nD, ?_⟩
      · rw [List.length_map, List.length_map, List.length_range]
        exact szl (by omega)
      · rw [upd_same, List.range_succ, List.map_append, List.map_append]
        dsimp only
        rw [show (0 : Int) + (i : Int) + 1 = ((i + 1 : Nat) : Int) by omega]
        rfl
    · rintro H1 ⟨sm, e⟩
      refine ⟨D, c, (List.range m).map (· + 1), rfl, SqL.of e, ?_, ?_, fun p ds H2 sm2 np e2 dr => ?_⟩
      · rw [List.length_map, List.length_range]
        omega
      · intro z hz
        obtain ⟨k, hk, rfl⟩ := List.mem_map.mp hz
        have := List.mem_range.mp hk
        omega
      · have hpn : H p = none := sm.free np
        refine ⟨Nat.zero_le _, fun o no => ?_⟩
        have s2 : Same H H2 := sm.trans sm2
        have hon : H o = none := s2.free no
        have hpo : p ≠ o := ne_of_none e2 no
        have e2' : (upd H2 o (.lst [])) p = some (.lst (ds.map nV)) := by rw [upd_ne hpo]; exact e2
        refine ⟨_, rfl, _, rfl, (by omega), (by omega), ?_⟩
        rw [show ((m : Nat) : Int).toNat = m by omega]
        refine for_range (lo := 0) (n := m) (fun i σ H' => ∃ (os : List Nat) (v4 : Option V), σ = [some (.int c), some (nV m), some (.ref p), some (.ref o), v4] ∧ Same H H' ∧ H' p = some (.lst (ds.map nV)) ∧ H' o = some (.lst (os.map nV)) ∧ os.length = i ∧ ∀ x ∈ os, x < m)
          ⟨[], _, rfl, s2.new no, e2', upd_same, rfl, fun x hx => by cases hx⟩ ?_ ?_
        · rintro i σ H' hi ⟨os, v4, rfl, s3, ep, eo, ol, ob⟩
          have hdi : ∃ d, ds[i]? = some d ∧ d < i + 1 := by
            obtain ⟨d, hd, hlt⟩ := P_left dr (i := i) (y := i + 1) (by rw [List.getElem?_map, List.getElem?_range hi]; rfl)
            exact ⟨d, hd, hlt⟩
          obtain ⟨d, hd, hlt⟩ := hdi
          rw [show (0 : Int) + (i : Int) = (i : Int) by omega]
          refine ⟨_, rfl, .inl ⟨rfl, _, SqL.of eo⟩, _, rfl, _, rfl, p, _, _, _, rfl, rfl, SqL.of ep, at_n (getn hd), _, rfl, o, _, _, _, rfl, rfl, eo, ?_, ?_, ?_, ?_⟩
          · rw [List.length_map]
            exact szl (by omega)
          · omega
          · omega
          · refine ⟨os.take d ++ [i] ++ os.drop d, _, rfl, s3.mut hon, ?_, ?_, ?_, ?_⟩
            · rw [upd_ne hpo]
              exact ep
            · rw [upd_same, show ((d : Nat) : Int).toNat = d by omega]
              simp only [List.map_append, List.map_take, List.map_drop, List.map_cons, List.map_nil]
            · rw [List.length_append, List.length_append, List.length_take, List.length_drop, List.length_singleton]
              omega
            · intro x hx
              rcases List.mem_append.mp hx with h1 | h1
              · rcases List.mem_append.mp h1 with h2 | h2
                · exact ob x (List.mem_of_mem_take h2)
                · rw [List.mem_singleton.mp h2]
                  exact hi
              · exact ob x (List.mem_of_mem_drop h1)
        · rintro σ H' ⟨os, v4, rfl, s3, ep, eo, ol, ob⟩
          exact ⟨_, rfl, q o os H' s3 hon eo ol ob⟩
/-! ### any pairs -/
def sp_any (K : PySem.W.Frag) : Sp := fun vs H Q _ => ∃ (c : Int) (m n : Nat) (l : Bool), vs = [.int c, nV m, nV n, .bl l] ∧ m ≤ 100 ∧ n ≤ 200 ∧ (n = 0 ∨ 0 < m) ∧
  ∀ p us ps H', Same H H' → H p = none → H' p = some (.lst us) → Prs K H' us ps → Within m ps → ps.length ≤ n → Q (.ref p) H'
theorem ok_any {f f1 : Addr} {fd fd1 : FuncData} (F : Fun K "_law_any_pairs" "_law_any_pairs" s_law_any_pairs f fd) (T : Txt mg) (C_law_draws : Cal P w K mg base 1 "_law_draws" ["cell", "sizes"] (sp_draws K) f1 fd1) : FnOk P w K mg base CX0 2 f fd ["cell", "many", "count", "loops"] (sp_any K) := by
  refine F.ok sc_law_any_pairs (fun vs H Q E h => ?_) (fun cdv A outer s H vs Q E hr h => ?_)
  · obtain ⟨c, m, n, l, rfl, _⟩ := h
    rfl
  · obtain ⟨c, m, n, l, rfl, hm, hn, h0, q⟩ := h
    refine ⟨_, (pss_cons (ps_set (i := 4) sc_law_any_pairs.nd rfl (.inl rfl) (pe_lst pa_nil))
 (pss_cons (ps_for PassesOwn.never rfl (pi_range1 rfl T.range (pa_cons (pv 2) pa_nil)) (pg_name (i := 5) sc_law_any_pairs.nd rfl (.inl rfl))
 (pss_one (ps_expr (pe_bm PySem.F.plainAttrs_list PySem.F.slot_list_extend PySem.F.type_list_extend mt_extend (pv 4) (pa_cons (pe_lst (pa_cons (pv 1) (pa_cons (pv 1) pa_nil))) pa_nil)))))
 (pss_cons (ps_set (i := 6) sc_law_any_pairs.nd rfl (.inl rfl) (pe_call C_law_draws.ok (hr.mono (by decide)) (by rfl) C_law_draws.mg C_law_draws.kp C_law_draws.b .nil pass0 (pa_cons (pv 0) (pa_cons (pv 4) pa_nil))))
 (pss_cons (ps_set (i := 7) sc_law_any_pairs.nd rfl (.inl rfl) (pe_lst pa_nil))
 (pss_cons (ps_for PassesOwn.never rfl (pi_range1 rfl T.range (pa_cons (pv 2) pa_nil)) (pg_name (i := 5) sc_law_any_pairs.nd rfl (.inl rfl))
 (pss_cons (ps_set (i := 8) sc_law_any_pairs.nd rfl (.inl rfl) (pe_ix ix_list (pv 6) (pe_op op_mul pe_int (pv 5)) (fun _ _ => rfl)))
 (pss_cons (ps_set (i := 9) sc_law_any_pairs.nd rfl (.inl rfl) (pe_ix ix_list (pv 6) (pe_op op_add (pe_op op_mul pe_int (pv 5)) pe_int) (fun _ _ => rfl)))
 (pss_one (ps_if (PW.pt (pw_or (pt_cmpR op_ne (pv 8) (pv 9) (nomark _)) (pw_or1 (pt_val (pv 3)))))
 (pss_one (ps_expr (pe_bm PySem.F.plainAttrs_list PySem.F.slot_list_append PySem.F.type_list_append mt_append (pv 7) (pa_cons (pe_tup (pa_cons (pv 8) (pa_cons (pv 9) pa_nil))) pa_nil))))
 pss_nil)))))
 (pss_one (ps_ret (pv 7)))))))), ?_⟩
    refine ⟨Nat.zero_le _, fun z nz => ?_⟩
    refine ⟨_, rfl, _, rfl, (by omega), (by omega), ?_⟩
    rw [show ((n : Nat) : Int).toNat = n by omega]
    refine for_range (lo := 0) (n := n) (fun i σ H' => ∃ (v5 : Option V), σ = [some (.int c), some (nV m), some (nV n), some (.bl l), some (.ref z), v5, none, none, none, none] ∧ Same H H' ∧ H' z = some (.lst ((List.replicate (2 * i) m).map nV)))
      ⟨_, rfl, (Same.refl H).new nz, upd_same⟩ ?_ ?_
    · rintro i σ H' hi ⟨v5, rfl, sm, e⟩
      refine ⟨_, rfl, .inl ⟨rfl, _, SqL.of e⟩, _, rfl, _, rfl, sp2, fun t nt => ?_⟩
      have ezt : z ≠ t := ne_of_none e nt
      refine ⟨z, t, _, _, rfl, rfl, (by rw [upd_ne ezt]; exact e), upd_same, ?_, ?_⟩
      · rw [List.length_map, List.length_replicate]
        exact szle (by show 2 * i + 2 ≤ 10000; omega)
      · refine ⟨_, rfl, (sm.new nt).mut nz, ?_⟩
        rw [upd_same, show 2 * (i + 1) = 2 * i + 2 by omega, ← List.replicate_append_replicate, List.map_append]
        rfl
    · rintro σ H1 ⟨v5, rfl, sm, e⟩
      refine ⟨_, rfl, _, rfl, z, c, List.replicate (2 * n) m, rfl, SqL.of e, ?_, ?_, fun p ds H2 sm2 np e2 dr => ?_⟩
      · rw [List.length_replicate]
        omega
      · intro y hy
        have := List.eq_of_mem_replicate hy
        rcases h0 with h0 | h0
        · rw [h0] at hy
          cases hy
        · omega
      · refine ⟨Nat.zero_le _, fun o no => ?_⟩
        have s2 : Same H H2 := sm.trans sm2
        have hpo : p ≠ o := ne_of_none e2 no
        have hon : H o = none := s2.free no
        have e2' : (upd H2 o (.lst [])) p = some (.lst (ds.map nV)) := by rw [upd_ne hpo]; exact e2
        refine ⟨_, rfl, _, rfl, (by omega), (by omega), ?_⟩
        rw [show ((n : Nat) : Int).toNat = n by omega]
        refine for_range (lo := 0) (n := n) (fun i σ H' => ∃ (us : List V) (ps : PL) (v5 v8 v9 : Option V), σ = [some (.int c), some (nV m), some (nV n), some (.bl l), some (.ref z), v5, some (.ref p), some (.ref o), v8, v9] ∧ Same H H' ∧ H' p = some (.lst (ds.map nV)) ∧ H' o = some (.lst us) ∧ Prs K H' us ps ∧ Within m ps ∧ ps.length ≤ i)
          ⟨[], [], _, _, _, rfl, s2.new no, e2', upd_same, .nil, within_nil, Nat.le_refl _⟩ ?_ ?_
        · rintro i σ H' hi ⟨us, ps, v5, v8, v9, rfl, s3, ep, eo, pr, wi, pl⟩
          obtain ⟨a, ha, hlta⟩ := P_left dr (i := 2 * i) (y := m) (by rw [List.getElem?_replicate]; rw [if_pos (by omega)])
          obtain ⟨b, hb, hltb⟩ := P_left dr (i := 2 * i + 1) (y := m) (by rw [List.getElem?_replicate]; rw [if_pos (by omega)])
          have hA : SqL K H' p (ds.map nV) := SqL.of ep
          rw [show (0 : Int) + (i : Int) = (i : Int) by omega]
          refine ⟨_, rfl, _, rfl, _, _, rfl, rfl, .inl ⟨by decide, by decide⟩, p, _, _, nV a, rfl, rfl, hA, at_n (j := 2 * i) (getn ha), ?_⟩
          refine ⟨_, rfl, _, rfl, _, _, rfl, rfl, .inl ⟨by decide, by decide⟩, _, _, rfl, rfl, p, _, _, nV b, rfl, rfl, hA, at_n (j := 2 * i + 1) (getn hb), ?_⟩
          refine ⟨_, rfl, _, rfl, rfl, _, rfl, ite2 (fun _ => iteT ?A) (fun _ => ⟨_, rfl, _, rfl, ite2 (fun _ => ?B) (fun _ => ?C)⟩)⟩
          case C => exact ⟨us, ps, _, _, _, rfl, s3, ep, eo, pr, wi, by omega⟩
          all_goals
            refine ⟨_, rfl, .inl ⟨rfl, _, SqL.of eo⟩, _, rfl, _, rfl, sp2, fun t nt => ?_⟩
            have eot : o ≠ t := ne_of_none eo nt
            have ept : p ≠ t := ne_of_none ep nt
            refine ⟨o, _, _, rfl, rfl, (by rw [upd_ne eot]; exact eo), ?_, ?_⟩
            · rw [pr.len]
              exact szl (by omega)
            · refine ⟨us ++ [V.ref t], ps ++ [(a, b)], _, _, _, rfl, (s3.new nt).mut hon, ?_, upd_same, ?_, within_snoc wi hlta hltb, ?_⟩
              · rw [upd_ne hpo, upd_ne ept]
                exact ep
              · exact ((pr.new nt).snoc (SqT.of upd_same)).mutL (us := us) (by rw [upd_ne eot]; exact eo)
              · rw [List.length_append, List.length_singleton]
                omega
        · rintro σ H' ⟨us, ps, v5, v8, v9, rfl, s3, ep, eo, pr, wi, pl⟩
          exact ⟨_, rfl, q o us ps H' s3 hon eo pr wi pl⟩
end
end K02W

namespace K02W
open PySem PySem.Spec PyProof.Rows L2 K02 KH
section
variable {P : Program} {w : World} {K : PySem.W.Frag} {mg : Str → Option Value} {base : Heap}
/-! ### pairs along an order -/
def sp_forward (K : PySem.W.Frag) : Sp := fun vs H Q _ => ∃ (c : Int) (a : Addr) (os : List Nat) (m n b : Nat), vs = [.int c, .ref a, nV n, nV b] ∧ SqL K H a (os.map nV) ∧ os.length ≤ 100 ∧ (∀ x ∈ os, x < m) ∧ n ≤ 200 ∧ (n = 0 ∨ 0 < os.length) ∧
  ∀ p us ps H', Same H H' → H p = none → H' p = some (.lst us) → Prs K H' us ps → Within m ps → ps.length ≤ n → Q (.ref p) H'
theorem ok_forward {f f1 : Addr} {fd fd1 : FuncData} (F : Fun K "_law_forward" "_law_forward" s_law_forward f fd) (T : Txt mg) (C_law_any_pairs : Cal P w K mg base 2 "_law_any_pairs" ["cell", "many", "count", "loops"] (sp_any K) f1 fd1) : FnOk P w K mg base CX0 3 f fd ["cell", "order", "count", "backward"] (sp_forward K) := by
  refine F.ok sc_law_forward (fun vs H Q E h => ?_) (fun cdv A outer s H vs Q E hr h => ?_)
  · obtain ⟨c, a, os, m, n, b, rfl, _⟩ := h
    rfl
  · obtain ⟨c, a, os, m, n, b, rfl, hO, hl, hb, hn, h0, q⟩ := h
    refine ⟨_, (pss_cons (ps_set (i := 4) sc_law_forward.nd rfl (.inl rfl) (pe_lst pa_nil))
 (pss_cons (ps_for PassesOwn.never rfl (pi_list (pe_call C_law_any_pairs.ok (hr.mono (by decide)) (by rfl) C_law_any_pairs.mg C_law_any_pairs.kp C_law_any_pairs.b .nil pass0 (pa_cons (pv 0) (pa_cons (pe_callB call_len_seq (by rfl) T.len (by decide +kernel) (pa_cons (pv 1) pa_nil)) (pa_cons (pv 2) (pa_cons pe_bl pa_nil)))))) (pg_tup rfl (pgs_cons (pg_name (i := 5) sc_law_forward.nd rfl (.inl rfl)) (pgs_cons (pg_name (i := 6) sc_law_forward.nd rfl (.inl rfl)) pgs_nil)))
 (pss_cons (ps_set (i := 7) sc_law_forward.nd rfl (.inl rfl) (pe_ix ix_list (pv 1) (pe_callB (call_min2 rfl) (by rfl) T.min (by decide +kernel) (pa_cons (pv 5) (pa_cons (pv 6) pa_nil))) (fun _ _ => rfl)))
 (pss_cons (ps_set (i := 8) sc_law_forward.nd rfl (.inl rfl) (pe_ix ix_list (pv 1) (pe_callB (call_max2 rfl) (by rfl) T.max (by decide +kernel) (pa_cons (pv 5) (pa_cons (pv 6) pa_nil))) (fun _ _ => rfl)))
 (pss_one (ps_if (pt_cmpR op_lt (pe_callB call_len_seq (by rfl) T.len (by decide +kernel) (pa_cons (pv 4) pa_nil)) (pv 3) (nomark _))
 (pss_one (ps_expr (pe_bm PySem.F.plainAttrs_list PySem.F.slot_list_append PySem.F.type_list_append mt_append (pv 4) (pa_cons (pe_tup (pa_cons (pv 8) (pa_cons (pv 7) pa_nil))) pa_nil))))
 (pss_one (ps_expr (pe_bm PySem.F.plainAttrs_list PySem.F.slot_list_append PySem.F.type_list_append mt_append (pv 4) (pa_cons (pe_tup (pa_cons (pv 7) (pa_cons (pv 8) pa_nil))) pa_nil)))))))))
 (pss_one (ps_ret (pv 4))))), ?_⟩
    refine ⟨Nat.zero_le _, fun o no => ?_⟩
    have s0 : Same H (upd H o (.lst [])) := (Same.refl H).new no
    refine ⟨_, rfl, _, rfl, a, _, rfl, .inl (s0.seq hO), _, rfl, ?_⟩
    refine ⟨c, os.length, n, false, by rw [List.length_map]; rfl, hl, hn, h0, fun p us ps H1 s1 np e1 pr wi pl => ?_⟩
    have hpo : p ≠ o := fun z => by rw [z, upd_same] at np; cases np
    have e0 : H1 o = some (.lst []) := s1 _ _ upd_same
    have s2 : Same H H1 := s0.trans s1
    refine ⟨p, rfl, ⟨_, SqL.of e1⟩, for_list (K := K) (a := p) (xs := us) (fun i σ H' => ∃ (ws : List V) (qs : PL) (v5 v6 v7 v8 : Option V), σ = [some (.int c), some (.ref a), some (nV n), some (nV b), some (.ref o), v5, v6, v7, v8] ∧ Same H H' ∧ H' p = some (.lst us) ∧ Prs K H' us ps ∧ H' o = some (.lst ws) ∧ Prs K H' ws qs ∧ Within m qs ∧ qs.length ≤ i)
      ⟨[], [], _, _, _, _, rfl, s2, e1, pr, e0, .nil, within_nil, Nat.le_refl _⟩ (fun i σ H' _ ⟨_, _, _, _, _, _, _, _, e, _⟩ => SqL.of e) ?_ ?_⟩
    · rintro i y σ H' hi ⟨ws, qs, v5, v6, v7, v8, rfl, s3, ep, pr3, eo, pq, wq, ql⟩
      obtain ⟨⟨x1, x2⟩, hx, t, rfl, ht⟩ := P_right pr3 hi
      obtain ⟨w1, w2⟩ := wi _ (List.mem_of_getElem? hx)
      have hA := s3.seq hO
      have hlt := lt_get hi
      have hul : us.length ≤ 200 := by rw [P_len pr3]; omega
      have mn : ∃ lo, (if (x2 : Int) < (x1 : Int) then (x2 : Int) else (x1 : Int)) = ((lo : Nat) : Int) ∧ lo < os.length := by
        by_cases c : (x2 : Int) < (x1 : Int)
        · exact ⟨x2, if_pos c, w2⟩
        · exact ⟨x1, if_neg c, w1⟩
      have mx : ∃ hi, (if (x2 : Int) > (x1 : Int) then (x2 : Int) else (x1 : Int)) = ((hi : Nat) : Int) ∧ hi < os.length := by
        by_cases c : (x2 : Int) > (x1 : Int)
        · exact ⟨x2, if_pos c, w2⟩
        · exact ⟨x1, if_neg c, w1⟩
      obtain ⟨lo, elo, hlo⟩ := mn
      obtain ⟨hg, ehg, hhg⟩ := mx
      obtain ⟨l, hl1⟩ := get_lt hlo
      obtain ⟨h, hh1⟩ := get_lt hhg
      have bl := hb l (List.mem_of_getElem? hl1)
      have bh := hb h (List.mem_of_getElem? hh1)
      -- one, two = the pair; low = order[min(one, two)]; high = order[max(one, two)]
      refine ⟨t, _, rfl, ht, rfl, _, _, rfl, _, _, rfl, rfl, ?_⟩
      refine ⟨_, rfl, _, rfl, _, rfl, _, _, rfl, a, _, _, nV l, rfl, rfl, hA, ?_, ?_⟩
      · show atI _ (if (x2 : Int) < (x1 : Int) then (x2 : Int) else (x1 : Int)) = _
        rw [elo]
        exact at_n (getn hl1)
      refine ⟨_, rfl, _, rfl, _, rfl, _, _, rfl, a, _, _, nV h, rfl, rfl, hA, ?_, ?_⟩
      · show atI _ (if (x2 : Int) > (x1 : Int) then (x2 : Int) else (x1 : Int)) = _
        rw [ehg]
        exact at_n (getn hh1)
      have hsz : ws.length < sizeLine := by rw [pq.len]; exact szl (by omega)
      refine ⟨_, rfl, o, _, rfl, .inl (SqL.of eo), _, rfl, _, _, rfl, rfl, _, rfl, ite2 (fun _ => ?_) (fun _ => ?_)⟩
      all_goals
        refine ⟨_, rfl, .inl ⟨rfl, _, SqL.of eo⟩, _, rfl, _, rfl, sp2, fun t nt => ?_⟩
        have eot : o ≠ t := ne_of_none eo nt
        have ept : p ≠ t := ne_of_none ep nt
        have eo' : ∀ z, (upd H' t z) o = some (.lst ws) := fun z => by rw [upd_ne eot]; exact eo
        refine ⟨o, _, _, rfl, rfl, eo' _, hsz, ?_⟩
        refine ⟨ws ++ [V.ref t], _, _, _, _, _, rfl, (s3.new nt).mut no, ?_, (pr3.new nt).mutL (eo' _), upd_same, ((pq.new nt).snoc (SqT.of upd_same)).mutL (eo' _), within_snoc wq (by assumption) (by assumption), ?_⟩
        · rw [upd_ne hpo, upd_ne ept]
          exact ep
        · rw [List.length_append, List.length_singleton]
          omega
    · rintro σ H' ⟨ws, qs, v5, v6, v7, v8, rfl, s3, ep, pr3, eo, pq, wq, ql⟩
      refine ⟨_, rfl, q o ws qs H' s3 no eo pq wq ?_⟩
      have := P_len pr3
      omega
/-! ### the pairs of a script -/
def sp_pairs (K : PySem.W.Frag) : Sp := fun vs H Q _ => ∃ (a b : Addr) (ns : List Int) (m : Nat) (ss : List Nat), vs = [.ref a, nV m, .ref b] ∧ SqL K H a (ns.map V.int) ∧ ns.length ≤ 63 ∧ m ≤ 41 ∧ SqL K H b (ss.map nV) ∧ Drawn ss [8, 7, 13, 4, 11, 3, 2, 2] ∧
  ∀ p us ps H', Same H H' → H p = none → H' p = some (.lst us) → Prs K H' us ps → Within m ps → ps.length ≤ 200 → Q (.ref p) H'
theorem ok_pairs {f f1 f2 f3 f4 : Addr} {fd fd1 fd2 fd3 fd4 : FuncData} (F : Fun K "_law_pairs" "_law_pairs" s_law_pairs f fd) (T : Txt mg) (C_law_cell : Cal P w K mg base 1 "_law_cell" ["script", "k"] (sp_cell K) f1 fd1)
    (C_law_permuted : Cal P w K mg base 2 "_law_permuted" ["cell", "many"] sp_permuted f2 fd2) (C_law_any_pairs : Cal P w K mg base 2 "_law_any_pairs" ["cell", "many", "count", "loops"] (sp_any K) f3 fd3)
    (C_law_forward : Cal P w K mg base 3 "_law_forward" ["cell", "order", "count", "backward"] (sp_forward K) f4 fd4) : FnOk P w K mg base CX0 4 f fd ["script", "many", "shape"] (sp_pairs K) := by
  refine F.ok sc_law_pairs (fun vs H Q E h => ?_) (fun cdv A outer s H vs Q E hr h => ?_)
  · obtain ⟨a, b, ns, m, ss, rfl, _⟩ := h
    rfl
  · obtain ⟨a, b, ns, m, ss, rfl, hS, hn, hm, hB, dr, q⟩ := h
    obtain ⟨s0, s1, s2, s3, s4, s5, s6, s7, rfl, b0, b1, b2, b3, b4, b5, b6, b7⟩ : ∃ s0 s1 s2 s3 s4 s5 s6 s7, ss = [s0, s1, s2, s3, s4, s5, s6, s7] ∧ s0 < 8 ∧ s1 < 7 ∧ s2 < 13 ∧ s3 < 4 ∧ s4 < 11 ∧ s5 < 3 ∧ s6 < 2 ∧ s7 < 2 := by
      cases dr with | cons h0 dr => cases dr with | cons h1 dr => cases dr with | cons h2 dr => cases dr with | cons h3 dr => cases dr with | cons h4 dr => cases dr with | cons h5 dr => cases dr with | cons h6 dr => cases dr with | cons h7 dr => cases dr with | nil => exact ⟨_, _, _, _, _, _, _, _, rfl, h0, h1, h2, h3, h4, h5, h6, h7⟩
    refine ⟨_, (pss_cons (ps_set (i := 3) sc_law_pairs.nd rfl (.inr rfl) (pe_call C_law_permuted.ok (hr.mono (by decide)) (by rfl) C_law_permuted.mg C_law_permuted.kp C_law_permuted.b .nil pass0 (pa_cons (pe_call C_law_cell.ok (hr.mono (by decide)) (by rfl) C_law_cell.mg C_law_cell.kp C_law_cell.b .nil pass0 (pa_cons (pv 0) (pa_cons pe_int pa_nil))) (pa_cons (pv 1) pa_nil))))
 (pss_cons (ps_setLc (i := 4) (own := [("k", 7)]) (g := gName 7) (tt := tYes) rfl sc_law_pairs.nd rfl rfl (sw_true rfl rfl rfl (by decide +kernel)) (pi_range1 rfl T.range (pa_cons (pe_op op_sub (pv 1) pe_int) pa_nil)) (blkOk_by (N := ["script", "many", "shape", "order", "line", "count", "pairs", "k"]) (sc := defScope s_law_pairs) (by decide +kernel)) (fun _ _ _ _ _ => (pg_name (i := 7) sc_law_pairs.nd rfl (.inl rfl))) (fun _ _ _ _ _ => pts_nil) (fun _ _ _ _ _ => (pe_tup (pa_cons (pe_ix (r := rIxL K) ix_list (pv 3) (pv 7) (fun _ _ => rfl)) (pa_cons (pe_ix (r := rIxL K) ix_list (pv 3) (pe_op op_add (pv 7) pe_int) (fun _ _ => rfl)) pa_nil)))))
 (pss_cons (ps_if (pt_cmpR op_gt (pv 1) pe_int (nomark _))
 (pss_cons (ps_set (i := 5) sc_law_pairs.nd rfl (.inl rfl) (pe_ix ix_list (pe_lst (pa_cons pe_int (pa_cons pe_int (pa_cons pe_int (pa_cons pe_int pa_nil))))) (pe_ix ix_list (pv 2) pe_int (fun _ _ => rfl)) (fun _ _ => rfl)))
 (pss_one (ps_ret (pe_op op_cat (pe_call C_law_forward.ok (hr.mono (by decide)) (by rfl) C_law_forward.mg C_law_forward.kp C_law_forward.b .nil pass0 (pa_cons (pe_call C_law_cell.ok (hr.mono (by decide)) (by rfl) C_law_cell.mg C_law_cell.kp C_law_cell.b .nil pass0 (pa_cons (pv 0) (pa_cons pe_int pa_nil))) (pa_cons (pv 3) (pa_cons (pe_op op_add (pv 5) (pe_ix ix_list (pv 2) pe_int (fun _ _ => rfl))) (pa_cons (pe_ix ix_list (pv 2) pe_int (fun _ _ => rfl)) pa_nil))))) (pv 4)))))
 pss_nil)
 (pss_cons (ps_set (i := 5) sc_law_pairs.nd rfl (.inl rfl) (pe_ix ix_list (pv 2) pe_int (fun _ _ => rfl)))
 (pss_cons (ps_if (pt_cmpR op_eq (pv 1) pe_int (nomark _))
 (pss_one (ps_set (i := 5) sc_law_pairs.nd rfl (.inl rfl) pe_int))
 pss_nil)
 (pss_cons (ps_if (pt_cmpR op_lt (pe_ix ix_list (pv 2) pe_int (fun _ _ => rfl)) pe_int (nomark _))
 (pss_one (ps_ret (pe_call C_law_any_pairs.ok (hr.mono (by decide)) (by rfl) C_law_any_pairs.mg C_law_any_pairs.kp C_law_any_pairs.b .nil pass0 (pa_cons (pe_call C_law_cell.ok (hr.mono (by decide)) (by rfl) C_law_cell.mg C_law_cell.kp C_law_cell.b .nil pass0 (pa_cons (pv 0) (pa_cons pe_int pa_nil))) (pa_cons (pv 1) (pa_cons (pv 5) (pa_cons (pe_cmpR op_eq (pe_ix ix_list (pv 2) pe_int (fun _ _ => rfl)) pe_int (nomark _)) pa_nil)))))))
 pss_nil)
 (pss_cons (ps_set (i := 6) sc_law_pairs.nd rfl (.inl rfl) (pe_call C_law_forward.ok (hr.mono (by decide)) (by rfl) C_law_forward.mg C_law_forward.kp C_law_forward.b .nil pass0 (pa_cons (pe_call C_law_cell.ok (hr.mono (by decide)) (by rfl) C_law_cell.mg C_law_cell.kp C_law_cell.b .nil pass0 (pa_cons (pv 0) (pa_cons pe_int pa_nil))) (pa_cons (pv 3) (pa_cons (pv 5) (pa_cons (pe_ix ix_list (pe_lst (pa_cons pe_int (pa_cons (pe_op op_add pe_int (pe_ix ix_list (pv 2) pe_int (fun _ _ => rfl))) pa_nil))) (pe_op op_sub (pe_ix ix_list (pv 2) pe_int (fun _ _ => rfl)) pe_int) (fun _ _ => rfl)) pa_nil))))))
 (pss_cons (ps_if (pt_cmpR op_eq (pe_ix ix_list (pv 2) pe_int (fun _ _ => rfl)) pe_int (nomark _))
 (pss_one (ps_set (i := 6) sc_law_pairs.nd rfl (.inl rfl) (pe_op op_cat (pv 6) (pv 4))))
 pss_nil)
 (pss_one (ps_ret (pv 6))))))))))), ?_⟩
    -- order
    refine ⟨_, rfl, a, ns, 1, rfl, hS, hn, by decide, fun c1 H1 sm1 => ?_⟩
    refine ⟨_, rfl, c1, m, rfl, (by omega), fun o os H2 sm2 no eo ol ob => ?_⟩
    have t2 : Same H H2 := sm1.trans sm2
    have hoH : H o = none := sm1.free no
    -- line
    refine ⟨_, rfl, _, _, rfl, rfl, _, rfl, (by omega), (by omega), fun D nD => ?_⟩
    have hDH : H D = none := t2.free nD
    rw [show ((m : Int) - 1).toNat = m - 1 by omega]
    refine lc_range (lo := 0) (n := m - 1) (fun i H' => ∃ us ps, Same H H' ∧ H' o = some (.lst (os.map nV)) ∧ H' D = some (.lst us) ∧ Prs K H' us ps ∧ Within m ps ∧ ps.length = i) ⟨[], [], t2.new nD, by rw [upd_ne (ne_of_none eo nD)]; exact eo, upd_same, .nil, within_nil, rfl⟩ ?_ ?_
    · rintro i H' hi ⟨us, ps, sm, eo', eD, pr, wi, pl⟩
      obtain ⟨x, hx⟩ := get_lt (l := os) (i := i) (by omega)
      obtain ⟨y, hy⟩ := get_lt (l := os) (i := i + 1) (by omega)
      rw [show (0 : Int) + (i : Int) = (i : Int) by omega]
      refine ⟨rfl, _, rfl, _, rfl, o, _, _, _, rfl, rfl, SqL.of eo', at_n (getn hx), _, rfl, _, rfl, _, _, rfl, rfl, o, _, _, nV y, rfl, rfl, SqL.of eo', at_n (j := i + 1) (getn hy), sp2, fun t nt => ?_⟩
      have eDt : D ≠ t := ne_of_none eD nt
      have eD' : ∀ z, (upd H' t z) D = some (.lst us) := fun z => by rw [upd_ne eDt]; exact eD
      refine ⟨us, eD' _, by rw [pr.len]; exact szl (by omega), us ++ [V.ref t], ps ++ [(x, y)], (sm.new nt).mut hDH, ?_, upd_same, ((pr.new nt).snoc (SqT.of upd_same)).mutL (eD' _), within_snoc wi (ob x (List.mem_of_getElem? hx)) (ob y (List.mem_of_getElem? hy)), ?_⟩
      · rw [upd_ne (show o ≠ D from fun z => by rw [z] at eo; rw [nD] at eo; cases eo), upd_ne (ne_of_none eo' nt)]
        exact eo'
      · rw [List.length_append, List.length_singleton, pl]
    · rintro H3 ⟨lu, lp, t3, eo3, eD, lpr, lwi, lpl⟩
      have hB3 : SqL K H3 b ([s0, s1, s2, s3, s4, s5, s6, s7].map nV) := t3.seq hB
      have hS3 := t3.seq hS
      refine ⟨_, rfl, _, _, rfl, rfl, _, rfl, ite2 (fun hbig => ?_) (fun hsm => ?_)⟩
      · have hbig' : 6 < m := by
          have := of_decide_eq_true hbig
          omega
        -- count = [0, 2, 40, 120][shape[3]]
        refine ⟨by show 4 ≤ sizeLine; decide, fun z nz => ?_⟩
        have hzH : H z = none := t3.free nz
        obtain ⟨cn, ecn, hcn⟩ : ∃ cn : Nat, ([V.int 0, V.int 2, V.int 40, V.int 120])[s3]? = some (nV cn) ∧ cn ≤ 120 := by
          have : s3 = 0 ∨ s3 = 1 ∨ s3 = 2 ∨ s3 = 3 := by omega
          rcases this with h | h | h | h <;> subst h
          · exact ⟨0, rfl, by omega⟩
          · exact ⟨2, rfl, by omega⟩
          · exact ⟨40, rfl, by omega⟩
          · exact ⟨120, rfl, by omega⟩
        have u1 : Same H3 (upd H3 z (.lst [V.int 0, V.int 2, V.int 40, V.int 120])) := (Same.refl H3).new nz
        refine ⟨_, rfl, b, _, 3, nV s3, rfl, rfl, u1.seq hB3, at_n (j := 3) rfl, z, _, _, _, rfl, rfl, SqL.of upd_same, at_n ecn, ?_⟩
        -- return _law_forward(..) + line
        refine ⟨_, rfl, a, ns, 2, rfl, u1.seq hS3, hn, by decide, fun c2 H4 sm4 => ?_⟩
        have u2 := u1.trans sm4
        refine ⟨_, rfl, _, rfl, _, rfl, b, _, 5, nV s5, rfl, rfl, u2.seq hB3, at_n (j := 5) rfl, _, _, rfl, rfl, _, rfl, b, _, 5, nV s5, rfl, rfl, u2.seq hB3, at_n (j := 5) rfl, ?_⟩
        refine ⟨c2, o, os, m, cn + s5, s5, rfl, SqL.of (u2 _ _ eo3), by omega, ob, by omega, .inr (by omega), fun p us ps H5 sm5 np e5 pr wi pl => ?_⟩
        have u3 := u2.trans sm5
        refine ⟨_, rfl, p, D, _, _, rfl, rfl, e5, u3 _ _ eD, ?_, fun r nr => ?_⟩
        · rw [pr.len, lpr.len]
          exact szle (by omega)
        · refine q r (us ++ lu) (ps ++ lp) _ ((t3.trans u3).new nr) (t3.free (u3.free nr)) upd_same ?_ (within_app wi lwi) ?_
          · exact Prs.new (P_append pr (lpr.same u3)) nr
          · rw [List.length_append]
            omega
      · have hsm' : m ≤ 6 := by
          have : ¬ ((6 : Int) < (m : Int)) := fun z => hsm (decide_eq_true z)
          omega
        refine ⟨_, rfl, b, _, 2, nV s2, rfl, rfl, hB3, at_n (j := 2) rfl, ?_⟩
        -- if many == 0: count = 0
        refine ⟨_, rfl, rfl, _, rfl, ite2 (fun hz => ?_) (fun hz => ?_)⟩
        · have hm0 : m = 0 := by
            have := V.int.inj (of_decide_eq_true hz)
            omega
          refine ⟨_, rfl, b, _, 3, nV s3, rfl, rfl, hB3, at_n (j := 3) rfl, _, _, rfl, rfl, _, rfl, ite2 (fun _ => ?_) (fun h2 => ?_)⟩
          · refine ⟨_, rfl, a, ns, 2, rfl, hS3, hn, by decide, fun c2 H4 sm4 => ?_⟩
            refine ⟨_, rfl, _, rfl, _, rfl, b, _, 3, nV s3, rfl, rfl, sm4.seq hB3, at_n (j := 3) rfl, rfl, ?_⟩
            exact ⟨c2, m, 0, _, rfl, by omega, by omega, by omega, fun p us ps H5 sm5 np e5 pr wi pl => q p us ps H5 ((t3.trans sm4).trans sm5) (t3.free (sm4.free np)) e5 pr wi (by omega)⟩
          · have h3 : 2 ≤ s3 := by
              have : ¬ ((s3 : Int) < 2) := fun z => h2 (decide_eq_true z)
              omega
            refine ⟨_, rfl, a, ns, 2, rfl, hS3, hn, by decide, fun c2 H4 sm4 => ?_⟩
            refine ⟨_, rfl, _, rfl, _, rfl, b, _, 5, nV s5, rfl, rfl, sm4.seq hB3, at_n (j := 5) rfl, _, _, rfl, rfl, sp2, fun z nz => ?_⟩
            have u1 : Same H3 (upd H4 z (.lst [V.int 0, V.int (1 + (s5 : Int))])) := sm4.new nz
            obtain ⟨bk, ebk⟩ : ∃ bk : Nat, ([V.int 0, V.int (1 + (s5 : Int))])[s3 - 2]? = some (nV bk) := by
              have : s3 = 2 ∨ s3 = 3 := by omega
              rcases this with h | h <;> subst h
              · exact ⟨0, rfl⟩
              · exact ⟨1 + s5, by show some (V.int (1 + (s5 : Int))) = some (nV (1 + s5)); rw [show nV (1 + s5) = V.int (1 + (s5 : Int)) by simp [nV]]⟩
            refine ⟨_, rfl, b, _, 3, nV s3, rfl, rfl, u1.seq hB3, at_n (j := 3) rfl, _, _, rfl, rfl, z, _, _, nV bk, rfl, rfl, SqL.of upd_same, (by dsimp only; rw [show (s3 : Int) - 2 = ((s3 - 2 : Nat) : Int) by omega]; exact at_n ebk), ?_⟩
            refine ⟨c2, o, os, m, 0, bk, rfl, SqL.of (u1 _ _ eo3), by omega, ob, by omega, by omega, fun p us ps H5 sm5 np e5 pr wi pl => ?_⟩
            have u2 := u1.trans sm5
            refine ⟨_, rfl, b, _, 6, nV s6, rfl, rfl, u2.seq hB3, at_n (j := 6) rfl, rfl, _, rfl, ite2 (fun _ => ?_) (fun _ => ?_)⟩
            · refine ⟨_, rfl, _, rfl, p, D, _, _, rfl, rfl, e5, u2 _ _ eD, ?_, fun r nr => ?_⟩
              · rw [pr.len, lpr.len]
                exact szle (by omega)
              · refine ⟨_, rfl, q r (us ++ lu) (ps ++ lp) _ ((t3.trans u2).new nr) (t3.free (u2.free nr)) upd_same ?_ (within_app wi lwi) ?_⟩
                · exact Prs.new (P_append pr (lpr.same u2)) nr
                · rw [List.length_append]
                  omega
            · exact ⟨_, rfl, q p us ps _ (t3.trans u2) (t3.free (u1.free np)) e5 pr wi (by omega)⟩
        · have hm0 : m ≠ 0 := fun z => hz (decide_eq_true (by rw [z]; rfl))
          refine ⟨_, rfl, b, _, 3, nV s3, rfl, rfl, hB3, at_n (j := 3) rfl, _, _, rfl, rfl, _, rfl, ite2 (fun _ => ?_) (fun h2 => ?_)⟩
          · refine ⟨_, rfl, a, ns, 2, rfl, hS3, hn, by decide, fun c2 H4 sm4 => ?_⟩
            refine ⟨_, rfl, _, rfl, _, rfl, b, _, 3, nV s3, rfl, rfl, sm4.seq hB3, at_n (j := 3) rfl, rfl, ?_⟩
            exact ⟨c2, m, s2, _, rfl, by omega, by omega, by omega, fun p us ps H5 sm5 np e5 pr wi pl => q p us ps H5 ((t3.trans sm4).trans sm5) (t3.free (sm4.free np)) e5 pr wi (by omega)⟩
          · have h3 : 2 ≤ s3 := by
              have : ¬ ((s3 : Int) < 2) := fun z => h2 (decide_eq_true z)
              omega
            refine ⟨_, rfl, a, ns, 2, rfl, hS3, hn, by decide, fun c2 H4 sm4 => ?_⟩
            refine ⟨_, rfl, _, rfl, _, rfl, b, _, 5, nV s5, rfl, rfl, sm4.seq hB3, at_n (j := 5) rfl, _, _, rfl, rfl, sp2, fun z nz => ?_⟩
            have u1 : Same H3 (upd H4 z (.lst [V.int 0, V.int (1 + (s5 : Int))])) := sm4.new nz
            obtain ⟨bk, ebk⟩ : ∃ bk : Nat, ([V.int 0, V.int (1 + (s5 : Int))])[s3 - 2]? = some (nV bk) := by
              have : s3 = 2 ∨ s3 = 3 := by omega
              rcases this with h | h <;> subst h
              · exact ⟨0, rfl⟩
              · exact ⟨1 + s5, by show some (V.int (1 + (s5 : Int))) = some (nV (1 + s5)); rw [show nV (1 + s5) = V.int (1 + (s5 : Int)) by simp [nV]]⟩
            refine ⟨_, rfl, b, _, 3, nV s3, rfl, rfl, u1.seq hB3, at_n (j := 3) rfl, _, _, rfl, rfl, z, _, _, nV bk, rfl, rfl, SqL.of upd_same, (by dsimp only; rw [show (s3 : Int) - 2 = ((s3 - 2 : Nat) : Int) by omega]; exact at_n ebk), ?_⟩
            refine ⟨c2, o, os, m, s2, bk, rfl, SqL.of (u1 _ _ eo3), by omega, ob, by omega, by omega, fun p us ps H5 sm5 np e5 pr wi pl => ?_⟩
            have u2 := u1.trans sm5
            refine ⟨_, rfl, b, _, 6, nV s6, rfl, rfl, u2.seq hB3, at_n (j := 6) rfl, rfl, _, rfl, ite2 (fun _ => ?_) (fun _ => ?_)⟩
            · refine ⟨_, rfl, _, rfl, p, D, _, _, rfl, rfl, e5, u2 _ _ eD, ?_, fun r nr => ?_⟩
              · rw [pr.len, lpr.len]
                exact szle (by omega)
              · refine ⟨_, rfl, q r (us ++ lu) (ps ++ lp) _ ((t3.trans u2).new nr) (t3.free (u2.free nr)) upd_same ?_ (within_app wi lwi) ?_⟩
                · exact Prs.new (P_append pr (lpr.same u2)) nr
                · rw [List.length_append]
                  omega
            · exact ⟨_, rfl, q p us ps _ (t3.trans u2) (t3.free (u1.free np)) e5 pr wi (by omega)⟩
end
end K02W

namespace K02W
open PySem PySem.Spec PyProof.Rows L2 K02 KH
abbrev s_all_in : Stmt := topS 2
theorem sc_all_in : FnScope ["places", "taken", "place"] ["places", "taken"] (defScope s_all_in) := ⟨rfl, rfl, rfl, by decide +kernel, rfl, by decide +kernel, by decide +kernel⟩

abbrev scanonical_order : Stmt := topS 1
theorem sccanonical_order : FnScope ["many", "pairs", "befores", "before", "after", "taken", "_", "free", "place"] ["many", "pairs"] (defScope scanonical_order) := ⟨rfl, rfl, rfl, by decide +kernel, rfl, by decide +kernel, by decide +kernel⟩

abbrev s_law_order : Stmt := topS 13
theorem sc_law_order : FnScope ["many", "pairs", "befores", "one", "two", "order", "taken", "k", "place", "before"] ["many", "pairs"] (defScope s_law_order) := ⟨rfl, rfl, rfl, by decide +kernel, rfl, by decide +kernel, by decide +kernel⟩

section
variable {P : Program} {w : World} {K : PySem.W.Frag} {mg : Str → Option Value} {base : Heap}
/-! ### are all taken? -/
def sp_allin (K : PySem.W.Frag) : Sp := fun vs H Q _ => ∃ (a d : Addr) (l t : List Nat), vs = [.ref a, .ref d] ∧ SqL K H a (l.map nV) ∧ l.length ≤ 1000 ∧ H d = some (.dK (dkN V.bl (tk t))) ∧ ∀ H', Same H H' → Q (.bl (l.all fun x => t.contains x)) H'
theorem ok_allin {f : Addr} {fd : FuncData} (F : Fun K "_all_in" "_all_in" s_all_in f fd) (T : Txt mg) : FnOk P w K mg base CX0 1 f fd ["places", "taken"] (sp_allin K) := by
  refine F.ok sc_all_in (fun vs H Q E h => ?_) (fun cdv A outer s H vs Q E hr h => ?_)
  · obtain ⟨a, d, l, t, rfl, _⟩ := h
    rfl
  · obtain ⟨a, d, l, t, rfl, hL, hl, hd, q⟩ := h
    refine ⟨_, (pss_one (ps_ret (pe_callB (cr_all rfl) (by rfl) T.all (by decide +kernel) (pa_cons (pe_lc (own := [("place", 2)]) (g := gName 2) (tt := tYes) rfl sc_all_in.nd (pi_list (pv 0)) (blkOk_by (N := ["places", "taken", "place"]) (sc := defScope s_all_in) (by decide +kernel)) (fun _ _ _ _ _ => (pg_name (i := 2) sc_all_in.nd rfl (.inl rfl))) (fun _ _ _ _ _ => pts_nil) (fun _ _ _ _ _ => (pe_cmp (pc_din (hu_of hr) (pv 2) (pv 1)) rfl))) pa_nil)))), ?_⟩
    refine ⟨_, rfl, a, rfl, ⟨_, hL⟩, fun D nD => ?_⟩
    refine lc_list (K := K) (a := a) (xs := l.map nV) (fun i H' => Same H H' ∧ H' D = some (.lst (((l.take i).map fun x => t.contains x).map V.bl))) ⟨(Same.refl H).new nD, upd_same⟩ (fun i H' _ ⟨sm, _⟩ => sm.seq hL) ?_ ?_
    · rintro i y H' hi ⟨sm, e⟩
      obtain ⟨x, hx, rfl⟩ := getn_inv hi
      refine ⟨rfl, _, rfl, _, rfl, d, _, rfl, dget_n (sm _ _ hd), _, e, ?_, sm.mut nD, ?_⟩
      · rw [List.length_map, List.length_map]
        exact szl (Nat.le_trans (List.length_take_le' _ _) (by omega))
      · rw [upd_same, take_more hx, List.map_append, List.map_append, tk_some]
        rfl
    · rintro H' ⟨sm, e⟩
      rw [List.length_map, List.take_length] at e
      refine ⟨D, _, rfl, SqL.of e, ?_⟩
      rw [List.all_map]
      exact q H' sm
/-! ### the canonical order, by the program -/
def sp_order (K : PySem.W.Frag) : Sp := fun vs H Q _ => ∃ (a : Addr) (m : Nat) (us : List V) (ps : PL), vs = [nV m, .ref a] ∧ Sq K H a us ∧ Prs K H us ps ∧ Within m ps ∧ m ≤ 100 ∧ ps.length ≤ 1000 ∧ ∀ v H', Same H H' → OutL H H' v (orderOf m ps) → Q v H'
theorem ok_order {f f1 : Addr} {fd fd1 : FuncData} (F : Fun K "canonical_order" "canonical_order" scanonical_order f fd) (T : Txt mg) (C_all_in : Cal P w K mg base 1 "_all_in" ["places", "taken"] (sp_allin K) f1 fd1) : FnOk P w K mg base CX0 2 f fd ["many", "pairs"] (sp_order K) := by
  refine F.ok sccanonical_order (fun vs H Q E h => ?_) (fun cdv A outer s H vs Q E hr h => ?_)
  · obtain ⟨a, m, us, ps, rfl, _⟩ := h
    rfl
  · obtain ⟨a, m, us, ps, rfl, hA, hP, hW, hm, hps, q⟩ := h
    refine ⟨_, (pss_cons (ps_set (i := 2) sccanonical_order.nd rfl (.inr rfl) (pe_lc (own := [("_", 6)]) (g := gName 6) (tt := tYes) rfl sccanonical_order.nd (pi_range1 rfl T.range (pa_cons (pv 0) pa_nil)) (blkOk_by (N := ["many", "pairs", "befores", "before", "after", "taken", "_", "free", "place"]) (sc := defScope scanonical_order) (by decide +kernel)) (fun _ _ _ _ _ => (pg_name (i := 6) sccanonical_order.nd rfl (.inl rfl))) (fun _ _ _ _ _ => pts_nil) (fun _ _ _ _ _ => (pe_lst pa_nil))))
 (pss_cons (ps_for PassesOwn.never rfl (pi_seq (pv 1)) (pg_tup rfl (pgs_cons (pg_name (i := 3) sccanonical_order.nd rfl (.inl rfl)) (pgs_cons (pg_name (i := 4) sccanonical_order.nd rfl (.inl rfl)) pgs_nil)))
 (pss_one (ps_expr (pe_bm PySem.F.plainAttrs_list PySem.F.slot_list_append PySem.F.type_list_append mt_append (pe_ix ix_list (pv 2) (pv 4) (fun _ _ => rfl)) (pa_cons (pv 3) pa_nil)))))
 (pss_cons (ps_set (i := 5) sccanonical_order.nd rfl (.inr rfl) pe_dnewK)
 (pss_cons (ps_for PassesOwn.never rfl (pi_range1 rfl T.range (pa_cons (pv 0) pa_nil)) (pg_name (i := 6) sccanonical_order.nd rfl (.inl rfl))
 (pss_cons (ps_setLc (i := 7) (own := [("place", 8)]) (g := gName 8) rfl sccanonical_order.nd rfl rfl (sw_true rfl rfl rfl (by decide +kernel)) (pi_range1 rfl T.range (pa_cons (pv 0) pa_nil)) (blkOk_by (N := ["many", "pairs", "befores", "before", "after", "taken", "_", "free", "place"]) (sc := defScope scanonical_order) (by decide +kernel)) (fun _ _ _ _ _ => (pg_name (i := 8) sccanonical_order.nd rfl (.inl rfl))) (fun _ _ _ _ _ => pts_one (PW.pt (pw_and (pt_cmp (pc_dnotin (hu_of hr) (pv 8) (pv 5))) (pw_and1 (pt_val (pe_call C_all_in.ok (hr.mono (by decide)) (by rfl) C_all_in.mg C_all_in.kp C_all_in.b .nil pass0 (pa_cons (pe_ix (r := rIxL K) ix_list (pv 2) (pv 8) (fun _ _ => rfl)) (pa_cons (pv 5) pa_nil)))))))) (fun _ _ _ _ _ => (pv 8)))
 (pss_cons (ps_if (pt_not (pt_truth (pv 7) (by intro _; rfl)))
 (pss_one (ps_ret pe_non))
 pss_nil)
 (pss_one (ps_dput (hu_of hr) (pv 5) (pe_ix ix_list (pv 7) pe_int (fun _ _ => rfl)) pe_bl rfl)))))
 (pss_one (ps_ret (pe_callTy (call_list_dK rfl) (by rfl) T.list (by decide +kernel) (pa_cons (pv 5) pa_nil)))))))), ?_⟩
    -- befores: empty lists, then filled
    refine ⟨_, rfl, _, rfl, (by omega), (by omega), fun D nD => ?_⟩
    rw [show ((m : Nat) : Int).toNat = m by omega]
    refine lc_range (lo := 0) (n := m) (fun i H' => Same H H' ∧ LL H H' D (List.replicate i [])) ⟨(Same.refl H).new nD, LL.nil nD⟩ ?_ ?_
    · rintro i H' hi ⟨sm, ll⟩
      refine ⟨rfl, Nat.zero_le _, fun p np => ?_⟩
      obtain ⟨vs, hv, hvl⟩ := ll.lst
      have hDp : D ≠ p := ne_of_none hv np
      refine ⟨vs, by rw [upd_ne hDp]; exact hv, by rw [hvl, List.length_replicate]; exact szl (by omega), (sm.new np).mut nD, ?_⟩
      rw [List.replicate_succ']
      exact ll.snoc sm np hv []
    rintro H1 ⟨sm1, ll1⟩
    rw [← befs_nil] at ll1
    refine ⟨_, rfl, for_seq hA sm1 (fun i σ H' => ∃ (v3 v4 : Option V), σ = [some (nV m), some (.ref a), some (.ref D), v3, v4, none, none, none, none] ∧ Same H H' ∧ LL H H' D (befs m (ps.take i))) ⟨_, _, rfl, sm1, ll1⟩ (fun i σ' H' _ ⟨_, _, _, sm, _⟩ => sm) ?_ ?_⟩
    · rintro i y σ H' hi ⟨v3, v4, rfl, sm, ll⟩
      obtain ⟨⟨x1, x2⟩, hx, t, rfl, ht⟩ := P_right (hP.same sm) hi
      obtain ⟨w1, w2⟩ := hW _ (List.mem_of_getElem? hx)
      obtain ⟨vs, x, hv, hvx, hxl, hx0, hxD⟩ := ll.at (befs_at (ps.take i) w2)
      refine ⟨t, _, rfl, ht, rfl, _, _, rfl, _, _, rfl, rfl, ?_⟩
      refine ⟨_, rfl, _, rfl, D, _, _, _, rfl, rfl, SqL.of hv, at_n hvx, .inl ⟨rfl, _, SqL.of hxl⟩, _, rfl, x, _, _, rfl, rfl, hxl, ?_, ?_⟩
      · rw [List.length_map]
        have := bef_len (ps.take i) x2
        exact szl (Nat.le_trans this (Nat.le_trans (List.length_take_le' _ _) (by omega)))
      · refine ⟨_, _, rfl, sm.mut hx0, ?_⟩
        have := ll.grow (befs_at (ps.take i) w2) hv hvx (bef (ps.take i) x2 ++ [x1])
        rw [befs_step hx, List.map_append] at this
        exact this
    rintro σ H2 ⟨v3, v4, rfl, sm2, ll2⟩
    rw [show us.length = ps.length from P_len hP, List.take_length] at ll2
    -- taken = {}
    refine fun d nd => ?_
    have hd0 : H d = none := sm2.free nd
    have sm3 : Same H (upd H2 d (.dK [])) := sm2.new nd
    have ll3 : LL H (upd H2 d (.dK [])) D (befs m ps) := ll2.other nd
    refine ⟨_, rfl, _, rfl, (by omega), (by omega), ?_⟩
    rw [show ((m : Nat) : Int).toNat = m by omega]
    refine for_range (lo := 0) (n := m) (fun i σ H' => ∃ (v3 v4 v6 v7 : Option V), σ = [some (nV m), some (.ref a), some (.ref D), v3, v4, some (.ref d), v6, v7, none] ∧ Same H H' ∧ LL H H' D (befs m ps) ∧ H' d = some (.dK (dkN V.bl (tk (grow m ps i)))) ∧ ∀ j, j < i → nextP m ps (grow m ps j) ≠ none)
      ⟨_, _, _, _, rfl, sm3, ll3, upd_same, fun j hj => absurd hj (Nat.not_lt_zero j)⟩ ?_ ?_
    · rintro i σ H' hi ⟨v3, v4, v6, v7, rfl, sm, ll, hd, hall⟩
      have gl := grow_len m ps i
      -- free
      refine ⟨_, rfl, _, rfl, (by omega), (by omega), fun B nB => ?_⟩
      have hB0 : H B = none := sm.free nB
      rw [show ((m : Nat) : Int).toNat = m by omega]
      refine lc_range (lo := 0) (n := m) (fun j H'' => Same H' H'' ∧ H'' B = some (.lst (((List.range j).filter (freeP ps (grow m ps i))).map nV))) ⟨(Same.refl H').new nB, upd_same⟩ ?_ ?_
      · rintro j H'' hj ⟨s4, e⟩
        have hstay : freeP ps (grow m ps i) j = false → Same H' H'' ∧ H'' B = some (.lst (((List.range (j + 1)).filter (freeP ps (grow m ps i))).map nV)) := fun z => ⟨s4, by rw [e, List.range_succ, List.filter_append]; simp [z]⟩
        rw [show (0 : Int) + (j : Int) = (j : Int) by omega]
        refine ⟨rfl, _, rfl, _, rfl, d, _, rfl, dget_n (s4 _ _ hd), _, rfl, ?_⟩
        rw [tk_some]
        cases hc : (grow m ps i).contains j with
        | true =>
          refine iteF (iteF (hstay ?_))
          unfold freeP
          rw [hc]
          rfl
        | false =>
          obtain ⟨vs, x, hv, hvx, hxl, hx0, hxD⟩ := ll.at (befs_at ps hj)
          refine iteT ⟨_, rfl, _, rfl, D, _, _, _, rfl, rfl, SqL.of (s4 _ _ hv), at_n hvx, _, rfl, x, d, _, _, rfl, SqL.of (s4 _ _ hxl), ?_, s4 _ _ hd, fun H3 s5 => ⟨_, rfl, ?_⟩⟩
          · exact Nat.le_trans (bef_len _ _) hps
          · have ef : freeP ps (grow m ps i) j = (bef ps j).all fun x => (grow m ps i).contains x := by
              unfold freeP
              rw [hc]
              rfl
            rw [← ef]
            cases hf : freeP ps (grow m ps i) j with
            | false => exact iteF ⟨s4.trans s5, by rw [s5 _ _ e, List.range_succ, List.filter_append]; simp [hf]⟩
            | true =>
              refine iteT ⟨_, rfl, _, s5 _ _ e, ?_, (s4.trans s5).mut nB, ?_⟩
              · rw [List.length_map]
                refine szl (Nat.le_trans (List.length_filter_le _ _) ?_)
                rw [List.length_range]
                omega
              · rw [upd_same, List.range_succ, List.filter_append]
                simp [hf]
      · rintro H3 ⟨s4, e⟩
        have t3 : Same H H3 := sm.trans s4
        refine ⟨_, rfl, _, .inl ⟨_, SqL.of e, rfl⟩, ?_⟩
        cases hn : nextP m ps (grow m ps i) with
        | none =>
          have ef : (List.range m).filter (freeP ps (grow m ps i)) = [] := by
            unfold nextP at hn
            rw [← List.head?_filter] at hn
            exact List.head?_eq_none_iff.mp hn
          rw [ef]
          exact iteT (q _ _ t3 (by rw [order_stuck hi hn]; rfl))
        | some v =>
          obtain ⟨rest, ef⟩ : ∃ rest, (List.range m).filter (freeP ps (grow m ps i)) = v :: rest := by
            unfold nextP at hn
            rw [← List.head?_filter] at hn
            exact List.head?_eq_some_iff.mp hn
          obtain ⟨hv1, hv2, hv3⟩ := next_some hn
          rw [ef] at e ⊢
          refine iteF ⟨_, rfl, _, rfl, B, _, _, nV v, rfl, rfl, SqL.of e, at_n (j := 0) rfl, d, _, rfl, dput_n (s4 _ _ hd) (by rw [tk_len]; exact szl (by omega)) (by rw [tk_keys]; exact grow_nodup m ps i), ?_⟩
          rw [tk_put hv2]
          refine ⟨_, _, _, _, rfl, t3.mut hd0, (ll.apart s4).beside (s4 _ _ hd) (by intro xs z; cases z), ?_, ?_⟩
          · rw [upd_same]
            have : grow m ps (i + 1) = grow m ps i ++ [v] := by
              show growS m ps (grow m ps i) = _
              unfold growS
              rw [hn]
            rw [this]
          · intro j hj
            rcases Nat.lt_or_ge j i with h | h
            · exact hall j h
            · have : j = i := by omega
              subst this
              rw [hn]
              exact fun z => by cases z
    · rintro σ H' ⟨v3, v4, v6, v7, rfl, sm, ll, hd, hall⟩
      refine ⟨_, rfl, d, _, rfl, hd, fun r nr => q _ _ (sm.new nr) ?_⟩
      rw [order_full hall]
      refine ⟨r, rfl, sm.free nr, ?_⟩
      rw [upd_same]
      unfold dkN tk
      rw [List.map_map, List.map_map]
      rfl
/-! ### the canonical order, by the law -/
theorem ok_lorder {f : Addr} {fd : FuncData} (F : Fun K "_law_order" "_law_order" s_law_order f fd) (T : Txt mg) : FnOk P w K mg base CX0 1 f fd ["many", "pairs"] (sp_order K) := by
  refine F.ok sc_law_order (fun vs H Q E h => ?_) (fun cdv A outer s H vs Q E hr h => ?_)
  · obtain ⟨a, m, us, ps, rfl, _⟩ := h
    rfl
  · obtain ⟨a, m, us, ps, rfl, hA, hP, hW, hm, hps, q⟩ := h
    refine ⟨_, (pss_cons (ps_setLc (i := 2) (own := [("k", 7)]) (g := gName 7) (tt := tYes) rfl sc_law_order.nd rfl rfl (sw_true rfl rfl rfl (by decide +kernel)) (pi_range1 rfl T.range (pa_cons (pv 0) pa_nil)) (blkOk_by (N := ["many", "pairs", "befores", "one", "two", "order", "taken", "k", "place", "before"]) (sc := defScope s_law_order) (by decide +kernel)) (fun _ _ _ _ _ => (pg_name (i := 7) sc_law_order.nd rfl (.inl rfl))) (fun _ _ _ _ _ => pts_nil) (fun _ _ _ _ _ => (pe_lst pa_nil)))
 (pss_cons (ps_for PassesOwn.never rfl (pi_seq (pv 1)) (pg_tup rfl (pgs_cons (pg_name (i := 3) sc_law_order.nd rfl (.inl rfl)) (pgs_cons (pg_name (i := 4) sc_law_order.nd rfl (.inl rfl)) pgs_nil)))
 (pss_one (ps_expr (pe_bm PySem.F.plainAttrs_list PySem.F.slot_list_append PySem.F.type_list_append mt_append (pe_ix ix_list (pv 2) (pv 4) (fun _ _ => rfl)) (pa_cons (pv 3) pa_nil)))))
 (pss_cons (ps_set (i := 5) sc_law_order.nd rfl (.inl rfl) (pe_lst pa_nil))
 (pss_cons (ps_set (i := 6) sc_law_order.nd rfl (.inr rfl) pe_dnewK)
 (pss_cons (ps_for PassesOwn.never rfl (pi_range1 rfl T.range (pa_cons (pv 0) pa_nil)) (pg_name (i := 7) sc_law_order.nd rfl (.inl rfl))
 (pss_one (ps_for PassesOwn.never rfl (pi_range1 rfl T.range (pa_cons (pv 0) pa_nil)) (pg_name (i := 8) sc_law_order.nd rfl (.inl rfl))
 (pss_one (ps_if (PW.pt (pw_and (pt_cmp (pc_dnotin (hu_of hr) (pv 8) (pv 6))) (pw_and1 (pt_cmpR op_eq (pe_callB call_len_seq (by rfl) T.len (by decide +kernel) (pa_cons (pe_lc (own := [("before", 9)]) (g := gName 9) rfl sc_law_order.nd (pi_list (pe_ix ix_list (pv 2) (pv 8) (fun _ _ => rfl))) (blkOk_by (N := ["many", "pairs", "befores", "one", "two", "order", "taken", "k", "place", "before"]) (sc := defScope s_law_order) (by decide +kernel)) (fun _ _ _ _ _ => (pg_name (i := 9) sc_law_order.nd rfl (.inl rfl))) (fun _ _ _ _ _ => pts_one (pt_cmp (pc_dnotin (hu_of hr) (pv 9) (pv 6)))) (fun _ _ _ _ _ => (pv 9))) pa_nil)) pe_int (nomark _)))))
 (pss_cons (ps_expr (pe_bm PySem.F.plainAttrs_list PySem.F.slot_list_append PySem.F.type_list_append mt_append (pv 5) (pa_cons (pv 8) pa_nil)))
 (pss_cons (ps_dput (hu_of hr) (pv 6) (pv 8) pe_bl rfl)
 (pss_one ps_break)))
 pss_nil)))))
 (pss_cons (ps_if (pt_cmpR op_lt (pe_callB call_len_seq (by rfl) T.len (by decide +kernel) (pa_cons (pv 5) pa_nil)) (pv 0) (nomark _))
 (pss_one (ps_ret pe_non))
 pss_nil)
 (pss_one (ps_ret (pv 5))))))))), ?_⟩
    -- befores: empty lists, then filled
    refine ⟨_, rfl, _, rfl, (by omega), (by omega), fun D nD => ?_⟩
    rw [show ((m : Nat) : Int).toNat = m by omega]
    refine lc_range (lo := 0) (n := m) (fun i H' => Same H H' ∧ LL H H' D (List.replicate i [])) ⟨(Same.refl H).new nD, LL.nil nD⟩ ?_ ?_
    · rintro i H' hi ⟨sm, ll⟩
      refine ⟨rfl, Nat.zero_le _, fun p np => ?_⟩
      obtain ⟨vs, hv, hvl⟩ := ll.lst
      have hDp : D ≠ p := ne_of_none hv np
      refine ⟨vs, by rw [upd_ne hDp]; exact hv, by rw [hvl, List.length_replicate]; exact szl (by omega), (sm.new np).mut nD, ?_⟩
      rw [List.replicate_succ']
      exact ll.snoc sm np hv []
    rintro H1 ⟨sm1, ll1⟩
    rw [← befs_nil] at ll1
    refine ⟨_, rfl, for_seq hA sm1 (fun i σ H' => ∃ (v3 v4 : Option V), σ = [some (nV m), some (.ref a), some (.ref D), v3, v4, none, none, none, none, none] ∧ Same H H' ∧ LL H H' D (befs m (ps.take i))) ⟨_, _, rfl, sm1, ll1⟩ (fun i σ' H' _ ⟨_, _, _, sm, _⟩ => sm) ?_ ?_⟩
    · rintro i y σ H' hi ⟨v3, v4, rfl, sm, ll⟩
      obtain ⟨⟨x1, x2⟩, hx, t, rfl, ht⟩ := P_right (hP.same sm) hi
      obtain ⟨w1, w2⟩ := hW _ (List.mem_of_getElem? hx)
      obtain ⟨vs, x, hv, hvx, hxl, hx0, hxD⟩ := ll.at (befs_at (ps.take i) w2)
      refine ⟨t, _, rfl, ht, rfl, _, _, rfl, _, _, rfl, rfl, ?_⟩
      refine ⟨_, rfl, _, rfl, D, _, _, _, rfl, rfl, SqL.of hv, at_n hvx, .inl ⟨rfl, _, SqL.of hxl⟩, _, rfl, x, _, _, rfl, rfl, hxl, ?_, ?_⟩
      · rw [List.length_map]
        have := bef_len (ps.take i) x2
        exact szl (Nat.le_trans this (Nat.le_trans (List.length_take_le' _ _) (by omega)))
      · refine ⟨_, _, rfl, sm.mut hx0, ?_⟩
        have := ll.grow (befs_at (ps.take i) w2) hv hvx (bef (ps.take i) x2 ++ [x1])
        rw [befs_step hx, List.map_append] at this
        exact this
    rintro σ H2 ⟨v3, v4, rfl, sm2, ll2⟩
    rw [show us.length = ps.length from P_len hP, List.take_length] at ll2
    -- order = []; taken = {}
    refine ⟨Nat.zero_le _, fun o no => ?_⟩
    have ho0 : H o = none := sm2.free no
    refine fun d nd => ?_
    have hod : o ≠ d := fun z => by rw [z, upd_same] at nd; cases nd
    have nd2 : H2 d = none := by rw [upd_ne (Ne.symm hod)] at nd; exact nd
    have hd0 : H d = none := sm2.free nd2
    refine ⟨_, rfl, _, rfl, (by omega), (by omega), ?_⟩
    rw [show ((m : Nat) : Int).toNat = m by omega]
    refine for_range (lo := 0) (n := m) (fun i σ H' => ∃ (v3 v4 v7 v8 : Option V), σ = [some (nV m), some (.ref a), some (.ref D), v3, v4, some (.ref o), some (.ref d), v7, v8, none] ∧ Same H2 H' ∧ H' o = some (.lst ((grow m ps i).map nV)) ∧ H' d = some (.dK (dkN V.bl (tk (grow m ps i)))))
      ⟨_, _, _, _, rfl, ((Same.refl H2).new no).new nd, by rw [upd_ne hod, upd_same]; rfl, upd_same⟩ ?_ ?_
    · rintro i σ H' hi ⟨v3, v4, v7, v8, rfl, sm, eo, hd⟩
      have gl := grow_len m ps i
      refine ⟨_, rfl, _, rfl, (by omega), (by omega), ?_⟩
      rw [show ((m : Nat) : Int).toNat = m by omega]
      refine for_range (lo := 0) (n := m) (fun j σ H' => ∃ (v3 v4 v7 v8 : Option V), σ = [some (nV m), some (.ref a), some (.ref D), v3, v4, some (.ref o), some (.ref d), v7, v8, none] ∧ Same H2 H' ∧ H' o = some (.lst ((grow m ps i).map nV)) ∧ H' d = some (.dK (dkN V.bl (tk (grow m ps i)))) ∧ ∀ v, v < j → freeP ps (grow m ps i) v = false)
        ⟨_, _, _, _, rfl, sm, eo, hd, fun v hv => absurd hv (Nat.not_lt_zero v)⟩ ?_ ?_
      · rintro j σ H'' hj ⟨v3, v4, v7, v8, rfl, s4, eo4, hd4, hno⟩
        have l4 : LL H H'' D (befs m ps) := ll2.apart s4
        rw [show (0 : Int) + (j : Int) = (j : Int) by omega]
        have more : freeP ps (grow m ps i) j = false → ∀ v, v < j + 1 → freeP ps (grow m ps i) v = false := fun z v hv => by
          rcases Nat.lt_or_ge v j with h | h
          · exact hno v h
          · rw [show v = j by omega]
            exact z
        refine ⟨_, rfl, _, rfl, d, _, rfl, dget_n hd4, _, rfl, ?_⟩
        rw [tk_some]
        cases hc : (grow m ps i).contains j with
        | true =>
          refine iteF (iteF ⟨_, _, _, _, rfl, s4, eo4, hd4, more ?_⟩)
          unfold freeP
          rw [hc]
          rfl
        | false =>
          obtain ⟨vs, x, hv, hvx, hxl, hx0, hxD⟩ := l4.at (befs_at ps hj)
          refine iteT ⟨_, rfl, _, rfl, D, _, _, _, rfl, rfl, SqL.of hv, at_n hvx, x, rfl, ⟨_, SqL.of hxl⟩, fun B nB => ?_⟩
          have hB0 : H2 B = none := s4.free nB
          refine lc_list (K := K) (a := x) (xs := (bef ps j).map nV) (fun k H3 => Same H'' H3 ∧ H3 B = some (.lst ((((bef ps j).take k).filter fun u => !(grow m ps i).contains u).map nV))) ⟨(Same.refl H'').new nB, upd_same⟩ (fun k H3 _ ⟨s5, _⟩ => s5.seq (SqL.of hxl)) ?_ ?_
          · rintro k y H3 hk ⟨s5, e⟩
            obtain ⟨u, hu, rfl⟩ := getn_inv hk
            refine ⟨rfl, _, rfl, _, rfl, d, _, rfl, dget_n (s5 _ _ hd4), _, rfl, ?_⟩
            rw [tk_some]
            cases hcu : (grow m ps i).contains u with
            | true => exact iteF ⟨s5, by rw [e, take_more hu, List.filter_append]; simp only [List.filter_cons, List.filter_nil, hcu, Bool.not_true, Bool.false_eq_true, if_false, List.append_nil]⟩
            | false =>
              refine iteT ⟨_, rfl, _, e, ?_, s5.mut nB, ?_⟩
              · rw [List.length_map]
                exact szl (Nat.le_trans (List.length_filter_le _ _) (Nat.le_trans (List.length_take_le' _ _) (Nat.le_trans (bef_len _ _) (by omega))))
              · rw [upd_same, take_more hu, List.filter_append]
                simp only [List.filter_cons, List.filter_nil, hcu, Bool.not_false, if_true, List.map_append, List.map_cons, List.map_nil]
          · rintro H3 ⟨s5, e⟩
            rw [List.length_map, List.take_length] at e
            have t5 := s4.trans s5
            have ef : freeP ps (grow m ps i) j = decide (((bef ps j).filter fun u => !(grow m ps i).contains u).length = 0) := by
              unfold freeP
              rw [hc, Bool.not_false, Bool.true_and, Bool.eq_iff_iff, decide_eq_true_eq, List.length_eq_zero_iff, List.filter_eq_nil_iff, List.all_eq_true]
              simp
            refine ⟨B, _, rfl, .inl (SqL.of e), rfl, _, rfl, ?_⟩
            rw [List.length_map]
            by_cases hz : ((bef ps j).filter fun u => !(grow m ps i).contains u).length = 0
            · have hf : freeP ps (grow m ps i) j = true := by rw [ef]; exact decide_eq_true hz
              have hn : nextP m ps (grow m ps i) = some j := by
                unfold nextP
                rw [List.find?_range_eq_some]
                exact ⟨hf, List.mem_range.mpr hj, fun v hv => by rw [hno v hv]; rfl⟩
              have hg : grow m ps (i + 1) = grow m ps i ++ [j] := by
                show growS m ps (grow m ps i) = _
                unfold growS
                rw [hn]
              rw [hz]
              have hcm : j ∉ grow m ps i := by simpa using hc
              refine iteT ⟨_, rfl, .inl ⟨rfl, _, SqL.of (s5 _ _ eo4)⟩, _, rfl, o, _, _, rfl, rfl, s5 _ _ eo4, ?_, ?_⟩
              · rw [List.length_map]
                exact szl (by omega)
              · refine ⟨_, rfl, _, rfl, d, _, rfl, dput_n (by rw [upd_ne (Ne.symm hod)]; exact s5 _ _ hd4) (by rw [tk_len]; exact szl (by omega)) (by rw [tk_keys]; exact grow_nodup m ps i), ?_⟩
                refine ⟨_, _, _, _, rfl, (t5.mut no).mut nd2, ?_, ?_⟩
                · rw [upd_ne hod, upd_same, hg, List.map_append]
                  rfl
                · rw [upd_same, tk_put hcm, hg]
            · have hf : freeP ps (grow m ps i) j = false := by rw [ef]; exact decide_eq_false hz
              have hz' : decide (V.int ((((bef ps j).filter fun u => !(grow m ps i).contains u).length : Nat) : Int) = V.int 0) = false := decide_eq_false fun z => hz (by have := V.int.inj z; omega)
              rw [hz']
              exact iteF ⟨_, _, _, _, rfl, t5, s5 _ _ eo4, s5 _ _ hd4, more hf⟩
      · rintro σ H'' ⟨v3, v4, v7, v8, rfl, s4, eo4, hd4, hno⟩
        have hn : nextP m ps (grow m ps i) = none := List.find?_eq_none.mpr fun v hv => by rw [hno v (List.mem_range.mp hv)]; exact Bool.false_ne_true
        have hg : grow m ps (i + 1) = grow m ps i := by
          show growS m ps (grow m ps i) = _
          unfold growS
          rw [hn]
        exact ⟨_, _, _, _, rfl, s4, by rw [hg]; exact eo4, by rw [hg]; exact hd4⟩
    · rintro σ H' ⟨v3, v4, v7, v8, rfl, s3, eo, hd⟩
      have sm := sm2.trans s3
      refine ⟨_, rfl, o, _, rfl, .inl (SqL.of eo), _, rfl, _, _, rfl, rfl, _, rfl, ite2 (fun hlt => ?_) (fun hge => ?_)⟩
      · have h1 : (grow m ps m).length < m := by
          have := of_decide_eq_true hlt
          rw [List.length_map] at this
          omega
        refine q _ _ sm ?_
        unfold orderOf
        rw [if_pos h1]
        rfl
      · have h1 : ¬ (grow m ps m).length < m := fun z => hge (decide_eq_true (by rw [List.length_map]; omega))
        refine ⟨_, rfl, q _ _ sm ?_⟩
        unfold orderOf
        rw [if_neg h1]
        exact ⟨o, rfl, ho0, eo⟩
end
end K02W

namespace K02W
open PySem PySem.Spec PyProof.Rows L2 K02 KH
abbrev s_steps_to : Stmt := topS 4
theorem sc_steps_to : FnScope ["befores", "start", "steps", "layer", "wider", "place", "before"] ["befores", "start"] (defScope s_steps_to) := ⟨rfl, rfl, rfl, by decide +kernel, rfl, by decide +kernel, by decide +kernel⟩

abbrev s_ring_from : Stmt := topS 5
theorem sc_ring_from : FnScope ["befores", "afters", "start", "steps", "lengths", "ring", "left", "place"] ["befores", "afters", "start"] (defScope s_ring_from) := ⟨rfl, rfl, rfl, by decide +kernel, rfl, by decide +kernel, by decide +kernel⟩

abbrev sleast_ring : Stmt := topS 3
theorem scleast_ring : FnScope ["many", "pairs", "befores", "afters", "before", "after", "best", "start", "ring", "_"] ["many", "pairs"] (defScope sleast_ring) := ⟨rfl, rfl, rfl, by decide +kernel, rfl, by decide +kernel, by decide +kernel⟩

section
variable {P : Program} {w : World} {K : PySem.W.Frag} {mg : Str → Option Value} {base : Heap}
/-! ### the steps -/
def sp_steps : Sp := fun vs H Q _ => ∃ (a : Addr) (m o : Nat) (ps : PL), vs = [.ref a, nV o] ∧ LR H a (befs m ps) ∧ Within m ps ∧ o < m ∧ m ≤ 100 ∧ ps.length ≤ 1000 ∧ ∀ p st H', Same H H' → H p = none → H' p = some (.dK (dkN nV st)) → IsSteps ps o (look st) → Q (.ref p) H'
theorem ok_steps {f : Addr} {fd : FuncData} (F : Fun K "_steps_to" "_steps_to" s_steps_to f fd) (T : Txt mg) : FnOk P w K mg base CX0 1 f fd ["befores", "start"] sp_steps := by
  refine F.ok sc_steps_to (fun vs H Q E h => ?_) (fun cdv A outer s H vs Q E hr h => ?_)
  · obtain ⟨a, m, o, ps, rfl, _⟩ := h
    rfl
  · obtain ⟨a, m, o, ps, rfl, hB, hW, ho, hm, hps, q⟩ := h
    refine ⟨_, (pss_cons (ps_set (i := 2) sc_steps_to.nd rfl (.inl rfl) (pe_disp (pps_cons (pv 1) pe_int pps_nil) (by rfl) (by rfl) (fun z => by cases z) (by decide)))
 (pss_cons (ps_set (i := 3) sc_steps_to.nd rfl (.inl rfl) (pe_lst (pa_cons (pv 1) pa_nil)))
 (pss_cons (ps_while PassesOwn.never (pt_truth (pv 3) (by intro _; rfl))
 (pss_cons (ps_set (i := 4) sc_steps_to.nd rfl (.inl rfl) (pe_lst pa_nil))
 (pss_cons (ps_for PassesOwn.never rfl (pi_list (pv 3)) (pg_name (i := 5) sc_steps_to.nd rfl (.inl rfl))
 (pss_one (ps_for PassesOwn.never rfl (pi_list (pe_ix ix_list (pv 0) (pv 5) (fun _ _ => rfl))) (pg_name (i := 6) sc_steps_to.nd rfl (.inl rfl))
 (pss_one (ps_if (PW.pt (pw_and (pt_cmpR op_ge (pv 6) (pv 1) (nomark _)) (pw_and1 (pt_cmp (pc_dnotin (hu_of hr) (pv 6) (pv 2))))))
 (pss_cons (ps_dput (hu_of hr) (pv 2) (pv 6) (pe_op op_add (pe_dget (hu_of hr) (pv 2) (pv 5) (fun _ _ => rfl)) pe_int) rfl)
 (pss_one (ps_expr (pe_bm PySem.F.plainAttrs_list PySem.F.slot_list_append PySem.F.type_list_append mt_append (pv 4) (pa_cons (pv 6) pa_nil)))))
 pss_nil)))))
 (pss_one (ps_set (i := 3) sc_steps_to.nd rfl (.inl rfl) (pe_callTy call_list_of (by rfl) T.list (by decide +kernel) (pa_cons (pv 4) pa_nil)))))))
 (pss_one (ps_ret (pv 2)))))), ?_⟩
    -- steps = {start: 0}; layer = [start]
    refine fun d nd => ⟨_, rfl, upd_same, [(Sum.inl (o : Int), nV 0)], rfl, (by show 1 ≤ 15; decide), ?_⟩
    rw [upd_upd]
    refine ⟨_, rfl, (by show 1 ≤ sizeLine; decide), fun l nl => ?_⟩
    have hdl : d ≠ l := fun z => by rw [← z, upd_same] at nl; cases nl
    have nl0 : H l = none := by rw [upd_ne (Ne.symm hdl)] at nl; exact nl
    refine ⟨fun n σ H' => ∃ (dd : Nat) (st : List (Nat × Nat)) (layer : List Nat) (l : Addr) (v4 v5 v6 : Option V), n = (m - st.length) + (if layer = [] then 0 else 1) ∧ σ = [some (.ref a), some (nV o), some (.ref d), some (.ref l), v4, v5, v6] ∧ Same H H' ∧ l ≠ d ∧ H l = none ∧ H' d = some (.dK (dkN nV st)) ∧ H' l = some (.lst (layer.map nV)) ∧ Lay m ps o dd st layer,
      ⟨_, 0, [(o, 0)], [o], l, _, _, _, rfl, rfl, ((Same.refl H).new nd).new nl, Ne.symm hdl, nl0, by rw [upd_ne hdl, upd_same]; rfl, upd_same, lay_start ps ho⟩, ?_⟩
    rintro n σ H' ⟨dd, st, layer, l, v4, v5, v6, rfl, rfl, sm, hld, hl0, ed, el, ly⟩
    refine ⟨_, rfl, _, .inl ⟨_, SqL.of el, rfl⟩, ?_⟩
    cases layer with
    | nil => exact iteF ⟨_, rfl, q d st H' sm nd ed ly.done⟩
    | cons y0 r0 =>
      generalize hla : y0 :: r0 = layer at *
      have hne : layer ≠ [] := fun z => by rw [z] at hla; cases hla
      have hem : (!(layer.map nV).isEmpty) = true := by cases layer with | nil => exact absurd rfl hne | cons _ _ => rfl
      rw [hem]
      refine iteT ⟨_, fun σ' H'' h => h, ?_⟩
      -- wider = []
      refine ⟨Nat.zero_le _, fun wd nw => ?_⟩
      have hwd0 : H wd = none := sm.free nw
      have hdw : d ≠ wd := ne_of_none ed nw
      have hlw : l ≠ wd := ne_of_none el nw
      refine ⟨_, rfl, l, rfl, ⟨_, SqL.of (by rw [upd_ne hlw]; exact el)⟩, for_list (K := K) (a := l) (xs := layer.map nV) (fun i σ H'' => ∃ (st' : List (Nat × Nat)) (wider : List Nat) (v5 v6 : Option V), σ = [some (.ref a), some (nV o), some (.ref d), some (.ref l), some (.ref wd), v5, v6] ∧ Same H H'' ∧ H'' d = some (.dK (dkN nV st')) ∧ H'' l = some (.lst (layer.map nV)) ∧ H'' wd = some (.lst (wider.map nV)) ∧ Mid m ps o dd st.length ((layer.take i).flatMap (bef ps)) st' wider)
        ⟨st, [], _, _, rfl, sm.new nw, by rw [upd_ne hdw]; exact ed, by rw [upd_ne hlw]; exact el, upd_same, ly.mid⟩ (fun i σ H'' _ ⟨_, _, _, _, _, _, _, e, _⟩ => SqL.of e) ?_ ?_⟩
      · rintro i y σ H'' hi ⟨st', wider, v5, v6, rfl, s4, ed4, el4, ew4, md⟩
        obtain ⟨y, hy, rfl⟩ := getn_inv hi
        have hdy : Dst ps o y dd := (ly.lay y).mp (List.mem_of_getElem? hy)
        have hym : y < m := by
          have : y ∈ st'.map (·.1) := by
            have := look_mem ((md.get y dd).mpr (.inl ⟨Nat.le_refl _, hdy⟩))
            exact List.mem_map.mpr ⟨_, this, rfl⟩
          exact md.few y this
        obtain ⟨vs, x, hv, hvx, hxl⟩ := hB.at (befs_at ps hym)
        refine ⟨_, rfl, _, rfl, a, _, _, _, rfl, rfl, SqL.of (s4 _ _ hv), at_n hvx, x, rfl, ⟨_, SqL.of (s4 _ _ hxl)⟩, ?_⟩
        refine for_list (K := K) (a := x) (xs := (bef ps y).map nV) (fun k σ H'' => ∃ (st' : List (Nat × Nat)) (wider : List Nat) (v6 : Option V), σ = [some (.ref a), some (nV o), some (.ref d), some (.ref l), some (.ref wd), some (nV y), v6] ∧ Same H H'' ∧ H'' d = some (.dK (dkN nV st')) ∧ H'' l = some (.lst (layer.map nV)) ∧ H'' wd = some (.lst (wider.map nV)) ∧ Mid m ps o dd st.length ((layer.take i).flatMap (bef ps) ++ (bef ps y).take k) st' wider)
          ⟨st', wider, _, rfl, s4, ed4, el4, ew4, by rw [List.take_zero, List.append_nil]; exact md⟩ (fun k σ H3 _ ⟨_, _, _, _, s5, _⟩ => s5.seq (SqL.of hxl)) ?_ ?_
        · rintro k z σ H3 hk ⟨st2, wid2, v6, rfl, s5, ed5, el5, ew5, md5⟩
          obtain ⟨u, hu, rfl⟩ := getn_inv hk
          have huy : (u, y) ∈ ps := mem_bef.mp (List.mem_of_getElem? hu)
          have hum : u < m := (hW _ huy).1
          have eseen : (layer.take i).flatMap (bef ps) ++ (bef ps y).take (k + 1) = ((layer.take i).flatMap (bef ps) ++ (bef ps y).take k) ++ [u] := by rw [take_more hu, List.append_assoc]
          refine ⟨_, rfl, _, rfl, _, _, rfl, rfl, _, rfl, ite2 (fun hge => ?_) (fun hlt => iteF ⟨st2, wid2, _, rfl, s5, ed5, el5, ew5, ?_⟩)⟩
          · have hge' : o ≤ u := by
              have := of_decide_eq_true hge
              omega
            refine ⟨_, rfl, _, rfl, d, _, rfl, dget_n ed5, _, rfl, ?_⟩
            cases hl : look st2 u with
            | some n =>
              refine iteF ⟨st2, wid2, _, rfl, s5, ed5, el5, ew5, ?_⟩
              rw [eseen]
              exact md5.skip (.inr ⟨n, hl⟩)
            | none =>
              have g := dget_n (k := y) ed5
              rw [(md5.get y dd).mpr (.inl ⟨Nat.le_refl _, hdy⟩)] at g
              have hsz := md5.size
              have mp := md5.put hdy huy hge' hl hum
              have hput : put st2 u (dd + 1) = st2 ++ [(u, dd + 1)] := put_dk.put_new u (dd + 1) st2 hl
              refine iteT ⟨_, rfl, _, rfl, d, nV dd, rfl, g, _, _, rfl, rfl, _, rfl, _, rfl, d, _, rfl, dput_n (v := dd + 1) ed5 (szl (by omega)) md5.keys, ?_⟩
              rw [hput]
              refine ⟨_, rfl, .inl ⟨rfl, _, SqL.of (by rw [upd_ne (Ne.symm hdw)]; exact ew5)⟩, _, rfl, wd, _, _, rfl, rfl, (by rw [upd_ne (Ne.symm hdw)]; exact ew5), ?_, ?_⟩
              · rw [List.length_map]
                have := md5.len
                exact szl (by omega)
              · refine ⟨st2 ++ [(u, dd + 1)], wid2 ++ [u], _, rfl, (s5.mut nd).mut hwd0, ?_, ?_, ?_, ?_⟩
                · rw [upd_ne hdw, upd_same]
                · rw [upd_ne hlw, upd_ne hld]
                  exact el5
                · rw [upd_same, List.map_append]
                  rfl
                · rw [eseen]
                  exact mp
          · rw [eseen]
            refine md5.skip (.inl ?_)
            have : ¬ ((o : Int) ≤ (u : Int)) := fun z => hlt (decide_eq_true z)
            omega
        · rintro σ H3 ⟨st2, wid2, v6, rfl, s5, ed5, el5, ew5, md5⟩
          rw [List.length_map, List.take_length] at md5
          refine ⟨st2, wid2, _, _, rfl, s5, ed5, el5, ew5, ?_⟩
          rw [take_more hy, List.flatMap_append]
          simp only [List.flatMap_cons, List.flatMap_nil, List.append_nil]
          exact md5
      · rintro σ H3 ⟨st2, wid2, v5, v6, rfl, s5, ed5, el5, ew5, md5⟩
        rw [List.length_map, List.take_length] at md5
        have ly2 := md5.lay (fun u v huv hv => List.mem_flatMap.mpr ⟨v, (ly.lay v).mpr hv, mem_bef.mpr huv⟩)
        refine ⟨_, rfl, wd, _, rfl, .inl (SqL.of ew5), fun l2 nl2 => ?_⟩
        have hl20 : H l2 = none := s5.free nl2
        refine ⟨(m - st2.length) + (if wid2 = [] then 0 else 1), ?_, dd + 1, st2, wid2, l2, _, _, _, rfl, rfl, s5.new nl2, Ne.symm (ne_of_none ed5 nl2), hl20, by rw [upd_ne (ne_of_none ed5 nl2)]; exact ed5, upd_same, ly2⟩
        have h1 := md5.len
        have h2 := md5.size
        have h3 := ly.size
        rw [if_neg hne]
        by_cases hw : wid2 = []
        · rw [if_pos hw]
          rw [hw] at h1
          simp at h1
          omega
        · rw [if_neg hw]
          have : 0 < wid2.length := List.length_pos_iff.mpr hw
          omega
/-! ### the least ring from a place -/
def sp_ringfrom : Sp := fun vs H Q _ => ∃ (a b : Addr) (m o : Nat) (ps : PL), vs = [.ref a, .ref b, nV o] ∧ LR H a (befs m ps) ∧ LR H b (afts m ps) ∧ Within m ps ∧ o < m ∧ m ≤ 100 ∧ ps.length ≤ 1000 ∧ ∀ v H', Same H H' → OutL H H' v (ringOf ps o) → Q v H'
theorem fm_take {β : Type} {f : Nat → Option β} {l : List Nat} {i x : Nat} (h : l[i]? = some x) : (l.take (i + 1)).filterMap f = (l.take i).filterMap f ++ (match f x with | none => [] | some y => [y]) := by
  rw [take_more h, List.filterMap_append]
  cases e : f x with
  | none => rw [List.filterMap_cons_none e]; rfl
  | some y => rw [List.filterMap_cons_some e]; rfl
theorem ok_ringfrom {f f1 : Addr} {fd fd1 : FuncData} (F : Fun K "_ring_from" "_ring_from" s_ring_from f fd) (T : Txt mg) (C_steps_to : Cal P w K mg base 1 "_steps_to" ["befores", "start"] sp_steps f1 fd1) : FnOk P w K mg base CX0 2 f fd ["befores", "afters", "start"] sp_ringfrom := by
  refine F.ok sc_ring_from (fun vs H Q E h => ?_) (fun cdv A outer s H vs Q E hr h => ?_)
  · obtain ⟨a, b, m, o, ps, rfl, _⟩ := h
    rfl
  · obtain ⟨a, b, m, o, ps, rfl, hB, hA, hW, ho, hm, hps, q⟩ := h
    refine ⟨_, (pss_cons (ps_set (i := 3) sc_ring_from.nd rfl (.inr rfl) (pe_call C_steps_to.ok (hr.mono (by decide)) (by rfl) C_steps_to.mg C_steps_to.kp C_steps_to.b .nil pass0 (pa_cons (pv 0) (pa_cons (pv 2) pa_nil))))
 (pss_cons (ps_setLc (i := 4) (own := [("place", 7)]) (g := gName 7) rfl sc_ring_from.nd rfl rfl (sw_true rfl rfl rfl (by decide +kernel)) (pi_list (pe_ix ix_list (pv 1) (pv 2) (fun _ _ => rfl))) (blkOk_by (N := ["befores", "afters", "start", "steps", "lengths", "ring", "left", "place"]) (sc := defScope s_ring_from) (by decide +kernel)) (fun _ _ _ _ _ => (pg_name (i := 7) sc_ring_from.nd rfl (.inl rfl))) (fun _ _ _ _ _ => pts_one (pt_cmp (pc_din (hu_of hr) (pv 7) (pv 3)))) (fun _ _ _ _ _ => (pe_dget (hu_of hr) (pv 3) (pv 7) (fun _ _ => rfl))))
 (pss_cons (ps_if (pt_not (pt_truth (pv 4) (by intro _; rfl)))
 (pss_one (ps_ret pe_non))
 pss_nil)
 (pss_cons (ps_set (i := 5) sc_ring_from.nd rfl (.inl rfl) (pe_lst (pa_cons (pv 2) pa_nil)))
 (pss_cons (ps_for PassesOwn.never rfl (pi_revR rfl T.reversed (prg_2 rfl T.range pe_int (pe_op op_add (pe_callB (cr_min rfl) (by rfl) T.min (by decide +kernel) (pa_cons (pv 4) pa_nil)) pe_int))) (pg_name (i := 6) sc_ring_from.nd rfl (.inr rfl))
 (pss_one (ps_expr (pe_bm PySem.F.plainAttrs_list PySem.F.slot_list_append PySem.F.type_list_append mt_append (pv 5) (pa_cons (pe_callB (cr_min rfl) (by rfl) T.min (by decide +kernel) (pa_cons (pe_lc (own := [("place", 7)]) (g := gName 7) rfl sc_ring_from.nd (pi_list (pe_ix ix_list (pv 1) (pe_ix ix_list (pv 5) (pe_un un_neg pe_int) (fun _ _ => rfl)) (fun _ _ => rfl))) (blkOk_by (N := ["befores", "afters", "start", "steps", "lengths", "ring", "left", "place"]) (sc := defScope s_ring_from) (by decide +kernel)) (fun _ _ _ _ _ => (pg_name (i := 7) sc_ring_from.nd rfl (.inl rfl))) (fun _ _ _ _ _ => pts_one (PW.pt (pw_and (pt_cmp (pc_din (hu_of hr) (pv 7) (pv 3))) (pw_and1 (pt_cmpR op_eq (pe_dget (hu_of hr) (pv 3) (pv 7) (fun _ _ => rfl)) (pv 6) (nomark _)))))) (fun _ _ _ _ _ => (pv 7))) pa_nil)) pa_nil)))))
 (pss_one (ps_ret (pv 5)))))))), ?_⟩
    -- steps
    refine ⟨_, rfl, _, rfl, a, m, o, ps, rfl, hB, hW, ho, hm, hps, fun d st H1 sm1 nd ed hst => ?_⟩
    -- lengths
    obtain ⟨vs, x, hv, hvx, hxl⟩ := hA.at (afts_at ps ho)
    refine ⟨_, rfl, _, rfl, b, _, _, _, rfl, rfl, SqL.of (sm1 _ _ hv), at_n hvx, x, rfl, ⟨_, SqL.of (sm1 _ _ hxl)⟩, fun D nD => ?_⟩
    have nD0 : H D = none := sm1.free nD
    refine lc_list (K := K) (a := x) (xs := (aft ps o).map nV) (fun i H' => Same H1 H' ∧ H' D = some (.lst ((((aft ps o).take i).filterMap (look st)).map nV))) ⟨(Same.refl H1).new nD, upd_same⟩ (fun i H' _ ⟨s2, _⟩ => s2.seq (SqL.of (sm1 _ _ hxl))) ?_ ?_
    · rintro i y H' hi ⟨s2, e⟩
      obtain ⟨u, hu, rfl⟩ := getn_inv hi
      refine ⟨rfl, _, rfl, _, rfl, d, _, rfl, dget_n (s2 _ _ ed), _, rfl, ?_⟩
      have et := fm_take (f := look st) hu
      cases hl : look st u with
      | none =>
        refine iteF ⟨s2, ?_⟩
        rw [et, hl, List.append_nil]
        exact e
      | some n =>
        have g := dget_n (k := u) (s2 _ _ ed)
        rw [hl] at g
        refine iteT ⟨_, rfl, _, rfl, d, nV n, rfl, g, _, e, ?_, s2.mut nD, ?_⟩
        · rw [List.length_map]
          exact szl (Nat.le_trans (List.length_filterMap_le _ _) (Nat.le_trans (List.length_take_le' _ _) (Nat.le_trans (aft_len _ _) (by omega))))
        · rw [upd_same, et, hl, List.map_append]
          rfl
    rintro H2 ⟨s2, eD⟩
    rw [List.length_map, List.take_length] at eD
    have t2 : Same H H2 := sm1.trans s2
    refine ⟨_, rfl, _, .inl ⟨_, SqL.of eD, rfl⟩, ?_⟩
    have ed2 := s2 _ _ ed
    cases hlens : (aft ps o).filterMap (look st) with
    | nil =>
      refine iteT (q _ _ t2 ?_)
      rw [ringOf_none (lens_none hst fun v hv => ?_)]
      · rfl
      · cases e : look st v with
        | none => rfl
        | some n =>
          have : n ∈ (aft ps o).filterMap (look st) := List.mem_filterMap.mpr ⟨v, mem_aft.mpr hv, e⟩
          rw [hlens] at this
          cases this
    | cons n0 ns0 =>
      rw [hlens] at eD
      refine iteF ?_
      -- ring = [start]
      refine ⟨_, rfl, (by show 1 ≤ sizeLine; decide), fun r nr => ?_⟩
      have nr0 : H r = none := t2.free nr
      have hDr : D ≠ r := ne_of_none eD nr
      have eD3 : (upd H2 r (.lst [nV o])) D = some (.lst ((n0 :: ns0).map nV)) := by rw [upd_ne hDr]; exact eD
      -- range(1, min(lengths) + 1), backwards
      refine ⟨_, rfl, D, (n0 :: ns0).map (fun n : Nat => (n : Int)), rfl, ?_, by rw [List.length_map]; exact Nat.succ_pos _, fun mn hmn hle => ?_⟩
      · rw [List.map_map]
        exact SqL.of eD3
      obtain ⟨L, hL, rfl⟩ := List.mem_map.mp hmn
      have hmem : L ∈ (aft ps o).filterMap (look st) := by rw [hlens]; exact hL
      obtain ⟨v0, hv0, hv0s⟩ := List.mem_filterMap.mp hmem
      have hle' : ∀ v k, (o, v) ∈ ps → look st v = some k → L ≤ k := fun v k hv hs => by
        have h1 : k ∈ (aft ps o).filterMap (look st) := List.mem_filterMap.mpr ⟨v, mem_aft.mpr hv, hs⟩
        rw [hlens] at h1
        have := hle (k : Int) (List.mem_map.mpr ⟨k, h1, rfl⟩)
        omega
      obtain ⟨hLen, hLno⟩ := lens_some hst ⟨v0, mem_aft.mp hv0, hv0s⟩ hle'
      have hLm : L < m := by
        obtain ⟨rr, c, e⟩ := hLen
        obtain ⟨r', c', hlt⟩ := ring_fits hW c
        have := Nat.le_of_not_lt fun z => hLno _ z ⟨r', c', rfl⟩
        omega
      refine ⟨_, _, rfl, rfl, 1, (L : Int) + 1, rfl, rfl, (by omega), (by omega), (by omega), (by omega), ?_⟩
      rw [show ((L : Int) + 1 - 1).toNat = L by omega, show (1 : Int) + ((L : Nat) : Int) - 1 = (L : Int) by omega]
      refine for_rangeC (lo := (L : Int)) (c := -1) (n := L) (fun i σ H' => ∃ (rs ini : List Nat) (u : Nat) (v6 : Option V), σ = [some (.ref a), some (.ref b), some (nV o), some (.ref d), some (.ref D), some (.ref r), v6, none] ∧ Same H H' ∧ Same H1 H' ∧ H' r = some (.lst ((o :: rs).map nV)) ∧ o :: rs = ini ++ [u] ∧ rs.length = i ∧ (Len ps o u (L - i) ∧ ∀ j, j < L - i → ¬ Len ps o u j) ∧ ∀ t, Greedy ps (look st) u (L - i) t → Greedy ps (look st) o L (rs ++ t))
        ⟨[], [], o, _, rfl, t2.new nr, s2.new nr, upd_same, rfl, rfl, ⟨hLen, hLno⟩, fun t ht => ht⟩ ?_ ?_
      · rintro i σ H' hi ⟨rs, ini, u, v6, rfl, sm, sm1', er, eini, hrl, ⟨hl1, hl2⟩, hg⟩
        have hum : u < m := by
          obtain ⟨rr, c, _⟩ := hl1
          exact (cl_within hW c).1
        obtain ⟨n', hn'⟩ : ∃ n', L - i = n' + 1 := ⟨L - i - 1, by omega⟩
        rw [hn'] at hl1 hl2 hg
        have eleft : (L : Int) + ((i : Nat) : Int) * -1 = ((n' + 1 : Nat) : Int) := by omega
        rw [eleft]
        obtain ⟨vs2, y, hv2, hvy, hyl⟩ := hA.at (afts_at ps hum)
        have eat : atI ((o :: rs).map nV) (-1) = some (nV u) := by
          rw [eini, List.map_append]
          exact atI_last _ _
        refine ⟨_, rfl, .inl ⟨rfl, _, SqL.of er⟩, ?_⟩
        refine ⟨_, rfl, _, rfl, 1, rfl, r, _, _, _, rfl, rfl, SqL.of er, eat, b, _, _, _, rfl, rfl, SqL.of (sm _ _ hv2), at_n hvy, y, rfl, ⟨_, SqL.of (sm _ _ hyl)⟩, fun B nB => ?_⟩
        have ed3 := sm1' _ _ ed
        have nBr : r ≠ B := ne_of_none er nB
        refine lc_list (K := K) (a := y) (xs := (aft ps u).map nV) (fun k H3 => Same H' H3 ∧ H3 B = some (.lst ((((aft ps u).take k).filter fun v => decide (look st v = some (n' + 1))).map nV))) ⟨(Same.refl H').new nB, upd_same⟩ (fun k H3 _ ⟨s5, _⟩ => s5.seq (SqL.of (sm _ _ hyl))) ?_ ?_
        · rintro k z H3 hk ⟨s5, e⟩
          obtain ⟨v, hv, rfl⟩ := getn_inv hk
          have g := dget_n (k := v) (s5 _ _ ed3)
          refine ⟨rfl, _, rfl, _, rfl, d, _, rfl, g, _, rfl, ?_⟩
          have hno : look st v ≠ some (n' + 1) → Same H' H3 ∧ H3 B = some (.lst ((((aft ps u).take (k + 1)).filter fun v => decide (look st v = some (n' + 1))).map nV)) := fun z => ⟨s5, by rw [take_more hv, List.filter_append, e]; simp [z]⟩
          cases hl : look st v with
          | none => exact iteF (iteF (hno (by rw [hl]; exact fun z => by cases z)))
          | some n =>
            rw [hl] at g
            refine iteT ⟨_, rfl, _, rfl, d, nV n, rfl, g, _, rfl, rfl, _, rfl, ?_⟩
            by_cases hn : n = n' + 1
            · subst hn
              rw [decide_eq_true rfl]
              refine iteT ⟨_, rfl, _, e, ?_, s5.mut nB, ?_⟩
              · rw [List.length_map]
                exact szl (Nat.le_trans (List.length_filter_le _ _) (Nat.le_trans (List.length_take_le' _ _) (Nat.le_trans (aft_len _ _) (by omega))))
              · rw [upd_same, take_more hv, List.filter_append, List.map_append]
                simp [hl]
            · rw [decide_eq_false (show ¬ nV n = nV (n' + 1) from fun z => hn (by have := V.int.inj z; omega))]
              exact iteF (hno (by rw [hl]; exact fun z => hn (Option.some.inj z)))
        rintro H3 ⟨s5, eB⟩
        rw [List.length_map, List.take_length] at eB
        have key : ∀ v, v ∈ ((aft ps u).filter fun v => decide (look st v = some (n' + 1))) ↔ (u, v) ∈ ps ∧ look st v = some (n' + 1) := fun v => by
          rw [List.mem_filter, mem_aft, decide_eq_true_eq]
        obtain ⟨v1, hv1, hv1s⟩ := greedy_next hst hl1 hl2
        refine ⟨B, ((aft ps u).filter fun v => decide (look st v = some (n' + 1))).map (fun n : Nat => (n : Int)), rfl, ?_, ?_, fun mn hmn hle => ?_⟩
        · rw [List.map_map]
          exact SqL.of eB
        · rw [List.length_map]
          exact List.length_pos_of_mem ((key v1).mpr ⟨hv1, hv1s⟩)
        obtain ⟨v, hv, rfl⟩ := List.mem_map.mp hmn
        obtain ⟨huv, hvs⟩ := (key v).mp hv
        have hmin : ∀ w, (u, w) ∈ ps → look st w = some (n' + 1) → v ≤ w := fun w h1 h2 => by
          have := hle (w : Int) (List.mem_map.mpr ⟨w, (key w).mpr ⟨h1, h2⟩, rfl⟩)
          omega
        obtain ⟨b1, b2⟩ := steps_beyond hst hvs
        have en : L - (i + 1) = n' := by omega
        refine ⟨r, _, _, rfl, rfl, s5 _ _ er, ?_, ?_⟩
        · rw [List.length_map, List.length_cons, hrl]
          exact szl (by omega)
        · refine ⟨rs ++ [v], o :: rs, v, _, rfl, (sm.trans s5).mut nr0, ?_, ?_, rfl, ?_, ?_, ?_⟩
          · exact (sm1'.trans s5).mut (s2.free nr)
          · rw [upd_same, ← List.cons_append, List.map_append]
            rfl
          · rw [List.length_append, hrl]
            rfl
          · rw [en]
            exact ⟨b1, b2⟩
          · rw [en]
            intro t ht
            rw [List.append_assoc]
            exact hg (v :: t) ⟨v, t, rfl, ⟨huv, hvs⟩, hmin, ht⟩
      · rintro σ H' ⟨rs, ini, u, v6, rfl, sm, sm1', er, eini, hrl, _, hg⟩
        have hgr : Greedy ps (look st) o L rs := by
          have := hg []
          rw [Nat.sub_self, List.append_nil] at this
          exact this rfl
        refine ⟨_, rfl, q _ _ sm ?_⟩
        rw [ringOf_some (greedy_ring hst hgr hLen hLno)]
        exact ⟨r, rfl, nr0, er⟩
end
end K02W

namespace K02W
open PySem PySem.Spec PyProof.Rows L2 K02 KH
abbrev s_law_ring : Stmt := topS 14
theorem sc_law_ring : FnScope ["many", "pairs", "best", "origin", "walks", "k", "rings", "longer", "one", "two", "pair"] ["many", "pairs"] (defScope s_law_ring) := ⟨rfl, rfl, rfl, by decide +kernel, rfl, by decide +kernel, by decide +kernel⟩

/-! ### lists of numbers in order, as Python compares them -/
def intsOf (l : List Nat) : List Int := l.map fun n : Nat => (n : Int)
theorem listLt_ints : ∀ a b : List Nat, PySem.W.listLt (intsOf a) (intsOf b) = K02.lexLt a b
  | [], [] => rfl
  | [], _ :: _ => rfl
  | _ :: _, [] => rfl
  | x :: xs, y :: ys => by
    show (if (x : Int) = (y : Int) then PySem.W.listLt (intsOf xs) (intsOf ys) else decide ((x : Int) < (y : Int))) = if x = y then K02.lexLt xs ys else decide (x < y)
    by_cases e : x = y
    · rw [if_pos e, if_pos (by rw [e]), listLt_ints xs ys]
    · rw [if_neg e, if_neg (by omega)]
      exact decide_eq_decide.mpr (by omega)
theorem ints_inj {a b : List Nat} (h : intsOf a = intsOf b) : a = b := by
  have h1 : PySem.W.listLt (intsOf a) (intsOf b) = false := by rw [h, listLt_ints]; exact lex_irr b
  have h2 : PySem.W.listLt (intsOf b) (intsOf a) = false := by rw [h, listLt_ints]; exact lex_irr b
  rw [listLt_ints] at h1 h2
  exact lex_anti h1 h2
theorem min_ints (x : List Nat) : ∀ xs : List (List Nat), ∃ y, PySem.W.minOf (intsOf x) (xs.map intsOf) = intsOf y ∧ y ∈ x :: xs ∧ ∀ z ∈ x :: xs, K02.lexLt z y = false
  | [] => ⟨x, rfl, List.mem_singleton.mpr rfl, fun z hz => by rw [List.mem_singleton.mp hz]; exact lex_irr x⟩
  | u :: us => by
    show ∃ y, PySem.W.minOf (if PySem.W.listLt (intsOf u) (intsOf x) = true then intsOf u else intsOf x) (us.map intsOf) = intsOf y ∧ _
    rw [listLt_ints]
    cases h : K02.lexLt u x with
    | true =>
      rw [if_pos rfl]
      obtain ⟨y, h1, h2, h3⟩ := min_ints u us
      refine ⟨y, h1, List.mem_cons_of_mem _ h2, fun z hz => ?_⟩
      rcases List.mem_cons.mp hz with e | e
      · rw [e]
        exact lex_le_trans (h3 u List.mem_cons_self) (lex_asym h)
      · exact h3 z e
    | false =>
      rw [if_neg Bool.false_ne_true]
      obtain ⟨y, h1, h2, h3⟩ := min_ints x us
      refine ⟨y, h1, ?_, fun z hz => ?_⟩
      · rcases List.mem_cons.mp h2 with e | e
        · rw [e]
          exact List.mem_cons_self
        · exact List.mem_cons_of_mem _ (List.mem_cons_of_mem _ e)
      · rcases List.mem_cons.mp hz with e | e
        · rw [e]
          exact h3 x List.mem_cons_self
        · rcases List.mem_cons.mp e with e | e
          · rw [e]
            exact lex_le_trans (h3 x List.mem_cons_self) h
          · exact h3 z (List.mem_cons_of_mem _ e)
theorem dpAll_nV {K : PySem.W.Frag} {H : Hp} : ∀ l : List Nat, DpAll K H (l.map nV) ((intsOf l).map PySem.W.Datum.toD)
  | [] => .nil
  | x :: r => .cons (.int (x : Int)) (dpAll_nV r)
theorem dp_list {K : PySem.W.Frag} {H : Hp} {p : Addr} {l : List Nat} (h : SqL K H p (l.map nV)) : Dp K H (.ref p) (PySem.W.Datum.toD (intsOf l)) := .lst h (dpAll_nV l)
/-! ### dicts of lists -/
/-- at d a dict from numbers to lists of numbers, the lists new since H0 -/
def DW (H0 H : Hp) (d : Addr) (ws : List (Nat × List Nat)) : Prop := ∃ wa : List (Nat × Addr), H d = some (.dK (dkN V.ref wa)) ∧ Paired (fun p q => p.1 = q.1 ∧ H0 p.2 = none ∧ H p.2 = some (.lst (q.2.map nV))) wa ws
theorem DW.same {H0 H H' : Hp} {d : Addr} {ws : List (Nat × List Nat)} (h : DW H0 H d ws) (s : Same H H') : DW H0 H' d ws := by
  obtain ⟨wa, h1, h2⟩ := h
  exact ⟨wa, s _ _ h1, P_mono (fun _ _ ⟨e1, e2, e3⟩ => ⟨e1, e2, s _ _ e3⟩) h2⟩
theorem pw_look {H0 H : Hp} : ∀ {wa : List (Nat × Addr)} {ws : List (Nat × List Nat)}, Paired (fun p q => p.1 = q.1 ∧ H0 p.2 = none ∧ H p.2 = some (.lst (q.2.map nV))) wa ws → ∀ k, (look ws k = none ∧ look wa k = none) ∨ ∃ x l, look ws k = some l ∧ look wa k = some x ∧ H0 x = none ∧ H x = some (.lst (l.map nV))
  | _, _, .nil, k => .inl ⟨rfl, rfl⟩
  | p :: _, q :: _, .cons ⟨e1, e2, e3⟩ r, k => by
    unfold look
    by_cases e : q.1 = k
    · rw [if_pos e, if_pos (e1.trans e)]
      exact .inr ⟨p.2, q.2, rfl, rfl, e2, e3⟩
    · rw [if_neg e, if_neg (fun z => e (e1.symm.trans z))]
      exact pw_look r k
theorem pw_keys {H0 H : Hp} : ∀ {wa : List (Nat × Addr)} {ws : List (Nat × List Nat)}, Paired (fun p q => p.1 = q.1 ∧ H0 p.2 = none ∧ H p.2 = some (.lst (q.2.map nV))) wa ws → wa.map (·.1) = ws.map (·.1)
  | _, _, .nil => rfl
  | p :: _, q :: _, .cons ⟨e1, _, _⟩ r => by rw [List.map_cons, List.map_cons, e1, pw_keys r]
theorem pw_put {H0 H : Hp} {k : Nat} {x : Addr} {l : List Nat} (h0 : H0 x = none) (hx : H x = some (.lst (l.map nV))) : ∀ {wa : List (Nat × Addr)} {ws : List (Nat × List Nat)}, Paired (fun p q => p.1 = q.1 ∧ H0 p.2 = none ∧ H p.2 = some (.lst (q.2.map nV))) wa ws →
    Paired (fun p q => p.1 = q.1 ∧ H0 p.2 = none ∧ H p.2 = some (.lst (q.2.map nV))) (put wa k x) (put ws k l)
  | _, _, .nil => .cons ⟨rfl, h0, hx⟩ .nil
  | p :: _, q :: _, .cons ⟨e1, e2, e3⟩ r => by
    unfold put
    by_cases e : q.1 = k
    · rw [if_pos e, if_pos (e1.trans e)]
      exact .cons ⟨e1, h0, hx⟩ r
    · rw [if_neg e, if_neg (fun z => e (e1.symm.trans z))]
      exact .cons ⟨e1, e2, e3⟩ (pw_put h0 hx r)
theorem DW.get {H0 H : Hp} {d : Addr} {ws : List (Nat × List Nat)} (h : DW H0 H d ws) (k : Nat) : (look ws k = none ∧ DGet H d (nV k) none) ∨ ∃ x l, look ws k = some l ∧ DGet H d (nV k) (some (V.ref x)) ∧ H0 x = none ∧ H x = some (.lst (l.map nV)) := by
  obtain ⟨wa, h1, h2⟩ := h
  have g := dget_n (k := k) h1
  rcases pw_look h2 k with ⟨e1, e2⟩ | ⟨x, l, e1, e2, e3, e4⟩
  · rw [e2] at g
    exact .inl ⟨e1, g⟩
  · rw [e2] at g
    exact .inr ⟨x, l, e1, g, e3, e4⟩
theorem DW.store {H0 H : Hp} {d x : Addr} {ws : List (Nat × List Nat)} {k : Nat} {l : List Nat} (h : DW H0 H d ws) (h0 : H0 x = none) (hx : H x = some (.lst (l.map nV))) (hn : (ws.map (·.1)).Nodup) (hl : ws.length < sizeLine) :
    ∃ H', DPut H d (nV k) (V.ref x) H' ∧ DW H0 H' d (put ws k l) ∧ ∀ b o, b ≠ d → H b = some o → H' b = some o := by
  obtain ⟨wa, h1, h2⟩ := h
  have ek := pw_keys h2
  have el : wa.length = ws.length := P_len h2
  refine ⟨_, dput_n (f := V.ref) (k := k) (v := x) h1 (by rw [el]; exact hl) (by rw [ek]; exact hn), ⟨put wa k x, upd_same, ?_⟩, fun b o hb e => by rw [upd_ne hb]; exact e⟩
  refine P_mono (fun p q ⟨e1, e2, e3⟩ => ⟨e1, e2, ?_⟩) (pw_put h0 hx h2)
  rw [upd_ne (ne_of e3 h1 (by intro z; cases z))]
  exact e3
/-- refs of lists of numbers -/
def RL (H0 H : Hp) (xs : List Addr) (ls : List (List Nat)) : Prop := Paired (fun x l => H0 x = none ∧ H x = some (.lst (l.map nV))) xs ls
theorem RL.same {H0 H H' : Hp} {xs : List Addr} {ls : List (List Nat)} (h : RL H0 H xs ls) (s : Same H H') : RL H0 H' xs ls := P_mono (fun _ _ ⟨e1, e2⟩ => ⟨e1, s _ _ e2⟩) h
theorem RL.dp {K : PySem.W.Frag} {H0 H : Hp} : ∀ {xs : List Addr} {ls : List (List Nat)}, RL H0 H xs ls → DpAll K H (xs.map V.ref) ((ls.map intsOf).map PySem.W.Datum.toD)
  | _, _, .nil => .nil
  | _, _, .cons ⟨_, e⟩ r => .cons (dp_list (SqL.of e)) (RL.dp r)
theorem rings_take {ps : PL} {o i : Nat} {W : Nat → Option (List Nat)} {p : Nat × Nat} (h : ps[i]? = some p) : ringsOf (ps.take (i + 1)) o W = ringsOf (ps.take i) o W ++ (match (if p.2 = o then W p.1 else none) with | none => [] | some l => [l]) := by
  unfold ringsOf
  rw [take_more h, List.filterMap_append]
  congr 1
  cases e : (if p.2 = o then W p.1 else none) <;> simp [List.filterMap_cons, e]
section
variable {P : Program} {w : World} {K : PySem.W.Frag} {mg : Str → Option Value} {base : Heap}
/-! ### the least ring, by the program -/
def sp_ring (K : PySem.W.Frag) : Sp := fun vs H Q _ => ∃ (a : Addr) (m : Nat) (us : List V) (ps : PL), vs = [nV m, .ref a] ∧ Sq K H a us ∧ Prs K H us ps ∧ Within m ps ∧ m ≤ 100 ∧ ps.length ≤ 1000 ∧ ∀ v H', Same H H' → OutL H H' v (best ps m) → Q v H'
theorem ok_ring {f f1 : Addr} {fd fd1 : FuncData} (F : Fun K "least_ring" "least_ring" sleast_ring f fd) (T : Txt mg) (C_ring_from : Cal P w K mg base 2 "_ring_from" ["befores", "afters", "start"] sp_ringfrom f1 fd1) : FnOk P w K mg base CX0 3 f fd ["many", "pairs"] (sp_ring K) := by
  refine F.ok scleast_ring (fun vs H Q E h => ?_) (fun cdv A outer s H vs Q E hr h => ?_)
  · obtain ⟨a, m, us, ps, rfl, _⟩ := h
    rfl
  · obtain ⟨a, m, us, ps, rfl, hA, hP, hW, hm, hps, q⟩ := h
    refine ⟨_, (pss_cons (ps_setLc (i := 2) (own := [("_", 9)]) (g := gName 9) (tt := tYes) rfl scleast_ring.nd rfl rfl (sw_true rfl rfl rfl (by decide +kernel)) (pi_range1 rfl T.range (pa_cons (pv 0) pa_nil)) (blkOk_by (N := ["many", "pairs", "befores", "afters", "before", "after", "best", "start", "ring", "_"]) (sc := defScope sleast_ring) (by decide +kernel)) (fun _ _ _ _ _ => (pg_name (i := 9) scleast_ring.nd rfl (.inl rfl))) (fun _ _ _ _ _ => pts_nil) (fun _ _ _ _ _ => (pe_lst pa_nil)))
 (pss_cons (ps_setLc (i := 3) (own := [("_", 9)]) (g := gName 9) (tt := tYes) rfl scleast_ring.nd rfl rfl (sw_true rfl rfl rfl (by decide +kernel)) (pi_range1 rfl T.range (pa_cons (pv 0) pa_nil)) (blkOk_by (N := ["many", "pairs", "befores", "afters", "before", "after", "best", "start", "ring", "_"]) (sc := defScope sleast_ring) (by decide +kernel)) (fun _ _ _ _ _ => (pg_name (i := 9) scleast_ring.nd rfl (.inl rfl))) (fun _ _ _ _ _ => pts_nil) (fun _ _ _ _ _ => (pe_lst pa_nil)))
 (pss_cons (ps_for PassesOwn.never rfl (pi_seq (pv 1)) (pg_tup rfl (pgs_cons (pg_name (i := 4) scleast_ring.nd rfl (.inl rfl)) (pgs_cons (pg_name (i := 5) scleast_ring.nd rfl (.inl rfl)) pgs_nil)))
 (pss_cons (ps_expr (pe_bm PySem.F.plainAttrs_list PySem.F.slot_list_append PySem.F.type_list_append mt_append (pe_ix ix_list (pv 2) (pv 5) (fun _ _ => rfl)) (pa_cons (pv 4) pa_nil)))
 (pss_one (ps_expr (pe_bm PySem.F.plainAttrs_list PySem.F.slot_list_append PySem.F.type_list_append mt_append (pe_ix ix_list (pv 3) (pv 4) (fun _ _ => rfl)) (pa_cons (pv 5) pa_nil))))))
 (pss_cons (ps_set (i := 6) scleast_ring.nd rfl (.inl rfl) pe_non)
 (pss_cons (ps_for PassesOwn.never rfl (pi_range1 rfl T.range (pa_cons (pv 0) pa_nil)) (pg_name (i := 7) scleast_ring.nd rfl (.inl rfl))
 (pss_cons (ps_set (i := 8) scleast_ring.nd rfl (.inl rfl) (pe_call C_ring_from.ok (hr.mono (by decide)) (by rfl) C_ring_from.mg C_ring_from.kp C_ring_from.b .nil pass0 (pa_cons (pv 2) (pa_cons (pv 3) (pa_cons (pv 7) pa_nil)))))
 (pss_one (ps_if (PW.pt (pw_and (pt_cmpR op_notN (pv 8) pe_non (nomark _)) (pw_and1 (PW.pt (pw_or (pt_cmpR op_isN (pv 6) pe_non (nomark _)) (pw_or1 (pt_cmpR op_lt (pe_callB call_len_seq (by rfl) T.len (by decide +kernel) (pa_cons (pv 8) pa_nil)) (pe_callB call_len_seq (by rfl) T.len (by decide +kernel) (pa_cons (pv 6) pa_nil)) (nomark _))))))))
 (pss_one (ps_set (i := 6) scleast_ring.nd rfl (.inl rfl) (pv 8)))
 pss_nil))))
 (pss_one (ps_ret (pv 6)))))))), ?_⟩
    refine ⟨_, rfl, _, rfl, (by omega), (by omega), fun D nD => ?_⟩
    rw [show ((m : Nat) : Int).toNat = m by omega]
    refine lc_range (lo := 0) (n := m) (fun i H' => Same H H' ∧ LL H H' D (List.replicate i [])) ⟨(Same.refl H).new nD, LL.nil nD⟩ ?_ ?_
    · rintro i H' hi ⟨sm, ll⟩
      refine ⟨rfl, Nat.zero_le _, fun p np => ?_⟩
      obtain ⟨vs, hv, hvl⟩ := ll.lst
      have hDp : D ≠ p := ne_of_none hv np
      refine ⟨vs, by rw [upd_ne hDp]; exact hv, by rw [hvl, List.length_replicate]; exact szl (by omega), (sm.new np).mut nD, ?_⟩
      rw [List.replicate_succ']
      exact ll.snoc sm np hv []
    rintro H1 ⟨sm1, ll1⟩
    refine ⟨_, rfl, _, rfl, (by omega), (by omega), fun B nB => ?_⟩
    rw [show ((m : Nat) : Int).toNat = m by omega]
    refine lc_range (lo := 0) (n := m) (fun i H' => Same H1 H' ∧ LL H1 H' B (List.replicate i [])) ⟨(Same.refl H1).new nB, LL.nil nB⟩ ?_ ?_
    · rintro i H' hi ⟨sm, ll⟩
      refine ⟨rfl, Nat.zero_le _, fun p np => ?_⟩
      obtain ⟨vs, hv, hvl⟩ := ll.lst
      have hDp : B ≠ p := ne_of_none hv np
      refine ⟨vs, by rw [upd_ne hDp]; exact hv, by rw [hvl, List.length_replicate]; exact szl (by omega), (sm.new np).mut nB, ?_⟩
      rw [List.replicate_succ']
      exact ll.snoc sm np hv []
    rintro H2 ⟨sm2, ll2⟩
    rw [← befs_nil] at ll1
    rw [← afts_nil] at ll2
    obtain ⟨as1, lx1, f1⟩ := ll1.lx
    obtain ⟨as2, lx2, f2⟩ := ll2.lx
    have old1 : ∀ x ∈ as1, ∃ o, H1 x = some o := fun x hx => by
      obtain ⟨i, hi⟩ := List.getElem?_of_mem hx
      obtain ⟨l, _, e⟩ := P_right lx1.ins hi
      exact ⟨_, e⟩
    have hDB : D ≠ B := ne_of_none lx1.top nB
    have d12 : ∀ x ∈ as1, x ≠ B ∧ x ∉ as2 := fun x hx => by
      obtain ⟨o, ho⟩ := old1 x hx
      exact ⟨ne_of_none ho nB, fun z => by rw [f2 x z] at ho; cases ho⟩
    have d21 : ∀ x ∈ as2, x ≠ D ∧ x ∉ as1 := fun x hx => ⟨fun z => (by rw [z] at hx; have := f2 D hx; rw [lx1.top] at this; cases this), fun z => (d12 x z).2 hx⟩
    have g1 : ∀ x ∈ as1, H x = none := f1
    have g2 : ∀ x ∈ as2, H x = none := fun x hx => sm1.free (f2 x hx)
    refine ⟨_, rfl, for_seq hA (sm1.trans sm2) (fun i σ H' => ∃ (v4 v5 : Option V), σ = [some (nV m), some (.ref a), some (.ref D), some (.ref B), v4, v5, none, none, none, none] ∧ Same H H' ∧ LX H' D as1 (befs m (ps.take i)) ∧ LX H' B as2 (afts m (ps.take i))) ⟨_, _, rfl, sm1.trans sm2, lx1.same sm2, lx2⟩ (fun i σ' H' _ ⟨_, _, _, sm, _⟩ => sm) ?_ ?_⟩
    · rintro i y σ H' hi ⟨v4, v5, rfl, sm, l1, l2⟩
      obtain ⟨⟨x1, x2⟩, hx, t, rfl, ht⟩ := P_right (hP.same sm) hi
      obtain ⟨w1, w2⟩ := hW _ (List.mem_of_getElem? hx)
      obtain ⟨x, hxi, hxm, hvx, hxl⟩ := l1.at (befs_at (ps.take i) w2)
      refine ⟨t, _, rfl, ht, rfl, _, _, rfl, _, _, rfl, rfl, ?_⟩
      refine ⟨_, rfl, _, rfl, D, _, _, _, rfl, rfl, SqL.of l1.top, at_n hvx, .inl ⟨rfl, _, SqL.of hxl⟩, _, rfl, x, _, _, rfl, rfl, hxl, ?_, ?_⟩
      · rw [List.length_map]
        have := bef_len (ps.take i) x2
        exact szl (Nat.le_trans this (Nat.le_trans (List.length_take_le' _ _) (by omega)))
      have l1' := l1.grow hxi (bef (ps.take i) x2 ++ [x1])
      rw [befs_step hx, List.map_append] at l1'
      have l2' := l2.frame (o := .lst ((bef (ps.take i) x2).map nV ++ [nV x1])) (d12 x hxm).1 (d12 x hxm).2
      obtain ⟨y, hyi, hym, hvy, hyl⟩ := l2'.at (afts_at (ps.take i) w1)
      refine ⟨_, rfl, _, rfl, B, _, _, _, rfl, rfl, SqL.of l2'.top, at_n hvy, .inl ⟨rfl, _, SqL.of hyl⟩, _, rfl, y, _, _, rfl, rfl, hyl, ?_, ?_⟩
      · rw [List.length_map]
        have := aft_len (ps.take i) x1
        exact szl (Nat.le_trans this (Nat.le_trans (List.length_take_le' _ _) (by omega)))
      have l2'' := l2'.grow hyi (aft (ps.take i) x1 ++ [x2])
      rw [afts_step hx, List.map_append] at l2''
      exact ⟨_, _, rfl, (sm.mut (g1 x hxm)).mut (g2 y hym), l1'.frame (d21 y hym).1 (d21 y hym).2, l2''⟩
    rintro σ H3 ⟨v4, v5, rfl, sm3, l1, l2⟩
    rw [show us.length = ps.length from P_len hP, List.take_length] at l1 l2
    refine ⟨_, rfl, _, rfl, (by omega), (by omega), ?_⟩
    rw [show ((m : Nat) : Int).toNat = m by omega]
    refine for_range (lo := 0) (n := m) (fun i σ H' => ∃ (v4 v5 v7 v8 : Option V) (b : V), σ = [some (nV m), some (.ref a), some (.ref D), some (.ref B), v4, v5, some b, v7, v8, none] ∧ Same H3 H' ∧ OutL H H' b (best ps i))
      ⟨_, _, _, _, _, rfl, Same.refl H3, rfl⟩ ?_ ?_
    · rintro i σ H' hi ⟨v4, v5, v7, v8, b, rfl, sm, ob⟩
      rw [show (0 : Int) + (i : Int) = (i : Int) by omega]
      refine ⟨_, rfl, _, rfl, _, rfl, D, B, m, i, ps, rfl, l1.lr.same sm, l2.lr.same sm, hW, hi, hm, hps, fun v H4 s4 o4 => ?_⟩
      have t4 : Same H H4 := (sm3.trans sm).trans s4
      have ob4 := ob.same s4
      have o4' : OutL H H4 v (ringOf ps i) := by
        cases hx : ringOf ps i with
        | none => rw [hx] at o4; exact o4
        | some l =>
          rw [hx] at o4
          obtain ⟨p, e, h0, hp⟩ := o4
          exact ⟨p, e, (sm3.trans sm).free h0, hp⟩
      cases hx : ringOf ps i with
      | none =>
        have ev : v = .non := by rw [hx] at o4'; exact o4'
        subst ev
        refine ⟨_, rfl, rfl, _, rfl, iteF (iteF ⟨_, _, _, _, b, rfl, sm.trans s4, ?_⟩)⟩
        show OutL H H4 b (pick (best ps i) (ringOf ps i))
        rw [hx]
        exact ob4
      | some l =>
        obtain ⟨p, rfl, hp0, hp⟩ : ∃ p, v = .ref p ∧ H p = none ∧ H4 p = some (.lst (l.map nV)) := by rw [hx] at o4'; exact o4'
        refine ⟨_, rfl, rfl, _, rfl, iteT ?_⟩
        cases hb : best ps i with
        | none =>
          have eb : b = .non := by rw [hb] at ob4; exact ob4
          subst eb
          refine ⟨_, rfl, rfl, _, rfl, iteT (iteT ⟨_, rfl, _, _, _, _, _, rfl, sm.trans s4, ?_⟩)⟩
          show OutL H H4 _ (pick (best ps i) (ringOf ps i))
          rw [hx, hb]
          exact ⟨p, rfl, hp0, hp⟩
        | some l0 =>
          obtain ⟨p0, rfl, hp00, hp1⟩ : ∃ p, b = .ref p ∧ H p = none ∧ H4 p = some (.lst (l0.map nV)) := by rw [hb] at ob4; exact ob4
          refine ⟨_, rfl, rfl, _, rfl, iteF ⟨_, rfl, p, _, rfl, .inl (SqL.of hp), _, rfl, p0, _, rfl, .inl (SqL.of hp1), _, _, rfl, rfl, _, rfl, ite2 (fun hlt => ?_) (fun hge => ?_)⟩⟩
          · have hlt' : l.length < l0.length := by
              have := of_decide_eq_true hlt
              rw [List.length_map, List.length_map] at this
              omega
            refine ⟨_, rfl, _, _, _, _, _, rfl, sm.trans s4, ?_⟩
            show OutL H H4 _ (pick (best ps i) (ringOf ps i))
            rw [hx, hb]
            show OutL H H4 _ (if l.length < l0.length then some l else some l0)
            rw [if_pos hlt']
            exact ⟨p, rfl, hp0, hp⟩
          · have hge' : ¬ l.length < l0.length := fun z => hge (decide_eq_true (by rw [List.length_map, List.length_map]; omega))
            refine ⟨_, _, _, _, _, rfl, sm.trans s4, ?_⟩
            show OutL H H4 _ (pick (best ps i) (ringOf ps i))
            rw [hx, hb]
            show OutL H H4 _ (if l.length < l0.length then some l else some l0)
            rw [if_neg hge']
            exact ⟨p0, rfl, hp00, hp1⟩
    · rintro σ H' ⟨v4, v5, v7, v8, b, rfl, sm, ob⟩
      exact ⟨_, rfl, q b H' (sm3.trans sm) ob⟩
end
end K02W

namespace K02W
open PySem PySem.Spec PyProof.Rows L2 K02 KH
section
variable {P : Program} {w : World} {K : PySem.W.Frag} {mg : Str → Option Value} {base : Heap}
theorem _root_.L2.DGet.same {H H' : Hp} {a : Addr} {y : V} {r : Option V} (h : DGet H a y r) (s : Same H H') : DGet H' a y r := by
  have rd : ∀ {u : HO} {b : Addr}, Rd H b u → Rd H' b u := fun h => by
    rcases h with h | ⟨o, h⟩
    · exact .inl (s _ _ h)
    · exact .inr ⟨o, s _ _ h⟩
  rcases h with ⟨kvs, k, h1, h2, h3⟩ | ⟨kvs, k, b, h1, h2, h3, h4⟩
  · exact .inl ⟨kvs, k, rd h1, h2, h3⟩
  · exact .inr ⟨kvs, k, b, rd h1, h2, s _ _ h3, h4⟩
/-! ### the least ring, by the law -/
def sp_lring (K : PySem.W.Frag) : Sp := fun vs H Q _ => ∃ (a : Addr) (m : Nat) (us : List V) (ps : PL), vs = [nV m, .ref a] ∧ SqL K H a us ∧ Prs K H us ps ∧ Within m ps ∧ m ≤ 100 ∧ ps.length ≤ 1000 ∧ ∀ v H', Same H H' → OutL H H' v (best ps m) → Q v H'
theorem ok_lring {f : Addr} {fd : FuncData} (F : Fun K "_law_ring" "_law_ring" s_law_ring f fd) (T : Txt mg) : FnOk P w K mg base CX0 1 f fd ["many", "pairs"] (sp_lring K) := by
  refine F.ok sc_law_ring (fun vs H Q E h => ?_) (fun cdv A outer s H vs Q E hr h => ?_)
  · obtain ⟨a, m, us, ps, rfl, _⟩ := h
    rfl
  · obtain ⟨a, m, us, ps, rfl, hA, hP, hW, hm, hps, q⟩ := h
    have hul : us.length = ps.length := P_len hP
    refine ⟨_, (pss_cons (ps_set (i := 2) sc_law_ring.nd rfl (.inl rfl) pe_non)
 (pss_cons (ps_for PassesOwn.never rfl (pi_range1 rfl T.range (pa_cons (pv 0) pa_nil)) (pg_name (i := 3) sc_law_ring.nd rfl (.inr rfl))
 (pss_cons (ps_set (i := 4) sc_law_ring.nd rfl (.inr rfl) (pe_disp (pps_cons (pv 3) (pe_lst (pa_cons (pv 3) pa_nil)) pps_nil) (by rfl) (by rfl) (fun z => by cases z) (by decide)))
 (pss_one (ps_for PassesOwn.never rfl (pi_range1 rfl T.range (pa_cons (pv 0) pa_nil)) (pg_name (i := 5) sc_law_ring.nd rfl (.inl rfl))
 (pss_cons (ps_if (PW.pt (pw_and (pt_cmpR op_notN (pv 2) pe_non (nomark _)) (pw_and1 (pt_cmpR op_ge (pe_op op_add (pv 5) pe_int) (pe_callB call_len_seq (by rfl) T.len (by decide +kernel) (pa_cons (pv 2) pa_nil)) (nomark _)))))
 (pss_one ps_break)
 pss_nil)
 (pss_cons (ps_setLc (i := 6) (own := [("pair", 10)]) (g := gName 10) rfl sc_law_ring.nd rfl rfl (sw_true rfl rfl rfl (by decide +kernel)) (pi_list (pv 1)) (blkOk_by (N := ["many", "pairs", "best", "origin", "walks", "k", "rings", "longer", "one", "two", "pair"]) (sc := defScope s_law_ring) (by decide +kernel)) (fun _ _ _ _ _ => (pg_name (i := 10) sc_law_ring.nd rfl (.inl rfl))) (fun _ _ _ _ _ => pts_one (PW.pt (pw_and (pt_cmpR op_eq (pe_ix (r := rIxT K) ix_tup (pv 10) pe_int (fun _ _ => rfl)) (pv 3) (nomark _)) (pw_and1 (pt_cmp (pc_din (hu_of hr) (pe_ix (r := rIxT K) ix_tup (pv 10) pe_int (fun _ _ => rfl)) (pv 4))))))) (fun _ _ _ _ _ => (pe_dget (hu_of hr) (pv 4) (pe_ix (r := rIxT K) ix_tup (pv 10) pe_int (fun _ _ => rfl)) (fun _ _ => rfl))))
 (pss_cons (ps_if (pt_cmpR op_gt (pe_callB call_len_seq (by rfl) T.len (by decide +kernel) (pa_cons (pv 6) pa_nil)) pe_int (nomark _))
 (pss_cons (ps_set (i := 2) sc_law_ring.nd rfl (.inl rfl) (pe_callB (cr_minA (List Int) rfl hr.units (by decide)) (by rfl) T.min (by decide +kernel) (pa_cons (pv 6) pa_nil)))
 (pss_one ps_break))
 pss_nil)
 (pss_cons (ps_set (i := 7) sc_law_ring.nd rfl (.inl rfl) pe_dnewK)
 (pss_cons (ps_for PassesOwn.never rfl (pi_list (pv 1)) (pg_tup rfl (pgs_cons (pg_name (i := 8) sc_law_ring.nd rfl (.inl rfl)) (pgs_cons (pg_name (i := 9) sc_law_ring.nd rfl (.inl rfl)) pgs_nil)))
 (pss_one (ps_if (PW.pt (pw_and (pt_cmpR op_gt (pv 9) (pv 3) (nomark _)) (pw_and (pt_cmp (pc_din (hu_of hr) (pv 8) (pv 4))) (pw_and1 (PW.pt (pw_or (pt_cmp (pc_dnotin (hu_of hr) (pv 9) (pv 7))) (pw_or1 (pt_cmpR (op_ltA (List Int) hr.units (by decide)) (pe_op op_cat (pe_dget (hu_of hr) (pv 4) (pv 8) (fun _ _ => rfl)) (pe_lst (pa_cons (pv 9) pa_nil))) (pe_dget (hu_of hr) (pv 7) (pv 9) (fun _ _ => rfl)) (nomark _)))))))))
 (pss_one (ps_dput (hu_of hr) (pv 7) (pv 9) (pe_op op_cat (pe_dget (hu_of hr) (pv 4) (pv 8) (fun _ _ => rfl)) (pe_lst (pa_cons (pv 9) pa_nil))) rfl))
 pss_nil)))
 (pss_one (ps_set (i := 4) sc_law_ring.nd rfl (.inr rfl) (pv 7))))))))))))
 (pss_one (ps_ret (pv 2))))), ?_⟩
    refine ⟨_, rfl, _, rfl, (by omega), (by omega), ?_⟩
    rw [show ((m : Nat) : Int).toNat = m by omega]
    refine for_range (lo := 0) (n := m) (fun i σ H' => ∃ (b : V) (v3 v4 v5 v6 v7 v8 v9 : Option V), σ = [some (nV m), some (.ref a), some b, v3, v4, v5, v6, v7, v8, v9, none] ∧ Same H H' ∧ OutL H H' b (best ps i))
      ⟨_, _, _, _, _, _, _, _, rfl, Same.refl H, rfl⟩ ?_ ?_
    · rintro i σ H1 hi ⟨b, v3, v4, v5, v6, v7, v8, v9, rfl, sm1, ob1⟩
      rw [show (0 : Int) + (i : Int) = (i : Int) by omega]
      -- walks = {origin: [origin]}
      refine fun dw ndw => ⟨_, rfl, _, rfl, (by show 1 ≤ sizeLine; decide), fun x nx => ?_⟩
      have hxd : x ≠ dw := fun z => by rw [z, upd_same] at nx; cases nx
      have nx1 : H1 x = none := by rw [upd_ne hxd] at nx; exact nx
      refine ⟨by rw [upd_ne (Ne.symm hxd)]; exact upd_same, [(Sum.inl (i : Int), .ref x)], rfl, (by show 1 ≤ 15; decide), ?_⟩
      refine ⟨_, rfl, _, rfl, (by omega), (by omega), ?_⟩
      rw [show ((m : Nat) : Int).toNat = m by omega]
      refine for_range (lo := 0) (n := m) (fun k σ H' => ∃ (dw : Addr) (ws : List (Nat × List Nat)) (v5 v6 v7 v8 v9 : Option V), σ = [some (nV m), some (.ref a), some b, some (nV i), some (.ref dw), v5, v6, v7, v8, v9, none] ∧ Same H1 H' ∧ DW H H' dw ws ∧ IsWalks ps i k (look ws) ∧ (ws.map (·.1)).Nodup ∧ (∀ y ∈ ws.map (·.1), y < m) ∧ ∀ r, Cl ps i i r → k ≤ r.length)
        ⟨dw, [(i, [i])], _, _, _, _, _, rfl, ?_, ?_, walks_start ps i, by simp, fun y hy => ?_, fun r _ => Nat.zero_le _⟩ ?_ ?_
      · exact (((Same.refl H1).new ndw).new nx).mut ndw
      · refine ⟨[(i, x)], upd_same, .cons ⟨rfl, sm1.free nx1, ?_⟩ .nil⟩
        rw [upd_ne hxd, upd_same]
        rfl
      · have : y = i := by simpa using hy
        omega
      · rintro k σ H2 hk ⟨dw, ws, v5, v6, v7, v8, v9, rfl, sm2, dW, hWk, hnd, hfew, hno⟩
        rw [show (0 : Int) + (k : Int) = (k : Int) by omega]
        have t2 : Same H H2 := sm1.trans sm2
        have ob2 := ob1.same sm2
        have wlen : ws.length ≤ m := by
          have := nodup_len m (ws.map (·.1)) hnd hfew
          rwa [List.length_map] at this
        cases hb : best ps i with
        | none =>
          have eb : b = .non := by rw [hb] at ob2; exact ob2
          have hshort : ∀ l, best ps i = some l → k + 1 < l.length := fun l hl => by rw [hb] at hl; cases hl
          subst eb
          refine ⟨_, rfl, rfl, _, rfl, iteF (iteF ?_)⟩
          -- rings
          refine ⟨_, rfl, a, rfl, ⟨_, t2.seq hA⟩, fun B nB => ?_⟩
          have nB0 : H B = none := t2.free nB
          refine lc_list (K := K) (a := a) (xs := us) (fun j H' => Same H2 H' ∧ ∃ xs : List Addr, H' B = some (.lst (xs.map V.ref)) ∧ RL H H2 xs (ringsOf (ps.take j) i (look ws))) ⟨(Same.refl H2).new nB, [], upd_same, .nil⟩ (fun j H' _ ⟨s3, _⟩ => (t2.trans s3).seq hA) ?_ ?_
          · rintro j y H3 hj ⟨s3, xs, eB, rl⟩
            obtain ⟨⟨x1, x2⟩, hx, t, rfl, ht⟩ := P_right (hP.same (t2.trans s3)) hj
            have er := rings_take (o := i) (W := look ws) hx
            have xl : xs.length ≤ 1000 := by
              rw [P_len rl]
              unfold ringsOf
              exact Nat.le_trans (List.length_filterMap_le _ _) (Nat.le_trans (List.length_take_le' _ _) hps)
            have same0 : (if x2 = i then look ws x1 else none) = none → Same H2 H3 ∧ ∃ xs : List Addr, H3 B = some (.lst (xs.map V.ref)) ∧ RL H H2 xs (ringsOf (ps.take (j + 1)) i (look ws)) := fun z => ⟨s3, xs, eB, by rw [er]; dsimp only; rw [z]; simpa using rl⟩
            refine ⟨rfl, _, rfl, t, _, 1, nV x2, rfl, rfl, ht, at_n (j := 1) rfl, _, rfl, rfl, _, rfl, ?_⟩
            by_cases hxi : x2 = i
            · subst hxi
              rw [decide_eq_true rfl]
              rcases dW.get x1 with ⟨e1, g⟩ | ⟨z, l, e1, g, hz0, hz⟩
              · exact iteT ⟨_, rfl, t, _, 0, nV x1, rfl, rfl, ht, at_n (j := 0) rfl, _, rfl, dw, _, rfl, g.same s3, _, rfl, iteF (same0 (by rw [if_pos rfl]; exact e1))⟩
              · refine iteT ⟨_, rfl, t, _, 0, nV x1, rfl, rfl, ht, at_n (j := 0) rfl, _, rfl, dw, _, rfl, g.same s3, _, rfl, iteT ?_⟩
                refine ⟨_, rfl, _, rfl, t, _, 0, nV x1, rfl, rfl, ht, at_n (j := 0) rfl, dw, V.ref z, rfl, g.same s3, _, eB, ?_, s3.mut nB, xs ++ [z], ?_, ?_⟩
                · rw [List.length_map]
                  exact szl (by omega)
                · rw [upd_same, List.map_append]
                  rfl
                · rw [er]
                  dsimp only
                  rw [if_pos rfl, e1]
                  exact P_append rl (.cons ⟨hz0, hz⟩ .nil)
            · rw [decide_eq_false (show ¬ nV x2 = nV i from fun z => hxi (by have := V.int.inj z; omega))]
              exact iteF (iteF (same0 (if_neg hxi)))
          rintro H3 ⟨s3, xs, eB, rl⟩
          rw [hul, List.take_length] at rl
          have t3 : Same H H3 := t2.trans s3
          have rl := rl.same s3
          refine ⟨_, rfl, B, _, rfl, .inl (SqL.of eB), _, _, rfl, rfl, _, rfl, ite2 (fun hgt => ?_) (fun hle => ?_)⟩
          · -- best = min(rings); break
            cases hrg : ringsOf ps i (look ws) with
            | nil =>
              exfalso
              have := P_len rl
              rw [hrg] at this
              have h2 := of_decide_eq_true hgt
              rw [List.length_map, this] at h2
              simp at h2
            | cons l0 ls =>
              rw [hrg] at rl
              obtain ⟨y, hy1, hy2, hy3⟩ := min_ints l0 ls
              refine ⟨_, rfl, B, _, intsOf l0, ls.map intsOf, rfl, SqL.of eB, rl.dp, fun j v hv hmin => ?_⟩
              rw [hy1] at hmin
              obtain ⟨x', hx', rfl⟩ := getn_inv hv
              obtain ⟨l', hl', f1, f2⟩ := P_right rl hx'
              have : (intsOf l0 :: ls.map intsOf)[j]? = some (intsOf l') := by
                show (((l0 :: ls).map intsOf))[j]? = _
                rw [List.getElem?_map, hl']
                rfl
              rw [this] at hmin
              have el := ints_inj (Option.some.inj hmin)
              subst el
              obtain ⟨hring, hlen⟩ := law_ring hWk hno (x := l') (by rw [hrg]; exact hy2) (by rw [hrg]; exact hy3)
              refine ⟨V.ref x', _, _, _, _, _, _, _, rfl, t3, ?_⟩
              show OutL H H3 _ (pick (best ps i) (ringOf ps i))
              rw [pick_new hring (fun l hl => by rw [hlen]; exact hshort l hl)]
              exact ⟨x', rfl, f1, f2⟩
          · have hrg : ringsOf ps i (look ws) = [] := by
              cases hrg : ringsOf ps i (look ws) with
              | nil => rfl
              | cons l0 ls =>
                exfalso
                refine hle (decide_eq_true ?_)
                rw [List.length_map, P_len rl, hrg, List.length_cons]
                omega
            -- longer = {}
            refine fun dl ndl => ?_
            have ndl0 : H dl = none := t3.free ndl
            refine ⟨_, rfl, a, rfl, ⟨_, (t3.new ndl).seq hA⟩, for_list (K := K) (a := a) (xs := us) (fun j σ H' => ∃ (lg : List (Nat × List Nat)) (v8 v9 : Option V), σ = [some (nV m), some (.ref a), some (V.non), some (nV i), some (.ref dw), some (nV k), some (.ref B), some (.ref dl), v8, v9, none] ∧ Same H3 H' ∧ DW H H' dl lg ∧ IsLonger (ps.take j) (look ws) i (look lg) ∧ (lg.map (·.1)).Nodup ∧ ∀ y ∈ lg.map (·.1), y < m)
              ⟨[], _, _, rfl, (Same.refl H3).new ndl, ⟨[], upd_same, .nil⟩, longer_start (look ws) i, List.nodup_nil, fun y hy => by cases hy⟩ (fun j σ H' _ ⟨_, _, _, _, s4, _⟩ => (t3.trans s4).seq hA) ?_ ?_⟩
            · rintro j y σ H4 hj ⟨lg, v8, v9, rfl, s4, dL, hL, lnd, lfew⟩
              have t4 : Same H H4 := t3.trans s4
              obtain ⟨⟨x1, x2⟩, hx, t, rfl, ht⟩ := P_right (hP.same t4) hj
              obtain ⟨w1, w2⟩ := hW _ (List.mem_of_getElem? hx)
              have hst := longer_step (p := (x1, x2)) hL
              rw [← take_more hx] at hst
              have llen : lg.length ≤ m := by
                have := nodup_len m (lg.map (·.1)) lnd lfew
                rwa [List.length_map] at this
              refine ⟨t, _, rfl, ht, rfl, _, _, rfl, _, _, rfl, rfl, ?_⟩
              refine ⟨_, rfl, _, rfl, _, _, rfl, rfl, _, rfl, ite2 (fun hgt => ?_) (fun hng => iteF ?_)⟩
              · have hgt' : i < x2 := by
                  have := of_decide_eq_true hgt
                  omega
                rcases dW.get x1 with ⟨e1, g⟩ | ⟨z, l, e1, g, hz0, hz⟩
                · refine ⟨_, rfl, _, rfl, dw, _, rfl, g.same (s3.trans s4), _, rfl, iteF (iteF ⟨lg, _, _, rfl, s4, dL, ?_, lnd, lfew⟩)⟩
                  have : longerS (look ws) i lg (x1, x2) = lg := by
                    unfold longerS
                    rw [if_pos hgt']
                    dsimp only
                    rw [e1]
                  rw [this] at hst
                  exact hst
                · have zl : l.length ≤ m := by
                    have := (hWk.1 x1 l e1).2
                    omega
                  refine ⟨_, rfl, _, rfl, dw, _, rfl, g.same (s3.trans s4), _, rfl, iteT ?_⟩
                  rcases dL.get x2 with ⟨e2, g2⟩ | ⟨y, m2, e2, g2, hy0, hy⟩
                  · have hLS : longerS (look ws) i lg (x1, x2) = put lg x2 (l ++ [x2]) := by
                      unfold longerS
                      rw [if_pos hgt']
                      dsimp only
                      rw [e1]
                      dsimp only
                      rw [e2]
                    refine ⟨_, rfl, _, rfl, dl, _, rfl, g2, _, rfl, iteT ?_⟩
                    have sX : Same H4 H4 := (Same.refl H4)
                    have gX := (g.same (s3.trans s4)).same sX
                    have hzX : H4 z = some (.lst (l.map nV)) := sX _ _ ((s3.trans s4) _ _ hz)
                    refine iteT ⟨_, rfl, _, rfl, dw, V.ref z, rfl, gX, _, rfl, (by show 1 ≤ sizeLine; decide), fun t1 nt1 => ⟨z, t1, l.map nV, [nV x2], rfl, rfl, by rw [upd_ne (ne_of_none hzX nt1)]; exact hzX, upd_same, by rw [List.length_map]; exact szle (by show l.length + 1 ≤ 10000; omega), fun t2 nt2 => ?_⟩⟩
                    have sY : Same H4 (upd (upd H4 t1 (.lst [nV x2])) t2 (.lst (l.map nV ++ [nV x2]))) := ((Same.refl H4).new nt1).new nt2
                    have t2n : H t2 = none := (t4.trans (sX.new nt1)).free nt2
                    have et2 : (upd (upd H4 t1 (.lst [nV x2])) t2 (.lst (l.map nV ++ [nV x2]))) t2 = some (.lst ((l ++ [x2]).map nV)) := by rw [upd_same, List.map_append]; rfl
                    obtain ⟨H5, hput, dL5, keep⟩ := (dL.same (sX.trans sY)).store (k := x2) t2n et2 lnd (szl (by omega))
                    refine ⟨_, rfl, _, rfl, dl, H5, rfl, hput, put lg x2 (l ++ [x2]), _, _, rfl, fun b' o' e' => keep b' o' (ne_of_none e' ndl) (((s4.trans sX).trans sY) b' o' e'), dL5, ?_, (put_keys x2 (l ++ [x2]) lg lnd).1, fun y hy => ?_⟩
                    · rw [hLS] at hst
                      exact hst
                    · rcases (put_keys x2 (l ++ [x2]) lg lnd).2 y hy with e | e
                      · rw [e]
                        exact w2
                      · exact lfew y e
                  · refine ⟨_, rfl, _, rfl, dl, _, rfl, g2, _, rfl, iteF ?_⟩
                    have hz4 : H4 z = some (.lst (l.map nV)) := (s3.trans s4) _ _ hz
                    refine ⟨_, rfl, _, rfl, dw, V.ref z, rfl, g.same (s3.trans s4), _, rfl, (by show 1 ≤ sizeLine; decide), fun u1 nu1 => ⟨z, u1, l.map nV, [nV x2], rfl, rfl, by rw [upd_ne (ne_of_none hz4 nu1)]; exact hz4, upd_same, by rw [List.length_map]; exact szle (by show l.length + 1 ≤ 10000; omega), fun u2 nu2 => ?_⟩⟩
                    have sZ : Same H4 (upd (upd H4 u1 (.lst [nV x2])) u2 (.lst (l.map nV ++ [nV x2]))) := ((Same.refl H4).new nu1).new nu2
                    refine ⟨_, rfl, _, rfl, dl, V.ref y, rfl, g2.same sZ, intsOf (l ++ [x2]), intsOf m2, dp_list (SqL.of (by rw [upd_same, List.map_append]; rfl)), dp_list (SqL.of (sZ _ _ hy)), _, rfl, ?_⟩
                    show if (PySem.W.listLt (intsOf (l ++ [x2])) (intsOf m2)) = true then _ else _
                    rw [listLt_ints]
                    cases hc : K02.lexLt (l ++ [x2]) m2 with
                    | true =>
                      have hLS : longerS (look ws) i lg (x1, x2) = put lg x2 (l ++ [x2]) := by
                        unfold longerS
                        rw [if_pos hgt']
                        dsimp only
                        rw [e1]
                        dsimp only
                        rw [e2]
                        dsimp only
                        rw [hc, if_pos rfl]
                      have sX : Same H4 (upd (upd H4 u1 (.lst [nV x2])) u2 (.lst (l.map nV ++ [nV x2]))) := sZ
                      have gX := (g.same (s3.trans s4)).same sX
                      have hzX : (upd (upd H4 u1 (.lst [nV x2])) u2 (.lst (l.map nV ++ [nV x2]))) z = some (.lst (l.map nV)) := sX _ _ ((s3.trans s4) _ _ hz)
                      refine iteT ⟨_, rfl, _, rfl, dw, V.ref z, rfl, gX, _, rfl, (by show 1 ≤ sizeLine; decide), fun t1 nt1 => ⟨z, t1, l.map nV, [nV x2], rfl, rfl, by rw [upd_ne (ne_of_none hzX nt1)]; exact hzX, upd_same, by rw [List.length_map]; exact szle (by show l.length + 1 ≤ 10000; omega), fun t2 nt2 => ?_⟩⟩
                      have sY : Same (upd (upd H4 u1 (.lst [nV x2])) u2 (.lst (l.map nV ++ [nV x2]))) (upd (upd (upd (upd H4 u1 (.lst [nV x2])) u2 (.lst (l.map nV ++ [nV x2]))) t1 (.lst [nV x2])) t2 (.lst (l.map nV ++ [nV x2]))) := ((Same.refl (upd (upd H4 u1 (.lst [nV x2])) u2 (.lst (l.map nV ++ [nV x2])))).new nt1).new nt2
                      have t2n : H t2 = none := (t4.trans (sX.new nt1)).free nt2
                      have et2 : (upd (upd (upd (upd H4 u1 (.lst [nV x2])) u2 (.lst (l.map nV ++ [nV x2]))) t1 (.lst [nV x2])) t2 (.lst (l.map nV ++ [nV x2]))) t2 = some (.lst ((l ++ [x2]).map nV)) := by rw [upd_same, List.map_append]; rfl
                      obtain ⟨H5, hput, dL5, keep⟩ := (dL.same (sX.trans sY)).store (k := x2) t2n et2 lnd (szl (by omega))
                      refine ⟨_, rfl, _, rfl, dl, H5, rfl, hput, put lg x2 (l ++ [x2]), _, _, rfl, fun b' o' e' => keep b' o' (ne_of_none e' ndl) (((s4.trans sX).trans sY) b' o' e'), dL5, ?_, (put_keys x2 (l ++ [x2]) lg lnd).1, fun y hy => ?_⟩
                      · rw [hLS] at hst
                        exact hst
                      · rcases (put_keys x2 (l ++ [x2]) lg lnd).2 y hy with e | e
                        · rw [e]
                          exact w2
                        · exact lfew y e
                    | false =>
                      refine iteF ⟨lg, _, _, rfl, s4.trans sZ, dL.same sZ, ?_, lnd, lfew⟩
                      have : longerS (look ws) i lg (x1, x2) = lg := by
                        unfold longerS
                        rw [if_pos hgt']
                        dsimp only
                        rw [e1]
                        dsimp only
                        rw [e2]
                        dsimp only
                        rw [hc, if_neg Bool.false_ne_true]
                      rw [this] at hst
                      exact hst
              · refine ⟨lg, _, _, rfl, s4, dL, ?_, lnd, lfew⟩
                have hng' : ¬ i < x2 := fun z => hng (decide_eq_true (by omega))
                have : longerS (look ws) i lg (x1, x2) = lg := by
                  unfold longerS
                  rw [if_neg hng']
                rw [this] at hst
                exact hst
            · rintro σ H4 ⟨lg, v8, v9, rfl, s4, dL, hL, lnd, lfew⟩
              rw [hul, List.take_length] at hL
              exact ⟨_, rfl, dl, lg, _, _, _, _, _, rfl, (sm2.trans s3).trans s4, dL, walks_longer hWk hL, lnd, lfew, law_none hWk hrg hno⟩
        | some l1 =>
          obtain ⟨p1, rfl, hp10, hp1⟩ : ∃ p, b = .ref p ∧ H p = none ∧ H2 p = some (.lst (l1.map nV)) := by rw [hb] at ob2; exact ob2
          refine ⟨_, rfl, rfl, _, rfl, iteT ⟨_, rfl, _, _, rfl, rfl, _, rfl, p1, _, rfl, .inl (SqL.of hp1), _, _, rfl, rfl, _, rfl, ite2 (fun hge => ?_) (fun hlt => ?_)⟩⟩
          · have hge' : l1.length ≤ k + 1 := by
              have := of_decide_eq_true hge
              rw [List.length_map] at this
              omega
            refine ⟨V.ref p1, _, _, _, _, _, _, _, rfl, t2, ?_⟩
            show OutL H H2 _ (pick (best ps i) (ringOf ps i))
            rw [pick_short hb (fun r c => by have := hno r c; omega)]
            exact ob2
          · have hlt' : k + 1 < l1.length := by
              have : ¬ ((l1.map nV).length : Int) ≤ (k : Int) + 1 := fun z => hlt (decide_eq_true z)
              rw [List.length_map] at this
              omega
            have hshort : ∀ l, best ps i = some l → k + 1 < l.length := fun l hl => by rw [hb] at hl; cases hl; exact hlt'
            -- rings
            refine ⟨_, rfl, a, rfl, ⟨_, t2.seq hA⟩, fun B nB => ?_⟩
            have nB0 : H B = none := t2.free nB
            refine lc_list (K := K) (a := a) (xs := us) (fun j H' => Same H2 H' ∧ ∃ xs : List Addr, H' B = some (.lst (xs.map V.ref)) ∧ RL H H2 xs (ringsOf (ps.take j) i (look ws))) ⟨(Same.refl H2).new nB, [], upd_same, .nil⟩ (fun j H' _ ⟨s3, _⟩ => (t2.trans s3).seq hA) ?_ ?_
            · rintro j y H3 hj ⟨s3, xs, eB, rl⟩
              obtain ⟨⟨x1, x2⟩, hx, t, rfl, ht⟩ := P_right (hP.same (t2.trans s3)) hj
              have er := rings_take (o := i) (W := look ws) hx
              have xl : xs.length ≤ 1000 := by
                rw [P_len rl]
                unfold ringsOf
                exact Nat.le_trans (List.length_filterMap_le _ _) (Nat.le_trans (List.length_take_le' _ _) hps)
              have same0 : (if x2 = i then look ws x1 else none) = none → Same H2 H3 ∧ ∃ xs : List Addr, H3 B = some (.lst (xs.map V.ref)) ∧ RL H H2 xs (ringsOf (ps.take (j + 1)) i (look ws)) := fun z => ⟨s3, xs, eB, by rw [er]; dsimp only; rw [z]; simpa using rl⟩
              refine ⟨rfl, _, rfl, t, _, 1, nV x2, rfl, rfl, ht, at_n (j := 1) rfl, _, rfl, rfl, _, rfl, ?_⟩
              by_cases hxi : x2 = i
              · subst hxi
                rw [decide_eq_true rfl]
                rcases dW.get x1 with ⟨e1, g⟩ | ⟨z, l, e1, g, hz0, hz⟩
                · exact iteT ⟨_, rfl, t, _, 0, nV x1, rfl, rfl, ht, at_n (j := 0) rfl, _, rfl, dw, _, rfl, g.same s3, _, rfl, iteF (same0 (by rw [if_pos rfl]; exact e1))⟩
                · refine iteT ⟨_, rfl, t, _, 0, nV x1, rfl, rfl, ht, at_n (j := 0) rfl, _, rfl, dw, _, rfl, g.same s3, _, rfl, iteT ?_⟩
                  refine ⟨_, rfl, _, rfl, t, _, 0, nV x1, rfl, rfl, ht, at_n (j := 0) rfl, dw, V.ref z, rfl, g.same s3, _, eB, ?_, s3.mut nB, xs ++ [z], ?_, ?_⟩
                  · rw [List.length_map]
                    exact szl (by omega)
                  · rw [upd_same, List.map_append]
                    rfl
                  · rw [er]
                    dsimp only
                    rw [if_pos rfl, e1]
                    exact P_append rl (.cons ⟨hz0, hz⟩ .nil)
              · rw [decide_eq_false (show ¬ nV x2 = nV i from fun z => hxi (by have := V.int.inj z; omega))]
                exact iteF (iteF (same0 (if_neg hxi)))
            rintro H3 ⟨s3, xs, eB, rl⟩
            rw [hul, List.take_length] at rl
            have t3 : Same H H3 := t2.trans s3
            have rl := rl.same s3
            refine ⟨_, rfl, B, _, rfl, .inl (SqL.of eB), _, _, rfl, rfl, _, rfl, ite2 (fun hgt => ?_) (fun hle => ?_)⟩
            · -- best = min(rings); break
              cases hrg : ringsOf ps i (look ws) with
              | nil =>
                exfalso
                have := P_len rl
                rw [hrg] at this
                have h2 := of_decide_eq_true hgt
                rw [List.length_map, this] at h2
                simp at h2
              | cons l0 ls =>
                rw [hrg] at rl
                obtain ⟨y, hy1, hy2, hy3⟩ := min_ints l0 ls
                refine ⟨_, rfl, B, _, intsOf l0, ls.map intsOf, rfl, SqL.of eB, rl.dp, fun j v hv hmin => ?_⟩
                rw [hy1] at hmin
                obtain ⟨x', hx', rfl⟩ := getn_inv hv
                obtain ⟨l', hl', f1, f2⟩ := P_right rl hx'
                have : (intsOf l0 :: ls.map intsOf)[j]? = some (intsOf l') := by
                  show (((l0 :: ls).map intsOf))[j]? = _
                  rw [List.getElem?_map, hl']
                  rfl
                rw [this] at hmin
                have el := ints_inj (Option.some.inj hmin)
                subst el
                obtain ⟨hring, hlen⟩ := law_ring hWk hno (x := l') (by rw [hrg]; exact hy2) (by rw [hrg]; exact hy3)
                refine ⟨V.ref x', _, _, _, _, _, _, _, rfl, t3, ?_⟩
                show OutL H H3 _ (pick (best ps i) (ringOf ps i))
                rw [pick_new hring (fun l hl => by rw [hlen]; exact hshort l hl)]
                exact ⟨x', rfl, f1, f2⟩
            · have hrg : ringsOf ps i (look ws) = [] := by
                cases hrg : ringsOf ps i (look ws) with
                | nil => rfl
                | cons l0 ls =>
                  exfalso
                  refine hle (decide_eq_true ?_)
                  rw [List.length_map, P_len rl, hrg, List.length_cons]
                  omega
              -- longer = {}
              refine fun dl ndl => ?_
              have ndl0 : H dl = none := t3.free ndl
              refine ⟨_, rfl, a, rfl, ⟨_, (t3.new ndl).seq hA⟩, for_list (K := K) (a := a) (xs := us) (fun j σ H' => ∃ (lg : List (Nat × List Nat)) (v8 v9 : Option V), σ = [some (nV m), some (.ref a), some (V.ref p1), some (nV i), some (.ref dw), some (nV k), some (.ref B), some (.ref dl), v8, v9, none] ∧ Same H3 H' ∧ DW H H' dl lg ∧ IsLonger (ps.take j) (look ws) i (look lg) ∧ (lg.map (·.1)).Nodup ∧ ∀ y ∈ lg.map (·.1), y < m)
                ⟨[], _, _, rfl, (Same.refl H3).new ndl, ⟨[], upd_same, .nil⟩, longer_start (look ws) i, List.nodup_nil, fun y hy => by cases hy⟩ (fun j σ H' _ ⟨_, _, _, _, s4, _⟩ => (t3.trans s4).seq hA) ?_ ?_⟩
              · rintro j y σ H4 hj ⟨lg, v8, v9, rfl, s4, dL, hL, lnd, lfew⟩
                have t4 : Same H H4 := t3.trans s4
                obtain ⟨⟨x1, x2⟩, hx, t, rfl, ht⟩ := P_right (hP.same t4) hj
                obtain ⟨w1, w2⟩ := hW _ (List.mem_of_getElem? hx)
                have hst := longer_step (p := (x1, x2)) hL
                rw [← take_more hx] at hst
                have llen : lg.length ≤ m := by
                  have := nodup_len m (lg.map (·.1)) lnd lfew
                  rwa [List.length_map] at this
                refine ⟨t, _, rfl, ht, rfl, _, _, rfl, _, _, rfl, rfl, ?_⟩
                refine ⟨_, rfl, _, rfl, _, _, rfl, rfl, _, rfl, ite2 (fun hgt => ?_) (fun hng => iteF ?_)⟩
                · have hgt' : i < x2 := by
                    have := of_decide_eq_true hgt
                    omega
                  rcases dW.get x1 with ⟨e1, g⟩ | ⟨z, l, e1, g, hz0, hz⟩
                  · refine ⟨_, rfl, _, rfl, dw, _, rfl, g.same (s3.trans s4), _, rfl, iteF (iteF ⟨lg, _, _, rfl, s4, dL, ?_, lnd, lfew⟩)⟩
                    have : longerS (look ws) i lg (x1, x2) = lg := by
                      unfold longerS
                      rw [if_pos hgt']
                      dsimp only
                      rw [e1]
                    rw [this] at hst
                    exact hst
                  · have zl : l.length ≤ m := by
                      have := (hWk.1 x1 l e1).2
                      omega
                    refine ⟨_, rfl, _, rfl, dw, _, rfl, g.same (s3.trans s4), _, rfl, iteT ?_⟩
                    rcases dL.get x2 with ⟨e2, g2⟩ | ⟨y, m2, e2, g2, hy0, hy⟩
                    · have hLS : longerS (look ws) i lg (x1, x2) = put lg x2 (l ++ [x2]) := by
                        unfold longerS
                        rw [if_pos hgt']
                        dsimp only
                        rw [e1]
                        dsimp only
                        rw [e2]
                      refine ⟨_, rfl, _, rfl, dl, _, rfl, g2, _, rfl, iteT ?_⟩
                      have sX : Same H4 H4 := (Same.refl H4)
                      have gX := (g.same (s3.trans s4)).same sX
                      have hzX : H4 z = some (.lst (l.map nV)) := sX _ _ ((s3.trans s4) _ _ hz)
                      refine iteT ⟨_, rfl, _, rfl, dw, V.ref z, rfl, gX, _, rfl, (by show 1 ≤ sizeLine; decide), fun t1 nt1 => ⟨z, t1, l.map nV, [nV x2], rfl, rfl, by rw [upd_ne (ne_of_none hzX nt1)]; exact hzX, upd_same, by rw [List.length_map]; exact szle (by show l.length + 1 ≤ 10000; omega), fun t2 nt2 => ?_⟩⟩
                      have sY : Same H4 (upd (upd H4 t1 (.lst [nV x2])) t2 (.lst (l.map nV ++ [nV x2]))) := ((Same.refl H4).new nt1).new nt2
                      have t2n : H t2 = none := (t4.trans (sX.new nt1)).free nt2
                      have et2 : (upd (upd H4 t1 (.lst [nV x2])) t2 (.lst (l.map nV ++ [nV x2]))) t2 = some (.lst ((l ++ [x2]).map nV)) := by rw [upd_same, List.map_append]; rfl
                      obtain ⟨H5, hput, dL5, keep⟩ := (dL.same (sX.trans sY)).store (k := x2) t2n et2 lnd (szl (by omega))
                      refine ⟨_, rfl, _, rfl, dl, H5, rfl, hput, put lg x2 (l ++ [x2]), _, _, rfl, fun b' o' e' => keep b' o' (ne_of_none e' ndl) (((s4.trans sX).trans sY) b' o' e'), dL5, ?_, (put_keys x2 (l ++ [x2]) lg lnd).1, fun y hy => ?_⟩
                      · rw [hLS] at hst
                        exact hst
                      · rcases (put_keys x2 (l ++ [x2]) lg lnd).2 y hy with e | e
                        · rw [e]
                          exact w2
                        · exact lfew y e
                    · refine ⟨_, rfl, _, rfl, dl, _, rfl, g2, _, rfl, iteF ?_⟩
                      have hz4 : H4 z = some (.lst (l.map nV)) := (s3.trans s4) _ _ hz
                      refine ⟨_, rfl, _, rfl, dw, V.ref z, rfl, g.same (s3.trans s4), _, rfl, (by show 1 ≤ sizeLine; decide), fun u1 nu1 => ⟨z, u1, l.map nV, [nV x2], rfl, rfl, by rw [upd_ne (ne_of_none hz4 nu1)]; exact hz4, upd_same, by rw [List.length_map]; exact szle (by show l.length + 1 ≤ 10000; omega), fun u2 nu2 => ?_⟩⟩
                      have sZ : Same H4 (upd (upd H4 u1 (.lst [nV x2])) u2 (.lst (l.map nV ++ [nV x2]))) := ((Same.refl H4).new nu1).new nu2
                      refine ⟨_, rfl, _, rfl, dl, V.ref y, rfl, g2.same sZ, intsOf (l ++ [x2]), intsOf m2, dp_list (SqL.of (by rw [upd_same, List.map_append]; rfl)), dp_list (SqL.of (sZ _ _ hy)), _, rfl, ?_⟩
                      show if (PySem.W.listLt (intsOf (l ++ [x2])) (intsOf m2)) = true then _ else _
                      rw [listLt_ints]
                      cases hc : K02.lexLt (l ++ [x2]) m2 with
                      | true =>
                        have hLS : longerS (look ws) i lg (x1, x2) = put lg x2 (l ++ [x2]) := by
                          unfold longerS
                          rw [if_pos hgt']
                          dsimp only
                          rw [e1]
                          dsimp only
                          rw [e2]
                          dsimp only
                          rw [hc, if_pos rfl]
                        have sX : Same H4 (upd (upd H4 u1 (.lst [nV x2])) u2 (.lst (l.map nV ++ [nV x2]))) := sZ
                        have gX := (g.same (s3.trans s4)).same sX
                        have hzX : (upd (upd H4 u1 (.lst [nV x2])) u2 (.lst (l.map nV ++ [nV x2]))) z = some (.lst (l.map nV)) := sX _ _ ((s3.trans s4) _ _ hz)
                        refine iteT ⟨_, rfl, _, rfl, dw, V.ref z, rfl, gX, _, rfl, (by show 1 ≤ sizeLine; decide), fun t1 nt1 => ⟨z, t1, l.map nV, [nV x2], rfl, rfl, by rw [upd_ne (ne_of_none hzX nt1)]; exact hzX, upd_same, by rw [List.length_map]; exact szle (by show l.length + 1 ≤ 10000; omega), fun t2 nt2 => ?_⟩⟩
                        have sY : Same (upd (upd H4 u1 (.lst [nV x2])) u2 (.lst (l.map nV ++ [nV x2]))) (upd (upd (upd (upd H4 u1 (.lst [nV x2])) u2 (.lst (l.map nV ++ [nV x2]))) t1 (.lst [nV x2])) t2 (.lst (l.map nV ++ [nV x2]))) := ((Same.refl (upd (upd H4 u1 (.lst [nV x2])) u2 (.lst (l.map nV ++ [nV x2])))).new nt1).new nt2
                        have t2n : H t2 = none := (t4.trans (sX.new nt1)).free nt2
                        have et2 : (upd (upd (upd (upd H4 u1 (.lst [nV x2])) u2 (.lst (l.map nV ++ [nV x2]))) t1 (.lst [nV x2])) t2 (.lst (l.map nV ++ [nV x2]))) t2 = some (.lst ((l ++ [x2]).map nV)) := by rw [upd_same, List.map_append]; rfl
                        obtain ⟨H5, hput, dL5, keep⟩ := (dL.same (sX.trans sY)).store (k := x2) t2n et2 lnd (szl (by omega))
                        refine ⟨_, rfl, _, rfl, dl, H5, rfl, hput, put lg x2 (l ++ [x2]), _, _, rfl, fun b' o' e' => keep b' o' (ne_of_none e' ndl) (((s4.trans sX).trans sY) b' o' e'), dL5, ?_, (put_keys x2 (l ++ [x2]) lg lnd).1, fun y hy => ?_⟩
                        · rw [hLS] at hst
                          exact hst
                        · rcases (put_keys x2 (l ++ [x2]) lg lnd).2 y hy with e | e
                          · rw [e]
                            exact w2
                          · exact lfew y e
                      | false =>
                        refine iteF ⟨lg, _, _, rfl, s4.trans sZ, dL.same sZ, ?_, lnd, lfew⟩
                        have : longerS (look ws) i lg (x1, x2) = lg := by
                          unfold longerS
                          rw [if_pos hgt']
                          dsimp only
                          rw [e1]
                          dsimp only
                          rw [e2]
                          dsimp only
                          rw [hc, if_neg Bool.false_ne_true]
                        rw [this] at hst
                        exact hst
                · refine ⟨lg, _, _, rfl, s4, dL, ?_, lnd, lfew⟩
                  have hng' : ¬ i < x2 := fun z => hng (decide_eq_true (by omega))
                  have : longerS (look ws) i lg (x1, x2) = lg := by
                    unfold longerS
                    rw [if_neg hng']
                  rw [this] at hst
                  exact hst
              · rintro σ H4 ⟨lg, v8, v9, rfl, s4, dL, hL, lnd, lfew⟩
                rw [hul, List.take_length] at hL
                exact ⟨_, rfl, dl, lg, _, _, _, _, _, rfl, (sm2.trans s3).trans s4, dL, walks_longer hWk hL, lnd, lfew, law_none hWk hrg hno⟩
      · rintro σ H2 ⟨dw, ws, v5, v6, v7, v8, v9, rfl, sm2, dW, hWk, hnd, hfew, hno⟩
        refine ⟨b, _, _, _, _, _, _, _, rfl, sm1.trans sm2, ?_⟩
        show OutL H H2 _ (pick (best ps i) (ringOf ps i))
        rw [pick_no (fun r c => by obtain ⟨r', c', hlt⟩ := ring_fits hW c; have := hno r' c'; omega)]
        exact ob1.same sm2
    · rintro σ H1 ⟨b, v3, v4, v5, v6, v7, v8, v9, rfl, sm1, ob1⟩
      exact ⟨_, rfl, q b H1 sm1 ob1⟩
end
end K02W

namespace K02W
open PySem PySem.Spec PyProof.Rows L2 K02 KH
abbrev s_law_is_list : Stmt := topS 15
theorem sc_law_is_list : FnScope ["told", "due", "k"] ["told", "due"] (defScope s_law_is_list) := ⟨rfl, rfl, rfl, by decide +kernel, rfl, by decide +kernel, by decide +kernel⟩

abbrev s_law_is_answered : Stmt := topS 16
theorem sc_law_is_answered : FnScope ["many", "pairs", "handed", "order", "ring", "k", "told", "shown"] ["many", "pairs", "handed"] (defScope s_law_is_answered) := ⟨rfl, rfl, rfl, by decide +kernel, rfl, by decide +kernel, by decide +kernel⟩

abbrev slaw : Stmt := topS 17
theorem sclaw : FnScope ["script", "shape", "many", "pairs", "first", "mirrored", "turned", "place", "pair"] ["script"] (defScope slaw) := ⟨rfl, rfl, rfl, by decide +kernel, rfl, by decide +kernel, by decide +kernel⟩

theorem grow_len_le (m : Nat) (ps : PL) (t : List Nat) (h : orderOf m ps = some t) : t.length ≤ m := by
  unfold orderOf at h
  split at h
  · cases h
  · cases h
    exact grow_len m ps m
theorem best_len {m : Nat} {ps : PL} (hm : Within m ps) : ∀ (o : Nat) (l : List Nat), best ps o = some l → l.length ≤ m
  | 0, l, h => by cases h
  | o + 1, l, h => by
    have h' : pick (best ps o) (ringOf ps o) = some l := h
    have ring : ∀ x, ringOf ps o = some x → x.length ≤ m := fun x hx => by
      obtain ⟨r, rfl, c, hmin⟩ := ringOf_is hx
      obtain ⟨r', c', hlt⟩ := ring_fits hm c
      have := (hmin r' c').1
      rw [List.length_cons]
      omega
    cases hx : ringOf ps o with
    | none =>
      rw [hx] at h'
      exact best_len hm o l h'
    | some x =>
      rw [hx] at h'
      cases hb : best ps o with
      | none =>
        rw [hb] at h'
        cases h'
        exact ring _ hx
      | some y =>
        rw [hb] at h'
        have h2 : (if x.length < y.length then some x else some y) = some l := h'
        split at h2
        · cases h2
          exact ring _ hx
        · cases h2
          exact best_len hm o _ hb
/-- None, or a list of numbers -/
def AtO (H : Hp) (v : V) (r : Option (List Nat)) : Prop := match r with
  | none => v = .non
  | some l => l.length ≤ 1000 ∧ ∃ p, v = .ref p ∧ H p = some (.lst (l.map nV))
theorem _root_.KH.OutL.at {H H' : Hp} {v : V} {r : Option (List Nat)} (h : OutL H H' v r) (hl : ∀ l, r = some l → l.length ≤ 1000) : AtO H' v r := by
  cases r with
  | none => exact h
  | some l =>
    obtain ⟨p, e, _, hp⟩ := h
    exact ⟨hl l rfl, p, e, hp⟩
theorem AtO.same {H H' : Hp} {v : V} {r : Option (List Nat)} (h : AtO H v r) (s : Same H H') : AtO H' v r := by
  cases r with
  | none => exact h
  | some l =>
    obtain ⟨hl, p, e, hp⟩ := h
    exact ⟨hl, p, e, s _ _ hp⟩
section
variable {P : Program} {w : World} {K : PySem.W.Frag} {mg : Str → Option Value} {base : Heap}
/-! ### is it the list that is due? -/
def sp_islist : Sp := fun vs H Q _ => ∃ (a b : V) (r : Option (List Nat)), vs = [a, b] ∧ AtO H a r ∧ AtO H b r ∧ Q (.bl true) H
theorem ok_islist {f : Addr} {fd : FuncData} (F : Fun K "_law_is_list" "_law_is_list" s_law_is_list f fd) (T : Txt mg) : FnOk P w K mg base CX0 1 f fd ["told", "due"] sp_islist := by
  refine F.ok sc_law_is_list (fun vs H Q E h => ?_) (fun cdv A outer s H vs Q E hr h => ?_)
  · obtain ⟨a, b, r, rfl, _⟩ := h
    rfl
  · obtain ⟨a, b, r, rfl, ha, hb, q⟩ := h
    refine ⟨_, (pss_cons (ps_if (pt_cmpR op_isN (pv 1) pe_non (nomark _))
 (pss_one (ps_ret (pe_cmpR op_isN (pv 0) pe_non (nomark _))))
 pss_nil)
 (pss_cons (ps_if (PW.pt (pw_or (pt_not (pt_val (pe_callB call_isi (by rfl) T.isinstance (by decide +kernel) (pa_cons (pv 0) (pa_cons (pe_bltn (v := .ty "list") (by rfl) T.list (by decide +kernel) rfl) pa_nil))))) (pw_or1 (pt_cmpR op_ne (pe_callB call_len_seq (by rfl) T.len (by decide +kernel) (pa_cons (pv 0) pa_nil)) (pe_callB call_len_seq (by rfl) T.len (by decide +kernel) (pa_cons (pv 1) pa_nil)) (nomark _)))))
 (pss_one (ps_ret pe_bl))
 pss_nil)
 (pss_cons (ps_for PassesOwn.never rfl (pi_range1 rfl T.range (pa_cons (pe_callB call_len_seq (by rfl) T.len (by decide +kernel) (pa_cons (pv 1) pa_nil)) pa_nil)) (pg_name (i := 2) sc_law_is_list.nd rfl (.inl rfl))
 (pss_one (ps_if (PW.pt (pw_or (pt_not (pt_val (pe_callB call_isi (by rfl) T.isinstance (by decide +kernel) (pa_cons (pe_ix ix_list (pv 0) (pv 2) (fun _ _ => rfl)) (pa_cons (pe_bltn (v := .ty "int") (by rfl) T.int (by decide +kernel) rfl) pa_nil))))) (pw_or (pt_val (pe_callB call_isi (by rfl) T.isinstance (by decide +kernel) (pa_cons (pe_ix ix_list (pv 0) (pv 2) (fun _ _ => rfl)) (pa_cons (pe_bltn (v := .ty "bool") (by rfl) T.bool (by decide +kernel) rfl) pa_nil)))) (pw_or1 (pt_cmpR op_ne (pe_ix ix_list (pv 0) (pv 2) (fun _ _ => rfl)) (pe_ix ix_list (pv 1) (pv 2) (fun _ _ => rfl)) (nomark _))))))
 (pss_one (ps_ret pe_bl))
 pss_nil)))
 (pss_one (ps_ret pe_bl))))), ?_⟩
    cases r with
    | none =>
      obtain rfl : a = .non := ha
      obtain rfl : b = .non := hb
      refine ⟨_, rfl, rfl, _, rfl, iteT ⟨_, rfl, rfl, ?_⟩⟩
      exact q
    | some l =>
      obtain ⟨hl, p, rfl, hp⟩ := ha
      obtain ⟨_, p2, rfl, hp2⟩ := hb
      refine ⟨_, rfl, rfl, _, rfl, iteF ?_⟩
      refine ⟨_, rfl, _, _, _, _, true, rfl, .ty "list", .base (.lst hp), kit_ty (by decide +kernel), _, rfl, ?_⟩
      refine iteF ⟨_, rfl, p, _, rfl, .inl (SqL.of hp), _, rfl, p2, _, rfl, .inl (SqL.of hp2), rfl, _, rfl, ?_⟩
      rw [decide_eq_true rfl]
      refine iteF ?_
      refine ⟨_, rfl, p2, _, rfl, .inl (SqL.of hp2), _, rfl, (by omega), (by rw [List.length_map]; omega), ?_⟩
      have el : (((l.map nV).length : Nat) : Int).toNat = l.length := by rw [List.length_map]; omega
      rw [el]
      refine for_range (lo := 0) (n := l.length) (fun i σ H' => ∃ (v2 : Option V), σ = [some (.ref p), some (.ref p2), v2] ∧ H' = H) ⟨_, rfl, rfl⟩ ?_ ?_
      · rintro i σ H' hi ⟨v2, rfl, rfl⟩
        obtain ⟨x, hx⟩ := get_lt hi
        rw [show (0 : Int) + (i : Int) = (i : Int) by omega]
        refine ⟨_, rfl, _, rfl, p, _, _, nV x, rfl, rfl, SqL.of hp, at_n (getn hx), _, _, _, _, true, rfl, .ty "int", .base (.int _), kit_ty (by decide +kernel), _, rfl, ?_⟩
        refine iteF ⟨_, rfl, _, rfl, p, _, _, nV x, rfl, rfl, SqL.of hp, at_n (getn hx), _, _, _, _, false, rfl, .ty "bool", .base (.int _), kit_ty (by decide +kernel), _, rfl, ?_⟩
        refine iteF ⟨_, rfl, _, rfl, p, _, _, nV x, rfl, rfl, SqL.of hp, at_n (getn hx), _, rfl, _, rfl, p2, _, _, nV x, rfl, rfl, SqL.of hp2, at_n (getn hx), rfl, _, rfl, ?_⟩
        rw [decide_eq_true rfl]
        exact iteF ⟨_, rfl, rfl⟩
      · rintro σ H' ⟨v2, rfl, rfl⟩
        exact q
/-! ### lists of pairs as data -/
def pI (ps : PL) : List (Int × Int) := ps.map fun q => ((q.1 : Int), (q.2 : Int))
def pd (ps : PL) : PyData := PySem.W.Datum.toD (pI ps)
theorem pd_lay (ps : PL) : (pd ps).canLay0 = true := by
  show (PyData.list ((pI ps).map PySem.W.Datum.toD)).canLay0 = true
  simp only [PyData.canLay0]
  induction ps with
  | nil => rfl
  | cons q r ih =>
    show PyData.canLayAll0 (PyData.tuple [.int (q.1 : Int), .int (q.2 : Int)] :: (pI r).map PySem.W.Datum.toD) = true
    simp only [PyData.canLayAll0, PyData.canLay0, ih, Bool.and_self]
theorem pd_shaped (ps : PL) : SeqAt.shaped (pd ps) = true := by
  unfold SeqAt.shaped
  rw [pd_lay, Bool.true_and]
  refine decide_eq_true (Nat.le_trans (PySem.W.Datum.depth_le (pI ps)) ?_)
  show 2 ≤ 64
  decide
theorem pd_dp {K : PySem.W.Frag} {H : Hp} {a : Addr} {us : List V} {ps : PL} (h : SqL K H a us) (p : Prs K H us ps) : Dp K H (.ref a) (pd ps) := by
  refine .lst h ?_
  clear h
  induction p with
  | nil => exact .nil
  | @cons v q us ps f _ ih =>
    obtain ⟨t, rfl, ht⟩ := f
    exact .cons (.tup ht (.cons (.int _) (.cons (.int _) .nil))) ih
theorem pd_eq (ps : PL) : PyData.eqv (pd ps) (pd ps) = true := by
  unfold pd
  rw [PySem.W.Datum.eqv]
  exact decide_eq_true rfl
/-! ### is all answered as is due? -/
def sp_answered (K : PySem.W.Frag) : Sp := fun vs H Q _ => ∃ (a b : Addr) (m : Nat) (us us2 : List V) (ps : PL), vs = [nV m, .ref a, .ref b] ∧ SqL K H a us ∧ Prs K H us ps ∧ Sq K H b us2 ∧ Prs K H us2 ps ∧ Within m ps ∧ m ≤ 100 ∧ ps.length ≤ 1000 ∧ ∀ H', Same H H' → Q (.bl true) H'
theorem ok_answered {f f1 f2 f3 f4 f5 : Addr} {fd fd1 fd2 fd3 fd4 fd5 : FuncData} (F : Fun K "_law_is_answered" "_law_is_answered" s_law_is_answered f fd) (T : Txt mg)
    (C_law_order : Cal P w K mg base 1 "_law_order" ["many", "pairs"] (sp_order K) f1 fd1) (C_law_ring : Cal P w K mg base 1 "_law_ring" ["many", "pairs"] (sp_lring K) f2 fd2)
    (Ccanonical_order : Cal P w K mg base 2 "canonical_order" ["many", "pairs"] (sp_order K) f3 fd3) (Cleast_ring : Cal P w K mg base 3 "least_ring" ["many", "pairs"] (sp_ring K) f4 fd4)
    (C_law_is_list : Cal P w K mg base 1 "_law_is_list" ["told", "due"] sp_islist f5 fd5) : FnOk P w K mg base CX0 4 f fd ["many", "pairs", "handed"] (sp_answered K) := by
  refine F.ok sc_law_is_answered (fun vs H Q E h => ?_) (fun cdv A outer s H vs Q E hr h => ?_)
  · obtain ⟨a, b, m, us, us2, ps, rfl, _⟩ := h
    rfl
  · obtain ⟨a, b, m, us, us2, ps, rfl, hA, hP, hB, hP2, hW, hm, hps, q⟩ := h
    have hol : ∀ l, orderOf m ps = some l → l.length ≤ 1000 := fun l hl => Nat.le_trans (grow_len_le m ps l hl) (by omega)
    have hbl : ∀ l, best ps m = some l → l.length ≤ 1000 := fun l hl => Nat.le_trans (best_len hW m l hl) (by omega)
    refine ⟨_, (pss_cons (ps_set (i := 3) sc_law_is_answered.nd rfl (.inl rfl) (pe_call C_law_order.ok (hr.mono (by decide)) (by rfl) C_law_order.mg C_law_order.kp C_law_order.b .nil pass0 (pa_cons (pv 0) (pa_cons (pv 1) pa_nil))))
 (pss_cons (ps_set (i := 4) sc_law_is_answered.nd rfl (.inl rfl) pe_non)
 (pss_cons (ps_if (pt_cmpR op_isN (pv 3) pe_non (nomark _))
 (pss_one (ps_set (i := 4) sc_law_is_answered.nd rfl (.inl rfl) (pe_call C_law_ring.ok (hr.mono (by decide)) (by rfl) C_law_ring.mg C_law_ring.kp C_law_ring.b .nil pass0 (pa_cons (pv 0) (pa_cons (pv 1) pa_nil)))))
 pss_nil)
 (pss_cons (ps_for PassesOwn.never rfl (pi_range1 rfl T.range (pa_cons pe_int pa_nil)) (pg_name (i := 5) sc_law_is_answered.nd rfl (.inl rfl))
 (pss_cons (ps_set (i := 6) sc_law_is_answered.nd rfl (.inl rfl) (pe_call Ccanonical_order.ok (hr.mono (by decide)) (by rfl) Ccanonical_order.mg Ccanonical_order.kp Ccanonical_order.b .nil pass0 (pa_cons (pv 0) (pa_cons (pv 2) pa_nil))))
 (pss_cons (ps_if (pt_not (pt_val (pe_call C_law_is_list.ok (hr.mono (by decide)) (by rfl) C_law_is_list.mg C_law_is_list.kp C_law_is_list.b .nil pass0 (pa_cons (pv 6) (pa_cons (pv 3) pa_nil)))))
 (pss_one (ps_ret pe_bl))
 pss_nil)
 (pss_cons (ps_set (i := 7) sc_law_is_answered.nd rfl (.inl rfl) (pe_call Cleast_ring.ok (hr.mono (by decide)) (by rfl) Cleast_ring.mg Cleast_ring.kp Cleast_ring.b .nil pass0 (pa_cons (pv 0) (pa_cons (pv 2) pa_nil))))
 (pss_cons (ps_if (pt_not (pt_val (pe_call C_law_is_list.ok (hr.mono (by decide)) (by rfl) C_law_is_list.mg C_law_is_list.kp C_law_is_list.b .nil pass0 (pa_cons (pv 7) (pa_cons (pv 4) pa_nil)))))
 (pss_one (ps_ret pe_bl))
 pss_nil)
 (pss_cons (ps_if (pt_cmpR op_eq (pe_cmpR op_isN (pv 6) pe_non (nomark _)) (pe_cmpR op_isN (pv 7) pe_non (nomark _)) (nomark _))
 (pss_one (ps_ret pe_bl))
 pss_nil)
 (pss_one (ps_if (pt_cmpR op_notN (pv 6) pe_non (nomark _))
 (pss_one (ps_expr (pe_bm PySem.F.plainAttrs_list PySem.F.slot_list_insert PySem.F.type_list_insert mt_insert (pv 6) (pa_cons pe_int (pa_cons (pv 0) pa_nil)))))
 (pss_one (ps_expr (pe_bm PySem.F.plainAttrs_list PySem.F.slot_list_insert PySem.F.type_list_insert mt_insert (pv 7) (pa_cons pe_int (pa_cons (pv 0) pa_nil)))))))))))))
 (pss_one (ps_ret (pe_cmpR (op_eqD hr.units) (pe_callTy call_list_of (by rfl) T.list (by decide +kernel) (pa_cons (pv 2) pa_nil)) (pv 1) (nomark _)))))))), ?_⟩
    refine ⟨_, rfl, _, rfl, a, m, us, ps, rfl, .inl hA, hP, hW, hm, hps, fun vo H1 s1 o1 => ?_⟩
    have o1' := o1.at hol
    refine ⟨_, rfl, rfl, _, rfl, ?_⟩
    cases ho : orderOf m ps with
    | none =>
      have ev : vo = .non := by rw [ho] at o1; exact o1
      subst ev
      refine iteT ⟨_, rfl, _, rfl, a, m, us, ps, rfl, s1.seq hA, hP.same s1, hW, hm, hps, fun vr H2 s2 r2 => ?_⟩
      refine ⟨2, rfl, by decide, by decide, ?_⟩
      have sH : Same H H2 := s1.trans s2
      have oH : AtO H2 .non (orderOf m ps) := o1'.same s2
      have rH : AtO H2 vr (best ps m) := r2.at hbl
      refine for_range (lo := 0) (n := 2) (fun i σ H' => ∃ (v5 v6 v7 : Option V), σ = [some (nV m), some (.ref a), some (.ref b), some (V.non), some (vr), v5, v6, v7] ∧ Same H H' ∧ AtO H' (V.non) (orderOf m ps) ∧ AtO H' (vr) (best ps m))
        ⟨_, _, _, rfl, sH, oH, rH⟩ ?_ ?_
      · rintro i σ H2 hi ⟨v5, v6, v7, rfl, s2, o2, r2⟩
        refine ⟨_, rfl, _, rfl, b, m, us2, ps, rfl, s2.sq hB, hP2.same s2, hW, hm, hps, fun vt H3 s3 t3 => ?_⟩
        refine ⟨_, rfl, _, rfl, vt, (V.non), orderOf m ps, rfl, t3.at hol, o2.same s3, _, rfl, iteF ?_⟩
        refine ⟨_, rfl, _, rfl, b, m, us2, ps, rfl, (s2.trans s3).sq hB, hP2.same (s2.trans s3), hW, hm, hps, fun vs H4 s4 t4 => ?_⟩
        refine ⟨_, rfl, _, rfl, vs, (vr), best ps m, rfl, t4.at hbl, (r2.same s3).same s4, _, rfl, iteF ?_⟩
        have t3' := t3.same s4
        cases ho : orderOf m ps with
        | none =>
          have hne := (one_of_two hW).mp ho
          rw [ho] at t3' o2
          obtain rfl : vt = .non := t3'
          obtain ⟨l, hl⟩ : ∃ l, best ps m = some l := by
            cases hb : best ps m with
            | none => exact absurd hb hne
            | some l => exact ⟨l, rfl⟩
          have hll := hbl l hl
          rw [hl] at t4 r2
          obtain ⟨p, rfl, hp0, hp⟩ := t4
          refine ⟨_, rfl, rfl, _, rfl, rfl, rfl, _, rfl, iteF ?_⟩
          refine ⟨_, rfl, rfl, _, rfl, iteF ?_⟩
          refine ⟨_, rfl, .inl ⟨rfl, _, SqL.of hp⟩, _, rfl, p, _, 0, _, rfl, rfl, hp, by rw [List.length_map]; exact szl (by omega), by decide, by decide, ?_⟩
          have s5 : ∀ o, Same H2 (upd H4 p o) := fun o => (s3.trans s4).mut (s3.free hp0)
          exact ⟨_, _, _, rfl, s2.trans (s5 _), o2.same (s5 _), by rw [hl]; exact r2.same (s5 _)⟩
        | some l =>
          have hn : best ps m = none := by
            cases hb : best ps m with
            | none => rfl
            | some l2 =>
              have := (one_of_two hW).mpr (by rw [hb]; exact fun z => by cases z)
              rw [ho] at this
              cases this
          rw [ho] at t3' o2
          rw [hn] at t4 r2
          have hll := hol l ho
          obtain ⟨p, rfl, hp0, hp⟩ := t3'
          obtain rfl : vs = .non := t4
          refine ⟨_, rfl, rfl, _, rfl, rfl, rfl, _, rfl, iteF ?_⟩
          refine ⟨_, rfl, rfl, _, rfl, iteT ?_⟩
          refine ⟨_, rfl, .inl ⟨rfl, _, SqL.of hp⟩, _, rfl, p, _, 0, _, rfl, rfl, hp, by rw [List.length_map]; exact szl (by omega), by decide, by decide, ?_⟩
          have s5 : ∀ o, Same H2 (upd H4 p o) := fun o => (s3.trans s4).mut hp0
          exact ⟨_, _, _, rfl, s2.trans (s5 _), o2.same (s5 _), by rw [hn]; exact r2.same (s5 _)⟩
      · rintro σ H2 ⟨v5, v6, v7, rfl, s2, o2, r2⟩
        refine ⟨_, rfl, b, us2, rfl, s2.sq hB, fun l nl => ?_⟩
        have s3 : Same H (upd H2 l (.lst us2)) := s2.new nl
        refine ⟨_, rfl, pd ps, pd ps, pd_dp (SqL.of upd_same) (hP2.same s3), pd_dp (s3.seq hA) (hP.same s3), pd_shaped ps, pd_shaped ps, ?_⟩
        rw [pd_eq]
        exact q _ s3
    | some l0 =>
      obtain ⟨p0, rfl, hp00, hp01⟩ : ∃ p, vo = .ref p ∧ H p = none ∧ H1 p = some (.lst (l0.map nV)) := by rw [ho] at o1; exact o1
      have hn : best ps m = none := by
        cases hb : best ps m with
        | none => rfl
        | some l2 =>
          have := (one_of_two hW).mpr (by rw [hb]; exact fun z => by cases z)
          rw [ho] at this
          cases this
      refine iteF ⟨2, rfl, by decide, by decide, ?_⟩
      have sH : Same H H1 := s1
      have oH : AtO H1 (.ref p0) (orderOf m ps) := o1'
      have rH : AtO H1 .non (best ps m) := by rw [hn]; rfl
      refine for_range (lo := 0) (n := 2) (fun i σ H' => ∃ (v5 v6 v7 : Option V), σ = [some (nV m), some (.ref a), some (.ref b), some (V.ref p0), some (V.non), v5, v6, v7] ∧ Same H H' ∧ AtO H' (V.ref p0) (orderOf m ps) ∧ AtO H' (V.non) (best ps m))
        ⟨_, _, _, rfl, sH, oH, rH⟩ ?_ ?_
      · rintro i σ H2 hi ⟨v5, v6, v7, rfl, s2, o2, r2⟩
        refine ⟨_, rfl, _, rfl, b, m, us2, ps, rfl, s2.sq hB, hP2.same s2, hW, hm, hps, fun vt H3 s3 t3 => ?_⟩
        refine ⟨_, rfl, _, rfl, vt, (V.ref p0), orderOf m ps, rfl, t3.at hol, o2.same s3, _, rfl, iteF ?_⟩
        refine ⟨_, rfl, _, rfl, b, m, us2, ps, rfl, (s2.trans s3).sq hB, hP2.same (s2.trans s3), hW, hm, hps, fun vs H4 s4 t4 => ?_⟩
        refine ⟨_, rfl, _, rfl, vs, (V.non), best ps m, rfl, t4.at hbl, (r2.same s3).same s4, _, rfl, iteF ?_⟩
        have t3' := t3.same s4
        cases ho : orderOf m ps with
        | none =>
          have hne := (one_of_two hW).mp ho
          rw [ho] at t3' o2
          obtain rfl : vt = .non := t3'
          obtain ⟨l, hl⟩ : ∃ l, best ps m = some l := by
            cases hb : best ps m with
            | none => exact absurd hb hne
            | some l => exact ⟨l, rfl⟩
          have hll := hbl l hl
          rw [hl] at t4 r2
          obtain ⟨p, rfl, hp0, hp⟩ := t4
          refine ⟨_, rfl, rfl, _, rfl, rfl, rfl, _, rfl, iteF ?_⟩
          refine ⟨_, rfl, rfl, _, rfl, iteF ?_⟩
          refine ⟨_, rfl, .inl ⟨rfl, _, SqL.of hp⟩, _, rfl, p, _, 0, _, rfl, rfl, hp, by rw [List.length_map]; exact szl (by omega), by decide, by decide, ?_⟩
          have s5 : ∀ o, Same H2 (upd H4 p o) := fun o => (s3.trans s4).mut (s3.free hp0)
          exact ⟨_, _, _, rfl, s2.trans (s5 _), o2.same (s5 _), by rw [hl]; exact r2.same (s5 _)⟩
        | some l =>
          have hn : best ps m = none := by
            cases hb : best ps m with
            | none => rfl
            | some l2 =>
              have := (one_of_two hW).mpr (by rw [hb]; exact fun z => by cases z)
              rw [ho] at this
              cases this
          rw [ho] at t3' o2
          rw [hn] at t4 r2
          have hll := hol l ho
          obtain ⟨p, rfl, hp0, hp⟩ := t3'
          obtain rfl : vs = .non := t4
          refine ⟨_, rfl, rfl, _, rfl, rfl, rfl, _, rfl, iteF ?_⟩
          refine ⟨_, rfl, rfl, _, rfl, iteT ?_⟩
          refine ⟨_, rfl, .inl ⟨rfl, _, SqL.of hp⟩, _, rfl, p, _, 0, _, rfl, rfl, hp, by rw [List.length_map]; exact szl (by omega), by decide, by decide, ?_⟩
          have s5 : ∀ o, Same H2 (upd H4 p o) := fun o => (s3.trans s4).mut hp0
          exact ⟨_, _, _, rfl, s2.trans (s5 _), o2.same (s5 _), by rw [hn]; exact r2.same (s5 _)⟩
      · rintro σ H2 ⟨v5, v6, v7, rfl, s2, o2, r2⟩
        refine ⟨_, rfl, b, us2, rfl, s2.sq hB, fun l nl => ?_⟩
        have s3 : Same H (upd H2 l (.lst us2)) := s2.new nl
        refine ⟨_, rfl, pd ps, pd ps, pd_dp (SqL.of upd_same) (hP2.same s3), pd_dp (s3.seq hA) (hP.same s3), pd_shaped ps, pd_shaped ps, ?_⟩
        rw [pd_eq]
        exact q _ s3
end
end K02W

namespace K02W
open PySem PySem.Spec PyProof.Rows L2 K02 KH
theorem P_reverse {α β : Type} {F : α → β → Prop} : ∀ {xs : List α} {ys : List β}, Paired F xs ys → Paired F xs.reverse ys.reverse
  | _, _, .nil => .nil
  | _, _, .cons f r => by
    rw [List.reverse_cons, List.reverse_cons]
    exact P_append (P_reverse r) (.cons f .nil)
theorem P_erase {α β : Type} {F : α → β → Prop} : ∀ {xs : List α} {ys : List β} (k : Nat), Paired F xs ys → Paired F (xs.eraseIdx k) (ys.eraseIdx k)
  | _, _, _, .nil => .nil
  | _, _, 0, .cons _ r => r
  | _, _, k + 1, .cons f r => .cons f (P_erase k r)
theorem P_take {α β : Type} {F : α → β → Prop} : ∀ {xs : List α} {ys : List β} (k : Nat), Paired F xs ys → Paired F (xs.take k) (ys.take k)
  | _, _, 0, _ => .nil
  | _, _, _ + 1, .nil => .nil
  | _, _, k + 1, .cons f r => .cons f (P_take k r)
theorem P_drop {α β : Type} {F : α → β → Prop} : ∀ {xs : List α} {ys : List β} (k : Nat), Paired F xs ys → Paired F (xs.drop k) (ys.drop k)
  | _, _, 0, h => h
  | _, _, _ + 1, .nil => .nil
  | _, _, k + 1, .cons f r => P_drop k r
theorem cut_to (us : List V) (k : Nat) (h : k ≤ us.length) : cutV us none (some (k : Int)) = us.take k := by
  unfold cutV
  rw [HT.sIx_none, HT.sIx_nat, List.drop_zero, Nat.sub_zero, Nat.min_eq_left h]
theorem cut_from (us : List V) (k : Nat) : cutV us (some (k : Int)) none = us.drop k := by
  unfold cutV
  rw [HT.sIx_none, HT.sIx_nat]
  by_cases h : k ≤ us.length
  · rw [Nat.min_eq_left h]
    exact List.take_of_length_le (by rw [List.length_drop]; exact Nat.le_refl _)
  · rw [Nat.min_eq_right (by omega), List.drop_of_length_le (Nat.le_refl _), List.drop_of_length_le (by omega)]
    exact List.take_nil
theorem seq_nat {k n : Nat} (h : k < n) : seqIndex? (k : Int) n = some k := by
  unfold seqIndex?
  simp only [show ¬ ((k : Int) < 0) by omega, if_false]
  rw [if_pos (by simp; omega)]
  simp
def mirr (m : Nat) (ps : PL) : PL := ps.map fun q => (m - 1 - q.1, m - 1 - q.2)
theorem within_mirr {m : Nat} {ps : PL} (h : Within m ps) : Within m (mirr m ps) := fun p hp => by
  obtain ⟨q, hq, rfl⟩ := List.mem_map.mp hp
  have := h q hq
  exact ⟨by show m - 1 - q.1 < m; omega, by show m - 1 - q.2 < m; omega⟩
theorem within_more {m n : Nat} {ps : PL} (h : Within m ps) (hmn : m ≤ n) : Within n ps := fun p hp => by
  have := h p hp
  omega
theorem within_of {m : Nat} {ps qs : PL} (h : Within m ps) (hs : ∀ q ∈ qs, q ∈ ps) : Within m qs := fun p hp => h p (hs p hp)
section
variable {P : Program} {w : World} {K : PySem.W.Frag} {mg : Str → Option Value} {base : Heap}
def sp_law (K : PySem.W.Frag) : Sp := fun vs H Q _ => ∃ (a : Addr) (ns : List Int), vs = [.ref a] ∧ SqL K H a (ns.map V.int) ∧ ns.length ≤ 63 ∧ ∀ H', Q (.bl true) H'
theorem ok_law {f f1 f2 f3 f4 : Addr} {fd fd1 fd2 fd3 fd4 : FuncData} (F : Fun K "law" "law" slaw f fd) (T : Txt mg)
    (C_law_draws : Cal P w K mg base 1 "_law_draws" ["cell", "sizes"] (sp_draws K) f1 fd1) (C_law_cell : Cal P w K mg base 1 "_law_cell" ["script", "k"] (sp_cell K) f2 fd2)
    (C_law_pairs : Cal P w K mg base 4 "_law_pairs" ["script", "many", "shape"] (sp_pairs K) f3 fd3) (C_law_is_answered : Cal P w K mg base 4 "_law_is_answered" ["many", "pairs", "handed"] (sp_answered K) f4 fd4) : FnOk P w K mg base CX0 5 f fd ["script"] (sp_law K) := by
  refine F.ok sclaw (fun vs H Q E h => ?_) (fun cdv A outer s H vs Q E hr h => ?_)
  · obtain ⟨a, ns, rfl, _⟩ := h
    rfl
  · obtain ⟨a, ns, rfl, hS, hn, q⟩ := h
    refine ⟨_, (pss_cons (ps_set (i := 1) sclaw.nd rfl (.inl rfl) (pe_call C_law_draws.ok (hr.mono (by decide)) (by rfl) C_law_draws.mg C_law_draws.kp C_law_draws.b .nil pass0 (pa_cons (pe_call C_law_cell.ok (hr.mono (by decide)) (by rfl) C_law_cell.mg C_law_cell.kp C_law_cell.b .nil pass0 (pa_cons (pv 0) (pa_cons pe_int pa_nil))) (pa_cons (pe_lst (pa_cons pe_int (pa_cons pe_int (pa_cons pe_int (pa_cons pe_int (pa_cons pe_int (pa_cons pe_int (pa_cons pe_int (pa_cons pe_int pa_nil))))))))) pa_nil))))
 (pss_cons (ps_set (i := 2) sclaw.nd rfl (.inr rfl) (pe_ix ix_list (pv 1) pe_int (fun _ _ => rfl)))
 (pss_cons (ps_if (pt_cmpR op_eq (pe_ix ix_list (pv 1) pe_int (fun _ _ => rfl)) pe_int (nomark _))
 (pss_one (ps_set (i := 2) sclaw.nd rfl (.inr rfl) (pe_op op_add pe_int (pe_ix ix_list (pv 1) pe_int (fun _ _ => rfl)))))
 pss_nil)
 (pss_cons (ps_set (i := 3) sclaw.nd rfl (.inl rfl) (pe_call C_law_pairs.ok (hr.mono (by decide)) (by rfl) C_law_pairs.mg C_law_pairs.kp C_law_pairs.b .nil pass0 (pa_cons (pv 0) (pa_cons (pv 2) (pa_cons (pv 1) pa_nil)))))
 (pss_cons (ps_set (i := 4) sclaw.nd rfl (.inl rfl) (pe_callTy call_list_of (by rfl) T.list (by decide +kernel) (pa_cons (pv 3) pa_nil)))
 (pss_cons (ps_if (pt_not (pt_val (pe_call C_law_is_answered.ok (hr.mono (by decide)) (by rfl) C_law_is_answered.mg C_law_is_answered.kp C_law_is_answered.b .nil pass0 (pa_cons (pv 2) (pa_cons (pv 3) (pa_cons (pv 4) pa_nil))))))
 (pss_one (ps_ret pe_bl))
 pss_nil)
 (pss_cons (ps_if (pt_cmpR op_gt (pv 2) pe_int (nomark _))
 (pss_one (ps_ret pe_bl))
 pss_nil)
 (pss_cons (ps_setLc (i := 5) (own := [("pair", 8)]) (g := gName 8) (tt := tYes) rfl sclaw.nd rfl rfl (sw_true rfl rfl rfl (by decide +kernel)) (pi_list (pv 3)) (blkOk_by (N := ["script", "shape", "many", "pairs", "first", "mirrored", "turned", "place", "pair"]) (sc := defScope slaw) (by decide +kernel)) (fun _ _ _ _ _ => (pg_name (i := 8) sclaw.nd rfl (.inl rfl))) (fun _ _ _ _ _ => pts_nil) (fun _ _ _ _ _ => (pe_tup (pa_cons (pe_op op_sub (pe_op op_sub (pv 2) pe_int) (pe_ix (r := rIxT K) ix_tup (pv 8) pe_int (fun _ _ => rfl))) (pa_cons (pe_op op_sub (pe_op op_sub (pv 2) pe_int) (pe_ix (r := rIxT K) ix_tup (pv 8) pe_int (fun _ _ => rfl))) pa_nil)))))
 (pss_cons (ps_if (PW.pt (pw_and (pt_cmpR op_eq (pe_ix ix_list (pv 1) pe_int (fun _ _ => rfl)) pe_int (nomark _)) (pw_and1 (pt_not (pt_val (pe_call C_law_is_answered.ok (hr.mono (by decide)) (by rfl) C_law_is_answered.mg C_law_is_answered.kp C_law_is_answered.b .nil pass0 (pa_cons (pv 2) (pa_cons (pv 5) (pa_cons (pe_callTy call_tuple_of (by rfl) T.tuple (by decide +kernel) (pa_cons (pv 5) pa_nil)) pa_nil)))))))))
 (pss_one (ps_ret pe_bl))
 pss_nil)
 (pss_cons (ps_if (PW.pt (pw_and (pt_cmpR op_eq (pe_ix ix_list (pv 1) pe_int (fun _ _ => rfl)) pe_int (nomark _)) (pw_and1 (pt_not (pt_val (pe_call C_law_is_answered.ok (hr.mono (by decide)) (by rfl) C_law_is_answered.mg C_law_is_answered.kp C_law_is_answered.b .nil pass0 (pa_cons (pe_op op_add (pv 2) pe_int) (pa_cons (pv 5) (pa_cons (pe_callTy call_list_of (by rfl) T.list (by decide +kernel) (pa_cons (pv 5) pa_nil)) pa_nil)))))))))
 (pss_one (ps_ret pe_bl))
 pss_nil)
 (pss_cons (ps_set (i := 6) sclaw.nd rfl (.inl rfl) (pe_lstRev rfl rfl T.list rfl T.reversed (pv 3)))
 (pss_cons (ps_if (pt_not (pt_val (pe_call C_law_is_answered.ok (hr.mono (by decide)) (by rfl) C_law_is_answered.mg C_law_is_answered.kp C_law_is_answered.b .nil pass0 (pa_cons (pv 2) (pa_cons (pv 6) (pa_cons (pe_callTy call_tuple_of (by rfl) T.tuple (by decide +kernel) (pa_cons (pv 6) pa_nil)) pa_nil))))))
 (pss_one (ps_ret pe_bl))
 pss_nil)
 (pss_cons (ps_if (pt_cmpR op_gt (pe_callB call_len_seq (by rfl) T.len (by decide +kernel) (pa_cons (pv 4) pa_nil)) pe_int (nomark _))
 (pss_cons (ps_set (i := 7) sclaw.nd rfl (.inl rfl) (pe_op op_modN (pe_callTy call_int1 (by rfl) T.int (by decide +kernel) (pa_cons (pe_ix ix_list (pv 1) pe_int (fun _ _ => rfl)) pa_nil)) (pe_callB call_len_seq (by rfl) T.len (by decide +kernel) (pa_cons (pv 4) pa_nil))))
 (pss_cons (ps_expr (pe_bm PySem.F.plainAttrs_list PySem.F.slot_list_pop PySem.F.type_list_pop mt_popAt (pv 4) (pa_cons (pv 7) pa_nil)))
 (pss_one (ps_if (pt_not (pt_val (pe_call C_law_is_answered.ok (hr.mono (by decide)) (by rfl) C_law_is_answered.mg C_law_is_answered.kp C_law_is_answered.b .nil pass0 (pa_cons (pv 2) (pa_cons (pe_op op_cat (pe_slice sl_list (pv 3) po_none (po_some (pv 7))) (pe_slice sl_list (pv 3) (po_some (pe_op op_add (pv 7) pe_int)) po_none)) (pa_cons (pv 4) pa_nil))))))
 (pss_one (ps_ret pe_bl))
 pss_nil))))
 pss_nil)
 (pss_one (ps_ret (pe_call C_law_is_answered.ok (hr.mono (by decide)) (by rfl) C_law_is_answered.mg C_law_is_answered.kp C_law_is_answered.b .nil pass0 (pa_cons (pv 2) (pa_cons (pv 3) (pa_cons (pe_callTy call_list_of (by rfl) T.list (by decide +kernel) (pa_cons (pv 3) pa_nil)) pa_nil))))))))))))))))))), ?_⟩
    -- shape
    refine ⟨_, rfl, a, ns, 0, rfl, hS, hn, by decide, fun c H1 s1 => ?_⟩
    refine ⟨by show 8 ≤ sizeLine; decide, fun z nz => ?_⟩
    refine ⟨z, c, [8, 7, 13, 4, 11, 3, 2, 2], rfl, SqL.of upd_same, by decide, by decide, fun b ss H2 s2 nb eb dr => ?_⟩
    have t2 : Same H H2 := (s1.new nz).trans s2
    have dr' := dr
    obtain ⟨z0, z1, z2, z3, z4, z5, z6, z7, rfl, b0, b1, b2, b3, b4, b5, b6, b7⟩ : ∃ s0 s1 s2 s3 s4 s5 s6 s7, ss = [s0, s1, s2, s3, s4, s5, s6, s7] ∧ s0 < 8 ∧ s1 < 7 ∧ s2 < 13 ∧ s3 < 4 ∧ s4 < 11 ∧ s5 < 3 ∧ s6 < 2 ∧ s7 < 2 := by
      cases dr with | cons h0 dr => cases dr with | cons h1 dr => cases dr with | cons h2 dr => cases dr with | cons h3 dr => cases dr with | cons h4 dr => cases dr with | cons h5 dr => cases dr with | cons h6 dr => cases dr with | cons h7 dr => cases dr with | nil => exact ⟨_, _, _, _, _, _, _, _, rfl, h0, h1, h2, h3, h4, h5, h6, h7⟩
    have hB : SqL K H2 b ([z0, z1, z2, z3, z4, z5, z6, z7].map nV) := SqL.of eb
    -- many
    refine ⟨_, rfl, b, _, 1, nV z1, rfl, rfl, hB, at_n (j := 1) rfl, ?_⟩
    refine ⟨_, rfl, b, _, 0, nV z0, rfl, rfl, hB, at_n (j := 0) rfl, rfl, _, rfl, ?_⟩
    refine ite2 (fun h5 => ?_) (fun h5 => ?_)
    · refine ⟨_, rfl, b, _, 4, nV z4, rfl, rfl, hB, at_n (j := 4) rfl, _, _, rfl, rfl, ?_⟩
      have e30 : V.int (30 + (z4 : Int)) = nV (30 + z4) := by simp [nV]
      have hm : (30 + z4) ≤ 41 := by omega
      refine ⟨_, rfl, _, rfl, _, rfl, a, b, ns, (30 + z4), _, rfl, t2.seq hS, hn, hm, hB, dr', fun p us ps H3 s3 np ep pr wi pl => ?_⟩
      have t3 : Same H H3 := t2.trans s3
      have hul : us.length = ps.length := P_len pr
      have hA3 : SqL K H3 p us := SqL.of ep
      -- first = list(pairs)
      refine ⟨_, rfl, p, us, rfl, .inl hA3, fun f1 nf1 => ?_⟩
      have u4 : Same H3 (upd H3 f1 (.lst us)) := (Same.refl H3).new nf1
      refine ⟨_, rfl, _, rfl, _, rfl, p, f1, (30 + z4), us, us, ps, rfl, u4.seq hA3, pr.same u4, .inl (SqL.of upd_same), pr.same u4, wi, by omega, by omega, fun H5 s5 => ⟨_, rfl, iteF ?_⟩⟩
      have u5 : Same H3 H5 := u4.trans s5
      have ef1 : H5 f1 = some (.lst us) := s5 _ _ upd_same
      refine ⟨_, rfl, _, _, rfl, rfl, _, rfl, ite2 (fun _ => q _) (fun hsm => ?_)⟩
      have hB5 : SqL K H5 b ([z0, z1, z2, z3, z4, z5, z6, z7].map nV) := (s3.trans u5).seq hB
      -- mirrored
      refine ⟨_, rfl, p, rfl, ⟨_, u5.seq hA3⟩, fun D nD => ?_⟩
      refine lc_list (K := K) (a := p) (xs := us) (fun i H' => Same H5 H' ∧ ∃ ws, H' D = some (.lst ws) ∧ Prs K H' ws (mirr ((30 + z4)) (ps.take i))) ⟨(Same.refl H5).new nD, [], upd_same, .nil⟩ (fun i H' _ ⟨s6, _⟩ => (u5.trans s6).seq hA3) ?_ ?_
      · rintro i y H' hi ⟨s6, ws, eD, pw⟩
        obtain ⟨⟨x1, x2⟩, hx, t, rfl, ht⟩ := P_right (pr.same (u5.trans s6)) hi
        obtain ⟨w1, w2⟩ := wi _ (List.mem_of_getElem? hx)
        have e1 : V.int ((((30 + z4) : Nat) : Int) - 1 - ((x1 : Nat) : Int)) = nV ((30 + z4) - 1 - x1) := by
          exact congrArg V.int (by omega)
        have e2 : V.int ((((30 + z4) : Nat) : Int) - 1 - ((x2 : Nat) : Int)) = nV ((30 + z4) - 1 - x2) := by
          exact congrArg V.int (by omega)
        refine ⟨rfl, _, rfl, _, _, rfl, rfl, _, rfl, t, _, 0, nV x1, rfl, rfl, ht, at_n (j := 0) rfl, _, _, rfl, rfl, _, rfl, _, _, rfl, rfl, _, rfl, t, _, 1, nV x2, rfl, rfl, ht, at_n (j := 1) rfl, _, _, rfl, rfl, sp2, fun u nu => ?_⟩
        have hDu : D ≠ u := ne_of_none eD nu
        have eDu : ∀ o, (upd H' u o) D = some (.lst ws) := fun o => by rw [upd_ne hDu]; exact eD
        refine ⟨ws, eDu _, ?_, (s6.new nu).mut nD, ws ++ [V.ref u], upd_same, ?_⟩
        · rw [pw.len]
          unfold mirr
          rw [List.length_map]
          exact szl (Nat.le_trans (List.length_take_le' _ _) (by omega))
        · have em : mirr ((30 + z4)) (ps.take (i + 1)) = mirr ((30 + z4)) (ps.take i) ++ [((30 + z4) - 1 - x1, (30 + z4) - 1 - x2)] := by
            unfold mirr
            rw [take_more hx, List.map_append]
            rfl
          rw [em]
          refine Prs.mutL (us := ws) ((pw.new nu).snoc (SqT.of ?_)) (eDu _)
          (rw [upd_same, ← e1, ← e2]) <;> rfl
      rintro H6 ⟨s6, ws, eD, pw⟩
      rw [hul, List.take_length] at pw
      have wm := within_mirr wi
      have hml : (mirr ((30 + z4)) ps).length ≤ 200 := by
        unfold mirr
        rw [List.length_map]
        exact pl
      have hB6 : SqL K H6 b ([z0, z1, z2, z3, z4, z5, z6, z7].map nV) := s6.seq hB5
      have z7c : z7 = 0 ∨ z7 = 1 := by omega
      rcases z7c with h7 | h7
      · subst h7
        refine ⟨_, rfl, b, _, 7, nV 0, rfl, rfl, hB6, at_n (j := 7) rfl, rfl, _, rfl, iteT ?_⟩
        refine ⟨_, rfl, _, rfl, _, rfl, D, ws, rfl, .inl ⟨SqL.of eD, fun l nl => ?_⟩⟩
        have v1 : Same H6 (upd H6 l (.tup ws)) := (Same.refl H6).new nl
        refine ⟨D, l, (30 + z4), ws, ws, mirr ((30 + z4)) ps, rfl, v1.seq (SqL.of eD), pw.same v1, .inr (SqT.of upd_same), pw.same v1, wm, by omega, by omega, fun H7 s7 => ⟨_, rfl, iteF ?_⟩⟩
        refine ⟨_, rfl, b, _, 7, nV 0, rfl, rfl, (v1.trans s7).seq hB6, at_n (j := 7) rfl, rfl, _, rfl, iteF (iteF ?_)⟩
        have sX : Same H6 H7 := v1.trans s7
        have w7 : Same H3 H7 := (u5.trans s6).trans sX
        have hB7 : SqL K H7 b ([z0, z1, z2, z3, z4, z5, z6, _].map nV) := sX.seq hB6
        have ef7 : H7 f1 = some (.lst us) := (s6.trans sX) _ _ ef1
        -- turned
        refine ⟨_, rfl, p, us, rfl, w7.seq hA3, fun r nr => ?_⟩
        have w8 : Same H3 (upd H7 r (.lst us.reverse)) := w7.new nr
        refine ⟨_, rfl, _, rfl, _, rfl, r, _, rfl, .inl ⟨SqL.of upd_same, fun r2 nr2 => ?_⟩⟩
        have w9 := w8.new (o := .tup us.reverse) nr2
        have er2 : (upd (upd H7 r (.lst us.reverse)) r2 (.tup us.reverse)) r = some (.lst us.reverse) := by rw [upd_ne (fun z => by rw [← z, upd_same] at nr2; cases nr2)]; exact upd_same
        have prr : Prs K (upd (upd H7 r (.lst us.reverse)) r2 (.tup us.reverse)) us.reverse ps.reverse := P_reverse (pr.same w9)
        refine ⟨r, r2, (30 + z4), us.reverse, us.reverse, ps.reverse, rfl, SqL.of er2, prr, .inr (SqT.of upd_same), prr, within_of wi (fun q hq => List.mem_reverse.mp hq), by omega, by rw [List.length_reverse]; omega, fun H9 s9 => ⟨_, rfl, iteF ?_⟩⟩
        have w10 : Same H3 H9 := w9.trans s9
        have w11 : Same H7 H9 := (((Same.refl H7).new nr).new nr2).trans s9
        have ef9 : H9 f1 = some (.lst us) := w11 _ _ ef7
        refine ⟨_, rfl, f1, us, rfl, .inl (SqL.of ef9), _, _, rfl, rfl, _, rfl, ite2 (fun hpos => ?_) (fun _ => ?_)⟩
        · have hup : 0 < us.length := by
            have := of_decide_eq_true hpos
            omega
          obtain ⟨k, ek, hk⟩ := fmod_nat ((z4 : Nat) : Int) hup
          refine ⟨_, rfl, b, _, 4, nV z4, rfl, rfl, w11.seq hB7, at_n (j := 4) rfl, .inl ⟨_, rfl, _, rfl, f1, us, rfl, .inl (SqL.of ef9), _, _, rfl, rfl, (by walk_at "nz"), ?_⟩⟩
          dsimp only
          rw [ek]
          obtain ⟨y, hy⟩ := get_lt hk
          refine ⟨_, rfl, .inl ⟨rfl, _, SqL.of ef9⟩, _, rfl, f1, us, (k : Int), k, y, rfl, rfl, ef9, by omega, by omega, ?_, hy, ?_⟩
          · exact seq_nat hk
          have x1 : Same H3 (upd H9 f1 (.lst (us.eraseIdx k))) := w10.mut nf1
          refine ⟨_, rfl, _, rfl, _, rfl, (k : Int), rfl, p, us, rfl, x1.seq hA3, fun c1 nc1 => ?_⟩
          rw [cut_to us k (by omega)]
          have x2 := x1.new (o := .lst (us.take k)) nc1
          refine ⟨_, rfl, _, rfl, _, _, rfl, rfl, (k : Int) + 1, rfl, p, us, rfl, x2.seq hA3, fun c2 nc2 => ?_⟩
          rw [show ((k : Nat) : Int) + 1 = ((k + 1 : Nat) : Int) by omega, cut_from us (k + 1)]
          have x3 := x2.new (o := .lst (us.drop (k + 1))) nc2
          have hc12 : c1 ≠ c2 := fun z => by rw [← z, upd_same] at nc2; cases nc2
          refine ⟨c1, c2, _, _, rfl, rfl, by rw [upd_ne hc12]; exact upd_same, upd_same, ?_, fun c3 nc3 => ?_⟩
          · rw [List.length_take, List.length_drop]
            exact szle (by omega)
          rw [← List.eraseIdx_eq_take_drop_succ]
          have x4 := x3.new (o := .lst (us.eraseIdx k)) nc3
          have pre : Prs K _ (us.eraseIdx k) (ps.eraseIdx k) := P_erase k (pr.same x4)
          have efX : ∀ o, (upd (upd (upd (upd H9 f1 (.lst (us.eraseIdx k))) c1 (.lst (us.take k))) c2 (.lst (us.drop (k + 1)))) c3 o) f1 = some (.lst (us.eraseIdx k)) := fun o => (((Same.refl (upd H9 f1 (.lst (us.eraseIdx k)))).new nc1).new nc2).new nc3 _ _ upd_same
          refine ⟨_, rfl, c3, f1, (30 + z4), us.eraseIdx k, us.eraseIdx k, ps.eraseIdx k, rfl, SqL.of upd_same, pre, .inl (SqL.of (efX _)), pre, within_of wi (fun q hq => List.mem_of_mem_eraseIdx hq), by omega, ?_, fun HA sA => ⟨_, rfl, iteF ?_⟩⟩
          · exact Nat.le_trans (List.length_eraseIdx_le _ _) (by omega)
          have y1 : Same H3 HA := x4.trans sA
          refine ⟨_, rfl, _, rfl, _, rfl, p, us, rfl, .inl (y1.seq hA3), fun l9 nl9 => ?_⟩
          have y2 := y1.new (o := .lst us) nl9
          exact ⟨p, l9, (30 + z4), us, us, ps, rfl, y2.seq hA3, pr.same y2, .inl (SqL.of upd_same), pr.same y2, wi, by omega, by omega, fun _ _ => q _⟩
        · refine ⟨_, rfl, _, rfl, _, rfl, p, us, rfl, .inl (w10.seq hA3), fun l9 nl9 => ?_⟩
          have y2 := w10.new (o := .lst us) nl9
          exact ⟨p, l9, (30 + z4), us, us, ps, rfl, y2.seq hA3, pr.same y2, .inl (SqL.of upd_same), pr.same y2, wi, by omega, by omega, fun _ _ => q _⟩
      · subst h7
        refine ⟨_, rfl, b, _, 7, nV 1, rfl, rfl, hB6, at_n (j := 7) rfl, rfl, _, rfl, iteF (iteF ?_)⟩
        refine ⟨_, rfl, b, _, 7, nV 1, rfl, rfl, hB6, at_n (j := 7) rfl, rfl, _, rfl, iteT ?_⟩
        refine ⟨_, rfl, _, _, rfl, rfl, _, rfl, _, rfl, D, ws, rfl, .inl (SqL.of eD), fun l nl => ?_⟩
        have v1 : Same H6 (upd H6 l (.lst ws)) := (Same.refl H6).new nl
        refine ⟨D, l, (30 + z4) + 1, ws, ws, mirr ((30 + z4)) ps, rfl, v1.seq (SqL.of eD), pw.same v1, .inl (SqL.of upd_same), pw.same v1, within_more wm (by omega), by omega, by omega, fun H7 s7 => ⟨_, rfl, iteF ?_⟩⟩
        have sX : Same H6 H7 := v1.trans s7
        have w7 : Same H3 H7 := (u5.trans s6).trans sX
        have hB7 : SqL K H7 b ([z0, z1, z2, z3, z4, z5, z6, _].map nV) := sX.seq hB6
        have ef7 : H7 f1 = some (.lst us) := (s6.trans sX) _ _ ef1
        -- turned
        refine ⟨_, rfl, p, us, rfl, w7.seq hA3, fun r nr => ?_⟩
        have w8 : Same H3 (upd H7 r (.lst us.reverse)) := w7.new nr
        refine ⟨_, rfl, _, rfl, _, rfl, r, _, rfl, .inl ⟨SqL.of upd_same, fun r2 nr2 => ?_⟩⟩
        have w9 := w8.new (o := .tup us.reverse) nr2
        have er2 : (upd (upd H7 r (.lst us.reverse)) r2 (.tup us.reverse)) r = some (.lst us.reverse) := by rw [upd_ne (fun z => by rw [← z, upd_same] at nr2; cases nr2)]; exact upd_same
        have prr : Prs K (upd (upd H7 r (.lst us.reverse)) r2 (.tup us.reverse)) us.reverse ps.reverse := P_reverse (pr.same w9)
        refine ⟨r, r2, (30 + z4), us.reverse, us.reverse, ps.reverse, rfl, SqL.of er2, prr, .inr (SqT.of upd_same), prr, within_of wi (fun q hq => List.mem_reverse.mp hq), by omega, by rw [List.length_reverse]; omega, fun H9 s9 => ⟨_, rfl, iteF ?_⟩⟩
        have w10 : Same H3 H9 := w9.trans s9
        have w11 : Same H7 H9 := (((Same.refl H7).new nr).new nr2).trans s9
        have ef9 : H9 f1 = some (.lst us) := w11 _ _ ef7
        refine ⟨_, rfl, f1, us, rfl, .inl (SqL.of ef9), _, _, rfl, rfl, _, rfl, ite2 (fun hpos => ?_) (fun _ => ?_)⟩
        · have hup : 0 < us.length := by
            have := of_decide_eq_true hpos
            omega
          obtain ⟨k, ek, hk⟩ := fmod_nat ((z4 : Nat) : Int) hup
          refine ⟨_, rfl, b, _, 4, nV z4, rfl, rfl, w11.seq hB7, at_n (j := 4) rfl, .inl ⟨_, rfl, _, rfl, f1, us, rfl, .inl (SqL.of ef9), _, _, rfl, rfl, (by walk_at "nz"), ?_⟩⟩
          dsimp only
          rw [ek]
          obtain ⟨y, hy⟩ := get_lt hk
          refine ⟨_, rfl, .inl ⟨rfl, _, SqL.of ef9⟩, _, rfl, f1, us, (k : Int), k, y, rfl, rfl, ef9, by omega, by omega, ?_, hy, ?_⟩
          · exact seq_nat hk
          have x1 : Same H3 (upd H9 f1 (.lst (us.eraseIdx k))) := w10.mut nf1
          refine ⟨_, rfl, _, rfl, _, rfl, (k : Int), rfl, p, us, rfl, x1.seq hA3, fun c1 nc1 => ?_⟩
          rw [cut_to us k (by omega)]
          have x2 := x1.new (o := .lst (us.take k)) nc1
          refine ⟨_, rfl, _, rfl, _, _, rfl, rfl, (k : Int) + 1, rfl, p, us, rfl, x2.seq hA3, fun c2 nc2 => ?_⟩
          rw [show ((k : Nat) : Int) + 1 = ((k + 1 : Nat) : Int) by omega, cut_from us (k + 1)]
          have x3 := x2.new (o := .lst (us.drop (k + 1))) nc2
          have hc12 : c1 ≠ c2 := fun z => by rw [← z, upd_same] at nc2; cases nc2
          refine ⟨c1, c2, _, _, rfl, rfl, by rw [upd_ne hc12]; exact upd_same, upd_same, ?_, fun c3 nc3 => ?_⟩
          · rw [List.length_take, List.length_drop]
            exact szle (by omega)
          rw [← List.eraseIdx_eq_take_drop_succ]
          have x4 := x3.new (o := .lst (us.eraseIdx k)) nc3
          have pre : Prs K _ (us.eraseIdx k) (ps.eraseIdx k) := P_erase k (pr.same x4)
          have efX : ∀ o, (upd (upd (upd (upd H9 f1 (.lst (us.eraseIdx k))) c1 (.lst (us.take k))) c2 (.lst (us.drop (k + 1)))) c3 o) f1 = some (.lst (us.eraseIdx k)) := fun o => (((Same.refl (upd H9 f1 (.lst (us.eraseIdx k)))).new nc1).new nc2).new nc3 _ _ upd_same
          refine ⟨_, rfl, c3, f1, (30 + z4), us.eraseIdx k, us.eraseIdx k, ps.eraseIdx k, rfl, SqL.of upd_same, pre, .inl (SqL.of (efX _)), pre, within_of wi (fun q hq => List.mem_of_mem_eraseIdx hq), by omega, ?_, fun HA sA => ⟨_, rfl, iteF ?_⟩⟩
          · exact Nat.le_trans (List.length_eraseIdx_le _ _) (by omega)
          have y1 : Same H3 HA := x4.trans sA
          refine ⟨_, rfl, _, rfl, _, rfl, p, us, rfl, .inl (y1.seq hA3), fun l9 nl9 => ?_⟩
          have y2 := y1.new (o := .lst us) nl9
          exact ⟨p, l9, (30 + z4), us, us, ps, rfl, y2.seq hA3, pr.same y2, .inl (SqL.of upd_same), pr.same y2, wi, by omega, by omega, fun _ _ => q _⟩
        · refine ⟨_, rfl, _, rfl, _, rfl, p, us, rfl, .inl (w10.seq hA3), fun l9 nl9 => ?_⟩
          have y2 := w10.new (o := .lst us) nl9
          exact ⟨p, l9, (30 + z4), us, us, ps, rfl, y2.seq hA3, pr.same y2, .inl (SqL.of upd_same), pr.same y2, wi, by omega, by omega, fun _ _ => q _⟩
    · skip
      have hm : z1 ≤ 41 := by omega
      refine ⟨_, rfl, _, rfl, _, rfl, a, b, ns, z1, _, rfl, t2.seq hS, hn, hm, hB, dr', fun p us ps H3 s3 np ep pr wi pl => ?_⟩
      have t3 : Same H H3 := t2.trans s3
      have hul : us.length = ps.length := P_len pr
      have hA3 : SqL K H3 p us := SqL.of ep
      -- first = list(pairs)
      refine ⟨_, rfl, p, us, rfl, .inl hA3, fun f1 nf1 => ?_⟩
      have u4 : Same H3 (upd H3 f1 (.lst us)) := (Same.refl H3).new nf1
      refine ⟨_, rfl, _, rfl, _, rfl, p, f1, z1, us, us, ps, rfl, u4.seq hA3, pr.same u4, .inl (SqL.of upd_same), pr.same u4, wi, by omega, by omega, fun H5 s5 => ⟨_, rfl, iteF ?_⟩⟩
      have u5 : Same H3 H5 := u4.trans s5
      have ef1 : H5 f1 = some (.lst us) := s5 _ _ upd_same
      refine ⟨_, rfl, _, _, rfl, rfl, _, rfl, ite2 (fun _ => q _) (fun hsm => ?_)⟩
      have hB5 : SqL K H5 b ([z0, z1, z2, z3, z4, z5, z6, z7].map nV) := (s3.trans u5).seq hB
      -- mirrored
      refine ⟨_, rfl, p, rfl, ⟨_, u5.seq hA3⟩, fun D nD => ?_⟩
      refine lc_list (K := K) (a := p) (xs := us) (fun i H' => Same H5 H' ∧ ∃ ws, H' D = some (.lst ws) ∧ Prs K H' ws (mirr (z1) (ps.take i))) ⟨(Same.refl H5).new nD, [], upd_same, .nil⟩ (fun i H' _ ⟨s6, _⟩ => (u5.trans s6).seq hA3) ?_ ?_
      · rintro i y H' hi ⟨s6, ws, eD, pw⟩
        obtain ⟨⟨x1, x2⟩, hx, t, rfl, ht⟩ := P_right (pr.same (u5.trans s6)) hi
        obtain ⟨w1, w2⟩ := wi _ (List.mem_of_getElem? hx)
        have e1 : V.int (((z1 : Nat) : Int) - 1 - ((x1 : Nat) : Int)) = nV (z1 - 1 - x1) := by
          exact congrArg V.int (by omega)
        have e2 : V.int (((z1 : Nat) : Int) - 1 - ((x2 : Nat) : Int)) = nV (z1 - 1 - x2) := by
          exact congrArg V.int (by omega)
        refine ⟨rfl, _, rfl, _, _, rfl, rfl, _, rfl, t, _, 0, nV x1, rfl, rfl, ht, at_n (j := 0) rfl, _, _, rfl, rfl, _, rfl, _, _, rfl, rfl, _, rfl, t, _, 1, nV x2, rfl, rfl, ht, at_n (j := 1) rfl, _, _, rfl, rfl, sp2, fun u nu => ?_⟩
        have hDu : D ≠ u := ne_of_none eD nu
        have eDu : ∀ o, (upd H' u o) D = some (.lst ws) := fun o => by rw [upd_ne hDu]; exact eD
        refine ⟨ws, eDu _, ?_, (s6.new nu).mut nD, ws ++ [V.ref u], upd_same, ?_⟩
        · rw [pw.len]
          unfold mirr
          rw [List.length_map]
          exact szl (Nat.le_trans (List.length_take_le' _ _) (by omega))
        · have em : mirr (z1) (ps.take (i + 1)) = mirr (z1) (ps.take i) ++ [(z1 - 1 - x1, z1 - 1 - x2)] := by
            unfold mirr
            rw [take_more hx, List.map_append]
            rfl
          rw [em]
          refine Prs.mutL (us := ws) ((pw.new nu).snoc (SqT.of ?_)) (eDu _)
          (rw [upd_same, ← e1, ← e2]) <;> rfl
      rintro H6 ⟨s6, ws, eD, pw⟩
      rw [hul, List.take_length] at pw
      have wm := within_mirr wi
      have hml : (mirr (z1) ps).length ≤ 200 := by
        unfold mirr
        rw [List.length_map]
        exact pl
      have hB6 : SqL K H6 b ([z0, z1, z2, z3, z4, z5, z6, z7].map nV) := s6.seq hB5
      have z7c : z7 = 0 ∨ z7 = 1 := by omega
      rcases z7c with h7 | h7
      · subst h7
        refine ⟨_, rfl, b, _, 7, nV 0, rfl, rfl, hB6, at_n (j := 7) rfl, rfl, _, rfl, iteT ?_⟩
        refine ⟨_, rfl, _, rfl, _, rfl, D, ws, rfl, .inl ⟨SqL.of eD, fun l nl => ?_⟩⟩
        have v1 : Same H6 (upd H6 l (.tup ws)) := (Same.refl H6).new nl
        refine ⟨D, l, z1, ws, ws, mirr (z1) ps, rfl, v1.seq (SqL.of eD), pw.same v1, .inr (SqT.of upd_same), pw.same v1, wm, by omega, by omega, fun H7 s7 => ⟨_, rfl, iteF ?_⟩⟩
        refine ⟨_, rfl, b, _, 7, nV 0, rfl, rfl, (v1.trans s7).seq hB6, at_n (j := 7) rfl, rfl, _, rfl, iteF (iteF ?_)⟩
        have sX : Same H6 H7 := v1.trans s7
        have w7 : Same H3 H7 := (u5.trans s6).trans sX
        have hB7 : SqL K H7 b ([z0, z1, z2, z3, z4, z5, z6, _].map nV) := sX.seq hB6
        have ef7 : H7 f1 = some (.lst us) := (s6.trans sX) _ _ ef1
        -- turned
        refine ⟨_, rfl, p, us, rfl, w7.seq hA3, fun r nr => ?_⟩
        have w8 : Same H3 (upd H7 r (.lst us.reverse)) := w7.new nr
        refine ⟨_, rfl, _, rfl, _, rfl, r, _, rfl, .inl ⟨SqL.of upd_same, fun r2 nr2 => ?_⟩⟩
        have w9 := w8.new (o := .tup us.reverse) nr2
        have er2 : (upd (upd H7 r (.lst us.reverse)) r2 (.tup us.reverse)) r = some (.lst us.reverse) := by rw [upd_ne (fun z => by rw [← z, upd_same] at nr2; cases nr2)]; exact upd_same
        have prr : Prs K (upd (upd H7 r (.lst us.reverse)) r2 (.tup us.reverse)) us.reverse ps.reverse := P_reverse (pr.same w9)
        refine ⟨r, r2, z1, us.reverse, us.reverse, ps.reverse, rfl, SqL.of er2, prr, .inr (SqT.of upd_same), prr, within_of wi (fun q hq => List.mem_reverse.mp hq), by omega, by rw [List.length_reverse]; omega, fun H9 s9 => ⟨_, rfl, iteF ?_⟩⟩
        have w10 : Same H3 H9 := w9.trans s9
        have w11 : Same H7 H9 := (((Same.refl H7).new nr).new nr2).trans s9
        have ef9 : H9 f1 = some (.lst us) := w11 _ _ ef7
        refine ⟨_, rfl, f1, us, rfl, .inl (SqL.of ef9), _, _, rfl, rfl, _, rfl, ite2 (fun hpos => ?_) (fun _ => ?_)⟩
        · have hup : 0 < us.length := by
            have := of_decide_eq_true hpos
            omega
          obtain ⟨k, ek, hk⟩ := fmod_nat ((z4 : Nat) : Int) hup
          refine ⟨_, rfl, b, _, 4, nV z4, rfl, rfl, w11.seq hB7, at_n (j := 4) rfl, .inl ⟨_, rfl, _, rfl, f1, us, rfl, .inl (SqL.of ef9), _, _, rfl, rfl, (by walk_at "nz"), ?_⟩⟩
          dsimp only
          rw [ek]
          obtain ⟨y, hy⟩ := get_lt hk
          refine ⟨_, rfl, .inl ⟨rfl, _, SqL.of ef9⟩, _, rfl, f1, us, (k : Int), k, y, rfl, rfl, ef9, by omega, by omega, ?_, hy, ?_⟩
          · exact seq_nat hk
          have x1 : Same H3 (upd H9 f1 (.lst (us.eraseIdx k))) := w10.mut nf1
          refine ⟨_, rfl, _, rfl, _, rfl, (k : Int), rfl, p, us, rfl, x1.seq hA3, fun c1 nc1 => ?_⟩
          rw [cut_to us k (by omega)]
          have x2 := x1.new (o := .lst (us.take k)) nc1
          refine ⟨_, rfl, _, rfl, _, _, rfl, rfl, (k : Int) + 1, rfl, p, us, rfl, x2.seq hA3, fun c2 nc2 => ?_⟩
          rw [show ((k : Nat) : Int) + 1 = ((k + 1 : Nat) : Int) by omega, cut_from us (k + 1)]
          have x3 := x2.new (o := .lst (us.drop (k + 1))) nc2
          have hc12 : c1 ≠ c2 := fun z => by rw [← z, upd_same] at nc2; cases nc2
          refine ⟨c1, c2, _, _, rfl, rfl, by rw [upd_ne hc12]; exact upd_same, upd_same, ?_, fun c3 nc3 => ?_⟩
          · rw [List.length_take, List.length_drop]
            exact szle (by omega)
          rw [← List.eraseIdx_eq_take_drop_succ]
          have x4 := x3.new (o := .lst (us.eraseIdx k)) nc3
          have pre : Prs K _ (us.eraseIdx k) (ps.eraseIdx k) := P_erase k (pr.same x4)
          have efX : ∀ o, (upd (upd (upd (upd H9 f1 (.lst (us.eraseIdx k))) c1 (.lst (us.take k))) c2 (.lst (us.drop (k + 1)))) c3 o) f1 = some (.lst (us.eraseIdx k)) := fun o => (((Same.refl (upd H9 f1 (.lst (us.eraseIdx k)))).new nc1).new nc2).new nc3 _ _ upd_same
          refine ⟨_, rfl, c3, f1, z1, us.eraseIdx k, us.eraseIdx k, ps.eraseIdx k, rfl, SqL.of upd_same, pre, .inl (SqL.of (efX _)), pre, within_of wi (fun q hq => List.mem_of_mem_eraseIdx hq), by omega, ?_, fun HA sA => ⟨_, rfl, iteF ?_⟩⟩
          · exact Nat.le_trans (List.length_eraseIdx_le _ _) (by omega)
          have y1 : Same H3 HA := x4.trans sA
          refine ⟨_, rfl, _, rfl, _, rfl, p, us, rfl, .inl (y1.seq hA3), fun l9 nl9 => ?_⟩
          have y2 := y1.new (o := .lst us) nl9
          exact ⟨p, l9, z1, us, us, ps, rfl, y2.seq hA3, pr.same y2, .inl (SqL.of upd_same), pr.same y2, wi, by omega, by omega, fun _ _ => q _⟩
        · refine ⟨_, rfl, _, rfl, _, rfl, p, us, rfl, .inl (w10.seq hA3), fun l9 nl9 => ?_⟩
          have y2 := w10.new (o := .lst us) nl9
          exact ⟨p, l9, z1, us, us, ps, rfl, y2.seq hA3, pr.same y2, .inl (SqL.of upd_same), pr.same y2, wi, by omega, by omega, fun _ _ => q _⟩
      · subst h7
        refine ⟨_, rfl, b, _, 7, nV 1, rfl, rfl, hB6, at_n (j := 7) rfl, rfl, _, rfl, iteF (iteF ?_)⟩
        refine ⟨_, rfl, b, _, 7, nV 1, rfl, rfl, hB6, at_n (j := 7) rfl, rfl, _, rfl, iteT ?_⟩
        refine ⟨_, rfl, _, _, rfl, rfl, _, rfl, _, rfl, D, ws, rfl, .inl (SqL.of eD), fun l nl => ?_⟩
        have v1 : Same H6 (upd H6 l (.lst ws)) := (Same.refl H6).new nl
        refine ⟨D, l, z1 + 1, ws, ws, mirr (z1) ps, rfl, v1.seq (SqL.of eD), pw.same v1, .inl (SqL.of upd_same), pw.same v1, within_more wm (by omega), by omega, by omega, fun H7 s7 => ⟨_, rfl, iteF ?_⟩⟩
        have sX : Same H6 H7 := v1.trans s7
        have w7 : Same H3 H7 := (u5.trans s6).trans sX
        have hB7 : SqL K H7 b ([z0, z1, z2, z3, z4, z5, z6, _].map nV) := sX.seq hB6
        have ef7 : H7 f1 = some (.lst us) := (s6.trans sX) _ _ ef1
        -- turned
        refine ⟨_, rfl, p, us, rfl, w7.seq hA3, fun r nr => ?_⟩
        have w8 : Same H3 (upd H7 r (.lst us.reverse)) := w7.new nr
        refine ⟨_, rfl, _, rfl, _, rfl, r, _, rfl, .inl ⟨SqL.of upd_same, fun r2 nr2 => ?_⟩⟩
        have w9 := w8.new (o := .tup us.reverse) nr2
        have er2 : (upd (upd H7 r (.lst us.reverse)) r2 (.tup us.reverse)) r = some (.lst us.reverse) := by rw [upd_ne (fun z => by rw [← z, upd_same] at nr2; cases nr2)]; exact upd_same
        have prr : Prs K (upd (upd H7 r (.lst us.reverse)) r2 (.tup us.reverse)) us.reverse ps.reverse := P_reverse (pr.same w9)
        refine ⟨r, r2, z1, us.reverse, us.reverse, ps.reverse, rfl, SqL.of er2, prr, .inr (SqT.of upd_same), prr, within_of wi (fun q hq => List.mem_reverse.mp hq), by omega, by rw [List.length_reverse]; omega, fun H9 s9 => ⟨_, rfl, iteF ?_⟩⟩
        have w10 : Same H3 H9 := w9.trans s9
        have w11 : Same H7 H9 := (((Same.refl H7).new nr).new nr2).trans s9
        have ef9 : H9 f1 = some (.lst us) := w11 _ _ ef7
        refine ⟨_, rfl, f1, us, rfl, .inl (SqL.of ef9), _, _, rfl, rfl, _, rfl, ite2 (fun hpos => ?_) (fun _ => ?_)⟩
        · have hup : 0 < us.length := by
            have := of_decide_eq_true hpos
            omega
          obtain ⟨k, ek, hk⟩ := fmod_nat ((z4 : Nat) : Int) hup
          refine ⟨_, rfl, b, _, 4, nV z4, rfl, rfl, w11.seq hB7, at_n (j := 4) rfl, .inl ⟨_, rfl, _, rfl, f1, us, rfl, .inl (SqL.of ef9), _, _, rfl, rfl, (by walk_at "nz"), ?_⟩⟩
          dsimp only
          rw [ek]
          obtain ⟨y, hy⟩ := get_lt hk
          refine ⟨_, rfl, .inl ⟨rfl, _, SqL.of ef9⟩, _, rfl, f1, us, (k : Int), k, y, rfl, rfl, ef9, by omega, by omega, ?_, hy, ?_⟩
          · exact seq_nat hk
          have x1 : Same H3 (upd H9 f1 (.lst (us.eraseIdx k))) := w10.mut nf1
          refine ⟨_, rfl, _, rfl, _, rfl, (k : Int), rfl, p, us, rfl, x1.seq hA3, fun c1 nc1 => ?_⟩
          rw [cut_to us k (by omega)]
          have x2 := x1.new (o := .lst (us.take k)) nc1
          refine ⟨_, rfl, _, rfl, _, _, rfl, rfl, (k : Int) + 1, rfl, p, us, rfl, x2.seq hA3, fun c2 nc2 => ?_⟩
          rw [show ((k : Nat) : Int) + 1 = ((k + 1 : Nat) : Int) by omega, cut_from us (k + 1)]
          have x3 := x2.new (o := .lst (us.drop (k + 1))) nc2
          have hc12 : c1 ≠ c2 := fun z => by rw [← z, upd_same] at nc2; cases nc2
          refine ⟨c1, c2, _, _, rfl, rfl, by rw [upd_ne hc12]; exact upd_same, upd_same, ?_, fun c3 nc3 => ?_⟩
          · rw [List.length_take, List.length_drop]
            exact szle (by omega)
          rw [← List.eraseIdx_eq_take_drop_succ]
          have x4 := x3.new (o := .lst (us.eraseIdx k)) nc3
          have pre : Prs K _ (us.eraseIdx k) (ps.eraseIdx k) := P_erase k (pr.same x4)
          have efX : ∀ o, (upd (upd (upd (upd H9 f1 (.lst (us.eraseIdx k))) c1 (.lst (us.take k))) c2 (.lst (us.drop (k + 1)))) c3 o) f1 = some (.lst (us.eraseIdx k)) := fun o => (((Same.refl (upd H9 f1 (.lst (us.eraseIdx k)))).new nc1).new nc2).new nc3 _ _ upd_same
          refine ⟨_, rfl, c3, f1, z1, us.eraseIdx k, us.eraseIdx k, ps.eraseIdx k, rfl, SqL.of upd_same, pre, .inl (SqL.of (efX _)), pre, within_of wi (fun q hq => List.mem_of_mem_eraseIdx hq), by omega, ?_, fun HA sA => ⟨_, rfl, iteF ?_⟩⟩
          · exact Nat.le_trans (List.length_eraseIdx_le _ _) (by omega)
          have y1 : Same H3 HA := x4.trans sA
          refine ⟨_, rfl, _, rfl, _, rfl, p, us, rfl, .inl (y1.seq hA3), fun l9 nl9 => ?_⟩
          have y2 := y1.new (o := .lst us) nl9
          exact ⟨p, l9, z1, us, us, ps, rfl, y2.seq hA3, pr.same y2, .inl (SqL.of upd_same), pr.same y2, wi, by omega, by omega, fun _ _ => q _⟩
        · refine ⟨_, rfl, _, rfl, _, rfl, p, us, rfl, .inl (w10.seq hA3), fun l9 nl9 => ?_⟩
          have y2 := w10.new (o := .lst us) nl9
          exact ⟨p, l9, z1, us, us, ps, rfl, y2.seq hA3, pr.same y2, .inl (SqL.of upd_same), pr.same y2, wi, by omega, by omega, fun _ _ => q _⟩
end
end K02W

namespace K02W
open PySem PySem.Spec PyProof.Rows L2 K02 KH
theorem all_mk {l : PySem.W.OpenLaw} {w : World} {K : PySem.W.Frag} {h : Heap} {mg : Str → Option Value} {fa f0 f1 f2 f3 f4 f5 f6 f7 f8 f9 f10 f11 f12 f13 f14 f15 : Addr} (X : K.In h) (G : h.Ns mainGlobals mg) (hfa : mg "law" = some (.ref fa))
    {od0 an0 od1 an1 od2 an2 od3 an3 od4 an4 od5 an5 od6 an6 od7 an7 od8 an8 od9 an9 od10 an10 od11 an11 od12 an12 od13 an13 od14 an14 od15 an15 : Option Addr} {sl0 sl1 sl2 sl3 sl4 sl5 sl6 sl7 sl8 sl9 sl10 sl11 sl12 sl13 sl14 sl15 : Array (Option Value)} {oc0 kV0 dc0 pm0 cd0 ct0 oc1 kV1 dc1 pm1 cd1 ct1 oc2 kV2 dc2 pm2 cd2 ct2 oc3 kV3 dc3 pm3 cd3 ct3 oc4 kV4 dc4 pm4 cd4 ct4 oc5 kV5 dc5 pm5 cd5 ct5 oc6 kV6 dc6 pm6 cd6 ct6 oc7 kV7 dc7 pm7 cd7 ct7 oc8 kV8 dc8 pm8 cd8 ct8 oc9 kV9 dc9 pm9 cd9 ct9 oc10 kV10 dc10 pm10 cd10 ct10 oc11 kV11 dc11 pm11 cd11 ct11 oc12 kV12 dc12 pm12 cd12 ct12 oc13 kV13 dc13 pm13 cd13 ct13 oc14 kV14 dc14 pm14 cd14 ct14 oc15 kV15 dc15 pm15 cd15 ct15 : Value}
    (a0 : PySem.W.nsIn K mainGlobals "_law_cell" = some (some (.ref f0))) (l0 : K.lookup f0 = some ⟨oc0, od0, .func (PySem.W.fnOf "_law_cell" "_law_cell" (defArgs s_law_cell) (defBody s_law_cell) (defScope s_law_cell) .none kV0 dc0 pm0 an0 cd0 ct0), sl0⟩) (c0 : PySem.W.codeIn K cd0 "_law_cell" = true) (k0 : PySem.W.keepIn K (.ref f0) = true)
    (a1 : PySem.W.nsIn K mainGlobals "_law_draws" = some (some (.ref f1))) (l1 : K.lookup f1 = some ⟨oc1, od1, .func (PySem.W.fnOf "_law_draws" "_law_draws" (defArgs s_law_draws) (defBody s_law_draws) (defScope s_law_draws) .none kV1 dc1 pm1 an1 cd1 ct1), sl1⟩) (c1 : PySem.W.codeIn K cd1 "_law_draws" = true) (k1 : PySem.W.keepIn K (.ref f1) = true)
    (a2 : PySem.W.nsIn K mainGlobals "_law_permuted" = some (some (.ref f2))) (l2 : K.lookup f2 = some ⟨oc2, od2, .func (PySem.W.fnOf "_law_permuted" "_law_permuted" (defArgs s_law_permuted) (defBody s_law_permuted) (defScope s_law_permuted) .none kV2 dc2 pm2 an2 cd2 ct2), sl2⟩) (c2 : PySem.W.codeIn K cd2 "_law_permuted" = true) (k2 : PySem.W.keepIn K (.ref f2) = true)
    (a3 : PySem.W.nsIn K mainGlobals "_law_any_pairs" = some (some (.ref f3))) (l3 : K.lookup f3 = some ⟨oc3, od3, .func (PySem.W.fnOf "_law_any_pairs" "_law_any_pairs" (defArgs s_law_any_pairs) (defBody s_law_any_pairs) (defScope s_law_any_pairs) .none kV3 dc3 pm3 an3 cd3 ct3), sl3⟩) (c3 : PySem.W.codeIn K cd3 "_law_any_pairs" = true) (k3 : PySem.W.keepIn K (.ref f3) = true)
    (a4 : PySem.W.nsIn K mainGlobals "_law_forward" = some (some (.ref f4))) (l4 : K.lookup f4 = some ⟨oc4, od4, .func (PySem.W.fnOf "_law_forward" "_law_forward" (defArgs s_law_forward) (defBody s_law_forward) (defScope s_law_forward) .none kV4 dc4 pm4 an4 cd4 ct4), sl4⟩) (c4 : PySem.W.codeIn K cd4 "_law_forward" = true) (k4 : PySem.W.keepIn K (.ref f4) = true)
    (a5 : PySem.W.nsIn K mainGlobals "_law_pairs" = some (some (.ref f5))) (l5 : K.lookup f5 = some ⟨oc5, od5, .func (PySem.W.fnOf "_law_pairs" "_law_pairs" (defArgs s_law_pairs) (defBody s_law_pairs) (defScope s_law_pairs) .none kV5 dc5 pm5 an5 cd5 ct5), sl5⟩) (c5 : PySem.W.codeIn K cd5 "_law_pairs" = true) (k5 : PySem.W.keepIn K (.ref f5) = true)
    (a6 : PySem.W.nsIn K mainGlobals "_all_in" = some (some (.ref f6))) (l6 : K.lookup f6 = some ⟨oc6, od6, .func (PySem.W.fnOf "_all_in" "_all_in" (defArgs s_all_in) (defBody s_all_in) (defScope s_all_in) .none kV6 dc6 pm6 an6 cd6 ct6), sl6⟩) (c6 : PySem.W.codeIn K cd6 "_all_in" = true) (k6 : PySem.W.keepIn K (.ref f6) = true)
    (a7 : PySem.W.nsIn K mainGlobals "canonical_order" = some (some (.ref f7))) (l7 : K.lookup f7 = some ⟨oc7, od7, .func (PySem.W.fnOf "canonical_order" "canonical_order" (defArgs scanonical_order) (defBody scanonical_order) (defScope scanonical_order) .none kV7 dc7 pm7 an7 cd7 ct7), sl7⟩) (c7 : PySem.W.codeIn K cd7 "canonical_order" = true) (k7 : PySem.W.keepIn K (.ref f7) = true)
    (a8 : PySem.W.nsIn K mainGlobals "_law_order" = some (some (.ref f8))) (l8 : K.lookup f8 = some ⟨oc8, od8, .func (PySem.W.fnOf "_law_order" "_law_order" (defArgs s_law_order) (defBody s_law_order) (defScope s_law_order) .none kV8 dc8 pm8 an8 cd8 ct8), sl8⟩) (c8 : PySem.W.codeIn K cd8 "_law_order" = true) (k8 : PySem.W.keepIn K (.ref f8) = true)
    (a9 : PySem.W.nsIn K mainGlobals "_steps_to" = some (some (.ref f9))) (l9 : K.lookup f9 = some ⟨oc9, od9, .func (PySem.W.fnOf "_steps_to" "_steps_to" (defArgs s_steps_to) (defBody s_steps_to) (defScope s_steps_to) .none kV9 dc9 pm9 an9 cd9 ct9), sl9⟩) (c9 : PySem.W.codeIn K cd9 "_steps_to" = true) (k9 : PySem.W.keepIn K (.ref f9) = true)
    (a10 : PySem.W.nsIn K mainGlobals "_ring_from" = some (some (.ref f10))) (l10 : K.lookup f10 = some ⟨oc10, od10, .func (PySem.W.fnOf "_ring_from" "_ring_from" (defArgs s_ring_from) (defBody s_ring_from) (defScope s_ring_from) .none kV10 dc10 pm10 an10 cd10 ct10), sl10⟩) (c10 : PySem.W.codeIn K cd10 "_ring_from" = true) (k10 : PySem.W.keepIn K (.ref f10) = true)
    (a11 : PySem.W.nsIn K mainGlobals "least_ring" = some (some (.ref f11))) (l11 : K.lookup f11 = some ⟨oc11, od11, .func (PySem.W.fnOf "least_ring" "least_ring" (defArgs sleast_ring) (defBody sleast_ring) (defScope sleast_ring) .none kV11 dc11 pm11 an11 cd11 ct11), sl11⟩) (c11 : PySem.W.codeIn K cd11 "least_ring" = true) (k11 : PySem.W.keepIn K (.ref f11) = true)
    (a12 : PySem.W.nsIn K mainGlobals "_law_ring" = some (some (.ref f12))) (l12 : K.lookup f12 = some ⟨oc12, od12, .func (PySem.W.fnOf "_law_ring" "_law_ring" (defArgs s_law_ring) (defBody s_law_ring) (defScope s_law_ring) .none kV12 dc12 pm12 an12 cd12 ct12), sl12⟩) (c12 : PySem.W.codeIn K cd12 "_law_ring" = true) (k12 : PySem.W.keepIn K (.ref f12) = true)
    (a13 : PySem.W.nsIn K mainGlobals "_law_is_list" = some (some (.ref f13))) (l13 : K.lookup f13 = some ⟨oc13, od13, .func (PySem.W.fnOf "_law_is_list" "_law_is_list" (defArgs s_law_is_list) (defBody s_law_is_list) (defScope s_law_is_list) .none kV13 dc13 pm13 an13 cd13 ct13), sl13⟩) (c13 : PySem.W.codeIn K cd13 "_law_is_list" = true) (k13 : PySem.W.keepIn K (.ref f13) = true)
    (a14 : PySem.W.nsIn K mainGlobals "_law_is_answered" = some (some (.ref f14))) (l14 : K.lookup f14 = some ⟨oc14, od14, .func (PySem.W.fnOf "_law_is_answered" "_law_is_answered" (defArgs s_law_is_answered) (defBody s_law_is_answered) (defScope s_law_is_answered) .none kV14 dc14 pm14 an14 cd14 ct14), sl14⟩) (c14 : PySem.W.codeIn K cd14 "_law_is_answered" = true) (k14 : PySem.W.keepIn K (.ref f14) = true)
    (a15 : PySem.W.nsIn K mainGlobals "law" = some (some (.ref f15))) (l15 : K.lookup f15 = some ⟨oc15, od15, .func (PySem.W.fnOf "law" "law" (defArgs slaw) (defBody slaw) (defScope slaw) .none kV15 dc15 pm15 an15 cd15 ct15), sl15⟩) (c15 : PySem.W.codeIn K cd15 "law" = true) (k15 : PySem.W.keepIn K (.ref f15) = true)
    (z_len : PySem.W.nsIn K mainGlobals "len" = some none)
    (z_abs : PySem.W.nsIn K mainGlobals "abs" = some none)
    (z_int : PySem.W.nsIn K mainGlobals "int" = some none)
    (z_range : PySem.W.nsIn K mainGlobals "range" = some none)
    (z_list : PySem.W.nsIn K mainGlobals "list" = some none)
    (z_tuple : PySem.W.nsIn K mainGlobals "tuple" = some none)
    (z_all : PySem.W.nsIn K mainGlobals "all" = some none)
    (z_min : PySem.W.nsIn K mainGlobals "min" = some none)
    (z_max : PySem.W.nsIn K mainGlobals "max" = some none)
    (z_reversed : PySem.W.nsIn K mainGlobals "reversed" = some none)
    (z_isinstance : PySem.W.nsIn K mainGlobals "isinstance" = some none)
    (z_bool : PySem.W.nsIn K mainGlobals "bool" = some none)
    : ∃ fd : FuncData, (∀ (s : Shared) (v : Value), BindsTo s fd ⟨[v], []⟩ [("script", v)]) ∧ ∀ base : Heap, K.In base → base.Ns mainGlobals mg → FnOk l.prog w K mg base CX0 5 fa fd ["script"] (sp_law K) := by
  have e := hfa.symm.trans (PySem.W.mg_of X G a15)
  cases e
  have F0 := fun_mk (st := s_law_cell) l0 c0 k0
  have b0 := F0.binds (ps := ["script", "k"]) fun _ _ _ _ _ _ us hl => match us, hl with | [_, _], _ => rfl
  have F1 := fun_mk (st := s_law_draws) l1 c1 k1
  have b1 := F1.binds (ps := ["cell", "sizes"]) fun _ _ _ _ _ _ us hl => match us, hl with | [_, _], _ => rfl
  have F2 := fun_mk (st := s_law_permuted) l2 c2 k2
  have b2 := F2.binds (ps := ["cell", "many"]) fun _ _ _ _ _ _ us hl => match us, hl with | [_, _], _ => rfl
  have F3 := fun_mk (st := s_law_any_pairs) l3 c3 k3
  have b3 := F3.binds (ps := ["cell", "many", "count", "loops"]) fun _ _ _ _ _ _ us hl => match us, hl with | [_, _, _, _], _ => rfl
  have F4 := fun_mk (st := s_law_forward) l4 c4 k4
  have b4 := F4.binds (ps := ["cell", "order", "count", "backward"]) fun _ _ _ _ _ _ us hl => match us, hl with | [_, _, _, _], _ => rfl
  have F5 := fun_mk (st := s_law_pairs) l5 c5 k5
  have b5 := F5.binds (ps := ["script", "many", "shape"]) fun _ _ _ _ _ _ us hl => match us, hl with | [_, _, _], _ => rfl
  have F6 := fun_mk (st := s_all_in) l6 c6 k6
  have b6 := F6.binds (ps := ["places", "taken"]) fun _ _ _ _ _ _ us hl => match us, hl with | [_, _], _ => rfl
  have F7 := fun_mk (st := scanonical_order) l7 c7 k7
  have b7 := F7.binds (ps := ["many", "pairs"]) fun _ _ _ _ _ _ us hl => match us, hl with | [_, _], _ => rfl
  have F8 := fun_mk (st := s_law_order) l8 c8 k8
  have b8 := F8.binds (ps := ["many", "pairs"]) fun _ _ _ _ _ _ us hl => match us, hl with | [_, _], _ => rfl
  have F9 := fun_mk (st := s_steps_to) l9 c9 k9
  have b9 := F9.binds (ps := ["befores", "start"]) fun _ _ _ _ _ _ us hl => match us, hl with | [_, _], _ => rfl
  have F10 := fun_mk (st := s_ring_from) l10 c10 k10
  have b10 := F10.binds (ps := ["befores", "afters", "start"]) fun _ _ _ _ _ _ us hl => match us, hl with | [_, _, _], _ => rfl
  have F11 := fun_mk (st := sleast_ring) l11 c11 k11
  have b11 := F11.binds (ps := ["many", "pairs"]) fun _ _ _ _ _ _ us hl => match us, hl with | [_, _], _ => rfl
  have F12 := fun_mk (st := s_law_ring) l12 c12 k12
  have b12 := F12.binds (ps := ["many", "pairs"]) fun _ _ _ _ _ _ us hl => match us, hl with | [_, _], _ => rfl
  have F13 := fun_mk (st := s_law_is_list) l13 c13 k13
  have b13 := F13.binds (ps := ["told", "due"]) fun _ _ _ _ _ _ us hl => match us, hl with | [_, _], _ => rfl
  have F14 := fun_mk (st := s_law_is_answered) l14 c14 k14
  have b14 := F14.binds (ps := ["many", "pairs", "handed"]) fun _ _ _ _ _ _ us hl => match us, hl with | [_, _, _], _ => rfl
  have F15 := fun_mk (st := slaw) l15 c15 k15
  refine ⟨PySem.W.fnOf "law" "law" (defArgs slaw) (defBody slaw) (defScope slaw) .none kV15 dc15 pm15 an15 cd15 ct15, fun s v => .of_eq rfl, fun base _ _ => ?_⟩
  have T : Txt mg := ⟨PySem.W.mg_none_of X G z_len, PySem.W.mg_none_of X G z_abs, PySem.W.mg_none_of X G z_int, PySem.W.mg_none_of X G z_range, PySem.W.mg_none_of X G z_list, PySem.W.mg_none_of X G z_tuple, PySem.W.mg_none_of X G z_all, PySem.W.mg_none_of X G z_min, PySem.W.mg_none_of X G z_max, PySem.W.mg_none_of X G z_reversed, PySem.W.mg_none_of X G z_isinstance, PySem.W.mg_none_of X G z_bool⟩
  have C_law_cell : Cal l.prog w K mg base 1 "_law_cell" ["script", "k"] (sp_cell K) f0 _ := ⟨ok_cell F0 T , PySem.W.mg_of X G a0, k0, b0⟩
  have C_law_draws : Cal l.prog w K mg base 1 "_law_draws" ["cell", "sizes"] (sp_draws K) f1 _ := ⟨ok_draws F1 T , PySem.W.mg_of X G a1, k1, b1⟩
  have C_law_permuted : Cal l.prog w K mg base 2 "_law_permuted" ["cell", "many"] sp_permuted f2 _ := ⟨ok_permuted F2 T C_law_draws, PySem.W.mg_of X G a2, k2, b2⟩
  have C_law_any_pairs : Cal l.prog w K mg base 2 "_law_any_pairs" ["cell", "many", "count", "loops"] (sp_any K) f3 _ := ⟨ok_any F3 T C_law_draws, PySem.W.mg_of X G a3, k3, b3⟩
  have C_law_forward : Cal l.prog w K mg base 3 "_law_forward" ["cell", "order", "count", "backward"] (sp_forward K) f4 _ := ⟨ok_forward F4 T C_law_any_pairs, PySem.W.mg_of X G a4, k4, b4⟩
  have C_law_pairs : Cal l.prog w K mg base 4 "_law_pairs" ["script", "many", "shape"] (sp_pairs K) f5 _ := ⟨ok_pairs F5 T C_law_cell C_law_permuted C_law_any_pairs C_law_forward, PySem.W.mg_of X G a5, k5, b5⟩
  have C_all_in : Cal l.prog w K mg base 1 "_all_in" ["places", "taken"] (sp_allin K) f6 _ := ⟨ok_allin F6 T , PySem.W.mg_of X G a6, k6, b6⟩
  have Ccanonical_order : Cal l.prog w K mg base 2 "canonical_order" ["many", "pairs"] (sp_order K) f7 _ := ⟨ok_order F7 T C_all_in, PySem.W.mg_of X G a7, k7, b7⟩
  have C_law_order : Cal l.prog w K mg base 1 "_law_order" ["many", "pairs"] (sp_order K) f8 _ := ⟨ok_lorder F8 T , PySem.W.mg_of X G a8, k8, b8⟩
  have C_steps_to : Cal l.prog w K mg base 1 "_steps_to" ["befores", "start"] sp_steps f9 _ := ⟨ok_steps F9 T , PySem.W.mg_of X G a9, k9, b9⟩
  have C_ring_from : Cal l.prog w K mg base 2 "_ring_from" ["befores", "afters", "start"] sp_ringfrom f10 _ := ⟨ok_ringfrom F10 T C_steps_to, PySem.W.mg_of X G a10, k10, b10⟩
  have Cleast_ring : Cal l.prog w K mg base 3 "least_ring" ["many", "pairs"] (sp_ring K) f11 _ := ⟨ok_ring F11 T C_ring_from, PySem.W.mg_of X G a11, k11, b11⟩
  have C_law_ring : Cal l.prog w K mg base 1 "_law_ring" ["many", "pairs"] (sp_lring K) f12 _ := ⟨ok_lring F12 T , PySem.W.mg_of X G a12, k12, b12⟩
  have C_law_is_list : Cal l.prog w K mg base 1 "_law_is_list" ["told", "due"] sp_islist f13 _ := ⟨ok_islist F13 T , PySem.W.mg_of X G a13, k13, b13⟩
  have C_law_is_answered : Cal l.prog w K mg base 4 "_law_is_answered" ["many", "pairs", "handed"] (sp_answered K) f14 _ := ⟨ok_answered F14 T C_law_order C_law_ring Ccanonical_order Cleast_ring C_law_is_list, PySem.W.mg_of X G a14, k14, b14⟩
  exact ok_law F15 T C_law_draws C_law_cell C_law_pairs C_law_is_answered
end K02W
open PySem PySem.W PyProof.Rows
set_option maxHeartbeats 0 in
theorem PySem.Challenge.cw_changeskept_k02_order_or_ring_holds : PySem.Challenge.rw_changeskept_k02_order_or_ring.Holds := by
  w_on; o_law; k_head; (case hw => w_witness2)
  k_fill
  refine L2.walk_of (l := PySem.Challenge.rw_changeskept_k02_order_or_ring) (n := 63) (k := 5) (x := "script") (CX := fun _ => L2.CX0) (sp := fun w => K02W.sp_law _) rfl (by decide) rfl ⟨rfl, by decide, by decide⟩ (fun w h Y => PySem.W.kIn_of Y) ?F (fun _ _ a ns hl _ hS => ⟨a, ns, rfl, hS, hl, fun _ => rfl⟩) (fun _ _ _ _ _ h => h)
  case F =>
    intro w mg fa h KX G hmg
    refine' K02W.all_mk KX G hmg ?a0 ?l0 ?c0 ?k0 ?a1 ?l1 ?c1 ?k1 ?a2 ?l2 ?c2 ?k2 ?a3 ?l3 ?c3 ?k3 ?a4 ?l4 ?c4 ?k4 ?a5 ?l5 ?c5 ?k5 ?a6 ?l6 ?c6 ?k6 ?a7 ?l7 ?c7 ?k7 ?a8 ?l8 ?c8 ?k8 ?a9 ?l9 ?c9 ?k9 ?a10 ?l10 ?c10 ?k10 ?a11 ?l11 ?c11 ?k11 ?a12 ?l12 ?c12 ?k12 ?a13 ?l13 ?c13 ?k13 ?a14 ?l14 ?c14 ?k14 ?a15 ?l15 ?c15 ?k15 ?z_len ?z_abs ?z_int ?z_range ?z_list ?z_tuple ?z_all ?z_min ?z_max ?z_reversed ?z_isinstance ?z_bool
    (case a0 => k_is); (case l0 => k_is); (case c0 => k_is); (case k0 => k_is); (case a1 => k_is); (case l1 => k_is); (case c1 => k_is); (case k1 => k_is)
    (case a2 => k_is); (case l2 => k_is); (case c2 => k_is); (case k2 => k_is); (case a3 => k_is); (case l3 => k_is); (case c3 => k_is); (case k3 => k_is)
    (case a4 => k_is); (case l4 => k_is); (case c4 => k_is); (case k4 => k_is); (case a5 => k_is); (case l5 => k_is); (case c5 => k_is); (case k5 => k_is)
    (case a6 => k_is); (case l6 => k_is); (case c6 => k_is); (case k6 => k_is); (case a7 => k_is); (case l7 => k_is); (case c7 => k_is); (case k7 => k_is)
    (case a8 => k_is); (case l8 => k_is); (case c8 => k_is); (case k8 => k_is); (case a9 => k_is); (case l9 => k_is); (case c9 => k_is); (case k9 => k_is)
    (case a10 => k_is); (case l10 => k_is); (case c10 => k_is); (case k10 => k_is); (case a11 => k_is); (case l11 => k_is); (case c11 => k_is); (case k11 => k_is)
    (case a12 => k_is); (case l12 => k_is); (case c12 => k_is); (case k12 => k_is); (case a13 => k_is); (case l13 => k_is); (case c13 => k_is); (case k13 => k_is)
    (case a14 => k_is); (case l14 => k_is); (case c14 => k_is); (case k14 => k_is); (case a15 => k_is); (case l15 => k_is); (case c15 => k_is); (case k15 => k_is)
    (case z_len => k_is); (case z_abs => k_is); (case z_int => k_is); (case z_range => k_is); (case z_list => k_is); (case z_tuple => k_is); (case z_all => k_is); (case z_min => k_is)
    (case z_max => k_is); (case z_reversed => k_is); (case z_isinstance => k_is); (case z_bool => k_is)


