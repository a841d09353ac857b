import PyProof.Rows.All
import Wide.All
import OpenK.AllK
import Wide.FinOn
import HandS.ForMost
import HandS.RevRange
import HandS.Rev
import HandS.IsInst
import HandS.More
import HandS.Conv
import HandS.Wide
import KE.DatumOrd
import PyProof.Rows.All
import Wide.All
import OpenK.AllK
import Wide.FinOn
import PyProof.EqAt
import PyProof.EqKinds
import PyProof.TupleCall
import KE.KExcSuper
import HandS.ForSpec
import HandS.ExcInit
import HandS.ExcSuper
import KE.KIsAll
import KE.KExcIs
import HandS.ExcField
import HandS.ExcIs
import PyProof.ReprLen
import PyProof.ReprRoom
import HandS.Walk
import KE.GoesMore
import KE.SortData
import HandS.Strs
import HandS.SetBool
import HandS.Deep
import HandS.SetKeys
import HandS.SetFor
import KE.RegKSuper
import PySem.Challenge.RW_changeskept_k28_shifts_and_values
set_option Elab.async false
set_option linter.all false
set_option maxRecDepth 100000
set_option maxHeartbeats 4000000
/-! The mathematics of the law on the canonical order and the least ring: plain lists, no program in sight. -/
namespace K02
abbrev PL := List (Nat × Nat)
/-! ### lookups in lists of pairs -/
def look {β : Type} : List (Nat × β) → Nat → Option β
  | [], _ => none
  | p :: r, k => if p.1 = k then some p.2 else look r k
def put {β : Type} : List (Nat × β) → Nat → β → List (Nat × β)
  | [], k, v => [(k, v)]
  | p :: r, k, v => if p.1 = k then (p.1, v) :: r else p :: put r k v
theorem look_put {β : Type} (k : Nat) (v : β) : ∀ (l : List (Nat × β)) (j : Nat), look (put l k v) j = if k = j then some v else look l j
  | [], j => by
    show (if k = j then some v else none) = _
    rfl
  | p :: r, j => by
    unfold put
    by_cases h : p.1 = k
    · rw [if_pos h]
      show (if p.1 = j then some v else look r j) = if k = j then some v else (if p.1 = j then some p.2 else look r j)
      rw [h]
      by_cases e : k = j
      · rw [if_pos e, if_pos e]
      · rw [if_neg e, if_neg e, if_neg e]
    · rw [if_neg h]
      show (if p.1 = j then some p.2 else look (put r k v) j) = if k = j then some v else (if p.1 = j then some p.2 else look r j)
      rw [look_put k v r j]
      by_cases e : p.1 = j
      · have : ¬ k = j := fun z => h (e.trans z.symm)
        rw [if_pos e, if_neg this, if_pos e]
      · rw [if_neg e, if_neg e]
theorem look_mem {β : Type} : ∀ {l : List (Nat × β)} {k : Nat} {v : β}, look l k = some v → (k, v) ∈ l
  | [], _, _, h => by cases h
  | p :: r, k, v, h => by
    unfold look at h
    by_cases e : p.1 = k
    · rw [if_pos e] at h
      cases h
      rw [← e]
      exact List.mem_cons_self
    · rw [if_neg e] at h
      exact List.mem_cons_of_mem _ (look_mem h)
theorem look_snoc {β : Type} (k : Nat) (v : β) : ∀ (l : List (Nat × β)) (j : Nat), look l k = none → look (l ++ [(k, v)]) j = if k = j then some v else look l j
  | [], j, _ => by
    show (if k = j then some v else none) = _
    rfl
  | p :: r, j, h => by
    have h0 : ¬ p.1 = k := fun e => by
      unfold look at h
      rw [if_pos e] at h
      cases h
    have h1 : look r k = none := by
      unfold look at h
      rwa [if_neg h0] at h
    show (if p.1 = j then some p.2 else look (r ++ [(k, v)]) j) = if k = j then some v else (if p.1 = j then some p.2 else look r j)
    rw [look_snoc k v r j h1]
    by_cases e : p.1 = j
    · have : ¬ k = j := fun z => h0 (e.trans z.symm)
      rw [if_pos e, if_neg this, if_pos e]
    · rw [if_neg e, if_neg e]
theorem look_none_iff {β : Type} : ∀ {l : List (Nat × β)} {k : Nat}, look l k = none ↔ k ∉ l.map (·.1)
  | [], k => by simp [look]
  | p :: r, k => by
    unfold look
    by_cases e : p.1 = k
    · rw [if_pos e]
      simp [e]
    · rw [if_neg e, look_none_iff]
      simp only [List.map_cons, List.mem_cons, not_or]
      exact ⟨fun h => ⟨fun z => e z.symm, h⟩, fun h => h.2⟩
/-! ### pigeons -/
theorem nodup_len : ∀ (n : Nat) (l : List Nat), l.Nodup → (∀ x ∈ l, x < n) → l.length ≤ n
  | 0, [], _, _ => Nat.le_refl 0
  | 0, x :: r, _, h => absurd (h x List.mem_cons_self) (Nat.not_lt_zero _)
  | n + 1, l, hn, h => by
    have h1 : (l.erase n).Nodup := hn.erase n
    have h2 : ∀ x ∈ l.erase n, x < n := fun x hx => by
      have q := (hn.mem_erase_iff).mp hx
      have := h x q.2
      have := q.1
      omega
    have ih := nodup_len n (l.erase n) h1 h2
    have := List.le_length_erase (a := n) (l := l)
    omega
/-! ### pairs: what leads into a place, what leads out of it -/
def bef (ps : PL) (v : Nat) : List Nat := (ps.filter (fun p => p.2 == v)).map (·.1)
def aft (ps : PL) (v : Nat) : List Nat := (ps.filter (fun p => p.1 == v)).map (·.2)
theorem mem_bef {ps : PL} {u v : Nat} : u ∈ bef ps v ↔ (u, v) ∈ ps := by
  unfold bef
  rw [List.mem_map]
  constructor
  · rintro ⟨⟨a, b⟩, h, rfl⟩
    obtain ⟨h1, h2⟩ := List.mem_filter.mp h
    have e : b = v := by simpa using h2
    rw [← e]
    exact h1
  · intro h
    exact ⟨(u, v), List.mem_filter.mpr ⟨h, by simp⟩, rfl⟩
theorem mem_aft {ps : PL} {u v : Nat} : v ∈ aft ps u ↔ (u, v) ∈ ps := by
  unfold aft
  rw [List.mem_map]
  constructor
  · rintro ⟨⟨a, b⟩, h, rfl⟩
    obtain ⟨h1, h2⟩ := List.mem_filter.mp h
    have e : a = u := by simpa using h2
    rw [← e]
    exact h1
  · intro h
    exact ⟨(u, v), List.mem_filter.mpr ⟨h, by simp⟩, rfl⟩
/-! ### the canonical order -/
def freeP (ps : PL) (t : List Nat) (v : Nat) : Bool := !t.contains v && (bef ps v).all (fun b => t.contains b)
def nextP (m : Nat) (ps : PL) (t : List Nat) : Option Nat := (List.range m).find? (freeP ps t)
def growS (m : Nat) (ps : PL) (t : List Nat) : List Nat := match nextP m ps t with
  | none => t
  | some v => t ++ [v]
def grow (m : Nat) (ps : PL) : Nat → List Nat
  | 0 => []
  | k + 1 => growS m ps (grow m ps k)
def orderOf (m : Nat) (ps : PL) : Option (List Nat) := if (grow m ps m).length < m then none else some (grow m ps m)
theorem next_some {m : Nat} {ps : PL} {t : List Nat} {v : Nat} (h : nextP m ps t = some v) : v < m ∧ v ∉ t ∧ ∀ u, (u, v) ∈ ps → u ∈ t := by
  have h1 := List.find?_some h
  have h2 := List.mem_of_find?_eq_some h
  unfold freeP at h1
  rw [Bool.and_eq_true, List.all_eq_true] at h1
  refine ⟨List.mem_range.mp h2, by simpa using h1.1, fun u hu => ?_⟩
  simpa using h1.2 u (mem_bef.mpr hu)
theorem next_none {m : Nat} {ps : PL} {t : List Nat} (h : nextP m ps t = none) {v : Nat} (hv : v < m) (ht : v ∉ t) : ∃ u, (u, v) ∈ ps ∧ u ∉ t := by
  have h1 := List.find?_eq_none.mp h v (List.mem_range.mpr hv)
  have h2 : freeP ps t v = false := by simpa using h1
  unfold freeP at h2
  rw [Bool.and_eq_false_iff] at h2
  rcases h2 with h2 | h2
  · exact absurd (by simpa using h2) ht
  · rw [List.all_eq_false] at h2
    obtain ⟨u, hu, hc⟩ := h2
    exact ⟨u, mem_bef.mp hu, by simpa using hc⟩
theorem grow_len (m : Nat) (ps : PL) : ∀ k, (grow m ps k).length ≤ k
  | 0 => Nat.le_refl 0
  | k + 1 => by
    have ih := grow_len m ps k
    unfold grow growS
    cases nextP m ps (grow m ps k) with
    | none => exact Nat.le_succ_of_le ih
    | some v =>
      rw [List.length_append]
      exact Nat.succ_le_succ ih
theorem grow_stuck {m : Nat} {ps : PL} {k : Nat} (h : nextP m ps (grow m ps k) = none) : ∀ j, grow m ps (k + j) = grow m ps k
  | 0 => rfl
  | j + 1 => by
    have ih := grow_stuck h j
    show growS m ps (grow m ps (k + j)) = _
    rw [ih]
    unfold growS
    rw [h]
theorem grow_nodup (m : Nat) (ps : PL) : ∀ k, (grow m ps k).Nodup
  | 0 => List.nodup_nil
  | k + 1 => by
    have ih := grow_nodup m ps k
    unfold grow growS
    cases e : nextP m ps (grow m ps k) with
    | none => exact ih
    | some v =>
      refine List.nodup_append.mpr ⟨ih, by simp, ?_⟩
      intro a ha b hb
      have : b = v := by simpa using hb
      intro z
      rw [z, this] at ha
      exact (next_some e).2.1 ha
theorem grow_lt (m : Nat) (ps : PL) : ∀ k, ∀ x ∈ grow m ps k, x < m
  | 0, _, h => by cases h
  | k + 1, x, h => by
    have ih := grow_lt m ps k
    unfold grow growS at h
    cases e : nextP m ps (grow m ps k) with
    | none =>
      rw [e] at h
      exact ih x h
    | some v =>
      rw [e] at h
      rcases List.mem_append.mp h with q | q
      · exact ih x q
      · have : x = v := by simpa using q
        rw [this]
        exact (next_some e).1
/-- if each step found one, so many are taken -/
theorem grow_full {m : Nat} {ps : PL} : ∀ k, (∀ j, j < k → nextP m ps (grow m ps j) ≠ none) → (grow m ps k).length = k
  | 0, _ => rfl
  | k + 1, h => by
    have ih := grow_full k (fun j hj => h j (Nat.lt_succ_of_lt hj))
    unfold grow growS
    cases e : nextP m ps (grow m ps k) with
    | none => exact absurd e (h k (Nat.lt_succ_self k))
    | some v =>
      show (grow m ps k ++ [v]).length = k + 1
      rw [List.length_append, ih]
      rfl
theorem order_stuck {m : Nat} {ps : PL} {k : Nat} (hk : k < m) (h : nextP m ps (grow m ps k) = none) : orderOf m ps = none := by
  have e := grow_stuck h (m - k)
  rw [show k + (m - k) = m by omega] at e
  unfold orderOf
  rw [e, if_pos (Nat.lt_of_le_of_lt (grow_len m ps k) hk)]
theorem order_full {m : Nat} {ps : PL} (h : ∀ j, j < m → nextP m ps (grow m ps j) ≠ none) : orderOf m ps = some (grow m ps m) := by
  unfold orderOf
  rw [grow_full m h, if_neg (Nat.lt_irrefl _)]
/-- none: some step was stuck, with places left that lean on places left -/
theorem order_none {m : Nat} {ps : PL} (h : orderOf m ps = none) : ∃ t : List Nat, (∃ v, v < m ∧ v ∉ t) ∧ ∀ v, v < m → v ∉ t → ∃ u, (u, v) ∈ ps ∧ u ∉ t := by
  have hx : ∃ j, j < m ∧ nextP m ps (grow m ps j) = none := by
    apply Classical.byContradiction
    intro c
    have := order_full (m := m) (ps := ps) (fun j hj e => c ⟨j, hj, e⟩)
    rw [h] at this
    cases this
  obtain ⟨j, hj, e⟩ := hx
  refine ⟨grow m ps j, ?_, fun v hv ht => next_none e hv ht⟩
  apply Classical.byContradiction
  intro c
  have hall : ∀ v, v < m → v ∈ grow m ps j := fun v hv => Classical.byContradiction fun q => c ⟨v, hv, q⟩
  have h1 := nodup_len_ge (List.range m) (grow m ps j) List.nodup_range (fun x hx => hall x (List.mem_range.mp hx))
  rw [List.length_range] at h1
  have := grow_len m ps j
  omega
where
  nodup_len_ge : ∀ (a b : List Nat), a.Nodup → (∀ x ∈ a, x ∈ b) → a.length ≤ b.length
  | [], _, _, _ => Nat.zero_le _
  | x :: r, b, hn, h => by
    obtain ⟨h1, h2⟩ := List.nodup_cons.mp hn
    have ih := nodup_len_ge r (b.erase x) h2 (fun y hy => by
      have hyx : y ≠ x := fun z => h1 (z ▸ hy)
      exact (List.mem_erase_of_ne hyx).mpr (h y (List.mem_cons_of_mem _ hy)))
    have hx : x ∈ b := h x List.mem_cons_self
    have e := List.length_erase_of_mem hx
    have : 0 < b.length := List.length_pos_of_mem hx
    rw [List.length_cons]
    omega
/-! ### rings -/
/-- from u over the places of r, all beyond o, back to o -/
def Cl (ps : PL) (o : Nat) : Nat → List Nat → Prop
  | u, [] => (u, o) ∈ ps
  | u, v :: r => (u, v) ∈ ps ∧ o < v ∧ Cl ps o v r
def Len (ps : PL) (o u n : Nat) : Prop := ∃ r, Cl ps o u r ∧ r.length = n
/-- the first difference decides, else the shorter is the less -/
def lexLt : List Nat → List Nat → Bool
  | [], [] => false
  | [], _ :: _ => true
  | _ :: _, [] => false
  | x :: xs, y :: ys => if x = y then lexLt xs ys else decide (x < y)
theorem lex_irr : ∀ l : List Nat, lexLt l l = false
  | [] => rfl
  | x :: r => by
    unfold lexLt
    rw [if_pos rfl]
    exact lex_irr r
theorem lex_asym : ∀ {a b : List Nat}, lexLt a b = true → lexLt b a = false
  | [], [], h => by cases h
  | [], _ :: _, _ => rfl
  | _ :: _, [], h => by cases h
  | x :: xs, y :: ys, h => by
    unfold lexLt at h ⊢
    by_cases e : x = y
    · rw [if_pos e] at h
      rw [if_pos e.symm]
      exact lex_asym h
    · rw [if_neg e] at h
      rw [if_neg (fun z => e z.symm)]
      have := of_decide_eq_true h
      exact decide_eq_false (by omega)
theorem lex_anti : ∀ {a b : List Nat}, lexLt a b = false → lexLt b a = false → a = b
  | [], [], _, _ => rfl
  | [], _ :: _, h, _ => by cases h
  | _ :: _, [], _, h => by cases h
  | x :: xs, y :: ys, h, h' => by
    unfold lexLt at h h'
    by_cases e : x = y
    · rw [if_pos e] at h
      rw [if_pos e.symm] at h'
      rw [e, lex_anti h h']
    · rw [if_neg e] at h
      rw [if_neg (fun z => e z.symm)] at h'
      have := of_decide_eq_false h
      have := of_decide_eq_false h'
      omega
/-- not less goes on -/
theorem lex_le_trans : ∀ {a b c : List Nat}, lexLt b a = false → lexLt c b = false → lexLt c a = false
  | [], b, c, _, _ => by cases c <;> rfl
  | x :: xs, [], c, h, _ => by cases h
  | x :: xs, y :: ys, [], _, h => by cases h
  | x :: xs, y :: ys, z :: zs, h1, h2 => by
    unfold lexLt at h1 h2 ⊢
    by_cases e1 : y = x
    · rw [if_pos e1] at h1
      by_cases e2 : z = y
      · rw [if_pos e2] at h2
        rw [if_pos (e2.trans e1)]
        exact lex_le_trans h1 h2
      · rw [if_neg e2] at h2
        rw [if_neg (fun q => e2 (q.trans e1.symm))]
        have := of_decide_eq_false h2
        exact decide_eq_false (by omega)
    · rw [if_neg e1] at h1
      have g1 := of_decide_eq_false h1
      by_cases e2 : z = y
      · rw [if_neg (fun q => e1 (e2.symm.trans q))]
        exact decide_eq_false (by omega)
      · rw [if_neg e2] at h2
        have g2 := of_decide_eq_false h2
        rw [if_neg (by omega)]
        exact decide_eq_false (by omega)
theorem lex_app : ∀ {a b : List Nat} (x : List Nat), a.length = b.length → lexLt (a ++ x) (b ++ x) = lexLt a b
  | [], [], x, _ => lex_irr x
  | [], _ :: _, _, h => by simp at h
  | _ :: _, [], _, h => by simp at h
  | p :: a, q :: b, x, h => by
    show (if p = q then lexLt (a ++ x) (b ++ x) else decide (p < q)) = if p = q then lexLt a b else decide (p < q)
    rw [lex_app x (by simpa using h)]
/-- the least ring from o: the fewest places, then the first list -/
def LRing (ps : PL) (o : Nat) (l : List Nat) : Prop := ∃ r, l = o :: r ∧ Cl ps o o r ∧ ∀ r', Cl ps o o r' → r.length ≤ r'.length ∧ (r'.length = r.length → lexLt r' r = false)
theorem LRing.uniq {ps : PL} {o : Nat} {l m : List Nat} (a : LRing ps o l) (b : LRing ps o m) : l = m := by
  obtain ⟨r, rfl, c, h⟩ := a
  obtain ⟨t, rfl, d, k⟩ := b
  have h1 := h t d
  have k1 := k r c
  have e : r.length = t.length := Nat.le_antisymm h1.1 k1.1
  rw [lex_anti (k1.2 e) (h1.2 e.symm)]
open Classical in
noncomputable def ringOf (ps : PL) (o : Nat) : Option (List Nat) := if h : ∃ l, LRing ps o l then some (Classical.choose h) else none
theorem ringOf_some {ps : PL} {o : Nat} {l : List Nat} (h : LRing ps o l) : ringOf ps o = some l := by
  have hx : ∃ l, LRing ps o l := ⟨l, h⟩
  unfold ringOf
  rw [dif_pos hx, LRing.uniq (Classical.choose_spec hx) h]
theorem ringOf_none {ps : PL} {o : Nat} (h : ∀ r, ¬ Cl ps o o r) : ringOf ps o = none := by
  unfold ringOf
  rw [dif_neg]
  rintro ⟨l, r, _, c, _⟩
  exact h r c
theorem ringOf_is {ps : PL} {o : Nat} {l : List Nat} (h : ringOf ps o = some l) : LRing ps o l := by
  unfold ringOf at h
  by_cases hx : ∃ l, LRing ps o l
  · rw [dif_pos hx] at h
    cases h
    exact Classical.choose_spec hx
  · rw [dif_neg hx] at h
    cases h
def pick (b x : Option (List Nat)) : Option (List Nat) := match x, b with
  | none, _ => b
  | some l, none => some l
  | some l, some m => if l.length < m.length then some l else some m
noncomputable def best (ps : PL) : Nat → Option (List Nat)
  | 0 => none
  | o + 1 => pick (best ps o) (ringOf ps o)
/-! ### the program's way: steps backwards, then the least next place -/
/-- what the steps hold: o itself with 0; beyond o the fewest places of a way back to o, and one more -/
def IsSteps (ps : PL) (o : Nat) (S : Nat → Option Nat) : Prop := ∀ u n, S u = some n ↔ (u = o ∧ n = 0) ∨ (o < u ∧ ∃ k, n = k + 1 ∧ Len ps o u k ∧ ∀ j, j < k → ¬ Len ps o u j)
/-- row is built from u by the least next place -/
def Greedy (ps : PL) (S : Nat → Option Nat) : Nat → Nat → List Nat → Prop
  | _, 0, r => r = []
  | u, n + 1, r => ∃ v t, r = v :: t ∧ ((u, v) ∈ ps ∧ S v = some (n + 1)) ∧ (∀ w, (u, w) ∈ ps → S w = some (n + 1) → v ≤ w) ∧ Greedy ps S v n t
theorem greedy_len {ps : PL} {S : Nat → Option Nat} : ∀ {u n : Nat} {r : List Nat}, Greedy ps S u n r → r.length = n
  | _, 0, _, h => by
    have e : _ = _ := h
    rw [e]
    rfl
  | _, n + 1, _, ⟨v, t, e, _, _, h⟩ => by
    rw [e, List.length_cons, greedy_len h]
theorem greedy_least {ps : PL} {o : Nat} {S : Nat → Option Nat} (hS : IsSteps ps o S) : ∀ {n u : Nat} {r : List Nat}, Greedy ps S u n r → Len ps o u n → (∀ j, j < n → ¬ Len ps o u j) →
    Cl ps o u r ∧ ∀ r', Cl ps o u r' → r'.length = n → lexLt r' r = false
  | 0, u, r, h, hl, _ => by
    have e : r = [] := h
    obtain ⟨r0, c, z⟩ := hl
    have : r0 = [] := List.length_eq_zero_iff.mp z
    subst this
    subst e
    refine ⟨c, fun r' _ hz => ?_⟩
    rw [List.length_eq_zero_iff.mp hz]
    rfl
  | n + 1, u, r, ⟨v, t, e, ⟨huv, hv⟩, hmin, hg⟩, hl, hno => by
    subst e
    obtain ⟨q0, q1⟩ | ⟨hov, k, ek, hlv, hnv⟩ := (hS v (n + 1)).mp hv
    · cases q1
    · have ek' : k = n := by omega
      subst ek'
      obtain ⟨c, hm⟩ := greedy_least hS hg hlv hnv
      refine ⟨⟨huv, hov, c⟩, fun r' c' hz => ?_⟩
      cases r' with
      | nil => cases hz
      | cons w t' =>
        obtain ⟨huw, how, c2⟩ := c'
        have hz' : t'.length = k := by simpa using hz
        have hw : S w = some (k + 1) := (hS w (k + 1)).mpr (.inr ⟨how, k, rfl, ⟨t', c2, hz'⟩, fun j hj hL => by
          obtain ⟨r3, c3, z3⟩ := hL
          exact hno (j + 1) (by omega) ⟨w :: r3, ⟨huw, how, c3⟩, by rw [List.length_cons, z3]⟩⟩)
        have hle := hmin w huw hw
        unfold lexLt
        by_cases e : w = v
        · subst e
          rw [if_pos rfl]
          exact hm t' c2 hz'
        · rw [if_neg e]
          exact decide_eq_false (by omega)
theorem greedy_ring {ps : PL} {o : Nat} {S : Nat → Option Nat} (hS : IsSteps ps o S) {n : Nat} {r : List Nat} (h : Greedy ps S o n r) (hl : Len ps o o n) (hno : ∀ j, j < n → ¬ Len ps o o j) : LRing ps o (o :: r) := by
  obtain ⟨c, hm⟩ := greedy_least hS h hl hno
  have e := greedy_len h
  refine ⟨r, rfl, c, fun r' c' => ⟨?_, fun z => hm r' c' (z.trans e)⟩⟩
  rw [e]
  exact Nat.le_of_not_lt fun q => hno _ q ⟨r', c', rfl⟩
/-- a way with a next place: there is one that the greedy step may take -/
theorem greedy_next {ps : PL} {o : Nat} {S : Nat → Option Nat} (hS : IsSteps ps o S) {n u : Nat} (hl : Len ps o u (n + 1)) (hno : ∀ j, j < n + 1 → ¬ Len ps o u j) : ∃ v, (u, v) ∈ ps ∧ S v = some (n + 1) := by
  obtain ⟨r, c, z⟩ := hl
  cases r with
  | nil => cases z
  | cons w t =>
    obtain ⟨huw, how, c2⟩ := c
    have hz' : t.length = n := by simpa using z
    exact ⟨w, huw, (hS w (n + 1)).mpr (.inr ⟨how, n, rfl, ⟨t, c2, hz'⟩, fun j hj hL => by
      obtain ⟨r3, c3, z3⟩ := hL
      exact hno (j + 1) (by omega) ⟨w :: r3, ⟨huw, how, c3⟩, by rw [List.length_cons, z3]⟩⟩)⟩
theorem steps_beyond {ps : PL} {o : Nat} {S : Nat → Option Nat} (hS : IsSteps ps o S) {v n : Nat} (h : S v = some (n + 1)) : Len ps o v n ∧ ∀ j, j < n → ¬ Len ps o v j := by
  obtain ⟨_, q1⟩ | ⟨_, k, ek, hlv, hnv⟩ := (hS v (n + 1)).mp h
  · cases q1
  · have ek' : k = n := by omega
    subst ek'
    exact ⟨hlv, hnv⟩
/-- the lengths: the steps of the places behind o -/
theorem lens_some {ps : PL} {o : Nat} {S : Nat → Option Nat} (hS : IsSteps ps o S) {n : Nat} (hm : ∃ v, (o, v) ∈ ps ∧ S v = some n) (hle : ∀ v k, (o, v) ∈ ps → S v = some k → n ≤ k) : Len ps o o n ∧ ∀ j, j < n → ¬ Len ps o o j := by
  constructor
  · obtain ⟨v, hv, e⟩ := hm
    obtain ⟨rfl, rfl⟩ | ⟨hov, k, rfl, ⟨r, c, z⟩, _⟩ := (hS v n).mp e
    · exact ⟨[], hv, rfl⟩
    · exact ⟨v :: r, ⟨hv, hov, c⟩, by rw [List.length_cons, z]⟩
  · rintro j hj ⟨r, c, z⟩
    cases r with
    | nil =>
      have e : (o, o) ∈ ps := c
      have := hle o 0 e ((hS o 0).mpr (.inl ⟨rfl, rfl⟩))
      omega
    | cons v t =>
      obtain ⟨hov, hlt, c2⟩ := c
      -- the least way from v
      have hx : ∃ k, Len ps o v k ∧ ∀ i, i < k → ¬ Len ps o v i := least ⟨_, t, c2, rfl⟩
      obtain ⟨k, hk, hno⟩ := hx
      have hkt : k ≤ t.length := Nat.le_of_not_lt fun q => hno _ q ⟨t, c2, rfl⟩
      have := hle v (k + 1) hov ((hS v (k + 1)).mpr (.inr ⟨hlt, k, rfl, hk, hno⟩))
      rw [List.length_cons] at z
      omega
where
  least {P : Nat → Prop} (h : ∃ n, P n) : ∃ k, P k ∧ ∀ i, i < k → ¬ P i := by
    obtain ⟨n, hn⟩ := h
    induction n using Nat.strongRecOn with
    | ind n ih =>
      by_cases q : ∃ i, i < n ∧ P i
      · obtain ⟨i, hi, pi⟩ := q
        exact ih i hi pi
      · exact ⟨n, hn, fun i hi pi => q ⟨i, hi, pi⟩⟩
theorem lens_none {ps : PL} {o : Nat} {S : Nat → Option Nat} (hS : IsSteps ps o S) (h : ∀ v, (o, v) ∈ ps → S v = none) : ∀ r, ¬ Cl ps o o r := by
  intro r c
  cases r with
  | nil =>
    have := h o c
    rw [(hS o 0).mpr (.inl ⟨rfl, rfl⟩)] at this
    cases this
  | cons v t =>
    obtain ⟨hov, hlt, c2⟩ := c
    obtain ⟨k, hk, hno⟩ := lens_some.least (P := Len ps o v) ⟨_, t, c2, rfl⟩
    have := h v hov
    rw [(hS v (k + 1)).mpr (.inr ⟨hlt, k, rfl, hk, hno⟩)] at this
    cases this
/-- a ring from o has a least one -/
theorem greedy_is {ps : PL} {o : Nat} {S : Nat → Option Nat} (hS : IsSteps ps o S) : ∀ {n u : Nat}, Len ps o u n → (∀ j, j < n → ¬ Len ps o u j) → ∃ r, Greedy ps S u n r
  | 0, _, _, _ => ⟨[], rfl⟩
  | n + 1, u, hl, hno => by
    obtain ⟨v, ⟨huv, hv⟩, hmin⟩ := lens_some.least (P := fun v => (u, v) ∈ ps ∧ S v = some (n + 1)) (greedy_next hS hl hno)
    obtain ⟨h1, h2⟩ := steps_beyond hS hv
    obtain ⟨t, ht⟩ := greedy_is hS h1 h2
    exact ⟨v :: t, v, t, rfl, ⟨huv, hv⟩, fun w hw hs => Nat.le_of_not_lt fun q => hmin w q ⟨hw, hs⟩, ht⟩
open Classical in
noncomputable def trueSteps (ps : PL) (o u : Nat) : Option Nat := if u = o then some 0 else if h : o < u ∧ ∃ k, Len ps o u k then some (Classical.choose (lens_some.least h.2) + 1) else none
theorem trueSteps_is (ps : PL) (o : Nat) : IsSteps ps o (trueSteps ps o) := by
  intro u n
  unfold trueSteps
  by_cases e : u = o
  · rw [if_pos e]
    constructor
    · intro h
      cases h
      exact .inl ⟨e, rfl⟩
    · rintro (⟨_, rfl⟩ | ⟨h, _⟩)
      · rfl
      · omega
  · rw [if_neg e]
    by_cases h : o < u ∧ ∃ k, Len ps o u k
    · rw [dif_pos h]
      have q := Classical.choose_spec (lens_some.least h.2)
      constructor
      · intro z
        cases z
        exact .inr ⟨h.1, _, rfl, q.1, q.2⟩
      · rintro (⟨z, _⟩ | ⟨_, k, rfl, h1, h2⟩)
        · exact absurd z e
        · have a1 : ¬ k < Classical.choose (lens_some.least h.2) := fun z => q.2 _ z h1
          have a2 : ¬ Classical.choose (lens_some.least h.2) < k := fun z => h2 _ z q.1
          rw [show Classical.choose (lens_some.least h.2) = k by omega]
    · rw [dif_neg h]
      constructor
      · intro z
        cases z
      · rintro (⟨z, _⟩ | ⟨h1, k, _, h2, _⟩)
        · exact absurd z e
        · exact absurd ⟨h1, k, h2⟩ h
theorem ringOf_there {ps : PL} {o : Nat} {r : List Nat} (c : Cl ps o o r) : ∃ l, ringOf ps o = some l := by
  obtain ⟨n, h1, h2⟩ := lens_some.least (P := Len ps o o) ⟨_, r, c, rfl⟩
  obtain ⟨t, ht⟩ := greedy_is (trueSteps_is ps o) h1 h2
  exact ⟨_, ringOf_some (greedy_ring (trueSteps_is ps o) ht h1 h2)⟩
/-! ### the law's way: the least walk to each place, place by place longer -/
inductive Wk (ps : PL) (o : Nat) : List Nat → Nat → Prop
  | base : Wk ps o [o] o
  | step {l : List Nat} {u v : Nat} : Wk ps o l u → (u, v) ∈ ps → o < v → Wk ps o (l ++ [v]) v
theorem Wk.pos {ps : PL} {o : Nat} {l : List Nat} {v : Nat} (h : Wk ps o l v) : 0 < l.length := by
  cases h with
  | base => exact Nat.one_pos
  | step _ _ _ =>
    rw [List.length_append]
    exact Nat.succ_pos _
theorem wk_cl {ps : PL} {o : Nat} {l : List Nat} {u : Nat} (h : Wk ps o l u) : ∀ r, Cl ps o u r → ∃ t, l ++ r = o :: t ∧ Cl ps o o t := by
  induction h with
  | base => exact fun r c => ⟨r, rfl, c⟩
  | @step l u v _ huv hov ih =>
    intro r c
    obtain ⟨t, e, ct⟩ := ih (v :: r) ⟨huv, hov, c⟩
    exact ⟨t, by rw [List.append_assoc]; exact e, ct⟩
theorem cl_wk {ps : PL} {o : Nat} : ∀ {r l : List Nat} {u : Nat}, Wk ps o l u → Cl ps o u r → ∃ w, Wk ps o (l ++ r) w ∧ (w, o) ∈ ps
  | [], l, u, h, c => ⟨u, by rw [List.append_nil]; exact h, c⟩
  | v :: r, l, u, h, ⟨huv, hov, c⟩ => by
    obtain ⟨w, h1, h2⟩ := cl_wk (Wk.step h huv hov) c
    exact ⟨w, by rw [List.append_assoc] at h1; exact h1, h2⟩
/-- W holds the least walk of n + 1 places to each place -/
def IsWalks (ps : PL) (o n : Nat) (W : Nat → Option (List Nat)) : Prop :=
  (∀ v l, W v = some l → Wk ps o l v ∧ l.length = n + 1) ∧ ∀ v l', Wk ps o l' v → l'.length = n + 1 → ∃ l, W v = some l ∧ lexLt l' l = false
theorem walks_start (ps : PL) (o : Nat) : IsWalks ps o 0 (look [(o, [o])]) := by
  refine ⟨fun v l h => ?_, fun v l' h hl => ?_⟩
  · have h' : (if o = v then some [o] else none) = some l := h
    by_cases e : o = v
    · rw [if_pos e] at h'
      cases h'
      rw [← e]
      exact ⟨Wk.base, rfl⟩
    · rw [if_neg e] at h'
      cases h'
  · cases h with
    | base => exact ⟨[o], (show (if o = o then some [o] else none) = some [o] from if_pos rfl), lex_irr _⟩
    | step h1 _ _ =>
      have := h1.pos
      rw [List.length_append, List.length_singleton] at hl
      omega
def longerS (W : Nat → Option (List Nat)) (o : Nat) (lg : List (Nat × List Nat)) (p : Nat × Nat) : List (Nat × List Nat) :=
  if o < p.2 then
    match W p.1 with
    | none => lg
    | some l => match look lg p.2 with
      | none => put lg p.2 (l ++ [p.2])
      | some m => if lexLt (l ++ [p.2]) m then put lg p.2 (l ++ [p.2]) else lg
  else lg
def IsLonger (ps : PL) (W : Nat → Option (List Nat)) (o : Nat) (G : Nat → Option (List Nat)) : Prop :=
  (∀ v m, G v = some m → ∃ u l, (u, v) ∈ ps ∧ o < v ∧ W u = some l ∧ m = l ++ [v]) ∧ ∀ u v l, (u, v) ∈ ps → o < v → W u = some l → ∃ m, G v = some m ∧ lexLt (l ++ [v]) m = false
theorem longer_start (W : Nat → Option (List Nat)) (o : Nat) : IsLonger [] W o (look []) := ⟨fun _ _ h => (by cases h), fun _ _ _ h => (by cases h)⟩
theorem longer_stay {ps : PL} {W : Nat → Option (List Nat)} {o : Nat} {G : Nat → Option (List Nat)} {p : Nat × Nat} (h : IsLonger ps W o G) (hn : o < p.2 → ∀ l, W p.1 = some l → ∃ m, G p.2 = some m ∧ lexLt (l ++ [p.2]) m = false) : IsLonger (ps ++ [p]) W o G := by
  refine ⟨fun v m e => ?_, fun u v l hm hv hw => ?_⟩
  · obtain ⟨u, l, h1, h2, h3, h4⟩ := h.1 v m e
    exact ⟨u, l, List.mem_append_left _ h1, h2, h3, h4⟩
  · rcases List.mem_append.mp hm with q | q
    · exact h.2 u v l q hv hw
    · have e : (u, v) = p := by simpa using q
      subst e
      exact hn hv l hw
theorem longer_put {ps : PL} {W : Nat → Option (List Nat)} {o : Nat} {lg : List (Nat × List Nat)} {p : Nat × Nat} {l : List Nat} (h : IsLonger ps W o (look lg)) (ho : o < p.2) (hw : W p.1 = some l)
    (hle : ∀ m, look lg p.2 = some m → lexLt m (l ++ [p.2]) = false) : IsLonger (ps ++ [p]) W o (look (put lg p.2 (l ++ [p.2]))) := by
  refine ⟨fun v m e => ?_, fun u v l2 hm hv hw2 => ?_⟩
  · rw [look_put] at e
    by_cases q : p.2 = v
    · rw [if_pos q] at e
      cases e
      refine ⟨p.1, l, List.mem_append_right _ ?_, q ▸ ho, hw, by rw [q]⟩
      rw [← q]
      exact List.mem_singleton.mpr rfl
    · rw [if_neg q] at e
      obtain ⟨u, l, h1, h2, h3, h4⟩ := h.1 v m e
      exact ⟨u, l, List.mem_append_left _ h1, h2, h3, h4⟩
  · rw [look_put]
    rcases List.mem_append.mp hm with z | z
    · obtain ⟨m, hm1, hm2⟩ := h.2 u v l2 z hv hw2
      by_cases q : p.2 = v
      · rw [if_pos q]
        refine ⟨_, rfl, ?_⟩
        subst q
        exact lex_le_trans (hle m hm1) hm2
      · rw [if_neg q]
        exact ⟨m, hm1, hm2⟩
    · have e : (u, v) = p := by simpa using z
      subst e
      rw [if_pos rfl]
      have hw' : W u = some l := hw
      rw [hw'] at hw2
      cases hw2
      exact ⟨_, rfl, lex_irr _⟩
theorem longer_step {ps : PL} {W : Nat → Option (List Nat)} {o : Nat} {lg : List (Nat × List Nat)} {p : Nat × Nat} (h : IsLonger ps W o (look lg)) : IsLonger (ps ++ [p]) W o (look (longerS W o lg p)) := by
  unfold longerS
  by_cases ho : o < p.2
  · rw [if_pos ho]
    cases hw : W p.1 with
    | none => exact longer_stay h fun _ l q => by rw [hw] at q; cases q
    | some l =>
      cases hg : look lg p.2 with
      | none => exact longer_put h ho hw fun m q => by rw [hg] at q; cases q
      | some m =>
        show IsLonger (ps ++ [p]) W o (look (if lexLt (l ++ [p.2]) m = true then put lg p.2 (l ++ [p.2]) else lg))
        cases hc : lexLt (l ++ [p.2]) m with
        | true =>
          rw [if_pos rfl]
          exact longer_put h ho hw fun m2 q => by
            rw [hg] at q
            cases q
            exact lex_asym hc
        | false =>
          rw [if_neg Bool.false_ne_true]
          exact longer_stay h fun _ l2 q => by
            rw [hw] at q
            cases q
            exact ⟨m, hg, hc⟩
  · rw [if_neg ho]
    exact longer_stay h fun q => absurd q ho
theorem walks_longer {ps : PL} {o n : Nat} {W G : Nat → Option (List Nat)} (hW : IsWalks ps o n W) (hG : IsLonger ps W o G) : IsWalks ps o (n + 1) G := by
  refine ⟨fun v m e => ?_, fun v l' h hl => ?_⟩
  · obtain ⟨u, l, h1, h2, h3, rfl⟩ := hG.1 v m e
    obtain ⟨w1, w2⟩ := hW.1 u l h3
    exact ⟨Wk.step w1 h1 h2, by rw [List.length_append, w2]; rfl⟩
  · cases h with
    | base => exact absurd hl (by show ¬ 1 = n + 1 + 1; omega)
    | @step l u _ h1 h2 h3 =>
      have e : l.length = n + 1 := by
        rw [List.length_append, List.length_singleton] at hl
        omega
      obtain ⟨l0, q1, q2⟩ := hW.2 u l h1 e
      obtain ⟨m, r1, r2⟩ := hG.2 u v l0 h2 h3 q1
      refine ⟨m, r1, lex_le_trans r2 ?_⟩
      rw [lex_app [v] (e.trans (hW.1 u l0 q1).2.symm)]
      exact q2
/-- the rings that the walks close, in the order of the pairs -/
def ringsOf (ps : PL) (o : Nat) (W : Nat → Option (List Nat)) : List (List Nat) := ps.filterMap fun p => if p.2 = o then W p.1 else none
theorem rings_mem {ps : PL} {o n : Nat} {W : Nat → Option (List Nat)} (hW : IsWalks ps o n W) {l : List Nat} (h : l ∈ ringsOf ps o W) : ∃ t, l = o :: t ∧ Cl ps o o t ∧ t.length = n := by
  obtain ⟨p, hp, e⟩ := List.mem_filterMap.mp h
  by_cases q : p.2 = o
  · rw [if_pos q] at e
    obtain ⟨w1, w2⟩ := hW.1 _ _ e
    obtain ⟨t, e1, e2⟩ := wk_cl w1 [] (show (p.1, o) ∈ ps by rw [← q]; exact hp)
    rw [List.append_nil] at e1
    refine ⟨t, e1, e2, ?_⟩
    rw [e1, List.length_cons] at w2
    omega
  · rw [if_neg q] at e
    cases e
theorem rings_all {ps : PL} {o n : Nat} {W : Nat → Option (List Nat)} (hW : IsWalks ps o n W) {t : List Nat} (c : Cl ps o o t) (h : t.length = n) : ∃ l, l ∈ ringsOf ps o W ∧ lexLt (o :: t) l = false := by
  obtain ⟨w, h1, h2⟩ := cl_wk (Wk.base (ps := ps) (o := o)) c
  obtain ⟨l, q1, q2⟩ := hW.2 w ([o] ++ t) h1 (by show t.length + 1 = n + 1; rw [h])
  exact ⟨l, List.mem_filterMap.mpr ⟨(w, o), h2, by rw [if_pos rfl]; exact q1⟩, q2⟩
theorem law_none {ps : PL} {o n : Nat} {W : Nat → Option (List Nat)} (hW : IsWalks ps o n W) (h : ringsOf ps o W = []) (hno : ∀ r, Cl ps o o r → n ≤ r.length) : ∀ r, Cl ps o o r → n + 1 ≤ r.length := by
  intro r c
  have h1 := hno r c
  rcases Nat.lt_or_ge n r.length with q | q
  · exact q
  · obtain ⟨l, hl, _⟩ := rings_all hW c (Nat.le_antisymm q h1)
    rw [h] at hl
    cases hl
theorem law_ring {ps : PL} {o n : Nat} {W : Nat → Option (List Nat)} (hW : IsWalks ps o n W) (hno : ∀ r, Cl ps o o r → n ≤ r.length) {x : List Nat} (hx : x ∈ ringsOf ps o W) (hm : ∀ y, y ∈ ringsOf ps o W → lexLt y x = false) : LRing ps o x ∧ x.length = n + 1 := by
  obtain ⟨t, rfl, c, e⟩ := rings_mem hW hx
  refine ⟨⟨t, rfl, c, fun r' c' => ⟨by rw [e]; exact hno r' c', fun z => ?_⟩⟩, by rw [List.length_cons, e]⟩
  obtain ⟨l, hl, hle⟩ := rings_all hW c' (z.trans e)
  have h1 := lex_le_trans (hm l hl) hle
  unfold lexLt at h1
  rw [if_pos rfl] at h1
  exact h1
/-! ### the shortest rings fit in -/
def Within (m : Nat) (ps : PL) : Prop := ∀ p ∈ ps, p.1 < m ∧ p.2 < m
theorem cl_suffix {ps : PL} {o : Nat} : ∀ {a : List Nat} {u v : Nat} {c : List Nat}, Cl ps o u (a ++ v :: c) → Cl ps o v c
  | [], _, _, _, h => h.2.2
  | _ :: a, _, _, _, h => cl_suffix (a := a) h.2.2
theorem cl_nodup {ps : PL} {o : Nat} : ∀ {r : List Nat} {u : Nat}, Cl ps o u r → ∃ r', Cl ps o u r' ∧ r'.Nodup
  | [], _, h => ⟨[], h, List.nodup_nil⟩
  | v :: t, u, ⟨h1, h2, h3⟩ => by
    obtain ⟨t', c, hn⟩ := cl_nodup h3
    by_cases hv : v ∈ t'
    · obtain ⟨a, b, rfl⟩ := List.append_of_mem hv
      exact ⟨v :: b, ⟨h1, h2, cl_suffix c⟩, (List.nodup_append.mp hn).2.1⟩
    · exact ⟨v :: t', ⟨h1, h2, c⟩, List.nodup_cons.mpr ⟨hv, hn⟩⟩
theorem cl_within {m : Nat} {ps : PL} (hm : Within m ps) {o : Nat} : ∀ {r : List Nat} {u : Nat}, Cl ps o u r → u < m ∧ ∀ x ∈ r, o < x ∧ x < m
  | [], u, h => ⟨(hm _ h).1, fun _ q => by cases q⟩
  | v :: t, u, ⟨h1, h2, h3⟩ => by
    obtain ⟨q1, q2⟩ := cl_within hm h3
    refine ⟨(hm _ h1).1, fun x hx => ?_⟩
    rcases List.mem_cons.mp hx with e | e
    · subst e
      exact ⟨h2, q1⟩
    · exact q2 x e
theorem ring_fits {m : Nat} {ps : PL} (hm : Within m ps) {o : Nat} {r : List Nat} (c : Cl ps o o r) : ∃ r', Cl ps o o r' ∧ r'.length < m := by
  obtain ⟨r', c', hn⟩ := cl_nodup c
  obtain ⟨q1, q2⟩ := cl_within hm c'
  refine ⟨r', c', ?_⟩
  have := nodup_len m (o :: r') (List.nodup_cons.mpr ⟨fun z => Nat.lt_irrefl _ (q2 o z).1, hn⟩) (fun x hx => by
    rcases List.mem_cons.mp hx with e | e
    · rw [e]; exact q1
    · exact (q2 x e).2)
  exact this
/-! ### order or ring -/
theorem grow_mono (m : Nat) (ps : PL) {k : Nat} {x : Nat} (h : x ∈ grow m ps k) : x ∈ grow m ps (k + 1) := by
  unfold grow growS
  cases nextP m ps (grow m ps k) with
  | none => exact h
  | some v => exact List.mem_append_left _ h
theorem grow_new {m : Nat} {ps : PL} {k o : Nat} (h : o ∈ grow m ps (k + 1)) (h' : o ∉ grow m ps k) : ∀ w, (w, o) ∈ ps → w ∈ grow m ps k := by
  intro w hw
  unfold grow growS at h
  cases e : nextP m ps (grow m ps k) with
  | none =>
    rw [e] at h
    exact absurd h h'
  | some v =>
    rw [e] at h
    rcases List.mem_append.mp h with q | q
    · exact absurd q h'
    · have : o = v := by simpa using q
      subst this
      exact (next_some e).2.2 w hw
theorem grow_closed (m : Nat) (ps : PL) : ∀ (k : Nat) {a b : Nat}, (a, b) ∈ ps → b ∈ grow m ps k → a ∈ grow m ps k
  | 0, _, _, _, h => by cases h
  | k + 1, a, b, hab, h => by
    by_cases q : b ∈ grow m ps k
    · exact grow_mono m ps (grow_closed m ps k hab q)
    · exact grow_mono m ps (grow_new h q a hab)
theorem grow_back {m : Nat} {ps : PL} {k o : Nat} (h : ∀ w, (w, o) ∈ ps → w ∈ grow m ps k) : ∀ {r : List Nat} {u : Nat}, Cl ps o u r → u ∈ grow m ps k
  | [], u, c => h u c
  | _ :: _, _, ⟨h1, _, h3⟩ => grow_closed m ps k h1 (grow_back h h3)
theorem order_no_ring {m : Nat} {ps : PL} (hm : Within m ps) {t : List Nat} (h : orderOf m ps = some t) (o : Nat) : ∀ r, ¬ Cl ps o o r := by
  intro r c
  have hlen : m ≤ (grow m ps m).length := by
    unfold orderOf at h
    by_cases q : (grow m ps m).length < m
    · rw [if_pos q] at h
      cases h
    · exact Nat.le_of_not_lt q
  have ho : o < m := (cl_within hm c).1
  have hin : o ∈ grow m ps m := Classical.byContradiction fun q => by
    have := nodup_len m (o :: grow m ps m) (List.nodup_cons.mpr ⟨q, grow_nodup m ps m⟩) (fun x hx => by
      rcases List.mem_cons.mp hx with e | e
      · rw [e]; exact ho
      · exact grow_lt m ps m x e)
    rw [List.length_cons] at this
    omega
  obtain ⟨k, hk, hno⟩ := lens_some.least (P := fun k => o ∈ grow m ps k) ⟨m, hin⟩
  cases k with
  | zero => cases hk
  | succ k =>
    have q := hno k (Nat.lt_succ_self k)
    exact q (grow_back (grow_new hk q) c)
def backs (g : Nat → Nat) (s : Nat) : Nat → List Nat
  | 0 => []
  | j + 1 => g (s + j + 1) :: backs g s j
theorem backs_cl {ps : PL} {g : Nat → Nat} (hg : ∀ n, (g (n + 1), g n) ∈ ps) (s : Nat) : ∀ j, (∀ i, 1 ≤ i → i ≤ j → g s < g (s + i)) → Cl ps (g s) (g (s + j + 1)) (backs g s j)
  | 0, _ => hg s
  | j + 1, h => ⟨hg (s + j + 1), h (j + 1) (by omega) (Nat.le_refl _), backs_cl hg s j fun i h1 h2 => h i h1 (by omega)⟩
theorem pigeon (m : Nat) (g : Nat → Nat) (h : ∀ n, g n < m) : ∃ i j, i < j ∧ g i = g j := by
  apply Classical.byContradiction
  intro c
  have inj : ∀ i j, i < j → g i ≠ g j := fun i j hij e => c ⟨i, j, hij, e⟩
  have hn : ((List.range (m + 1)).map g).Nodup := by
    refine List.Pairwise.map g (R := fun i j => i < j) (fun i j hij => inj i j hij) ?_
    exact List.pairwise_lt_range
  have := nodup_len m _ hn (fun x hx => by
    obtain ⟨i, _, rfl⟩ := List.mem_map.mp hx
    exact h i)
  rw [List.length_map, List.length_range] at this
  omega
theorem seq_ring {m : Nat} {ps : PL} {g : Nat → Nat} (hg : ∀ n, (g (n + 1), g n) ∈ ps) (hm : ∀ n, g n < m) : ∃ o r, o < m ∧ Cl ps o o r := by
  obtain ⟨i, j, hij, e⟩ := pigeon m g hm
  -- the places seen from i on come again at j
  -- least place at or behind i, up to j
  obtain ⟨mu, ⟨s, h1, h2, rfl⟩, hmin⟩ := lens_some.least (P := fun x => ∃ s, i ≤ s ∧ s < j ∧ x = g s) ⟨g i, i, Nat.le_refl _, hij, rfl⟩
  -- the sequence s, s + 1, .., j = i, .., s: as a new sequence
  let g' : Nat → Nat := fun n => g (i + (s - i + n) % (j - i))
  have hp : 0 < j - i := by omega
  have hg' : ∀ n, (g' (n + 1), g' n) ∈ ps := by
    intro n
    show (g (i + (s - i + (n + 1)) % (j - i)), g (i + (s - i + n) % (j - i))) ∈ ps
    have hr := Nat.mod_lt (s - i + n) hp
    by_cases q : (s - i + n) % (j - i) + 1 = j - i
    · have e1 : (s - i + (n + 1)) % (j - i) = 0 := by
        rw [← Nat.add_assoc, ← Nat.mod_add_mod, q, Nat.mod_self]
      rw [e1, Nat.add_zero, e]
      have e2 : i + (s - i + n) % (j - i) = j - 1 := by omega
      rw [e2]
      have := hg (j - 1)
      rw [show j - 1 + 1 = j by omega] at this
      exact this
    · have e1 : (s - i + (n + 1)) % (j - i) = (s - i + n) % (j - i) + 1 := by
        rw [← Nat.add_assoc, ← Nat.mod_add_mod]
        exact Nat.mod_eq_of_lt (by omega)
      rw [e1]
      exact hg _
  have hle : ∀ n, g s ≤ g' n := by
    intro n
    have hr := Nat.mod_lt (s - i + n) hp
    exact Nat.le_of_not_lt fun q => hmin _ q ⟨i + (s - i + n) % (j - i), by omega, by omega, rfl⟩
  have h0 : g' 0 = g s := by
    show g (i + (s - i + 0) % (j - i)) = g s
    rw [Nat.add_zero, Nat.mod_eq_of_lt (by omega)]
    congr 1
    omega
  have hper : g' (j - i) = g s := by
    show g (i + (s - i + (j - i)) % (j - i)) = g s
    rw [Nat.add_mod_right, Nat.mod_eq_of_lt (by omega)]
    congr 1
    omega
  obtain ⟨q, ⟨hq1, hq2⟩, hno⟩ := lens_some.least (P := fun q => 1 ≤ q ∧ g' q = g s) ⟨j - i, by omega, hper⟩
  refine ⟨g s, backs g' 0 (q - 1), hm s, ?_⟩
  have := backs_cl hg' 0 (q - 1) (fun t t1 t2 => by
    rw [h0, Nat.zero_add]
    have a1 := hle t
    have a2 : g' t ≠ g s := fun z => hno t (by omega) ⟨t1, z⟩
    omega)
  rw [h0, show 0 + (q - 1) + 1 = q by omega, hq2] at this
  exact this
theorem order_or_ring {m : Nat} {ps : PL} (hm : Within m ps) (h : orderOf m ps = none) : ∃ o r, o < m ∧ Cl ps o o r := by
  obtain ⟨t, ⟨v, hv, hvt⟩, hall⟩ := order_none h
  have hch : ∀ x : {v : Nat // v < m ∧ v ∉ t}, ∃ y : {v : Nat // v < m ∧ v ∉ t}, (y.1, x.1) ∈ ps := fun x => by
    obtain ⟨u, hu1, hu2⟩ := hall x.1 x.2.1 x.2.2
    exact ⟨⟨u, (hm _ hu1).1, hu2⟩, hu1⟩
  let f : {v : Nat // v < m ∧ v ∉ t} → {v : Nat // v < m ∧ v ∉ t} := fun x => Classical.choose (hch x)
  let g : Nat → {v : Nat // v < m ∧ v ∉ t} := fun n => Nat.rec ⟨v, hv, hvt⟩ (fun _ x => f x) n
  exact seq_ring (m := m) (g := fun n => (g n).1) (fun n => Classical.choose_spec (hch (g n))) (fun n => (g n).2.1)
/-! ### the best ring -/
theorem pick_some {b : Option (List Nat)} {x : Option (List Nat)} {l : List Nat} (h : x = some l) : ∃ m, pick b x = some m := by
  subst h
  cases b with
  | none => exact ⟨_, rfl⟩
  | some k =>
    show ∃ m, (if l.length < k.length then some l else some k) = some m
    by_cases q : l.length < k.length
    · exact ⟨l, if_pos q⟩
    · exact ⟨k, if_neg q⟩
theorem best_keeps {ps : PL} {o : Nat} {l : List Nat} (h : best ps o = some l) : ∃ m, best ps (o + 1) = some m := by
  show ∃ m, pick (best ps o) (ringOf ps o) = some m
  rw [h]
  cases hx : ringOf ps o with
  | none => exact ⟨l, rfl⟩
  | some x => exact pick_some rfl
theorem best_there {ps : PL} {o : Nat} {r : List Nat} (c : Cl ps o o r) : ∀ j, ∃ l, best ps (o + 1 + j) = some l
  | 0 => by
    obtain ⟨l, hl⟩ := ringOf_there c
    exact pick_some hl
  | j + 1 => by
    obtain ⟨l, hl⟩ := best_there c j
    exact best_keeps hl
theorem best_none {ps : PL} (h : ∀ o r, ¬ Cl ps o o r) : ∀ m, best ps m = none
  | 0 => rfl
  | m + 1 => by
    show pick (best ps m) (ringOf ps m) = none
    rw [best_none h m, ringOf_none (h m)]
    rfl
theorem one_of_two {m : Nat} {ps : PL} (hm : Within m ps) : (orderOf m ps = none ↔ best ps m ≠ none) := by
  constructor
  · intro h
    obtain ⟨o, r, ho, c⟩ := order_or_ring hm h
    obtain ⟨l, hl⟩ := best_there c (m - (o + 1))
    rw [show o + 1 + (m - (o + 1)) = m by omega] at hl
    rw [hl]
    exact fun z => by cases z
  · intro h
    cases e : orderOf m ps with
    | none => rfl
    | some t => exact absurd (best_none (order_no_ring hm e) m) h
theorem pick_short {b : Option (List Nat)} {ps : PL} {o : Nat} {l : List Nat} (hb : b = some l) (h : ∀ r, Cl ps o o r → l.length ≤ r.length + 1) : pick b (ringOf ps o) = b := by
  subst hb
  cases hx : ringOf ps o with
  | none => rfl
  | some x =>
    obtain ⟨r, rfl, c, _⟩ := ringOf_is hx
    have := h r c
    show (if (o :: r).length < l.length then some (o :: r) else some l) = some l
    rw [if_neg (by rw [List.length_cons]; omega)]
theorem pick_no {b : Option (List Nat)} {ps : PL} {o : Nat} (h : ∀ r, ¬ Cl ps o o r) : pick b (ringOf ps o) = b := by
  rw [ringOf_none h]
  rfl
theorem pick_new {b : Option (List Nat)} {ps : PL} {o : Nat} {x : List Nat} (hx : LRing ps o x) (h : ∀ l, b = some l → x.length < l.length) : pick b (ringOf ps o) = some x := by
  rw [ringOf_some hx]
  cases b with
  | none => rfl
  | some l => exact if_pos (h l rfl)
end K02

/-! Rules of our own over the hand layer: a walk over a list or a tuple; the order of data; the least of a list of data; list(reversed(a list)). -/
namespace RT
open PySem PySem.Spec PyProof.Rows L2
section
variable {prog : Program} {w : World} {A : Around} {E : Value → Shared → Prop} {s : Shared}
theorem extend_rev {R : Result → Shared → Prop} {it l : Addr} {items : Array Value} (hh : A.handled = none) (S : Addr) (res : Value) (c₀ : Nat) (hS : s.heap.get? S = some { cls := .type "list", data := .seq #[] c₀ })
    (hit : s.heap.IsRevIter it l ((items.size : Int) - 1)) (hl : s.heap.IsList l items) (hne : l ≠ it) (hSi : S ≠ it) (hSl : S ≠ l) (hn : items.size ≤ sizeLine)
    (hR : ∀ h' tk acc' c', (∀ b o, b ≠ S → b ≠ it → s.heap.get? b = some o → h'.get? b = some o) → h'.get? S = some { cls := .type "list", dict := none, data := .seq acc' c', slots := #[] } →
      ItemsOf (fun i v => items[items.size - 1 - i]? = some v) acc' items.size → R (.ok (.ret res)) { s with heap := h', toks := tk }) :
    wpAny (model prog w) A.in1 (Builtin.List.listExtendWith (.ref S) (.ref it) res)
      (fun fin s' => match fin with | .done f => R (.ok f) s' | .again c' => c'.quiet = true ∧ codeAny (model prog w) A c' R s') (fun e s' => R (.error e) s') s := by
  have W := (Walks.listRev (prog := prog) (w := w) (A := A.in1) hh it l hne items).toS
  have hSf : S ∉ [it, l] := by simp only [List.mem_cons, List.not_mem_nil, or_false, not_or]; exact ⟨hSi, hSl⟩
  have hT : s.TypeIs (.ref it) "list_reverseiterator" := hit.typeIs
  have h1 : Builtin.List.listSameRef (.ref S) (.ref it) = false := by simp [Builtin.List.listSameRef, hSi]
  unfold Builtin.List.listExtendWith
  refine wpAny_bind (wpAny_typeOf hT ?_)
  rw [if_neg (by rw [h1]; decide)]
  refine wpAny_bind (wpAny_pyIter_revIter hit ?_)
  refine wpAny_bind (wpAny_holding ?_)
  unfold Builtin.List.listLengthHint
  refine wpAny_bind (wpAny_specialOf hT nolen_lri ?_)
  show wpAny _ A.in1 (specialOf (Value.ref it) (Str.ofString "__length_hint__") >>= _) _ _ _
  refine wpAny_bind (wpAny_specialOf hT hint_lri ?_)
  generalize hid : ("list_reverseiterator.__length_hint__" : String) = id0
  wp_delta
  rw [show splitId id0 = some ("list_reverseiterator", "__length_hint__") from by subst hid; decide +kernel]
  subst hid
  refine wpAny_bind (wpAny_isInstance (b := true) hT (by rw [isSubtype_type]; kernel_rfl) ?_)
  refine wpAny_pure ?_
  rw [if_neg (by decide)]
  have e0 : ((items.size : Nat) : Int) - 1 - ((0 : Nat) : Int) = (items.size : Int) - 1 := by omega
  refine wpAny_pure ⟨plainId_quiet F.plain_extend_loop _, codeAny_extend_loopS W hn _ hSf _ items.size 0 _ _ _ rfl (Nat.zero_le _) ⟨Nat.zero_le _, by rw [e0]; exact hit, hl⟩ hS (ItemsOf.nil _) fun s' acc' c' hm hS' hacc => ?_⟩
  rw [Moved.eq_with hm]
  refine hR s'.heap s'.toks acc' c' (fun b o hb hb2 e => hm.heap b o (fun hmem => ?_) e) hS' hacc
  rcases List.mem_cons.mp hmem with e' | hmem
  · exact hb e'
  · exact hb2 (List.mem_singleton.mp hmem)
theorem list_init_rev {R : Result → Shared → Prop} {it l : Addr} {items : Array Value} (hh : A.handled = none) (S : Addr) (hS : s.heap.get? S = some { cls := .type "list", data := .seq #[] })
    (hit : s.heap.IsRevIter it l ((items.size : Int) - 1)) (hl : s.heap.IsList l items) (hne : l ≠ it) (hSi : S ≠ it) (hSl : S ≠ l) (hn : items.size ≤ sizeLine)
    (hR : ∀ h' tk acc' c', (∀ b o, b ≠ S → b ≠ it → s.heap.get? b = some o → h'.get? b = some o) → h'.get? S = some { cls := .type "list", dict := none, data := .seq acc' c', slots := #[] } →
      ItemsOf (fun i v => items[items.size - 1 - i]? = some v) acc' items.size → R (.ok (.ret .none)) { s with heap := h', toks := tk }) :
    wpAny (model prog w) A.in1 (Builtin.«list.__init__» ⟨[.ref S, .ref it], []⟩)
      (fun fin s' => match fin with | .done f => R (.ok f) s' | .again c' => c'.quiet = true ∧ codeAny (model prog w) A c' R s') (fun e s' => R (.error e) s') s := by
  show wpAny _ _ (do let old ← Builtin.List.listItems (.ref S); Builtin.List.listUpdate (.ref S) (fun _ => #[]); letGo old.toList.reverse; Builtin.List.listExtendWith (.ref S) (.ref it) .none) _ _ s
  refine wpAny_bind ?_
  unfold Builtin.List.listItems
  refine wpAny_bind (wpAny_seqItems hS rfl (wpAny_pure ?_))
  show wpAny _ _ (updateSeq S (fun _ => #[]) >>= fun _ => letGo (#[] : Array Value).toList.reverse >>= fun _ => Builtin.List.listExtendWith (.ref S) (.ref it) .none) _ _ s
  refine wpAny_bind (wpAny_updateSeq hS rfl ?_)
  have hS₂ := Heap.get?_update_self (Obj.mapSeq (fun _ => (#[] : Array Value))) hS rfl
  have oth : ∀ b o, b ≠ S → s.heap.get? b = some o → (s.heap.update S (Obj.mapSeq (fun _ => (#[] : Array Value)))).get? b = some o :=
    fun b o hb e => (Heap.get?_update_other _ _ (Ne.symm hb)).trans e
  refine wpAny_bind (wpAny_letGo ?_)
  refine extend_rev hh S .none _ hS₂ (hit.at fun o e => oth _ _ (Ne.symm hSi) e) (hl.at fun o e => oth _ _ (Ne.symm hSl) e) hne hSi hSl hn fun h' tk acc' c' hk hS' hacc => ?_
  exact hR h' tk acc' c' (fun b o hb hb2 e => hk b o hb hb2 (oth b o hb e)) hS' hacc
theorem call_list_rev {it l : Addr} {items : Array Value} {Q : Value → Shared → Prop} (hh : A.handled = none) (hit : s.heap.IsRevIter it l ((items.size : Int) - 1)) (hl : s.heap.IsList l items) (hne : l ≠ it) (hn : items.size ≤ sizeLine)
    (hQ : ∀ h' tk acc' c', (∀ b o, b ≠ it → s.heap.get? b = some o → h'.get? b = some o) →
      h'.get? s.heap.objs.size = some { cls := .type "list", dict := none, data := .seq acc' c', slots := #[] } → ItemsOf (fun i v => items[items.size - 1 - i]? = some v) acc' items.size → Q (.ref s.heap.objs.size) { s with heap := h', toks := tk }) :
    wpAny (model prog w) A (call (.type "list") [.ref it]) Q E s := by
  obtain ⟨oi, hoi, _⟩ := id hit
  obtain ⟨ol, hol, _⟩ := id hl
  have hSi : s.heap.objs.size ≠ it := Nat.ne_of_gt (Heap.lt_size hoi)
  have hSl : s.heap.objs.size ≠ l := Nat.ne_of_gt (Heap.lt_size hol)
  refine callType_codes (Q₁ := fun obj s₁ => obj = .ref s.heap.objs.size ∧ s₁ = { s with heap := s.heap.push { cls := .type "list", data := .seq #[] } }) F.called_list (F.typeCall_list_1 _) F.entry_list_init
    (code_list_new _ ⟨rfl, rfl⟩) fun obj s₁ h₁ => ?_
  obtain ⟨rfl, rfl⟩ := h₁
  have hS : (s.heap.push { cls := .type "list", data := .seq #[] }).get? s.heap.objs.size = some { cls := .type "list", data := .seq #[] } := Heap.get?_push_size _ rfl
  refine ⟨⟨_, hS, rfl⟩, F.args_list_init_2 _ _, list_init_rev (A := A.in1) hh _ hS (hit.at fun o e => Heap.get?_push_of_some _ e) (hl.push _) hne hSi hSl hn fun h' tk acc' c' hk hS' hacc => ?_⟩
  exact ⟨rfl, hQ h' tk acc' c' (fun b o hb e => hk b o (Nat.ne_of_lt (Heap.lt_size e)) hb (Heap.get?_push_of_some _ e)) hS' hacc⟩
end
end RT
namespace L2
open PySem PySem.Spec PyProof.Rows
section
variable {X : Cx}
/-- list(reversed(x)), x a list: a new list -/
def tLstRev (K : PySem.W.Frag) (te : TE) : TE := fun σ H Q => te σ H fun v H1 => ∃ (a : Addr) (xs : List V), v = .ref a ∧ SqL K H1 a xs ∧ ∀ q, H1 q = none → Q (.ref q) (upd H1 q (.lst xs.reverse))
theorem pe_lstRev {e : Expr} {te : TE} {p p2 pos pos2 : Pos} (hc : X.calm = true) (hg : Gl X "list") (hm : X.mg "list" = none) (hg2 : Gl X "reversed") (hm2 : X.mg "reversed" = none) (he : PE X e te)
    (hs : starEach [e] X.env = (false, eval e X.env) :: starEach [] X.env := by rfl)
    (hs2 : starEach [.Call (.Name "reversed" p2) [e] [] pos2] X.env = (false, eval (.Call (.Name "reversed" p2) [e] [] pos2) X.env) :: starEach [] X.env := by rfl) :
    PE X (.Call (.Name "list" p) [.Call (.Name "reversed" p2) [e] [] pos2] [] pos) (tLstRev X.K te) := by
  refine ⟨fun pins s σ H Q I h => ?_⟩
  refine Call_ (ld_blt I hg hm boot_list (PyProof.Rows.callWith_type1 (args_cons ?_ hs2) hs2 rfl))
  refine Call_ (ld_blt I hg2 hm2 PyProof.Rows.boot_reversed (PyProof.Rows.callWith_type1 (args_cons ?_ hs) hs rfl))
  refine thn (he.run pins s σ H _ I h) fun u s1 ⟨v, H1, I1, r1, q1⟩ => args_nil ?_
  obtain ⟨a, xs, ev, hq, q⟩ := q1
  subst ev
  obtain rfl : u = Value.ref a := r1
  obtain ⟨its, rv, p', hz⟩ := I1.list hq
  refine call_reversed_list p'.isList (args_nil ?_)
  have k0 : ∀ b o, s1.heap.get? b = some o → (s1.heap.push (revObj a ((its.toArray.size : Int) - 1))).get? b = some o := fun b o e => Heap.get?_push_of_some _ e
  have I2 : Inv X pins σ H1 { s1 with heap := s1.heap.push (revObj a ((its.toArray.size : Int) - 1)) } := I1.kept (t' := s1.toks) k0
  obtain ⟨f0, f1, f2, f3, f4, f5⟩ := I1.fpOk (H' := H1) (b := s1.heap.objs.size) (Nat.le_refl _) (I1.hok.fresh (Nat.le_refl _))
  have hl := p'.isList
  obtain ⟨ol, hol, _⟩ := id hl
  have hne : a ≠ s1.heap.objs.size := Nat.ne_of_lt (Heap.lt_size hol)
  have hn : its.toArray.size ≤ sizeLine := by rw [List.size_toArray, ← rv.length]; exact hz
  refine RT.call_list_rev (s := { s1 with heap := s1.heap.push (revObj a ((its.toArray.size : Int) - 1)) }) (I1.ok.hd hc) ⟨_, Heap.get?_push_size _ rfl, rfl, rfl⟩ (hl.push _) hne hn fun h' tk acc c' hk hS' hi => ?_
  have ez : (s1.heap.push (revObj a ((its.toArray.size : Int) - 1))).objs.size = s1.heap.objs.size + 1 := Heap.size_push _ _
  have hS2 : h'.get? (s1.heap.objs.size + 1) = some { cls := .type "list", data := .seq acc c' } := by rw [← ez]; exact hS'
  show EP X pins σ Q (Value.ref (s1.heap.push (revObj a ((its.toArray.size : Int) - 1))).objs.size) _
  rw [ez]
  refine ⟨.ref (s1.heap.objs.size + 1), upd H1 (s1.heap.objs.size + 1) (.lst xs.reverse), I1.laid (t' := tk) (fun b o e => hk b o (Nat.ne_of_lt (Heap.lt_size e)) (k0 b o e)) (Nat.le_succ _) (show ObjOk X.prog X.w _ _ _ (.lst xs.reverse) from ⟨by rw [List.length_reverse]; exact hz, acc.toList, c', RT.vals_rev rv hi, ?_⟩), rfl, q _ (I1.hok.fresh (Nat.le_succ _))⟩
  rw [Array.toArray_toList]
  exact hS2
end
end L2
namespace L2
open PySem PySem.Spec PyProof.Rows PySem.W
section
variable {X : Cx}
/-- a list or a tuple, walked -/
def iSeq (K : PySem.W.Frag) (tl : TE) : TI := fun σ H R => tl σ H fun x H1 => ∃ a, x = .ref a ∧ (((∃ xs, SqL K H1 a xs) ∧ R (Itl K a) H1) ∨ ((∃ xs, SqT K H1 a xs) ∧ R (Itt K a) H1))
theorem pi_seq {tg l : Expr} {tl : TE} (hl : PE X l tl) : PI X tg l (iSeq X.K tl) := by
  refine ⟨fun pins s σ H R I h => ?_⟩
  refine thn (hl.run pins s σ H _ I h) fun v s1 ⟨x, H1, I1, r1, q1⟩ => ?_
  obtain ⟨a, e, ⟨⟨xs, hq⟩, q⟩ | ⟨⟨xs, hq⟩, q⟩⟩ := q1
  · subst e
    cases r1
    obtain ⟨its, rv, p, hz⟩ := I1.list hq
    refine wpAny_pyIter_list p.isList ?_
    refine ⟨s1.heap.objs.size, [s1.heap.objs.size], _, _, H1, rfl, I1.kept (t' := s1.toks) fun b o e => Heap.get?_push_of_some _ e, turn_list a _, ⟨_, Heap.get?_push_size _ rfl, rfl, rfl⟩, fun b hb => ?_, q⟩
    have e : b = s1.heap.objs.size := by simpa using hb
    subst e
    exact I1.fpOk (Nat.le_refl _) (I1.hok.fresh (Nat.le_refl _))
  · subst e
    cases r1
    obtain ⟨its, rv, p, hz⟩ := I1.tuple hq
    refine wpAny_pyIter_tuple (show s1.heap.IsTuple a its.toArray from p) ?_
    refine ⟨s1.heap.objs.size, [s1.heap.objs.size], _, _, H1, rfl, I1.kept (t' := s1.toks) fun b o e => Heap.get?_push_of_some _ e, turn_tuple a _, ⟨_, Heap.get?_push_size _ rfl, rfl, rfl⟩, fun b hb => ?_, q⟩
    have e : b = s1.heap.objs.size := by simpa using hb
    subst e
    exact I1.fpOk (Nat.le_refl _) (I1.hok.fresh (Nat.le_refl _))
/-- x < y of data with a Lean type -/
def rLtA (α : Type) [DecidableEq α] [DatumOrd α] (K : PySem.W.Frag) : R2 := fun x y H Q => ∃ (a b : α), Dp K H x (Datum.toD a) ∧ Dp K H y (Datum.toD b) ∧ Q (.bl (DatumOrd.lt a b)) H
theorem op_ltA (α : Type) [DecidableEq α] [DatumOrd α] (hu : X.A.units + 64 < cLine) (hd : Datum.depth α ≤ 60) : OpR X (compareOp .Lt) (rLtA α X.K) := by
  intro pins s σ H x y v u Q I rx ry h
  obtain ⟨a, b, ha, hb, q⟩ := h
  obtain ⟨as, r1⟩ := Dp.reads I _ x v ha rx
  obtain ⟨bs, r2⟩ := Dp.reads I _ y u hb ry
  exact lt_datum ⟨as, r1⟩ ⟨bs, r2⟩ (by omega) ⟨.bl _, H, I, rfl, q⟩
theorem DpAll.at {K : PySem.W.Frag} {H : Hp} : ∀ {vs : List V} {ds : List PyData}, DpAll K H vs ds → ∀ (i : Nat) (v : V), vs[i]? = some v → ∃ d, ds[i]? = some d ∧ Dp K H v d
  | _, _, .nil, i, v, h => by simp at h
  | _, _, .cons h1 h2, 0, v, h => by
    simp only [List.getElem?_cons_zero, Option.some.injEq] at h
    subst h
    exact ⟨_, rfl, h1⟩
  | _, _, .cons h1 h2, i + 1, v, h => DpAll.at h2 i v (by simpa using h)
theorem toD_inj {α : Type} [DecidableEq α] [Datum α] {a b : α} (h : Datum.toD a = Datum.toD b) : a = b := by
  have e := Datum.eqv a b
  rw [h, Datum.eqv b b, decide_eq_true rfl] at e
  exact of_decide_eq_true e.symm
/-- min(xs): the item that stands where the first least one stands -/
def rMinA (α : Type) [DecidableEq α] [DatumOrd α] (K : PySem.W.Frag) : List V → Hp → VK → Prop := fun us H Q => ∃ (a : Addr) (vs : List V) (x : α) (xs : List α), us = [V.ref a] ∧ SqL K H a vs ∧ DpAll K H vs ((x :: xs).map Datum.toD) ∧
  ∀ (i : Nat) (v : V), vs[i]? = some v → (x :: xs)[i]? = some (minOf x xs) → Q v H
theorem cr_minA (α : Type) [DecidableEq α] [DatumOrd α] (hc : X.calm = true) (hu : X.A.units + 64 < cLine) (hd : Datum.depth α ≤ 60) : CallR X (.builtin "min") (rMinA α X.K) := by
  intro pins s σ H vs us Q I r h
  obtain ⟨a, ws, x, xs, rfl, hs, hda, q⟩ := h
  obtain ⟨its, rv, hl, _⟩ := I.list hs
  rw [Vals.ref1 r]
  obtain ⟨as, hr⟩ := Dp.readsAll I _ _ its hda rv
  refine min_list_datum (x := x) (xs := xs) (I.ok.hd hc) hl.isList ⟨as, by simpa using hr⟩ (by omega) fun i v h' tk hi hv hk => ?_
  have hi' : its[i]? = some v := by simpa using hi
  -- the item's own V
  have hlt : i < its.length := (List.getElem?_eq_some_iff.mp hi').1
  have hlw : i < ws.length := by
    have := Vals.length rv
    omega
  have hw : ws[i]? = some ws[i] := List.getElem?_eq_getElem hlw
  obtain ⟨u, hu1, hu2⟩ := rv.get hw
  rw [hi'] at hu1
  cases hu1
  obtain ⟨d, hd1, hd2⟩ := hda.at i _ hw
  obtain ⟨y, hy1, hy2⟩ : ∃ y, (x :: xs)[i]? = some y ∧ Datum.toD y = d := by
    rw [List.getElem?_map] at hd1
    cases e : (x :: xs)[i]? with
    | none => rw [e] at hd1; cases hd1
    | some y => rw [e] at hd1; exact ⟨y, rfl, Option.some.inj hd1⟩
  subst hy2
  have I2 : Inv X pins σ H { s with heap := h', toks := tk } := I.kept hk
  obtain ⟨bs, r2⟩ := Dp.reads I2 _ _ v hd2 hu2
  obtain ⟨cs, r3⟩ := hv
  have e := toD_inj (alike_unique _ _ v bs cs (DatumOrd.alike y (minOf x xs)) r2 r3)
  exact ⟨_, H, I2, hu2, q i _ hw (by rw [hy1, e])⟩
end
end L2
namespace L2
open PySem PySem.Spec PyProof.Rows
def rLenQ (K : PySem.W.Frag) : List V → Hp → VK → Prop := fun xs H Q => ∃ p ys, xs = [.ref p] ∧ (SqL K H p ys ∨ SqT K H p ys) ∧ Q (.int ys.length) H
def rListOf (K : PySem.W.Frag) : List V → Hp → VK → Prop := fun xs H Q => ∃ p ys, xs = [.ref p] ∧ (SqL K H p ys ∨ SqT K H p ys) ∧ ∀ l, H l = none → Q (.ref l) (upd H l (.lst ys))
end L2

/-! Heaps in short: numbers, lists of lists, lists of pairs, dicts by numbers. -/
namespace KH
open PySem PySem.Spec PyProof.Rows L2 K02
abbrev nV (n : Nat) : V := .int (n : Int)
/-! ### lists -/
theorem getn {α β : Type} {f : α → β} {l : List α} {i : Nat} {x : α} (h : l[i]? = some x) : (l.map f)[i]? = some (f x) := by
  rw [List.getElem?_map, h]
  rfl
theorem getn_inv {α β : Type} {f : α → β} {l : List α} {i : Nat} {y : β} (h : (l.map f)[i]? = some y) : ∃ x, l[i]? = some x ∧ y = f x := by
  rw [List.getElem?_map] at h
  cases e : l[i]? with
  | none => rw [e] at h; cases h
  | some x => rw [e] at h; exact ⟨x, rfl, (Option.some.inj h).symm⟩
theorem get_lt {α : Type} {l : List α} {i : Nat} (h : i < l.length) : ∃ x, l[i]? = some x := ⟨l[i], List.getElem?_eq_getElem h⟩
theorem lt_get {α : Type} {l : List α} {i : Nat} {x : α} (h : l[i]? = some x) : i < l.length := (List.getElem?_eq_some_iff.mp h).1
theorem take_more {α : Type} {l : List α} {i : Nat} {x : α} (h : l[i]? = some x) : l.take (i + 1) = l.take i ++ [x] := by
  rw [List.take_add_one, h]
  rfl
theorem at_n {xs : List V} {j : Nat} {v : V} (h : xs[j]? = some v) : atI xs (j : Int) = some v := atI_nat h
theorem szl {n : Nat} (h : n ≤ 10000) : n < sizeLine := Nat.lt_of_le_of_lt h (by decide)
theorem szle {n : Nat} (h : n ≤ 10000) : n ≤ sizeLine := Nat.le_of_lt (szl h)
section
variable {α β : Type} {F G : α → β → Prop}
theorem P_len : ∀ {xs : List α} {ys : List β}, Paired F xs ys → xs.length = ys.length
  | _, _, .nil => rfl
  | _, _, .cons _ h => by rw [List.length_cons, List.length_cons, P_len h]
theorem P_get : ∀ {xs : List α} {ys : List β}, Paired F xs ys → ∀ {i : Nat} {x : α} {y : β}, xs[i]? = some x → ys[i]? = some y → F x y
  | _, _, .nil, i, x, _, h, _ => by simp at h
  | _, _, .cons f _, 0, x, y, h, h' => by
    simp at h h'
    subst h
    subst h'
    exact f
  | _, _, .cons _ r, i + 1, x, y, h, h' => P_get r (i := i) (by simpa using h) (by simpa using h')
theorem P_right {xs : List α} {ys : List β} (p : Paired F xs ys) {i : Nat} {x : α} (h : xs[i]? = some x) : ∃ y, ys[i]? = some y ∧ F x y := by
  have hl := lt_get h
  rw [P_len p] at hl
  obtain ⟨y, hy⟩ := get_lt hl
  exact ⟨y, hy, P_get p h hy⟩
theorem P_left {xs : List α} {ys : List β} (p : Paired F xs ys) {i : Nat} {y : β} (h : ys[i]? = some y) : ∃ x, xs[i]? = some x ∧ F x y := by
  have hl := lt_get h
  rw [← P_len p] at hl
  obtain ⟨x, hx⟩ := get_lt hl
  exact ⟨x, hx, P_get p hx h⟩
theorem P_mono (h : ∀ x y, F x y → G x y) : ∀ {xs : List α} {ys : List β}, Paired F xs ys → Paired G xs ys
  | _, _, .nil => .nil
  | _, _, .cons f r => .cons (h _ _ f) (P_mono h r)
theorem P_monoM : ∀ {xs : List α} {ys : List β}, (∀ x y, x ∈ xs → F x y → G x y) → Paired F xs ys → Paired G xs ys
  | _, _, _, .nil => .nil
  | _, _, h, .cons f r => .cons (h _ _ List.mem_cons_self f) (P_monoM (fun x y hx => h x y (List.mem_cons_of_mem _ hx)) r)
theorem P_set : ∀ {xs : List α} {ys : List β}, Paired F xs ys → ∀ {i : Nat} {x : α} {y : β}, F x y → Paired F (xs.set i x) (ys.set i y)
  | _, _, .nil, _, _, _, _ => .nil
  | _, _, .cons _ r, 0, _, _, f => .cons f r
  | _, _, .cons g r, i + 1, _, _, f => .cons g (P_set r f)
theorem P_setR {xs : List α} {ys : List β} (p : Paired F xs ys) {i : Nat} {x : α} {y : β} (hx : xs[i]? = some x) (f : F x y) : Paired F xs (ys.set i y) := by
  have := P_set p (i := i) f
  rwa [show xs.set i x = xs from List.set_getElem?_self hx] at this
where
  List.set_getElem?_self {l : List α} {i : Nat} {x : α} (h : l[i]? = some x) : l.set i x = l := by
    apply List.ext_getElem?
    intro j
    rw [List.getElem?_set]
    by_cases e : i = j
    · subst e
      rw [if_pos rfl, if_pos (lt_get h), h]
    · rw [if_neg e]
theorem P_append : ∀ {xs xs' : List α} {ys ys' : List β}, Paired F xs ys → Paired F xs' ys' → Paired F (xs ++ xs') (ys ++ ys')
  | _, _, _, _, .nil, h => h
  | _, _, _, _, .cons f r, h => .cons f (P_append r h)
end
/-! ### what stays -/
theorem _root_.L2.Same.seqT {K : PySem.W.Frag} {H H' : Hp} {a : Addr} {xs : List V} (e : Same H H') (h : SqT K H a xs) : SqT K H' a xs := by
  rcases h with (h | ⟨o, h⟩) | h
  · exact .inl (.inl (e _ _ h))
  · exact .inl (.inr ⟨o, e _ _ h⟩)
  · exact .inr h
theorem _root_.L2.Same.new {H H' : Hp} {p : Addr} {o : HO} (s : Same H H') (h : H' p = none) : Same H (upd H' p o) := fun b x e => by
  have e' := s b x e
  rw [upd_ne (ne_of_none e' h)]
  exact e'
theorem _root_.L2.Same.mut {H H' : Hp} {p : Addr} {o : HO} (s : Same H H') (h : H p = none) : Same H (upd H' p o) := fun b x e => by
  rw [upd_ne (ne_of_none e h)]
  exact s b x e
theorem new_free {H H' : Hp} {p : Addr} (s : Same H H') (h : H' p = none) : H p = none := s.free h
theorem ne_new {H : Hp} {a p : Addr} {o : HO} (h : H a = some o) (hp : H p = none) : a ≠ p := ne_of_none h hp
/-! ### a walk over a list or a tuple -/
def Sq (K : PySem.W.Frag) (H : Hp) (a : Addr) (xs : List V) : Prop := SqL K H a xs ∨ SqT K H a xs
theorem _root_.L2.Same.sq {K : PySem.W.Frag} {H H' : Hp} {a : Addr} {xs : List V} (e : Same H H') (h : Sq K H a xs) : Sq K H' a xs := h.imp (fun q => e.seq q) (fun q => e.seqT q)
theorem for_seq {K : PySem.W.Frag} {a : Addr} {xs : List V} {g : TG} {tb : TS} {D : Ends} {σ : L2.St} {H0 H : Hp} (hq : Sq K H0 a xs) (s0 : Same H0 H) (Pv : Nat → L2.St → Hp → Prop) (h0 : Pv 0 σ H) (hl : ∀ i σ' H', i ≤ xs.length → Pv i σ' H' → Same H0 H')
    (hs : ∀ i x σ H, xs[i]? = some x → Pv i σ H → g x σ H fun σ2 H2 => tb { D with nx := Pv (i + 1), ct := Pv (i + 1), bk := D.nx } σ2 H2) (hd : ∀ σ H, Pv xs.length σ H → D.nx σ H) :
    ∃ a', V.ref a = V.ref a' ∧ (((∃ xs, SqL K H a' xs) ∧ ∃ W : Nat → Nat → L2.St → Hp → Prop, (∃ m, W 0 m σ H) ∧ ∀ i m σ H, W i m σ H →
      ((Itl K a').stop i H ∧ D.nx σ H) ∨ ((Itl K a').go i H ∧ ∃ N : L2.St → Hp → Prop, (∀ σ' H', N σ' H' → ∃ m', m' < m ∧ W (i + 1) m' σ' H') ∧ ∀ x H', (Itl K a').yld i H x H' → g x σ H' fun σ2 H2 => tb { D with nx := N, ct := N, bk := D.nx } σ2 H2)) ∨
      ((∃ xs, SqT K H a' xs) ∧ ∃ W : Nat → Nat → L2.St → Hp → Prop, (∃ m, W 0 m σ H) ∧ ∀ i m σ H, W i m σ H →
      ((Itt K a').stop i H ∧ D.nx σ H) ∨ ((Itt K a').go i H ∧ ∃ N : L2.St → Hp → Prop, (∀ σ' H', N σ' H' → ∃ m', m' < m ∧ W (i + 1) m' σ' H') ∧ ∀ x H', (Itt K a').yld i H x H' → g x σ H' fun σ2 H2 => tb { D with nx := N, ct := N, bk := D.nx } σ2 H2))) := by
  rcases hq with hq | hq
  · exact ⟨a, rfl, .inl ⟨⟨_, s0.seq hq⟩, for_list (K := K) (a := a) (xs := xs) Pv h0 (fun i σ' H' hi p => (hl i σ' H' hi p).seq hq) hs hd⟩⟩
  · exact ⟨a, rfl, .inr ⟨⟨_, s0.seqT hq⟩, for_tup (K := K) (a := a) (xs := xs) Pv h0 (fun i σ' H' hi p => (hl i σ' H' hi p).seqT hq) hs hd⟩⟩
/-! ### dicts by numbers -/
def dkN {β : Type} (f : β → V) (l : List (Nat × β)) : List (Key × V) := l.map fun p => (Sum.inl (p.1 : Int), f p.2)
theorem key_eq {a b : Nat} : ((Sum.inl (a : Int) : Key) = Sum.inl (b : Int)) ↔ a = b := by
  constructor
  · intro h
    have := Sum.inl.inj h
    omega
  · intro h
    rw [h]
theorem val_dk {β : Type} (f : β → V) (k : Nat) : ∀ l : List (Nat × β), valV (dkN f l) (Sum.inl (k : Int)) = (look l k).map f
  | [] => rfl
  | p :: r => by
    show valV ((Sum.inl (p.1 : Int), f p.2) :: dkN f r) (Sum.inl (k : Int)) = (if p.1 = k then some p.2 else look r k).map f
    by_cases e : p.1 = k
    · rw [valV_pos (key_eq.mpr e), if_pos e]
      rfl
    · rw [valV_neg (fun z => e (key_eq.mp z)), if_neg e, val_dk f k r]
theorem put_dk {β : Type} (f : β → V) (k : Nat) (v : β) (l : List (Nat × β)) (hn : (l.map (·.1)).Nodup) : putK (dkN f l) (Sum.inl (k : Int)) (f v) = dkN f (put l k v) := by
  unfold putK
  rw [valV_any, val_dk]
  cases h : look l k with
  | none =>
    rw [if_neg (by simp)]
    rw [put_new l h]
    unfold dkN
    rw [List.map_append]
    rfl
  | some w =>
    rw [if_pos (by simp)]
    exact put_old l (by rw [h]; rfl) hn
where
  put_new : ∀ (l : List (Nat × β)), look l k = none → put l k v = l ++ [(k, v)]
    | [], _ => rfl
    | p :: r, h => by
      unfold look at h
      by_cases e : p.1 = k
      · rw [if_pos e] at h
        cases h
      · rw [if_neg e] at h
        show (if p.1 = k then (p.1, v) :: r else p :: put r k v) = _
        rw [if_neg e, put_new r h]
        rfl
  map_other : ∀ (l : List (Nat × β)), k ∉ l.map (·.1) → (dkN f l).map (fun kv => if kv.1 = Sum.inl (k : Int) then (kv.1, f v) else kv) = dkN f l
    | [], _ => rfl
    | p :: r, h => by
      rw [List.map_cons, List.mem_cons, not_or] at h
      show (if (Sum.inl (p.1 : Int) : Key) = Sum.inl (k : Int) then (Sum.inl (p.1 : Int), f v) else (Sum.inl (p.1 : Int), f p.2)) :: (dkN f r).map (fun kv => if kv.1 = Sum.inl (k : Int) then (kv.1, f v) else kv) = _
      rw [if_neg (fun z => h.1 (key_eq.mp z).symm), map_other r h.2]
      rfl
  put_old : ∀ (l : List (Nat × β)), (look l k).isSome = true → (l.map (·.1)).Nodup → (dkN f l).map (fun kv => if kv.1 = Sum.inl (k : Int) then (kv.1, f v) else kv) = dkN f (put l k v)
    | [], h, _ => by cases h
    | p :: r, h, hn => by
      rw [List.map_cons] at hn
      obtain ⟨h1, h2⟩ := List.nodup_cons.mp hn
      show (if (Sum.inl (p.1 : Int) : Key) = Sum.inl (k : Int) then (Sum.inl (p.1 : Int), f v) else (Sum.inl (p.1 : Int), f p.2)) :: (dkN f r).map (fun kv => if kv.1 = Sum.inl (k : Int) then (kv.1, f v) else kv) = dkN f (if p.1 = k then (p.1, v) :: r else p :: put r k v)
      by_cases e : p.1 = k
      · rw [if_pos (key_eq.mpr e), if_pos e, map_other r (by rw [← e]; exact h1)]
        rfl
      · rw [if_neg (fun z => e (key_eq.mp z)), if_neg e]
        unfold look at h
        rw [if_neg e] at h
        rw [put_old r h h2]
        rfl
theorem dk_len {β : Type} (f : β → V) (l : List (Nat × β)) : (dkN f l).length = l.length := by unfold dkN; rw [List.length_map]
theorem put_keys {β : Type} (k : Nat) (v : β) : ∀ (l : List (Nat × β)), (l.map (·.1)).Nodup → ((put l k v).map (·.1)).Nodup ∧ ∀ x, x ∈ (put l k v).map (·.1) → x = k ∨ x ∈ l.map (·.1)
  | [], _ => ⟨by simp [put], fun x h => .inl (by simpa [put] using h)⟩
  | p :: r, hn => by
    rw [List.map_cons] at hn
    obtain ⟨h1, h2⟩ := List.nodup_cons.mp hn
    unfold put
    by_cases e : p.1 = k
    · rw [if_pos e]
      exact ⟨hn, fun x h => .inr h⟩
    · rw [if_neg e]
      obtain ⟨i1, i2⟩ := put_keys k v r h2
      refine ⟨?_, fun x h => ?_⟩
      · rw [List.map_cons]
        refine List.nodup_cons.mpr ⟨fun z => ?_, i1⟩
        rcases i2 _ z with q | q
        · exact e q
        · exact h1 q
      · rw [List.map_cons, List.mem_cons] at h
        rcases h with q | q
        · rw [q, List.map_cons]
          exact .inr List.mem_cons_self
        · rcases i2 _ q with q | q
          · exact .inl q
          · rw [List.map_cons]
            exact .inr (List.mem_cons_of_mem _ q)
theorem dget_n {β : Type} {H : Hp} {a : Addr} {f : β → V} {l : List (Nat × β)} {k : Nat} (h : H a = some (.dK (dkN f l))) : DGet H a (nV k) ((look l k).map f) := by
  have := DGet.k (k := Sum.inl (k : Int)) h
  rw [val_dk] at this
  exact this
theorem dput_n {β : Type} {H : Hp} {a : Addr} {f : β → V} {l : List (Nat × β)} {k : Nat} {v : β} (h : H a = some (.dK (dkN f l))) (hl : l.length < sizeLine) (hn : (l.map (·.1)).Nodup) : DPut H a (nV k) (f v) (upd H a (.dK (dkN f (put l k v)))) := by
  have := DPut.k (k := Sum.inl (k : Int)) (v := f v) h (by rw [dk_len]; exact hl)
  rw [put_dk f k v l hn] at this
  exact this
/-! ### lists of lists of numbers, all new -/
/-- at a (new since H0) a list of lists, each new since H0, no two the same -/
structure LL (H0 H : Hp) (a : Addr) (bs : List (List Nat)) : Prop where
  new : H0 a = none
  ex : ∃ as : List Addr, H a = some (.lst (as.map V.ref)) ∧ as.Nodup ∧ (∀ x ∈ as, H0 x = none ∧ x ≠ a) ∧ Paired (fun x l => H x = some (.lst (l.map nV))) as bs
theorem LL.other {H0 H : Hp} {a p : Addr} {o : HO} {bs : List (List Nat)} (h : LL H0 H a bs) (hp : H p = none) : LL H0 (upd H p o) a bs := by
  obtain ⟨n, as, h1, h2, h3, h4⟩ := h
  refine ⟨n, as, by rw [upd_ne (ne_of_none h1 hp)]; exact h1, h2, h3, P_mono (fun x l e => ?_) h4⟩
  rw [upd_ne (ne_of_none e hp)]
  exact e
/-- what is not of it may change -/
theorem LL.apart {H0 H H' : Hp} {a : Addr} {bs : List (List Nat)} (h : LL H0 H a bs) (s : Same H H') : LL H0 H' a bs := by
  obtain ⟨n, as, h1, h2, h3, h4⟩ := h
  exact ⟨n, as, s _ _ h1, h2, h3, P_mono (fun x l e => s _ _ e) h4⟩
theorem LL.at {H0 H : Hp} {a : Addr} {bs : List (List Nat)} (h : LL H0 H a bs) {i : Nat} {l : List Nat} (hi : bs[i]? = some l) : ∃ (vs : List V) (x : Addr), H a = some (.lst vs) ∧ vs[i]? = some (V.ref x) ∧ H x = some (.lst (l.map nV)) ∧ H0 x = none ∧ x ≠ a := by
  obtain ⟨n, as, h1, h2, h3, h4⟩ := h
  obtain ⟨x, hx, hl⟩ := P_left h4 hi
  have hm : x ∈ as := List.mem_of_getElem? hx
  exact ⟨_, x, h1, getn hx, hl, (h3 x hm).1, (h3 x hm).2⟩
/-- the i-th list grows -/
theorem LL.grow {H0 H : Hp} {a : Addr} {bs : List (List Nat)} (h : LL H0 H a bs) {i : Nat} {l : List Nat} {vs : List V} {x : Addr} (hi : bs[i]? = some l) (hv : H a = some (.lst vs)) (hx : vs[i]? = some (V.ref x)) (m : List Nat) : LL H0 (upd H x (.lst (m.map nV))) a (bs.set i m) := by
  obtain ⟨n, as, h1, h2, h3, h4⟩ := h
  rw [h1] at hv
  cases hv
  obtain ⟨y, hy, e⟩ := getn_inv hx
  cases e
  have hm : x ∈ as := List.mem_of_getElem? hy
  refine ⟨n, as, ?_, h2, h3, ?_⟩
  · rw [upd_ne (Ne.symm (h3 x hm).2)]
    exact h1
  · have key : Paired (fun z l => (z = x → l = m) → (upd H x (.lst (m.map nV))) z = some (.lst (l.map nV))) as bs := P_mono (fun z l e q => by
      by_cases c : z = x
      · rw [c, upd_same, q c]
      · rw [upd_ne c]
        exact e) h4
    exact P_fix h2 key hy
where
  P_fix : ∀ {as : List Addr} {bs : List (List Nat)} {i : Nat}, as.Nodup → Paired (fun z l => (z = x → l = m) → (upd H x (.lst (m.map nV))) z = some (.lst (l.map nV))) as bs → as[i]? = some x →
      Paired (fun z l => (upd H x (.lst (m.map nV))) z = some (.lst (l.map nV))) as (bs.set i m)
    | _, _, _, _, .nil, h => by simp at h
    | _, _, 0, hn, .cons f r, h => by
      simp at h
      subst h
      obtain ⟨h1, h2⟩ := List.nodup_cons.mp hn
      refine .cons upd_same (P_monoM (fun z l hz e => e fun c => absurd (c ▸ hz) h1) r)
    | _, _, i + 1, hn, .cons f r, h => by
      obtain ⟨h1, h2⟩ := List.nodup_cons.mp hn
      have hx : _ := List.mem_of_getElem? (show _ from (by simpa using h : (_ : List Addr)[i]? = some x))
      refine .cons (f fun c => absurd (c ▸ hx) h1) (P_fix h2 r (by simpa using h))
/-! ### lists of pairs -/
/-- the refs of a list of pairs of numbers -/
def Prs (K : PySem.W.Frag) (H : Hp) (vs : List V) (ps : PL) : Prop := Paired (fun v q => ∃ t, v = V.ref t ∧ SqT K H t [nV q.1, nV q.2]) vs ps
theorem Prs.same {K : PySem.W.Frag} {H H' : Hp} {vs : List V} {ps : PL} (h : Prs K H vs ps) (s : Same H H') : Prs K H' vs ps := P_mono (fun _ _ ⟨t, e, q⟩ => ⟨t, e, s.seqT q⟩) h
end KH
namespace KH
open PySem PySem.Spec PyProof.Rows L2 K02
theorem Prs.len {K : PySem.W.Frag} {H : Hp} {vs : List V} {ps : PL} (h : Prs K H vs ps) : vs.length = ps.length := P_len h
theorem Prs.snoc {K : PySem.W.Frag} {H : Hp} {vs : List V} {ps : PL} {t : Addr} {a b : Nat} (h : Prs K H vs ps) (ht : SqT K H t [nV a, nV b]) : Prs K H (vs ++ [V.ref t]) (ps ++ [(a, b)]) := P_append h (.cons ⟨t, rfl, ht⟩ .nil)
theorem within_snoc {m : Nat} {ps : PL} {a b : Nat} (h : Within m ps) (ha : a < m) (hb : b < m) : Within m (ps ++ [(a, b)]) := fun p hp => by
  rcases List.mem_append.mp hp with q | q
  · exact h p q
  · rw [List.mem_singleton.mp q]
    exact ⟨ha, hb⟩
theorem within_app {m : Nat} {ps qs : PL} (h : Within m ps) (k : Within m qs) : Within m (ps ++ qs) := fun p hp => by
  rcases List.mem_append.mp hp with q | q
  · exact h p q
  · exact k p q
theorem within_nil {m : Nat} : Within m [] := fun _ h => by cases h
theorem sp2 : (2 : Nat) ≤ sizeLine := by decide
end KH
namespace KH
open PySem PySem.Spec PyProof.Rows L2 K02
/-- a tuple stands beside a list that changes -/
theorem sqT_mutL {K : PySem.W.Frag} {H : Hp} {t o : Addr} {xs us : List V} {x : HO} (h : SqT K H t xs) (e : H o = some (.lst us)) : SqT K (upd H o x) t xs := by
  rcases h with (h | ⟨ob, h⟩) | h
  · exact .inl (.inl (by rw [upd_ne (ne_of h e (by intro z; cases z))]; exact h))
  · exact .inl (.inr ⟨ob, by rw [upd_ne (ne_of h e (by intro z; cases z))]; exact h⟩)
  · exact .inr h
theorem Prs.mutL {K : PySem.W.Frag} {H : Hp} {o : Addr} {vs us : List V} {ps : PL} {x : HO} (h : Prs K H vs ps) (e : H o = some (.lst us)) : Prs K (upd H o x) vs ps := P_mono (fun _ _ ⟨t, et, q⟩ => ⟨t, et, sqT_mutL q e⟩) h
theorem sqT_new {K : PySem.W.Frag} {H : Hp} {t p : Addr} {xs : List V} {x : HO} (h : SqT K H t xs) (e : H p = none) : SqT K (upd H p x) t xs := ((Same.refl H).new e).seqT h
theorem Prs.new {K : PySem.W.Frag} {H : Hp} {p : Addr} {vs : List V} {ps : PL} {x : HO} (h : Prs K H vs ps) (e : H p = none) : Prs K (upd H p x) vs ps := h.same ((Same.refl H).new e)
end KH
namespace KH
open PySem PySem.Spec PyProof.Rows L2 K02
theorem LL.snoc {H0 H : Hp} {a p : Addr} {bs : List (List Nat)} {vs : List V} (h : LL H0 H a bs) (s : Same H0 H) (hp : H p = none) (hv : H a = some (.lst vs)) (l : List Nat) :
    LL H0 (upd (upd H p (.lst (l.map nV))) a (.lst (vs ++ [V.ref p]))) a (bs ++ [l]) := by
  obtain ⟨n, as, h1, h2, h3, h4⟩ := h
  rw [h1] at hv
  cases hv
  have hpa : p ≠ a := fun z => by rw [z, h1] at hp; cases hp
  have hpas : p ∉ as := fun z => by
    obtain ⟨i, hi⟩ := List.getElem?_of_mem z
    obtain ⟨l', _, e⟩ := P_right h4 hi
    rw [hp] at e
    cases e
  refine ⟨n, as ++ [p], ?_, ?_, ?_, ?_⟩
  · rw [upd_same, List.map_append]
    rfl
  · refine List.nodup_append.mpr ⟨h2, by simp, fun x hx y hy => ?_⟩
    rw [List.mem_singleton.mp hy]
    exact fun z => hpas (z ▸ hx)
  · intro x hx
    rcases List.mem_append.mp hx with q | q
    · exact h3 x q
    · rw [List.mem_singleton.mp q]
      exact ⟨s.free hp, hpa⟩
  · refine P_append (P_monoM (fun x l' hx e => ?_) h4) (.cons ?_ .nil)
    · rw [upd_ne (h3 x hx).2, upd_ne (ne_of_none e hp)]
      exact e
    · rw [upd_ne hpa, upd_same]
theorem LL.lst {H0 H : Hp} {a : Addr} {bs : List (List Nat)} (h : LL H0 H a bs) : ∃ vs, H a = some (.lst vs) ∧ vs.length = bs.length := by
  obtain ⟨n, as, h1, h2, h3, h4⟩ := h
  exact ⟨_, h1, by rw [List.length_map]; exact P_len h4⟩
theorem LL.nil {H : Hp} {a : Addr} (h : H a = none) : LL H (upd H a (.lst [])) a [] := ⟨h, [], upd_same, List.nodup_nil, fun x hx => (by cases hx), .nil⟩
/-- another new object that is none of its own changes -/
theorem LL.beside {H0 H : Hp} {a p : Addr} {o u : HO} {bs : List (List Nat)} (h : LL H0 H a bs) (hp : H p = some u) (hu : ∀ xs, u ≠ .lst xs) : LL H0 (upd H p o) a bs := by
  obtain ⟨n, as, h1, h2, h3, h4⟩ := h
  refine ⟨n, as, by rw [upd_ne (ne_of h1 hp (fun z => hu _ z.symm))]; exact h1, h2, h3, P_mono (fun x l e => ?_) h4⟩
  rw [upd_ne (ne_of e hp (fun z => hu _ z.symm))]
  exact e
/-! ### what the pairs give place by place -/
theorem bef_app (qs : PL) (a b v : Nat) : bef (qs ++ [(a, b)]) v = bef qs v ++ (if b = v then [a] else []) := by
  unfold bef
  rw [List.filter_append, List.map_append]
  by_cases h : b = v
  · rw [if_pos h]
    congr 1
    simp [h]
  · rw [if_neg h]
    congr 1
    simp [h]
theorem aft_app (qs : PL) (a b v : Nat) : aft (qs ++ [(a, b)]) v = aft qs v ++ (if a = v then [b] else []) := by
  unfold aft
  rw [List.filter_append, List.map_append]
  by_cases h : a = v
  · rw [if_pos h]
    congr 1
    simp [h]
  · rw [if_neg h]
    congr 1
    simp [h]
def befs (m : Nat) (ps : PL) : List (List Nat) := (List.range m).map (bef ps)
def afts (m : Nat) (ps : PL) : List (List Nat) := (List.range m).map (aft ps)
theorem befs_at {m v : Nat} (ps : PL) (h : v < m) : (befs m ps)[v]? = some (bef ps v) := by
  unfold befs
  rw [List.getElem?_map, List.getElem?_range h]
  rfl
theorem afts_at {m v : Nat} (ps : PL) (h : v < m) : (afts m ps)[v]? = some (aft ps v) := by
  unfold afts
  rw [List.getElem?_map, List.getElem?_range h]
  rfl
theorem set_map_range {m b : Nat} (f g : Nat → List Nat) (x : List Nat) (hx : g b = x) (hn : ∀ v, v < m → v ≠ b → g v = f v) : ((List.range m).map f).set b x = (List.range m).map g := by
  apply List.ext_getElem?
  intro j
  rw [List.getElem?_set, List.getElem?_map, List.getElem?_map, List.length_map, List.length_range]
  by_cases hj : j < m
  · rw [List.getElem?_range hj]
    by_cases e : b = j
    · subst e
      rw [if_pos rfl, if_pos hj]
      show some x = some (g b)
      rw [hx]
    · rw [if_neg e]
      show some (f j) = some (g j)
      rw [hn j hj (fun z => e z.symm)]
  · rw [List.getElem?_eq_none (by rw [List.length_range]; omega)]
    by_cases e : b = j
    · subst e
      rw [if_pos rfl, if_neg hj]
      rfl
    · rw [if_neg e]
      rfl
theorem befs_step {m a b i : Nat} {ps : PL} (h : ps[i]? = some (a, b)) : (befs m (ps.take i)).set b (bef (ps.take i) b ++ [a]) = befs m (ps.take (i + 1)) := by
  unfold befs
  refine set_map_range _ _ _ ?_ fun v hv hne => ?_
  · rw [take_more h, bef_app, if_pos rfl]
  · rw [take_more h, bef_app, if_neg (fun z => hne z.symm), List.append_nil]
theorem afts_step {m a b i : Nat} {ps : PL} (h : ps[i]? = some (a, b)) : (afts m (ps.take i)).set a (aft (ps.take i) a ++ [b]) = afts m (ps.take (i + 1)) := by
  unfold afts
  refine set_map_range _ _ _ ?_ fun v hv hne => ?_
  · rw [take_more h, aft_app, if_pos rfl]
  · rw [take_more h, aft_app, if_neg (fun z => hne z.symm), List.append_nil]
theorem befs_nil (m : Nat) : befs m [] = List.replicate m [] := by
  unfold befs
  apply List.ext_getElem?
  intro j
  rw [List.getElem?_map, List.getElem?_replicate]
  by_cases hj : j < m
  · rw [List.getElem?_range hj, if_pos hj]
    rfl
  · rw [List.getElem?_eq_none (by rw [List.length_range]; omega), if_neg hj]
    rfl
theorem afts_nil (m : Nat) : afts m [] = List.replicate m [] := by
  unfold afts
  apply List.ext_getElem?
  intro j
  rw [List.getElem?_map, List.getElem?_replicate]
  by_cases hj : j < m
  · rw [List.getElem?_range hj, if_pos hj]
    rfl
  · rw [List.getElem?_eq_none (by rw [List.length_range]; omega), if_neg hj]
    rfl
theorem bef_len (ps : PL) (v : Nat) : (bef ps v).length ≤ ps.length := by
  unfold bef
  rw [List.length_map]
  exact List.length_filter_le _ _
theorem aft_len (ps : PL) (v : Nat) : (aft ps v).length ≤ ps.length := by
  unfold aft
  rw [List.length_map]
  exact List.length_filter_le _ _
/-! ### the taken ones: a dict that holds True -/
def tk (t : List Nat) : List (Nat × Bool) := t.map fun x => (x, true)
theorem tk_keys (t : List Nat) : (tk t).map (·.1) = t := by
  unfold tk
  rw [List.map_map]
  exact List.map_id' t
theorem tk_len (t : List Nat) : (tk t).length = t.length := by unfold tk; rw [List.length_map]
theorem tk_look : ∀ (t : List Nat) (k : Nat), look (tk t) k = if t.contains k then some true else none
  | [], k => rfl
  | x :: r, k => by
    show (if x = k then some true else look (tk r) k) = _
    rw [tk_look r k, List.contains_cons]
    by_cases e : x = k
    · subst e
      simp
    · have : (k == x) = false := by simpa using fun z : k = x => e z.symm
      rw [if_neg e, this, Bool.false_or]
theorem tk_some (t : List Nat) (k : Nat) : ((look (tk t) k).map V.bl).isSome = t.contains k := by
  rw [tk_look]
  cases t.contains k <;> rfl
theorem tk_put {t : List Nat} {k : Nat} (h : k ∉ t) : put (tk t) k true = tk (t ++ [k]) := by
  rw [put_dk.put_new k true (tk t) (by rw [look_none_iff, tk_keys]; exact h)]
  unfold tk
  rw [List.map_append]
  rfl
/-- what a def hands back: None, or a new list -/
def OutL (H H' : Hp) (v : V) (r : Option (List Nat)) : Prop := match r with
  | none => v = .non
  | some l => ∃ p, v = .ref p ∧ H p = none ∧ H' p = some (.lst (l.map nV))
end KH
namespace KH
open PySem PySem.Spec PyProof.Rows L2 K02
/-! ### lists of lists that are read -/
def LR (H : Hp) (a : Addr) (bs : List (List Nat)) : Prop := ∃ as : List Addr, H a = some (.lst (as.map V.ref)) ∧ Paired (fun x l => H x = some (.lst (l.map nV))) as bs
theorem LR.same {H H' : Hp} {a : Addr} {bs : List (List Nat)} (h : LR H a bs) (s : Same H H') : LR H' a bs := by
  obtain ⟨as, h1, h2⟩ := h
  exact ⟨as, s _ _ h1, P_mono (fun _ _ e => s _ _ e) h2⟩
theorem LR.at {H : Hp} {a : Addr} {bs : List (List Nat)} (h : LR H a bs) {i : Nat} {l : List Nat} (hi : bs[i]? = some l) : ∃ (vs : List V) (x : Addr), H a = some (.lst vs) ∧ vs[i]? = some (V.ref x) ∧ H x = some (.lst (l.map nV)) := by
  obtain ⟨as, h1, h2⟩ := h
  obtain ⟨x, hx, hl⟩ := P_left h2 hi
  exact ⟨_, x, h1, getn hx, hl⟩
theorem LL.lr {H0 H : Hp} {a : Addr} {bs : List (List Nat)} (h : LL H0 H a bs) : LR H a bs := by
  obtain ⟨_, as, h1, _, _, h4⟩ := h
  exact ⟨as, h1, h4⟩
theorem OutL.same {H H1 H2 : Hp} {v : V} {r : Option (List Nat)} (h : OutL H H1 v r) (s : Same H1 H2) : OutL H H2 v r := by
  cases r with
  | none => exact h
  | some l =>
    obtain ⟨p, e, h0, hp⟩ := h
    exact ⟨p, e, h0, s _ _ hp⟩
/-- one of two, both new lists of lists: an own list of one changes -/
structure LX (H : Hp) (a : Addr) (as : List Addr) (bs : List (List Nat)) : Prop where
  top : H a = some (.lst (as.map V.ref))
  nd : as.Nodup
  na : a ∉ as
  ins : Paired (fun x l => H x = some (.lst (l.map nV))) as bs
theorem LL.lx {H0 H : Hp} {a : Addr} {bs : List (List Nat)} (h : LL H0 H a bs) : ∃ as, LX H a as bs ∧ (∀ x ∈ as, H0 x = none) := by
  obtain ⟨_, as, h1, h2, h3, h4⟩ := h
  exact ⟨as, ⟨h1, h2, fun z => (h3 a z).2 rfl, h4⟩, fun x hx => (h3 x hx).1⟩
theorem LX.same {H H' : Hp} {a : Addr} {as : List Addr} {bs : List (List Nat)} (h : LX H a as bs) (s : Same H H') : LX H' a as bs := ⟨s _ _ h.top, h.nd, h.na, P_mono (fun _ _ e => s _ _ e) h.ins⟩
theorem LX.frame {H : Hp} {a p : Addr} {o : HO} {as : List Addr} {bs : List (List Nat)} (h : LX H a as bs) (h1 : p ≠ a) (h2 : p ∉ as) : LX (upd H p o) a as bs :=
  ⟨by rw [upd_ne (Ne.symm h1)]; exact h.top, h.nd, h.na, P_monoM (fun x l hx e => by rw [upd_ne (show x ≠ p from fun z => h2 (z ▸ hx))]; exact e) h.ins⟩
theorem LX.lr {H : Hp} {a : Addr} {as : List Addr} {bs : List (List Nat)} (h : LX H a as bs) : LR H a bs := ⟨as, h.top, h.ins⟩
theorem LX.at {H : Hp} {a : Addr} {as : List Addr} {bs : List (List Nat)} (h : LX H a as bs) {i : Nat} {l : List Nat} (hi : bs[i]? = some l) : ∃ x : Addr, as[i]? = some x ∧ x ∈ as ∧ (as.map V.ref)[i]? = some (V.ref x) ∧ H x = some (.lst (l.map nV)) := by
  obtain ⟨x, hx, hl⟩ := P_left h.ins hi
  exact ⟨x, hx, List.mem_of_getElem? hx, getn hx, hl⟩
theorem P_fixA {H : Hp} {x : Addr} {m : List Nat} : ∀ {as : List Addr} {bs : List (List Nat)} {i : Nat}, as.Nodup → Paired (fun z l => (z = x → l = m) → (upd H x (.lst (m.map nV))) z = some (.lst (l.map nV))) as bs → as[i]? = some x →
      Paired (fun z l => (upd H x (.lst (m.map nV))) z = some (.lst (l.map nV))) as (bs.set i m)
    | _, _, _, _, .nil, h => by simp at h
    | _, _, 0, hn, .cons f r, h => by
      simp at h
      subst h
      obtain ⟨h1, h2⟩ := List.nodup_cons.mp hn
      refine .cons upd_same (P_monoM (fun z l hz e => e fun c => absurd (c ▸ hz) h1) r)
    | _, _, i + 1, hn, .cons f r, h => by
      obtain ⟨h1, h2⟩ := List.nodup_cons.mp hn
      have hx : _ := List.mem_of_getElem? (show _ from (by simpa using h : (_ : List Addr)[i]? = some x))
      refine .cons (f fun c => absurd (c ▸ hx) h1) (P_fixA h2 r (by simpa using h))
theorem LX.grow {H : Hp} {a x : Addr} {as : List Addr} {bs : List (List Nat)} (h : LX H a as bs) {i : Nat} (hx : as[i]? = some x) (m : List Nat) : LX (upd H x (.lst (m.map nV))) a as (bs.set i m) := by
  have hm : x ∈ as := List.mem_of_getElem? hx
  refine ⟨by rw [upd_ne (show a ≠ x from fun z => h.na (z ▸ hm))]; exact h.top, h.nd, h.na, ?_⟩
  have key : Paired (fun z l => (z = x → l = m) → (upd H x (.lst (m.map nV))) z = some (.lst (l.map nV))) as bs := P_mono (fun z l e q => by
    by_cases c : z = x
    · rw [c, upd_same, q c]
    · rw [upd_ne c]
      exact e) h.ins
  exact P_fixA h.nd key hx
end KH

/-! an own exception whose __init__ says super().__init__('text') and keeps its arguments as fields -/
namespace PySem
namespace OwX
open PySem.W PySem.Calls PyProof.Rows PySem.HandSPX
/-- the rows self.f = f -/
inductive Stores : List Stmt → List Str → Prop
  | nil : Stores [] []
  | cons {f : Str} {q1 q2 q3 q4 : Pos} {rest : List Stmt} {fs : List Str} : Stores rest fs → Stores (.Assign [.Attribute (.Name "self" q1) f q2] (.Name f q3) q4 :: rest) (f :: fs)
inductive Body : List Stmt → List Str → Prop
  | mk {text : Str} {k : Nat} {p1 p2 p3 p4 p5 p6 : Pos} {rest : List Stmt} {fs : List Str} : (p3.endLine == p5.line) = true → Stores rest fs →
      Body (.Expr (.Call (.Attribute (.Call (.Name "super" p1) [] [] p2) "__init__" p3) [.Constant (.str text) k p4] [] p5) p6 :: rest) fs
/-- what the written part says of the class at C and of its __init__, at fI -/
structure OwnTxt (P : Program) (K : Frag) (C fI : Addr) (fs : List Str) : Prop where
  cls : ∃ nm q N bs bm sn sub ab col dd k0 k1 k2 k3 k5, K.lookup C = some (excClassObj nm q C N bs bm true sn sub ab col dd k0 k1 k2 k3 k5 "ValueError.__new__") ∧ refsVE bm = true
  sa : findIn K (.ref C) "__setattr__" = some (some (.builtin "object.__setattr__"))
  ga : findIn K (.ref C) "__getattribute__" = some (some (.builtin "BaseException.__getattribute__"))
  gg : findIn K (.ref C) "__getattr__" = some none
  noN : ∀ f ∈ fs, findIn K (.ref C) f = some none
  iC : findIn K (.ref C) "__init__" = some (some (.ref fI))
  tC : typeIn K (.ref fI) = some (.type "function")
  kC : keepIn K (.ref C) = true
  exC : subIn K (.ref C) (.type "BaseException") = some true
  tyC : typeIn K (.ref C) = some (.type "type")
  hdC : hasDictIn K C = true
  veC : subIn K (.ref C) (.type "ValueError") = some true
  spC : mroIn K C (.ref C) = some true
  suC : ks_superIn K C C "__init__" = some (some (.builtin "ValueError.__init__"))
  noO : nsIn K cStatics "thirdparty.any" = some none
  noS : nsIn K mainGlobals "super" = some none
  top : (P.main.scope.names.lookup ("super" : Str)).isSome = false
  few : fs.length ≤ 900
  fn : ∃ (oc : Value) (od : Option Addr) (name qual : Str) (params : Arguments) (body : List Stmt) (scope : Scope) (dV kV doc pm : Value) (an : Option Addr) (cda cc : Addr) (ct : Value) (osl : Array (Option Value))
      (ar : Arg) (ccl : Value) (cdd : Option Addr) (vs : Array Value) (ccs : Array (Option Value)) (file : Str) (tf : Tok) (cl : Value) (cld : Option Addr) (csl : Array (Option Value)),
    K.lookup fI = some ⟨oc, od, .func (ksFn name qual params body scope dV kV doc pm an (.ref cda) ct cc), osl⟩ ∧ codeIn K (.ref cda) qual = true ∧ Body body fs ∧
    (params.posonlyargs ++ params.args).head? = some ar ∧ ar.arg = "self" ∧
    K.lookup cda = some ⟨ccl, cdd, .fields vs, ccs⟩ ∧ vs[2]? = some (.str file tf) ∧ ((P.main.file : Str) == file) = true ∧ K.lookup cc = some ⟨cl, cld, .cell (some (.ref C)), csl⟩ ∧
    scope.names.lookup ("super" : Str) = some .globalImplicit ∧ scope.names.lookup ("__class__" : Str) = some .free ∧ (∀ y ∈ ("self" : Str) :: fs, scope.names.lookup y = some .local) ∧
    (∀ x ∈ scope.names, x.2 ≠ .cell) ∧ scope.kind = .function ∧ scope.isCoroutine = false ∧ scope.isGenerator = false ∧
    ∀ (s : Shared) (us : List Value), us.length = fs.length + 1 → BindsTo s (ksFn name qual params body scope dV kV doc pm an (.ref cda) ct cc) ⟨us, []⟩ ((("self" : Str) :: fs).zip us)
abbrev excD (C : Addr) (dx : Option Addr) (t1 : Addr) : Obj := { cls := .ref C, dict := dx, data := .fields #[.ref t1, .none, .none, .none, .bool false, .none] }
/-- the fields, the last first -/
def fld (l : List (Str × Value)) : Str → Option Value := fun y => l.lookup y
theorem fld_cons {n : Str} {v : Value} {l : List (Str × Value)} : fld ((n, v) :: l) = fun y => if y = n then some v else fld l y := by
  funext y
  unfold fld
  by_cases e : y = n
  · subst e
    simp [List.lookup]
  · have e' : (y == n) = false := by simpa using e
    rw [if_neg e]
    simp [List.lookup, e']
theorem fld_nil : fld [] = fun _ => none := rfl
theorem fld_within (l : List (Str × Value)) : Within (fld l) (l.map (·.1)) := by
  induction l with
  | nil => exact Within.nil
  | cons a l ih =>
    obtain ⟨n, v⟩ := a
    rw [fld_cons]
    exact Within.cons n v ih
/-- what __init__ leaves of a fresh exception at x -/
structure InitEnd (h h' : Heap) (x C dx t1 : Addr) (l : List (Str × Value)) : Prop where
  keep : ∀ b o, b ≠ x → h.get? b = some o → h'.get? b = some o
  obj : h'.get? x = some (excD C (some dx) t1)
  dbig : h.objs.size ≤ dx
  dne : dx ≠ x
  ns : h'.Ns1 dx (fld l)
section
variable {prog : Program} {w : World} {A : Around} {E : Value → Shared → Prop} {R : Result → Shared → Prop} {s : Shared} {K : Frag} {mg mb : Str → Option Value} {C fI : Addr} {fs : List Str}
/-- ValueError.__init__ bound to the instance, called -/
theorem call_mw {h : Heap} {g : Array GenState} {d : Drawn} {t : Nat} {os : OsState} {nm q : Str} {N : Addr} {bs bm : List Value} {hdct : Bool} {sn : List Str} {sub : List Value} {ab : Bool} {col : Option Bool} {dd : Option Addr} {k0 k1 k2 k3 k5 : Option Value}
    {u e t0 : Addr} {rest : List Value} {Q : Value → Shared → Prop}
    (hC : h.get? C = some (excClassObj nm q C N bs bm hdct sn sub ab col dd k0 k1 k2 k3 k5 "ValueError.__new__")) (he : h.get? e = some (excD C none t0)) (hu : h.get? u = some (kxs_mw "ValueError.__init__" e)) (hrest : rest.length ≤ sizeLine)
    (hq : ∀ h' t1, (∀ b o, b ≠ e → h.get? b = some o → h'.get? b = some o) → h'.get? e = some (excD C none t1) → Q .none ⟨h', g, d, t, os⟩) :
    wpAny (model prog w) A (call (.ref u) rest) Q E ⟨h, g, d, t, os⟩ := by
  refine wpAny_call (codeAny_of_tree ?_)
  show wpAny _ A.in1 (callAny (.ref u) ⟨rest, []⟩) _ _ _
  simp only [callAny]
  refine wpAny_bind (wpAny_load hu ?_)
  simp only [kxs_mw, show (Value.type "method-wrapper" == Value.type "method" || Value.type "method-wrapper" == Value.type "builtin_function_or_method" || Value.type "method-wrapper" == Value.type "method-wrapper") = true by decide, if_true]
  refine KFB.if_so (by decide) ?_
  refine wpAny_bind (check_bound_init F.excBase_ValueError.toExcCallFacts hC he rfl ?_)
  refine wpAny_bind (wpAny_pure (wpAny_pure ?_))
  refine ⟨plainId_quiet F.excBase_ValueError.init.plain _, codeAny_builtin F.excBase_ValueError.initEntry ?_⟩
  exact exc_init_tree (cls := .ref C) (t0 := t0) (dv := none) (c2 := .none) (c3 := .none) (b4 := .bool false) he hrest fun h' k e' _ => hq h' _ k e'
theorem in_but {h h' : Heap} {x : Addr} (X : K.In h) (hx : K.lookup x = none) (k : ∀ b o, b ≠ x → h.get? b = some o → h'.get? b = some o) : K.In h' := fun a o e =>
  k a o (fun z => by rw [z, hx] at e; cases e) (X a o e)
theorem out_of {h : Heap} {a : Addr} (X : K.In h) (ha : h.objs.size ≤ a) : K.lookup a = none := by
  cases e : K.lookup a with
  | none => rfl
  | some o => exact absurd (Heap.lt_size (X _ _ e)) (Nat.not_lt.mpr ha)
theorem ns_but {h h' : Heap} {x L : Addr} {m : Str → Option Value} (n : h.Ns L m) (hx : L ≠ x) (k : ∀ b o, b ≠ x → h.get? b = some o → h'.get? b = some o) : h'.Ns L m := by
  obtain ⟨oL, es, ep, hL, r⟩ := n
  exact ⟨oL, es, ep, k _ _ hx hL, r⟩
theorem ldF {M : Model} {env : Env} {m : Str → Option Value} {x : Str} {pos : Pos} {v : Value} {Q : Value → Shared → Prop} (hk : env.scope.kind = .function) (hl : env.scope.names.lookup x = some .local) (hn : s.heap.Ns env.locals m) (hv : m x = some v) (h : Q v s)
    (hd : (x == ("__debug__" : Str)) = false) : wpAny M A (eval (.Name x pos) env) Q E s := wpAny_Name (wpAny_loadName_local hk hl hn hv h) hd
/-- the further stores -/
theorem stores_old {P : Program} (T : OwnTxt P K C fI fs) {env : Env} {m : Str → Option Value} {x dx t1 : Addr} {Q : Flow → Shared → Prop} (hk : env.scope.kind = .function) (hself : env.scope.names.lookup ("self" : Str) = some .local) (hms : m "self" = some (.ref x)) (hx : K.lookup x = none) (hdx : K.lookup dx = none) (hL : env.locals ≠ dx) (hxd : x ≠ dx) {body : List Stmt} {gs : List Str} (S : Stores body gs) :
    ∀ {s : Shared} {l : List (Str × Value)} {vs : List Value}, K.In s.heap → s.heap.Ns env.locals m → s.heap.get? x = some (excD C (some dx) t1) → s.heap.Ns1 dx (fld l) → l.length + gs.length ≤ 900 →
      gs.length = vs.length → (∀ p ∈ gs.zip vs, m p.1 = some p.2) → (∀ f ∈ gs, env.scope.names.lookup f = some .local ∧ findIn K (.ref C) f = some none ∧ (f == ("__debug__" : Str)) = false) →
      (∀ h' tk, (∀ b o, b ≠ dx → s.heap.get? b = some o → h'.get? b = some o) → h'.Ns1 dx (fld ((gs.zip vs).reverse ++ l)) → Q .next { s with heap := h', toks := tk }) →
      wpAny (model prog w) A (execs body env) Q E s := by
  induction S with
  | nil =>
    intro s l vs X hn ho hd hl hlen hm hf hq
    obtain ⟨hp, g, d, t, os⟩ := s
    exact wpAny_execs_nil (hq hp t (fun _ _ _ e => e) hd)
  | @cons f q1 q2 q3 q4 rest fs' S ih =>
    intro s l vs X hn ho hd hl hlen hm hf hq
    cases vs with
    | nil => simp at hlen
    | cons v vs =>
      obtain ⟨nm, q, N, bs, bm, sn, sub, ab, col, dd, k0, k1, k2, k3, k5, hC, hbm⟩ := T.cls
      have hcl : clsIn K C = some { name := nm, bases := bs, mro := .ref C :: bm, ns := N, qualname := q, hasDict := true, slotNames := sn, subclasses := sub, abstract := ab, collection := col, hasDel := false } := by unfold clsIn; rw [hC] <;> rfl
      obtain ⟨f1, f2, f3⟩ := hf f List.mem_cons_self
      refine wpAny_execs_cons (plainObj_wpAny_Assign_Attribute ?_)
      refine ldF (v := v) hk f1 hn (hm (f, v) (by simp)) (ldF (v := .ref x) hk hself hn hms ?_ (by decide)) f3
      obtain ⟨hp, g, d, t, os⟩ := s
      obtain ⟨oD, esD, epD, hoD, hdD⟩ : ∃ oD, ∃ _ : True, ∃ _ : True, hp.get? dx = some oD ∧ True := by
        obtain ⟨o, es, ep, e, r⟩ := hd
        exact ⟨o, trivial, trivial, e, trivial⟩
      refine set_plain X (ox := excD C (some dx) t1) (od := some oD) ⟨ho, rfl, rfl, hoD⟩ T.sa ?_
      refine OEX.osa_old X ho hd (fld_within l) (by rw [List.length_map]; omega) hcl (show refsVE (.ref C :: bm) = true from hbm) rfl f2 (fun h' tk' k hn' => ?_)
      rw [← fld_cons] at hn'
      refine ih (s := ⟨h', g, d, tk', os⟩) (l := (f, v) :: l) (vs := vs) (in_but X hdx k) (ns_but hn hL k) (k _ _ hxd ho) hn' (by simp at hl ⊢; omega) (by simpa using hlen) (fun p hp => hm p (by simp [hp])) (fun y hy => hf y (List.mem_cons_of_mem _ hy)) ?_
      intro h2 tk2 k2 hn2
      refine hq h2 tk2 (fun b o hb e => k2 b o hb (k b o hb e)) ?_
      have e : ((f :: fs').zip (v :: vs)).reverse ++ l = (fs'.zip vs).reverse ++ (f, v) :: l := by simp
      rw [e]
      exact hn2
/-- all the stores -/
theorem stores_new {P : Program} (T : OwnTxt P K C fI fs) {env : Env} {m : Str → Option Value} {x t1 : Addr} {Q : Flow → Shared → Prop} (hk : env.scope.kind = .function) (hself : env.scope.names.lookup ("self" : Str) = some .local) (hms : m "self" = some (.ref x)) (hx : K.lookup x = none) (hLx : env.locals ≠ x) {body : List Stmt} {gs : List Str} (S : Stores body gs)
    {s : Shared} {vs : List Value} (X : K.In s.heap) (hn : s.heap.Ns env.locals m) (ho : s.heap.get? x = some (excD C none t1)) (hl : gs.length ≤ 900) (h0 : gs ≠ [])
      (hlen : gs.length = vs.length) (hm : ∀ p ∈ gs.zip vs, m p.1 = some p.2) (hf : ∀ f ∈ gs, env.scope.names.lookup f = some .local ∧ findIn K (.ref C) f = some none ∧ (f == ("__debug__" : Str)) = false)
      (hq : ∀ h' tk dx, InitEnd s.heap h' x C dx t1 ((gs.zip vs).reverse) → Q .next { s with heap := h', toks := tk }) :
      wpAny (model prog w) A (execs body env) Q E s := by
  cases S with
  | nil => exact absurd rfl h0
  | @cons f q1 q2 q3 q4 rest fs' S =>
    cases vs with
    | nil => simp at hlen
    | cons v vs =>
      obtain ⟨nm, q, N, bs, bm, sn, sub, ab, col, dd, k0, k1, k2, k3, k5, hC, hbm⟩ := T.cls
      have hcl : clsIn K C = some { name := nm, bases := bs, mro := .ref C :: bm, ns := N, qualname := q, hasDict := true, slotNames := sn, subclasses := sub, abstract := ab, collection := col, hasDel := false } := by unfold clsIn; rw [hC] <;> rfl
      obtain ⟨f1, f2, f3⟩ := hf f List.mem_cons_self
      refine wpAny_execs_cons (plainObj_wpAny_Assign_Attribute ?_)
      refine ldF (v := v) hk f1 hn (hm (f, v) (by simp)) (ldF (v := .ref x) hk hself hn hms ?_ (by decide)) f3
      obtain ⟨hp, g, d, t, os⟩ := s
      refine set_plain X (ox := excD C none t1) (od := none) ⟨ho, rfl, rfl, trivial⟩ T.sa ?_
      refine exc_osa X ho hcl (show refsVE (.ref C :: bm) = true from hbm) rfl f2 (fun h₃ tk₃ dx k₃ dn dne hx₃ hn₃ => ?_)
      have hn' : h₃.Ns1 dx (fld [(f, v)]) := by
        rw [fld_cons, fld_nil]
        exact hn₃
      have hLd : env.locals ≠ dx := Nat.ne_of_lt (Nat.lt_of_lt_of_le hn.lt dn)
      refine stores_old T hk hself hms hx (out_of X dn) hLd (Ne.symm dne) S (s := ⟨h₃, g, d, tk₃, os⟩) (l := [(f, v)]) (vs := vs) (in_but X hx k₃) (ns_but hn hLx k₃) hx₃ hn' (by simp at hl ⊢; omega) (by simpa using hlen) (fun p hp => hm p (by simp [hp])) (fun y hy => hf y (List.mem_cons_of_mem _ hy)) ?_
      intro h2 tk2 k2 hn2
      refine hq h2 tk2 dx ⟨fun b o hb e => ?_, k2 _ _ (Ne.symm dne) hx₃, dn, dne, ?_⟩
      · exact k2 b o (fun z => absurd (Heap.lt_size e) (by rw [z]; exact Nat.not_lt.mpr dn)) (k₃ b o hb e)
      · have e : ((f :: fs').zip (v :: vs)).reverse = (fs'.zip vs).reverse ++ [(f, v)] := by simp
        rw [e]
        exact hn2
theorem zip_look {ks : List Str} {us : List Value} (hn : ks.Nodup) (hl : ks.length = us.length) : ∀ p ∈ ks.zip us, (ks.zip us).reverse.lookup p.1 = some p.2 := by
  have key : ∀ {l : List (Str × Value)}, (l.map (·.1)).Nodup → ∀ (k : Str) (v : Value), (k, v) ∈ l → l.lookup k = some v := by
    intro l
    induction l with
    | nil => intro _ k v hp; cases hp
    | cons a l ih =>
      intro hn k v hp
      rw [List.map_cons, List.nodup_cons] at hn
      obtain ⟨k', v'⟩ := a
      rcases List.mem_cons.mp hp with e | hp
      · cases e
        simp [List.lookup]
      · have ne : k ≠ k' := fun e => hn.1 (List.mem_map.mpr ⟨(k, v), hp, e⟩)
        have ne' : (k == k') = false := by simpa using ne
        simp only [List.lookup, ne']
        exact ih hn.2 k v hp
  intro p hp
  refine key ?_ p.1 p.2 (List.mem_reverse.mpr hp)
  rw [List.map_reverse]
  refine (List.reverse_perm _).nodup_iff.mpr ?_
  rw [List.map_fst_zip (by omega)]
  exact hn
theorem super_call {env : Env} {text : Str} {k : Nat} {p1 p2 p3 p4 p5 : Pos} (hp : (p3.endLine == p5.line) = true) :
    eval (.Call (.Attribute (.Call (.Name "super" p1) [] [] p2) "__init__" p3) [.Constant (.str text) k p4] [] p5) env = (do
      let ov ← attributeBase (.Call (.Name "super" p1) [] [] p2) "__init__" env (eval (.Call (.Name "super" p1) [] [] p2) env)
      standAt p3.atName
      let (f, first) ← holding [ov] (getMethod ov "__init__" (do return (← importBound (.Call (.Name "super" p1) [] [] p2) env).getD true))
      callWith p5 f first (backTo p5 (starEach [.Constant (.str text) k p4] env)) []) := by
  show (do
      let ov ← attributeBase (.Call (.Name "super" p1) [] [] p2) "__init__" env (eval (.Call (.Name "super" p1) [] [] p2) env)
      standAt p3.atName
      methodCall (.Call (.Name "super" p1) [] [] p2) "__init__" p3 p5 env ov 1 (backTo p5 (starEach [.Constant (.str text) k p4] env)) []) = _
  have few : methodCallForm 1 (backTo p5 (starEach [.Constant (.str text) k p4] env)) [] = true := rfl
  unfold methodCall methodCallPos calleeOf
  rw [few]
  simp only [hp, Bool.not_true, Bool.false_or, if_true, pure_bind]
/-- the whole __init__ -/
theorem own_init {P : Program} (T : OwnTxt P K C fI fs) (hp : prog = P) (hnd : (("self" : Str) :: fs).Nodup) (hdb : ∀ f ∈ fs, (f == ("__debug__" : Str)) = false) (h0 : fs ≠ []) {x t0 : Addr} {us : List Value} (hus : us.length = fs.length) (X : K.In s.heap) (hlim : s.heap.NoLimit) (hG : s.heap.Ns mainGlobals mg) (hgs : mg "super" = none)
    (hB : s.heap.Ns builtinsNs mb) (hbs : mb "super" = some (.type "super")) (hx : s.heap.get? x = some (excD C none t0)) (hnx : K.lookup x = none) (hroom : A.depth < recursionLimit)
    (hq : ∀ h' tk dx t1, InitEnd s.heap h' x C dx t1 ((fs.zip us).reverse) → R (.ok (.ret .none)) { s with heap := h', toks := tk }) :
    codeAny (model prog w) A (.call (.ref fI) ⟨.ref x :: us, []⟩) R s := by
  subst hp
  obtain ⟨oc, od, name, qual, params, body, scope, dV, kV, doc, pm, an, cda, cc, ct, osl, ar, ccl, cdd, vs, ccs, file, tf, cl, cld, csl, ho, hcd, hbody, har, hars, hcode, hvs, hfile, hcell, ksu, kcl, klo, hnc, hk, hco, hgen, hbind⟩ := T.fn
  obtain ⟨nm, q, N, bs, bm, sn, sub, ab, col, dd, k0, k1, k2, k3, k5, hC, hbm⟩ := T.cls
  have hcl : clsIn K C = some { name := nm, bases := bs, mro := .ref C :: bm, ns := N, qualname := q, hasDict := true, slotNames := sn, subclasses := sub, abstract := ab, collection := col, hasDel := false } := by unfold clsIn; rw [hC] <;> rfl
  have hzl : ∀ p ∈ (("self" : Str) :: fs).zip (Value.ref x :: us), ((("self" : Str) :: fs).zip (Value.ref x :: us)).reverse.lookup p.1 = some p.2 := zip_look hnd (by simp [hus])
  refine ks_codeAny_call_defAt (fd := ksFn name qual params body scope dV kV doc pm an (.ref cda) ct cc) (body := body) (binds := (("self" : Str) :: fs).zip (Value.ref x :: us)) hroom (X _ _ ho) rfl hlim (codeRec_of X hcd) rfl (hbind s _ (by simp [hus])) hnc
    (fun p hp => klo p.1 (List.of_mem_zip (a := p.1) (b := p.2) hp).1) (fun h₁ hn k => ?_) hco hgen hk
  obtain ⟨hp, g, d, t, os⟩ := s
  have hxL : hp.objs.size ≠ x := Nat.ne_of_gt (Heap.lt_size hx)
  have X₁ : K.In h₁ := X.keeps k
  have hx₁ := k _ _ hx
  cases hbody with
  | @mk text kk p1 p2 p3 p4 p5 p6 rest fs' hpos S =>
  have hE : callEnv (ksFn name qual params (.Expr (.Call (.Attribute (.Call (.Name "super" p1) [] [] p2) "__init__" p3) [.Constant (.str text) kk p4] [] p5) p6 :: rest) scope dV kV doc pm an (.ref cda) ct cc) hp.objs.size fI = ksEnv qual scope hp.objs.size fI (.ref cda) cc := rfl
  rw [hE]
  refine ks_wpAt_execs_cons (ks_wpAt_Expr_any (ks_wpAt_MethodCall ?_ (super_call hpos)) (by simp [interactive, ksEnv, envX, hk]))
  refine ks_wpAt_super_base (env := ksEnv qual scope hp.objs.size fI (.ref cda) cc) ksu kcl (by decide) rfl (X₁ _ _ ho) rfl har rfl (X₁ _ _ hcode) rfl hvs hfile T.top ?_
  refine ks_loadName_global hk ksu (loadGlobal_builtin (env := ksEnv qual scope hp.objs.size fI (.ref cda) cc) (hG.keeps k) hgs (hB.keeps k) hbs ⟨rfl, ?_⟩)
  refine wpAny_loadName_free hk kcl rfl ⟨_, X₁ _ _ hcell, rfl⟩ ?_
  rw [hars]
  refine wpAny_loadName_local hk (klo _ List.mem_cons_self) hn (v := .ref x) (hzl ("self", .ref x) (by simp)) ?_
  have hC₁ := X₁ _ _ hC
  have I₁ : InstAt h₁ x (excD C none t0) C none := ⟨hx₁, rfl, rfl, trivial⟩
  refine ks_wpAny_isType_cls hC₁ rfl ⟨rfl, ?_⟩
  refine ks_wpAny_call_super hC₁ rfl hx₁ rfl (fun c e => by cases e) (looks_mroIn X₁ T.spC) (fun h₂ e₂ k₂ => ?_)
  have X₂ : K.In h₂ := X₁.keeps k₂
  have hx₂ := k₂ _ _ hx₁
  have I₂ : InstAt h₂ x (excD C none t0) C none := ⟨hx₂, rfl, rfl, trivial⟩
  have hm : alongIn K "__init__" (((Value.ref C :: bm).dropWhile (· != .ref C)).drop 1) = some (some (.builtin "ValueError.__init__")) := by
    have := T.suC
    unfold ks_superIn at this
    rw [hcl] at this
    exact this
  refine kxs_getMethod (l₀ := .ref C :: bm) kxs_ValueError e₂ (looks_opaque X₂ T.noO) (fun A Q E s k q => wpAny_bind ((looks_clsIn X₂ hcl) A _ E s k (wpAny_pure q))) rfl X₂ hm (I₂.type.andThen (looks_subIn X₂ T.veC)) (ks_ne X₂ I₂ (by exact hcl)) (by decide) ?_
  have e₃ : (h₂.push (kxs_mw "ValueError.__init__" x)).get? h₂.objs.size = some (kxs_mw "ValueError.__init__" x) := Heap.get?_push_size _ rfl
  have k₃ : ∀ b o, h₂.get? b = some o → (h₂.push (kxs_mw "ValueError.__init__" x)).get? b = some o := fun b o e => Heap.get?_push_of_some _ e
  refine kxs_callWith (i := "ValueError.__init__") (x := x) rfl (evalArgs_plain (spliced_cons ?_))
  refine wpAny_Constant_str (k := kk) (pos := p4) (spliced_nil ⟨e₃, ?_⟩)
  refine call_mw (k₃ _ _ (X₂ _ _ hC)) (k₃ _ _ hx₂) e₃ (by rw [sizeLine_eq]; exact (by decide : 1 ≤ 16777216)) (fun h₄ t₁ k₄ hx₄ => ?_)
  have kk4 : ∀ b o, b ≠ x → h₁.get? b = some o → h₄.get? b = some o := fun b o hb e => k₄ b o hb (k₃ _ _ (k₂ _ _ e))
  show wpAt _ _ _ (execs rest (ksEnv qual scope hp.objs.size fI (.ref cda) cc)) _ _ _
  refine wpAt_of_wpAny ?_
  refine stores_new (s := ⟨h₄, _, _, _, _⟩) T (env := ksEnv qual scope hp.objs.size fI (.ref cda) cc) hk (klo _ List.mem_cons_self) (hzl ("self", .ref x) (by simp)) hnx hxL S (vs := us) (in_but X₁ hnx kk4) (ns_but hn hxL kk4) hx₄ T.few h0 hus.symm (fun p hp => hzl p (by simp [hp]))
    (fun f hf => ⟨klo f (List.mem_cons_of_mem _ hf), T.noN f hf, hdb f hf⟩) ?_
  intro h' tk dx E
  refine hq h' tk dx t₁ ⟨fun b o hb e => E.keep b o hb (kk4 b o hb (k b o e)), E.obj, ?_, E.dne, E.ns⟩
  have hL4 : hp.objs.size < h₄.objs.size := (ns_but hn hxL kk4).lt
  exact Nat.le_trans (Nat.le_of_lt hL4) E.dbig
/-- a made exception -/
structure OwnMade (h h' : Heap) (e C d : Addr) (l : List (Str × Value)) : Prop where
  keep : ∀ b o, h.get? b = some o → h'.get? b = some o
  new : h.objs.size ≤ e
  obj : ∃ oe vs, h'.get? e = some oe ∧ oe.cls = .ref C ∧ oe.dict = some d ∧ oe.data = .fields vs ∧ vs[1]? = some .none
  dbig : h.objs.size ≤ d
  dne : d ≠ e
  ns : h'.Ns1 d (fld l)
theorem own_made {P : Program} (T : OwnTxt P K C fI fs) (hp : prog = P) (hnd : (("self" : Str) :: fs).Nodup) (hdb : ∀ f ∈ fs, (f == ("__debug__" : Str)) = false) (h0 : fs ≠ []) {us : List Value} (hus : us.length = fs.length) (X : K.In s.heap) (hlim : s.heap.NoLimit) (hG : s.heap.Ns mainGlobals mg) (hgs : mg "super" = none)
    (hB : s.heap.Ns builtinsNs mb) (hbs : mb "super" = some (.type "super")) (hroom : A.depth + 1 < recursionLimit)
    (hq : ∀ h' tk e d, OwnMade s.heap h' e C d ((fs.zip us).reverse) → R (.ok (.ret (.ref e))) { s with heap := h', toks := tk }) :
    codeAny (model prog w) A (.call (.ref C) ⟨us, []⟩) R s := by
  obtain ⟨nm, q, N, bs, bm, sn, sub, ab, col, dd, k0, k1, k2, k3, k5, hC, hbm⟩ := T.cls
  obtain ⟨hp', g, dr, tk, os⟩ := s
  have hsz : us.length ≤ sizeLine := by
    have := T.few
    rw [sizeLine_eq]
    omega
  have k : ∀ b o, hp'.get? b = some o → ((hp'.push (kdv_tup us)).push (excO C hp'.objs.size)).get? b = some o := fun b o e => Heap.get?_push_of_some _ (Heap.get?_push_of_some _ e)
  have hget : ((hp'.push (kdv_tup us)).push (excO C hp'.objs.size)).get? (hp'.objs.size + 1) = some (excO C hp'.objs.size) := by heap_get
  have hnx : K.lookup (hp'.objs.size + 1) = none := out_of X (Nat.le_succ _)
  refine call_own F.excBase_ValueError (fun X => refsVE_contains X bm hbm) (X _ _ hC) (looks_findIn X T.iC) (fun self => bind_fn X self T.tC) hsz ?_
  refine own_init (s := ⟨(hp'.push (kdv_tup us)).push (excO C hp'.objs.size), g, dr, tk, os⟩) T hp hnd hdb h0 hus (X.keeps k) (hlim.keeps k) (hG.keeps k) hgs (hB.keeps k) hbs hget hnx ?_ fun h' tk' dx t1 ⟨k', hx, dn, dne, hns⟩ => ?_
  · show A.depth + 1 < recursionLimit
    exact hroom
  · have old : ∀ b o, hp'.get? b = some o → h'.get? b = some o := fun b o e => k' b o (Nat.ne_of_lt (Nat.lt_succ_of_lt (Heap.lt_size e))) (k b o e)
    have z : hp'.objs.size + 1 + 1 ≤ dx := by
      first
        | (simpa only [Heap.size_push] using dn)
        | exact dn
        | (have q := dn; rw [Heap.size_push, Heap.size_push] at q; exact q)
    exact ⟨rfl, hq h' tk' (hp'.objs.size + 1) dx ⟨old, Nat.le_succ _, ⟨_, _, hx, rfl, rfl, rfl, rfl⟩, Nat.le_trans (Nat.le_trans (Nat.le_succ _) (Nat.le_succ _)) z, dne, hns⟩⟩
end
end OwX
end PySem
namespace L2
open PySem PySem.Spec PyProof.Rows
theorem relO_fld : ∀ {fs : List Str} {vs : List V} {us : List Value}, Vals vs us → ∀ f, RelO (List.lookup f ((fs.zip vs).reverse)) (PySem.OwX.fld ((fs.zip us).reverse) f) := by
  have key : ∀ {l : List (Str × V)} {l' : List (Str × Value)}, Paired (fun a b => a.1 = b.1 ∧ RelV a.2 b.2) l l' → ∀ f, RelO (List.lookup f l) (PySem.OwX.fld l' f) := by
    intro l l' h f
    unfold PySem.OwX.fld
    induction h with
    | nil => trivial
    | @cons a b l l' r _ ih =>
      obtain ⟨n, v⟩ := a
      obtain ⟨n', v'⟩ := b
      obtain ⟨e, rv⟩ := r
      have e' : n = n' := e
      subst e'
      cases c : (f == n) with
      | true => simp only [List.lookup, c]; exact rv
      | false => simp only [List.lookup, c]; exact ih
  intro fs vs us h f
  refine key ?_ f
  have z : ∀ {fs : List Str} {vs : List V} {us : List Value}, Vals vs us → Paired (fun (a : Str × V) (b : Str × Value) => a.1 = b.1 ∧ RelV a.2 b.2) (fs.zip vs) (fs.zip us) := by
    intro fs vs us h
    induction h generalizing fs with
    | nil => cases fs <;> exact .nil
    | cons r _ ih =>
      cases fs with
      | nil => exact .nil
      | cons f fs => exact .cons ⟨rfl, r⟩ ih
  have rv : ∀ {l : List (Str × V)} {l' : List (Str × Value)}, Paired (fun (a : Str × V) (b : Str × Value) => a.1 = b.1 ∧ RelV a.2 b.2) l l' → ∀ {k k'}, Paired (fun (a : Str × V) (b : Str × Value) => a.1 = b.1 ∧ RelV a.2 b.2) k k' →
      Paired (fun (a : Str × V) (b : Str × Value) => a.1 = b.1 ∧ RelV a.2 b.2) (l.reverseAux k) (l'.reverseAux k') := by
    intro l l' h
    induction h with
    | nil => intro k k' hk; exact hk
    | cons r _ ih => intro k k' hk; exact ih (.cons r hk)
  exact rv (z h) .nil
section
variable {X : Cx} {C fI : Addr} {fs : List Str} {x : Str}
/-- C(e, ..): the exception's own dict d, new, holds the fields -/
def tMkOwnS (C : Addr) (fs : List Str) (ta : TA) : St → Hp → XK → Prop := fun σ H Q => ta σ H fun vs H1 => vs.length = fs.length ∧ ∀ d, H1 d = none → Q (.ref C) (some d) (upd H1 d (.xd ((fs.zip vs).reverse)))
theorem pmk_ownS {a : Expr} {as : List Expr} {ta : TA} {p pos : Pos} {k : Nat} (T : PySem.OwX.OwnTxt X.prog X.K C fI fs) (hm : X.mg x = some (.ref C)) (hs : X.mg "super" = none) (hnd : (("self" : Str) :: fs).Nodup) (hdb : ∀ f ∈ fs, (f == ("__debug__" : Str)) = false) (h0 : fs ≠ []) (hr : Room k X.A) (ha : PA X (a :: as) ta) (hg : Gl X x)
    (hdx : (x == ("__debug__" : Str)) = false := by decide) (he : starEach (a :: as) X.env = (false, eval a X.env) :: starEach as X.env := by rfl) (hpl : (backTo pos (starEach as X.env)).any (·.1) = false := by rfl) :
    PMk X (.Call (.Name x p) (a :: as) [] pos) (tMkOwnS C fs ta) := by
  intro pins s σ H Q I h
  refine wpAny_Call_Name_kw (ld_glob I hg hm ?_ hdx)
  refine PySem.W.callWith_K (h₀ := X.base) I.ok.mod.kin T.kC (thn (ha.run pos pins s σ H _ I h) fun us s1 hh => ?_) he hpl
  obtain ⟨vs, H1, I1, r1, el, q1⟩ := hh
  refine ⟨I1.kIn, ?_⟩
  show wpAny _ _ (call (.ref C) us) _ _ _
  have hlim := I1.nolimit
  obtain ⟨mb, b1, b2⟩ := I1.mod.blt
  have hG := I1.mod.glob.keeps I1.bk
  have hB := b1.keeps I1.bk
  have hus : us.length = fs.length := by rw [← el]; exact (Paired.length r1).symm
  obtain ⟨hp, g, dr, tk, os⟩ := s1
  refine wpAny_call (PySem.OwX.own_made T rfl hnd hdb h0 hus I1.kIn hlim hG hs hB ((b2 "super" (by decide)).trans (by first | rfl | decide +kernel | kernel_rfl)) (by have := hr.dp; omega) fun h' tk' e d M => ?_)
  show MkP X pins σ Q (.ref e) ⟨h', g, dr, tk', os⟩
  obtain ⟨oe, fv, hoe, hc, hd, hdat, h1⟩ := M.obj
  have hns := M.ns
  obtain ⟨G', g1, g2⟩ := restrict h' fun b => decide (b ≠ e)
  have gk : ∀ b, b ≠ e → G'.get? b = h'.get? b := fun b hb => g1 b (decide_eq_true hb)
  have ge : G'.get? e = none := g2 e (by simp)
  have old : ∀ b o, hp.get? b = some o → G'.get? b = some o := fun b o q => (gk b (Nat.ne_of_lt (Nat.lt_of_lt_of_le (Heap.lt_size q) M.new))).trans (M.keep b o q)
  have ob : ObjOk X.prog X.w (upd H1 d (.xd ((fs.zip vs).reverse))) G' d (.xd ((fs.zip vs).reverse)) :=
    ⟨_, hns.at (fun o q => (gk d M.dne).trans q), fun f => relO_fld r1 f⟩
  have J : Inv X pins σ (upd H1 d (.xd ((fs.zip vs).reverse))) ⟨G', g, dr, tk', os⟩ := I1.laid (t' := tk') old M.dbig ob
  refine ⟨e, oe, fv, ⟨G', g, dr, tk', os⟩, _, .ref C, some d, rfl, J, fun b o q => ?_, ge, hoe, ⟨hc, hd⟩, hdat, h1, ?_, rfl, I1.bare, raises_own T.exC T.tyC, q1 d (I1.hok.fresh M.dbig)⟩
  · by_cases hb : b = e
    · have q' : G'.get? b = some o := q
      rw [hb, ge] at q'; cases q'
    · exact (gk b hb).symm.trans q
  · rw [upd_ne (Ne.symm M.dne)]
    exact I1.hok.fresh M.new
/-- raise C(e, ..) -/
def tRaiseOwnS (C : Addr) (fs : List Str) (W : WX) (ta : TA) : TS := fun _ σ H => tMkOwnS C fs ta σ H fun cls d H' => W cls d σ H'
theorem ps_raiseOwnS {a : Expr} {as : List Expr} {ta : TA} {W : WX} {p pos pos2 : Pos} {k : Nat} (hc : X.calm = true) (T : PySem.OwX.OwnTxt X.prog X.K C fI fs) (hm : X.mg x = some (.ref C)) (hs : X.mg "super" = none) (hnd : (("self" : Str) :: fs).Nodup) (hdb : ∀ f ∈ fs, (f == ("__debug__" : Str)) = false) (h0 : fs ≠ []) (hr : Room k X.A) (tk : Takes X W) (ha : PA X (a :: as) ta) (hg : Gl X x)
    (hdx : (x == ("__debug__" : Str)) = false := by decide) (he : starEach (a :: as) X.env = (false, eval a X.env) :: starEach as X.env := by rfl) (hpl : (backTo pos (starEach as X.env)).any (·.1) = false := by rfl) :
    PS X (.Raise (some (.Call (.Name x p) (a :: as) [] pos)) none pos2) (tRaiseOwnS C fs W ta) := ps_raise hc tk (pmk_ownS T hm hs hnd hdb h0 hr ha hg hdx he hpl)
end
end L2

/-! repr of data: defs whose context is known to show nothing (guards), from the law down to the calls of repr -/
namespace L2
open PySem PySem.Spec PyProof.Rows
/-- as FnOk, for contexts in which no repr is under way -/
structure FnOkG (P : Program) (w : World) (K : PySem.W.Frag) (mg : Str → Option Value) (base : Heap) (k : Nat) (f : Addr) (fd : FuncData) (ps : List Str) (sp : Sp) : Prop where
  len : ∀ vs H Q E, sp vs H Q E → vs.length = ps.length
  run : ∀ (A : Around) (outer : List Env) (s : Shared) (H : Hp) (args : Args) (us : List Value) (vs : List V) (Q : VK) (E : XK), A.guards = some [] → Room k A →
    Env0 P w K mg base A outer s H → BindsTo s fd args (ps.zip us) → Vals vs us → sp vs H Q E → codeAny (model P w) A (.call (.ref f) args) (CR CX0 outer P w H s Q E) s
section
variable {P : Program} {w : World} {K : PySem.W.Frag} {mg : Str → Option Value} {base : Heap}
theorem Fun.okG {x qual : Str} {st : Stmt} {f : Addr} {fd : FuncData} {N ps : List Str} {k : Nat} {sp : Sp} (F : Fun K x qual st f fd) (S : FnScope N ps (defScope st)) (len : ∀ vs H Q E, sp vs H Q E → vs.length = ps.length)
    (body : ∀ (cdv : Value) (A : Around) (outer : List Env) (s : Shared) (H : Hp) (vs : List V) (Q : VK) (E : XK), A.guards = some [] → Room k (A.deeper (envOfC qual (defScope st) s.heap.objs.size f cdv)) → sp vs H Q E →
      ∃ t, PSs (cxOf CX0 P w K mg base N qual (defScope st) f cdv A outer s H E).nox (defBody st) t ∧ t { nx := fun _ H' => Q .non H', rt := Q } (start N vs) H) :
    FnOkG P w K mg base (k + 1) f fd ps sp where
  len := len
  run := by
    intro A outer s H args us vs Q E gA room e0 bind rel want
    obtain ⟨oc, od, kV, doc, pm, an, cdv, ct, osl, rfl, lk, code⟩ := F.ex
    have same := len _ _ _ _ want
    have up : ∀ b o, base.get? b = some o → s.heap.get? b = some o := fun b o e => (e0.bs b o e).1
    have inK := e0.mod.kin.keeps up
    have places : ∀ y ∈ ps.zip us, (defScope st).names.lookup y.1 = some .local ∨
        ((defScope st).names.lookup y.1 = some .cell ∧ ((cellsFrom (s.heap.objs.size + 1) (defScope st).names []).lookup y.1).isSome = true) := by
      rintro ⟨n, v⟩ hy
      cases S.par n (List.of_mem_zip hy).1 with
      | inl q => exact Or.inl q
      | inr q => exact Or.inr ⟨q, PySem.W.cellsFrom_some _ _ _ (.inl q)⟩
    refine codeAny_call_function room.depth (inK _ _ lk) rfl S.co S.gen rfl (PySem.W.codeRec_of inK code) (bind _ _ _ _ (wpAny_newFunctionEnv_cells S.kind places fun env same_env s1 made => ?_))
    subst same_env
    have nolim := e0.mod.nolimit.keeps up
    refine ⟨nolim.keeps made.toInCall.keep, codeAny_func ?_⟩
    obtain ⟨t, rule, reading⟩ := body cdv A outer s H vs Q E gA (room.deeper _) want
    have first := inv_start (CX := CX0) (E := E) S room.hd e0 same rel made
    refine wpAny_mono (rule.nox.run [] s1 (start N vs) H _ first reading) ?_ (fun _ _ z => z)
    intro fl s' out
    match fl, out with
    | .ret u, ⟨v, _, H', J, rv, q⟩ => exact ⟨v, H', J.os, J.bare, J.base, J.hok, rv, q⟩
    | .next, ⟨_, H', J, q⟩ => exact ⟨.non, H', J.os, J.bare, J.base, J.hok, rfl, q⟩
    | .brk, ⟨_, _, _, q⟩ => exact q.elim
    | .cont, ⟨_, _, _, q⟩ => exact q.elim
end
section
variable {X : Cx} {k : Nat} {f : Addr} {fd : FuncData} {ps : List Str} {sp : Sp} {x : Str} {p pos : Pos} {e : Expr} {es : List Expr} {t : TA}
/-- a call of such a def -/
theorem pe_callG (F : FnOkG X.prog X.w X.K X.mg X.base k f fd ps sp) (gA : X.A.guards = some []) (hr : Room k X.A) (hg : Gl X x) (hm : X.mg x = some (.ref f)) (hk : PySem.W.keepIn X.K (.ref f) = true) (hb : Binds X.K fd ps [])
    (ha : PA X (e :: es) t) (hdb : (x == ("__debug__" : Str)) = false := by decide) (he : starEach (e :: es) X.env = (false, eval e X.env) :: starEach es X.env := by rfl) (hpl : (backTo pos (starEach es X.env)).any (·.1) = false := by rfl) :
    PE X (.Call (.Name x p) (e :: es) [] pos) (tCall sp [] E0 t) := by
  constructor
  intro pins s σ H Q I h
  refine wpAny_Call_Name_kw (ld_glob I hg hm (PySem.W.callWith_K (h₀ := X.base) I.ok.mod.kin hk (thn (ha.run pos pins s σ H _ I h) ?_) he hpl) hdb)
  rintro us s1 ⟨vs, H1, J, rel, want⟩
  refine ⟨J.kIn, ?_⟩
  have n : us.length = ps.length := by rw [← rel.length, ← F.len _ _ _ _ want, List.append_nil]
  have want' : sp vs H1 Q E0 := by rw [← List.append_nil vs]; exact want
  have bnd := hb s1 us J.kIn (by rw [List.append_nil]; exact n)
  rw [List.append_nil] at bnd
  refine wpAny_call (codeAny_mono (F.run X.A X.stack s1 H1 ⟨us, []⟩ us vs Q E0 gA hr J.env0 bnd rel want') ?_)
  intro r s' out
  match r, out with
  | .error _, out => exact out.elim
  | .ok (.ret u), out => exact J.after out
  | .ok .next, out => exact out.elim
  | .ok .brk, out => exact out.elim
  | .ok .cont, out => exact out.elim
/-- repr of data without dicts -/
def rRepr (K : PySem.W.Frag) : List V → Hp → VK → Prop := fun xs H Q => ∃ (a : Addr) (d : PyData), xs = [.ref a] ∧ Dp K H (.ref a) d ∧ d.showable = true ∧ d.hasDict = false ∧ d.depth ≤ 60 ∧ d.shown.length ≤ sizeLine ∧ Q (.str d.shown) H
theorem call_reprD (gA : X.A.guards = some []) (hu : X.A.units + 64 < cLine) : CallR X (.builtin "repr") (rRepr X.K) := by
  intro pins s σ H xs us Q I r h
  obtain ⟨a, d, rfl, hd, sh, nd, dp, sz, q⟩ := h
  obtain ⟨u, rfl, ru⟩ := vals1 r
  obtain rfl : u = Value.ref a := ru
  obtain ⟨as, rd⟩ := Dp.reads I d _ _ hd rfl
  refine repr_of_reads' rd sh (PyData.noDict_hsm nd) gA (by omega) (fun _ _ e => e) (fun h' u tk kp => ?_) sz
  exact ⟨.str d.shown, H, I.kept (t' := tk) kp, ⟨u, rfl⟩, q⟩
end
/-- the law's promise at the heap behind the top, for such a def -/
theorem law_startG {P : Program} {w : World} {K : PySem.W.Frag} {mg mb : Str → Option Value} {k : Nat} {fa a : Addr} {fd : FuncData} {x : Str} {sp : Sp} {s : Shared} {vs : List Value}
    (KX : K.In s.heap) (hns : s.heap.Ns mainGlobals mg) (hb : s.heap.Ns builtinsNs mb) (hbb : ∀ x : Str, x ≠ "__name__" → mb x = bootBuiltins x) (hlim : s.heap.NoLimit) (hg : s.gens = #[])
    (ha : s.heap.get? a = some { cls := .type "list", data := .seq vs.toArray }) (room : Room k callerA) (F : ∀ base : Heap, K.In base → base.Ns mainGlobals mg → FnOkG P w K mg base k fa fd [x] sp)
    (bind : ∀ (s : Shared) (u : Value), BindsTo s fd ⟨[u], []⟩ [(x, u)]) (H : Hp) (only : Only H) (hok : HOk P w H s.heap) (one : ∀ b, H b ≠ none → b = a) (out : H a ≠ none → K.lookup a = none)
    (want : sp [.ref a] H (fun v _ => v = .bl true) fun _ _ _ => False) :
    codeAny (model P w) callerA (.call (.ref fa) ⟨[.ref a], []⟩) (fun r s' => r = .ok (.ret (.bool true)) ∧ OldK s.heap s'.heap ∧ s'.os = s.os ∧ AllBare s'.gens) s := by
  have free : ∀ {b : Addr}, (b = a → False) → H b = none := fun {b} hb => by
    cases q : H b with
    | none => rfl
    | some u => exact (hb (one b (by rw [q]; exact fun z => (by cases z)))).elim
  have dicts : ∀ {b : Addr} {m : Str → Option Value}, s.heap.Ns b m → (hidT s.heap H).Ns b m := by
    rintro b m ⟨o, es, ep, e, d, r⟩
    refine ⟨o, es, ep, hidT_get e (free fun eb => ?_), d, r⟩
    rw [eb, ha] at e
    cases e
    have d' : Data.seq vs.toArray _ = Data.dict es ep := d
    cases d'
  have kin : K.In (hidT s.heap H) := fun b o e => hidT_get (KX b o e) (by
    cases q : H b with
    | none => rfl
    | some u =>
      have eb := one b (by rw [q]; exact fun z => (by cases z))
      have := out (by rw [← eb, q]; exact fun z => (by cases z))
      rw [eb, this] at e
      cases e)
  obtain ⟨mc, lim1, lim2⟩ := hlim
  have md : Mod K mg (hidT s.heap H) := { kin := kin, glob := dicts hns, blt := ⟨mb, dicts hb, hbb⟩, nolimit := ⟨mc, dicts lim1, lim2⟩ }
  have e0 : Env0 P w K mg (hidT s.heap H) callerA [] s H :=
    { frames := rfl, mod := md, bs := fun b o e => of_hidT e, bsz := Nat.le_of_eq (hidT_size _ _), funs := trivial, frf := fun b hb => absurd (show b ∈ ([] : List Addr) from hb) (List.not_mem_nil), hok := hok, bare := .of_eq hg }
  refine codeAny_mono ((F _ kin (dicts hns)).run callerA [] s H ⟨[.ref a], []⟩ [.ref a] [.ref a] _ _ rfl room e0 (bind s (.ref a)) (.cons rfl .nil) want) ?_
  intro r s' res
  match r, res with
  | .error _, res => exact res.elim
  | .ok .next, res => exact res.elim
  | .ok .brk, res => exact res.elim
  | .ok .cont, res => exact res.elim
  | .ok (.ret u), ⟨v, H', os, bare, un, hok', rv, ev⟩ =>
    have ev' : v = .bl true := ev
    subst ev'
    obtain rfl : u = Value.bool true := rv
    refine ⟨rfl, OldK.of_keep ?_, os, bare⟩
    intro b o e
    rcases only b with z | ⟨ob, xs, z⟩
    · exact un.keep b o e z (fun m => absurd (show b ∈ ([] : List Addr) from m) List.not_mem_nil) List.not_mem_nil
    · have e1 := (hok b _ z).1
      have e2 := (hok' b _ (un.frzs b ob _ z)).1
      rw [e] at e1
      cases e1
      exact e2
theorem walk_ofG {l : PySem.W.OpenLaw} {n k : Nat} {q : Program} {loose : List Str} {XP : (Str → Option Value) → Heap → Prop} {YP : World → Heap → Prop} {d : DefRec} {K : Params → PySem.W.Frag} {sp : World → Sp} {x : Str}
    (hn : l.most = some n) (hn2 : n ≤ sizeLine) (hdf : d.params.defaults = []) (room : Room k callerA) (hY : ∀ (w : World) (h : Heap), YP w h → (K w.params).In h)
    (F : ∀ (w : World) (mg : Str → Option Value) (fa : Addr) (h : Heap), (K w.params).In h → h.Ns mainGlobals mg → mg d.name = some (.ref fa) →
      ∃ fd : FuncData, (∀ (s : Shared) (u : Value), BindsTo s fd ⟨[u], []⟩ [(x, u)]) ∧ ∀ base : Heap, (K w.params).In base → base.Ns mainGlobals mg → FnOkG l.prog w (K w.params) mg base k fa fd [x] (sp w))
    (hsp : ∀ (w : World) (H : Hp) (a : Addr) (ns : List Int), ns.length ≤ n → Only H → SqL (K w.params) H a (ns.map V.int) → sp w [.ref a] H (fun v _ => v = .bl true) fun _ _ _ => False) :
    PySem.W.WalkO q loose XP YP l.row.toRowW d [] (fun f vs => PySem.call f vs) := by
  refine Att.attach_call hn hdf ?_
  intro w s₀ s mg mb fa o pm cd doc a vs ns G Y ho hd hcd hmg hobj hints hlen hg
  have KX := hY w _ Y
  obtain ⟨fd, bind, hF⟩ := F w mg fa _ KX G.T.g hmg
  have size : ns.length ≤ sizeLine := Nat.le_trans hlen hn2
  have go := fun (H : Hp) => law_startG (w := w) (a := a) (vs := vs) KX G.T.g G.T.b G.T.builtins G.T.nolimit hg hobj room hF bind H
  cases hk : (K w.params).lookup a with
  | some o' =>
    have e := KX a o' hk
    rw [hobj] at e
    cases e
    have only : Only (fun _ => none) := fun _ => Or.inl rfl
    refine go (fun _ => none) only (fun b u z => by have z2 : (none : Option HO) = some u := z; cases z2) (fun b z => absurd rfl z) (fun z => absurd rfl z) (hsp w _ a ns hlen only (.inr ⟨_, vs.toArray, _, hk, rfl, rfl, rfl, ?_, ?_⟩))
    · rw [List.size_toArray, hints.length]
      exact size
    · exact vals_ints hints
  | none =>
    have at_a : ∀ {b u}, (if b = a then some (HO.frz { cls := .type "list", data := .seq vs.toArray } (.lst (ns.map V.int))) else none) = some u → b = a ∧ u = .frz { cls := .type "list", data := .seq vs.toArray } (.lst (ns.map V.int)) := by
      intro b u z
      by_cases hb : b = a
      · rw [if_pos hb] at z
        exact ⟨hb, (Option.some.inj z).symm⟩
      · rw [if_neg hb] at z
        cases z
    have only : Only (fun b => if b = a then some (HO.frz { cls := .type "list", data := .seq vs.toArray } (.lst (ns.map V.int))) else none) := by
      intro b
      by_cases hb : b = a
      · exact Or.inr ⟨_, _, if_pos hb⟩
      · exact Or.inl (if_neg hb)
    refine go _ only ?_ ?_ (fun _ => hk) (hsp w _ a ns hlen only (.inl (.inr ⟨{ cls := .type "list", data := .seq vs.toArray }, if_pos rfl⟩)))
    · intro b u z
      obtain ⟨rfl, rfl⟩ := at_a z
      exact ⟨hobj, by rw [List.length_map]; exact size, vs, _, vals_ints hints, hobj⟩
    · intro b z
      cases q : (if b = a then some (HO.frz { cls := .type "list", data := .seq vs.toArray } (.lst (ns.map V.int))) else none) with
      | none => exact absurd q z
      | some u => exact (at_a q).1
end L2

/-! isinstance of a caught error whose fields stand in a dict; a tuple of classes -/
namespace L2
open PySem PySem.Spec PyProof.Rows
section
variable {X : Cx} {a : Addr} {oe : Obj} {cls : Value} {d : Option Addr} {pn : List (Addr × Obj)}
/-- the error that the suite holds at a: its class D, its dict dd -/
def Caught (K : PySem.W.Frag) (H : Hp) (cls : Value) (d : Option Addr) (D : Addr) : Prop := cls = .ref D ∧ ExcC K D ∧ ∃ (dd : Addr) (fs : List (Str × V)), d = some dd ∧ H dd = some (.xd fs)
theorem caught_at {pins : List (Addr × Obj)} {σ : St} {H : Hp} {s : Shared} {D : Addr} (I : Inv (X.suite a ((a, oe) :: pn)) pins σ H s) (hz : Zc cls d oe) (hf : ∃ vs, oe.data = .fields vs) (c : Caught X.K H cls d D) : ∃ od, PySem.W.InstAt s.heap a oe D od := by
  obtain ⟨rfl, _, dd, fs, rfl, ea⟩ := c
  have here := (I.pin (a, oe) (List.mem_append_left _ List.mem_cons_self)).1
  obtain ⟨vs, hd⟩ := hf
  obtain ⟨mA, hns, _⟩ := (show ObjOk X.prog X.w H s.heap dd (.xd fs) from I.hok dd _ ea)
  obtain ⟨od, ho, _⟩ := lookIn_ns hns
  refine ⟨some od, here, hz.1, ?_, ?_⟩
  · unfold PySem.W.notCls
    rw [hd] <;> rfl
  · rw [hz.2]
    exact ho
theorem caught_kit {K : PySem.W.Frag} {D : Addr} {od : Option Obj} (C : ExcC K D) : PySem.W.KitX K (.ref a) (.ref D) (fun h => PySem.W.InstAt h a oe D od) := by
  have hc : (PySem.W.clsIn K D).isSome = true := by
    obtain ⟨cd, hc, _⟩ := PySem.W.any_some C.hd
    rw [hc]
    rfl
  exact PySem.W.kitx_exc hc C.hg C.hk C.hs C.ha C.hn C.ht C.hm
def rIsC (K : PySem.W.Frag) (a : Addr) (cls : Value) (d : Option Addr) : List V → Hp → VK → Prop := fun xs H Q => ∃ (D : Addr) (c : V) (cv : Value) (b : Bool), xs = [.ref a, c] ∧ Caught K H cls d D ∧ ClsV c cv ∧ PySem.W.kitOne K (.ref D) cv = some b ∧ Q (.bl b) H
def rIsCT (K : PySem.W.Frag) (a : Addr) (cls : Value) (d : Option Addr) : List V → Hp → VK → Prop := fun xs H Q => ∃ (D tp : Addr) (cs : List V) (us : List Value) (b : Bool), xs = [.ref a, .ref tp] ∧ Caught K H cls d D ∧ H tp = some (.tup cs) ∧ Paired ClsV cs us ∧ PySem.W.kitAny K (.ref D) us = some b ∧ Q (.bl b) H
theorem call_isC (hz : Zc cls d oe) (hf : ∃ vs, oe.data = .fields vs) : CallR (X.suite a ((a, oe) :: pn)) (.builtin "isinstance") (rIsC X.K a cls d) := by
  intro pins s σ H xs us Q I r h
  obtain ⟨D, c, cv, b, rfl, hc, k, e, q⟩ := h
  obtain ⟨u1, u2, rfl, r1, r2⟩ := vals2 r
  obtain rfl : u1 = Value.ref a := r1
  have e2 := k.eq r2
  subst e2
  obtain ⟨od, J⟩ := caught_at I hz hf hc
  exact PySem.W.kia_one (caught_kit hc.2.1) I.kIn J e (fun z => by cases z) fun tk => ⟨.bl b, H, I.tok tk, rfl, q⟩
theorem call_isCT (hz : Zc cls d oe) (hf : ∃ vs, oe.data = .fields vs) : CallR (X.suite a ((a, oe) :: pn)) (.builtin "isinstance") (rIsCT X.K a cls d) := by
  intro pins s σ H xs us Q I r h
  obtain ⟨D, tp, cs, ws, b, rfl, hc, hT, k, e, q⟩ := h
  obtain ⟨u1, u2, rfl, r1, r2⟩ := vals2 r
  obtain rfl : u1 = Value.ref a := r1
  obtain rfl : u2 = Value.ref tp := r2
  obtain ⟨od, J⟩ := caught_at I hz hf hc
  obtain ⟨_, its, rv, o, h1, h2, n, h3⟩ := (show ObjOk X.prog X.w H s.heap tp (.tup cs) from I.hok tp _ hT)
  have e3 := ClsV.all k rv
  subst e3
  obtain ⟨oc, od', dt, sl⟩ := o
  simp only at h2 h3
  subst h2 h3
  exact PySem.W.kia_tup (caught_kit hc.2.1) I.kIn J h1 e (fun z => by cases z) fun tk => ⟨.bl b, H, I.tok tk, rfl, q⟩
end
end L2

/-! lists of numbers, lists of such lists, as data that is shown -/
namespace KD
open PySem PySem.Spec PyProof.Rows L2
def dI (l : List Int) : PyData := .list (l.map .int)
def dW (W : List (List Int)) : PyData := .list (W.map dI)
structure Shows (d : PyData) : Prop where
  sh : d.showable = true
  nd : d.hasDict = false
  dp : d.depth ≤ 60
  sz : d.shown.length ≤ sizeLine
def Smalls (l : List Int) : Prop := ∀ z ∈ l, z.natAbs < 1000000
theorem small_log {z : Int} (h : z.natAbs < 1000000) : z.natAbs.log2 < 20 := by
  by_cases e : z.natAbs = 0
  · rw [e]
    decide
  · exact (Nat.log2_lt e).2 (Nat.lt_of_lt_of_le h (by decide))
theorem ints_show {l : List Int} (h : Smalls l) : PyData.showableAll (l.map PyData.int) = true := PyData.showableAll_ints l fun z hz => Nat.lt_trans (small_log (h z hz)) (by decide)
theorem ints_nodict : ∀ l : List Int, PyData.hasDictAll (l.map PyData.int) = false
  | [] => by simp only [List.map_nil, PyData.hasDictAll]
  | z :: l => by simp only [List.map_cons, PyData.hasDictAll, PyData.hasDict, ints_nodict l, Bool.or_self]
theorem ints_depth : ∀ l : List Int, PyData.depthAll (l.map PyData.int) = 0
  | [] => by simp only [List.map_nil, PyData.depthAll]
  | z :: l => by simp only [List.map_cons, PyData.depthAll, PyData.depth, ints_depth l, Nat.max_self]
theorem ints_leaves : ∀ {l : List Int}, Smalls l → PyData.leavesShortAll 13 (l.map PyData.int) = true
  | [], _ => by simp only [List.map_nil, PyData.leavesShortAll]
  | z :: l, h => by
    simp only [List.map_cons, PyData.leavesShortAll, PyData.leavesShort, Bool.and_eq_true, decide_eq_true_eq]
    exact ⟨PyData.shown_int_le (Nat.lt_trans (h z List.mem_cons_self) (by decide)), ints_leaves fun y hy => h y (List.mem_cons_of_mem _ hy)⟩
theorem ints_weight : ∀ {l : List Int}, Smalls l → PyData.weightAll (l.map PyData.int) ≤ 21 * l.length
  | [], _ => by simp only [List.map_nil, PyData.weightAll]; exact Nat.zero_le _
  | z :: l, h => by
    have := small_log (h z List.mem_cons_self)
    have ih := ints_weight (l := l) fun y hy => h y (List.mem_cons_of_mem _ hy)
    have w : PyData.weight (.int z) ≤ 20 := by
      simp only [PyData.weight]
      split <;> omega
    simp only [List.map_cons, PyData.weightAll, List.length_cons]
    omega
theorem dI_shows {l : List Int} (h : Smalls l) (hl : l.length ≤ 10000) : Shows (dI l) where
  sh := by simp only [dI, PyData.showable]; exact ints_show h
  nd := by simp only [dI, PyData.hasDict]; exact ints_nodict l
  dp := by simp only [dI, PyData.depth, ints_depth]; decide
  sz := PyData.shown_fits (B := 13) (by decide) (by decide) (by simp only [dI, PyData.leavesShort]; exact ints_leaves h) (by
    simp only [dI, PyData.weight]
    have := ints_weight h
    have e : (2 : Nat) ^ 20 = 1048576 := by decide
    omega)
theorem rows_show : ∀ {W : List (List Int)}, (∀ r ∈ W, Smalls r) → PyData.showableAll (W.map dI) = true
  | [], _ => by simp only [List.map_nil, PyData.showableAll]
  | r :: W, h => by
    simp only [List.map_cons, PyData.showableAll, Bool.and_eq_true]
    exact ⟨by simp only [dI, PyData.showable]; exact ints_show (h r List.mem_cons_self), rows_show fun y hy => h y (List.mem_cons_of_mem _ hy)⟩
theorem rows_nodict : ∀ W : List (List Int), PyData.hasDictAll (W.map dI) = false
  | [] => by simp only [List.map_nil, PyData.hasDictAll]
  | r :: W => by simp only [List.map_cons, PyData.hasDictAll, dI, PyData.hasDict, ints_nodict, Bool.false_or]; exact rows_nodict W
theorem rows_depth : ∀ W : List (List Int), PyData.depthAll (W.map dI) ≤ 1
  | [] => by simp only [List.map_nil, PyData.depthAll]; exact Nat.zero_le _
  | r :: W => by
    have := rows_depth W
    simp only [List.map_cons, PyData.depthAll, dI, PyData.depth, ints_depth]
    exact Nat.max_le.mpr ⟨Nat.le_refl _, this⟩
theorem rows_leaves : ∀ {W : List (List Int)}, (∀ r ∈ W, Smalls r) → PyData.leavesShortAll 13 (W.map dI) = true
  | [], _ => by simp only [List.map_nil, PyData.leavesShortAll]
  | r :: W, h => by
    simp only [List.map_cons, PyData.leavesShortAll, Bool.and_eq_true]
    exact ⟨by simp only [dI, PyData.leavesShort]; exact ints_leaves (h r List.mem_cons_self), rows_leaves fun y hy => h y (List.mem_cons_of_mem _ hy)⟩
theorem rows_weight {k : Nat} : ∀ {W : List (List Int)}, (∀ r ∈ W, Smalls r ∧ r.length ≤ k) → PyData.weightAll (W.map dI) ≤ (21 * k + 1) * W.length
  | [], _ => by simp only [List.map_nil, PyData.weightAll]; exact Nat.zero_le _
  | r :: W, h => by
    have h1 := h r List.mem_cons_self
    have w := ints_weight h1.1
    have ih := rows_weight (k := k) (W := W) fun y hy => h y (List.mem_cons_of_mem _ hy)
    have wd : PyData.weight (dI r) ≤ 21 * k := by
      simp only [dI, PyData.weight]
      have : 21 * r.length ≤ 21 * k := Nat.mul_le_mul_left 21 h1.2
      omega
    simp only [List.map_cons, PyData.weightAll, List.length_cons]
    rw [Nat.mul_succ]
    omega
theorem dW_shows {W : List (List Int)} (h : ∀ r ∈ W, Smalls r ∧ r.length ≤ 100) (hl : W.length ≤ 400) : Shows (dW W) where
  sh := by simp only [dW, PyData.showable]; exact rows_show fun r hr => (h r hr).1
  nd := by simp only [dW, PyData.hasDict]; exact rows_nodict W
  dp := by
    have := rows_depth W
    simp only [dW, PyData.depth]
    omega
  sz := PyData.shown_fits (B := 13) (by decide) (by decide) (by simp only [dW, PyData.leavesShort]; exact rows_leaves fun r hr => (h r hr).1) (by
    simp only [dW, PyData.weight]
    have := rows_weight h
    have e : (2 : Nat) ^ 20 = 1048576 := by decide
    have : (21 * 100 + 1) * W.length ≤ (21 * 100 + 1) * 400 := Nat.mul_le_mul_left _ hl
    omega)
theorem dpI {K : PySem.W.Frag} {H : Hp} {a : Addr} {l : List Int} (h : SqL K H a (l.map V.int)) : Dp K H (.ref a) (dI l) := by
  refine .lst h ?_
  clear h
  induction l with
  | nil => exact .nil
  | cons z l ih => exact .cons (.int z) ih
theorem dpW {K : PySem.W.Frag} {H : Hp} {a : Addr} {as : List Addr} {W : List (List Int)} (h : SqL K H a (as.map V.ref)) (p : Paired (fun x r => SqL K H x (r.map V.int)) as W) : Dp K H (.ref a) (dW W) := by
  refine .lst h ?_
  clear h
  induction p with
  | nil => exact .nil
  | cons f _ ih => exact .cons (dpI f) ih
/-- the reading of repr(x), x such data -/
theorem shown {K : PySem.W.Frag} {H : Hp} {a : Addr} {d : PyData} {Q : VK} (s : Shows d) (p : Dp K H (.ref a) d) (q : Q (.str d.shown) H) : rRepr K [.ref a] H Q := ⟨a, d, rfl, p, s.sh, s.nd, s.dp, s.sz, q⟩
def rTupOf (K : PySem.W.Frag) : List V → Hp → VK → Prop := fun xs H Q => ∃ p ys, xs = [.ref p] ∧ ((SqL K H p ys ∧ ∀ l, H l = none → Q (.ref l) (upd H l (.tup ys))) ∨ (SqT K H p ys ∧ Q (.ref p) H))
end KD

/-! defs that may be called while an error is handled: their bodies ask nothing of what is handled -/
namespace L2
open PySem PySem.Spec PyProof.Rows
structure RoomQ (k : Nat) (A : Around) : Prop where
  dp : A.depth + 3 * k + 5 < recursionLimit
  un : A.units + 16 * k + 200 < cLine
theorem RoomQ.of {k : Nat} {A : Around} (r : Room k A) : RoomQ k A := ⟨r.dp, r.un⟩
theorem RoomQ.mono {j k : Nat} {A : Around} (r : RoomQ k A) (h : j ≤ k) : RoomQ j A := by
  obtain ⟨a, b⟩ := r
  exact ⟨by omega, by omega⟩
theorem RoomQ.deeper {k : Nat} {A : Around} (r : RoomQ (k + 1) A) (env : Env) : RoomQ k (A.deeper env) := by
  obtain ⟨a, b⟩ := r
  refine ⟨?_, ?_⟩
  · show A.depth + 1 + 3 * k + 5 < _
    omega
  · show A.units + 3 + 16 * k + 200 < _
    omega
structure FnOkQ (P : Program) (w : World) (K : PySem.W.Frag) (mg : Str → Option Value) (base : Heap) (k : Nat) (f : Addr) (fd : FuncData) (ps : List Str) (sp : Sp) : Prop where
  len : ∀ vs H Q E, sp vs H Q E → vs.length = ps.length
  run : ∀ (A : Around) (outer : List Env) (s : Shared) (H : Hp) (args : Args) (us : List Value) (vs : List V) (Q : VK) (E : XK), RoomQ k A →
    Env0 P w K mg base A outer s H → BindsTo s fd args (ps.zip us) → Vals vs us → sp vs H Q E → codeAny (model P w) A (.call (.ref f) args) (CR CX0 outer P w H s Q E) s
/-- the body's context: nothing is known of what is handled -/
def cxQ (P : Program) (w : World) (K : PySem.W.Frag) (mg : Str → Option Value) (base : Heap) (N : List Str) (qual : Str) (scope : Scope) (f : Addr) (cd : Value) (A : Around) (outer : List Env) (s : Shared) (H : Hp) (E : XK) : Cx :=
  { cxOf CX0 P w K mg base N qual scope f cd A outer s H E with calm := false }
section
variable {P : Program} {w : World} {K : PySem.W.Frag} {mg : Str → Option Value} {base : Heap}
theorem Fun.okQ {x qual : Str} {st : Stmt} {f : Addr} {fd : FuncData} {N ps : List Str} {k : Nat} {sp : Sp} (F : Fun K x qual st f fd) (S : FnScope N ps (defScope st)) (len : ∀ vs H Q E, sp vs H Q E → vs.length = ps.length)
    (body : ∀ (cdv : Value) (A : Around) (outer : List Env) (s : Shared) (H : Hp) (vs : List V) (Q : VK) (E : XK), RoomQ k (A.deeper (envOfC qual (defScope st) s.heap.objs.size f cdv)) → sp vs H Q E →
      ∃ t, PSs (cxQ P w K mg base N qual (defScope st) f cdv A outer s H E).nox (defBody st) t ∧ t { nx := fun _ H' => Q .non H', rt := Q } (start N vs) H) :
    FnOkQ P w K mg base (k + 1) f fd ps sp where
  len := len
  run := by
    intro A outer s H args us vs Q E room e0 bind rel want
    obtain ⟨oc, od, kV, doc, pm, an, cdv, ct, osl, rfl, lk, code⟩ := F.ex
    have same := len _ _ _ _ want
    have up : ∀ b o, base.get? b = some o → s.heap.get? b = some o := fun b o e => (e0.bs b o e).1
    have inK := e0.mod.kin.keeps up
    have places : ∀ y ∈ ps.zip us, (defScope st).names.lookup y.1 = some .local ∨
        ((defScope st).names.lookup y.1 = some .cell ∧ ((cellsFrom (s.heap.objs.size + 1) (defScope st).names []).lookup y.1).isSome = true) := by
      rintro ⟨n, v⟩ hy
      cases S.par n (List.of_mem_zip hy).1 with
      | inl q => exact Or.inl q
      | inr q => exact Or.inr ⟨q, PySem.W.cellsFrom_some _ _ _ (.inl q)⟩
    have depth : A.depth < recursionLimit := by have := room.dp; omega
    refine codeAny_call_function depth (inK _ _ lk) rfl S.co S.gen rfl (PySem.W.codeRec_of inK code) (bind _ _ _ _ (wpAny_newFunctionEnv_cells S.kind places fun env same_env s1 made => ?_))
    subst same_env
    have nolim := e0.mod.nolimit.keeps up
    refine ⟨nolim.keeps made.toInCall.keep, codeAny_func ?_⟩
    obtain ⟨t, rule, reading⟩ := body cdv A outer s H vs Q E (room.deeper _) want
    have e0' : Env0 P w K mg base { A with handled := none } outer s H := { frames := e0.frames, mod := e0.mod, bs := e0.bs, bsz := e0.bsz, funs := e0.funs, frf := e0.frf, hok := e0.hok, bare := e0.bare }
    have I := inv_start (CX := CX0) (E := E) S (A := { A with handled := none }) rfl e0' same rel made
    have ok : (cxQ P w K mg base N qual (defScope st) f cdv A outer s H E).Ok :=
      { mod := I.ok.mod, kind := I.ok.kind, glob := I.ok.glob, blt := I.ok.blt, above := I.ok.above, inj := I.ok.inj, has := I.ok.has, cab := I.ok.cab,
        hd := fun z => Bool.noConfusion (show false = true from z), frames := Around.frames_deeper e0.frames, stk := I.ok.stk, exf := I.ok.exf, bs := I.ok.bs, bsz := I.ok.bsz, noex := I.ok.noex, exfs := I.ok.exfs, funs := I.ok.funs, frf := I.ok.frf }
    have first : Inv (cxQ P w K mg base N qual (defScope st) f cdv A outer s H E) [] (start N vs) H s1 :=
      { ok := ok, os := I.os, bare := I.bare, base := I.base, loc := I.loc, cell := I.cell, free := I.free, freeC := I.freeC, pin := I.pin, hok := I.hok, len := I.len }
    refine wpAny_mono (rule.nox.run [] s1 (start N vs) H _ first reading) ?_ (fun _ _ z => z)
    intro fl s' out
    match fl, out with
    | .ret u, ⟨v, _, H', J, rv, q⟩ => exact ⟨v, H', J.os, J.bare, J.base, J.hok, rv, q⟩
    | .next, ⟨_, H', J, q⟩ => exact ⟨.non, H', J.os, J.bare, J.base, J.hok, rfl, q⟩
    | .brk, ⟨_, _, _, q⟩ => exact q.elim
    | .cont, ⟨_, _, _, q⟩ => exact q.elim
end
section
variable {X : Cx} {k : Nat} {f : Addr} {fd : FuncData} {ps : List Str} {sp : Sp} {x : Str} {p pos : Pos} {e : Expr} {es : List Expr} {t : TA}
theorem pe_callQ (F : FnOkQ X.prog X.w X.K X.mg X.base k f fd ps sp) (hr : RoomQ k X.A) (hg : Gl X x) (hm : X.mg x = some (.ref f)) (hk : PySem.W.keepIn X.K (.ref f) = true) (hb : Binds X.K fd ps [])
    (ha : PA X (e :: es) t) (hdb : (x == ("__debug__" : Str)) = false := by decide) (he : starEach (e :: es) X.env = (false, eval e X.env) :: starEach es X.env := by rfl) (hpl : (backTo pos (starEach es X.env)).any (·.1) = false := by rfl) :
    PE X (.Call (.Name x p) (e :: es) [] pos) (tCall sp [] E0 t) := by
  constructor
  intro pins s σ H Q I h
  refine wpAny_Call_Name_kw (ld_glob I hg hm (PySem.W.callWith_K (h₀ := X.base) I.ok.mod.kin hk (thn (ha.run pos pins s σ H _ I h) ?_) he hpl) hdb)
  rintro us s1 ⟨vs, H1, J, rel, want⟩
  refine ⟨J.kIn, ?_⟩
  have n : us.length = ps.length := by rw [← rel.length, ← F.len _ _ _ _ want, List.append_nil]
  have want' : sp vs H1 Q E0 := by rw [← List.append_nil vs]; exact want
  have bnd := hb s1 us J.kIn (by rw [List.append_nil]; exact n)
  rw [List.append_nil] at bnd
  refine wpAny_call (codeAny_mono (F.run X.A X.stack s1 H1 ⟨us, []⟩ us vs Q E0 hr J.env0 bnd rel want') ?_)
  intro r s' out
  match r, out with
  | .error _, out => exact out.elim
  | .ok (.ret u), out => exact J.after out
  | .ok .next, out => exact out.elim
  | .ok .brk, out => exact out.elim
  | .ok .cont, out => exact out.elim
end
end L2

/-! for i, x in enumerate(xs), xs a list or a tuple -/
namespace RT
open PySem PySem.Spec PyProof.Rows L2
theorem new_enum1 {v : Value} {o : Obj} {G : Heap → Prop} (B : Begins v o G) :
    Meets (Builtin.«enumerate.__new__» ⟨[.type "enumerate", v], []⟩) (fun _ R s => G s.heap ∧
      R (.ok (.ret (.ref (s.heap.push o).objs.size))) { s with heap := (s.heap.push o).push { cls := .type "enumerate", data := .fields #[.none, .bool false, .ref s.heap.objs.size, rawInt 0, .none, .none] } }) := by
  refine .of_wp fun prog w A R s hh => ?_
  obtain ⟨heap, gens, drawn, toks, os⟩ := s
  obtain ⟨hG, hR⟩ := hh
  have sub := sub_enumerate
  have it : ∀ {A' : Around} {E : Value → Shared → Prop} {Q : Value → Shared → Prop}, Q (.ref heap.objs.size) ⟨heap.push o, gens, drawn, toks, os⟩ → wpAny (model prog w) A' (pyIter v) Q E ⟨heap, gens, drawn, toks, os⟩ := fun q => B.iter prog w _ _ ⟨heap, gens, drawn, toks, os⟩ _ hG q
  wp_walk using it
  refine wpAny_stack_any fun st => wpAny_pure ?_
  split
  · rename_i c _ _ _ _ _
    cases (c == Value.type "enumerate") <;> (wp_walk using it; exact ⟨_, rfl, hR⟩)
  · wp_walk using it
    exact ⟨_, rfl, hR⟩
section
variable {prog : Program} {w : World} {A : Around} {E : Value → Shared → Prop} {s : Shared}
theorem call_enum_tup {t : Addr} {items : Array Value} {Q : Value → Shared → Prop} (hT : s.heap.IsTuple t items)
    (q : ∀ h', IsEnum h' (s.heap.objs.size + 1) s.heap.objs.size 0 .none → h'.IsTupleIter s.heap.objs.size t 0 → (∀ b o, s.heap.get? b = some o → h'.get? b = some o) → Q (.ref (s.heap.objs.size + 1)) { s with heap := h' }) :
    wpAny (model prog w) A (call (.type "enumerate") [.ref t]) Q E s := by
  refine callType_new F.called_enumerate (by decide) (F.typeCall_enumerate_1 _) (F.newCall_enumerate_1 _) (fun obj => F.args_object_init_2 obj _) F.entry_enumerate_new (new_enum1 (begins_tuple t items)) ⟨hT, ?_⟩
  generalize eo : ({ cls := .type "tuple_iterator", data := .fields #[.ref t, .int 0 0] } : Obj) = io
  have z : (s.heap.push io).objs.size = s.heap.objs.size + 1 := Heap.size_push ..
  generalize ee : ({ cls := .type "enumerate", data := .fields #[.none, .bool false, .ref s.heap.objs.size, rawInt 0, .none, .none] } : Obj) = en
  have fe : ((s.heap.push io).push en).get? (s.heap.objs.size + 1) = some en := by
    rw [← z]
    exact Heap.get?_push_size _ (by rw [← ee]; rfl)
  have fi : ((s.heap.push io).push en).get? s.heap.objs.size = some io := Heap.get?_push_of_some _ (Heap.get?_push_size _ (by rw [← eo]; rfl))
  show _ ∧ _
  rw [z]
  exact ⟨⟨en, fe, by rw [← ee]⟩, q _ (fe.trans (by rw [← ee])) ⟨io, fi, by rw [← eo], by rw [← eo]; rfl⟩ fun b o x => Heap.get?_push_of_some _ (Heap.get?_push_of_some _ x)⟩
end
end RT
namespace L2
open PySem PySem.Spec PyProof.Rows
/-- the tuple at a, its items numbered, in new pairs -/
def Iten (K : PySem.W.Frag) (a : Addr) : It where
  go := fun i H => ∃ (xs : List V) (x : V), SqT K H a xs ∧ xs[i]? = some x
  yld := fun i H v H' => ∃ T x, v = .ref T ∧ H T = none ∧ H' = upd H T (.tup [.int (i : Nat), x]) ∧ ∀ xs, SqT K H a xs → xs[i]? = some x
  stop := fun i H => ∃ xs : List V, SqT K H a xs ∧ xs.length ≤ i
theorem turn_enumT {P : Program} {w : World} {K : PySem.W.Frag} {elts : List Expr} {kk : Nat} {tpos : Pos} (a e it : Addr) :
    Turn P w K (.Tuple elts kk tpos) (Iten K a) [e, it] e (fun i h => (∃ old, IsEnum h e it ((i : Nat) : Int) old) ∧ h.IsTupleIter it a i ∧ e ≠ it) := by
  have two : ∀ {b : Addr}, b ∈ [e, it] → b = e ∨ b = it := fun hb => by simpa using hb
  refine { mem := by simp, obj := ?_, keep := ?_, item := ?_, done := ?_, self := ?_ }
  · rintro i h ⟨⟨old, he⟩, ⟨o, ho, _, hd⟩, _⟩ b hb
    rcases two hb with rfl | rfl
    · exact ⟨_, he, fun v q => nomatch q⟩
    · exact ⟨o, ho, fun v q => by rw [hd] at q; cases q⟩
  · rintro i h h' ⟨⟨old, he⟩, hi, ne⟩ k
    exact ⟨⟨old, k e (by simp) _ he⟩, hi.at fun o q => k it (by simp) o q, ne⟩
  · intro X hP hw hK hc i pins s σ H E I hf st hg
    subst hP hw hK
    obtain ⟨⟨old, he⟩, hit, ne⟩ := st
    obtain ⟨xs, x, hq, hx⟩ := hg
    obtain ⟨its, rv, p, _⟩ := I.tuple hq
    obtain ⟨u, hu, ru⟩ := rv.get hx
    have le : e < s.heap.objs.size := Heap.lt_size he
    have li : it < s.heap.objs.size := by obtain ⟨_, q, _⟩ := hit; exact Heap.lt_size q
    have ea : e ≠ a := fun z => by
      obtain ⟨o, ho, hcl, _⟩ := p
      rw [← z, he] at ho
      cases ho
      exact absurd (Value.type.inj hcl) (by decide)
    have ia : a ≠ it := fun z => by
      obtain ⟨o, ho, hcl, _⟩ := p
      obtain ⟨o2, ho2, hcl2, _⟩ := hit
      rw [z, ho2] at ho
      cases ho
      rw [hcl2] at hcl
      exact absurd (Value.type.inj hcl) (by decide)
    have ilt : i < its.toArray.size := by
      have := (List.getElem?_eq_some_iff.mp hu).1
      simpa using this
    refine wpAny_pyNext_enum_itemD (Draws.tuple (A := X.A.in1) (I.ok.hd hc) it a ia its.toArray) he ⟨hit, p⟩ ilt ne (by simp [ne, ea]) fun y h' tk hy ho st' hT hsz hk => ?_
    obtain rfl : y = u := by
      have hy' : its[i]? = some y := by simpa using hy
      rw [hu] at hy'
      exact (Option.some.inj hy').symm
    refine ⟨_, rfl, wpAny_letOwnedTupleGo_enum (s := { s with heap := h', toks := tk + 1 }) ho fun h2 he2 sb => ?_⟩
    have same : ∀ b, b ≠ e → h2.get? b = h'.get? b := fun b hb => sb.2 b hb
    have T2 : h2.get? s.heap.objs.size = some { cls := .type "tuple", data := .seq #[.int i tk, y] } := (same _ (Nat.ne_of_gt le)).trans hT
    have ok : ObjOk X.prog X.w (upd H s.heap.objs.size (.tup [.int (i : Nat), x])) h2 s.heap.objs.size (.tup [.int (i : Nat), x]) :=
      ⟨by show 2 ≤ sizeLine; decide, [.int i tk, y], .cons ⟨_, rfl⟩ (.cons ru .nil), ⟨_, T2, rfl, _, rfl⟩⟩
    have J : Inv X pins σ (upd H s.heap.objs.size (.tup [.int (i : Nat), x])) { s with heap := h2, toks := tk + 1 } :=
      I.turnedNew (ch := [e, it]) (fun b ob hb q => (same b (fun z => hb (by simp [z]))).trans (hk b ob (fun z => hb (by simp [z])) (fun z => hb (by simp [z])) q)) hf (Nat.le_refl _) ok
    refine ⟨.ref s.heap.objs.size, _, J, rfl, ⟨_, x, rfl, I.hok.fresh (Nat.le_refl _), rfl, fun ys hy => by rw [I.tuple_inj hy hq]; exact hx⟩, ⟨⟨y, ?_⟩, st'.1.at fun o q => (same it (Ne.symm ne)).trans q, ne⟩, fun b hb => ?_⟩
    · rw [show ((i + 1 : Nat) : Int) = (i : Int) + 1 by omega]
      exact he2
    · have lb : b < s.heap.objs.size := by rcases two hb with z | z <;> rw [z] <;> assumption
      rw [upd_ne (Nat.ne_of_lt lb)]
      exact (hf b hb).1
  · intro X hP hw hK hc i pins s σ H E I hf st hg
    subst hP hw hK
    obtain ⟨⟨old, he⟩, hit, ne⟩ := st
    obtain ⟨xs, hq, hx⟩ := hg
    obtain ⟨its, rv, p, _⟩ := I.tuple hq
    obtain ⟨f0, f1, f2, f3, f4, f5⟩ := hf it (by simp)
    have ll := rv.length
    have ia : a ≠ it := fun z => by
      obtain ⟨o, ho, hcl, _⟩ := p
      obtain ⟨o2, ho2, hcl2, _⟩ := hit
      rw [z, ho2] at ho
      cases ho
      rw [hcl2] at hcl
      exact absurd (Value.type.inj hcl) (by decide)
    exact enum_endT (I.ok.hd hc) he hit p ia (by simp; omega) fun h' eb => ⟨rfl, I.turned (t' := s.toks) (fun b o hb q => eb b o hb q) f0 f1 f3 f4 f5⟩
  · exact fun A i s Q E st h => let ⟨⟨_, he⟩, _⟩ := st; wpAny_pyIter_enum he h
where
  enum_endT {prog : Program} {w : World} {A : Around} {E : Value → Shared → Prop} {s : Shared} {e it t : Addr} {i : Nat} {items : Array Value} {old : Value} {Q : Option Value → Shared → Prop} (hh : A.handled = none) (he : IsEnum s.heap e it i old)
      (hit : s.heap.IsTupleIter it t i) (hT : s.heap.IsTuple t items) (ne : t ≠ it) (hx : items.size ≤ i) (hQ : ∀ h', Heap.ExtBut it s.heap h' → Q none { s with heap := h' }) : wpAny (model prog w) A (pyNext (.ref e)) Q E s := by
    have ty : s.TypeIs (.ref e) "enumerate" := ⟨_, he, rfl⟩
    unfold pyNext
    refine wpAny_bind (wpAny_attempt (wpAny_callSpecial?_slot (name := Str.ofString "__next__") ty F.slot_enumerate_next (wpAny_call_entry F.slot_enumerate_next ty F.entry_enumerate_next ?_ (F.args_enumerate_next_1 _))))
    show wpAny _ _ (field (.ref e) 2 >>= _) _ _ _
    refine wpAny_bind (wpAny_field he rfl (x := .ref it) rfl (wpAny_bind (wpAny_nextOf_tuple_end hh hit hT (Array.getElem?_eq_none hx) fun h' x eb ⟨o, ho, hc⟩ => ?_)))
    exact wpAny_bind (wpAny_isInstance (T := "StopIteration") (b := true) ⟨o, ho, hc⟩ isSubtype_stop (wpAny_pure (hQ _ eb)))
def iEnumQ (K : PySem.W.Frag) (ta : TA) : TI := fun σ H R => ta σ H fun vs H1 => ∃ a, vs = [.ref a] ∧ (((∃ xs, SqL K H1 a xs) ∧ R (Ite K a) H1) ∨ ((∃ xs, SqT K H1 a xs) ∧ R (Iten K a) H1))
theorem pi_enumQ {X : Cx} {e : Expr} {ta : TA} {p pos tpos : Pos} {elts : List Expr} {kk : Nat} (hg : Gl X "enumerate") (hm : X.mg "enumerate" = none) (ha : PA X [e] ta) (hs : starEach [e] X.env = [(false, eval e X.env)] := by rfl) :
    PI X (.Tuple elts kk tpos) (.Call (.Name "enumerate" p) [e] [] pos) (iEnumQ X.K ta) := by
  refine ⟨fun pins s σ H R I h => ?_⟩
  refine Call_ (ld_blt I hg hm boot_enumerate (PyProof.Rows.callWith_type1 (thn (ha.run pos pins s σ H _ I h) fun us s1 ⟨vs, H1, I1, r1, q1⟩ => ?_) hs rfl))
  obtain ⟨a, rfl, q1⟩ := q1
  have fp : ∀ b ∈ [s1.heap.objs.size + 1, s1.heap.objs.size], s1.heap.objs.size ≤ b := fun b hb => by
    have e' : b = s1.heap.objs.size + 1 ∨ b = s1.heap.objs.size := by simpa using hb
    rcases e' with z | z <;> rw [z]
    · exact Nat.le_succ _
    · exact Nat.le_refl _
  cases r1 with
  | cons r rr =>
    cases rr
    cases r
    rcases q1 with ⟨⟨xs, hq⟩, q⟩ | ⟨⟨xs, hq⟩, q⟩
    · obtain ⟨its, rv, p', _⟩ := I1.list hq
      refine call_enumerate_list p'.isList fun h' he hit _ hk => wpAny_pyIter_enum he ?_
      exact ⟨s1.heap.objs.size + 1, [s1.heap.objs.size + 1, s1.heap.objs.size], _, _, H1, rfl, I1.kept (t' := s1.toks) hk, turn_enum a (s1.heap.objs.size + 1) s1.heap.objs.size, ⟨⟨.none, he⟩, hit, Nat.succ_ne_self _⟩, fun b hb => I1.fpOk (fp b hb) (I1.hok.fresh (fp b hb)), q⟩
    · obtain ⟨its, rv, p', _⟩ := I1.tuple hq
      refine RT.call_enum_tup (show s1.heap.IsTuple a its.toArray from p') fun h' he hit hk => wpAny_pyIter_enum he ?_
      exact ⟨s1.heap.objs.size + 1, [s1.heap.objs.size + 1, s1.heap.objs.size], _, _, H1, rfl, I1.kept (t' := s1.toks) hk, turn_enumT a (s1.heap.objs.size + 1) s1.heap.objs.size, ⟨⟨.none, he⟩, hit, Nat.succ_ne_self _⟩, fun b hb => I1.fpOk (fp b hb) (I1.hok.fresh (fp b hb)), q⟩
theorem walk_enumT {K : PySem.W.Frag} {a : Addr} {xs : List V} : Walk (Iten K a) xs.length (fun H => SqT K H a xs) (YPair (fun i => some (.int (i : Nat))) (fun i => xs[i]?)) := by
  refine ⟨fun i _ hi q => ⟨xs, xs[i], q, by simp [hi]⟩, fun _ q => ⟨xs, q, Nat.le_refl _⟩, fun i H v H' _ q y => ?_⟩
  obtain ⟨T, x, h1, h2, h3, h4⟩ := y
  exact ⟨T, .int (i : Nat), x, h1, h2, h3, rfl, h4 xs q⟩
end L2
namespace L2
open PySem PySem.Spec PyProof.Rows
/-- a method of a list and such, within a comprehension: the reading is told without the block's own context -/
theorem pe_bmK {X : Cx} {K : PySem.W.Frag} {o e : Expr} {es : List Expr} {to : TE} {t : TA} {name : Str} {apos cpos : Pos} {T id : String} {r : V → List V → Hp → VK → Prop} (pa : PlainAttrs T) (slot : Slot T name id) (hty : typeOf (.builtin id) = pure (.type "method_descriptor"))
    (hm : MtR X id r) (ho : PE X o to) (ha : PA X (e :: es) t) (hK : X.K = K := by rfl) (hbase : attributeBase o name X.env (eval o X.env) = eval o X.env := by rfl)
    (hfew : ((backTo cpos (starEach (e :: es) X.env)).all (fun x => !x.1) && (backToKw cpos (keywordEach [] X.env)).all (fun x => x.1.isSome)
      && decide ((e :: es).length + ([] : List Keyword).length + (if ([] : List Keyword).isEmpty then 0 else 1) < 30)) = true := by rfl)
    (hline : (apos.endLine == cpos.line) = true := by rfl) (hs : starEach (e :: es) X.env = (false, eval e X.env) :: starEach es X.env := by rfl) (hplain : (backTo cpos (starEach es X.env)).any (·.1) = false := by rfl) :
    PE X (.Call (.Attribute o name apos) (e :: es) [] cpos) (tBM K T r to t) := by
  subst hK
  exact pe_bm pa slot hty hm ho ha hbase hfew hline hs hplain
end L2
namespace L2
open PySem PySem.Spec PyProof.Rows
theorem for_enumQ {K : PySem.W.Frag} {a : Addr} {xs : List V} {g : TG} {tb : TS} {D : Ends} {σ : St} {H0 H : Hp} (hq : SqL K H0 a xs ∨ SqT K H0 a xs) (Pv : Nat → St → Hp → Prop) (h0 : Pv 0 σ H) (hl : ∀ i σ' H', i ≤ xs.length → Pv i σ' H' → ∀ ys, (SqL K H0 a ys → SqL K H' a ys) ∧ (SqT K H0 a ys → SqT K H' a ys))
    (hs : ∀ i x t σ H, xs[i]? = some x → Pv i σ H → H t = none → g (.ref t) σ (upd H t (.tup [.int (i : Nat), x])) fun σ2 H2 => tb { D with nx := Pv (i + 1), ct := Pv (i + 1), bk := D.nx } σ2 H2) (hd : ∀ σ H, Pv xs.length σ H → D.nx σ H) :
    ∃ a', [V.ref a] = [V.ref a'] ∧ (((∃ xs, SqL K H a' xs) ∧ ∃ W : Nat → Nat → St → Hp → Prop, (∃ m, W 0 m σ H) ∧ ∀ i m σ H, W i m σ H →
      ((Ite K a').stop i H ∧ D.nx σ H) ∨ ((Ite K a').go i H ∧ ∃ N : St → Hp → Prop, (∀ σ' H', N σ' H' → ∃ m', m' < m ∧ W (i + 1) m' σ' H') ∧ ∀ x H', (Ite K a').yld i H x H' → g x σ H' fun σ2 H2 => tb { D with nx := N, ct := N, bk := D.nx } σ2 H2)) ∨
      ((∃ xs, SqT K H a' xs) ∧ ∃ W : Nat → Nat → St → Hp → Prop, (∃ m, W 0 m σ H) ∧ ∀ i m σ H, W i m σ H →
      ((Iten K a').stop i H ∧ D.nx σ H) ∨ ((Iten K a').go i H ∧ ∃ N : St → Hp → Prop, (∀ σ' H', N σ' H' → ∃ m', m' < m ∧ W (i + 1) m' σ' H') ∧ ∀ x H', (Iten K a').yld i H x H' → g x σ H' fun σ2 H2 => tb { D with nx := N, ct := N, bk := D.nx } σ2 H2))) := by
  have turn : ∀ i x σ H H', i < xs.length → Pv i σ H → YPair (fun i => some (.int (i : Nat))) (fun i => xs[i]?) i H x H' → g x σ H' fun σ2 H2 => tb { D with nx := Pv (i + 1), ct := Pv (i + 1), bk := D.nx } σ2 H2 := by
    rintro i x σ H H' hi p ⟨t, u, v, rfl, nt, rfl, hu, hv⟩
    cases hu
    exact hs i v t σ H hv p nt
  rcases hq with hq | hq
  · exact ⟨a, rfl, .inl ⟨⟨_, (hl 0 σ H (Nat.zero_le _) h0 xs).1 hq⟩, for_it (walk_enum (K := K) (a := a) (xs := xs)) Pv h0 (fun i σ H hi p => (hl i σ H hi p xs).1 hq) turn hd⟩⟩
  · exact ⟨a, rfl, .inr ⟨⟨_, (hl 0 σ H (Nat.zero_le _) h0 xs).2 hq⟩, for_it (walk_enumT (K := K) (a := a) (xs := xs)) Pv h0 (fun i σ H hi p => (hl i σ H hi p xs).2 hq) turn hd⟩⟩
end L2

/-! sorted(xs) of data with a Lean type, any number of them -/
namespace L2
open PySem PySem.Spec PyProof.Rows PySem.W
section
variable {X : Cx}
def rSortedA (α : Type) [DecidableEq α] [DatumOrd α] (K : PySem.W.Frag) : List V → Hp → VK → Prop := fun us H Q => ∃ (a : Addr) (ws : List V) (xs : List α), us = [V.ref a] ∧ SqL K H a ws ∧ DpAll K H ws (xs.map Datum.toD) ∧
  ∀ (ys : List V) (p : Addr), DpAll K H ys ((xs.mergeSort (dataLe false Datum.toD)).map Datum.toD) → (∀ y ∈ ys, y ∈ ws) → H p = none → Q (.ref p) (upd H p (.lst ys))
theorem each_of {α : Type} [DecidableEq α] [DatumOrd α] {K : PySem.W.Frag} {H : Hp} {all : List V} : ∀ {ws : List V} {its : List Value} {xs : List α}, Vals ws its → DpAll K H ws (xs.map Datum.toD) → (∀ y ∈ ws, y ∈ all) →
    EachIs (fun (v : Value) (b : α) => ∃ y : V, RelV y v ∧ Dp K H y (Datum.toD b) ∧ y ∈ all) its xs
  | _, _, [], .nil, .nil, _ => .nil
  | _, _, x :: xs, .cons r rs, .cons d ds, h => .cons ⟨_, r, d, h _ List.mem_cons_self⟩ (each_of rs ds fun y hy => h y (List.mem_cons_of_mem _ hy))
theorem each_back {α : Type} [DecidableEq α] [DatumOrd α] {K : PySem.W.Frag} {H : Hp} {all : List V} {out : List Value} {xs : List α} (h : EachIs (fun (v : Value) (b : α) => ∃ y : V, RelV y v ∧ Dp K H y (Datum.toD b) ∧ y ∈ all) out xs) :
    ∃ ys : List V, Vals ys out ∧ DpAll K H ys (xs.map Datum.toD) ∧ ∀ y ∈ ys, y ∈ all := by
  induction h with
  | nil => exact ⟨[], .nil, .nil, fun y hy => by cases hy⟩
  | cons f _ ih =>
    obtain ⟨y, r, d, m⟩ := f
    obtain ⟨ys, rs, ds, ms⟩ := ih
    refine ⟨y :: ys, .cons r rs, .cons d ds, fun z hz => ?_⟩
    rcases List.mem_cons.mp hz with rfl | hz
    · exact m
    · exact ms z hz
theorem each_mono {α β : Type} {R S : α → β → Prop} (h : ∀ a b, R a b → S a b) : ∀ {as : List α} {bs : List β}, EachIs R as bs → EachIs S as bs
  | _, _, .nil => .nil
  | _, _, .cons r t => .cons (h _ _ r) (each_mono h t)
theorem cr_sortedA (α : Type) [DecidableEq α] [DatumOrd α] (hu : X.A.units + 64 < cLine) (hd : Datum.depth α ≤ 60) (hk : ∀ bs : List α, Sortable (bs.map Datum.toD)) : CallR X (.builtin "sorted") (rSortedA α X.K) := by
  intro pins s σ H vs us Q I r h
  obtain ⟨a, ws, xs, rfl, hs, hda, q⟩ := h
  obtain ⟨its, rv, hl, hz⟩ := I.list hs
  rw [Vals.ref1 r]
  have e := each_of rv hda (fun y hy => hy)
  have er := each_mono (S := fun (v : Value) (b : α) => ∃ as, Reads s.heap v (Datum.toD b) as) (fun v b ⟨y, ry, dy, _⟩ => Dp.reads I _ y v dy ry) e
  have lx : xs.length = its.length := e.length.symm
  refine sorted_data (enc := Datum.toD) hl.isList e er (AllAlike.of fun b b' => DatumOrd.alike b b') (hk xs) (by rw [lx, ← rv.length]; exact hz) (fun b _ => by have := Datum.depth_le b; omega) fun out lo eo => ?_
  obtain ⟨ys, ry, dy, my⟩ := each_back eo
  obtain ⟨ep, he'⟩ := PyProof.Rows.sortedAll_at s.heap its out.toArray
  have hlen : ys.length ≤ sizeLine := by
    rw [ry.length, lo, lx, ← rv.length]
    exact hz
  exact ⟨.ref _, upd H (s.heap.objs.size + 1) (.lst ys), I.laid (t' := s.toks) (fun _ _ => PyProof.Rows.sortedAll_old) (Nat.le_succ _) ⟨hlen, out, ep, ry, he'⟩, rfl, q ys _ dy my (I.hok.fresh (Nat.le_succ _))⟩
end
end L2

/-! set comprehensions of whole numbers -/
namespace L2
open PySem PySem.Spec PyProof.Rows
section
variable {X : Cx}
/-- S with one number more -/
def withI (S : Int → Bool) (c : Int) : Int → Bool := fun j => S j || decide (j = c)
/-- the object of a set that grew -/
def growI (w : World) (D : Addr) (S : Int → Bool) (n : Nat) (c : Int) : HO := SetO w D (withI S c) (if S c = true then n else n + 1)
def noneI (w : World) (D : Addr) : HO := SetO w D (fun _ => false) 0
theorem add_int {pins : List (Addr × Obj)} {σ : St} {H : Hp} {s : Shared} {E : Value → Shared → Prop} {D : Addr} {S : Int → Bool} {n : Nat} {c : Int} {tk : Tok} {Q : Value → Shared → Prop} (I : Inv X pins σ H s) (at_ : H D = some (SetO X.w D S n)) (room : n + 1 < scanBound)
    (next : ∀ s', Inv X pins σ (upd H D (growI X.w D S n c)) s' → Q .none s') : wpAny (model X.prog X.w) X.A (call (.builtin "set.add") [.ref D, .int c tk]) Q E s := by
  refine setR_add (setO_get I at_) room fun h' sb new => next _ ?_
  obtain ⟨o, _, _, _, ho, _⟩ := id new
  exact I.write (e := D) (t' := s.toks + 1) (by rw [at_]; trivial) (.inl rfl) (fun b u hb hu => (sb.2 b hb).trans hu) ⟨o, ho⟩ (setO_new new)
/-- {elt for tg in iter if ..}, elt a whole number -/
def tSetI (w : World) (wi : TI) (g : TG) (tt : TT) (te : TE) (vs : List Nat) : TE := fun σ H Q => wi σ H fun J H1 => ∀ D, H1 D = none → ∃ W : Nat → Nat → Hp → Prop, (∃ m, W 0 m (upd H1 D (noneI w D))) ∧ ∀ i m H, W i m H →
  (J.stop i H ∧ Q (.ref D) H) ∨ (J.go i H ∧ ∃ Nx : Hp → Prop, (∀ H', Nx H' → ∃ m', m' < m ∧ W (i + 1) m' H') ∧ ∀ x H', J.yld i H x H' → g x (wipe σ vs) H' fun σ2 H2 => wipe σ2 vs = wipe σ vs ∧ tt σ2 H2 fun b H3 =>
    if b = true then te σ2 H3 fun y H4 => ∃ (c : Int) (S : Int → Bool) (n : Nat), y = .int c ∧ H4 D = some (SetO w D S n) ∧ n + 1 < scanBound ∧ Nx (upd H4 D (growI w D S n c)) else Nx H3)
theorem seti_core {pins : List (Addr × Obj)} {s : Shared} {σ : St} {H : Hp} {Q : VK} {elt tg iter : Expr} {ifs : List Expr} {scope : Scope} {own : List (PySem.Str × Nat)} {pos pos' : Pos} {wi : TI} {g : TG} {tt : TT} {te : TE} {use : Option (Value → Sem Unit)} {Qf : Value → Shared → Prop}
    (calm : X.calm = true) (nd : X.N.Nodup) (I : Inv X pins σ H s) (hi : PI X tg iter wi) (ok : BlkOk X.N X.env.scope scope own)
    (hg : ∀ (s : Shared) (H : Hp) (C : Addr) (cl : List (PySem.Str × Addr)) (fp : List Addr), PG (X.blk s H scope (compEnvC scope cl C X.env) fp) tg g) (ht : ∀ (s : Shared) (H : Hp) (C : Addr) (cl : List (PySem.Str × Addr)) (fp : List Addr), PTs (X.blk s H scope (compEnvC scope cl C X.env) fp) ifs tt)
    (he : ∀ (s : Shared) (H : Hp) (C : Addr) (cl : List (PySem.Str × Addr)) (fp : List Addr), PE (X.blk s H scope (compEnvC scope cl C X.env) fp) elt te) (plain : ∀ x, foldedSetIterable iter X.env x = pure x)
    (want : tSetI X.w wi g tt te (own.map (·.2)) σ H Q)
    (back : ∀ D C s' m H', Inv X pins σ H' s' → Q (.ref D) H' → s'.heap.Ns C m → FpOk X pins H' C → compPost (model X.prog X.w) X.A X.xe use Qf (.ref D) C (.ok .next) s') :
    wpAny (model X.prog X.w) X.A (comprehension (.SetComp elt [⟨tg, iter, ifs, 0⟩] scope pos) scope X.env pos' (newSet (.type "set")) false (eval iter X.env) use) Qf X.xe s := by
  have cells : ∀ y ∈ scope.names, y.2 = .free → ∃ c, X.env.cells.lookup y.1 = some c := fun y hy e => (ok.free y hy e).elim (fun k => I.ok.has _ (.inl k)) (fun k => I.ok.has _ (.inr k))
  refine wpAny_comprehension_free (use := use) rfl plain (closure_ok cells) ok.kind (fun y hy e => by rw [ok.uniq y hy, e]) (thn (hi.run pins s σ H _ I want) fun v1 s1 h1 => thn h1 fun v2 s2 h2 => ?_)
  obtain ⟨it, fp, tn, J, Hi, rfl, Ii, T, sti, fpi, q⟩ := h2
  refine PpSet.newSet_ok (newEnv_comp ?_)
  generalize eD : s2.heap.objs.size = D
  obtain ⟨W, ⟨m0, w0⟩, turn⟩ := q D (Ii.hok.fresh (Nat.le_of_eq eD))
  generalize eO : ({ cls := .type "set", dict := none, data := .set #[] 0 (.fresh 0 0 (!X.w.params.followText "set-order")) } : Obj) = O
  generalize es : ({ s2 with heap := s2.heap.push O } : Shared) = sA
  have hA : sA.heap = s2.heap.push O := by rw [← es]
  have emp : SetR X.w (s2.heap.push O) s2.heap.objs.size (fun _ => false) 0 := by
    rw [← eO]
    refine ⟨_, #[], 0, _, Heap.get?_push_size _ rfl, ⟨rfl, rfl, rfl⟩, rfl, (fun e he => by simp at he), (by simp), (fun k => by simp), (by decide), (by rfl), rfl, List.Pairwise.nil, ?_⟩
    show _ ∨ (!X.w.params.followText "set-order") = true
    cases X.w.params.followText "set-order" <;> simp
  have IA : Inv X pins σ (upd Hi D (noneI X.w D)) sA := by
    rw [← es]
    refine Ii.laid (t' := s2.toks) (fun b o e => Heap.get?_push_of_some _ e) (Nat.le_of_eq eD) ?_
    rw [← eD]
    exact setO_new emp
  have small : ∀ b ∈ fp, b < s2.heap.objs.size := fun b hb => by
    obtain ⟨o, e, _⟩ := T.obj _ _ sti b hb
    exact Heap.lt_size e
  have fpA : ∀ b ∈ fp, FpOk X pins (upd Hi D (noneI X.w D)) b ∧ b < sA.heap.objs.size := fun b hb => by
    have lt := small b hb
    refine ⟨⟨?_, (fpi b hb).2⟩, by rw [hA, Heap.size_push]; exact Nat.lt_succ_of_lt lt⟩
    rw [upd_ne (by rw [← eD]; exact Nat.ne_of_lt lt)]
    exact (fpi b hb).1
  have stA : tn 0 sA.heap := T.keep _ _ _ sti fun b _ o e => by rw [hA]; exact Heap.get?_push_of_some _ e
  have IB := block_start IA ok nd fpA
  have pg := hg sA (upd Hi D (noneI X.w D)) sA.heap.objs.size (cellsFrom (sA.heap.objs.size + 1) scope.names (cloFrom X.env.cells scope.names [])) fp
  have pt := ht sA (upd Hi D (noneI X.w D)) sA.heap.objs.size (cellsFrom (sA.heap.objs.size + 1) scope.names (cloFrom X.env.cells scope.names [])) fp
  have pe := he sA (upd Hi D (noneI X.w D)) sA.heap.objs.size (cellsFrom (sA.heap.objs.size + 1) scope.names (cloFrom X.env.cells scope.names [])) fp
  have apart : ∀ b ∈ fp, (upd Hi D (noneI X.w D)) b = none := fun b hb => (fpA b hb).1.1
  show codeAny _ _ (.compStart (.SetComp elt [⟨tg, iter, ifs, 0⟩] scope pos) 0 (.ref it) (.ref D) (compEnvC scope (cellsFrom (sA.heap.objs.size + 1) scope.names (cloFrom X.env.cells scope.names [])) sA.heap.objs.size X.env)) (compPost (model X.prog X.w) X.A X.xe use Qf (.ref D) sA.heap.objs.size) { sA with heap := pushCells (sA.heap.push { cls := .type "dict", data := .dict #[] }) scope.names }
  generalize ec : compEnvC scope (cellsFrom (sA.heap.objs.size + 1) scope.names (cloFrom X.env.cells scope.names [])) sA.heap.objs.size X.env = ce at IB pg pt pe ⊢
  have locC : ce.locals = sA.heap.objs.size := by rw [← ec]; rfl
  generalize upd Hi D (noneI X.w D) = HA at IA IB pg pt pe w0 apart fpA
  generalize eB : ({ sA with heap := pushCells (sA.heap.push { cls := .type "dict", data := .dict #[] }) scope.names } : Shared) = sB at IB ⊢
  have stB : tn 0 sB.heap := T.keep _ _ _ stA fun b _ o e => by rw [← eB]; exact pushCells_keeps _ _ _ _ (Heap.get?_push_of_some _ e)
  have stands : ∀ {σ' : St} {H' : Hp} {s' : Shared}, Inv (X.blk sA HA scope ce fp) [] σ' H' s' → (∀ b ∈ fp, H' b = none) → ∀ b ∈ fp, FpOk (X.blk sA HA scope ce fp) [] H' b := fun {σ' H' s'} J' free b hb =>
    ⟨free b hb, (J'.ok.exf b hb).1, J'.ok.exfs b hb, .inl hb, fun x c e => (J'.ok.exf b hb).2 x c e, fun p hp => absurd (show p ∈ ([] : List (Addr × Obj)) ++ [] from hp) (by simp)⟩
  have loop : codeAny (model X.prog X.w) X.A (.compLoop (.SetComp elt [⟨tg, iter, ifs, 0⟩] scope pos) 0 (.ref it) (.ref D) ce) (compPost (model X.prog X.w) X.A X.xe use Qf (.ref D) sA.heap.objs.size) sB := by
    refine PpSet.compLoopS_any (fun k s' => ∃ i H', Inv (X.blk sA HA scope ce fp) [] (wipe σ (own.map (·.2))) H' s' ∧ tn i s'.heap ∧ (∀ b ∈ fp, H' b = none) ∧ W i k H') ?_ m0 ⟨0, HA, IB, stB, apart, w0⟩
    rintro k sC ⟨i, HC, IC, stC, freeC, wC⟩
    rcases turn i k HC wC with ⟨ends, done⟩ | ⟨goes, Nx, fall, step⟩
    · refine thnF (T.done (X.blk sA HA scope ce fp) rfl rfl rfl calm i [] sC _ HC (fun _ _ => False) IC (stands IC freeC) stC ends) fun r sE ⟨hr, IE⟩ => ?_
      subst hr
      have IF : Inv X pins σ HC sE := IA.call' (ch := fp) IE.os IE.base IE.hok IE.bare fun b hb => ⟨(fpA b hb).1.2.2.2.1, (fpA b hb).1.2.1, (fpA b hb).1.2.2.2.2.1, (fpA b hb).1.2.2.2.2.2⟩
      have freeL : HC sA.heap.objs.size = none := by rw [← locC]; exact IE.free
      obtain ⟨mm, hn, _⟩ := IE.loc
      have hn : sE.heap.Ns ce.locals mm := hn
      rw [locC] at hn
      exact back D sA.heap.objs.size sE mm HC IF done hn (IA.fpOk (Nat.le_refl _) freeL)
    · refine thnF (T.item (X.blk sA HA scope ce fp) rfl rfl rfl calm i [] sC _ HC (fun _ _ => False) IC (stands IC freeC) stC goes) fun r sE ⟨u, hr, hE⟩ => ?_
      subst hr
      refine thnF hE fun _ sF ⟨x, HF, IF, rx, yF, stF, freeF⟩ => ?_
      refine thnF (pg.run _ sF _ HF x u _ (IF.pinned (stands IF freeF) (T.obj _ _ stF)) rx (step x HF yF)) fun _ sG ⟨σG, HG, IG, wip, qG⟩ => ?_
      refine thnF (pt.run _ sG σG HG _ IG qG) fun b sH ⟨HH, IH, qH⟩ => ?_
      have fin : ∀ {s' : Shared} {H' : Hp}, Inv (X.blk sA HA scope ce fp) ([] ++ pinsAt fp sF.heap) σG H' s' → Nx H' → ∃ m, m < k ∧ ∃ i H', Inv (X.blk sA HA scope ce fp) [] (wipe σ (own.map (·.2))) H' s' ∧ tn i s'.heap ∧ (∀ b ∈ fp, H' b = none) ∧ W i m H' := fun {s' H'} J' nx => by
        obtain ⟨m', lt, w'⟩ := fall H' nx
        have pinned : ∀ b ∈ fp, ∀ o, sF.heap.get? b = some o → s'.heap.get? b = some o ∧ H' b = none := fun b hb o e => by
          have z := J'.pin (b, o) (List.mem_append_right _ (List.mem_append_right _ (mem_pinsAt hb e)))
          exact ⟨z.1, z.2.1⟩
        refine ⟨m', lt, i + 1, H', (J'.unpinned (pins := [])).weak (by rw [← wip, wipe_length]) (fun j v e => by rw [← wip] at e; exact (wipe_some e).1), T.keep _ _ _ stF fun b hb o e => (pinned b hb o e).1, fun b hb => ?_, w'⟩
        obtain ⟨o, e, _⟩ := T.obj _ _ stF b hb
        exact (pinned b hb o e).2
      cases b with
      | false => exact fin IH (by simpa using qH)
      | true =>
        simp only [if_true] at qH ⊢
        refine thnF (pe.run _ sH σG HH _ IH qH) fun z sI ⟨yv, HI, II, rI', c, S0, n0, ey, atD, rm, nx⟩ => ?_
        subst ey
        obtain ⟨tk, rfl⟩ := rI'
        exact add_int (X := X.blk sA HA scope ce fp) II atD rm fun s11 I11 => fin I11 nx
  exact PpSet.codeAny_compStart_set loop (T.self X.A 0 _ _ _ stB loop)
theorem pe_seti {w : World} {elt tg iter : Expr} {ifs : List Expr} {scope : Scope} {own : List (PySem.Str × Nat)} {pos : Pos} {wi : TI} {g : TG} {tt : TT} {te : TE} (calm : X.calm = true) (nd : X.N.Nodup) (hi : PI X tg iter wi) (ok : BlkOk X.N X.env.scope scope own)
    (hg : ∀ (s : Shared) (H : Hp) (C : Addr) (cl : List (PySem.Str × Addr)) (fp : List Addr), PG (X.blk s H scope (compEnvC scope cl C X.env) fp) tg g) (ht : ∀ (s : Shared) (H : Hp) (C : Addr) (cl : List (PySem.Str × Addr)) (fp : List Addr), PTs (X.blk s H scope (compEnvC scope cl C X.env) fp) ifs tt)
    (he : ∀ (s : Shared) (H : Hp) (C : Addr) (cl : List (PySem.Str × Addr)) (fp : List Addr), PE (X.blk s H scope (compEnvC scope cl C X.env) fp) elt te) (hw : X.w = w := by rfl) (plain : ∀ x, foldedSetIterable iter X.env x = pure x := by intro _; rfl) :
    PE X (.SetComp elt [⟨tg, iter, ifs, 0⟩] scope pos) (tSetI w wi g tt te (own.map (·.2))) := by
  subst hw
  refine ⟨fun pins s σ H Q I h => ?_⟩
  rw [PpSet.eval_SetComp]
  refine seti_core calm nd I hi ok hg ht he plain h fun D C s' m H' J q hn ⟨f0, f1, f2, f3, f4, f5⟩ => ⟨m, hn, fun h'' sb => ?_⟩
  exact ⟨.ref D, H', J.turned (t' := s'.toks) (fun b o hb e => (sb.2 b hb).trans e) f0 f1 f3 f4 f5, rfl, q⟩
end
end L2
namespace L2
open PySem PySem.Spec PyProof.Rows
theorem seti_it {J : It} {n : Nat} {G : Hp → Prop} {Y : Nat → Hp → V → Hp → Prop} (wk : Walk J n G Y) {w : World} {g : TG} {tt : TT} {te : TE} {vs : List Nat} {σ : St} {H1 : Hp} {D : Addr} {Qd : Hp → Prop} (Pv : Nat → Hp → Prop) (h0 : Pv 0 (upd H1 D (noneI w D))) (hG : ∀ i H, i ≤ n → Pv i H → G H)
    (hs : ∀ i x H H', i < n → Pv i H → Y i H x H' → g x (wipe σ vs) H' fun σ2 H2 => wipe σ2 vs = wipe σ vs ∧ tt σ2 H2 fun b H3 =>
      if b = true then te σ2 H3 fun y H4 => ∃ (c : Int) (S : Int → Bool) (k : Nat), y = .int c ∧ H4 D = some (SetO w D S k) ∧ k + 1 < scanBound ∧ Pv (i + 1) (upd H4 D (growI w D S k c)) else Pv (i + 1) H3) (hd : ∀ H, Pv n H → Qd H) :
    ∃ W : Nat → Nat → Hp → Prop, (∃ m, W 0 m (upd H1 D (noneI w D))) ∧ ∀ i m H, W i m H →
      (J.stop i H ∧ Qd H) ∨ (J.go i H ∧ ∃ Nx : Hp → Prop, (∀ H', Nx H' → ∃ m', m' < m ∧ W (i + 1) m' H') ∧ ∀ x H', J.yld i H x H' → g x (wipe σ vs) H' fun σ2 H2 => wipe σ2 vs = wipe σ vs ∧ tt σ2 H2 fun b H3 =>
        if b = true then te σ2 H3 fun y H4 => ∃ (c : Int) (S : Int → Bool) (k : Nat), y = .int c ∧ H4 D = some (SetO w D S k) ∧ k + 1 < scanBound ∧ Nx (upd H4 D (growI w D S k c)) else Nx H3) := by
  refine ⟨fun i m H => m = n - i ∧ i ≤ n ∧ Pv i H, ⟨n, by simp, Nat.zero_le _, h0⟩, ?_⟩
  rintro i m H ⟨rfl, hi, p⟩
  have q := hG i H hi p
  by_cases hlt : i < n
  · exact .inr ⟨wk.goes i H hlt q, Pv (i + 1), fun H' p' => ⟨n - (i + 1), by omega, rfl, hlt, p'⟩, fun x H' y => hs i x H H' hlt p (wk.yields i H x H' hlt q y)⟩
  · have e : i = n := by omega
    subst e
    exact .inl ⟨wk.stops H q, hd H p⟩
theorem seti_seq {K : PySem.W.Frag} {w : World} {a : Addr} {xs : List V} {g : TG} {tt : TT} {te : TE} {vs : List Nat} {σ : St} {H : Hp} {Qd : Addr → Hp → Prop} (hq : SqL K H a xs ∨ SqT K H a xs) (Pv : Addr → Nat → Hp → Prop) (h0 : ∀ D, H D = none → Pv D 0 (upd H D (noneI w D)))
    (hl : ∀ D i H', H D = none → i ≤ xs.length → Pv D i H' → (SqL K H a xs → SqL K H' a xs) ∧ (SqT K H a xs → SqT K H' a xs))
    (hs : ∀ D i x H', H D = none → xs[i]? = some x → Pv D i H' → g x (wipe σ vs) H' fun σ2 H2 => wipe σ2 vs = wipe σ vs ∧ tt σ2 H2 fun b H3 =>
      if b = true then te σ2 H3 fun y H4 => ∃ (c : Int) (S : Int → Bool) (k : Nat), y = .int c ∧ H4 D = some (SetO w D S k) ∧ k + 1 < scanBound ∧ Pv D (i + 1) (upd H4 D (growI w D S k c)) else Pv D (i + 1) H3)
    (hd : ∀ D H', H D = none → Pv D xs.length H' → Qd D H') :
    ∃ a', V.ref a = V.ref a' ∧ (((∃ xs, SqL K H a' xs) ∧ ∀ D, H D = none → ∃ W : Nat → Nat → Hp → Prop, (∃ m, W 0 m (upd H D (noneI w D))) ∧ ∀ i m H, W i m H →
      ((Itl K a').stop i H ∧ Qd D H) ∨ ((Itl K a').go i H ∧ ∃ Nx : Hp → Prop, (∀ H', Nx H' → ∃ m', m' < m ∧ W (i + 1) m' H') ∧ ∀ x H', (Itl K a').yld i H x H' → g x (wipe σ vs) H' fun σ2 H2 => wipe σ2 vs = wipe σ vs ∧ tt σ2 H2 fun b H3 =>
        if b = true then te σ2 H3 fun y H4 => ∃ (c : Int) (S : Int → Bool) (k : Nat), y = .int c ∧ H4 D = some (SetO w D S k) ∧ k + 1 < scanBound ∧ Nx (upd H4 D (growI w D S k c)) else Nx H3)) ∨
      ((∃ xs, SqT K H a' xs) ∧ ∀ D, H D = none → ∃ W : Nat → Nat → Hp → Prop, (∃ m, W 0 m (upd H D (noneI w D))) ∧ ∀ i m H, W i m H →
      ((Itt K a').stop i H ∧ Qd D H) ∨ ((Itt K a').go i H ∧ ∃ Nx : Hp → Prop, (∀ H', Nx H' → ∃ m', m' < m ∧ W (i + 1) m' H') ∧ ∀ x H', (Itt K a').yld i H x H' → g x (wipe σ vs) H' fun σ2 H2 => wipe σ2 vs = wipe σ vs ∧ tt σ2 H2 fun b H3 =>
        if b = true then te σ2 H3 fun y H4 => ∃ (c : Int) (S : Int → Bool) (k : Nat), y = .int c ∧ H4 D = some (SetO w D S k) ∧ k + 1 < scanBound ∧ Nx (upd H4 D (growI w D S k c)) else Nx H3))) := by
  rcases hq with hq | hq
  · refine ⟨a, rfl, .inl ⟨⟨_, hq⟩, fun D nD => seti_it (walk_list (K := K) (a := a) (xs := xs)) (Pv D) (h0 D nD) (fun i H' hi p => (hl D i H' nD hi p).1 hq) ?_ (fun H' p => hd D H' nD p)⟩⟩
    rintro i x H1 H2 hi p ⟨rfl, hx⟩
    exact hs D i x _ nD hx p
  · refine ⟨a, rfl, .inr ⟨⟨_, hq⟩, fun D nD => seti_it (walk_tup (K := K) (a := a) (xs := xs)) (Pv D) (h0 D nD) (fun i H' hi p => (hl D i H' nD hi p).2 hq) ?_ (fun H' p => hd D H' nD p)⟩⟩
    rintro i x H1 H2 hi p ⟨rfl, hx⟩
    exact hs D i x _ nD hx p
/-- what a set of natural numbers holds -/
structure SetIs (l : List Nat) (S : Int → Bool) (n : Nat) : Prop where
  nd : l.Nodup
  len : n = l.length
  iff : ∀ j : Int, S j = true ↔ ∃ x ∈ l, (x : Int) = j
theorem SetIs.none : SetIs [] (fun _ => false) 0 := ⟨List.nodup_nil, rfl, fun j => ⟨fun h => Bool.noConfusion h, fun ⟨x, hx, _⟩ => (by cases hx)⟩⟩
theorem SetIs.grow {l : List Nat} {S : Int → Bool} {n : Nat} (h : SetIs l S n) (x : Nat) : ∃ l', SetIs l' (withI S (x : Int)) (if S (x : Int) = true then n else n + 1) ∧ ∀ y, y ∈ l' ↔ y ∈ l ∨ y = x := by
  by_cases c : S (x : Int) = true
  · obtain ⟨z, hz, e⟩ := (h.iff _).mp c
    have ez : z = x := by omega
    subst ez
    refine ⟨l, ⟨h.nd, by rw [if_pos c]; exact h.len, fun j => ?_⟩, fun y => ⟨.inl, fun q => q.elim id fun e => e ▸ hz⟩⟩
    unfold withI
    rw [Bool.or_eq_true, decide_eq_true_eq, h.iff]
    exact ⟨fun q => q.elim id fun e => ⟨z, hz, e.symm⟩, .inl⟩
  · have nx : x ∉ l := fun hx => c ((h.iff _).mpr ⟨x, hx, rfl⟩)
    refine ⟨l ++ [x], ⟨List.nodup_append.mpr ⟨h.nd, by simp, fun a ha b hb e => ?_⟩, by rw [if_neg c, List.length_append, h.len]; rfl, fun j => ?_⟩, fun y => by simp⟩
    · rw [List.mem_singleton.mp hb] at e
      exact nx (e ▸ ha)
    · unfold withI
      rw [Bool.or_eq_true, decide_eq_true_eq, h.iff]
      constructor
      · rintro (⟨z, hz, e⟩ | e)
        · exact ⟨z, List.mem_append_left _ hz, e⟩
        · exact ⟨x, List.mem_append_right _ (List.mem_singleton.mpr rfl), e.symm⟩
      · rintro ⟨z, hz, e⟩
        rcases List.mem_append.mp hz with hz | hz
        · exact .inl ⟨z, hz, e⟩
        · rw [List.mem_singleton.mp hz] at e
          exact .inr e.symm
theorem rising_uniq : ∀ {l m : List Int}, l.Pairwise (· < ·) → m.Pairwise (· < ·) → (∀ x, x ∈ l ↔ x ∈ m) → l = m
  | [], [], _, _, _ => rfl
  | [], y :: m, _, _, h => absurd ((h y).mpr List.mem_cons_self) (by simp)
  | x :: l, [], _, _, h => absurd ((h x).mp List.mem_cons_self) (by simp)
  | x :: l, y :: m, hl, hm, h => by
    obtain ⟨l1, l2⟩ := List.pairwise_cons.mp hl
    obtain ⟨m1, m2⟩ := List.pairwise_cons.mp hm
    have e : x = y := by
      rcases List.mem_cons.mp ((h x).mp List.mem_cons_self) with e | hx
      · exact e
      · rcases List.mem_cons.mp ((h y).mpr List.mem_cons_self) with e | hy
        · exact e.symm
        · have := m1 x hx
          have := l1 y hy
          omega
    subst e
    refine congrArg _ (rising_uniq l2 m2 fun z => ⟨fun hz => ?_, fun hz => ?_⟩)
    · rcases List.mem_cons.mp ((h z).mp (List.mem_cons_of_mem _ hz)) with e | q
      · have := l1 z hz
        omega
      · exact q
    · rcases List.mem_cons.mp ((h z).mpr (List.mem_cons_of_mem _ hz)) with e | q
      · have := m1 z hz
        omega
      · exact q
end L2

/-! Mathematics of law_k28: chains by layers, the least of each kind. Plain Lean. -/
namespace K28
open K02
abbrev Row := List Nat
def last (r : Row) : Nat := r.getLast?.getD 0
def lotN (r : Row) : Nat := r.foldl (fun a k => a ||| 2 ^ k) 0
theorem lot_snoc (r : Row) (k : Nat) : lotN (r ++ [k]) = lotN r ||| 2 ^ k := by
  unfold lotN
  rw [List.foldl_append]
  rfl
theorem last_snoc (r : Row) (k : Nat) : last (r ++ [k]) = k := by
  unfold last
  rw [List.getLast?_concat]
  rfl
theorem head_snoc (r : Row) (k : Nat) (h : r ≠ []) : (r ++ [k]).headD 0 = r.headD 0 := by
  cases r with
  | nil => exact (h rfl).elim
  | cons x r => rfl
theorem bit_fold : ∀ (r : Row) (a j : Nat), (r.foldl (fun a k => a ||| 2 ^ k) a).testBit j = (a.testBit j || r.contains j)
  | [], a, j => by simp
  | k :: r, a, j => by
    rw [List.foldl_cons, bit_fold r, Nat.testBit_or, Nat.testBit_two_pow, List.contains_cons, Bool.or_assoc]
    congr 2
    by_cases e : k = j
    · simp [e]
    · have e' : ¬ j = k := fun z => e z.symm
      simp [e, e']
theorem bit_lot (r : Row) (j : Nat) : (lotN r).testBit j = r.contains j := by
  unfold lotN
  rw [bit_fold, Nat.zero_testBit, Bool.false_or]
def key (r : Row) : Nat × Nat × Nat := (lotN r, r.headD 0, last r)
/-! ### layers -/
def ext1 (aft : Nat → List Nat) (r : Row) : List Row := ((aft (last r)).filter fun k => !r.contains k).map fun k => r ++ [k]
def ext (aft : Nat → List Nat) (L : List Row) : List Row := L.flatMap (ext1 aft)
def lay (aft : Nat → List Nat) (m : Nat) : Nat → List Row
  | 0 => (List.range m).map fun k => [k]
  | s + 1 => ext aft (lay aft m s)
structure Wf (m s : Nat) (r : Row) : Prop where
  len : r.length = s + 1
  nd : r.Nodup
  lt : ∀ k ∈ r, k < m
theorem Wf.ne {m s : Nat} {r : Row} (h : Wf m s r) : r ≠ [] := fun z => by have := h.len; rw [z] at this; simp at this
theorem mem_ext1 {aft : Nat → List Nat} {r y : Row} : y ∈ ext1 aft r ↔ ∃ k, k ∈ aft (last r) ∧ k ∉ r ∧ y = r ++ [k] := by
  unfold ext1
  constructor
  · intro h
    obtain ⟨k, hk, rfl⟩ := List.mem_map.mp h
    obtain ⟨h1, h2⟩ := List.mem_filter.mp hk
    exact ⟨k, h1, by simpa using h2, rfl⟩
  · rintro ⟨k, h1, h2, rfl⟩
    exact List.mem_map.mpr ⟨k, List.mem_filter.mpr ⟨h1, by simpa using h2⟩, rfl⟩
theorem lay_wf {aft : Nat → List Nat} {m : Nat} (ha : ∀ v, ∀ k ∈ aft v, k < m) : ∀ s, ∀ r ∈ lay aft m s, Wf m s r
  | 0, r, h => by
    obtain ⟨k, hk, rfl⟩ := List.mem_map.mp h
    exact ⟨rfl, by simp, fun x hx => by rw [List.mem_singleton.mp hx]; exact List.mem_range.mp hk⟩
  | s + 1, r, h => by
    obtain ⟨x, hx, hr⟩ := List.mem_flatMap.mp h
    obtain ⟨k, h1, h2, rfl⟩ := mem_ext1.mp hr
    have w := lay_wf ha s x hx
    refine ⟨by rw [List.length_append, w.len]; rfl, List.nodup_append.mpr ⟨w.nd, by simp, fun a ha b hb e => ?_⟩, fun y hy => ?_⟩
    · rw [List.mem_singleton.mp hb] at e
      exact h2 (e ▸ ha)
    · rcases List.mem_append.mp hy with hy | hy
      · exact w.lt y hy
      · rw [List.mem_singleton.mp hy]
        exact ha _ k h1
theorem last_mem {r : Row} (h : r ≠ []) : last r ∈ r := by
  unfold last
  rw [List.getLast?_eq_getLast h]
  exact List.getLast_mem h
theorem ext1_len {aft : Nat → List Nat} {m s : Nat} {r : Row} (ha : ∀ v, (∀ k ∈ aft v, k < m) ∧ (aft v).Nodup) (w : Wf m s r) : (ext1 aft r).length + 1 ≤ m := by
  unfold ext1
  rw [List.length_map]
  have hl := last_mem w.ne
  have := nodup_len m (last r :: ((aft (last r)).filter fun k => !r.contains k)) (List.nodup_cons.mpr ⟨fun z => by
    have := (List.mem_filter.mp z).2
    simp [hl] at this, ((ha _).2).sublist (List.filter_sublist)⟩) (fun x hx => by
    rcases List.mem_cons.mp hx with rfl | hx
    · exact w.lt _ hl
    · exact (ha _).1 x (List.mem_filter.mp hx).1)
  simpa using this
theorem flat_len {α β : Type} (f : α → List β) (c : Nat) : ∀ L : List α, (∀ x ∈ L, (f x).length ≤ c) → (L.flatMap f).length ≤ c * L.length
  | [], _ => by simp
  | x :: L, h => by
    rw [List.flatMap_cons, List.length_append, List.length_cons, Nat.mul_succ]
    have := flat_len f c L fun y hy => h y (List.mem_cons_of_mem _ hy)
    have := h x List.mem_cons_self
    omega
theorem lay_len {aft : Nat → List Nat} {m : Nat} (hm : m ≤ 8) (ha : ∀ v, (∀ k ∈ aft v, k < m) ∧ (aft v).Nodup) : ∀ s, (lay aft m s).length ≤ 8 * 7 ^ s
  | 0 => by
    show ((List.range m).map _).length ≤ 8 * 1
    rw [List.length_map, List.length_range]
    omega
  | s + 1 => by
    have ih := lay_len hm ha s
    have := flat_len (ext1 aft) 7 (lay aft m s) fun x hx => by
      have := ext1_len ha (lay_wf (fun v => (ha v).1) s x hx)
      omega
    show ((lay aft m s).flatMap (ext1 aft)).length ≤ _
    rw [Nat.pow_succ]
    omega
theorem lay_end {aft : Nat → List Nat} {m : Nat} (ha : ∀ v, ∀ k ∈ aft v, k < m) {s : Nat} (h : m ≤ s) : lay aft m s = [] := by
  cases e : lay aft m s with
  | nil => rfl
  | cons r L =>
    have w := lay_wf ha s r (by rw [e]; exact List.mem_cons_self)
    have := nodup_len m r w.nd w.lt
    rw [w.len] at this
    omega
/-! ### in order -/
theorem lex_snoc_lt : ∀ {a b : Row} (x y : Row), a.length = b.length → lexLt a b = true → lexLt (a ++ x) (b ++ y) = true
  | [], [], x, y, _, h => by cases h
  | [], _ :: _, _, _, h, _ => by simp at h
  | _ :: _, [], _, _, h, _ => by simp at h
  | p :: a, q :: b, x, y, hl, h => by
    unfold lexLt at h
    show lexLt (p :: (a ++ x)) (q :: (b ++ y)) = true
    unfold lexLt
    by_cases e : p = q
    · rw [if_pos e] at h ⊢
      exact lex_snoc_lt x y (by simpa using hl) h
    · rw [if_neg e] at h ⊢
      exact h
theorem lex_same_snoc : ∀ (a : Row) {x y : Nat}, x < y → lexLt (a ++ [x]) (a ++ [y]) = true
  | [], x, y, h => by
    show lexLt [x] [y] = true
    unfold lexLt
    rw [if_neg (by omega)]
    exact decide_eq_true h
  | p :: a, x, y, h => by
    show lexLt (p :: (a ++ [x])) (p :: (a ++ [y])) = true
    unfold lexLt
    rw [if_pos rfl]
    exact lex_same_snoc a h
theorem lay_sorted {aft : Nat → List Nat} {m : Nat} (ha : ∀ v, ∀ k ∈ aft v, k < m) (hs : ∀ v, (aft v).Pairwise (· < ·)) : ∀ s, (lay aft m s).Pairwise fun a b => lexLt a b = true
  | 0 => by
    refine List.pairwise_map.mpr (List.Pairwise.imp ?_ List.pairwise_lt_range)
    intro a b h
    exact lex_same_snoc [] h
  | s + 1 => by
    have ih := lay_sorted ha hs s
    have wf := lay_wf ha s
    show ((lay aft m s).flatMap (ext1 aft)).Pairwise _
    refine List.pairwise_flatMap.mpr ⟨fun r hr => ?_, ?_⟩
    · unfold ext1
      refine List.pairwise_map.mpr ?_
      refine List.Pairwise.imp ?_ (List.Pairwise.sublist (List.filter_sublist) (hs (last r)))
      intro a b h
      exact lex_same_snoc r h
    · refine List.Pairwise.imp_of_mem ?_ ih
      intro a b hma hmb h x hx y hy
      obtain ⟨k, _, _, rfl⟩ := mem_ext1.mp hx
      obtain ⟨l, _, _, rfl⟩ := mem_ext1.mp hy
      exact lex_snoc_lt _ _ (by rw [(wf a hma).len, (wf b hmb).len]) h
/-! ### the first of each kind -/
def dstep (acc : List Row) (r : Row) : List Row := if acc.any (fun x => key x == key r) then acc else acc ++ [r]
def ded (L : List Row) : List Row := L.foldl dstep []
theorem ded_snoc (L : List Row) (r : Row) : ded (L ++ [r]) = dstep (ded L) r := by
  unfold ded
  rw [List.foldl_append]
  rfl
theorem snoc_ind {α : Type} {P : List α → Prop} (h0 : P []) (h1 : ∀ L x, P L → P (L ++ [x])) : ∀ L, P L := by
  have key : ∀ B A, P A → P (A ++ B) := by
    intro B
    induction B with
    | nil => intro A h; rwa [List.append_nil]
    | cons b B ih =>
      intro A h
      have := ih (A ++ [b]) (h1 A b h)
      rwa [List.append_assoc] at this
  intro L
  exact key L [] h0
theorem any_key {L : List Row} {K : Nat × Nat × Nat} : L.any (fun x => key x == K) = true ↔ ∃ x ∈ L, key x = K := by simp
theorem ded_keys (K : Nat × Nat × Nat) : ∀ L : List Row, (∃ x ∈ ded L, key x = K) ↔ ∃ x ∈ L, key x = K := by
  refine snoc_ind ?_ fun L r ih => ?_
  · simp [ded]
  · rw [ded_snoc]
    unfold dstep
    split
    · rename_i h
      rw [ih]
      constructor
      · rintro ⟨x, hx, e⟩
        exact ⟨x, List.mem_append_left _ hx, e⟩
      · rintro ⟨x, hx, e⟩
        rcases List.mem_append.mp hx with hx | hx
        · exact ⟨x, hx, e⟩
        · rw [List.mem_singleton.mp hx] at e
          rw [← ih, ← e]
          exact any_key.mp h
    · constructor
      · rintro ⟨x, hx, e⟩
        rcases List.mem_append.mp hx with hx | hx
        · obtain ⟨y, hy, e'⟩ := ih.mp ⟨x, hx, e⟩
          exact ⟨y, List.mem_append_left _ hy, e'⟩
        · exact ⟨x, List.mem_append_right _ hx, e⟩
      · rintro ⟨x, hx, e⟩
        rcases List.mem_append.mp hx with hx | hx
        · obtain ⟨y, hy, e'⟩ := ih.mpr ⟨x, hx, e⟩
          exact ⟨y, List.mem_append_left _ hy, e'⟩
        · exact ⟨x, List.mem_append_right _ hx, e⟩
theorem ded_sub : ∀ L : List Row, ∀ r ∈ ded L, r ∈ L := by
  refine snoc_ind (fun r hr => by simp [ded] at hr) fun L x ih r hr => ?_
  rw [ded_snoc] at hr
  unfold dstep at hr
  split at hr
  · exact List.mem_append_left _ (ih r hr)
  · rcases List.mem_append.mp hr with h | h
    · exact List.mem_append_left _ (ih r h)
    · exact List.mem_append_right _ h
theorem ded_drop (A : List Row) : ∀ B : List Row, (∀ b ∈ B, ∃ x ∈ A, key x = key b) → ded (A ++ B) = ded A := by
  refine snoc_ind (fun _ => by rw [List.append_nil]) fun B r ih h => ?_
  rw [← List.append_assoc, ded_snoc, ih fun b hb => h b (List.mem_append_left _ hb)]
  unfold dstep
  rw [if_pos (any_key.mpr ((ded_keys _ _).mpr (h r (List.mem_append_right _ (List.mem_singleton.mpr rfl)))))]
theorem ded_congr {A A' : List Row} (B : List Row) (h : ded A = ded A') : ded (A ++ B) = ded (A' ++ B) := by
  unfold ded at h ⊢
  rw [List.foldl_append, List.foldl_append, h]
theorem mem_of_lot {x r : Row} (h : lotN x = lotN r) (k : Nat) : k ∈ x ↔ k ∈ r := by
  have h1 := bit_lot x k
  have h2 := bit_lot r k
  rw [h, h2] at h1
  simpa using h1.symm
theorem ext_app (aft : Nat → List Nat) (A B : List Row) : ext aft (A ++ B) = ext aft A ++ ext aft B := by
  unfold ext
  rw [List.flatMap_append]
theorem ext_ded {aft : Nat → List Nat} : ∀ L : List Row, (∀ r ∈ L, r ≠ []) → ded (ext aft (ded L)) = ded (ext aft L) := by
  refine snoc_ind (fun _ => rfl) fun L r ih ne => ?_
  have ih := ih fun x hx => ne x (List.mem_append_left _ hx)
  have hr := ne r (List.mem_append_right _ (List.mem_singleton.mpr rfl))
  rw [ext_app, ded_snoc]
  unfold dstep
  split
  · rename_i h
    obtain ⟨x, hx, e⟩ := (ded_keys _ _).mp (any_key.mp h)
    have hxn := ne x (List.mem_append_left _ hx)
    rw [ih]
    refine (ded_drop _ _ fun b hb => ?_).symm
    obtain ⟨y, hy, hb⟩ := List.mem_flatMap.mp hb
    rw [List.mem_singleton.mp hy] at hb
    obtain ⟨k, h1, h2, rfl⟩ := mem_ext1.mp hb
    unfold key at e
    simp only [Prod.mk.injEq] at e
    obtain ⟨e1, e2, e3⟩ := e
    refine ⟨x ++ [k], List.mem_flatMap.mpr ⟨x, hx, mem_ext1.mpr ⟨k, by rw [e3]; exact h1, fun z => h2 ((mem_of_lot e1 k).mp z), rfl⟩⟩, ?_⟩
    unfold key
    rw [lot_snoc, lot_snoc, last_snoc, last_snoc, head_snoc _ _ hxn, head_snoc _ _ hr, e1, e2]
  · rw [ext_app]
    exact ded_congr _ ih
theorem ded_id {L : List Row} (h : (L.map key).Nodup) : ded L = L := by
  revert h
  refine snoc_ind (P := fun L => (L.map key).Nodup → ded L = L) (fun _ => rfl) (fun L r ih h => ?_) L
  rw [List.map_append] at h
  obtain ⟨h1, _, h3⟩ := List.nodup_append.mp h
  rw [ded_snoc, ih h1]
  unfold dstep
  rw [if_neg fun z => ?_]
  obtain ⟨x, hx, e⟩ := any_key.mp z
  exact h3 _ (List.mem_map.mpr ⟨x, hx, rfl⟩) _ (List.mem_singleton.mpr rfl) e
/-- the program's layers -/
def play (aft : Nat → List Nat) (m : Nat) : Nat → List Row
  | 0 => (List.range m).map fun k => [k]
  | s + 1 => ded (ext aft (play aft m s))
theorem play_eq {aft : Nat → List Nat} {m : Nat} (ha : ∀ v, ∀ k ∈ aft v, k < m) : ∀ s, play aft m s = ded (lay aft m s)
  | 0 => by
    refine (ded_id ?_).symm
    show (((List.range m).map fun k => [k]).map key).Nodup
    rw [List.map_map]
    refine List.Pairwise.map _ ?_ List.nodup_range
    intro a b h e
    have : (key [a]).2.1 = (key [b]).2.1 := by
      have e' : key [a] = key [b] := e
      rw [e']
    exact h this
  | s + 1 => by
    show ded (ext aft (play aft m s)) = ded (ext aft (lay aft m s))
    rw [play_eq ha s]
    exact ext_ded _ fun r hr => (lay_wf ha s r hr).ne
theorem find_ded {p : Row → Bool} (hp : ∀ x y, key x = key y → p x = p y) : ∀ L : List Row, (ded L).find? p = L.find? p := by
  refine snoc_ind rfl fun L r ih => ?_
  rw [ded_snoc, List.find?_append]
  unfold dstep
  split
  · rename_i h
    obtain ⟨x, hx, e⟩ := (ded_keys _ _).mp (any_key.mp h)
    rw [ih]
    cases c : L.find? p with
    | some y => rfl
    | none =>
      have := List.find?_eq_none.mp c x hx
      rw [hp x r e] at this
      simp at this
      simp [List.find?_cons, this]
  · rw [List.find?_append, ih]
/-! ### all rows, the first of each lot -/
def rows (aft : Nat → List Nat) (m s : Nat) : List Row := (List.range s).flatMap (lay aft m)
def prows (aft : Nat → List Nat) (m s : Nat) : List Row := (List.range s).flatMap (play aft m)
theorem rows_succ (aft : Nat → List Nat) (m s : Nat) : rows aft m (s + 1) = rows aft m s ++ lay aft m s := by
  unfold rows
  rw [List.range_succ, List.flatMap_append]
  simp
theorem prows_succ (aft : Nat → List Nat) (m s : Nat) : prows aft m (s + 1) = prows aft m s ++ play aft m s := by
  unfold prows
  rw [List.range_succ, List.flatMap_append]
  simp
theorem find_prows {aft : Nat → List Nat} {m : Nat} (ha : ∀ v, ∀ k ∈ aft v, k < m) {p : Row → Bool} (hp : ∀ x y, key x = key y → p x = p y) : ∀ s, (prows aft m s).find? p = (rows aft m s).find? p
  | 0 => rfl
  | s + 1 => by rw [prows_succ, rows_succ, List.find?_append, List.find?_append, find_prows ha hp s, play_eq ha, find_ded hp]
theorem prows_sub {aft : Nat → List Nat} {m : Nat} (ha : ∀ v, ∀ k ∈ aft v, k < m) {s : Nat} {r : Row} (h : r ∈ prows aft m s) : r ∈ rows aft m s := by
  obtain ⟨i, hi, hr⟩ := List.mem_flatMap.mp h
  rw [play_eq ha] at hr
  exact List.mem_flatMap.mpr ⟨i, hi, ded_sub _ _ hr⟩
theorem rows_wf {aft : Nat → List Nat} {m : Nat} (ha : ∀ v, ∀ k ∈ aft v, k < m) {s : Nat} {r : Row} (h : r ∈ rows aft m s) : ∃ i, i < s ∧ Wf m i r := by
  obtain ⟨i, hi, hr⟩ := List.mem_flatMap.mp h
  exact ⟨i, List.mem_range.mp hi, lay_wf ha i r hr⟩
theorem rows_sorted {aft : Nat → List Nat} {m : Nat} (ha : ∀ v, ∀ k ∈ aft v, k < m) (hs : ∀ v, (aft v).Pairwise (· < ·)) : ∀ s, (rows aft m s).Pairwise fun a b => a.length = b.length → lexLt a b = true
  | 0 => List.Pairwise.nil
  | s + 1 => by
    rw [rows_succ]
    refine List.pairwise_append.mpr ⟨rows_sorted ha hs s, List.Pairwise.imp (fun {a b} (h : lexLt a b = true) (_ : a.length = b.length) => h) (lay_sorted ha hs s), fun a hma b hmb e => ?_⟩
    obtain ⟨i, hi, w⟩ := rows_wf ha hma
    have w2 := lay_wf ha s b hmb
    rw [w.len, w2.len] at e
    omega
theorem sub_length : ∀ (l m : List Nat), l.Nodup → l ⊆ m → l.length ≤ m.length
  | [], m, _, _ => Nat.zero_le _
  | x :: l, m, nd, s => by
    obtain ⟨h1, h2⟩ := List.nodup_cons.mp nd
    have hx : x ∈ m := s List.mem_cons_self
    have := sub_length l (m.erase x) h2 fun y hy => (List.mem_erase_of_ne (fun e : y = x => h1 (e ▸ hy))).mpr (s (List.mem_cons_of_mem _ hy))
    rw [List.length_erase_of_mem hx] at this
    have := List.length_pos_of_mem hx
    rw [List.length_cons]
    omega
theorem len_of_lot {a b : Row} (ha : a.Nodup) (hb : b.Nodup) (h : lotN a = lotN b) : a.length = b.length :=
  Nat.le_antisymm (sub_length a b ha fun x hx => (mem_of_lot h x).mp hx) (sub_length b a hb fun x hx => (mem_of_lot h x).mpr hx)
/-- the least row of a lot -/
structure Lst (L : List Row) (fit : Row → Bool) (lot : Nat) (r : Row) : Prop where
  mem : r ∈ L
  hfit : fit r = true
  hlot : lotN r = lot
  least : ∀ r' ∈ L, fit r' = true → lotN r' = lot → lexLt r' r = false
theorem find_least {aft : Nat → List Nat} {m s : Nat} (ha : ∀ v, ∀ k ∈ aft v, k < m) (hs : ∀ v, (aft v).Pairwise (· < ·)) {fit : Row → Bool} {lot : Nat} {r : Row} (h : (rows aft m s).find? (fun r => fit r && lotN r == lot) = some r) : Lst (rows aft m s) fit lot r := by
  have sorted := rows_sorted ha hs s
  have wf := fun r (h : r ∈ rows aft m s) => rows_wf ha h
  generalize rows aft m s = L at h sorted wf ⊢
  obtain ⟨hp, as, bs, rfl, no⟩ := List.find?_eq_some_iff_append.mp h
  simp only [Bool.and_eq_true, beq_iff_eq] at hp
  refine ⟨by simp, hp.1, hp.2, fun r' hr' f' l' => ?_⟩
  rcases List.mem_append.mp hr' with q | q
  · have := no r' q
    simp [f', l'] at this
  · rcases List.mem_cons.mp q with q | q
    · rw [q]
      exact lex_irr r
    · have p2 := (List.pairwise_append.mp sorted).2.1
      have p3 := (List.pairwise_cons.mp p2).1 r' q
      obtain ⟨_, _, w1⟩ := wf r (by simp)
      obtain ⟨_, _, w2⟩ := wf r' hr'
      exact lex_asym (p3 (len_of_lot w1.nd w2.nd (hp.2.trans l'.symm)))
theorem find_some {L : List Row} {fit : Row → Bool} {lot : Nat} {r : Row} (hr : r ∈ L) (f : fit r = true) (l : lotN r = lot) : ∃ x, L.find? (fun r => fit r && lotN r == lot) = some x := by
  cases c : L.find? (fun r => fit r && lotN r == lot) with
  | some x => exact ⟨x, rfl⟩
  | none =>
    have := List.find?_eq_none.mp c r hr
    simp [f, l] at this
/-! ### bits below 256 -/
def lsb (l : Nat) : Nat := ((List.range 8).find? fun k => l.testBit k).getD 0
def cnt (l : Nat) : Nat := ((List.range 8).filter fun k => l.testBit k).length
theorem or_add : ∀ l, l < 256 → ∀ k, k < 8 → l.testBit k = false → l ||| 2 ^ k = l + 2 ^ k := by decide +kernel
def chk (l p : Nat) : Bool := if p &&& l == p then (p == 0 || (Nat.ble p l && Nat.blt (cnt (l - p)) (cnt l))) else true
theorem chk_all : (List.range 256).all (fun l => (List.range 256).all (chk l)) = true := by decide +kernel
theorem sub_cnt (p : Nat) (hp : p < 256) (l : Nat) (hl : l < 256) (h0 : 0 < p) (hs : p &&& l = p) : p ≤ l ∧ cnt (l - p) < cnt l := by
  have h := List.all_eq_true.mp (List.all_eq_true.mp chk_all l (List.mem_range.mpr hl)) p (List.mem_range.mpr hp)
  unfold chk at h
  rw [if_pos (by simpa using hs)] at h
  simp only [Bool.or_eq_true, beq_iff_eq, Bool.and_eq_true] at h
  rcases h with h | ⟨h1, h2⟩
  · omega
  · exact ⟨Nat.le_of_ble_eq_true h1, Nat.le_of_ble_eq_true h2⟩
theorem lsb_bit : ∀ l, l < 256 → 0 < l → l.testBit (lsb l) = true ∧ lsb l < 8 ∧ 2 ^ lsb l &&& l = 2 ^ lsb l ∧ lsb (2 ^ lsb l) = lsb l := by decide +kernel
theorem lsb_only : ∀ p, p < 256 → ∀ l, l < 256 → 0 < p → 0 < l → (2 ^ lsb p = 2 ^ lsb l ↔ lsb p = lsb l) := fun p _ l _ _ _ => ⟨fun h => (Nat.pow_right_inj (by decide)).mp h, fun h => by rw [h]⟩
theorem lot_lt {m : Nat} {r : Row} (h : ∀ k ∈ r, k < m) : lotN r < 2 ^ m := by
  refine Nat.lt_pow_two_of_testBit _ fun i hi => ?_
  rw [bit_lot]
  cases c : r.contains i with
  | false => rfl
  | true =>
    have := h i (by simpa using c)
    omega
theorem lot_pos {r : Row} (h : r ≠ []) : 0 < lotN r := by
  refine Nat.pos_of_ne_zero fun e => ?_
  have := bit_lot r (last r)
  rw [e, Nat.zero_testBit] at this
  have := last_mem h
  simp_all
theorem lot_single (k : Nat) : lotN [k] = 2 ^ k := by
  unfold lotN
  simp
theorem lsb_lt {m l : Nat} (hm : m ≤ 8) (h : l < 2 ^ m) (h0 : 0 < l) : lsb l < m := by
  have h8 : l < 256 := Nat.lt_of_lt_of_le h (Nat.pow_le_pow_right (by decide) hm)
  obtain ⟨h1, _, _⟩ := lsb_bit l h8 h0
  refine Nat.lt_of_not_le fun c => ?_
  rw [Nat.testBit_lt_two_pow (Nat.lt_of_lt_of_le h (Nat.pow_le_pow_right (by decide) c))] at h1
  cases h1
/-- the least number of a row is the least bit -/
theorem lsb_min {r : Row} {x : Nat} (hx : x ∈ r) (h8 : ∀ k ∈ r, k < 8) (hle : ∀ y ∈ r, x ≤ y) : lsb (lotN r) = x := by
  unfold lsb
  have : (List.range 8).find? (fun k => (lotN r).testBit k) = some x := by
    refine List.find?_range_eq_some.mpr ⟨by rw [bit_lot]; simpa using hx, List.mem_range.mpr (h8 x hx), fun j hj => ?_⟩
    rw [bit_lot]
    simp only [List.contains_eq_mem, Bool.not_eq_true', decide_eq_false_iff_not]
    intro z
    have := hle j z
    omega
  rw [this]
  rfl
/-! ### the values -/
structure Vl (Pt : Nat → Prop) (n : Nat) (v : List Nat) : Prop where
  len : v.length = n
  zero : 0 < n → v[0]? = some 0
  at_ : ∀ l, 0 < l → l < n → ∃ p y, Pt p ∧ lsb p = lsb l ∧ p &&& l = p ∧ v[l - p]? = some y ∧ v[l]? = some (1 + y) ∧ ∀ p' y', Pt p' → lsb p' = lsb l → p' &&& l = p' → v[l - p']? = some y' → y ≤ y'
theorem Vl.uniq {Pt : Nat → Prop} {n : Nat} {v v' : List Nat} (hn : n ≤ 256) (pos : ∀ p, Pt p → 0 < p ∧ p < 256) (h : Vl Pt n v) (h' : Vl Pt n v') : v = v' := by
  have key : ∀ l, l < n → v[l]? = v'[l]? := by
    intro l
    induction l using Nat.strongRecOn with
    | _ l ih =>
      intro hl
      by_cases z : l = 0
      · subst z
        rw [h.zero hl, h'.zero hl]
      · obtain ⟨p, y, a1, a2, a3, a4, a5, a6⟩ := h.at_ l (by omega) hl
        obtain ⟨q, x, b1, b2, b3, b4, b5, b6⟩ := h'.at_ l (by omega) hl
        have lp := (sub_cnt p (pos p a1).2 l (by omega) (pos p a1).1 a3).1
        have lq := (sub_cnt q (pos q b1).2 l (by omega) (pos q b1).1 b3).1
        have p0 := (pos p a1).1
        have q0 := (pos q b1).1
        have e1 := ih (l - p) (by omega) (by omega)
        have e2 := ih (l - q) (by omega) (by omega)
        have c1 := a6 q x b1 b2 b3 (by rw [e2]; exact b4)
        have c2 := b6 p y a1 a2 a3 (by rw [← e1]; exact a4)
        rw [a5, b5, Nat.le_antisymm c1 c2]
  apply List.ext_getElem?
  intro i
  by_cases c : i < n
  · exact key i c
  · rw [List.getElem?_eq_none (by rw [h.len]; omega), List.getElem?_eq_none (by rw [h'.len]; omega)]
theorem Vl.start (Pt : Nat → Prop) : Vl Pt 1 [0] := ⟨rfl, fun _ => rfl, fun l h0 h1 => by omega⟩
theorem Vl.snoc {Pt : Nat → Prop} {n : Nat} {v : List Nat} (hn : n < 256) (pos : ∀ p, Pt p → 0 < p ∧ p < 256) (h : Vl Pt n v) (h0 : 0 < n) {p y : Nat} (a1 : Pt p) (a2 : lsb p = lsb n) (a3 : p &&& n = p) (a4 : v[n - p]? = some y)
    (a6 : ∀ p' y', Pt p' → lsb p' = lsb n → p' &&& n = p' → v[n - p']? = some y' → y ≤ y') : Vl Pt (n + 1) (v ++ [1 + y]) := by
  have low : ∀ i, i < n → (v ++ [1 + y])[i]? = v[i]? := fun i hi => List.getElem?_append_left (by rw [h.len]; exact hi)
  have dn : ∀ q, Pt q → q &&& n = q → n - q < n := fun q hq hs => by
    have := (sub_cnt q (pos q hq).2 n hn (pos q hq).1 hs).1
    have := (pos q hq).1
    omega
  refine ⟨by rw [List.length_append, h.len]; rfl, fun _ => by rw [low 0 h0]; exact h.zero h0, fun l l0 l1 => ?_⟩
  by_cases c : l = n
  · subst c
    refine ⟨p, y, a1, a2, a3, by rw [low _ (dn p a1 a3)]; exact a4, by rw [List.getElem?_append_right (by rw [h.len]; exact Nat.le_refl _), h.len, Nat.sub_self]; rfl, fun p' y' b1 b2 b3 b4 => a6 p' y' b1 b2 b3 ?_⟩
    rw [low _ (dn p' b1 b3)] at b4
    exact b4
  · obtain ⟨q, x, b1, b2, b3, b4, b5, b6⟩ := h.at_ l l0 (by omega)
    refine ⟨q, x, b1, b2, b3, by rw [low _ (by omega)]; exact b4, by rw [low _ (by omega)]; exact b5, fun p' y' c1 c2 c3 c4 => b6 p' y' c1 c2 c3 ?_⟩
    rw [low _ (by omega)] at c4
    exact c4
/-! ### what is chosen -/
def Good (v : List Nat) (left p : Nat) : Prop := lsb p = lsb left ∧ p &&& left = p ∧ ∃ y, v[left - p]? = some y ∧ v[left]? = some (1 + y)
structure Bst (L : List Row) (fit : Row → Bool) (v : List Nat) (left : Nat) (r : Row) : Prop where
  mem : r ∈ L
  hfit : fit r = true
  good : Good v left (lotN r)
  least : ∀ r' ∈ L, fit r' = true → Good v left (lotN r') → lexLt r' r = false
theorem Bst.uniq {L : List Row} {fit : Row → Bool} {v : List Nat} {left : Nat} {r r' : Row} (h : Bst L fit v left r) (h' : Bst L fit v left r') : r = r' :=
  lex_anti (h'.least r h.mem h.hfit h.good) (h.least r' h'.mem h'.hfit h'.good)
inductive Pk (L : List Row) (fit : Row → Bool) (v : List Nat) : Nat → List Row → Prop
  | nil : Pk L fit v 0 []
  | cons {left : Nat} {r : Row} {rs : List Row} : 0 < left → Bst L fit v left r → Pk L fit v (left - lotN r) rs → Pk L fit v left (r :: rs)
theorem Pk.uniq {L : List Row} {fit : Row → Bool} {v : List Nat} {left : Nat} {rs rs' : List Row} (h : Pk L fit v left rs) (h' : Pk L fit v left rs') : rs = rs' := by
  induction h generalizing rs' with
  | nil =>
    cases h' with
    | nil => rfl
    | cons h0 _ _ => exact (Nat.lt_irrefl 0 h0).elim
  | cons h0 b _ ih =>
    cases h' with
    | nil => exact (Nat.lt_irrefl 0 h0).elim
    | cons _ b' p' =>
      have e := b.uniq b'
      subst e
      rw [ih p']
theorem Vl.good {Pt : Nat → Prop} {n : Nat} {v : List Nat} (h : Vl Pt n v) {left : Nat} (h0 : 0 < left) (h1 : left < n) : ∃ p, Pt p ∧ Good v left p := by
  obtain ⟨p, y, a1, a2, a3, a4, a5, _⟩ := h.at_ left h0 h1
  exact ⟨p, a1, a2, a3, y, a4, a5⟩
end K28

local macro_rules | `(tactic| walk_at "nz") => `(tactic| (dsimp only; first | decide | omega))
namespace K28W
open PySem PySem.Spec PyProof.Rows L2 KH K28 KD
def topS (i : Nat) : Stmt := PySem.Challenge.pw_changeskept_k28_shifts_and_values.main.body.getD i (.Pass ⟨0, 0, 0, 0⟩)
abbrev s_law_cell : Stmt := topS 17
theorem sc_law_cell : FnScope ["script", "k", "spare", "cell"] ["script", "k"] (defScope s_law_cell) := ⟨rfl, rfl, rfl, by decide +kernel, rfl, by decide +kernel, by decide +kernel⟩

abbrev s_law_draws : Stmt := topS 18
theorem sc_law_draws : FnScope ["cell", "sizes", "whole", "found", "number", "size", "k", "mixed"] ["cell", "sizes"] (defScope s_law_draws) := ⟨rfl, rfl, rfl, by decide +kernel, rfl, by decide +kernel, by decide +kernel⟩

abbrev scheck_number : Stmt := topS 7
theorem sccheck_number : FnScope ["what", "value", "least", "most"] ["what", "value", "least", "most"] (defScope scheck_number) := ⟨rfl, rfl, rfl, by decide +kernel, rfl, by decide +kernel, by decide +kernel⟩

abbrev scheck_many : Stmt := topS 8
theorem sccheck_many : FnScope ["what", "things", "most"] ["what", "things", "most"] (defScope scheck_many) := ⟨rfl, rfl, rfl, by decide +kernel, rfl, by decide +kernel, by decide +kernel⟩

abbrev s_law_number : Stmt := topS 26
theorem sc_law_number : FnScope ["thing"] ["thing"] (defScope s_law_number) := ⟨rfl, rfl, rfl, by decide +kernel, rfl, by decide +kernel, by decide +kernel⟩

/-- the built-in names are what they are -/
structure Txt (mg : Str → Option Value) : Prop where
  len : mg "len" = none
  abs : mg "abs" = none
  int : mg "int" = none
  range : mg "range" = none
  list : mg "list" = none
  tuple : mg "tuple" = none
  sum : mg "sum" = none
  min : mg "min" = none
  max : mg "max" = none
  sorted : mg "sorted" = none
  isinstance : mg "isinstance" = none
  bool : mg "bool" = none
  str : mg "str" = none
  repr : mg "repr" = none
  reversed : mg "reversed" = none
  super : mg "super" = none
/-- a def as its callers know it -/
structure Cal (P : Program) (w : World) (K : PySem.W.Frag) (mg : Str → Option Value) (base : Heap) (k : Nat) (x : Str) (ps : List Str) (sp : Sp) (f : Addr) (fd : FuncData) : Prop where
  ok : FnOk P w K mg base CX0 k f fd ps sp
  mg : mg x = some (.ref f)
  kp : PySem.W.keepIn K (.ref f) = true
  b : Binds K fd ps []
/-- .. one that may raise -/
structure CalX (P : Program) (w : World) (K : PySem.W.Frag) (mg : Str → Option Value) (base : Heap) (k : Nat) (x : Str) (ps : List Str) (sp : Sp) (f : Addr) (fd : FuncData) : Prop where
  ok : FnOk P w K mg base (L2.CX P w) k f fd ps sp
  mg : mg x = some (.ref f)
  kp : PySem.W.keepIn K (.ref f) = true
  b : Binds K fd ps []
/-- .. one that shows data -/
structure CalG (P : Program) (w : World) (K : PySem.W.Frag) (mg : Str → Option Value) (base : Heap) (k : Nat) (x : Str) (ps : List Str) (sp : Sp) (f : Addr) (fd : FuncData) : Prop where
  ok : FnOkG P w K mg base k f fd ps sp
  mg : mg x = some (.ref f)
  kp : PySem.W.keepIn K (.ref f) = true
  b : Binds K fd ps []
/-- a def that may be called in an except suite, as its callers know it -/
structure CalQ (P : Program) (w : World) (K : PySem.W.Frag) (mg : Str → Option Value) (base : Heap) (k : Nat) (x : Str) (ps : List Str) (sp : Sp) (f : Addr) (fd : FuncData) : Prop where
  ok : FnOkQ P w K mg base k f fd ps sp
  mg : mg x = some (.ref f)
  kp : PySem.W.keepIn K (.ref f) = true
  b : Binds K fd ps []
theorem u65 {k : Nat} {A : Around} (h : Room k A) : A.units + 65 < cLine := by
  have := h.un
  omega
/-! ### numbers and rows in the heap -/
abbrev IL (L : List Int) : List V := L.map V.int
theorem Sq.of {K : PySem.W.Frag} {H : Hp} {a : Addr} {xs : List V} (h : H a = some (.lst xs)) : Sq K H a xs := .inl (SqL.of h)
theorem IL_snoc (l : List Int) (x : Int) : IL (l ++ [x]) = IL l ++ [V.int x] := by
  unfold IL
  rw [List.map_append]
  rfl
theorem map_take_succ {α β : Type} (f : α → β) {l : List α} {i : Nat} {x : α} (h : l[i]? = some x) : (l.take (i + 1)).map f = (l.take i).map f ++ [f x] := by
  rw [take_more h, List.map_append]
  rfl
theorem ixq {K : PySem.W.Frag} {H : Hp} {a : Addr} {xs : List V} {i : Int} {v : V} {Q : VK} (h : Sq K H a xs) (e : atI xs i = some v) (q : Q v H) : rIx K (.ref a) (.int i) H Q := by
  rcases h with h | h
  · exact .inl ⟨a, xs, i, v, rfl, rfl, h, e, q⟩
  · exact .inr (.inl ⟨a, xs, i, v, rfl, rfl, h, e, q⟩)
theorem ixl {K : PySem.W.Frag} {H : Hp} {a : Addr} {xs : List V} {i : Int} {v : V} {Q : VK} (h : SqL K H a xs) (e : atI xs i = some v) (q : Q v H) : rIxL K (.ref a) (.int i) H Q := ⟨a, xs, i, v, rfl, rfl, h, e, q⟩
theorem lc_seq {K : PySem.W.Frag} {a : Addr} {xs : List V} {g : TG} {tt : TT} {te : TE} {vs : List Nat} {σ : L2.St} {H0 H : Hp} {Qd : Addr → Hp → Prop} (hq : Sq K H0 a xs) (s0 : Same H0 H) (Pv : Addr → Nat → Hp → Prop) (h0 : ∀ D, H D = none → Pv D 0 (upd H D (.lst []))) (hl : ∀ D i H', H D = none → i ≤ xs.length → Pv D i H' → Same H0 H')
    (hs : ∀ D i x H', H D = none → xs[i]? = some x → Pv D i H' → g x (wipe σ vs) H' fun σ2 H2 => wipe σ2 vs = wipe σ vs ∧ tt σ2 H2 fun b H3 => if b = true then te σ2 H3 fun y H4 => ∃ acc, H4 D = some (.lst acc) ∧ acc.length < sizeLine ∧ Pv D (i + 1) (upd H4 D (.lst (acc ++ [y]))) else Pv D (i + 1) H3)
    (hd : ∀ D H', H D = none → Pv D xs.length H' → Qd D H') :
    ∃ a', V.ref a = V.ref a' ∧ (((∃ xs, SqL K H a' xs) ∧ ∀ D, H D = none → ∃ W : Nat → Nat → Hp → Prop, (∃ m, W 0 m (upd H D (.lst []))) ∧ ∀ i m H, W i m H →
      ((Itl K a').stop i H ∧ Qd D H) ∨ ((Itl K a').go i H ∧ ∃ Nx : Hp → Prop, (∀ H', Nx H' → ∃ m', m' < m ∧ W (i + 1) m' H') ∧ ∀ x H', (Itl K a').yld i H x H' → g x (wipe σ vs) H' fun σ2 H2 => wipe σ2 vs = wipe σ vs ∧ tt σ2 H2 fun b H3 =>
        if b = true then te σ2 H3 fun y H4 => ∃ acc, H4 D = some (.lst acc) ∧ acc.length < sizeLine ∧ Nx (upd H4 D (.lst (acc ++ [y]))) else Nx H3)) ∨
      ((∃ xs, SqT K H a' xs) ∧ ∀ D, H D = none → ∃ W : Nat → Nat → Hp → Prop, (∃ m, W 0 m (upd H D (.lst []))) ∧ ∀ i m H, W i m H →
      ((Itt K a').stop i H ∧ Qd D H) ∨ ((Itt K a').go i H ∧ ∃ Nx : Hp → Prop, (∀ H', Nx H' → ∃ m', m' < m ∧ W (i + 1) m' H') ∧ ∀ x H', (Itt K a').yld i H x H' → g x (wipe σ vs) H' fun σ2 H2 => wipe σ2 vs = wipe σ vs ∧ tt σ2 H2 fun b H3 =>
        if b = true then te σ2 H3 fun y H4 => ∃ acc, H4 D = some (.lst acc) ∧ acc.length < sizeLine ∧ Nx (upd H4 D (.lst (acc ++ [y]))) else Nx H3))) := by
  rcases hq with hq | hq
  · exact ⟨a, rfl, .inl ⟨⟨_, s0.seq hq⟩, fun D nD => lc_list (K := K) (a := a) (xs := xs) (Pv D) (h0 D nD) (fun i H' hi p => (hl D i H' nD hi p).seq hq) (fun i x H' hx p => hs D i x H' nD hx p) (fun H' p => hd D H' nD p)⟩⟩
  · exact ⟨a, rfl, .inr ⟨⟨_, s0.seqT hq⟩, fun D nD => lc_tup (K := K) (a := a) (xs := xs) (Pv D) (h0 D nD) (fun i H' hi p => (hl D i H' nD hi p).seqT hq) (fun i x H' hx p => hs D i x H' nD hx p) (fun H' p => hd D H' nD p)⟩⟩
section
variable {P : Program} {w : World} {K : PySem.W.Frag} {mg : Str → Option Value} {base : Heap}
/-! ### a cell of the script -/
def sp_cell (K : PySem.W.Frag) : Sp := fun vs H Q _ => ∃ (a : Addr) (ns : List Int) (k : Nat), vs = [.ref a, nV k] ∧ SqL K H a (ns.map V.int) ∧ ns.length ≤ 63 ∧ k ≤ 1000 ∧ ∀ n H', Same H H' → Q (.int n) H'
theorem cut_ints (ns : List Int) (lo hi : Option Int) : ∃ ms : List Int, cutV (ns.map V.int) lo hi = ms.map V.int := by
  unfold cutV
  rw [← List.map_drop, ← List.map_take]
  exact ⟨_, rfl⟩
theorem ok_cell {f : Addr} {fd : FuncData} (F : Fun K "_law_cell" "_law_cell" s_law_cell f fd) (T : Txt mg) : FnOk P w K mg base CX0 1 f fd ["script", "k"] (sp_cell K) := by
  refine F.ok sc_law_cell (fun vs H Q E h => ?_) (fun cdv A outer s H vs Q E hr h => ?_)
  · obtain ⟨a, ns, k, rfl, _⟩ := h
    rfl
  · obtain ⟨a, ns, k, rfl, hS, hl, hk, q⟩ := h
    refine ⟨_, (pss_cons (ps_if (pt_cmpR op_lt (pv 1) (pe_callB call_len_seq (by rfl) T.len (by decide +kernel) (pa_cons (pv 0) pa_nil)) (nomark _))
 (pss_one (ps_ret (pe_ix ix_list (pv 0) (pv 1) (fun _ _ => rfl))))
 pss_nil)
 (pss_cons (ps_set (i := 2) sc_law_cell.nd rfl (.inl rfl) pe_int)
 (pss_cons (ps_for PassesOwn.never rfl (pi_list (pe_slice sl_list (pv 0) po_none (po_some pe_int))) (pg_name (i := 3) sc_law_cell.nd rfl (.inl rfl))
 (pss_one (ps_set (i := 2) sc_law_cell.nd rfl (.inl rfl) (pe_op op_add (pv 2) (pe_op op_modN (pe_callB call_abs (by rfl) T.abs (by decide +kernel) (pa_cons (pe_callTy call_int1 (by rfl) T.int (by decide +kernel) (pa_cons (pv 3) pa_nil)) pa_nil)) pe_int)))))
 (pss_one (ps_ret (pe_op op_add (pv 2) (pe_op op_mul pe_int (pv 1)))))))), ?_⟩
    refine ⟨_, rfl, _, rfl, a, _, rfl, .inl hS, _, _, rfl, rfl, _, rfl, ite2 (fun hlt => ?_) (fun _ => ?_)⟩
    · have hlt' : k < ns.length := by
        have := of_decide_eq_true hlt
        rw [List.length_map] at this
        omega
      obtain ⟨n, hn⟩ := get_lt hlt'
      exact ⟨_, rfl, _, rfl, a, _, _, _, rfl, rfl, hS, at_n (getn hn), q n H (Same.refl H)⟩
    · refine ⟨_, rfl, 3, rfl, a, _, rfl, hS, fun p np => ?_⟩
      obtain ⟨ms, em⟩ := cut_ints ns none (some 3)
      rw [em]
      refine ⟨p, rfl, ⟨_, SqL.of upd_same⟩, for_list (K := K) (a := p) (xs := ms.map V.int) (fun i σ H' => ∃ (z : Int) (v : Option V), σ = [some (.ref a), some (nV k), some (.int z), v] ∧ Same H H' ∧ H' p = some (.lst (ms.map V.int)))
        ⟨0, none, rfl, (Same.refl H).new np, upd_same⟩ (fun i σ H' _ ⟨_, _, _, _, e⟩ => SqL.of e) ?_ ?_⟩
      · rintro i y σ H' hi ⟨z, v, rfl, sm, e⟩
        obtain ⟨c, _, rfl⟩ := getn_inv hi
        refine ⟨_, rfl, _, rfl, .inl ⟨_, rfl, _, rfl, _, _, rfl, rfl, (by walk_at "nz"), _, _, rfl, rfl, ?_⟩⟩
        exact ⟨_, _, rfl, sm, e⟩
      · rintro σ H' ⟨z, v, rfl, sm, e⟩
        exact ⟨_, rfl, _, rfl, _, _, rfl, rfl, .inl ⟨by decide, by decide⟩, _, _, rfl, rfl, q _ _ sm⟩
/-! ### drawn numbers -/
/-- below the sizes -/
def Drawn (ds zs : List Nat) : Prop := Paired (fun d z => d < z) ds zs
def sp_draws (K : PySem.W.Frag) : Sp := fun vs H Q _ => ∃ (a : Addr) (c : Int) (zs : List Nat), vs = [.int c, .ref a] ∧ SqL K H a (zs.map nV) ∧ zs.length ≤ 1000 ∧ (∀ z ∈ zs, 0 < z ∧ z < 1073741824) ∧
  ∀ p ds H', Same H H' → H p = none → H' p = some (.lst (ds.map nV)) → Drawn ds zs → Q (.ref p) H'
theorem drawn_snoc {ds zs : List Nat} {i d z : Nat} (h : Drawn ds (zs.take i)) (hz : zs[i]? = some z) (hd : d < z) : Drawn (ds ++ [d]) (zs.take (i + 1)) := by
  rw [take_more hz]
  exact P_append h (.cons hd .nil)
theorem fmod_nat (x : Int) {z : Nat} (hz : 0 < z) : ∃ d : Nat, x.fmod (z : Int) = (d : Int) ∧ d < z := by
  have h1 : 0 ≤ x.fmod (z : Int) := Int.fmod_nonneg_of_pos x (by omega)
  have h2 : x.fmod (z : Int) < z := Int.fmod_lt_of_pos x (by omega)
  exact ⟨(x.fmod (z : Int)).toNat, by omega, by omega⟩
theorem ok_draws {f : Addr} {fd : FuncData} (F : Fun K "_law_draws" "_law_draws" s_law_draws f fd) (T : Txt mg) : FnOk P w K mg base CX0 1 f fd ["cell", "sizes"] (sp_draws K) := by
  refine F.ok sc_law_draws (fun vs H Q E h => ?_) (fun cdv A outer s H vs Q E hr h => ?_)
  · obtain ⟨a, c, zs, rfl, _⟩ := h
    rfl
  · obtain ⟨a, c, zs, rfl, hS, hl, hz, q⟩ := h
    refine ⟨_, (pss_cons (ps_set (i := 2) sc_law_draws.nd rfl (.inl rfl) (pe_callB call_abs (by rfl) T.abs (by decide +kernel) (pa_cons (pe_callTy call_int1 (by rfl) T.int (by decide +kernel) (pa_cons (pv 0) pa_nil)) pa_nil)))
 (pss_cons (ps_set (i := 3) sc_law_draws.nd rfl (.inl rfl) (pe_lst pa_nil))
 (pss_cons (ps_if (pt_cmpR op_ge (pv 2) (pe_op op_pow pe_int pe_int) (nomark _))
 (pss_cons (ps_set (i := 4) sc_law_draws.nd rfl (.inl rfl) (pe_op op_sub (pv 2) (pe_op op_pow pe_int pe_int)))
 (pss_cons (ps_for PassesOwn.never rfl (pi_list (pv 1)) (pg_name (i := 5) sc_law_draws.nd rfl (.inl rfl))
 (pss_cons (ps_expr (pe_bm PySem.F.plainAttrs_list PySem.F.slot_list_append PySem.F.type_list_append mt_append (pv 3) (pa_cons (pe_op op_modN (pe_callTy call_int1 (by rfl) T.int (by decide +kernel) (pa_cons (pv 4) pa_nil)) (pv 5)) pa_nil)))
 (pss_one (ps_set (i := 4) sc_law_draws.nd rfl (.inl rfl) (pe_op op_fdivN (pv 4) (pv 5))))))
 (pss_one (ps_ret (pv 3)))))
 pss_nil)
 (pss_cons (ps_for PassesOwn.never rfl (pi_range1 rfl T.range (pa_cons (pe_callB call_len_seq (by rfl) T.len (by decide +kernel) (pa_cons (pv 1) pa_nil)) pa_nil)) (pg_name (i := 6) sc_law_draws.nd rfl (.inl rfl))
 (pss_cons (ps_set (i := 7) sc_law_draws.nd rfl (.inl rfl) (pe_op op_modN (pe_callTy call_int1 (by rfl) T.int (by decide +kernel) (pa_cons (pe_op op_add (pe_op op_add (pv 2) (pe_op op_mul pe_int (pv 6))) pe_int) pa_nil)) pe_int))
 (pss_cons (ps_set (i := 7) sc_law_draws.nd rfl (.inl rfl) (pe_op op_modN (pe_callTy call_int1 (by rfl) T.int (by decide +kernel) (pa_cons (pe_op op_mul (pv 7) (pe_op op_add (pv 7) pe_int)) pa_nil)) pe_int))
 (pss_cons (ps_set (i := 7) sc_law_draws.nd rfl (.inl rfl) (pe_op op_modN (pe_callTy call_int1 (by rfl) T.int (by decide +kernel) (pa_cons (pe_op op_add (pe_op op_mul (pv 7) (pe_op op_add (pv 7) pe_int)) (pe_op op_mul pe_int (pv 6))) pa_nil)) pe_int))
 (pss_one (ps_expr (pe_bm PySem.F.plainAttrs_list PySem.F.slot_list_append PySem.F.type_list_append mt_append (pv 3) (pa_cons (pe_op op_modN (pe_callTy call_int1 (by rfl) T.int (by decide +kernel) (pa_cons (pe_op op_fdivN (pv 7) pe_int) pa_nil)) (pe_ix ix_list (pv 1) (pv 6) (fun _ _ => rfl))) pa_nil))))))))
 (pss_one (ps_ret (pv 3))))))), ?_⟩
    -- whole = abs(int(cell)); found = []
    refine ⟨_, rfl, .inl ⟨_, rfl, _, rfl, ?_⟩⟩
    refine ⟨Nat.zero_le _, fun p np => ?_⟩
    have s0 : Same H (upd H p (.lst [])) := (Same.refl H).new np
    -- if whole >= 10 ** 18
    refine ⟨_, rfl, _, _, rfl, rfl, ⟨by decide, by decide, by decide⟩, _, _, rfl, rfl, _, rfl, ite2 (fun _ => ?_) (fun hsm => ?_)⟩
    · refine ⟨_, rfl, _, _, rfl, rfl, ⟨by decide, by decide, by decide⟩, _, _, rfl, rfl, ?_⟩
      refine ⟨_, rfl, a, rfl, ⟨_, s0.seq hS⟩, for_list (K := K) (a := a) (xs := zs.map nV) (fun i σ H' => ∃ (w n : Int) (ds : List Nat) (v5 v6 v7 : Option V), σ = [some (.int c), some (.ref a), some (.int w), some (.ref p), some (.int n), v5, v6, v7] ∧ Same H H' ∧ H' p = some (.lst (ds.map nV)) ∧ Drawn ds (zs.take i))
        ⟨_, _, [], none, none, none, rfl, s0, upd_same, .nil⟩ (fun i σ H' _ ⟨_, _, _, _, _, _, _, sm, _⟩ => sm.seq hS) ?_ ?_⟩
      · rintro i y σ H' hi ⟨w', n, ds, v5, v6, v7, rfl, sm, e, dr⟩
        obtain ⟨z, hzi, rfl⟩ := getn_inv hi
        obtain ⟨hz0, hz1⟩ := hz z (List.mem_of_getElem? hzi)
        obtain ⟨d, ed, hd⟩ := fmod_nat n hz0
        refine ⟨_, rfl, .inl ⟨rfl, _, SqL.of e⟩, _, rfl, .inl ⟨_, rfl, _, rfl, _, _, rfl, rfl, (by walk_at "nz"), p, _, _, rfl, rfl, e, ?_, ?_⟩⟩
        · rw [List.length_map, P_len dr]
          exact szl (Nat.le_trans (List.length_take_le' _ _) (by omega))
        · refine ⟨_, rfl, _, rfl, _, _, rfl, rfl, ⟨by omega, by omega⟩, ?_⟩
          refine ⟨_, _, ds ++ [d], _, _, _, rfl, sm.mut np, ?_, drawn_snoc dr hzi hd⟩
          dsimp only
          rw [upd_same, ed, List.map_append]
          rfl
      · rintro σ H' ⟨w', n, ds, v5, v6, v7, rfl, sm, e, dr⟩
        rw [List.length_map, List.take_length] at dr
        exact ⟨_, rfl, q p ds H' sm np e dr⟩
    · -- the mixing
      have hwb : ∃ w : Nat, (if c < 0 then -c else c) = (w : Int) ∧ w < 10 ^ 18 := by
        have h1 : ¬ ((10 : Int) ^ (18 : Int).toNat ≤ if c < 0 then -c else c) := fun z => hsm (decide_eq_true z)
        have e18 : (10 : Int) ^ (18 : Int).toNat = 1000000000000000000 := by decide
        rw [e18] at h1
        refine ⟨(if c < 0 then -c else c).toNat, ?_, ?_⟩ <;> split at h1 <;> split <;> omega
      obtain ⟨wn, ew, hw⟩ := hwb
      rw [ew]
      refine ⟨_, rfl, a, _, rfl, .inl (s0.seq hS), _, rfl, (by omega), (by rw [List.length_map]; omega), ?_⟩
      have el : (((zs.map nV).length : Nat) : Int).toNat = zs.length := by rw [List.length_map]; omega
      rw [el]
      refine for_range (lo := 0) (n := zs.length) (fun i σ H' => ∃ (ds : List Nat) (v4 v5 v6 v7 : Option V), σ = [some (.int c), some (.ref a), some (nV wn), some (.ref p), v4, v5, v6, v7] ∧ Same H H' ∧ H' p = some (.lst (ds.map nV)) ∧ Drawn ds (zs.take i))
        ⟨[], none, none, none, none, rfl, s0, upd_same, .nil⟩ ?_ ?_
      · rintro i σ H' hi ⟨ds, v4, v5, v6, v7, rfl, sm, e, dr⟩
        obtain ⟨z, hzi⟩ := get_lt hi
        obtain ⟨hz0, hz1⟩ := hz z (List.mem_of_getElem? hzi)
        obtain ⟨m1, e1, b1⟩ := fmod_nat ((wn : Int) + 7919 * ((0 : Int) + (i : Int)) + 13) (z := 2147483647) (by decide)
        obtain ⟨m2, e2, b2⟩ := fmod_nat ((m1 : Int) * ((m1 : Int) + 48271)) (z := 2147483629) (by decide)
        obtain ⟨m3, e3, b3⟩ := fmod_nat ((m2 : Int) * ((m2 : Int) + 69621) + 31 * ((0 : Int) + (i : Int))) (z := 2147483647) (by decide)
        obtain ⟨d, ed, hd⟩ := fmod_nat ((m3 : Int).fdiv 9) hz0
        -- mixed = int(whole + 7919 * k + 13) % 2147483647
        refine ⟨_, rfl, _, rfl, _, _, rfl, rfl, .inl ⟨by decide, by decide⟩, _, _, rfl, rfl, _, _, rfl, rfl, .inl ⟨_, rfl, _, _, rfl, rfl, (by walk_at "nz"), ?_⟩⟩
        dsimp only
        rw [show ((2147483647 : Nat) : Int) = 2147483647 by rfl] at e1
        rw [e1]
        -- mixed = int(mixed * (mixed + 48271)) % 2147483629
        refine ⟨_, rfl, _, rfl, _, _, rfl, rfl, _, _, rfl, rfl, .inl ⟨by omega, by omega⟩, .inl ⟨_, rfl, _, _, rfl, rfl, (by walk_at "nz"), ?_⟩⟩
        dsimp only
        rw [show ((2147483629 : Nat) : Int) = 2147483629 by rfl] at e2
        rw [e2]
        refine ⟨_, rfl, _, rfl, _, _, rfl, rfl, _, _, rfl, rfl, .inl ⟨by omega, by omega⟩, _, rfl, _, _, rfl, rfl, .inl ⟨by decide, by decide⟩, _, _, rfl, rfl, .inl ⟨_, rfl, _, _, rfl, rfl, (by walk_at "nz"), ?_⟩⟩
        dsimp only
        rw [show ((2147483647 : Nat) : Int) = 2147483647 by rfl] at e3
        rw [e3]
        -- found.append(int(mixed // 9) % sizes[k])
        refine ⟨_, rfl, .inl ⟨rfl, _, SqL.of e⟩, _, rfl, _, _, rfl, rfl, ⟨by decide, by decide⟩, .inl ⟨_, rfl, _, rfl, _, rfl, a, _, _, nV z, rfl, rfl, sm.seq hS, ?_, _, _, rfl, rfl, (by walk_at "nz"), p, _, _, rfl, rfl, e, ?_, ?_⟩⟩
        · rw [show (0 : Int) + (i : Int) = (i : Int) by omega]
          exact at_n (getn hzi)
        · rw [List.length_map, P_len dr]
          exact szl (Nat.le_trans (List.length_take_le' _ _) (by omega))
        · refine ⟨ds ++ [d], _, _, _, _, rfl, sm.mut np, ?_, drawn_snoc dr hzi hd⟩
          dsimp only
          rw [upd_same, ed, List.map_append]
          rfl
      · rintro σ H' ⟨ds, v4, v5, v6, v7, rfl, sm, e, dr⟩
        rw [List.take_length] at dr
        exact ⟨_, rfl, q p ds H' sm np e dr⟩
end
/-- the errors' classes, as the written part has them -/
structure Exc (P : Program) (K : PySem.W.Frag) (mg : Str → Option Value) (CN CB CD CT CU fI : Addr) : Prop where
  own : PySem.OwX.OwnTxt P K CN fI ["what", "value"]
  gN : mg "BadNumber" = some (.ref CN)
  gB : mg "BusError" = some (.ref CB)
  gD : mg "Doubled" = some (.ref CD)
  gT : mg "TooMany" = some (.ref CT)
  gU : mg "Unknown" = some (.ref CU)
  ec : ExcC K CN
  xf : XfC K CN
  te : PySem.W.exmOne K (.ref CN) (.ref CB) = some true
  kN : PySem.W.kitOne K (.ref CN) (.ref CN) = some true
  kT : PySem.W.kitOne K (.ref CN) (.ref CT) = some false
  kO : PySem.W.kitAny K (.ref CN) [.ref CD, .ref CU] = some false
structure Exm (P : Program) (K : PySem.W.Frag) (mg : Str → Option Value) (CN CB CD CT CU fJ : Addr) : Prop where
  own : PySem.OwX.OwnTxt P K CT fJ ["what", "most"]
  gN : mg "TooMany" = some (.ref CT)
  ec : ExcC K CT
  xf : XfC K CT
  te : PySem.W.exmOne K (.ref CT) (.ref CB) = some true
  kT : PySem.W.kitOne K (.ref CT) (.ref CT) = some true
  kN : PySem.W.kitOne K (.ref CT) (.ref CN) = some false
  kO : PySem.W.kitAny K (.ref CT) [.ref CD, .ref CU] = some false
section
variable {P : Program} {w : World} {K : PySem.W.Frag} {mg : Str → Option Value} {base : Heap} {CN CB CD CT CU fI fJ : Addr}
def sp_check (CN : Addr) : Sp := fun vs H Q E => ∃ (wd : Str) (v lo hi : Int), vs = [.str wd, .int v, .int lo, .int hi] ∧ (¬ (lo ≤ v ∧ v ≤ hi) → ∀ d, H d = none → E (.ref CN) (some d) (upd H d (.xd [("value", .int v), ("what", .str wd)]))) ∧ ((lo ≤ v ∧ v ≤ hi) → Q .non H)
theorem ok_check {f : Addr} {fd : FuncData} (F : Fun K "check_number" "check_number" scheck_number f fd) (T : Txt mg) (XBadNumber : Exc P K mg CN CB CD CT CU fI) : FnOk P w K mg base (L2.CX P w) 3 f fd ["what", "value", "least", "most"] (sp_check CN) := by
  refine F.okX sccheck_number (fun vs H Q E h => ?_) (fun cdv A outer s H vs Q E hr h => ?_)
  · obtain ⟨wd, v, lo, hi, rfl, _⟩ := h
    rfl
  · obtain ⟨wd, v, lo, hi, rfl, qe, qn⟩ := h
    refine ⟨_, (pss_one (ps_if (pt_not (pt_chain op_le op_le (pv 2) (pv 1) (pv 3)))
 (pss_one (ps_raiseOwnS rfl XBadNumber.own XBadNumber.gN T.super (by decide) (by decide) (by simp) hr (takes_of rfl rfl rfl rfl) (by exact (pa_cons (pv 0) (pa_cons (pv 1) pa_nil))) rfl))
 pss_nil)), ?_⟩
    refine ⟨_, rfl, _, rfl, _, _, rfl, rfl, _, rfl, ite2 (fun c1 => ?_) (fun c1 => ?_)⟩
    · refine ⟨_, rfl, _, _, rfl, rfl, _, rfl, ?_⟩
      by_cases c2 : v ≤ hi
      · rw [decide_eq_true c2]
        exact iteF (qn ⟨of_decide_eq_true c1, c2⟩)
      · rw [decide_eq_false c2]
        exact iteT ⟨_, rfl, _, rfl, rfl, fun d nd => qe (fun z => c2 z.2) d nd⟩
    · refine ⟨_, rfl, iteT ⟨_, rfl, _, rfl, rfl, fun d nd => qe (fun z => c1 (decide_eq_true z.1)) d nd⟩⟩
/-- the error with its fields -/
def Err (CN : Addr) (wd : Str) (z : Int) (H : Hp) (E : XK) : Prop := ∀ d H', Same H H' → H d = none → H' d = some (.xd [("value", .int z), ("what", .str wd)]) → E (.ref CN) (some d) H'
def sp_number : Sp := fun vs H Q _ => ∃ z : Int, vs = [.int z] ∧ Q (.bl true) H
theorem ok_number {f : Addr} {fd : FuncData} (F : Fun K "_law_number" "_law_number" s_law_number f fd) (T : Txt mg) : FnOk P w K mg base CX0 1 f fd ["thing"] sp_number := by
  refine F.ok sc_law_number (fun vs H Q E h => ?_) (fun cdv A outer s H vs Q E hr h => ?_)
  · obtain ⟨z, rfl, _⟩ := h
    rfl
  · obtain ⟨z, rfl, q⟩ := h
    refine ⟨_, (pss_one (ps_ret (pe_and (pe_callB call_isi (by rfl) T.isinstance (by decide +kernel) (pa_cons (pv 0) (pa_cons (pe_bltn (v := .ty "int") (by rfl) T.int (by decide +kernel) rfl) pa_nil))) (pe_one (pe_not (pe_callB call_isi (by rfl) T.isinstance (by decide +kernel) (pa_cons (pv 0) (pa_cons (pe_bltn (v := .ty "bool") (by rfl) T.bool (by decide +kernel) rfl) pa_nil)))))))), ?_⟩
    refine ⟨_, rfl, _, _, _, _, true, rfl, .ty "int", .base (.int _), kit_ty (by decide +kernel), _, rfl, iteT ?_⟩
    exact ⟨_, rfl, _, _, _, _, false, rfl, .ty "bool", .base (.int _), kit_ty (by decide +kernel), _, rfl, q⟩
theorem ok_numberQ {f : Addr} {fd : FuncData} (F : Fun K "_law_number" "_law_number" s_law_number f fd) (T : Txt mg) : FnOkQ P w K mg base 1 f fd ["thing"] sp_number := by
  refine F.okQ sc_law_number (fun vs H Q E h => ?_) (fun cdv A outer s H vs Q E hr h => ?_)
  · obtain ⟨z, rfl, _⟩ := h
    rfl
  · obtain ⟨z, rfl, q⟩ := h
    refine ⟨_, (pss_one (ps_ret (pe_and (pe_callB call_isi (by rfl) T.isinstance (by decide +kernel) (pa_cons (pv 0) (pa_cons (pe_bltn (v := .ty "int") (by rfl) T.int (by decide +kernel) rfl) pa_nil))) (pe_one (pe_not (pe_callB call_isi (by rfl) T.isinstance (by decide +kernel) (pa_cons (pv 0) (pa_cons (pe_bltn (v := .ty "bool") (by rfl) T.bool (by decide +kernel) rfl) pa_nil)))))))), ?_⟩
    refine ⟨_, rfl, _, _, _, _, true, rfl, .ty "int", .base (.int _), kit_ty (by decide +kernel), _, rfl, iteT ?_⟩
    exact ⟨_, rfl, _, _, _, _, false, rfl, .ty "bool", .base (.int _), kit_ty (by decide +kernel), _, rfl, q⟩
theorem lk_what {x y : V} : List.lookup ("what" : Str) [(("value" : Str), x), (("what" : Str), y)] = some y := by
  have e : (("what" : Str) == ("value" : Str)) = false := by decide
  simp [List.lookup, e]
theorem lk_value {x y : V} : List.lookup ("value" : Str) [(("value" : Str), x), (("what" : Str), y)] = some x := by simp [List.lookup]
/-- any list or tuple of at most so many -/
def sp_many (K : PySem.W.Frag) (CT : Addr) : Sp := fun vs H Q E => ∃ (wd : Str) (a : Addr) (us : List V) (m : Int), vs = [.str wd, .ref a, .int m] ∧ Sq K H a us ∧ (m < (us.length : Int) → ∀ d, H d = none → E (.ref CT) (some d) (upd H d (.xd [("most", .int m), ("what", .str wd)]))) ∧ (¬ m < (us.length : Int) → Q .non H)
theorem ok_many {f : Addr} {fd : FuncData} (F : Fun K "check_many" "check_many" scheck_many f fd) (T : Txt mg) (XTooMany : Exm P K mg CN CB CD CT CU fJ) : FnOk P w K mg base (L2.CX P w) 3 f fd ["what", "things", "most"] (sp_many K CT) := by
  refine F.okX sccheck_many (fun vs H Q E h => ?_) (fun cdv A outer s H vs Q E hr h => ?_)
  · obtain ⟨wd, a, us, m, rfl, _⟩ := h
    rfl
  · obtain ⟨wd, a, us, m, rfl, hS, qe, qn⟩ := h
    refine ⟨_, (pss_one (ps_if (pt_cmpR op_gt (pe_callB call_len_seq (by rfl) T.len (by decide +kernel) (pa_cons (pv 1) pa_nil)) (pv 2) (nomark _))
 (pss_one (ps_raiseOwnS rfl XTooMany.own XTooMany.gN T.super (by decide) (by decide) (by simp) hr (takes_of rfl rfl rfl rfl) (by exact (pa_cons (pv 0) (pa_cons (pv 2) pa_nil))) rfl))
 pss_nil)), ?_⟩
    refine ⟨_, rfl, a, us, rfl, hS, _, rfl, _, _, rfl, rfl, _, rfl, ite2 (fun c => ?_) (fun c => ?_)⟩
    · exact ⟨_, rfl, _, rfl, rfl, fun d nd => qe (of_decide_eq_true c) d nd⟩
    · exact qn fun z => c (decide_eq_true z)
end
end K28W

namespace K28W
open PySem PySem.Spec PyProof.Rows L2 KH K28 KD

/-! ### pairs of whole numbers -/
abbrev P2 := Int × Int
def PI (K : PySem.W.Frag) (H : Hp) (vs : List V) (qs : List P2) : Prop := Paired (fun v q => ∃ t, v = V.ref t ∧ SqT K H t [.int q.1, .int q.2]) vs qs
theorem PI.same {K : PySem.W.Frag} {H H' : Hp} {vs : List V} {qs : List P2} (h : PI K H vs qs) (s : Same H H') : PI K H' vs qs := P_mono (fun _ _ ⟨t, e, q⟩ => ⟨t, e, s.seqT q⟩) h
def upP (ps : K02.PL) : List P2 := ps.map fun q => ((q.1 : Int), (q.2 : Int))
theorem upP_get {ps : K02.PL} {k : Nat} {q : P2} (h : (upP ps)[k]? = some q) : ∃ a b, ps[k]? = some (a, b) ∧ q = ((a : Int), (b : Int)) := by
  unfold upP at h
  obtain ⟨⟨a, b⟩, h1, h2⟩ := getn_inv h
  exact ⟨a, b, h1, h2⟩
theorem upP_len (ps : K02.PL) : (upP ps).length = ps.length := by unfold upP; rw [List.length_map]
theorem PI.len {K : PySem.W.Frag} {H : Hp} {vs : List V} {qs : List P2} (h : PI K H vs qs) : vs.length = qs.length := P_len h
/-! ### what follows -/
def aftS (m : Nat) (ps : K02.PL) (k : Nat) : List Nat := (List.range m).filter fun b => decide ((k, b) ∈ ps)
theorem aft_mem {m : Nat} {ps : K02.PL} {k b : Nat} : b ∈ aftS m ps k ↔ b < m ∧ (k, b) ∈ ps := by
  unfold aftS
  rw [List.mem_filter, List.mem_range, decide_eq_true_eq]
theorem aft_lt {m : Nat} {ps : K02.PL} : ∀ v, ∀ k ∈ aftS m ps v, k < m := fun v k h => (aft_mem.mp h).1
theorem aft_sorted {m : Nat} {ps : K02.PL} : ∀ v, (aftS m ps v).Pairwise (· < ·) := fun v => List.Pairwise.sublist List.filter_sublist List.pairwise_lt_range
theorem aft_nd {m : Nat} {ps : K02.PL} : ∀ v, (aftS m ps v).Nodup := fun v => List.Nodup.sublist List.filter_sublist List.nodup_range
theorem aft_both {m : Nat} {ps : K02.PL} : ∀ v, (∀ k ∈ aftS m ps v, k < m) ∧ (aftS m ps v).Nodup := fun v => ⟨aft_lt v, aft_nd v⟩
def castL (l : List Nat) : List Int := l.map fun n : Nat => (n : Int)
theorem castL_V (l : List Nat) : (castL l).map V.int = l.map nV := by
  unfold castL
  rw [List.map_map]
  rfl
theorem aft_ints {m k : Nat} {ps : K02.PL} {l : List Nat} {S : Int → Bool} {n : Nat} (h : SetIs l S n) (hl : ∀ x, x ∈ l ↔ (k, x) ∈ ps) (hw : K02.Within m ps) {ns : List Int} (hp : ns.Pairwise (· < ·)) (hm : ∀ j : Int, j ∈ ns ↔ S j = true) : ns = castL (aftS m ps k) := by
  refine rising_uniq hp ?_ fun x => ?_
  · unfold castL
    exact List.pairwise_map.mpr (List.Pairwise.imp (fun {a b} (h : a < b) => by show (a : Int) < (b : Int); omega) (aft_sorted k))
  · rw [hm, h.iff]
    unfold castL
    rw [List.mem_map]
    constructor
    · rintro ⟨y, hy, e⟩
      have := (hl y).mp hy
      exact ⟨y, aft_mem.mpr ⟨(hw _ this).2, this⟩, e⟩
    · rintro ⟨y, hy, e⟩
      exact ⟨y, (hl y).mpr (aft_mem.mp hy).2, e⟩
def fitR (T : List P2) (lg : Int) (r : K28.Row) : Bool := decide ((T.getD (last r) (0, 0)).2 - (T.getD (r.headD 0) (0, 0)).1 ≤ lg)
def pf (T : List P2) (lg : Int) (lot : Nat) (r : K28.Row) : Bool := fitR T lg r && lotN r == lot
theorem pf_key {T : List P2} {lg : Int} {lot : Nat} (x y : K28.Row) (h : key x = key y) : pf T lg lot x = pf T lg lot y := by
  unfold key at h
  simp only [Prod.mk.injEq] at h
  unfold pf fitR
  rw [h.1, h.2.1, h.2.2]
/-! ### heaps: what is no dict by numbers stands -/
def StN (H H' : Hp) : Prop := ∀ b o, H b = some o → (∀ kvs, o ≠ .dK kvs) → H' b = some o
theorem StN.refl (H : Hp) : StN H H := fun _ _ e _ => e
theorem StN.trans {H H1 H2 : Hp} (h : StN H H1) (g : StN H1 H2) : StN H H2 := fun b o e n => g b o (h b o e n) n
theorem _root_.L2.Same.stN {H H' : Hp} (h : Same H H') : StN H H' := fun b o e _ => h b o e
theorem StN.dk {H H' : Hp} {d : Addr} {o : HO} {kvs : List (Key × V)} (h : StN H H') (e : H' d = some (.dK kvs)) : StN H (upd H' d o) := fun b x ex n => by
  have := h b x ex n
  rw [upd_ne (ne_of this e (n kvs))]
  exact this
theorem StN.mut {H H' : Hp} {p : Addr} {o : HO} (h : StN H H') (hp : H p = none) : StN H (upd H' p o) := fun b x e n => by
  rw [upd_ne (ne_of_none e hp)]
  exact h b x e n
theorem StN.new {H H' : Hp} {p : Addr} {o : HO} (h : StN H H') (hp : H' p = none) : StN H (upd H' p o) := fun b x e n => by
  have := h b x e n
  rw [upd_ne (ne_of_none this hp)]
  exact this
/-- all but two things stand -/
def StN0 (H H' : Hp) (a b : Addr) : Prop := ∀ c o, H c = some o → c ≠ a → c ≠ b → H' c = some o
theorem StN0.refl (H : Hp) (a b : Addr) : StN0 H H a b := fun _ _ e _ _ => e
theorem StN0.to {H H1 H2 : Hp} {a b : Addr} (h : StN0 H H1 a b) (s : Same H1 H2) : StN0 H H2 a b := fun c o e x y => s c o (h c o e x y)
theorem StN0.upA {H H' : Hp} {a b : Addr} {o : HO} (h : StN0 H H' a b) : StN0 H (upd H' a o) a b := fun c x e n m => by rw [upd_ne n]; exact h c x e n m
theorem StN0.upB {H H' : Hp} {a b : Addr} {o : HO} (h : StN0 H H' a b) : StN0 H (upd H' b o) a b := fun c x e n m => by rw [upd_ne m]; exact h c x e n m
/-- chains with their lots -/
def CP (H : Hp) (vs : List V) (L : List K28.Row) : Prop := Paired (fun v r => ∃ t x, v = V.ref t ∧ H t = some (.tup [nV (lotN r), .ref x]) ∧ H x = some (.lst (r.map nV))) vs L
theorem CP.st {H H' : Hp} {vs : List V} {L : List K28.Row} (h : CP H vs L) (s : StN H H') : CP H' vs L := P_mono (fun _ _ ⟨t, x, e, a, b⟩ => ⟨t, x, e, s _ _ a (fun _ z => by cases z), s _ _ b (fun _ z => by cases z)⟩) h
/-- .. none of them the list at a -/
def CPn (a : Addr) (H : Hp) (vs : List V) (L : List K28.Row) : Prop := Paired (fun v r => ∃ t x, v = V.ref t ∧ x ≠ a ∧ H t = some (.tup [nV (lotN r), .ref x]) ∧ H x = some (.lst (r.map nV))) vs L
theorem CPn.cp {a : Addr} {H : Hp} {vs : List V} {L : List K28.Row} (h : CPn a H vs L) : CP H vs L := P_mono (fun _ _ ⟨t, x, e, _, b, c⟩ => ⟨t, x, e, b, c⟩) h
theorem CPn.st {a : Addr} {H H' : Hp} {vs : List V} {L : List K28.Row} (h : CPn a H vs L) (s : StN H H') : CPn a H' vs L := P_mono (fun _ _ ⟨t, x, e, n, b, c⟩ => ⟨t, x, e, n, s _ _ b (fun _ z => by cases z), s _ _ c (fun _ z => by cases z)⟩) h
theorem CPn.mut {a : Addr} {H : Hp} {o : HO} {us vs : List V} {L : List K28.Row} (h : CPn a H vs L) (e : H a = some (.lst us)) : CPn a (upd H a o) vs L := P_mono (fun _ _ ⟨t, x, q, n, b, c⟩ => ⟨t, x, q, n, by rw [upd_ne (ne_of b e (by intro z; cases z))]; exact b, by rw [upd_ne n]; exact c⟩) h
/-- the lists that follow each place -/
theorem LR.st {H H' : Hp} {a : Addr} {bs : List (List Nat)} (h : LR H a bs) (s : StN H H') : LR H' a bs := by
  obtain ⟨as, h1, h2⟩ := h
  exact ⟨as, s _ _ h1 (fun _ z => by cases z), P_mono (fun _ _ e => s _ _ e (fun _ z => by cases z)) h2⟩
/-- a dict from numbers to rows -/
def DR (H : Hp) (d : Addr) (ls : List (Nat × K28.Row)) : Prop := ∃ wa : List (Nat × Addr), H d = some (.dK (dkN V.ref wa)) ∧ Paired (fun p q => p.1 = q.1 ∧ H p.2 = some (.lst (q.2.map nV))) wa ls
theorem dr_look {H : Hp} : ∀ {wa : List (Nat × Addr)} {ls : List (Nat × K28.Row)}, Paired (fun p q => p.1 = q.1 ∧ H p.2 = some (.lst (q.2.map nV))) wa ls → ∀ k, (K02.look ls k = none ∧ K02.look wa k = none) ∨ ∃ x l, K02.look ls k = some l ∧ K02.look wa k = some x ∧ H x = some (.lst (l.map nV))
  | _, _, .nil, k => .inl ⟨rfl, rfl⟩
  | p :: _, q :: _, .cons ⟨e1, e3⟩ r, k => by
    unfold K02.look
    by_cases e : q.1 = k
    · rw [if_pos e, if_pos (e1.trans e)]
      exact .inr ⟨p.2, q.2, rfl, rfl, e3⟩
    · rw [if_neg e, if_neg (fun z => e (e1.symm.trans z))]
      exact dr_look r k
theorem dr_keys {H : Hp} : ∀ {wa : List (Nat × Addr)} {ls : List (Nat × K28.Row)}, Paired (fun p q => p.1 = q.1 ∧ H p.2 = some (.lst (q.2.map nV))) wa ls → wa.map (·.1) = ls.map (·.1)
  | _, _, .nil => rfl
  | p :: _, q :: _, .cons ⟨e1, _⟩ r => by rw [List.map_cons, List.map_cons, e1, dr_keys r]
theorem dr_put {H : Hp} {k : Nat} {x : Addr} {l : K28.Row} (hx : H x = some (.lst (l.map nV))) : ∀ {wa : List (Nat × Addr)} {ls : List (Nat × K28.Row)}, Paired (fun p q => p.1 = q.1 ∧ H p.2 = some (.lst (q.2.map nV))) wa ls →
    Paired (fun p q => p.1 = q.1 ∧ H p.2 = some (.lst (q.2.map nV))) (K02.put wa k x) (K02.put ls k l)
  | _, _, .nil => .cons ⟨rfl, hx⟩ .nil
  | p :: _, q :: _, .cons ⟨e1, e3⟩ r => by
    unfold K02.put
    by_cases e : q.1 = k
    · rw [if_pos e, if_pos (e1.trans e)]
      exact .cons ⟨e1, hx⟩ r
    · rw [if_neg e, if_neg (fun z => e (e1.symm.trans z))]
      exact .cons ⟨e1, e3⟩ (dr_put hx r)
theorem DR.get {H : Hp} {d : Addr} {ls : List (Nat × K28.Row)} (h : DR H d ls) (k : Nat) : (K02.look ls k = none ∧ DGet H d (nV k) none) ∨ ∃ x l, K02.look ls k = some l ∧ DGet H d (nV k) (some (V.ref x)) ∧ H x = some (.lst (l.map nV)) := by
  obtain ⟨wa, h1, h2⟩ := h
  have g := dget_n (k := k) h1
  rcases dr_look h2 k with ⟨e1, e2⟩ | ⟨x, l, e1, e2, e4⟩
  · rw [e2] at g
    exact .inl ⟨e1, g⟩
  · rw [e2] at g
    exact .inr ⟨x, l, e1, g, e4⟩
theorem DR.same {H H' : Hp} {d : Addr} {ls : List (Nat × K28.Row)} (h : DR H d ls) (s : Same H H') : DR H' d ls := by
  obtain ⟨wa, h1, h2⟩ := h
  exact ⟨wa, s _ _ h1, P_mono (fun _ _ ⟨e1, e3⟩ => ⟨e1, s _ _ e3⟩) h2⟩
/-- another object changes that is a list new since H0, or no list at all -/
theorem DR.store {H : Hp} {d x : Addr} {ls : List (Nat × K28.Row)} {k : Nat} {l : K28.Row} (h : DR H d ls) (hx : H x = some (.lst (l.map nV))) (hn : (ls.map (·.1)).Nodup) (hl : ls.length < sizeLine) :
    ∃ kvs o, H d = some (.dK kvs) ∧ DPut H d (nV k) (V.ref x) (upd H d o) ∧ DR (upd H d o) d (K02.put ls k l) := by
  obtain ⟨wa, h1, h2⟩ := h
  have ek := dr_keys h2
  have el : wa.length = ls.length := P_len h2
  refine ⟨_, _, h1, dput_n (f := V.ref) (k := k) (v := x) h1 (by rw [el]; exact hl) (by rw [ek]; exact hn), ⟨K02.put wa k x, upd_same, ?_⟩⟩
  refine P_mono (fun p q ⟨e1, e3⟩ => ⟨e1, ?_⟩) (dr_put hx h2)
  rw [upd_ne (ne_of e3 h1 (by intro z; cases z))]
  exact e3
/-- .. its rows stood in the heap B already -/
def DRB (B H : Hp) (d : Addr) (ls : List (Nat × K28.Row)) : Prop := ∃ wa : List (Nat × Addr), H d = some (.dK (dkN V.ref wa)) ∧ Paired (fun p q => p.1 = q.1 ∧ B p.2 = some (.lst (q.2.map nV))) wa ls
theorem DR.b {H : Hp} {d : Addr} {ls : List (Nat × K28.Row)} (h : DR H d ls) : DRB H H d ls := h
theorem DRB.dr {B H : Hp} {d : Addr} {ls : List (Nat × K28.Row)} (h : DRB B H d ls) (s : StN B H) : DR H d ls := by
  obtain ⟨wa, h1, h2⟩ := h
  exact ⟨wa, h1, P_mono (fun _ _ ⟨a, b⟩ => ⟨a, s _ _ b (fun _ z => by cases z)⟩) h2⟩
theorem DRB.to {B H H' : Hp} {d : Addr} {ls : List (Nat × K28.Row)} (h : DRB B H d ls) (s : ∀ kvs, H d = some (.dK kvs) → H' d = some (.dK kvs)) : DRB B H' d ls := by
  obtain ⟨wa, h1, h2⟩ := h
  exact ⟨wa, s _ h1, h2⟩
theorem DRB.store {B H : Hp} {d x : Addr} {ls : List (Nat × K28.Row)} {k : Nat} {l : K28.Row} (h : DRB B H d ls) (hx : B x = some (.lst (l.map nV))) (hn : (ls.map (·.1)).Nodup) (hl : ls.length < sizeLine) :
    ∃ kvs o, H d = some (.dK kvs) ∧ DPut H d (nV k) (V.ref x) (upd H d o) ∧ DRB B (upd H d o) d (K02.put ls k l) := by
  obtain ⟨wa, h1, h2⟩ := h
  have ek := dr_keys h2
  have el : wa.length = ls.length := P_len h2
  exact ⟨_, _, h1, dput_n (f := V.ref) (k := k) (v := x) h1 (by rw [el]; exact hl) (by rw [ek]; exact hn), ⟨K02.put wa k x, upd_same, dr_put hx h2⟩⟩
/-- the first of each lot -/
structure LsAt (m : Nat) (T : List P2) (lg : Int) (L : List K28.Row) (ls : List (Nat × K28.Row)) : Prop where
  nd : (ls.map (·.1)).Nodup
  look : ∀ lot, K02.look ls lot = L.find? (pf T lg lot)
  key : ∀ lot r, K02.look ls lot = some r → lot < 2 ^ m
theorem LsAt.len {m : Nat} {T : List P2} {lg : Int} {L : List K28.Row} {ls : List (Nat × K28.Row)} (h : LsAt m T lg L ls) : ls.length ≤ 2 ^ m := by
  have := K02.nodup_len (2 ^ m) (ls.map (·.1)) h.nd fun x hx => by
    cases e : K02.look ls x with
    | none => exact (K02.look_none_iff.mp e hx).elim
    | some l => exact h.key x l e
  rwa [List.length_map] at this
theorem put_keys_new {β : Type} {ws : List (Nat × β)} {k : Nat} {x : β} (hn : K02.look ws k = none) : (K02.put ws k x).map (·.1) = ws.map (·.1) ++ [k] := by
  rw [put_dk.put_new k x ws hn, List.map_append]
  rfl
theorem LsAt.skip {m : Nat} {T : List P2} {lg : Int} {L : List K28.Row} {ls : List (Nat × K28.Row)} (h : LsAt m T lg L ls) {r : K28.Row} (c : (K02.look ls (lotN r)).isSome = true ∨ fitR T lg r = false) : LsAt m T lg (L ++ [r]) ls := by
  refine ⟨h.nd, fun lot => ?_, h.key⟩
  rw [List.find?_append, h.look lot]
  cases e : L.find? (pf T lg lot) with
  | some x => rfl
  | none =>
    have : pf T lg lot r = false := by
      unfold pf
      rcases c with c | c
      · by_cases q : lotN r = lot
        · rw [q, h.look lot, e] at c
          cases c
        · simp [q]
      · rw [c]
        rfl
    simp [List.find?_cons, this]
theorem LsAt.put {m : Nat} {T : List P2} {lg : Int} {L : List K28.Row} {ls : List (Nat × K28.Row)} (h : LsAt m T lg L ls) {r : K28.Row} (c : K02.look ls (lotN r) = none) (f : fitR T lg r = true) (hl : lotN r < 2 ^ m) : LsAt m T lg (L ++ [r]) (K02.put ls (lotN r) r) := by
  refine ⟨?_, fun lot => ?_, fun lot x => ?_⟩
  · rw [put_keys_new c]
    refine List.nodup_append.mpr ⟨h.nd, by simp, fun x hx y hy q => ?_⟩
    rw [List.mem_singleton.mp hy] at q
    exact K02.look_none_iff.mp c (q ▸ hx)
  · rw [K02.look_put, List.find?_append, ← h.look lot]
    by_cases q : lotN r = lot
    · subst q
      rw [if_pos rfl, c]
      have : pf T lg (lotN r) r = true := by unfold pf; simp [f]
      simp [List.find?_cons, this]
    · rw [if_neg q]
      have : pf T lg lot r = false := by unfold pf; simp [q]
      cases K02.look ls lot <;> simp [List.find?_cons, this]
  · rw [K02.look_put]
    split
    · rename_i q
      intro _
      omega
    · exact h.key lot x
/-! ### what is known: a dict by triples -/
def k3 (r : K28.Row) : List Key := [Sum.inl (lotN r : Int), Sum.inl (r.headD 0 : Int), Sum.inl (last r : Int)]
theorem k3_key {a b : K28.Row} : k3 a = k3 b ↔ key a = key b := by
  unfold k3 key
  simp only [List.cons.injEq, Sum.inl.injEq, and_true, Prod.mk.injEq]
  omega
def kn (acc : List K28.Row) : List (List Key × V) := acc.map fun r => (k3 r, V.bl true)
theorem kn_val (r : K28.Row) : ∀ acc : List K28.Row, (valV (kn acc) (k3 r)).isSome = acc.any fun x => key x == key r
  | [] => rfl
  | x :: acc => by
    have ih := kn_val r acc
    rw [List.any_cons]
    show (valV ((k3 x, V.bl true) :: kn acc) (k3 r)).isSome = _
    by_cases e : k3 x = k3 r
    · rw [valV_pos (show (k3 x, V.bl true).1 = k3 r from e)]
      have : (key x == key r) = true := by simpa using k3_key.mp e
      rw [this]
      rfl
    · rw [valV_neg (show ¬ (k3 x, V.bl true).1 = k3 r from e), ih]
      have : (key x == key r) = false := by simpa using fun z => e (k3_key.mpr z)
      rw [this]
      rfl
theorem kn_put {r : K28.Row} {acc : List K28.Row} (h : (acc.any fun x => key x == key r) = false) : putK (kn acc) (k3 r) (V.bl true) = kn (acc ++ [r]) := by
  unfold putK
  rw [valV_any, kn_val, h, if_neg Bool.false_ne_true]
  unfold kn
  rw [List.map_append]
  rfl
/-! ### bits in the model -/
theorem shl1 (k : Nat) : (1 : Int) * 2 ^ ((k : Int)).toNat = ((2 ^ k : Nat) : Int) := by
  rw [Int.one_mul, Int.toNat_natCast, Int.natCast_pow]
  rfl
theorem bor : ∀ a : Nat, a < 256 → ∀ k : Nat, k < 8 → Builtin.bitOr (a : Int) ((2 ^ k : Nat) : Int) = ((a ||| 2 ^ k : Nat) : Int) := by decide +kernel
theorem band (a b : Nat) : Builtin.bitAnd (a : Int) (b : Int) = ((a &&& b : Nat) : Int) := by
  first | rfl | simp [Builtin.bitAnd]
theorem blow : ∀ l : Nat, l < 256 → 0 < l → Builtin.bitAnd (l : Int) (-(l : Int)) = ((2 ^ lsb l : Nat) : Int) := by decide +kernel
theorem in_n (k : Nat) : ∀ gs : List Nat, inV (nV k) (gs.map nV) = gs.contains k
  | [] => rfl
  | x :: gs => by
    have ih := in_n k gs
    unfold inV at ih ⊢
    rw [List.map_cons, List.any_cons, ih, List.contains_cons]
    congr 1
    show ((x : Int) == (k : Int)) = (k == x)
    rw [Bool.eq_iff_iff]
    simp only [beq_iff_eq]
    omega
theorem flat_n (gs : List Nat) : (gs.map nV).all flatV = true := List.all_eq_true.mpr fun x hx => by
  obtain ⟨_, _, rfl⟩ := List.mem_map.mp hx
  rfl
theorem at_last {r : K28.Row} (h : r ≠ []) : atI (r.map nV) (-1) = some (nV (last r)) := by
  have e : r.map nV = (r.dropLast.map nV) ++ [nV (last r)] := by
    have e1 : last r = r.getLast h := by
      unfold last
      rw [List.getLast?_eq_getLast h]
      rfl
    have e2 := congrArg (List.map nV) (List.dropLast_concat_getLast h)
    rw [List.map_append] at e2
    rw [e1]
    exact e2.symm
  rw [e]
  exact atI_last _ _
theorem at_head {r : K28.Row} (h : r ≠ []) : (r.map nV)[0]? = some (nV (r.headD 0)) := by
  cases r with
  | nil => exact (h rfl).elim
  | cons x r => rfl
/-! ### how many of each kind -/
theorem ded_nd : ∀ L : List K28.Row, ((ded L).map key).Nodup := by
  refine snoc_ind List.nodup_nil fun L r ih => ?_
  rw [ded_snoc]
  unfold dstep
  split
  · exact ih
  · rename_i h
    rw [List.map_append]
    refine List.nodup_append.mpr ⟨ih, by simp, fun a ha b hb e => h ?_⟩
    obtain ⟨x, hx, rfl⟩ := List.mem_map.mp ha
    rw [List.map_cons, List.map_nil, List.mem_singleton] at hb
    rw [hb] at e
    exact any_key.mpr ⟨x, hx, e⟩
def code (r : K28.Row) : Nat := lotN r * 64 + (r.headD 0 * 8 + last r)
theorem ded_len {L : List K28.Row} (h : ∀ r ∈ L, r ≠ [] ∧ ∀ k ∈ r, k < 8) : (ded L).length ≤ 16384 := by
  have b : ∀ r ∈ L, lotN r < 256 ∧ r.headD 0 < 8 ∧ last r < 8 := fun r hr => by
    obtain ⟨h1, h2⟩ := h r hr
    refine ⟨lot_lt (m := 8) h2, ?_, h2 _ (last_mem h1)⟩
    cases r with
    | nil => exact (h1 rfl).elim
    | cons x r => exact h2 x List.mem_cons_self
  have nd : ((ded L).map code).Nodup := by
    have := ded_nd L
    unfold List.Nodup at this ⊢
    rw [List.pairwise_map] at this ⊢
    refine List.Pairwise.imp_of_mem ?_ this
    intro x y hx hy ne e
    have bx := b x (ded_sub _ x hx)
    have by' := b y (ded_sub _ y hy)
    unfold code at e
    refine ne ?_
    unfold key
    have e1 : lotN x = lotN y := by omega
    have e2 : x.headD 0 = y.headD 0 := by omega
    have e3 : last x = last y := by omega
    rw [e1, e2, e3]
  have := K02.nodup_len 16384 _ nd fun c hc => by
    obtain ⟨x, hx, rfl⟩ := List.mem_map.mp hc
    have bx := b x (ded_sub _ x hx)
    unfold code
    omega
  rwa [List.length_map] at this
theorem play_wf {aft : Nat → List Nat} {m : Nat} (ha : ∀ v, ∀ k ∈ aft v, k < m) {s : Nat} {r : K28.Row} (h : r ∈ play aft m s) : Wf m s r := by
  rw [play_eq ha] at h
  exact lay_wf ha s r (ded_sub _ _ h)
theorem ext_wf {aft : Nat → List Nat} {m : Nat} (ha : ∀ v, ∀ k ∈ aft v, k < m) {s : Nat} {r : K28.Row} {L : List K28.Row} (hL : ∀ x ∈ L, x ∈ play aft m s) (h : r ∈ ext aft L) : Wf m (s + 1) r := by
  obtain ⟨x, hx, hr⟩ := List.mem_flatMap.mp h
  refine lay_wf ha (s + 1) r (List.mem_flatMap.mpr ⟨x, ?_, hr⟩)
  have := hL x hx
  rw [play_eq ha] at this
  exact ded_sub _ _ this
theorem play_nil {aft : Nat → List Nat} {m s : Nat} (h : play aft m s = []) : ∀ k, play aft m (s + k) = []
  | 0 => h
  | k + 1 => by
    show ded (ext aft (play aft m (s + k))) = []
    rw [play_nil h k]
    rfl
theorem prows_stop {aft : Nat → List Nat} {m s : Nat} (h : play aft m s = []) : ∀ k, prows aft m (s + k) = prows aft m s
  | 0 => rfl
  | k + 1 => by rw [show s + (k + 1) = (s + k) + 1 from rfl, prows_succ, prows_stop h k, play_nil h k, List.append_nil]
/-- the rows of one row's part of the next layer, so far -/
def part1 (aft : Nat → List Nat) (r : K28.Row) (j : Nat) : List K28.Row := (((aft (last r)).take j).filter fun k => !r.contains k).map fun k => r ++ [k]
theorem part1_all (aft : Nat → List Nat) (r : K28.Row) : part1 aft r (aft (last r)).length = ext1 aft r := by unfold part1 ext1; rw [List.take_length]
theorem part1_more {aft : Nat → List Nat} {r : K28.Row} {j k : Nat} (h : (aft (last r))[j]? = some k) : part1 aft r (j + 1) = part1 aft r j ++ (if r.contains k then [] else [r ++ [k]]) := by
  unfold part1
  rw [take_more h, List.filter_append, List.map_append]
  congr 1
  cases c : r.contains k with
  | true => rw [List.filter_cons, c]; rfl
  | false => rw [List.filter_cons, c]; rfl
theorem part1_sub {aft : Nat → List Nat} {r : K28.Row} {j : Nat} {y : K28.Row} (h : y ∈ part1 aft r j) : y ∈ ext1 aft r := by
  unfold part1 at h
  obtain ⟨k, hk, rfl⟩ := List.mem_map.mp h
  obtain ⟨h1, h2⟩ := List.mem_filter.mp hk
  exact mem_ext1.mpr ⟨k, List.mem_of_mem_take h1, by simpa using h2, rfl⟩
end K28W

namespace K28W
open PySem PySem.Spec PyProof.Rows L2 KH K28 KD
abbrev s_first_lists : Stmt := topS 11
theorem sc_first_lists : FnScope ["times", "follows", "longest", "after", "lists", "layer", "known", "longer", "lot", "chain", "k", "key", "a", "b"] ["times", "follows", "longest"] (defScope s_first_lists) := ⟨rfl, rfl, rfl, by decide +kernel, rfl, by decide +kernel, by decide +kernel⟩

/-- an if whose ways join again, the slots as they were -/
theorem ifLs {t : TT} {body rest : TS} {D : Ends} {σ : L2.St} {H : Hp} (Pst : Hp → Prop) (h : ∀ Qb : Bool → Hp → Prop, (∀ H', Pst H' → Qb false H') → (∀ H', (∀ D' : Ends, (∀ H'', Pst H'' → D'.nx σ H'') → body D' σ H') → Qb true H') → t σ H Qb) (q : ∀ H', Pst H' → rest D σ H') : tSeq (tIfS t body tNext) rest D σ H := by
  refine h _ (fun H' p => ?_) (fun H' hb => ?_)
  · rw [if_neg Bool.false_ne_true]
    exact q H' p
  · rw [if_pos rfl]
    exact hb _ q
theorem ifLs1 {t : TT} {body : TS} {D : Ends} {σ : L2.St} {H : Hp} (Pst : Hp → Prop) (h : ∀ Qb : Bool → Hp → Prop, (∀ H', Pst H' → Qb false H') → (∀ H', (∀ D' : Ends, (∀ H'', Pst H'' → D'.nx σ H'') → body D' σ H') → Qb true H') → t σ H Qb) (q : ∀ H', Pst H' → D.nx σ H') : tIfS t body tNext D σ H := by
  refine h _ (fun H' p => ?_) (fun H' hb => ?_)
  · rw [if_neg Bool.false_ne_true]
    exact q H' p
  · rw [if_pos rfl]
    exact hb _ q
section
variable {P : Program} {w : World} {K : PySem.W.Frag} {mg : Str → Option Value} {base : Heap} {CN CB CD CT CU fI fJ : Addr}
def sp_first (K : PySem.W.Frag) : Sp := fun vs H Q _ => ∃ (ta fa : Addr) (lg : Int) (tv fv : List V) (T : List P2) (ps : K02.PL), vs = [.ref ta, .ref fa, .int lg] ∧ Sq K H ta tv ∧ PI K H tv T ∧ Sq K H fa fv ∧ PI K H fv (upP ps) ∧ T.length ≤ 8 ∧ K02.Within T.length ps ∧
  ∀ d ls H', Same H H' → H d = none → DR H' d ls → LsAt T.length T lg (rows (aftS T.length ps) T.length T.length) ls → Q (.ref d) H'
theorem ok_first {f : Addr} {fd : FuncData} (F : Fun K "_first_lists" "_first_lists" s_first_lists f fd) (T : Txt mg) : FnOk P w K mg base CX0 1 f fd ["times", "follows", "longest"] (sp_first K) := by
  refine F.ok sc_first_lists (fun vs H Q E h => ?_) (fun cdv A outer s H vs Q E hr h => ?_)
  · obtain ⟨ta, fa, lg, tv, fv, tm, ps, rfl, _⟩ := h
    rfl
  · obtain ⟨ta, fa, lg, tv, fv, tm, ps, rfl, hT, hTP, hF, hFP, hm, hW, q⟩ := h
    refine ⟨_, (pss_cons (ps_setLc (i := 3) (own := [("k", 10)]) (g := gName 10) (tt := tYes) rfl sc_first_lists.nd rfl rfl (sw_true rfl rfl rfl (by decide +kernel)) (pi_range1 rfl T.range (pa_cons (pe_callB call_len_seq (by rfl) T.len (by decide +kernel) (pa_cons (pv 0) pa_nil)) pa_nil)) (blkOk_by (N := ["times", "follows", "longest", "after", "lists", "layer", "known", "longer", "lot", "chain", "k", "key", "a", "b"]) (sc := defScope s_first_lists) (by decide +kernel)) (fun _ _ _ _ _ => (pg_name (i := 10) sc_first_lists.nd rfl (.inr rfl))) (fun _ _ _ _ _ => pts_nil) (fun _ _ _ _ _ => (pe_callB (r := rSortedSet w) (cr_sortedSet rfl) (by rfl) T.sorted (by decide +kernel) (pa_cons (by exact (pe_seti (w := w) (own := [("a", 12), ("b", 13)]) (wi := iSeq K _) (g := gTup K 2 (gCons (gName 12) (gCons (gName 13) (gNil)))) rfl sc_first_lists.nd (pi_seq (pv 1)) (blkOk_by (N := ["times", "follows", "longest", "after", "lists", "layer", "known", "longer", "lot", "chain", "k", "key", "a", "b"]) (by rfl)) (fun _ _ _ _ _ => (pg_tup rfl (pgs_cons (pg_name (i := 12) sc_first_lists.nd rfl (.inl rfl)) (pgs_cons (pg_name (i := 13) sc_first_lists.nd rfl (.inl rfl)) pgs_nil)))) (fun _ _ _ _ _ => pts_one (pt_cmpR op_eq (pv 12) (pv 10) (nomark _))) (fun _ _ _ _ _ => (pv 13)))) pa_nil))))
 (pss_cons (ps_set (i := 4) sc_first_lists.nd rfl (.inl rfl) pe_dnewK)
 (pss_cons (ps_setLc (i := 5) (own := [("k", 10)]) (g := gName 10) (tt := tYes) rfl sc_first_lists.nd rfl rfl (sw_true rfl rfl rfl (by decide +kernel)) (pi_range1 rfl T.range (pa_cons (pe_callB call_len_seq (by rfl) T.len (by decide +kernel) (pa_cons (pv 0) pa_nil)) pa_nil)) (blkOk_by (N := ["times", "follows", "longest", "after", "lists", "layer", "known", "longer", "lot", "chain", "k", "key", "a", "b"]) (sc := defScope s_first_lists) (by decide +kernel)) (fun _ _ _ _ _ => (pg_name (i := 10) sc_first_lists.nd rfl (.inl rfl))) (fun _ _ _ _ _ => pts_nil) (fun _ _ _ _ _ => (pe_tup (pa_cons (pe_op op_shl pe_int (pv 10)) (pa_cons (pe_lst (pa_cons (pv 10) pa_nil)) pa_nil)))))
 (pss_cons (ps_while PassesOwn.never (pt_truth (pv 5) (by intro _; rfl))
 (pss_cons (ps_set (i := 6) sc_first_lists.nd rfl (.inl rfl) pe_dnewT)
 (pss_cons (ps_set (i := 7) sc_first_lists.nd rfl (.inl rfl) (pe_lst pa_nil))
 (pss_cons (ps_for PassesOwn.never rfl (pi_list (pv 5)) (pg_tup rfl (pgs_cons (pg_name (i := 8) sc_first_lists.nd rfl (.inl rfl)) (pgs_cons (pg_name (i := 9) sc_first_lists.nd rfl (.inl rfl)) pgs_nil)))
 (pss_cons (ps_if (PW.pt (pw_and (pt_cmp (pc_dnotin (hu_of hr) (pv 8) (pv 4))) (pw_and1 (pt_cmpR op_le (pe_op op_sub (pe_ix ix_tup (pe_ix ix_seq (pv 0) (pe_ix ix_list (pv 9) (pe_un un_neg pe_int) (fun _ _ => rfl)) (fun _ _ => rfl)) pe_int (fun _ _ => rfl)) (pe_ix ix_tup (pe_ix ix_seq (pv 0) (pe_ix ix_list (pv 9) pe_int (fun _ _ => rfl)) (fun _ _ => rfl)) pe_int (fun _ _ => rfl))) (pv 2) (nomark _)))))
 (pss_one (ps_dput (hu_of hr) (pv 4) (pv 8) (pv 9) rfl))
 pss_nil)
 (pss_one (ps_for PassesOwn.never rfl (pi_list (pe_ix ix_list (pv 3) (pe_ix ix_list (pv 9) (pe_un un_neg pe_int) (fun _ _ => rfl)) (fun _ _ => rfl))) (pg_name (i := 10) sc_first_lists.nd rfl (.inl rfl))
 (pss_cons (ps_set (i := 11) sc_first_lists.nd rfl (.inl rfl) (pe_tup (pa_cons (pe_op op_or (pv 8) (pe_op op_shl pe_int (pv 10))) (pa_cons (pe_ix ix_list (pv 9) pe_int (fun _ _ => rfl)) (pa_cons (pv 10) pa_nil)))))
 (pss_one (ps_if (PW.pt (pw_and (pt_cmpR op_notIn_seq (pv 10) (pv 9) (by rfl)) (pw_and1 (pt_cmp (pc_dnotin (hu_of hr) (pv 11) (pv 6))))))
 (pss_cons (ps_dput (hu_of hr) (pv 6) (pv 11) pe_bl rfl)
 (pss_one (ps_expr (pe_bm PySem.F.plainAttrs_list PySem.F.slot_list_append PySem.F.type_list_append mt_append (pv 7) (pa_cons (pe_tup (pa_cons (pe_ix ix_tup (pv 11) pe_int (fun _ _ => rfl)) (pa_cons (pe_op op_cat (pv 9) (pe_lst (pa_cons (pv 10) pa_nil))) pa_nil))) pa_nil)))))
 pss_nil)))))))
 (pss_one (ps_set (i := 5) sc_first_lists.nd rfl (.inl rfl) (pe_callTy call_list_of (by rfl) T.list (by decide +kernel) (pa_cons (pv 7) pa_nil))))))))
 (pss_one (ps_ret (pv 4))))))), ?_⟩
    have htl : tv.length = tm.length := hTP.len
    generalize em : tm.length = m at htl hm hW q
    -- after
    refine ⟨_, rfl, ta, _, rfl, hT, _, rfl, (by omega), (by omega), ?_⟩
    rw [show ((tv.length : Nat) : Int).toNat = m by omega]
    refine fun af naf => ?_
    refine lc_range (lo := 0) (n := m) (fun k H' => Same H H' ∧ LL H H' af ((List.range k).map (aftS m ps))) ⟨(Same.refl H).new naf, LL.nil naf⟩ ?_ ?_
    · rintro k H1 hk ⟨s1, ll⟩
      rw [show (0 : Int) + (k : Int) = (k : Int) by omega]
      refine ⟨rfl, _, rfl, ?_⟩
      refine seti_seq (w := w) (xs := fv) (s1.sq hF) (fun D i H' => ∃ (S : Int → Bool) (n : Nat) (l : List Nat), Same H1 H' ∧ H' D = some (SetO w D S n) ∧ SetIs l S n ∧ ∀ x, x ∈ l ↔ (k, x) ∈ ps.take i)
        (fun D nD => ⟨_, _, [], (Same.refl H1).new nD, upd_same, .none, fun x => by simp⟩) (fun D i H' nD _ ⟨_, _, _, sm, _⟩ => ⟨fun h => sm.seq h, fun h => sm.seqT h⟩) ?_ ?_
      · rintro D i x H2 nD hx ⟨S, n, l, s2, eD, si, hl⟩
        obtain ⟨q2, hq2, t, rfl, et⟩ := P_right hFP hx
        obtain ⟨a, b, hab, rfl⟩ := upP_get hq2
        have et2 := (s1.trans s2).seqT et
        refine ⟨t, _, rfl, et2, rfl, _, _, rfl, _, _, rfl, rfl, rfl, ?_⟩
        refine ⟨_, rfl, _, rfl, rfl, _, rfl, ?_⟩
        by_cases e : a = k
        · subst e
          rw [decide_eq_true rfl]
          refine iteT ⟨_, rfl, (b : Int), S, n, rfl, eD, ?_, ?_⟩
          · have h8 : l.length ≤ 8 := Nat.le_trans (K02.nodup_len m l si.nd fun x hx => (hW _ (List.mem_of_mem_take ((hl x).mp hx))).2) hm
            rw [si.len]
            exact Nat.lt_of_le_of_lt (Nat.succ_le_succ h8) (by decide)
          · obtain ⟨l', si', hl'⟩ := si.grow b
            refine ⟨_, _, l', s2.mut nD, upd_same, si', fun x => ?_⟩
            rw [hl', hl, take_more hab, List.mem_append, List.mem_singleton]
            simp
        · rw [decide_eq_false (show ¬ nV a = nV k from fun z => e (by have := V.int.inj z; omega))]
          refine iteF ⟨S, n, l, s2, eD, si, fun x => ?_⟩
          rw [hl, take_more hab, List.mem_append, List.mem_singleton]
          exact ⟨.inl, fun h => h.elim id fun z => absurd (congrArg Prod.fst z).symm e⟩
      · rintro D H2 nD ⟨S, n, l, s2, eD, si, hl⟩
        rw [hFP.len, upP_len, List.take_length] at hl
        have h8 : l.length ≤ 8 := Nat.le_trans (K02.nodup_len m l si.nd fun x hx => (hW _ ((hl x).mp hx)).2) hm
        refine ⟨D, S, n, rfl, eD, by rw [si.len]; omega, fun ns p hp hmem hlen np => ?_⟩
        rw [aft_ints si hl hW hp hmem, castL_V]
        have s12 := s1.trans s2
        obtain ⟨vs, hv, hvl⟩ := (ll.apart s2).lst
        have hpa : af ≠ p := ne_of_none hv np
        refine ⟨vs, by rw [upd_ne hpa]; exact hv, ?_, (s12.new np).mut naf, ?_⟩
        · rw [hvl, List.length_map, List.length_range]
          exact szl (by omega)
        · have := (ll.apart s2).snoc s12 np hv (aftS m ps k)
          rw [List.range_succ, List.map_append]
          exact this
    rintro H1 ⟨s1, ll⟩
    have lr := ll.lr
    -- lists = {}
    refine fun d nd => ?_
    have s2 : Same H1 (upd H1 d (.dK [])) := (Same.refl H1).new nd
    have nd0 : H d = none := s1.free nd
    have ed : (upd H1 d (.dK [])) d = some (.dK []) := upd_same
    generalize upd H1 d (.dK []) = H2 at s2 ed ⊢
    have lr2 := lr.same s2
    have t2 := s1.trans s2
    -- layer
    refine ⟨_, rfl, ta, _, rfl, t2.sq hT, _, rfl, (by omega), (by omega), ?_⟩
    rw [show ((tv.length : Nat) : Int).toNat = m by omega]
    refine fun la0 nla0 => ?_
    refine lc_range (lo := 0) (n := m) (fun k H' => ∃ vs, Same H2 H' ∧ H' la0 = some (.lst vs) ∧ CPn la0 H' vs ((List.range k).map fun k => [k])) ⟨[], (Same.refl H2).new nla0, upd_same, .nil⟩ ?_ ?_
    · rintro k H3 hk ⟨vs, s3, ela, cp⟩
      rw [show (0 : Int) + (k : Int) = (k : Int) by omega]
      refine ⟨rfl, _, rfl, _, _, rfl, rfl, ⟨by first | decide | omega, by first | decide | omega, by first | decide | omega⟩, _, rfl, (by show 1 ≤ sizeLine; decide), fun x nx => ⟨(by show 2 ≤ sizeLine; decide), fun t nt => ?_⟩⟩
      dsimp only
      rw [shl1]
      have u1 : Same H3 (upd H3 x (.lst [nV k])) := (Same.refl H3).new nx
      have ex : (upd H3 x (.lst [nV k])) x = some (.lst [nV k]) := upd_same
      generalize upd H3 x (.lst [nV k]) = H4 at u1 ex nt ⊢
      have u2 : Same H4 (upd H4 t (.tup [nV (2 ^ k), .ref x])) := (Same.refl H4).new nt
      have et : (upd H4 t (.tup [nV (2 ^ k), .ref x])) t = some (.tup [nV (2 ^ k), .ref x]) := upd_same
      generalize upd H4 t (.tup [nV (2 ^ k), .ref x]) = H5 at u2 et ⊢
      have u3 := u1.trans u2
      refine ⟨vs, u3 _ _ ela, ?_, vs ++ [V.ref t], (s3.trans u3).mut nla0, upd_same, ?_⟩
      · rw [P_len cp, List.length_map, List.length_range]
        exact szl (by omega)
      · have h5 := u3 _ _ ela
        rw [List.range_succ, List.map_append]
        refine P_append ((cp.st u3.stN).mut h5) (.cons ⟨t, x, rfl, ?_, ?_, ?_⟩ .nil)
        · exact fun z => by rw [z, ela] at nx; cases nx
        · rw [upd_ne (ne_of et h5 (by intro z; cases z)), lot_single]
          exact et
        · rw [upd_ne (fun z => by rw [z, ela] at nx; cases nx)]
          exact u2 _ _ ex
    rintro H3 ⟨vs0, s3, ela0, cpn0⟩
    have t3 := t2.trans s3
    have lr3 := lr2.same s3
    have ed3 := s3 _ _ ed
    generalize eaf : aftS m ps = aft at lr3 q
    have alt : ∀ v, ∀ k ∈ aft v, k < m := by rw [← eaf]; exact aft_lt
    have abo : ∀ v, (∀ k ∈ aft v, k < m) ∧ (aft v).Nodup := by rw [← eaf]; exact aft_both
    have cp0 := cpn0.cp
    clear ll lr lr2 cpn0
    have lra : ∀ {H' : Hp}, LR H' af ((List.range m).map aft) → ∀ v, v < m → ∃ (vs : List V) (x : Addr), H' af = some (.lst vs) ∧ vs[v]? = some (V.ref x) ∧ H' x = some (.lst ((aft v).map nV)) := fun h v hv => h.at (by rw [List.getElem?_map, List.getElem?_range hv]; rfl)
    -- while layer
    refine ⟨fun c σ H' => ∃ (st : Nat) (la : Addr) (lv : List V) (ls : List (Nat × K28.Row)) (v6 v7 v8 v9 v10 v11 : Option V), σ = [some (.ref ta), some (.ref fa), some (.int lg), some (.ref af), some (.ref d), some (.ref la), v6, v7, v8, v9, v10, v11, none, none] ∧ Same H H' ∧ H' la = some (.lst lv) ∧ CP H' lv (play aft m st) ∧
        LR H' af ((List.range m).map aft) ∧ DR H' d ls ∧ LsAt m tm lg (prows aft m st) ls ∧ st ≤ m ∧ c = m - st,
      ⟨_, 0, la0, vs0, [], none, none, none, none, none, none, rfl, t3, ela0, cp0, lr3, ⟨[], ed3, .nil⟩, ⟨List.nodup_nil, fun _ => rfl, fun lot r h => (by cases h)⟩, Nat.zero_le _, rfl⟩, ?_⟩
    rintro c σ HB ⟨st, la, lv, ls, v6, v7, v8, v9, v10, v11, rfl, tB, ela, cpB, lrB, drB, lsB, hst, rfl⟩
    refine ⟨_, rfl, _, .inl ⟨lv, SqL.of ela, rfl⟩, ?_⟩
    have hlv : lv.length = (play aft m st).length := P_len cpB
    by_cases emp : lv = []
    · subst emp
      refine iteF ⟨_, rfl, q d ls HB tB nd0 drB ?_⟩
      have hp : play aft m st = [] := List.length_eq_zero_iff.mp (by rw [← hlv]; rfl)
      have := prows_stop hp (m - st)
      rw [show st + (m - st) = m by omega] at this
      refine ⟨lsB.nd, fun lot => ?_, lsB.key⟩
      rw [lsB.look lot, ← this]
      exact find_prows alt pf_key m
    have hne : (!lv.isEmpty) = true := by
      cases lv with
      | nil => exact (emp rfl).elim
      | cons x l => rfl
    rw [hne]
    have hstm : st < m := by
      refine Nat.lt_of_le_of_ne hst fun e => emp (List.length_eq_zero_iff.mp ?_)
      rw [hlv, play_eq alt, e, lay_end alt (Nat.le_refl m)]
      rfl
    refine iteT ⟨fun σ H' => ∃ (la : Addr) (lv : List V) (ls : List (Nat × K28.Row)) (v6 v7 v8 v9 v10 v11 : Option V), σ = [some (.ref ta), some (.ref fa), some (.int lg), some (.ref af), some (.ref d), some (.ref la), v6, v7, v8, v9, v10, v11, none, none] ∧ Same H H' ∧ H' la = some (.lst lv) ∧ CP H' lv (play aft m (st + 1)) ∧
        LR H' af ((List.range m).map aft) ∧ DR H' d ls ∧ LsAt m tm lg (prows aft m (st + 1)) ls, ?_, ?_⟩
    · rintro σ' H' ⟨la, lv, ls, v6, v7, v8, v9, v10, v11, rfl, a1, a2, a3, a4, a5, a6⟩
      exact ⟨m - (st + 1), by omega, st + 1, la, lv, ls, v6, v7, v8, v9, v10, v11, rfl, a1, a2, a3, a4, a5, a6, by omega, rfl⟩
    -- known, longer
    refine fun kd nkd => ?_
    have k1 : Same HB (upd HB kd (.dT [])) := (Same.refl HB).new nkd
    have ekd : (upd HB kd (.dT [])) kd = some (.dT []) := upd_same
    generalize upd HB kd (.dT []) = HC at k1 ekd ⊢
    refine ⟨Nat.zero_le _, fun lo' nlo => ?_⟩
    have k2 : Same HC (upd HC lo' (.lst [])) := (Same.refl HC).new nlo
    have elo : (upd HC lo' (.lst [])) lo' = some (.lst []) := upd_same
    generalize upd HC lo' (.lst []) = HD at k2 elo ⊢
    have nloB : HB lo' = none := k1.free nlo
    have nkdH : H kd = none := tB.free nkd
    have nloH : H lo' = none := tB.free nloB
    have wfB : ∀ r ∈ play aft m st, Wf m st r := fun r h => play_wf alt h
    have k12 := k1.trans k2
    refine ⟨_, rfl, la, rfl, ⟨_, SqL.of (k12 _ _ ela)⟩, for_list (K := K) (a := la) (xs := lv) (fun i σ H' => ∃ (acc : List K28.Row) (gv : List V) (ls : List (Nat × K28.Row)) (v8 v9 v10 v11 : Option V), σ = [some (.ref ta), some (.ref fa), some (.int lg), some (.ref af), some (.ref d), some (.ref la), some (.ref kd), some (.ref lo'), v8, v9, v10, v11, none, none] ∧ Same H H' ∧ StN HB H' ∧
        H' kd = some (.dT (kn acc)) ∧ H' lo' = some (.lst gv) ∧ CPn lo' H' gv acc ∧ acc = ded (ext aft ((play aft m st).take i)) ∧ DRB HB H' d ls ∧ LsAt m tm lg (prows aft m st ++ (play aft m st).take i) ls)
      ⟨[], [], ls, v8, v9, v10, v11, rfl, tB.trans k12, k12.stN, k2 _ _ ekd, elo, .nil, rfl, drB.b.to (fun _ e => k12 _ _ e), by rw [List.take_zero, List.append_nil]; exact lsB⟩ (fun i σ H' _ ⟨_, _, _, _, _, _, _, _, _, sn, _⟩ => SqL.of (sn _ _ ela (fun _ z => by cases z))) ?_ ?_⟩
    · rintro i y σ HE hy ⟨acc, gv, ls, v8, v9, v10, v11, rfl, tE, snE, ekE, elE, cpE, eacc, drE, lsE⟩
      obtain ⟨r, hr1, t, x, rfl, et, ex⟩ := P_right cpB hy
      have hrm := List.mem_of_getElem? hr1
      have wf := wfB r hrm
      have rne := wf.ne
      have et' := snE _ _ et (fun _ z => by cases z)
      have ex' := snE _ _ ex (fun _ z => by cases z)
      have hlast : last r < m := wf.lt _ (last_mem rne)
      have hhead : r.headD 0 < m := by
        cases r with
        | nil => exact (rne rfl).elim
        | cons x r => exact wf.lt x List.mem_cons_self
      refine ⟨t, _, rfl, SqT.of et', rfl, _, _, rfl, _, _, rfl, rfl, ?_⟩
      -- if lot not in lists and ..
      refine ifLs (Pst := fun H' => ∃ ls', Same H H' ∧ StN HB H' ∧ StN HE H' ∧ DRB HB H' d ls' ∧ LsAt m tm lg (prows aft m st ++ (play aft m st).take (i + 1)) ls') ?_ ?_
      · intro Qb qf qt
        have tk1 : (play aft m st).take (i + 1) = (play aft m st).take i ++ [r] := take_more hr1
        have skip : ((K02.look ls (lotN r)).isSome = true ∨ fitR tm lg r = false) → ∃ ls', Same H HE ∧ StN HB HE ∧ StN HE HE ∧ DRB HB HE d ls' ∧ LsAt m tm lg (prows aft m st ++ (play aft m st).take (i + 1)) ls' := fun c => ⟨ls, tE, snE, StN.refl _, drE, by rw [tk1, ← List.append_assoc]; exact lsE.skip c⟩
        rcases (drE.dr snE).get (lotN r) with ⟨el, g⟩ | ⟨x', l', el, g, _⟩
        · refine ⟨_, rfl, _, rfl, d, _, rfl, g, _, rfl, iteT ?_⟩
          obtain ⟨q1, hq1⟩ := get_lt (l := tm) (i := last r) (by omega)
          obtain ⟨q2, hq2⟩ := get_lt (l := tm) (i := r.headD 0) (by omega)
          obtain ⟨_, hv1, t1, rfl, et1⟩ := P_left hTP hq1
          obtain ⟨_, hv2, t2', rfl, et2⟩ := P_left hTP hq2
          refine ⟨_, rfl, _, rfl, _, rfl, ixl (SqL.of ex') (at_last rne) (ixq (tE.sq hT) (at_n hv1) ⟨t1, _, 1, .int q1.2, rfl, rfl, tE.seqT et1, rfl, ?_⟩)⟩
          refine ⟨_, rfl, _, rfl, x, _, 0, nV (r.headD 0), rfl, rfl, SqL.of ex', at_n (j := 0) (at_head rne), ixq (tE.sq hT) (at_n hv2) ⟨t2', _, 0, .int q2.1, rfl, rfl, tE.seqT et2, rfl, _, _, rfl, rfl, _, rfl, _, _, rfl, rfl, _, rfl, ?_⟩⟩
          have efit : fitR tm lg r = decide (q1.2 - q2.1 ≤ lg) := by
            unfold fitR
            rw [List.getD_eq_getElem?_getD, List.getD_eq_getElem?_getD, hq1, hq2]
            rfl
          cases c : decide (q1.2 - q2.1 ≤ lg) with
          | false => exact qf HE (skip (.inr (by rw [efit, c])))
          | true =>
            refine qt HE fun D' hd => ?_
            obtain ⟨kvs, o, edk, pd, dr'⟩ := drE.store (k := lotN r) (l := r) ex lsE.nd (by have := lsE.len; have : 2 ^ m ≤ 2 ^ 8 := Nat.pow_le_pow_right (by decide) hm; exact szl (by omega))
            exact ⟨_, rfl, _, rfl, _, rfl, d, _, rfl, pd, hd _ ⟨_, tE.mut nd0, snE.dk edk, (StN.refl _).dk edk, dr', by rw [tk1, ← List.append_assoc]; exact lsE.put el (by rw [efit, c]) (lot_lt wf.lt)⟩⟩
        · exact ⟨_, rfl, _, rfl, d, _, rfl, g, _, rfl, iteF (qf HE (skip (.inl (by rw [el]; rfl))))⟩
      · rintro HF ⟨ls', tF, snF, snEF, drF, lsF⟩
        have exF := snEF _ _ ex' (fun _ z => by cases z)
        obtain ⟨avs, ya, haf, hav, hya⟩ := lra lrB (last r) hlast
        have lst : ∀ {H' : Hp}, StN HB H' → ∀ {a : Addr} {xs : List V}, HB a = some (.lst xs) → SqL K H' a xs := fun {H'} sn {a} {xs} e => SqL.of (sn _ _ e (fun _ z => by cases z))
        refine ⟨_, rfl, _, rfl, _, rfl, ixl (SqL.of exF) (at_last rne) (ixl (lst snF haf) (at_n hav) ⟨ya, rfl, ⟨_, lst snF hya⟩, for_list (K := K) (a := ya) (xs := (aft (last r)).map nV) (fun j σ H' => ∃ (acc : List K28.Row) (gv : List V) (v10 v11 : Option V), σ = [some (.ref ta), some (.ref fa), some (.int lg), some (.ref af), some (.ref d), some (.ref la), some (.ref kd), some (.ref lo'), some (nV (lotN r)), some (.ref x), v10, v11, none, none] ∧ Same H H' ∧ StN HB H' ∧
          H' kd = some (.dT (kn acc)) ∧ H' lo' = some (.lst gv) ∧ CPn lo' H' gv acc ∧ acc = (part1 aft r j).foldl dstep (ded (ext aft ((play aft m st).take i))) ∧ DRB HB H' d ls')
          ⟨acc, gv, v10, v11, rfl, tF, snF, snEF _ _ ekE (fun _ z => by cases z), snEF _ _ elE (fun _ z => by cases z), cpE.st snEF, eacc, drF⟩ (fun j σ H' _ ⟨_, _, _, _, _, _, sn, _⟩ => lst sn hya) ?_ ?_⟩)⟩
        · rintro j y2 σ HG hj ⟨acc, gv, v10, v11, rfl, tG, snG, ekG, elG, cpG, eacc, drG⟩
          obtain ⟨k, hk, rfl⟩ := getn_inv hj
          have hkm : k < m := alt _ k (List.mem_of_getElem? hk)
          have exG := snG _ _ ex (fun _ z => by cases z)
          have hl8 : lotN r < 256 := Nat.lt_of_lt_of_le (lot_lt wf.lt) (by have : 2 ^ m ≤ 2 ^ 8 := Nat.pow_le_pow_right (by decide) hm; omega)
          have ebor : Builtin.bitOr (lotN r : Int) ((1 : Int) * 2 ^ ((k : Int)).toNat) = ((lotN (r ++ [k]) : Nat) : Int) := by
            rw [shl1, bor _ hl8 k (by omega), lot_snoc]
          -- key
          refine ⟨_, rfl, _, rfl, _, _, rfl, rfl, ⟨by first | decide | omega, by first | decide | omega, by first | decide | omega⟩, _, _, rfl, rfl, _, rfl, x, _, 0, nV (r.headD 0), rfl, rfl, SqL.of exG, at_n (j := 0) (at_head rne), _, rfl, (by show 3 ≤ sizeLine; decide), fun t1 n1 => ?_⟩
          dsimp only
          rw [ebor]
          have u1 : Same HG (upd HG t1 (.tup [nV (lotN (r ++ [k])), nV (r.headD 0), nV k])) := (Same.refl HG).new n1
          have et1 : (upd HG t1 (.tup [nV (lotN (r ++ [k])), nV (r.headD 0), nV k])) t1 = some (.tup [nV (lotN (r ++ [k])), nV (r.headD 0), nV k]) := upd_same
          generalize upd HG t1 (.tup [nV (lotN (r ++ [k])), nV (r.headD 0), nV k]) = HI at u1 et1 ⊢
          have hk3 : (k3 (r ++ [k])).map kV = [nV (lotN (r ++ [k])), nV (r.headD 0), nV k] := by
            unfold k3
            rw [head_snoc _ _ rne, last_snoc]
            rfl
          have et3 : HI t1 = some (.tup ((k3 (r ++ [k])).map kV)) := by rw [hk3]; exact et1
          have exI := u1 _ _ exG
          have ekI := u1 _ _ ekG
          have elI := u1 _ _ elG
          have cpI := cpG.st u1.stN
          have drI := drG.to (H' := HI) (fun _ e => u1 _ _ e)
          have tI := tG.trans u1
          have snI := snG.trans u1.stN
          have pm := part1_more hk
          refine ifLs1 (Pst := fun H' => ∃ (acc : List K28.Row) (gv : List V), Same H H' ∧ StN HB H' ∧ H' kd = some (.dT (kn acc)) ∧ H' lo' = some (.lst gv) ∧ CPn lo' H' gv acc ∧ acc = (part1 aft r (j + 1)).foldl dstep (ded (ext aft ((play aft m st).take i))) ∧ DRB HB H' d ls') ?_ ?_
          · intro Qb qf qt
            have wf1 : ∀ y ∈ ext aft ((play aft m st).take i) ++ part1 aft r (j + 1), y ≠ [] ∧ ∀ k ∈ y, k < 8 := fun y hy => by
              have w1 : Wf m (st + 1) y := by
                rcases List.mem_append.mp hy with hy | hy
                · exact ext_wf alt (fun x hx => List.mem_of_mem_take hx) hy
                · exact ext_wf (L := [r]) alt (fun x hx => by rw [List.mem_singleton.mp hx]; exact hrm) (List.mem_flatMap.mpr ⟨r, List.mem_singleton.mpr rfl, part1_sub hy⟩)
              exact ⟨w1.ne, fun k hk => Nat.lt_of_lt_of_le (w1.lt k hk) hm⟩
            have same : acc = (part1 aft r (j + 1)).foldl dstep (ded (ext aft ((play aft m st).take i))) → ∃ (acc : List K28.Row) (gv : List V), Same H HI ∧ StN HB HI ∧ HI kd = some (.dT (kn acc)) ∧ HI lo' = some (.lst gv) ∧ CPn lo' HI gv acc ∧ acc = (part1 aft r (j + 1)).foldl dstep (ded (ext aft ((play aft m st).take i))) ∧ DRB HB HI d ls' := fun e => ⟨acc, gv, tI, snI, ekI, elI, cpI, e, drI⟩
            refine ⟨_, rfl, _, rfl, x, _, rfl, .inl (SqL.of exI), rfl, flat_n _, _, rfl, ?_⟩
            rw [in_n]
            cases cr : r.contains k with
            | true =>
              refine iteF (qf HI (same ?_))
              rw [pm, cr, if_pos rfl, List.append_nil]
              exact eacc
            | false =>
              rw [cr, if_neg Bool.false_ne_true] at pm
              refine iteT ⟨_, rfl, _, rfl, kd, _, rfl, DGet.t ekI et3, _, rfl, ?_⟩
              rw [kn_val]
              have enew : (part1 aft r (j + 1)).foldl dstep (ded (ext aft ((play aft m st).take i))) = dstep acc (r ++ [k]) := by
                rw [pm, List.foldl_append, ← eacc]
                rfl
              cases ck : acc.any (fun x => key x == key (r ++ [k])) with
              | true =>
                refine qf HI (same ?_)
                rw [enew]
                unfold dstep
                rw [if_pos ck]
              | false =>
                have edst : dstep acc (r ++ [k]) = acc ++ [r ++ [k]] := by unfold dstep; rw [ck, if_neg Bool.false_ne_true]
                have hal : acc.length + 1 ≤ 16384 := by
                  have h1 := ded_len wf1
                  have h2 : ded (ext aft ((play aft m st).take i) ++ part1 aft r (j + 1)) = acc ++ [r ++ [k]] := by
                    rw [← edst, ← enew]
                    unfold ded
                    rw [List.foldl_append]
                  rw [h2, List.length_append, List.length_singleton] at h1
                  exact h1
                have z16 : (16384 : Nat) < sizeLine := by decide
                refine qt HI fun D' hd => ?_
                refine ⟨_, rfl, _, rfl, kd, _, rfl, DPut.t ekI et3 (by unfold kn; rw [List.length_map]; omega), ?_⟩
                rw [kn_put ck]
                have u2 : StN HI (upd HI kd (.dT (kn (acc ++ [r ++ [k]])))) → True := fun _ => trivial
                have kne : ∀ {a : Addr} {o : HO}, HI a = some o → (∀ l, o ≠ .dT l) → a ≠ kd := fun e n => ne_of e ekI (n _)
                have ekJ : (upd HI kd (.dT (kn (acc ++ [r ++ [k]])))) kd = some (.dT (kn (acc ++ [r ++ [k]]))) := upd_same
                have stJ : ∀ b o, b ≠ kd → HI b = some o → (upd HI kd (.dT (kn (acc ++ [r ++ [k]])))) b = some o := fun b o n e => by rw [upd_ne n]; exact e
                have tJ : Same H (upd HI kd (.dT (kn (acc ++ [r ++ [k]])))) := tI.mut nkdH
                have snJ : StN HB (upd HI kd (.dT (kn (acc ++ [r ++ [k]])))) := snI.mut nkd
                have cpJ : CPn lo' (upd HI kd (.dT (kn (acc ++ [r ++ [k]])))) gv acc := P_mono (fun _ _ ⟨t, x, q, n, b, c⟩ => ⟨t, x, q, n, stJ _ _ (kne b (fun l z => by cases z)) b, stJ _ _ (kne c (fun l z => by cases z)) c⟩) cpI
                have elJ := stJ _ _ (kne elI (fun l z => by cases z)) elI
                have exJ := stJ _ _ (kne exI (fun l z => by cases z)) exI
                have etJ := stJ _ _ (kne et1 (fun l z => by cases z)) et1
                have drJ := drI.to (H' := upd HI kd (.dT (kn (acc ++ [r ++ [k]])))) (fun _ e => stJ _ _ (kne e (fun l z => by cases z)) e)
                generalize upd HI kd (.dT (kn (acc ++ [r ++ [k]]))) = HJ at ekJ tJ snJ cpJ elJ exJ etJ drJ ⊢
                refine ⟨_, rfl, .inl ⟨rfl, _, SqL.of elJ⟩, _, rfl, t1, _, 0, nV (lotN (r ++ [k])), rfl, rfl, SqT.of etJ, rfl, _, rfl, _, rfl, (by show 1 ≤ sizeLine; decide), fun p np => ?_⟩
                have w1 : Same HJ (upd HJ p (.lst [nV k])) := (Same.refl HJ).new np
                have epp : (upd HJ p (.lst [nV k])) p = some (.lst [nV k]) := upd_same
                generalize upd HJ p (.lst [nV k]) = HK at w1 epp ⊢
                refine ⟨x, p, _, _, rfl, rfl, w1 _ _ exJ, epp, ?_, fun z nz => ⟨(by show 2 ≤ sizeLine; decide), fun t2 n2 => ?_⟩⟩
                · rw [List.length_map, wf.len]
                  exact szle (by show st + 1 + 1 ≤ 10000; omega)
                have w2 : Same HK (upd HK z (.lst (r.map nV ++ [nV k]))) := (Same.refl HK).new nz
                have ezz : (upd HK z (.lst (r.map nV ++ [nV k]))) z = some (.lst ((r ++ [k]).map nV)) := by rw [upd_same, List.map_append]; rfl
                have zlo : z ≠ lo' := fun e => by rw [e, w1 _ _ elJ] at nz; cases nz
                generalize upd HK z (.lst (r.map nV ++ [nV k])) = HL at w2 ezz n2 ⊢
                have w3 : Same HL (upd HL t2 (.tup [nV (lotN (r ++ [k])), .ref z])) := (Same.refl HL).new n2
                have et2 : (upd HL t2 (.tup [nV (lotN (r ++ [k])), .ref z])) t2 = some (.tup [nV (lotN (r ++ [k])), .ref z]) := upd_same
                generalize upd HL t2 (.tup [nV (lotN (r ++ [k])), .ref z]) = HM at w3 et2 ⊢
                have w13 := (w1.trans w2).trans w3
                have elM := w13 _ _ elJ
                refine ⟨lo', _, _, rfl, rfl, elM, by rw [P_len cpJ]; omega, hd _ ⟨acc ++ [r ++ [k]], gv ++ [V.ref t2], (tJ.trans w13).mut nloH, (snJ.trans w13.stN).mut nloB, ?_, upd_same, ?_, by rw [enew, edst], ?_⟩⟩
                · rw [upd_ne (fun e => by rw [← e, ekJ] at elJ; cases elJ)]
                  exact w13 _ _ ekJ
                · refine P_append ((cpJ.st w13.stN).mut elM) (.cons ⟨t2, z, rfl, zlo, ?_, ?_⟩ .nil)
                  · rw [upd_ne (ne_of et2 elM (by intro z; cases z))]
                    exact et2
                  · rw [upd_ne zlo]
                    exact w3 _ _ ezz
                · exact drJ.to fun _ e => by rw [upd_ne (ne_of (w13 _ _ e) elM (by intro z; cases z))]; exact w13 _ _ e
          · rintro H' ⟨acc, gv, a1, a2, a3, a4, a5, a6, a7⟩
            exact ⟨acc, gv, _, _, rfl, a1, a2, a3, a4, a5, a6, a7⟩
        · rintro σ HG ⟨acc, gv, v10, v11, rfl, tG, snG, ekG, elG, cpG, eacc, drG⟩
          refine ⟨acc, gv, ls', _, _, _, _, rfl, tG, snG, ekG, elG, cpG, ?_, drG, lsF⟩
          rw [eacc, List.length_map, part1_all, take_more hr1, ext_app]
          unfold ded
          rw [List.foldl_append]
          congr 1
          unfold ext
          simp
    · rintro σ HE ⟨acc, gv, ls, v8, v9, v10, v11, rfl, tE, snE, ekE, elE, cpE, eacc, drE, lsE⟩
      rw [hlv, List.take_length] at eacc lsE
      refine ⟨_, rfl, lo', _, rfl, .inl (SqL.of elE), fun l2 nl2 => ?_⟩
      have k5 : Same HE (upd HE l2 (.lst gv)) := (Same.refl HE).new nl2
      refine ⟨l2, gv, ls, _, _, _, _, _, _, rfl, tE.trans k5, upd_same, ?_, (LR.st lrB snE).same k5, (drE.dr snE).same k5, by rw [prows_succ]; exact lsE⟩
      rw [show play aft m (st + 1) = acc by rw [eacc]; rfl]
      exact (cpE.st k5.stN).cp
end
end K28W

namespace K28W
open PySem PySem.Spec PyProof.Rows L2 KH K28 KD
abbrev s_by_least : Stmt := topS 12
theorem sc_by_least : FnScope ["lists", "begun", "part"] ["lists"] (defScope s_by_least) := ⟨rfl, rfl, rfl, by decide +kernel, rfl, by decide +kernel, by decide +kernel⟩

abbrev s_lot_values : Stmt := topS 13
theorem sc_lot_values : FnScope ["many", "begun", "values", "lot", "part"] ["many", "begun"] (defScope s_lot_values) := ⟨rfl, rfl, rfl, by decide +kernel, rfl, by decide +kernel, by decide +kernel⟩

/-! ### the parts by their least bit -/
def lowOf (ks : List Nat) (q : Nat) : List Nat := ks.filter fun p => 2 ^ lsb p == q
def BgOk (ks : List Nat) (bs : List (Nat × K28.Row)) : Prop := ∀ q, K02.look bs q = if lowOf ks q = [] then none else some (lowOf ks q)
theorem low_snoc (ks : List Nat) (p q : Nat) : lowOf (ks ++ [p]) q = lowOf ks q ++ (if 2 ^ lsb p = q then [p] else []) := by
  unfold lowOf
  rw [List.filter_append]
  congr 1
  by_cases e : 2 ^ lsb p = q <;> simp [List.filter_cons, e]
theorem BgOk.snoc {ks : List Nat} {bs : List (Nat × K28.Row)} (h : BgOk ks bs) (p : Nat) : BgOk (ks ++ [p]) (K02.put bs (2 ^ lsb p) (lowOf ks (2 ^ lsb p) ++ [p])) := fun q => by
  rw [K02.look_put, low_snoc]
  by_cases e : 2 ^ lsb p = q
  · subst e
    rw [if_pos rfl, if_pos rfl, if_neg (by simp)]
  · rw [if_neg e, if_neg e, List.append_nil]
    exact h q
/-- at b the dict, its lists new since H0, no two the same -/
def BG (H0 H : Hp) (b : Addr) (bs : List (Nat × K28.Row)) : Prop := ∃ wa : List (Nat × Addr), H b = some (.dK (dkN V.ref wa)) ∧ (wa.map (·.2)).Nodup ∧ Paired (fun p q => p.1 = q.1 ∧ H0 p.2 = none ∧ H p.2 = some (.lst (q.2.map nV))) wa bs
theorem BG.dr {H0 H : Hp} {b : Addr} {bs : List (Nat × K28.Row)} (h : BG H0 H b bs) : DR H b bs := by
  obtain ⟨wa, h1, _, h2⟩ := h
  exact ⟨wa, h1, P_mono (fun _ _ ⟨a, _, c⟩ => ⟨a, c⟩) h2⟩
theorem BG.same {H0 H H' : Hp} {b : Addr} {bs : List (Nat × K28.Row)} (h : BG H0 H b bs) (s : Same H H') : BG H0 H' b bs := by
  obtain ⟨wa, h1, n, h2⟩ := h
  exact ⟨wa, s _ _ h1, n, P_mono (fun _ _ ⟨a, x, c⟩ => ⟨a, x, s _ _ c⟩) h2⟩
theorem bg_keys {H0 H : Hp} : ∀ {wa : List (Nat × Addr)} {bs : List (Nat × K28.Row)}, Paired (fun p q => p.1 = q.1 ∧ H0 p.2 = none ∧ H p.2 = some (.lst (q.2.map nV))) wa bs → wa.map (·.1) = bs.map (·.1)
  | _, _, .nil => rfl
  | p :: _, q :: _, .cons ⟨e1, _, _⟩ r => by rw [List.map_cons, List.map_cons, e1, bg_keys r]
theorem put_len {β : Type} (k : Nat) (v : β) : ∀ l : List (Nat × β), (K02.put l k v).length ≤ l.length + 1
  | [] => by unfold K02.put; simp
  | p :: r => by
    unfold K02.put
    split
    · simp
    · simpa using put_len k v r
theorem bg_mem : ∀ {wa : List (Nat × Addr)} {k : Nat} {x : Addr}, K02.look wa k = some x → x ∈ wa.map (·.2)
  | p :: wa, k, x, h => by
    unfold K02.look at h
    by_cases e : p.1 = k
    · rw [if_pos e] at h
      cases h
      exact List.mem_cons_self
    · rw [if_neg e] at h
      exact List.mem_cons_of_mem _ (bg_mem h)
theorem bg_grow {H0 H : Hp} {k : Nat} {x : Addr} {l : K28.Row} : ∀ {wa : List (Nat × Addr)} {bs : List (Nat × K28.Row)}, Paired (fun p q => p.1 = q.1 ∧ H0 p.2 = none ∧ H p.2 = some (.lst (q.2.map nV))) wa bs → (wa.map (·.2)).Nodup → K02.look wa k = some x →
    Paired (fun p q => p.1 = q.1 ∧ H0 p.2 = none ∧ (upd H x (.lst (l.map nV))) p.2 = some (.lst (q.2.map nV))) wa (K02.put bs k l)
  | p :: wa, q :: bs, .cons ⟨e1, e2, e3⟩ r, nd, h => by
    obtain ⟨n1, n2⟩ := List.nodup_cons.mp nd
    unfold K02.look at h
    unfold K02.put
    by_cases e : p.1 = k
    · rw [if_pos e] at h
      cases h
      rw [if_pos (e1.symm.trans e)]
      refine .cons ⟨e1, e2, upd_same⟩ (P_monoM (fun a b ha ⟨a1, a2, a3⟩ => ⟨a1, a2, ?_⟩) r)
      rw [upd_ne (fun z : a.2 = p.2 => n1 (List.mem_map.mpr ⟨a, ha, z⟩))]
      exact a3
    · rw [if_neg e] at h
      rw [if_neg (fun z => e (e1.trans z))]
      refine .cons ⟨e1, e2, ?_⟩ (bg_grow r n2 h)
      rw [upd_ne (fun z : p.2 = x => n1 (by show p.2 ∈ _; rw [z]; exact bg_mem h))]
      exact e3
theorem bg_look {H0 H : Hp} : ∀ {wa : List (Nat × Addr)} {bs : List (Nat × K28.Row)}, Paired (fun p q => p.1 = q.1 ∧ H0 p.2 = none ∧ H p.2 = some (.lst (q.2.map nV))) wa bs → ∀ k, (K02.look bs k = none ∧ K02.look wa k = none) ∨ ∃ x l, K02.look bs k = some l ∧ K02.look wa k = some x ∧ H0 x = none ∧ H x = some (.lst (l.map nV))
  | _, _, .nil, k => .inl ⟨rfl, rfl⟩
  | p :: _, q :: _, .cons ⟨e1, e2, e3⟩ r, k => by
    unfold K02.look
    by_cases e : q.1 = k
    · rw [if_pos e, if_pos (e1.trans e)]
      exact .inr ⟨p.2, q.2, rfl, rfl, e2, e3⟩
    · rw [if_neg e, if_neg (fun z => e (e1.symm.trans z))]
      exact bg_look r k
section
variable {P : Program} {w : World} {K : PySem.W.Frag} {mg : Str → Option Value} {base : Heap} {CN CB CD CT CU fI fJ : Addr}
def sp_byleast : Sp := fun vs H Q _ => ∃ (d : Addr) (ls : List (Nat × K28.Row)), vs = [.ref d] ∧ DR H d ls ∧ (ls.map (·.1)).Nodup ∧ (∀ p ∈ ls.map (·.1), 0 < p ∧ p < 256) ∧
  ∀ b bs H', Same H H' → DR H' b bs → BgOk (ls.map (·.1)) bs → Q (.ref b) H'
theorem ok_byleast {f : Addr} {fd : FuncData} (F : Fun K "_by_least" "_by_least" s_by_least f fd) (T : Txt mg) : FnOk P w K mg base CX0 1 f fd ["lists"] sp_byleast := by
  refine F.ok sc_by_least (fun vs H Q E h => ?_) (fun cdv A outer s H vs Q E hr h => ?_)
  · obtain ⟨d, ls, rfl, _⟩ := h
    rfl
  · obtain ⟨d, ls, rfl, ⟨wa0, ed0, pd0⟩, hnd, hks, q⟩ := h
    refine ⟨_, (pss_cons (ps_set (i := 1) sc_by_least.nd rfl (.inl rfl) pe_dnewK)
 (pss_cons (ps_lock (ps_for PassesOwn.never rfl (pi_keys (pv 0)) (pg_name (i := 2) sc_by_least.nd rfl (.inl rfl))
 (pss_one (ps_expr (pe_bm PySem.F.plainAttrs_list PySem.F.slot_list_append PySem.F.type_list_append mt_append (pe_dsetd (pv 1) (pe_op op_and (pv 2) (pe_un un_neg (pv 2))) (pe_lst pa_nil) ⟨by rfl, by rfl, by rfl, by rfl⟩) (pa_cons (pv 2) pa_nil))))))
 (pss_one (ps_ret (pv 1))))), ?_⟩
    have ekeys := dr_keys pd0
    generalize eks : ls.map (·.1) = ks at hnd hks q ekeys
    have hkl : wa0.length = ks.length := by rw [← ekeys, List.length_map]
    have hk256 : ks.length ≤ 256 := K02.nodup_len 256 ks hnd fun x hx => (hks x hx).2
    refine fun b nb => ?_
    have s1 : Same H (upd H b (.dK [])) := (Same.refl H).new nb
    have eb : (upd H b (.dK [])) b = some (.dK []) := upd_same
    have db : d ≠ b := ne_of_none ed0 nb
    have ed1 := s1 _ _ ed0
    generalize upd H b (.dK []) = H1 at s1 eb ed1 ⊢
    refine ⟨d, _, ed1, trivial, fun od => ?_⟩
    have u1 : ∀ c o, c ≠ d → H c = some o → (upd H1 d (.frz od (.dK (dkN V.ref wa0)))) c = some o := fun c o n e => by rw [upd_ne n]; exact s1 _ _ e
    have ef : (upd H1 d (.frz od (.dK (dkN V.ref wa0)))) d = some (.frz od (.dK (dkN V.ref wa0))) := upd_same
    have eb1 : (upd H1 d (.frz od (.dK (dkN V.ref wa0)))) b = some (.dK []) := by rw [upd_ne (Ne.symm db)]; exact eb
    generalize upd H1 d (.frz od (.dK (dkN V.ref wa0))) = H2 at u1 ef eb1 ⊢
    refine ⟨_, rfl, d, od, rfl, .inl ⟨_, ef, for_it (walk_keys (d := d) (o := od) (kvs := dkN V.ref wa0)) (fun i σ H' => ∃ (bs : List (Nat × K28.Row)) (v2 : Option V), σ = [some (.ref d), some (.ref b), v2] ∧ (∀ c o, c ≠ d → H c = some o → H' c = some o) ∧ H' d = some (.frz od (.dK (dkN V.ref wa0))) ∧ BG H H' b bs ∧ BgOk (ks.take i) bs ∧ (bs.map (·.1)).Nodup ∧ bs.length ≤ i)
      ⟨[], none, rfl, u1, ef, ⟨[], eb1, List.nodup_nil, .nil⟩, fun q => rfl, List.nodup_nil, Nat.le_refl _⟩ (fun i σ H' _ ⟨_, _, _, _, e, _⟩ => e) ?_ ?_⟩⟩
    · rintro i y σ H3' H3 hi ⟨bs, v2, rfl, u3, ef3, bg, ok, nd, hbl⟩ ⟨rfl, kk, vv, hkv, rfl⟩
      have hi' : i < wa0.length := by rw [dk_len] at hi; exact hi
      obtain ⟨⟨p, xa⟩, hp⟩ := get_lt hi'
      have ekk : kk = Sum.inl (p : Int) := by
        have : (dkN V.ref wa0)[i]? = some (Sum.inl (p : Int), V.ref xa) := by unfold dkN; rw [List.getElem?_map, hp]; rfl
        rw [this] at hkv
        exact (congrArg Prod.fst (Option.some.inj hkv)).symm
      subst ekk
      have hpk : ks[i]? = some p := by rw [← ekeys, List.getElem?_map, hp]; rfl
      obtain ⟨p0, p1⟩ := hks p (List.mem_of_getElem? hpk)
      obtain ⟨wa, h1, n1, pw⟩ := bg
      have hwl : wa.length = bs.length := P_len pw
      refine ⟨_, rfl, b, rfl, .inl ⟨_, .inl h1⟩, _, rfl, _, rfl, _, rfl, _, _, rfl, rfl, Nat.zero_le _, fun z nz => ?_⟩
      have low : V.int (Builtin.bitAnd (p : Int) (-(p : Int))) = kV (Sum.inl ((2 ^ lsb p : Nat) : Int)) := by rw [blow p p1 p0]; rfl
      have v1 : Same H3 (upd H3 z (.lst [])) := (Same.refl H3).new nz
      have ez : (upd H3 z (.lst [])) z = some (.lst []) := upd_same
      have zd : d ≠ z := ne_of_none ef3 nz
      have u4 : ∀ c o, c ≠ d → H c = some o → (upd H3 z (.lst [])) c = some o := fun c o n e => v1 _ _ (u3 c o n e)
      have nz0 : H z = none := by
        cases c : H z with
        | none => rfl
        | some o => have := u3 z o (Ne.symm zd) c; rw [nz] at this; cases this
      have zno : ∀ a ∈ wa.map (·.2), a ≠ z := fun a ha e => by
        obtain ⟨y, hy, rfl⟩ := List.mem_map.mp ha
        obtain ⟨j, hj⟩ := List.getElem?_of_mem hy
        obtain ⟨_, _, _, _, e3⟩ := P_right pw hj
        rw [e, nz] at e3
        cases e3
      have h1' := v1 _ _ h1
      have pw' : Paired (fun (p : Nat × Addr) (q : Nat × K28.Row) => p.1 = q.1 ∧ H p.2 = none ∧ (upd H3 z (.lst [])) p.2 = some (.lst (q.2.map nV))) wa bs := P_mono (fun _ _ ⟨a, b, c⟩ => ⟨a, b, v1 _ _ c⟩) pw
      have ef4 := v1 _ _ ef3
      generalize upd H3 z (.lst []) = H4 at v1 ez u4 h1' pw' ef4 ⊢
      have hk := bg_keys pw'
      have okk := ok (2 ^ lsb p)
      have tk := take_more hpk
      refine ⟨dkN V.ref wa, Sum.inl ((2 ^ lsb p : Nat) : Int), h1', low, by rw [dk_len, hwl]; exact szl (by omega), fun v hv => ?_, fun hn => ?_⟩
      · rw [val_dk] at hv
        rcases bg_look pw' (2 ^ lsb p) with ⟨e1, e2⟩ | ⟨x, l, e1, e2, e3, e4⟩
        · rw [e2] at hv
          cases hv
        · rw [e2] at hv
          cases hv
          rw [okk] at e1
          have el : l = lowOf (ks.take i) (2 ^ lsb p) := by
            split at e1
            · cases e1
            · exact (Option.some.inj e1).symm
          refine ⟨.inl ⟨rfl, _, SqL.of e4⟩, _, rfl, x, _, _, rfl, rfl, e4, ?_, ?_⟩
          · rw [List.length_map, el]
            exact szl (Nat.le_trans (List.length_filter_le _ _) (Nat.le_trans (List.length_take_le' _ _) (by omega)))
          · have ex : (l.map nV ++ [kV (Sum.inl (p : Int))] : List V) = (l ++ [p]).map nV := by rw [List.map_append]; rfl
            dsimp only
            rw [ex]
            have xd : d ≠ x := ne_of ef4 e4 (by intro z; cases z)
            refine ⟨K02.put bs (2 ^ lsb p) (l ++ [p]), _, rfl, fun c o n e => ?_, ?_, ⟨wa, ?_, n1, bg_grow pw' n1 e2⟩, ?_, (put_keys (2 ^ lsb p) (l ++ [p]) bs nd).1, ?_⟩
            · rw [upd_ne (ne_of_none e e3)]
              exact u4 c o n e
            · rw [upd_ne xd]
              exact ef4
            · rw [upd_ne (ne_of h1' e4 (by intro z; cases z))]
              exact h1'
            · rw [tk, el]
              exact ok.snoc p
            · exact Nat.le_trans (put_len (2 ^ lsb p) (l ++ [p]) bs) (by omega)
      · rw [val_dk] at hn
        have e2 : K02.look wa (2 ^ lsb p) = none := by
          cases c : K02.look wa (2 ^ lsb p) with
          | none => rfl
          | some x => rw [c] at hn; cases hn
        have e1 : K02.look bs (2 ^ lsb p) = none := by
          rcases bg_look pw' (2 ^ lsb p) with ⟨e1, _⟩ | ⟨x, l, _, e3, _⟩
          · exact e1
          · rw [e2] at e3; cases e3
        have el : lowOf (ks.take i) (2 ^ lsb p) = [] := by
          rw [okk] at e1
          split at e1
          · assumption
          · cases e1
        rw [put_dk V.ref (2 ^ lsb p) z wa (by rw [hk]; exact nd)]
        have bz : b ≠ z := ne_of h1' ez (by intro z; cases z)
        have ez5 : (upd H4 b (.dK (dkN V.ref (K02.put wa (2 ^ lsb p) z)))) z = some (.lst []) := by rw [upd_ne (Ne.symm bz)]; exact ez
        refine ⟨.inl ⟨rfl, _, SqL.of ez5⟩, _, rfl, z, _, _, rfl, rfl, ez5, by decide, ?_⟩
        rw [put_dk.put_new (2 ^ lsb p) z wa e2]
        refine ⟨K02.put bs (2 ^ lsb p) [p], _, rfl, fun c o n e => ?_, ?_, ⟨wa ++ [(2 ^ lsb p, z)], ?_, ?_, ?_⟩, ?_, (put_keys (2 ^ lsb p) [p] bs nd).1, ?_⟩
        · rw [upd_ne (ne_of_none e nz0), upd_ne (ne_of_none e nb)]
          exact u4 c o n e
        · rw [upd_ne zd, upd_ne db]
          exact ef4
        · rw [upd_ne bz, upd_same]
        · rw [List.map_append]
          exact List.nodup_append.mpr ⟨n1, by simp, fun a ha c hc e => zno a ha (by rw [e]; simpa using hc)⟩
        · rw [put_dk.put_new (2 ^ lsb p) [p] bs e1]
          refine P_append (P_monoM (fun a c ha ⟨x1, x2, x3⟩ => ⟨x1, x2, ?_⟩) pw') (.cons ⟨rfl, nz0, upd_same⟩ .nil)
          rw [upd_ne (zno _ (List.mem_map.mpr ⟨a, ha, rfl⟩)), upd_ne (ne_of x3 h1' (by intro z; cases z))]
          exact x3
        · rw [tk]
          have := ok.snoc p
          rw [el] at this
          exact this
        · rw [put_dk.put_new (2 ^ lsb p) [p] bs e1, List.length_append, List.length_singleton]
          omega
    · rintro σ H3 ⟨bs, v2, rfl, u3, ef3, bg, ok, nd, hbl⟩
      rw [dk_len, hkl, List.take_length] at ok
      refine ⟨ef3, _, rfl, q b bs _ (fun c o e => ?_) ?_ ok⟩
      · by_cases n : c = d
        · subst n
          rw [upd_same, ← e]
          exact ed0.symm
        · rw [upd_ne n]
          exact u3 c o n e
      · obtain ⟨wa, x1, x2⟩ := bg.dr
        refine ⟨wa, ?_, P_mono (fun _ _ ⟨a, c⟩ => ⟨a, ?_⟩) x2⟩
        · rw [upd_ne (Ne.symm db)]
          exact x1
        · rw [upd_ne (ne_of c ef3 (by intro z; cases z))]
          exact c
end
end K28W

namespace K28W
open PySem PySem.Spec PyProof.Rows L2 KH K28 KD
abbrev s_chosen_shifts : Stmt := topS 14
theorem sc_chosen_shifts : FnScope ["lists", "begun", "values", "shifts", "left", "parts", "first", "part", "k"] ["lists", "begun", "values"] (defScope s_chosen_shifts) := ⟨rfl, rfl, rfl, by decide +kernel, rfl, by decide +kernel, by decide +kernel⟩

/-! ### lists of numbers in order, as Python compares them -/
theorem listLt_ints : ∀ a b : List Nat, PySem.W.listLt (castL a) (castL b) = K02.lexLt a b
  | [], [] => rfl
  | [], _ :: _ => rfl
  | _ :: _, [] => rfl
  | x :: xs, y :: ys => by
    show (if (x : Int) = (y : Int) then PySem.W.listLt (castL xs) (castL ys) else decide ((x : Int) < (y : Int))) = if x = y then K02.lexLt xs ys else decide (x < y)
    by_cases e : x = y
    · rw [if_pos e, if_pos (by rw [e]), listLt_ints xs ys]
    · rw [if_neg e, if_neg (by omega)]
      exact decide_eq_decide.mpr (by omega)
theorem ints_inj {a b : List Nat} (h : castL a = castL b) : a = b := by
  have h1 : PySem.W.listLt (castL a) (castL b) = false := by rw [h, listLt_ints]; exact K02.lex_irr b
  have h2 : PySem.W.listLt (castL b) (castL a) = false := by rw [h, listLt_ints]; exact K02.lex_irr b
  rw [listLt_ints] at h1 h2
  exact K02.lex_anti h1 h2
theorem min_ints (x : List Nat) : ∀ xs : List (List Nat), ∃ y, PySem.W.minOf (castL x) (xs.map castL) = castL y ∧ y ∈ x :: xs ∧ ∀ z ∈ x :: xs, K02.lexLt z y = false
  | [] => ⟨x, rfl, List.mem_singleton.mpr rfl, fun z hz => by rw [List.mem_singleton.mp hz]; exact K02.lex_irr x⟩
  | u :: us => by
    show ∃ y, PySem.W.minOf (if PySem.W.listLt (castL u) (castL x) = true then castL u else castL x) (us.map castL) = castL y ∧ _
    rw [listLt_ints]
    cases h : K02.lexLt u x with
    | true =>
      rw [if_pos rfl]
      obtain ⟨y, h1, h2, h3⟩ := min_ints u us
      refine ⟨y, h1, List.mem_cons_of_mem _ h2, fun z hz => ?_⟩
      rcases List.mem_cons.mp hz with e | e
      · rw [e]
        exact K02.lex_le_trans (h3 u List.mem_cons_self) (K02.lex_asym h)
      · exact h3 z e
    | false =>
      rw [if_neg Bool.false_ne_true]
      obtain ⟨y, h1, h2, h3⟩ := min_ints x us
      refine ⟨y, h1, ?_, fun z hz => ?_⟩
      · rcases List.mem_cons.mp h2 with e | e
        · rw [e]
          exact List.mem_cons_self
        · exact List.mem_cons_of_mem _ (List.mem_cons_of_mem _ e)
      · rcases List.mem_cons.mp hz with e | e
        · rw [e]
          exact h3 x List.mem_cons_self
        · rcases List.mem_cons.mp e with e | e
          · rw [e]
            exact K02.lex_le_trans (h3 x List.mem_cons_self) h
          · exact h3 z (List.mem_cons_of_mem _ e)
theorem dpAll_nV {K : PySem.W.Frag} {H : Hp} : ∀ l : List Nat, DpAll K H (l.map nV) ((castL l).map PySem.W.Datum.toD)
  | [] => .nil
  | x :: r => .cons (.int (x : Int)) (dpAll_nV r)
theorem dp_list {K : PySem.W.Frag} {H : Hp} {p : Addr} {l : List Nat} (h : SqL K H p (l.map nV)) : Dp K H (.ref p) (PySem.W.Datum.toD (castL l)) := .lst h (dpAll_nV l)
/-! ### the values, one by one -/
def vals (v : List Nat) (n : Nat) (l : List Nat) : List Nat := (l.filter fun p => p &&& n == p).map fun p => v.getD (n - p) 0
theorem vals_yes {v l : List Nat} {n i p : Nat} (h : l[i]? = some p) (e : p &&& n = p) : vals v n (l.take (i + 1)) = vals v n (l.take i) ++ [v.getD (n - p) 0] := by
  unfold vals
  rw [take_more h, List.filter_append, List.map_append]
  simp [e]
theorem vals_no {v l : List Nat} {n i p : Nat} (h : l[i]? = some p) (e : p &&& n ≠ p) : vals v n (l.take (i + 1)) = vals v n (l.take i) := by
  unfold vals
  rw [take_more h, List.filter_append, List.map_append]
  simp [e]
theorem vals_len (v : List Nat) (n : Nat) (l : List Nat) : (vals v n l).length ≤ l.length := by
  unfold vals
  rw [List.length_map]
  exact List.length_filter_le _ _
theorem getD_at {v : List Nat} {i : Nat} (h : i < v.length) : v[i]? = some (v.getD i 0) := by
  rw [List.getD_eq_getElem?_getD, List.getElem?_eq_getElem h]
  rfl
theorem _root_.K28.Vl.grow {Pt : Nat → Prop} {n : Nat} {v l : List Nat} (hn : n < 256) (pos : ∀ p, Pt p → 0 < p ∧ p < 256) (h : Vl Pt n v) (h0 : 0 < n) (hl : ∀ p, p ∈ l ↔ Pt p ∧ lsb p = lsb n) {y : Nat} (hy : y ∈ vals v n l) (hle : ∀ z ∈ vals v n l, y ≤ z) : Vl Pt (n + 1) (v ++ [1 + y]) := by
  have mem : ∀ z, z ∈ vals v n l ↔ ∃ p, (Pt p ∧ lsb p = lsb n) ∧ p &&& n = p ∧ v.getD (n - p) 0 = z := fun z => by
    unfold vals
    rw [List.mem_map]
    constructor
    · rintro ⟨p, hp, e⟩
      rw [List.mem_filter, beq_iff_eq] at hp
      exact ⟨p, (hl p).mp hp.1, hp.2, e⟩
    · rintro ⟨p, a, b, e⟩
      exact ⟨p, List.mem_filter.mpr ⟨(hl p).mpr a, by rw [beq_iff_eq]; exact b⟩, e⟩
  obtain ⟨p, ⟨a1, a2⟩, a3, a4⟩ := (mem y).mp hy
  have dn : ∀ q, Pt q → n - q < v.length := fun q hq => by
    have := (pos q hq).1
    rw [h.len]
    omega
  refine h.snoc hn pos h0 a1 a2 a3 (by rw [getD_at (dn p a1), a4]) fun p' y' b1 b2 b3 b4 => hle y' ((mem y').mpr ⟨p', ⟨b1, b2⟩, b3, ?_⟩)
  rw [getD_at (dn p' b1)] at b4
  exact Option.some.inj b4
theorem vals_pos {Pt : Nat → Prop} {n : Nat} {v l : List Nat} (hn : n < 256) (h0 : 0 < n) (hl : ∀ p, p ∈ l ↔ Pt p ∧ lsb p = lsb n) (one : Pt (2 ^ lsb n)) : 0 < (vals v n l).length := by
  obtain ⟨_, _, c, d⟩ := lsb_bit n hn h0
  refine List.length_pos_of_mem (a := v.getD (n - 2 ^ lsb n) 0) ?_
  unfold vals
  exact List.mem_map.mpr ⟨2 ^ lsb n, List.mem_filter.mpr ⟨(hl _).mpr ⟨one, d⟩, by rw [beq_iff_eq]; exact c⟩, rfl⟩
theorem mem_low {ks : List Nat} {n : Nat} (p : Nat) : p ∈ lowOf ks (2 ^ lsb n) ↔ p ∈ ks ∧ lsb p = lsb n := by
  unfold lowOf
  rw [List.mem_filter, beq_iff_eq]
  exact ⟨fun ⟨a, b⟩ => ⟨a, (Nat.pow_right_inj (by decide)).mp b⟩, fun ⟨a, b⟩ => ⟨a, by rw [b]⟩⟩
theorem BgOk.at_ {ks : List Nat} {bs : List (Nat × K28.Row)} (h : BgOk ks bs) {n : Nat} (hn : n < 256) (h0 : 0 < n) (one : 2 ^ lsb n ∈ ks) : K02.look bs (2 ^ lsb n) = some (lowOf ks (2 ^ lsb n)) := by
  rw [h, if_neg fun z => ?_]
  have : 2 ^ lsb n ∈ lowOf ks (2 ^ lsb n) := (mem_low _).mpr ⟨one, (lsb_bit n hn h0).2.2.2⟩
  rw [z] at this
  cases this
theorem DR.at_ {H : Hp} {d : Addr} {ls : List (Nat × K28.Row)} (h : DR H d ls) {k : Nat} {l : K28.Row} (e : K02.look ls k = some l) : ∃ x, DGet H d (nV k) (some (V.ref x)) ∧ H x = some (.lst (l.map nV)) := by
  rcases h.get k with ⟨a, _⟩ | ⟨x, l', a, b, c⟩
  · rw [e] at a
    cases a
  · rw [e] at a
    cases a
    exact ⟨x, b, c⟩
theorem low_len {ks : List Nat} (q : Nat) (nd : ks.Nodup) (h : ∀ x ∈ ks, x < 256) : (lowOf ks q).length ≤ 256 :=
  Nat.le_trans (List.length_filter_le _ _) (K02.nodup_len 256 ks nd h)
theorem vint_eq {a b : Int} : (V.int a = V.int b) ↔ a = b := ⟨V.int.inj, fun h => by rw [h]⟩
theorem eqN {α : Type} {a b : Nat} (h : a = b) : decide (nV a = nV b) = true := decide_eq_true (by rw [h])
theorem neN {α : Type} {a b : Nat} (h : a ≠ b) : decide (nV a = nV b) = false := decide_eq_false fun z => h (by have := V.int.inj z; omega)
theorem two_le {m : Nat} (h : m ≤ 8) : 2 ^ m ≤ 256 ∧ 0 < 2 ^ m := ⟨Nat.pow_le_pow_right (by decide) h, Nat.two_pow_pos m⟩
section
variable {P : Program} {w : World} {K : PySem.W.Frag} {mg : Str → Option Value} {base : Heap} {CN CB CD CT CU fI fJ : Addr}
def sp_values : Sp := fun vs H Q _ => ∃ (m : Nat) (b : Addr) (bs : List (Nat × K28.Row)) (ks : List Nat), vs = [nV m, .ref b] ∧ DR H b bs ∧ BgOk ks bs ∧ m ≤ 8 ∧ ks.Nodup ∧ (∀ p ∈ ks, 0 < p ∧ p < 256) ∧ (∀ k, k < m → 2 ^ k ∈ ks) ∧
  ∀ x v H', Same H H' → H x = none → H' x = some (.lst (v.map nV)) → Vl (· ∈ ks) (2 ^ m) v → Q (.ref x) H'
theorem ok_values {f : Addr} {fd : FuncData} (F : Fun K "_lot_values" "_lot_values" s_lot_values f fd) (T : Txt mg) : FnOk P w K mg base CX0 1 f fd ["many", "begun"] sp_values := by
  refine F.ok sc_lot_values (fun vs H Q E h => ?_) (fun cdv A outer s H vs Q E hr h => ?_)
  · obtain ⟨m, b, bs, ks, rfl, _⟩ := h
    rfl
  · obtain ⟨m, b, bs, ks, rfl, hD, hB, hm, hnd, hks, hone, q⟩ := h
    refine ⟨_, (pss_cons (ps_set (i := 2) sc_lot_values.nd rfl (.inr rfl) (pe_lst (pa_cons pe_int pa_nil)))
 (pss_cons (ps_for PassesOwn.never rfl (pi_range2 rfl T.range (pa_cons pe_int (pa_cons (pe_op op_shl pe_int (pv 0)) pa_nil))) (pg_name (i := 3) sc_lot_values.nd rfl (.inr rfl))
 (pss_one (ps_expr (pe_bm PySem.F.plainAttrs_list PySem.F.slot_list_append PySem.F.type_list_append mt_append (pv 2) (pa_cons (pe_op op_add pe_int (pe_callB (cr_min rfl) (by rfl) T.min (by decide +kernel) (pa_cons (pe_lc (own := [("part", 4)]) (g := gName 4) rfl sc_lot_values.nd (pi_list (pe_dget (hu_of hr) (pv 1) (pe_op op_and (pv 3) (pe_un un_neg (pv 3))) (fun _ _ => rfl))) (blkOk_by (N := ["many", "begun", "values", "lot", "part"]) (sc := defScope s_lot_values) (by decide +kernel)) (fun _ _ _ _ _ => (pg_name (i := 4) sc_lot_values.nd rfl (.inl rfl))) (fun _ _ _ _ _ => pts_one (pt_cmpR op_eq (pe_op op_and (pv 4) (pv 3)) (pv 4) (nomark _))) (fun _ _ _ _ _ => (pe_ix (r := rIxL K) ix_list (pv 2) (pe_op op_sub (pv 3) (pv 4)) (fun _ _ => rfl)))) pa_nil))) pa_nil)))))
 (pss_one (ps_ret (pv 2))))), ?_⟩
    obtain ⟨hp1, hp2⟩ := two_le hm
    refine ⟨(by show 1 ≤ sizeLine; decide), fun x nx => ?_⟩
    have s1 : Same H (upd H x (.lst [nV 0])) := (Same.refl H).new nx
    have ex : (upd H x (.lst [nV 0])) x = some (.lst ([0].map nV)) := upd_same
    generalize upd H x (.lst [nV 0]) = H1 at s1 ex ⊢
    refine ⟨_, rfl, _, _, rfl, rfl, ⟨by first | decide | omega, by first | decide | omega, by first | decide | omega⟩, ?_⟩
    refine ⟨1, ((2 ^ m : Nat) : Int), by rw [← shl1], ⟨by omega, by omega, by omega, by omega⟩, ?_⟩
    rw [show (((2 ^ m : Nat) : Int) - 1).toNat = 2 ^ m - 1 by omega]
    refine for_range (lo := 1) (n := 2 ^ m - 1) (fun i σ H' => ∃ (v : List Nat) (v3 : Option V), σ = [some (nV m), some (.ref b), some (.ref x), v3, none] ∧ Same H H' ∧ H' x = some (.lst (v.map nV)) ∧ Vl (· ∈ ks) (i + 1) v)
      ⟨[0], none, rfl, s1, ex, Vl.start _⟩ ?_ ?_
    · rintro i σ H2 hi ⟨v, v3, rfl, s2, ev, hv⟩
      rw [show (1 : Int) + (i : Int) = ((i + 1 : Nat) : Int) by omega]
      generalize en : i + 1 = n at hv ⊢
      have hn : n < 2 ^ m := by omega
      have n0 : 0 < n := by omega
      have n256 : n < 256 := by omega
      have one : 2 ^ lsb n ∈ ks := hone _ (lsb_lt hm hn n0)
      have lk := hB.at_ n256 n0 one
      have ml : ∀ p, p ∈ lowOf ks (2 ^ lsb n) ↔ p ∈ ks ∧ lsb p = lsb n := mem_low
      obtain ⟨y, gy, ey⟩ := (hD.same s2).at_ lk
      have ll := low_len (2 ^ lsb n) hnd fun x hx => (hks x hx).2
      generalize lowOf ks (2 ^ lsb n) = l at lk ml ey ll
      rw [show nV (2 ^ lsb n) = V.int (Builtin.bitAnd (n : Int) (-(n : Int))) by rw [blow n n256 n0]] at gy
      refine ⟨_, rfl, .inl ⟨rfl, _, SqL.of ev⟩, ?_⟩
      refine ⟨_, rfl, _, rfl, _, rfl, _, rfl, _, _, rfl, rfl, b, _, rfl, gy, y, rfl, ⟨_, SqL.of ey⟩, fun B nB => ?_⟩
      refine lc_list (K := K) (a := y) (xs := l.map nV) (fun k H3 => Same H2 H3 ∧ H3 B = some (.lst ((vals v n (l.take k)).map nV))) ⟨(Same.refl H2).new nB, upd_same⟩ (fun k H3 _ ⟨s3, _⟩ => s3.seq (SqL.of ey)) ?_ ?_
      · rintro k z H3 hk ⟨s3, eB⟩
        obtain ⟨p, hp, rfl⟩ := getn_inv hk
        have hpk := (ml p).mp (List.mem_of_getElem? hp)
        obtain ⟨p0, p1⟩ := hks p hpk.1
        refine ⟨rfl, _, rfl, _, rfl, _, _, rfl, rfl, _, rfl, ?_⟩
        dsimp only
        rw [band p n]
        refine ⟨rfl, _, rfl, ?_⟩
        by_cases e : p &&& n = p
        · rw [eqN (α := Nat) e]
          have le := (sub_cnt p p1 n n256 p0 e).1
          refine iteT ⟨_, rfl, _, rfl, _, rfl, _, _, rfl, rfl, ?_⟩
          dsimp only
          rw [show ((n : Nat) : Int) - (p : Int) = ((n - p : Nat) : Int) by omega]
          refine ixl (SqL.of (s3 _ _ ev)) (at_n (getn (getD_at (show n - p < v.length by rw [hv.len]; omega)))) ⟨_, eB, ?_, s3.mut nB, ?_⟩
          · rw [List.length_map]
            exact szl (Nat.le_trans (vals_len _ _ _) (Nat.le_trans (List.length_take_le' _ _) (by omega)))
          · rw [upd_same, vals_yes hp e, List.map_append]
            rfl
        · rw [neN (α := Nat) e]
          exact iteF ⟨s3, by rw [vals_no hp e]; exact eB⟩
      rintro H3 ⟨s3, eB⟩
      rw [List.length_map, List.take_length] at eB
      refine ⟨B, castL (vals v n l), rfl, by rw [castL_V]; exact SqL.of eB, ?_, fun mn hmn hle => ?_⟩
      · unfold castL
        rw [List.length_map]
        exact vals_pos n256 n0 ml one
      obtain ⟨yv, hyv, rfl⟩ := List.mem_map.mp hmn
      refine ⟨_, _, rfl, rfl, x, _, _, rfl, rfl, s3 _ _ ev, ?_, v ++ [1 + yv], _, rfl, (s2.trans s3).mut nx, ?_, ?_⟩
      · rw [List.length_map, hv.len]
        exact szl (by omega)
      · rw [upd_same, List.map_append]
        congr 2
      · exact hv.grow n256 hks n0 ml hyv fun z hz => by
          have := hle (z : Int) (List.mem_map.mpr ⟨z, hz, rfl⟩)
          omega
    · rintro σ H2 ⟨v, v3, rfl, s2, ev, hv⟩
      exact ⟨_, rfl, q x v H2 s2 nx ev (by rw [show 2 ^ m - 1 + 1 = 2 ^ m by omega] at hv; exact hv)⟩
end
end K28W

namespace K28W
open PySem PySem.Spec PyProof.Rows L2 KH K28 KD
/-! ### the rows of the lots -/
structure Lb (L : List K28.Row) (fit : K28.Row → Bool) (ls : List (Nat × K28.Row)) : Prop where
  nd : (ls.map (·.1)).Nodup
  pos : ∀ p ∈ ls.map (·.1), 0 < p ∧ p < 256
  least : ∀ p r, K02.look ls p = some r → Lst L fit p r
  all : ∀ r ∈ L, fit r = true → lotN r ∈ ls.map (·.1)
  wf : ∀ r ∈ L, r ≠ [] ∧ r.Nodup ∧ ∀ k ∈ r, k < 8
theorem look_of_mem {β : Type} {ls : List (Nat × β)} {p : Nat} (h : p ∈ ls.map (·.1)) : ∃ r, K02.look ls p = some r := by
  cases e : K02.look ls p with
  | some r => exact ⟨r, rfl⟩
  | none => exact (K02.look_none_iff.mp e h).elim
def goodb (v : List Nat) (left p : Nat) : Bool := v.getD (left - p) 0 + 1 == v.getD left 0
def subs (l : List Nat) (left : Nat) : List Nat := l.filter fun p => p &&& left == p
theorem subs_yes {l : List Nat} {n i p : Nat} (h : l[i]? = some p) (e : p &&& n = p) : subs (l.take (i + 1)) n = subs (l.take i) n ++ [p] := by
  unfold subs
  rw [take_more h, List.filter_append]
  simp [e]
theorem subs_no {l : List Nat} {n i p : Nat} (h : l[i]? = some p) (e : p &&& n ≠ p) : subs (l.take (i + 1)) n = subs (l.take i) n := by
  unfold subs
  rw [take_more h, List.filter_append]
  simp [e]
theorem mem_subs {l : List Nat} {n p : Nat} : p ∈ subs l n ↔ p ∈ l ∧ p &&& n = p := by
  unfold subs
  rw [List.mem_filter, beq_iff_eq]
theorem subs_len (l : List Nat) (n : Nat) : (subs l n).length ≤ l.length := List.length_filter_le _ _
theorem Vl.val {Pt : Nat → Prop} {n : Nat} {v : List Nat} (h : Vl Pt n v) {left : Nat} (h0 : 0 < left) (h1 : left < n) : ∃ y, v[left]? = some (1 + y) := by
  obtain ⟨p, y, _, _, _, _, a, _⟩ := h.at_ left h0 h1
  exact ⟨y, a⟩
theorem good_iff {Pt : Nat → Prop} {n : Nat} {v : List Nat} (h : Vl Pt n v) {left p : Nat} (h0 : 0 < left) (h1 : left < n) : K28.Good v left p ↔ lsb p = lsb left ∧ p &&& left = p ∧ goodb v left p = true := by
  unfold K28.Good goodb
  rw [beq_iff_eq]
  obtain ⟨y, hy⟩ := Vl.val h h0 h1
  have e2 : v.getD left 0 = 1 + y := by rw [List.getD_eq_getElem?_getD, hy]; rfl
  have e1 := getD_at (v := v) (i := left - p) (by rw [h.len]; omega)
  refine and_congr_right fun _ => and_congr_right fun _ => ⟨fun ⟨z, a, b⟩ => ?_, fun a => ⟨y, ?_, hy⟩⟩
  · rw [e1] at a
    rw [hy] at b
    have := Option.some.inj a
    have := Option.some.inj b
    omega
  · rw [e1]
    congr 1
    omega
/-- the rows as the program finds them -/
def RA (H : Hp) (as : List Addr) (rs : List K28.Row) : Prop := Paired (fun a r => H a = some (.lst (r.map nV))) as rs
theorem RA.same {H H' : Hp} {as : List Addr} {rs : List K28.Row} (h : RA H as rs) (s : Same H H') : RA H' as rs := P_mono (fun _ _ e => s _ _ e) h
theorem RA.dp {K : PySem.W.Frag} {H : Hp} : ∀ {xs : List Addr} {ls : List K28.Row}, RA H xs ls → DpAll K H (xs.map V.ref) ((ls.map castL).map PySem.W.Datum.toD)
  | _, _, .nil => .nil
  | _, _, .cons e r => .cons (dp_list (SqL.of e)) (RA.dp r)
/-- fresh rows -/
def RN (H0 H : Hp) (as : List Addr) (rs : List K28.Row) : Prop := Paired (fun a r => H0 a = none ∧ H a = some (.lst (r.map nV))) as rs
theorem RN.same {H0 H H' : Hp} {as : List Addr} {rs : List K28.Row} (h : RN H0 H as rs) (s : Same H H') : RN H0 H' as rs := P_mono (fun _ _ ⟨a, e⟩ => ⟨a, s _ _ e⟩) h
theorem lot_sum {r : K28.Row} (nd : r.Nodup) (h8 : ∀ k ∈ r, k < 8) : ((r.map fun k => ((2 ^ k : Nat) : Int))).sum = (lotN r : Int) := by
  revert nd h8
  refine snoc_ind (P := fun r => r.Nodup → (∀ k ∈ r, k < 8) → ((r.map fun k => ((2 ^ k : Nat) : Int))).sum = (lotN r : Int)) (fun _ _ => rfl) (fun L x ih nd h8 => ?_) r
  have hx : x ∉ L := fun z => by
    have := (List.nodup_append.mp nd).2.2 x z x (List.mem_singleton.mpr rfl)
    exact this rfl
  have hL : ∀ k ∈ L, k < 8 := fun k hk => h8 k (List.mem_append_left _ hk)
  have lt : lotN L < 256 := lot_lt (m := 8) hL
  rw [List.map_append, List.sum_append, ih (List.nodup_append.mp nd).1 hL, lot_snoc, or_add _ lt x (h8 x (by simp)) (by rw [bit_lot]; simpa using hx)]
  simp
section
variable {P : Program} {w : World} {K : PySem.W.Frag} {mg : Str → Option Value} {base : Heap} {CN CB CD CT CU fI fJ : Addr}
def sp_chosen : Sp := fun vs H Q _ => ∃ (d b x : Addr) (m : Nat) (ls bs : List (Nat × K28.Row)) (v : List Nat) (L : List K28.Row) (fit : K28.Row → Bool), vs = [.ref d, .ref b, .ref x] ∧ DR H d ls ∧ DR H b bs ∧ BgOk (ls.map (·.1)) bs ∧ m ≤ 8 ∧ Lb L fit ls ∧ (∀ k, k < m → 2 ^ k ∈ ls.map (·.1)) ∧
  H x = some (.lst (v.map nV)) ∧ Vl (· ∈ ls.map (·.1)) (2 ^ m) v ∧
  ∀ z as rs H', Same H H' → H z = none → H' z = some (.lst (as.map V.ref)) → (∀ a ∈ as, a ≠ z) → RN H H' as rs → Pk L fit v (2 ^ m - 1) rs → Q (.ref z) H'
theorem ok_chosen {f : Addr} {fd : FuncData} (F : Fun K "_chosen_shifts" "_chosen_shifts" s_chosen_shifts f fd) (T : Txt mg) : FnOk P w K mg base CX0 1 f fd ["lists", "begun", "values"] sp_chosen := by
  refine F.ok sc_chosen_shifts (fun vs H Q E h => ?_) (fun cdv A outer s H vs Q E hr h => ?_)
  · obtain ⟨d, b, x, m, ls, bs, v, L, fit, rfl, _⟩ := h
    rfl
  · obtain ⟨d, b, x, m, ls, bs, v, L, fit, rfl, hD, hG, hB, hm, lb, hone, hx, hv, q⟩ := h
    refine ⟨_, (pss_cons (ps_set (i := 3) sc_chosen_shifts.nd rfl (.inl rfl) (pe_lst pa_nil))
 (pss_cons (ps_set (i := 4) sc_chosen_shifts.nd rfl (.inr rfl) (pe_op op_sub (pe_callB call_len_seq (by rfl) T.len (by decide +kernel) (pa_cons (pv 2) pa_nil)) pe_int))
 (pss_cons (ps_while PassesOwn.never (pt_cmpR op_gt (pv 4) pe_int (nomark _))
 (pss_cons (ps_setLc (i := 5) (own := [("part", 7)]) (g := gName 7) rfl sc_chosen_shifts.nd rfl rfl (sw_true rfl rfl rfl (by decide +kernel)) (pi_list (pe_dget (hu_of hr) (pv 1) (pe_op op_and (pv 4) (pe_un un_neg (pv 4))) (fun _ _ => rfl))) (blkOk_by (N := ["lists", "begun", "values", "shifts", "left", "parts", "first", "part", "k"]) (sc := defScope s_chosen_shifts) (by decide +kernel)) (fun _ _ _ _ _ => (pg_name (i := 7) sc_chosen_shifts.nd rfl (.inl rfl))) (fun _ _ _ _ _ => pts_one (pt_cmpR op_eq (pe_op op_and (pv 7) (pv 4)) (pv 7) (nomark _))) (fun _ _ _ _ _ => (pv 7)))
 (pss_cons (ps_set (i := 6) sc_chosen_shifts.nd rfl (.inl rfl) (pe_callB (cr_minA (List Int) rfl hr.units (by decide)) (by rfl) T.min (by decide +kernel) (pa_cons (pe_lc (own := [("part", 7)]) (g := gName 7) rfl sc_chosen_shifts.nd (pi_list (pv 5)) (blkOk_by (N := ["lists", "begun", "values", "shifts", "left", "parts", "first", "part", "k"]) (sc := defScope s_chosen_shifts) (by decide +kernel)) (fun _ _ _ _ _ => (pg_name (i := 7) sc_chosen_shifts.nd rfl (.inl rfl))) (fun _ _ _ _ _ => pts_one (pt_cmpR op_eq (pe_ix (r := rIxL K) ix_list (pv 2) (pe_op op_sub (pv 4) (pv 7)) (fun _ _ => rfl)) (pe_op op_sub (pe_ix (r := rIxL K) ix_list (pv 2) (pv 4) (fun _ _ => rfl)) pe_int) (nomark _))) (fun _ _ _ _ _ => (pe_dget (hu_of hr) (pv 0) (pv 7) (fun _ _ => rfl)))) pa_nil)))
 (pss_cons (ps_expr (pe_bm PySem.F.plainAttrs_list PySem.F.slot_list_append PySem.F.type_list_append mt_append (pv 3) (pa_cons (pe_callTy call_list_of (by rfl) T.list (by decide +kernel) (pa_cons (pv 6) pa_nil)) pa_nil)))
 (pss_one (ps_set (i := 4) sc_chosen_shifts.nd rfl (.inr rfl) (pe_op op_sub (pv 4) (pe_callB (cr_sum rfl) (by rfl) T.sum (by decide +kernel) (pa_cons (pe_lc (own := [("k", 8)]) (g := gName 8) (tt := tYes) rfl sc_chosen_shifts.nd (pi_list (pv 6)) (blkOk_by (N := ["lists", "begun", "values", "shifts", "left", "parts", "first", "part", "k"]) (sc := defScope s_chosen_shifts) (by decide +kernel)) (fun _ _ _ _ _ => (pg_name (i := 8) sc_chosen_shifts.nd rfl (.inl rfl))) (fun _ _ _ _ _ => pts_nil) (fun _ _ _ _ _ => (pe_op op_shl pe_int (pv 8)))) pa_nil)))))))))
 (pss_one (ps_ret (pv 3)))))), ?_⟩
    obtain ⟨hp1, hp2⟩ := two_le hm
    have hvl : v.length = 2 ^ m := hv.len
    refine ⟨Nat.zero_le _, fun z nz => ?_⟩
    have s1 : Same H (upd H z (.lst [])) := (Same.refl H).new nz
    have ez : (upd H z (.lst [])) z = some (.lst []) := upd_same
    generalize upd H z (.lst []) = H1 at s1 ez ⊢
    refine ⟨_, rfl, x, _, rfl, .inl (SqL.of (s1 _ _ hx)), _, _, rfl, rfl, ?_⟩
    refine ⟨fun c σ H' => ∃ (left : Nat) (as : List Addr) (rs : List K28.Row) (v5 v6 : Option V), σ = [some (.ref d), some (.ref b), some (.ref x), some (.ref z), some (nV left), v5, v6, none, none] ∧ Same H H' ∧ H' z = some (.lst (as.map V.ref)) ∧ (∀ a ∈ as, a ≠ z) ∧ RN H H' as rs ∧
        (∀ t, Pk L fit v left t → Pk L fit v (2 ^ m - 1) (rs ++ t)) ∧ left < 2 ^ m ∧ rs.length + left < 2 ^ m ∧ c = left,
      ⟨_, 2 ^ m - 1, [], [], none, none, ?_, s1, ez, fun a ha => (by cases ha), .nil, fun t h => h, by omega, by simp; omega, rfl⟩, ?_⟩
    · have : (((v.map nV).length : Nat) : Int) - 1 = ((2 ^ m - 1 : Nat) : Int) := by rw [List.length_map, hvl]; omega
      show [_, _, _, _, some (V.int ((((v.map nV).length : Nat) : Int) - 1)), _, _, _, _] = _
      rw [this]
    rintro left σ H2 ⟨_, as, rs, v5, v6, rfl, s2, ez2, anz, rn, pk, hlt, hrl, rfl⟩
    refine ⟨_, rfl, _, _, rfl, rfl, _, rfl, ite2 (fun c => ?_) (fun c => ?_)⟩
    case refine_2 =>
      have l0 : left = 0 := by
        have := of_decide_eq_false (Bool.eq_false_iff.mpr c)
        omega
      subst l0
      have := pk [] .nil
      rw [List.append_nil] at this
      exact ⟨_, rfl, q z as rs H2 s2 nz ez2 anz rn this⟩
    have l0 : 0 < left := by
      have := of_decide_eq_true c
      omega
    have l256 : left < 256 := by omega
    refine ⟨fun σ H' => ∃ (left' : Nat) (as : List Addr) (rs : List K28.Row) (v5 v6 : Option V), σ = [some (.ref d), some (.ref b), some (.ref x), some (.ref z), some (nV left'), v5, v6, none, none] ∧ Same H H' ∧ H' z = some (.lst (as.map V.ref)) ∧ (∀ a ∈ as, a ≠ z) ∧ RN H H' as rs ∧
        (∀ t, Pk L fit v left' t → Pk L fit v (2 ^ m - 1) (rs ++ t)) ∧ left' < left ∧ rs.length + left' < 2 ^ m, ?_, ?_⟩
    · rintro σ' H' ⟨left', as, rs, v5, v6, rfl, a1, a2, an, a3, a4, a5, a6⟩
      exact ⟨left', a5, left', as, rs, v5, v6, rfl, a1, a2, an, a3, a4, by omega, a6, rfl⟩
    -- parts
    have one : 2 ^ lsb left ∈ ls.map (·.1) := hone _ (lsb_lt hm hlt l0)
    have lk := hB.at_ l256 l0 one
    have ml : ∀ p, p ∈ lowOf (ls.map (·.1)) (2 ^ lsb left) ↔ p ∈ ls.map (·.1) ∧ lsb p = lsb left := mem_low
    obtain ⟨y, gy, ey⟩ := (hG.same s2).at_ lk
    have ll := low_len (2 ^ lsb left) lb.nd fun x hx => (lb.pos x hx).2
    generalize lowOf (ls.map (·.1)) (2 ^ lsb left) = l at lk ml ey ll
    rw [show nV (2 ^ lsb left) = V.int (Builtin.bitAnd (left : Int) (-(left : Int))) by rw [blow left l256 l0]] at gy
    refine ⟨_, rfl, _, rfl, _, rfl, _, rfl, _, _, rfl, rfl, b, _, rfl, gy, y, rfl, ⟨_, SqL.of ey⟩, fun D nD => ?_⟩
    refine lc_list (K := K) (a := y) (xs := l.map nV) (fun k H3 => Same H2 H3 ∧ H3 D = some (.lst ((subs (l.take k) left).map nV))) ⟨(Same.refl H2).new nD, upd_same⟩ (fun k H3 _ ⟨s3, _⟩ => s3.seq (SqL.of ey)) ?_ ?_
    · rintro k u H3 hk ⟨s3, eD⟩
      obtain ⟨p, hp, rfl⟩ := getn_inv hk
      refine ⟨rfl, _, rfl, _, rfl, _, _, rfl, rfl, _, rfl, ?_⟩
      dsimp only
      rw [band p left]
      refine ⟨rfl, _, rfl, ?_⟩
      by_cases e : p &&& left = p
      · rw [eqN (α := Nat) e]
        refine iteT ⟨_, rfl, _, eD, ?_, s3.mut nD, ?_⟩
        · rw [List.length_map]
          exact szl (Nat.le_trans (subs_len _ _) (Nat.le_trans (List.length_take_le' _ _) (by omega)))
        · rw [upd_same, subs_yes hp e, List.map_append]
          rfl
      · rw [neN (α := Nat) e]
        exact iteF ⟨s3, by rw [subs_no hp e]; exact eD⟩
    rintro H3 ⟨s3, eD⟩
    rw [List.length_map, List.take_length] at eD
    have msb : ∀ p, p ∈ subs l left ↔ (p ∈ ls.map (·.1) ∧ lsb p = lsb left) ∧ p &&& left = p := fun p => by rw [mem_subs, ml]
    have sl : (subs l left).length ≤ 256 := Nat.le_trans (subs_len l left) ll
    generalize subs l left = g at eD msb sl
    have s23 := s2.trans s3
    -- first
    refine ⟨_, rfl, D, rfl, ⟨_, SqL.of eD⟩, fun B nB => ?_⟩
    refine lc_list (K := K) (a := D) (xs := g.map nV) (fun k H4 => Same H3 H4 ∧ ∃ bs' : List Addr, H4 B = some (.lst (bs'.map V.ref)) ∧ RA H bs' (((g.take k).filter (goodb v left)).filterMap (K02.look ls)) ∧ bs'.length ≤ k) ⟨(Same.refl H3).new nB, [], upd_same, .nil, Nat.zero_le _⟩ (fun k H4 _ ⟨s4, _⟩ => s4.seq (SqL.of eD)) ?_ ?_
    · rintro k u H4 hk ⟨s4, bs', eB, ra, hbl⟩
      obtain ⟨p, hp, rfl⟩ := getn_inv hk
      obtain ⟨⟨hpk, _⟩, hps⟩ := (msb p).mp (List.mem_of_getElem? hp)
      obtain ⟨p0, p1⟩ := lb.pos p hpk
      have le := (sub_cnt p p1 left l256 p0 hps).1
      have hk' : k < g.length := lt_get hp
      refine ⟨rfl, _, rfl, _, rfl, _, rfl, _, _, rfl, rfl, ?_⟩
      dsimp only
      rw [show ((left : Nat) : Int) - (p : Int) = ((left - p : Nat) : Int) by omega]
      refine ixl (SqL.of ((s23.trans s4) _ _ hx)) (at_n (getn (getD_at (show left - p < v.length by omega)))) ?_
      refine ⟨_, rfl, _, rfl, ixl (SqL.of ((s23.trans s4) _ _ hx)) (at_n (getn (getD_at (show left < v.length by omega)))) ⟨_, _, rfl, rfl, rfl, _, rfl, ?_⟩⟩
      have eg : decide (nV (v.getD (left - p) 0) = V.int ((v.getD left 0 : Int) - 1)) = goodb v left p := by
        unfold goodb
        rw [Bool.eq_iff_iff, decide_eq_true_eq, beq_iff_eq, vint_eq]
        omega
      rw [eg]
      cases c : goodb v left p with
      | true =>
        obtain ⟨r, hr⟩ := look_of_mem hpk
        obtain ⟨wa, h1, h2⟩ := hD
        rcases dr_look h2 p with ⟨a1, _⟩ | ⟨xr, r', a1, a2, a3⟩
        · rw [hr] at a1
          cases a1
        rw [hr] at a1
        cases a1
        have gr := dget_n (k := p) ((s23.trans s4) _ _ h1)
        rw [a2] at gr
        refine iteT ⟨_, rfl, _, rfl, d, _, rfl, gr, _, eB, ?_, s4.mut nB, bs' ++ [xr], ?_, ?_, ?_⟩
        · rw [List.length_map]
          exact szl (by omega)
        · rw [upd_same, List.map_append]
          rfl
        · rw [take_more hp, List.filter_append, List.filterMap_append]
          refine P_append ra ?_
          simp only [List.filter_cons, c, if_true, List.filter_nil, List.filterMap_cons, hr, List.filterMap_nil]
          exact .cons a3 .nil
        · rw [List.length_append, List.length_singleton]
          omega
      | false =>
        refine iteF ⟨s4, bs', eB, ?_, by omega⟩
        rw [take_more hp, List.filter_append]
        simp only [List.filter_cons, c, Bool.false_eq_true, if_false, List.filter_nil, List.append_nil]
        exact ra
    rintro H4 ⟨s4, bs', eB, ra, hbl⟩
    rw [List.length_map, List.take_length] at ra
    have cand : ∀ r, r ∈ (g.filter (goodb v left)).filterMap (K02.look ls) ↔ ∃ p, p ∈ ls.map (·.1) ∧ K28.Good v left p ∧ K02.look ls p = some r := fun r => by
      rw [List.mem_filterMap]
      constructor
      · rintro ⟨p, hp, e⟩
        obtain ⟨h1, h2⟩ := List.mem_filter.mp hp
        obtain ⟨⟨a, b⟩, c⟩ := (msb p).mp h1
        exact ⟨p, a, (good_iff hv l0 hlt).mpr ⟨b, c, h2⟩, e⟩
      · rintro ⟨p, a, gd, e⟩
        obtain ⟨b, c, d⟩ := (good_iff hv l0 hlt).mp gd
        exact ⟨p, List.mem_filter.mpr ⟨(msb p).mpr ⟨⟨a, b⟩, c⟩, d⟩, e⟩
    obtain ⟨p0, hp0, gd0⟩ := hv.good l0 hlt
    obtain ⟨r0, hr0⟩ := look_of_mem hp0
    have hr0m := (cand r0).mpr ⟨p0, hp0, gd0, hr0⟩
    generalize (g.filter (goodb v left)).filterMap (K02.look ls) = rows at ra cand hr0m
    cases rows with
    | nil => cases hr0m
    | cons r1 rs1 =>
    obtain ⟨r, e1, e2, e3⟩ := min_ints r1 rs1
    refine ⟨B, _, castL r1, rs1.map castL, rfl, SqL.of eB, (ra.same (s23.trans s4)).dp, fun j u hu hmin => ?_⟩
    obtain ⟨xr, hxr, rfl⟩ := getn_inv hu
    obtain ⟨r', hr', exr⟩ := P_right ra hxr
    have er : r' = r := by
      have : (castL r1 :: rs1.map castL)[j]? = some (castL r') := by
        show (((r1 :: rs1).map castL))[j]? = _
        exact getn hr'
      rw [this, e1] at hmin
      exact ints_inj (Option.some.inj hmin)
    subst er
    obtain ⟨p, hpk, gd, lkr⟩ := (cand r').mp e2
    have ls1 := lb.least p r' lkr
    have bst : Bst L fit v left r' := by
      refine ⟨ls1.mem, ls1.hfit, by rw [ls1.hlot]; exact gd, fun r2 h2 f2 g2 => ?_⟩
      obtain ⟨r3, h3⟩ := look_of_mem (lb.all r2 h2 f2)
      have c1 := (lb.least _ r3 h3).least r2 h2 f2 rfl
      have c2 := e3 r3 ((cand r3).mpr ⟨_, lb.all r2 h2 f2, g2, h3⟩)
      exact K02.lex_le_trans c2 c1
    obtain ⟨wne, wnd, w8⟩ := lb.wf r' ls1.mem
    have p256 := lb.pos p hpk
    have le := (sub_cnt p p256.2 left l256 p256.1 gd.2.1).1
    have s24 := s23.trans s4
    -- shifts.append(list(first))
    refine ⟨_, rfl, .inl ⟨rfl, _, SqL.of ((s3.trans s4) _ _ ez2)⟩, ?_⟩
    refine ⟨_, rfl, xr, _, rfl, .inl (SqL.of (s24 _ _ exr)), fun fr nfr => ?_⟩
    have x1 : Same H4 (upd H4 fr (.lst (r'.map nV))) := (Same.refl H4).new nfr
    have efr : (upd H4 fr (.lst (r'.map nV))) fr = some (.lst (r'.map nV)) := upd_same
    generalize upd H4 fr (.lst (r'.map nV)) = H5 at x1 efr ⊢
    have nfrH : H fr = none := s24.free nfr
    have s25 := s24.trans x1
    have ez5 := ((s3.trans s4).trans x1) _ _ ez2
    have frz : fr ≠ z := fun e => by rw [e, (s3.trans s4) _ _ ez2] at nfr; cases nfr
    have asl : as.length = rs.length := P_len rn
    refine ⟨z, _, _, rfl, rfl, ez5, ?_, ?_⟩
    · rw [List.length_map]
      exact szl (by omega)
    have s26 : Same H (upd H5 z (.lst (as.map V.ref ++ [V.ref fr]))) := s25.mut nz
    have ez6 : (upd H5 z (.lst (as.map V.ref ++ [V.ref fr]))) z = some (.lst ((as ++ [fr]).map V.ref)) := by rw [upd_same, List.map_append]; rfl
    have rn6 : RN H (upd H5 z (.lst (as.map V.ref ++ [V.ref fr]))) (as ++ [fr]) (rs ++ [r']) := by
      refine P_append (P_monoM (fun a r ha ⟨u1, u2⟩ => ⟨u1, ?_⟩) rn) (.cons ⟨nfrH, ?_⟩ .nil)
      · rw [upd_ne frz]
        exact efr
      · rw [upd_ne (anz a ha)]
        exact ((s3.trans s4).trans x1) _ _ u2
    generalize upd H5 z (.lst (as.map V.ref ++ [V.ref fr])) = H6 at s26 ez6 rn6 ⊢
    refine ⟨_, rfl, _, rfl, xr, rfl, ⟨_, SqL.of (s26 _ _ exr)⟩, fun C nC => ?_⟩
    refine lc_list (K := K) (a := xr) (xs := r'.map nV) (fun k H7 => Same H6 H7 ∧ H7 C = some (.lst (((r'.take k).map fun k => ((2 ^ k : Nat) : Int)).map V.int))) ⟨(Same.refl H6).new nC, upd_same⟩ (fun k H7 _ ⟨s7, _⟩ => s7.seq (SqL.of (s26 _ _ exr))) ?_ ?_
    · rintro k u H7 hk ⟨s7, eC⟩
      obtain ⟨e, he, rfl⟩ := getn_inv hk
      have e8 := w8 e (List.mem_of_getElem? he)
      refine ⟨rfl, _, rfl, _, _, rfl, rfl, ⟨by first | decide | omega, by first | decide | omega, by first | decide | omega⟩, ?_⟩
      dsimp only
      rw [shl1]
      refine ⟨_, eC, ?_, s7.mut nC, ?_⟩
      · rw [List.length_map, List.length_map]
        have : r'.length ≤ 8 := K02.nodup_len 8 r' wnd w8
        exact szl (Nat.le_trans (List.length_take_le' _ _) (by omega))
      · rw [upd_same, map_take_succ _ he, List.map_append]
        rfl
    rintro H7 ⟨s7, eC⟩
    rw [List.length_map, List.take_length] at eC
    refine ⟨C, _, rfl, SqL.of eC, _, _, rfl, rfl, ?_⟩
    rw [lot_sum wnd w8, ls1.hlot]
    refine ⟨left - p, as ++ [fr], rs ++ [r'], some (.ref D), some (.ref xr), ?_, s26.trans s7, s7 _ _ ez6, fun a ha => (List.mem_append.mp ha).elim (anz a) (fun e => by rw [List.mem_singleton.mp e]; exact frz), rn6.same s7, fun t ht => ?_, by omega, ?_⟩
    · rw [show nV (left - p) = V.int ((left : Int) - (p : Int)) by rw [show (left : Int) - (p : Int) = ((left - p : Nat) : Int) by omega]]
      rfl
    · rw [List.append_assoc]
      exact pk _ (.cons l0 bst (by rw [ls1.hlot]; exact ht))
    · rw [List.length_append, List.length_singleton]
      omega
end
end K28W

namespace K28W
open PySem PySem.Spec PyProof.Rows L2 KH K28 KD
abbrev sfewest_shifts : Stmt := topS 15
theorem scfewest_shifts : FnScope ["spans", "follows", "longest", "a", "b", "k", "lists", "begun", "values"] ["spans", "follows", "longest"] (defScope sfewest_shifts) := ⟨rfl, rfl, rfl, by decide +kernel, rfl, by decide +kernel, by decide +kernel⟩

/-! ### what is due -/
def Okn (m : Int) (i : Int) : Prop := 0 ≤ i ∧ i ≤ m - 1
def Okp (m : Int) (q : P2) : Prop := Okn m q.1 ∧ Okn m q.2
/-- the first number that is no piece -/
inductive FF (m : Int) (ts : List P2) : Int → Prop
  | fst {k : Nat} {q : P2} : ts[k]? = some q → ¬ Okn m q.1 → (∀ (j : Nat) (y : P2), j < k → ts[j]? = some y → Okp m y) → FF m ts q.1
  | snd {k : Nat} {q : P2} : ts[k]? = some q → Okn m q.1 → ¬ Okn m q.2 → (∀ (j : Nat) (y : P2), j < k → ts[j]? = some y → Okp m y) → FF m ts q.2
def LongAt (T : List P2) (lg : Int) (k : Nat) : Prop := ∃ q, T[k]? = some q ∧ lg < q.2 - q.1 ∧ ∀ (j : Nat) (y : P2), j < k → T[j]? = some y → y.2 - y.1 ≤ lg
def Short (T : List P2) (lg : Int) : Prop := ∀ (j : Nat) (y : P2), T[j]? = some y → y.2 - y.1 ≤ lg
theorem LongAt.uniq {T : List P2} {lg : Int} {k k' : Nat} (h : LongAt T lg k) (h' : LongAt T lg k') : k = k' := by
  obtain ⟨q, a, b, c⟩ := h
  obtain ⟨q', a', b', c'⟩ := h'
  rcases Nat.lt_trichotomy k k' with l | l | l
  · have := c' k q l a
    omega
  · exact l
  · have := c k' q' l a'
    omega
theorem LongAt.not {T : List P2} {lg : Int} {k : Nat} (h : LongAt T lg k) (s : Short T lg) : False := by
  obtain ⟨q, a, b, _⟩ := h
  have := s k q a
  omega
def PtR (aft : Nat → List Nat) (T : List P2) (lg : Int) (p : Nat) : Prop := ∃ r ∈ rows aft T.length T.length, fitR T lg r = true ∧ lotN r = p
structure Res (aft : Nat → List Nat) (T : List P2) (lg : Int) (v : List Nat) (rs : List K28.Row) : Prop where
  vl : Vl (PtR aft T lg) (2 ^ T.length) v
  pk : Pk (rows aft T.length T.length) (fitR T lg) v (2 ^ T.length - 1) rs
theorem ptR_pos {aft : Nat → List Nat} {T : List P2} {lg : Int} (hm : T.length ≤ 8) (ha : ∀ v, ∀ k ∈ aft v, k < T.length) : ∀ p, PtR aft T lg p → 0 < p ∧ p < 256 := by
  rintro p ⟨r, hr, _, rfl⟩
  obtain ⟨i, _, w⟩ := rows_wf ha hr
  exact ⟨lot_pos w.ne, Nat.lt_of_lt_of_le (lot_lt w.lt) (two_le hm).1⟩
theorem Res.uniq {aft : Nat → List Nat} {T : List P2} {lg : Int} {v v' : List Nat} {rs rs' : List K28.Row} (hm : T.length ≤ 8) (ha : ∀ v, ∀ k ∈ aft v, k < T.length) (h : Res aft T lg v rs) (h' : Res aft T lg v' rs') : v = v' ∧ rs = rs' := by
  have e := h.vl.uniq (two_le hm).1 (ptR_pos hm ha) h'.vl
  subst e
  exact ⟨rfl, h.pk.uniq h'.pk⟩
theorem vl_congr {P P' : Nat → Prop} {n : Nat} {v : List Nat} (h : ∀ p, P p ↔ P' p) (hv : Vl P n v) : Vl P' n v := by
  have : P = P' := funext fun p => propext (h p)
  rw [← this]
  exact hv
theorem mem_of_look {β : Type} {ls : List (Nat × β)} {p : Nat} {r : β} (h : K02.look ls p = some r) : p ∈ ls.map (·.1) := by
  refine Classical.byContradiction fun c => ?_
  rw [K02.look_none_iff.mpr c] at h
  cases h
theorem LsAt.lb {T : List P2} {lg : Int} {ps : K02.PL} {ls : List (Nat × K28.Row)} (h : LsAt T.length T lg (rows (aftS T.length ps) T.length T.length) ls) (hm : T.length ≤ 8) : Lb (rows (aftS T.length ps) T.length T.length) (fitR T lg) ls := by
  have lst : ∀ p r, K02.look ls p = some r → Lst (rows (aftS T.length ps) T.length T.length) (fitR T lg) p r := fun p r e => by
    rw [h.look] at e
    exact find_least aft_lt aft_sorted e
  refine ⟨h.nd, fun p hp => ?_, lst, fun r hr f => ?_, fun r hr => ?_⟩
  · obtain ⟨r, e⟩ := look_of_mem hp
    have l := lst p r e
    obtain ⟨i, _, w⟩ := rows_wf aft_lt l.mem
    have := h.key p r e
    have := (two_le hm).1
    exact ⟨by rw [← l.hlot]; exact lot_pos w.ne, by omega⟩
  · obtain ⟨x, e⟩ := find_some (lot := lotN r) hr f rfl
    exact mem_of_look (r := x) (by rw [h.look]; exact e)
  · obtain ⟨i, _, w⟩ := rows_wf aft_lt hr
    exact ⟨w.ne, w.nd, fun k hk => by have := w.lt k hk; omega⟩
theorem Lb.pt {T : List P2} {lg : Int} {aft : Nat → List Nat} {ls : List (Nat × K28.Row)} (h : Lb (rows aft T.length T.length) (fitR T lg) ls) (p : Nat) : p ∈ ls.map (·.1) ↔ PtR aft T lg p := by
  constructor
  · intro hp
    obtain ⟨r, e⟩ := look_of_mem hp
    have l := h.least p r e
    exact ⟨r, l.mem, l.hfit, l.hlot⟩
  · rintro ⟨r, hr, f, rfl⟩
    exact h.all r hr f
theorem one_mem {aft : Nat → List Nat} {T : List P2} {lg : Int} (hs : Short T lg) (k : Nat) (hk : k < T.length) : PtR aft T lg (2 ^ k) := by
  refine ⟨[k], ?_, ?_, lot_single k⟩
  · unfold rows
    exact List.mem_flatMap.mpr ⟨0, List.mem_range.mpr (by omega), List.mem_map.mpr ⟨k, List.mem_range.mpr hk, rfl⟩⟩
  · obtain ⟨y, hy⟩ := get_lt hk
    have := hs k y hy
    unfold fitR
    rw [show last [k] = k from rfl, show [k].headD 0 = k from rfl, List.getD_eq_getElem?_getD, hy]
    exact decide_eq_true this
/-- what is told, in a heap -/
inductive Told (H H' : Hp) (aft : Nat → List Nat) (T : List P2) (lg : Int) (r : Addr) : Prop
  | long (k : Nat) : LongAt T lg k → H' r = some (.tup [.str "long", nV k]) → Told H H' aft T lg r
  | shifts (z x : Addr) (as : List Addr) (rs : List K28.Row) (v : List Nat) : Short T lg → H' r = some (.tup [.str "shifts", .ref z, .ref x]) → H z = none → H x = none → H' z = some (.lst (as.map V.ref)) → (∀ a ∈ as, a ≠ z ∧ a ≠ x) → RN H H' as rs → H' x = some (.lst (v.map nV)) → Res aft T lg v rs → Told H H' aft T lg r
section
variable {P : Program} {w : World} {K : PySem.W.Frag} {mg : Str → Option Value} {base : Heap} {CN CB CD CT CU fI fJ : Addr}
/-- too many -/
def ErrM (CT : Addr) (H : Hp) (E : XK) : Prop := ∀ d H', Same H H' → H d = none → H' d = some (.xd [("most", .int 8), ("what", .str "pieces")]) → E (.ref CT) (some d) H'
def sp_fewest (K : PySem.W.Frag) (CN CT : Addr) : Sp := fun vs H Q E => ∃ (ta fa : Addr) (lg : Int) (tv fv : List V) (T qs : List P2), vs = [.ref ta, .ref fa, .int lg] ∧ Sq K H ta tv ∧ PI K H tv T ∧ Sq K H fa fv ∧ PI K H fv qs ∧ (8 < T.length → ErrM CT H E) ∧
  (T.length ≤ 8 → ∀ z, FF (T.length : Int) qs z → Err CN "piece" z H E) ∧ (T.length ≤ 8 → ∀ ps, qs = upP ps → K02.Within T.length ps → ∀ r H', Same H H' → H r = none → Told H H' (aftS T.length ps) T lg r → Q (.ref r) H')
theorem down_P {m : Nat} : ∀ {qs : List P2}, (∀ q ∈ qs, Okp (m : Int) q) → ∃ ps : K02.PL, qs = upP ps ∧ K02.Within m ps
  | [], _ => ⟨[], rfl, fun q h => by cases h⟩
  | (a, b) :: r, h => by
    obtain ⟨ps, e, wi⟩ := down_P fun q hq => h q (List.mem_cons_of_mem _ hq)
    obtain ⟨⟨a0, a1⟩, b0, b1⟩ := h _ List.mem_cons_self
    dsimp only at a0 a1 b0 b1
    refine ⟨(a.toNat, b.toNat) :: ps, ?_, fun q hq => ?_⟩
    · rw [e]
      show (a, b) :: upP ps = ((a.toNat : Int), (b.toNat : Int)) :: upP ps
      rw [Int.toNat_of_nonneg a0, Int.toNat_of_nonneg b0]
    · rcases List.mem_cons.mp hq with rfl | hq
      · exact ⟨by show a.toNat < m; omega, by show b.toNat < m; omega⟩
      · exact wi q hq
theorem ok_fewest {f f1 f2 f3 f4 f5 f6 : Addr} {fd fd1 fd2 fd3 fd4 fd5 fd6 : FuncData} (F : Fun K "fewest_shifts" "fewest_shifts" sfewest_shifts f fd) (T : Txt mg) (c8 : ∃ t, mg "_MOST_PIECES" = some (.int 8 t))
    (Ccheck_number : CalX P w K mg base 3 "check_number" ["what", "value", "least", "most"] (sp_check CN) f1 fd1) (Ccheck_many : CalX P w K mg base 3 "check_many" ["what", "things", "most"] (sp_many K CT) f2 fd2)
    (C_first_lists : Cal P w K mg base 1 "_first_lists" ["times", "follows", "longest"] (sp_first K) f3 fd3) (C_by_least : Cal P w K mg base 1 "_by_least" ["lists"] sp_byleast f4 fd4) (C_lot_values : Cal P w K mg base 1 "_lot_values" ["many", "begun"] sp_values f5 fd5)
    (C_chosen_shifts : Cal P w K mg base 1 "_chosen_shifts" ["lists", "begun", "values"] sp_chosen f6 fd6) : FnOk P w K mg base (L2.CX P w) 4 f fd ["spans", "follows", "longest"] (sp_fewest K CN CT) := by
  obtain ⟨t8, h8⟩ := c8
  refine F.okX scfewest_shifts (fun vs H Q E h => ?_) (fun cdv A outer s H vs Q E hr h => ?_)
  · obtain ⟨ta, fa, lg, tv, fv, tm, qs, rfl, _⟩ := h
    rfl
  · obtain ⟨ta, fa, lg, tv, fv, tm, qs, rfl, hT, hTP, hF, hFP, qm, qe, qn⟩ := h
    refine ⟨_, (pss_cons (ps_expr (pe_callS Ccheck_many.ok (hr.mono (by decide)) (by rfl) Ccheck_many.mg Ccheck_many.kp Ccheck_many.b (fun σ => passAt (takes_of rfl rfl rfl rfl) σ) (by exact (pa_cons pe_str (pa_cons (pv 0) (pa_cons (pe_glob (v := .int 8) rfl h8 ⟨_, rfl⟩) pa_nil))))))
 (pss_cons (ps_for (passes_of rfl) rfl (pi_seq (pv 1)) (pg_tup rfl (pgs_cons (pg_name (i := 3) scfewest_shifts.nd rfl (.inl rfl)) (pgs_cons (pg_name (i := 4) scfewest_shifts.nd rfl (.inl rfl)) pgs_nil)))
 (pss_cons (ps_expr (pe_callS Ccheck_number.ok (hr.mono (by decide)) (by rfl) Ccheck_number.mg Ccheck_number.kp Ccheck_number.b (fun σ => passAt (takes_of rfl rfl rfl rfl) σ) (by exact (pa_cons pe_str (pa_cons (pv 3) (pa_cons pe_int (pa_cons (pe_op op_sub (pe_callB call_len_seq (by rfl) T.len (by decide +kernel) (pa_cons (pv 0) pa_nil)) pe_int) pa_nil)))))))
 (pss_one (ps_expr (pe_callS Ccheck_number.ok (hr.mono (by decide)) (by rfl) Ccheck_number.mg Ccheck_number.kp Ccheck_number.b (fun σ => passAt (takes_of rfl rfl rfl rfl) σ) (by exact (pa_cons pe_str (pa_cons (pv 4) (pa_cons pe_int (pa_cons (pe_op op_sub (pe_callB call_len_seq (by rfl) T.len (by decide +kernel) (pa_cons (pv 0) pa_nil)) pe_int) pa_nil))))))))))
 (pss_cons (ps_for (passes_of rfl) rfl (pi_range1 rfl T.range (pa_cons (pe_callB call_len_seq (by rfl) T.len (by decide +kernel) (pa_cons (pv 0) pa_nil)) pa_nil)) (pg_name (i := 5) scfewest_shifts.nd rfl (.inl rfl))
 (pss_one (ps_if (pt_cmpR op_gt (pe_op op_sub (pe_ix ix_tup (pe_ix ix_seq (pv 0) (pv 5) (fun _ _ => rfl)) pe_int (fun _ _ => rfl)) (pe_ix ix_tup (pe_ix ix_seq (pv 0) (pv 5) (fun _ _ => rfl)) pe_int (fun _ _ => rfl))) (pv 2) (nomark _))
 (pss_one (ps_ret (pe_tup (pa_cons pe_str (pa_cons (pv 5) pa_nil)))))
 pss_nil)))
 (pss_cons (ps_set (i := 6) scfewest_shifts.nd rfl (.inl rfl) (pe_call C_first_lists.ok (hr.mono (by decide)) (by rfl) C_first_lists.mg C_first_lists.kp C_first_lists.b .nil pass0 (pa_cons (pv 0) (pa_cons (pv 1) (pa_cons (pv 2) pa_nil)))))
 (pss_cons (ps_set (i := 7) scfewest_shifts.nd rfl (.inl rfl) (pe_call C_by_least.ok (hr.mono (by decide)) (by rfl) C_by_least.mg C_by_least.kp C_by_least.b .nil pass0 (pa_cons (pv 6) pa_nil)))
 (pss_cons (ps_set (i := 8) scfewest_shifts.nd rfl (.inl rfl) (pe_call C_lot_values.ok (hr.mono (by decide)) (by rfl) C_lot_values.mg C_lot_values.kp C_lot_values.b .nil pass0 (pa_cons (pe_callB call_len_seq (by rfl) T.len (by decide +kernel) (pa_cons (pv 0) pa_nil)) (pa_cons (pv 7) pa_nil))))
 (pss_one (ps_ret (pe_tup (pa_cons pe_str (pa_cons (pe_call C_chosen_shifts.ok (hr.mono (by decide)) (by rfl) C_chosen_shifts.mg C_chosen_shifts.kp C_chosen_shifts.b .nil pass0 (pa_cons (pv 6) (pa_cons (pv 7) (pa_cons (pv 8) pa_nil)))) (pa_cons (pv 8) pa_nil)))))))))))), ?_⟩
    have htl : tv.length = tm.length := hTP.len
    have hfl : fv.length = qs.length := hFP.len
    -- check_many
    refine ⟨_, rfl, _, ta, tv, 8, rfl, hT, fun c d nd => qm (by omega) d _ ((Same.refl H).new nd) nd upd_same, fun c => ?_⟩
    have hm : tm.length ≤ 8 := by omega
    have err : ∀ {z}, FF (tm.length : Int) qs z → ∀ d, H d = none → E (.ref CN) (some d) (upd H d (.xd [("value", .int z), ("what", .str "piece")])) := fun f d nd => qe hm _ f d _ ((Same.refl H).new nd) nd upd_same
    -- for a, b in follows
    refine ⟨_, rfl, for_seq (xs := fv) hF (Same.refl H) (fun i σ H' => ∃ (v3 v4 : Option V), σ = [some (.ref ta), some (.ref fa), some (.int lg), v3, v4, none, none, none, none] ∧ H' = H ∧ ∀ (j : Nat) (y : P2), j < i → qs[j]? = some y → Okp (tm.length : Int) y) ⟨_, _, rfl, rfl, fun j y h => absurd h (Nat.not_lt_zero j)⟩ (fun i σ H' _ ⟨_, _, _, e, _⟩ => by rw [e]; exact Same.refl H) ?_ ?_⟩
    · rintro i x σ H' hi ⟨v3, v4, rfl, rfl, fine⟩
      obtain ⟨q, hq, t, rfl, et⟩ := P_right hFP hi
      refine ⟨t, _, rfl, et, rfl, _, _, rfl, _, _, rfl, rfl, ?_⟩
      refine ⟨_, rfl, _, rfl, ta, tv, rfl, hT, _, _, rfl, rfl, _, _, _, _, rfl, fun bad d nd => ?_, fun ok1 => ?_⟩
      · exact err (.fst hq (by rw [htl] at bad; exact bad) fine) d nd
      refine ⟨_, rfl, _, rfl, ta, tv, rfl, hT, _, _, rfl, rfl, _, _, _, _, rfl, fun bad d nd => ?_, fun ok2 => ?_⟩
      · exact err (.snd hq (by rw [htl] at ok1; exact ok1) (by rw [htl] at bad; exact bad) fine) d nd
      rw [htl] at ok1 ok2
      refine ⟨_, _, rfl, rfl, fun j y hj hy => ?_⟩
      by_cases e : j = i
      · subst e
        rw [hq] at hy
        cases hy
        exact ⟨ok1, ok2⟩
      · exact fine j y (by omega) hy
    rintro σ H0 ⟨v3, v4, rfl, rfl, fine⟩
    rw [hfl] at fine
    have okq : ∀ q ∈ qs, Okp (tm.length : Int) q := fun q hq => by
      obtain ⟨j, hj⟩ := List.getElem?_of_mem hq
      exact fine j q (lt_get hj) hj
    obtain ⟨ps, eps, wi⟩ := down_P okq
    subst eps
    have q := qn hm ps rfl wi
    clear qn qe qm err fine okq
    -- for k in range(len(spans))
    refine ⟨_, rfl, ta, tv, rfl, hT, _, rfl, (by omega), (by omega), ?_⟩
    rw [show ((tv.length : Nat) : Int).toNat = tm.length by omega]
    refine for_range (lo := 0) (n := tm.length) (fun i σ H' => ∃ (v5 : Option V), σ = [some (.ref ta), some (.ref fa), some (.int lg), v3, v4, v5, none, none, none] ∧ H' = H0 ∧ ∀ (j : Nat) (y : P2), j < i → tm[j]? = some y → y.2 - y.1 ≤ lg)
      ⟨none, rfl, rfl, fun j y h => absurd h (Nat.not_lt_zero j)⟩ ?_ ?_
    · rintro i σ H0 hi ⟨v5, rfl, rfl, fine⟩
      rw [show (0 : Int) + (i : Int) = (i : Int) by omega]
      obtain ⟨y, hy⟩ := get_lt hi
      obtain ⟨_, hv, t, rfl, et⟩ := P_left hTP hy
      refine ⟨_, rfl, _, rfl, ixq hT (at_n hv) ⟨t, _, 1, .int y.2, rfl, rfl, et, rfl, ?_⟩⟩
      refine ⟨_, rfl, _, rfl, ixq hT (at_n hv) ⟨t, _, 0, .int y.1, rfl, rfl, et, rfl, _, _, rfl, rfl, _, rfl, _, _, rfl, rfl, _, rfl, ite2 (fun c => ?_) (fun c => ?_)⟩⟩
      · have c' := of_decide_eq_true c
        refine ⟨_, rfl, (by show 2 ≤ sizeLine; decide), fun r nr => q r _ ((Same.refl H0).new nr) nr (.long i ⟨y, hy, c', fine⟩ upd_same)⟩
      · have c' := of_decide_eq_false (Bool.eq_false_iff.mpr c)
        refine ⟨_, rfl, rfl, fun j z hj hz => ?_⟩
        by_cases e : j = i
        · subst e
          rw [hy] at hz
          cases hz
          omega
        · exact fine j z (by omega) hz
    rintro σ H0 ⟨v5, rfl, rfl, fine⟩
    have sh : Short tm lg := fun j y hj => fine j y (lt_get hj) hj
    -- lists
    refine ⟨_, rfl, _, rfl, _, rfl, ta, fa, lg, tv, fv, tm, ps, rfl, hT, hTP, hF, hFP, hm, wi, fun d ls H1 s1 nd hD lsa => ?_⟩
    have lb := lsa.lb hm
    have al : ∀ v, ∀ k ∈ aftS tm.length ps v, k < tm.length := aft_lt
    generalize aftS tm.length ps = aft at lsa lb q al
    have one : ∀ k, k < tm.length → 2 ^ k ∈ ls.map (·.1) := fun k hk => (lb.pt _).mpr (one_mem sh k hk)
    refine ⟨_, rfl, d, ls, rfl, hD, lb.nd, lb.pos, fun b bs H2 s2 hB bok => ?_⟩
    refine ⟨_, rfl, ta, tv, rfl, (s1.trans s2).sq hT, _, rfl, tm.length, b, bs, ls.map (·.1), by rw [htl]; rfl, hB, bok, hm, lb.nd, lb.pos, one, fun x v H3 s3 nx ex vl => ?_⟩
    refine ⟨_, rfl, _, rfl, _, rfl, d, b, x, tm.length, ls, bs, v, _, _, rfl, (hD.same s2).same s3, hB.same s3, bok, hm, lb, one, ex, vl, fun z as rs H4 s4 nz ez anz rn pk => ?_⟩
    refine ⟨_, rfl, (by show 3 ≤ sizeLine; decide), fun r nr => ?_⟩
    have s13 := (s1.trans s2).trans s3
    have s14 := s13.trans s4
    have s5 : Same H4 (upd H4 r (.tup [.str "shifts", .ref z, .ref x])) := (Same.refl H4).new nr
    have nxH := (s1.trans s2).free nx
    refine q r _ (s14.trans s5) (s14.free nr) (.shifts z x as rs v sh upd_same (s13.free nz) nxH (s5 _ _ ez) (fun a ha => ⟨anz a ha, fun e => ?_⟩) ?_ (s5 _ _ (s4 _ _ ex)) ⟨vl_congr lb.pt vl, pk⟩)
    · obtain ⟨j, hj⟩ := List.getElem?_of_mem ha
      obtain ⟨_, _, na, _⟩ := P_right rn hj
      rw [e, ex] at na
      cases na
    · exact P_mono (fun _ _ ⟨u1, u2⟩ => ⟨s13.free u1, s5 _ _ u2⟩) rn
end
end K28W

namespace K28W
open PySem PySem.Spec PyProof.Rows L2 KH K28 KD
abbrev s_law_times : Stmt := topS 19
theorem sc_law_times : FnScope ["cell", "count", "wide", "sizes", "k", "drawn"] ["cell", "count", "wide"] (defScope s_law_times) := ⟨rfl, rfl, rfl, by decide +kernel, rfl, by decide +kernel, by decide +kernel⟩

abbrev s_law_some_pairs : Stmt := topS 20
theorem sc_law_some_pairs : FnScope ["cell", "count", "number", "sizes", "k", "drawn"] ["cell", "count", "number"] (defScope s_law_some_pairs) := ⟨rfl, rfl, rfl, by decide +kernel, rfl, by decide +kernel, by decide +kernel⟩

abbrev s_law_lot : Stmt := topS 22
theorem sc_law_lot : FnScope ["row", "lot", "k"] ["row"] (defScope s_law_lot) := ⟨rfl, rfl, rfl, by decide +kernel, rfl, by decide +kernel, by decide +kernel⟩

abbrev s_law_least : Stmt := topS 23
theorem sc_law_least : FnScope ["lot", "k"] ["lot"] (defScope s_law_least) := ⟨rfl, rfl, rfl, by decide +kernel, rfl, by decide +kernel, by decide +kernel⟩

theorem PI.snoc {K : PySem.W.Frag} {H : Hp} {vs : List V} {ps : List P2} {t : Addr} {a b : Int} (h : PI K H vs ps) (ht : SqT K H t [.int a, .int b]) : PI K H (vs ++ [V.ref t]) (ps ++ [(a, b)]) := P_append h (.cons ⟨t, rfl, ht⟩ .nil)
theorem sqT_mutL' {K : PySem.W.Frag} {H : Hp} {o t : Addr} {us xs : List V} {x : HO} (h : SqT K H t xs) (e : H o = some (.lst us)) : SqT K (upd H o x) t xs := sqT_mutL h e
theorem PI.mutL {K : PySem.W.Frag} {H : Hp} {o : Addr} {vs us : List V} {ps : List P2} {x : HO} (h : PI K H vs ps) (e : H o = some (.lst us)) : PI K (upd H o x) vs ps := P_mono (fun _ _ ⟨t, et, q⟩ => ⟨t, et, sqT_mutL q e⟩) h
theorem upP_snoc (ps : K02.PL) (a b : Nat) : upP (ps ++ [(a, b)]) = upP ps ++ [((a : Int), (b : Int))] := by unfold upP; rw [List.map_append]; rfl
section
variable {P : Program} {w : World} {K : PySem.W.Frag} {mg : Str → Option Value} {base : Heap} {CN CB CD CT CU fI fJ : Addr}
/-- times as drawn -/
def OkT (T : List P2) : Prop := ∀ q ∈ T, 0 ≤ q.1 ∧ q.1 ≤ q.2 ∧ q.2 ≤ 10000
def sp_times (K : PySem.W.Frag) : Sp := fun vs H Q _ => ∃ (c : Int) (n : Nat) (b : Bool), vs = [.int c, nV n, .bl b] ∧ n ≤ 20 ∧
  ∀ (p : Addr) us T H', Same H H' → H p = none → H' p = some (.lst us) → PI K H' us T → T.length = n → OkT T → Q (.ref p) H'
theorem ok_times {f f1 : Addr} {fd fd1 : FuncData} (F : Fun K "_law_times" "_law_times" s_law_times f fd) (T : Txt mg) (C_law_draws : Cal P w K mg base 1 "_law_draws" ["cell", "sizes"] (sp_draws K) f1 fd1) : FnOk P w K mg base CX0 2 f fd ["cell", "count", "wide"] (sp_times K) := by
  refine F.ok sc_law_times (fun vs H Q E h => ?_) (fun cdv A outer s H vs Q E hr h => ?_)
  · obtain ⟨c, n, b, rfl, _⟩ := h
    rfl
  · obtain ⟨c, n, b, rfl, hn, q⟩ := h
    refine ⟨_, (pss_cons (ps_set (i := 3) sc_law_times.nd rfl (.inl rfl) (pe_lst pa_nil))
 (pss_cons (ps_for PassesOwn.never rfl (pi_range1 rfl T.range (pa_cons (pv 1) pa_nil)) (pg_name (i := 4) sc_law_times.nd rfl (.inl rfl))
 (pss_one (ps_if (pt_val (pv 2))
 (pss_one (ps_expr (pe_bm PySem.F.plainAttrs_list PySem.F.slot_list_extend PySem.F.type_list_extend mt_extend (pv 3) (pa_cons (pe_lst (pa_cons pe_int (pa_cons pe_int pa_nil))) pa_nil))))
 (pss_one (ps_expr (pe_bm PySem.F.plainAttrs_list PySem.F.slot_list_extend PySem.F.type_list_extend mt_extend (pv 3) (pa_cons (pe_lst (pa_cons pe_int (pa_cons pe_int pa_nil))) pa_nil)))))))
 (pss_cons (ps_set (i := 5) sc_law_times.nd rfl (.inr rfl) (pe_call C_law_draws.ok (hr.mono (by decide)) (by rfl) C_law_draws.mg C_law_draws.kp C_law_draws.b .nil pass0 (pa_cons (pv 0) (pa_cons (pv 3) pa_nil))))
 (pss_one (ps_ret (pe_lc (own := [("k", 4)]) (g := gName 4) (tt := tYes) rfl sc_law_times.nd (pi_range1 rfl T.range (pa_cons (pv 1) pa_nil)) (blkOk_by (N := ["cell", "count", "wide", "sizes", "k", "drawn"]) (sc := defScope s_law_times) (by decide +kernel)) (fun _ _ _ _ _ => (pg_name (i := 4) sc_law_times.nd rfl (.inl rfl))) (fun _ _ _ _ _ => pts_nil) (fun _ _ _ _ _ => (pe_tup (pa_cons (pe_ix (r := rIxL K) ix_list (pv 5) (pe_op op_mul pe_int (pv 4)) (fun _ _ => rfl)) (pa_cons (pe_op op_add (pe_ix (r := rIxL K) ix_list (pv 5) (pe_op op_mul pe_int (pv 4)) (fun _ _ => rfl)) (pe_ix (r := rIxL K) ix_list (pv 5) (pe_op op_add (pe_op op_mul pe_int (pv 4)) pe_int) (fun _ _ => rfl))) pa_nil)))))))))), ?_⟩
    refine ⟨Nat.zero_le _, fun z nz => ?_⟩
    refine ⟨_, rfl, _, rfl, (by omega), (by omega), ?_⟩
    rw [show ((n : Nat) : Int).toNat = n by omega]
    refine for_range (lo := 0) (n := n) (fun i σ H' => ∃ (v4 : Option V) (zs : List Nat), σ = [some (.int c), some (nV n), some (.bl b), some (.ref z), v4, none] ∧ Same H H' ∧ H' z = some (.lst (zs.map nV)) ∧ zs.length = 2 * i ∧ ∀ y ∈ zs, 0 < y ∧ y ≤ 4001)
      ⟨_, [], rfl, (Same.refl H).new nz, upd_same, rfl, fun y hy => by cases hy⟩ ?_ ?_
    · rintro i σ H' hi ⟨v4, zs, rfl, sm, e, zl, zb⟩
      refine ⟨_, rfl, _, rfl, ite2 (fun _ => ?_) (fun _ => ?_)⟩
      all_goals
        refine ⟨_, rfl, .inl ⟨rfl, _, SqL.of e⟩, sp2, fun t nt => ?_⟩
        have ezt : z ≠ t := ne_of_none e nt
        refine ⟨z, t, _, _, rfl, rfl, (by rw [upd_ne ezt]; exact e), upd_same, ?_, ?_⟩
        · rw [List.length_map, zl]
          exact szle (by show 2 * i + 2 ≤ 10000; omega)
      · refine ⟨_, zs ++ [4001, 301], rfl, (sm.new nt).mut nz, ?_, by rw [List.length_append, zl]; rfl, fun y hy => ?_⟩
        · rw [upd_same, List.map_append]
          rfl
        · rcases List.mem_append.mp hy with h | h
          · exact zb y h
          · simp only [List.mem_cons, List.not_mem_nil, or_false] at h
            rcases h with rfl | rfl <;> decide
      · refine ⟨_, zs ++ [41, 13], rfl, (sm.new nt).mut nz, ?_, by rw [List.length_append, zl]; rfl, fun y hy => ?_⟩
        · rw [upd_same, List.map_append]
          rfl
        · rcases List.mem_append.mp hy with h | h
          · exact zb y h
          · simp only [List.mem_cons, List.not_mem_nil, or_false] at h
            rcases h with rfl | rfl <;> decide
    rintro σ H1 ⟨v4, zs, rfl, s1, ez, zl, zb⟩
    refine ⟨_, rfl, _, rfl, z, c, zs, rfl, SqL.of ez, by omega, fun y hy => ⟨(zb y hy).1, by have := (zb y hy).2; omega⟩, fun dp ds H3 s3 ndp edp dr => ?_⟩
    have t3 := s1.trans s3
    refine ⟨_, rfl, _, rfl, (by omega), (by omega), ?_⟩
    rw [show ((n : Nat) : Int).toNat = n by omega]
    refine fun D nD => ?_
    refine lc_range (lo := 0) (n := n) (fun i H' => ∃ (us : List V) (T : List P2), Same H3 H' ∧ H' D = some (.lst us) ∧ PI K H' us T ∧ T.length = i ∧ OkT T) ⟨[], [], (Same.refl H3).new nD, upd_same, .nil, rfl, fun y hy => by cases hy⟩ ?_ ?_
    · rintro i H4 hi ⟨us, T, s4, eD, hP, hl, ok⟩
      rw [show (0 : Int) + (i : Int) = (i : Int) by omega]
      obtain ⟨z1, hz1⟩ := get_lt (l := zs) (i := 2 * i) (by omega)
      obtain ⟨z2, hz2⟩ := get_lt (l := zs) (i := 2 * i + 1) (by omega)
      obtain ⟨x, hx, bx⟩ := P_left dr hz1
      obtain ⟨y, hy, by'⟩ := P_left dr hz2
      have b1 := (zb z1 (List.mem_of_getElem? hz1)).2
      have b2 := (zb z2 (List.mem_of_getElem? hz2)).2
      have hA := s4.seq (SqL.of (K := K) edp)
      refine ⟨rfl, _, rfl, _, rfl, _, _, rfl, rfl, .inl ⟨by decide, by decide⟩, dp, _, _, nV x, rfl, rfl, hA, at_n (j := 2 * i) (getn hx), ?_⟩
      refine ⟨_, rfl, _, rfl, _, _, rfl, rfl, .inl ⟨by decide, by decide⟩, dp, _, _, nV x, rfl, rfl, hA, at_n (j := 2 * i) (getn hx), ?_⟩
      refine ⟨_, rfl, _, rfl, _, _, rfl, rfl, .inl ⟨by decide, by decide⟩, _, _, rfl, rfl, dp, _, _, nV y, rfl, rfl, hA, at_n (j := 2 * i + 1) (getn hy), _, _, rfl, rfl, sp2, fun t nt => ?_⟩
      have eD2 : (upd H4 t (.tup [nV x, .int ((x : Int) + (y : Int))])) D = some (.lst us) := by rw [upd_ne (ne_of_none eD nt)]; exact eD
      refine ⟨us, eD2, ?_, us ++ [V.ref t], T ++ [((x : Int), (x : Int) + (y : Int))], (s4.new nt).mut nD, upd_same, ?_, by rw [List.length_append, hl]; rfl, fun q hq => ?_⟩
      · rw [hP.len, hl]
        exact szl (by omega)
      · exact ((hP.same ((Same.refl H4).new nt)).snoc (SqT.of upd_same)).mutL eD2
      · rcases List.mem_append.mp hq with h | h
        · exact ok q h
        · rw [List.mem_singleton.mp h]
          exact ⟨by show (0 : Int) ≤ (x : Int); omega, by show (x : Int) ≤ (x : Int) + (y : Int); omega, by show (x : Int) + (y : Int) ≤ 10000; omega⟩
    · rintro H4 ⟨us, T, s4, eD, hP, hl, ok⟩
      exact q D us T H4 (t3.trans s4) (t3.free nD) eD hP hl ok
/-! ### any pairs -/
def sp_pairs (K : PySem.W.Frag) : Sp := fun vs H Q _ => ∃ (c : Int) (m n : Nat), vs = [.int c, nV m, nV n] ∧ m ≤ 20 ∧ n ≤ 20 ∧
  ∀ (p : Addr) us ps H', Same H H' → H p = none → H' p = some (.lst us) → PI K H' us (upP ps) → K02.Within m ps → ps.length ≤ 20 → Q (.ref p) H'
theorem ok_pairs {f f1 : Addr} {fd fd1 : FuncData} (F : Fun K "_law_some_pairs" "_law_some_pairs" s_law_some_pairs f fd) (T : Txt mg) (C_law_draws : Cal P w K mg base 1 "_law_draws" ["cell", "sizes"] (sp_draws K) f1 fd1) : FnOk P w K mg base CX0 2 f fd ["cell", "count", "number"] (sp_pairs K) := by
  refine F.ok sc_law_some_pairs (fun vs H Q E h => ?_) (fun cdv A outer s H vs Q E hr h => ?_)
  · obtain ⟨c, m, n, rfl, _⟩ := h
    rfl
  · obtain ⟨c, m, n, rfl, hm, hn, q⟩ := h
    refine ⟨_, (pss_cons (ps_if (pt_cmpR op_eq (pv 1) pe_int (nomark _))
 (pss_one (ps_ret (pe_lst pa_nil)))
 pss_nil)
 (pss_cons (ps_set (i := 3) sc_law_some_pairs.nd rfl (.inl rfl) (pe_lst pa_nil))
 (pss_cons (ps_for PassesOwn.never rfl (pi_range1 rfl T.range (pa_cons (pv 2) pa_nil)) (pg_name (i := 4) sc_law_some_pairs.nd rfl (.inl rfl))
 (pss_one (ps_expr (pe_bm PySem.F.plainAttrs_list PySem.F.slot_list_extend PySem.F.type_list_extend mt_extend (pv 3) (pa_cons (pe_lst (pa_cons (pv 1) (pa_cons (pv 1) pa_nil))) pa_nil)))))
 (pss_cons (ps_set (i := 5) sc_law_some_pairs.nd rfl (.inr rfl) (pe_call C_law_draws.ok (hr.mono (by decide)) (by rfl) C_law_draws.mg C_law_draws.kp C_law_draws.b .nil pass0 (pa_cons (pv 0) (pa_cons (pv 3) pa_nil))))
 (pss_one (ps_ret (pe_lc (own := [("k", 4)]) (g := gName 4) (tt := tYes) rfl sc_law_some_pairs.nd (pi_range1 rfl T.range (pa_cons (pv 2) pa_nil)) (blkOk_by (N := ["cell", "count", "number", "sizes", "k", "drawn"]) (sc := defScope s_law_some_pairs) (by decide +kernel)) (fun _ _ _ _ _ => (pg_name (i := 4) sc_law_some_pairs.nd rfl (.inl rfl))) (fun _ _ _ _ _ => pts_nil) (fun _ _ _ _ _ => (pe_tup (pa_cons (pe_ix (r := rIxL K) ix_list (pv 5) (pe_op op_mul pe_int (pv 4)) (fun _ _ => rfl)) (pa_cons (pe_ix (r := rIxL K) ix_list (pv 5) (pe_op op_add (pe_op op_mul pe_int (pv 4)) pe_int) (fun _ _ => rfl)) pa_nil))))))))))), ?_⟩
    refine ⟨_, rfl, rfl, _, rfl, ?_⟩
    by_cases m0 : m = 0
    · subst m0
      rw [decide_eq_true (show nV 0 = V.int 0 from rfl)]
      exact iteT ⟨Nat.zero_le _, fun p np => q p [] [] _ ((Same.refl H).new np) np upd_same .nil (fun q h => by cases h) (Nat.zero_le _)⟩
    rw [decide_eq_false (show ¬ nV m = V.int 0 from fun z => m0 (by have := V.int.inj z; omega))]
    refine iteF ⟨Nat.zero_le _, fun z nz => ?_⟩
    refine ⟨_, rfl, _, rfl, (by omega), (by omega), ?_⟩
    rw [show ((n : Nat) : Int).toNat = n by omega]
    refine for_range (lo := 0) (n := n) (fun i σ H' => ∃ (v4 : Option V), σ = [some (.int c), some (nV m), some (nV n), some (.ref z), v4, none] ∧ Same H H' ∧ H' z = some (.lst ((List.replicate (2 * i) m).map nV)))
      ⟨_, rfl, (Same.refl H).new nz, upd_same⟩ ?_ ?_
    · rintro i σ H' hi ⟨v4, rfl, sm, e⟩
      refine ⟨_, rfl, .inl ⟨rfl, _, SqL.of e⟩, _, rfl, _, rfl, sp2, fun t nt => ?_⟩
      have ezt : z ≠ t := ne_of_none e nt
      refine ⟨z, t, _, _, rfl, rfl, (by rw [upd_ne ezt]; exact e), upd_same, ?_, ?_⟩
      · rw [List.length_map, List.length_replicate]
        exact szle (by show 2 * i + 2 ≤ 10000; omega)
      · refine ⟨_, rfl, (sm.new nt).mut nz, ?_⟩
        rw [upd_same, show 2 * (i + 1) = 2 * i + 2 by omega, ← List.replicate_append_replicate, List.map_append]
        rfl
    rintro σ H1 ⟨v4, rfl, s1, ez⟩
    refine ⟨_, rfl, _, rfl, z, c, List.replicate (2 * n) m, rfl, SqL.of ez, ?_, ?_, fun dp ds H3 s3 ndp edp dr => ?_⟩
    · rw [List.length_replicate]
      omega
    · intro y hy
      have e := List.eq_of_mem_replicate hy
      omega
    have t3 := s1.trans s3
    refine ⟨_, rfl, _, rfl, (by omega), (by omega), ?_⟩
    rw [show ((n : Nat) : Int).toNat = n by omega]
    refine fun D nD => ?_
    refine lc_range (lo := 0) (n := n) (fun i H' => ∃ (us : List V) (ps : K02.PL), Same H3 H' ∧ H' D = some (.lst us) ∧ PI K H' us (upP ps) ∧ K02.Within m ps ∧ ps.length = i) ⟨[], [], (Same.refl H3).new nD, upd_same, .nil, (fun q h => by cases h), rfl⟩ ?_ ?_
    · rintro i H4 hi ⟨us, ps, s4, eD, hP, hW, hl⟩
      rw [show (0 : Int) + (i : Int) = (i : Int) by omega]
      obtain ⟨x, hx, bx⟩ := P_left dr (i := 2 * i) (y := m) (by rw [List.getElem?_replicate]; rw [if_pos (by omega)])
      obtain ⟨y, hy, by'⟩ := P_left dr (i := 2 * i + 1) (y := m) (by rw [List.getElem?_replicate]; rw [if_pos (by omega)])
      have hA := s4.seq (SqL.of (K := K) edp)
      refine ⟨rfl, _, rfl, _, rfl, _, _, rfl, rfl, .inl ⟨by decide, by decide⟩, dp, _, _, nV x, rfl, rfl, hA, at_n (j := 2 * i) (getn hx), _, rfl, _, rfl, _, _, rfl, rfl, .inl ⟨by decide, by decide⟩, _, _, rfl, rfl, dp, _, _, nV y, rfl, rfl, hA, at_n (j := 2 * i + 1) (getn hy), sp2, fun t nt => ?_⟩
      have eD2 : (upd H4 t (.tup [nV x, nV y])) D = some (.lst us) := by rw [upd_ne (ne_of_none eD nt)]; exact eD
      refine ⟨us, eD2, ?_, us ++ [V.ref t], ps ++ [(x, y)], (s4.new nt).mut nD, upd_same, ?_, ?_, by rw [List.length_append, hl]; rfl⟩
      · rw [hP.len, upP_len, hl]
        exact szl (by omega)
      · rw [upP_snoc]
        exact ((hP.same ((Same.refl H4).new nt)).snoc (SqT.of upd_same)).mutL eD2
      · intro q hq
        rcases List.mem_append.mp hq with h | h
        · exact hW q h
        · rw [List.mem_singleton.mp h]
          exact ⟨bx, by'⟩
    · rintro H4 ⟨us, ps, s4, eD, hP, hW, hl⟩
      exact q D us ps H4 (t3.trans s4) (t3.free nD) eD hP hW (by omega)
/-! ### a row's lot -/
def sp_lot (K : PySem.W.Frag) : Sp := fun vs H Q _ => ∃ (a : Addr) (r : K28.Row), vs = [.ref a] ∧ SqL K H a (r.map nV) ∧ r.Nodup ∧ (∀ k ∈ r, k < 8) ∧ Q (nV (lotN r)) H
theorem ok_lot {f : Addr} {fd : FuncData} (F : Fun K "_law_lot" "_law_lot" s_law_lot f fd) (T : Txt mg) : FnOk P w K mg base CX0 1 f fd ["row"] (sp_lot K) := by
  refine F.ok sc_law_lot (fun vs H Q E h => ?_) (fun cdv A outer s H vs Q E hr h => ?_)
  · obtain ⟨a, r, rfl, _⟩ := h
    rfl
  · obtain ⟨a, r, rfl, hR, nd, h8, q⟩ := h
    refine ⟨_, (pss_cons (ps_set (i := 1) sc_law_lot.nd rfl (.inl rfl) pe_int)
 (pss_cons (ps_for PassesOwn.never rfl (pi_list (pv 0)) (pg_name (i := 2) sc_law_lot.nd rfl (.inl rfl))
 (pss_one (ps_set (i := 1) sc_law_lot.nd rfl (.inl rfl) (pe_op op_add (pv 1) (pe_op op_shl pe_int (pv 2))))))
 (pss_one (ps_ret (pv 1))))), ?_⟩
    refine ⟨_, rfl, a, rfl, ⟨_, hR⟩, for_list (K := K) (a := a) (xs := r.map nV) (fun i σ H' => ∃ (v2 : Option V), σ = [some (.ref a), some (nV (lotN (r.take i))), v2] ∧ H' = H) ⟨none, rfl, rfl⟩ (fun i σ H' _ ⟨_, _, e⟩ => by rw [e]; exact hR) ?_ ?_⟩
    · rintro i x σ H0 hi ⟨v2, rfl, rfl⟩
      obtain ⟨k, hk, rfl⟩ := getn_inv hi
      have k8 := h8 k (List.mem_of_getElem? hk)
      refine ⟨_, rfl, _, rfl, _, _, rfl, rfl, ⟨by first | decide | omega, by first | decide | omega, by first | decide | omega⟩, _, _, rfl, rfl, ?_⟩
      dsimp only
      rw [shl1]
      refine ⟨some (nV k), ?_, rfl⟩
      have hx : k ∉ r.take i := fun z => by
        have e := take_more hk
        have n2 : (r.take i ++ [k]).Nodup := e ▸ nd.sublist (List.take_sublist _ _)
        exact (List.nodup_append.mp n2).2.2 k z k (List.mem_singleton.mpr rfl) rfl
      have lt : lotN (r.take i) < 256 := lot_lt (m := 8) fun y hy => h8 y (List.mem_of_mem_take hy)
      rw [take_more hk, lot_snoc, or_add _ lt k k8 (by rw [bit_lot]; simpa using hx)]
      rfl
    · rintro σ H0 ⟨v2, rfl, rfl⟩
      rw [List.length_map, List.take_length]
      exact ⟨_, rfl, q⟩
/-! ### the least bit -/
def sp_least : Sp := fun vs H Q _ => ∃ (l : Nat), vs = [nV l] ∧ l < 256 ∧ Q (nV (lsb l)) H
theorem and_two : ∀ l, l < 256 → ∀ k, k < 8 → (0 < l &&& 2 ^ k ↔ l.testBit k = true) := by decide +kernel
theorem ok_least {f : Addr} {fd : FuncData} (F : Fun K "_law_least" "_law_least" s_law_least f fd) (T : Txt mg) : FnOk P w K mg base CX0 1 f fd ["lot"] sp_least := by
  refine F.ok sc_law_least (fun vs H Q E h => ?_) (fun cdv A outer s H vs Q E hr h => ?_)
  · obtain ⟨l, rfl, _⟩ := h
    rfl
  · obtain ⟨l, rfl, hl, q⟩ := h
    refine ⟨_, (pss_cons (ps_for PassesOwn.never rfl (pi_range1 rfl T.range (pa_cons pe_int pa_nil)) (pg_name (i := 1) sc_law_least.nd rfl (.inl rfl))
 (pss_one (ps_if (pt_cmpR op_gt (pe_op op_and (pv 0) (pe_op op_shl pe_int (pv 1))) pe_int (nomark _))
 (pss_one (ps_ret (pv 1)))
 pss_nil)))
 (pss_one (ps_ret pe_int))), ?_⟩
    refine ⟨_, rfl, (by decide), (by decide), ?_⟩
    rw [show ((8 : Int)).toNat = 8 by rfl]
    refine for_range (lo := 0) (n := 8) (fun i σ H' => ∃ (v1 : Option V), σ = [some (nV l), v1] ∧ H' = H ∧ ∀ j, j < i → l.testBit j = false) ⟨none, rfl, rfl, fun j hj => absurd hj (Nat.not_lt_zero j)⟩ ?_ ?_
    · rintro i σ H0 hi ⟨v1, rfl, rfl, no⟩
      rw [show (0 : Int) + (i : Int) = (i : Int) by omega]
      refine ⟨_, rfl, _, rfl, _, _, rfl, rfl, ⟨by first | decide | omega, by first | decide | omega, by first | decide | omega⟩, _, _, rfl, rfl, ?_⟩
      dsimp only
      rw [shl1, band]
      refine ⟨_, _, rfl, rfl, _, rfl, ite2 (fun c => ?_) (fun c => ?_)⟩
      · have t := (and_two l hl i hi).mp (by have := of_decide_eq_true c; omega)
        have l0 : 0 < l := Nat.pos_of_ne_zero fun z => by rw [z, Nat.zero_testBit] at t; cases t
        have e : lsb l = i := by
          unfold lsb
          rw [List.find?_range_eq_some.mpr ⟨t, List.mem_range.mpr hi, fun j hj => by rw [no j hj]; rfl⟩]
          rfl
        exact ⟨_, rfl, by rw [← e]; exact q⟩
      · have t : l.testBit i = false := Bool.eq_false_iff.mpr fun z => c (decide_eq_true (by have := (and_two l hl i hi).mpr z; omega))
        refine ⟨_, rfl, rfl, fun j hj => ?_⟩
        by_cases e : j = i
        · rw [e]
          exact t
        · exact no j (by omega)
    · rintro σ H0 ⟨v1, rfl, rfl, no⟩
      have z : l = 0 := by
        refine Nat.eq_of_testBit_eq fun j => ?_
        rw [Nat.zero_testBit]
        by_cases c : j < 8
        · exact no j c
        · exact Nat.testBit_lt_two_pow (Nat.lt_of_lt_of_le hl (show 2 ^ 8 ≤ 2 ^ j from Nat.pow_le_pow_right (by decide) (by omega)))
      have e : lsb l = 0 := by rw [z]; decide
      rw [e] at q
      exact q
end
end K28W

namespace K28W
open PySem PySem.Spec PyProof.Rows L2 KH K28 KD
abbrev s_law_ordered_pairs : Stmt := topS 21
theorem sc_law_ordered_pairs : FnScope ["cell", "count", "sizes", "k", "drawn", "places", "order", "pairs", "later"] ["cell", "count"] (defScope s_law_ordered_pairs) := ⟨rfl, rfl, rfl, by decide +kernel, rfl, by decide +kernel, by decide +kernel⟩

section
variable {P : Program} {w : World} {K : PySem.W.Frag} {mg : Str → Option Value} {base : Heap} {CN CB CD CT CU fI fJ : Addr}
theorem rgV_nat (n : Nat) : rgV 0 (n : Int) = (List.range n).map nV := by
  unfold rgV
  rw [show ((n : Int) - 0).toNat = n by omega]
  refine List.map_congr_left fun i _ => ?_
  show V.int (0 + (i : Int)) = V.int (i : Int)
  rw [Int.zero_add]
theorem erase_map {α β : Type} (f : α → β) : ∀ (l : List α) (i : Nat), (l.map f).eraseIdx i = (l.eraseIdx i).map f
  | [], _ => rfl
  | _ :: _, 0 => rfl
  | x :: l, i + 1 => by
    show f x :: (l.map f).eraseIdx i = f x :: (l.eraseIdx i).map f
    rw [erase_map f l i]
theorem seq_nat {i n : Nat} (h : i < n) : PySem.seqIndex? (i : Int) n = some i := by
  unfold PySem.seqIndex?
  rw [if_neg (show ¬ ((i : Int) < 0) by omega)]
  dsimp only
  rw [if_pos (by simp; omega)]
  rfl
def sp_ordered (K : PySem.W.Frag) : Sp := fun vs H Q _ => ∃ (c : Int) (m : Nat), vs = [.int c, nV m] ∧ m ≤ 8 ∧
  ∀ (p : Addr) us ps H', Same H H' → H p = none → H' p = some (.lst us) → PI K H' us (upP ps) → K02.Within m ps → ps.length ≤ 64 → Q (.ref p) H'
theorem ok_ordered {f f1 : Addr} {fd fd1 : FuncData} (F : Fun K "_law_ordered_pairs" "_law_ordered_pairs" s_law_ordered_pairs f fd) (T : Txt mg) (C_law_draws : Cal P w K mg base 1 "_law_draws" ["cell", "sizes"] (sp_draws K) f1 fd1) : FnOk P w K mg base CX0 2 f fd ["cell", "count"] (sp_ordered K) := by
  refine F.ok sc_law_ordered_pairs (fun vs H Q E h => ?_) (fun cdv A outer s H vs Q E hr h => ?_)
  · obtain ⟨c, m, rfl, _⟩ := h
    rfl
  · obtain ⟨c, m, rfl, hm, q⟩ := h
    refine ⟨_, (pss_cons (ps_setLc (i := 2) (own := [("k", 3)]) (g := gName 3) (tt := tYes) rfl sc_law_ordered_pairs.nd rfl rfl (sw_true rfl rfl rfl (by decide +kernel)) (pi_range1 rfl T.range (pa_cons (pv 1) pa_nil)) (blkOk_by (N := ["cell", "count", "sizes", "k", "drawn", "places", "order", "pairs", "later"]) (sc := defScope s_law_ordered_pairs) (by decide +kernel)) (fun _ _ _ _ _ => (pg_name (i := 3) sc_law_ordered_pairs.nd rfl (.inl rfl))) (fun _ _ _ _ _ => pts_nil) (fun _ _ _ _ _ => (pe_op op_sub (pv 1) (pv 3))))
 (pss_cons (ps_for PassesOwn.never rfl (pi_range1 rfl T.range (pa_cons (pe_op op_mul (pv 1) (pv 1)) pa_nil)) (pg_name (i := 3) sc_law_ordered_pairs.nd rfl (.inl rfl))
 (pss_one (ps_expr (pe_bm PySem.F.plainAttrs_list PySem.F.slot_list_append PySem.F.type_list_append mt_append (pv 2) (pa_cons pe_int pa_nil)))))
 (pss_cons (ps_set (i := 4) sc_law_ordered_pairs.nd rfl (.inl rfl) (pe_call C_law_draws.ok (hr.mono (by decide)) (by rfl) C_law_draws.mg C_law_draws.kp C_law_draws.b .nil pass0 (pa_cons (pv 0) (pa_cons (pv 2) pa_nil))))
 (pss_cons (ps_set (i := 5) sc_law_ordered_pairs.nd rfl (.inl rfl) (pe_listRg rfl rfl T.list (prg_1 rfl T.range (pv 1))))
 (pss_cons (ps_set (i := 6) sc_law_ordered_pairs.nd rfl (.inl rfl) (pe_lst pa_nil))
 (pss_cons (ps_for PassesOwn.never rfl (pi_range1 rfl T.range (pa_cons (pv 1) pa_nil)) (pg_name (i := 3) sc_law_ordered_pairs.nd rfl (.inl rfl))
 (pss_one (ps_expr (pe_bm PySem.F.plainAttrs_list PySem.F.slot_list_append PySem.F.type_list_append mt_append (pv 6) (pa_cons (pe_bm PySem.F.plainAttrs_list PySem.F.slot_list_pop PySem.F.type_list_pop mt_popAt (pv 5) (pa_cons (pe_ix ix_list (pv 4) (pv 3) (fun _ _ => rfl)) pa_nil)) pa_nil)))))
 (pss_cons (ps_set (i := 7) sc_law_ordered_pairs.nd rfl (.inl rfl) (pe_lst pa_nil))
 (pss_cons (ps_for PassesOwn.never rfl (pi_range1 rfl T.range (pa_cons (pv 1) pa_nil)) (pg_name (i := 3) sc_law_ordered_pairs.nd rfl (.inl rfl))
 (pss_one (ps_for PassesOwn.never rfl (pi_range2 rfl T.range (pa_cons (pe_op op_add (pv 3) pe_int) (pa_cons (pv 1) pa_nil))) (pg_name (i := 8) sc_law_ordered_pairs.nd rfl (.inl rfl))
 (pss_one (ps_if (pt_cmpR op_gt (pe_ix ix_list (pv 4) (pe_op op_add (pe_op op_add (pv 1) (pe_op op_mul (pv 1) (pv 3))) (pv 8)) (fun _ _ => rfl)) pe_int (nomark _))
 (pss_one (ps_expr (pe_bm PySem.F.plainAttrs_list PySem.F.slot_list_append PySem.F.type_list_append mt_append (pv 7) (pa_cons (pe_tup (pa_cons (pe_ix ix_list (pv 6) (pv 3) (fun _ _ => rfl)) (pa_cons (pe_ix ix_list (pv 6) (pv 8) (fun _ _ => rfl)) pa_nil))) pa_nil))))
 pss_nil)))))
 (pss_one (ps_ret (pv 7))))))))))), ?_⟩
    have hmm : m * m ≤ 64 := Nat.mul_le_mul hm hm
    -- sizes
    refine ⟨_, rfl, _, rfl, (by omega), (by omega), ?_⟩
    rw [show ((m : Nat) : Int).toNat = m by omega]
    refine fun z nz => ?_
    refine lc_range (lo := 0) (n := m) (fun i H' => Same H H' ∧ H' z = some (.lst (((List.range i).map fun k => m - k).map nV))) ⟨(Same.refl H).new nz, upd_same⟩ ?_ ?_
    · rintro i H' hi ⟨sm, e⟩
      refine ⟨rfl, _, rfl, _, rfl, _, _, rfl, rfl, _, e, ?_, sm.mut nz, ?_⟩
      · rw [List.length_map, List.length_map, List.length_range]
        exact szl (by omega)
      · rw [upd_same, List.range_succ, List.map_append, List.map_append]
        dsimp only
        rw [show (m : Int) - (0 + (i : Int)) = ((m - i : Nat) : Int) by omega]
        rfl
    rintro H1 ⟨s1, ez⟩
    refine ⟨_, rfl, _, rfl, _, _, rfl, rfl, .inl ⟨by omega, by omega⟩, ((m * m : Nat) : Int), by rw [Int.natCast_mul], (by omega), (by omega), ?_⟩
    rw [show ((m * m : Nat) : Int).toNat = m * m by omega]
    refine for_range (lo := 0) (n := m * m) (fun i σ H' => ∃ (v3 : Option V), σ = [some (.int c), some (nV m), some (.ref z), v3, none, none, none, none, none] ∧ Same H H' ∧ H' z = some (.lst ((((List.range m).map fun k => m - k) ++ List.replicate i 4).map nV)))
      ⟨none, rfl, s1, by rw [ez, List.replicate_zero, List.append_nil]⟩ ?_ ?_
    · rintro i σ H' hi ⟨v3, rfl, sm, e⟩
      refine ⟨_, rfl, .inl ⟨rfl, _, SqL.of e⟩, z, _, _, rfl, rfl, e, ?_, ?_⟩
      · rw [List.length_map, List.length_append, List.length_map, List.length_range, List.length_replicate]
        exact szl (by omega)
      · refine ⟨_, rfl, sm.mut nz, ?_⟩
        rw [upd_same, List.replicate_succ', ← List.append_assoc, List.map_append (l₂ := [4])]
        rfl
    rintro σ H2 ⟨v3, rfl, s2, ez2⟩
    generalize ezs : ((List.range m).map fun k => m - k) ++ List.replicate (m * m) 4 = zs at ez2
    have zl : zs.length = m + m * m := by rw [← ezs, List.length_append, List.length_map, List.length_range, List.length_replicate]
    have zlo : ∀ k, k < m → zs[k]? = some (m - k) := fun k hk => by
      rw [← ezs, List.getElem?_append_left (by rw [List.length_map, List.length_range]; exact hk), List.getElem?_map, List.getElem?_range hk]
      rfl
    refine ⟨_, rfl, _, rfl, z, c, zs, rfl, SqL.of ez2, by omega, fun y hy => ?_, fun dp ds H3 s3 ndp edp dr => ?_⟩
    · rw [← ezs] at hy
      rcases List.mem_append.mp hy with h | h
      · obtain ⟨k, hk, rfl⟩ := List.mem_map.mp h
        have := List.mem_range.mp hk
        omega
      · rw [List.eq_of_mem_replicate h]
        decide
    have dl : ds.length = m + m * m := by rw [P_len dr, zl]
    -- places
    refine ⟨_, rfl, _, rfl, .of_le (by omega) (by omega) (by omega) (by omega), fun pl npl => ?_⟩
    rw [rgV_nat]
    have s4 : Same H3 (upd H3 pl (.lst ((List.range m).map nV))) := (Same.refl H3).new npl
    have epl : (upd H3 pl (.lst ((List.range m).map nV))) pl = some (.lst ((List.range m).map nV)) := upd_same
    generalize upd H3 pl (.lst ((List.range m).map nV)) = H4 at s4 epl ⊢
    refine ⟨Nat.zero_le _, fun o no => ?_⟩
    have s5 : Same H4 (upd H4 o (.lst [])) := (Same.refl H4).new no
    have eo : (upd H4 o (.lst [])) o = some (.lst []) := upd_same
    generalize upd H4 o (.lst []) = H5 at s5 eo ⊢
    have s35 := s4.trans s5
    have s05 := (s2.trans s3).trans s35
    have npl0 : H pl = none := (s2.trans s3).free npl
    have no3 : H3 o = none := s4.free no
    have no0 : H o = none := (s2.trans s3).free no3
    have plo : pl ≠ o := ne_of_none epl no
    refine ⟨_, rfl, _, rfl, (by omega), (by omega), ?_⟩
    rw [show ((m : Nat) : Int).toNat = m by omega]
    refine for_range (lo := 0) (n := m) (fun i σ H' => ∃ (v3 : Option V) (ls os : List Nat), σ = [some (.int c), some (nV m), some (.ref z), v3, some (.ref dp), some (.ref pl), some (.ref o), none, none] ∧ Same H H' ∧ Same H3 H' ∧ H' pl = some (.lst (ls.map nV)) ∧ ls.length = m - i ∧ (∀ x ∈ ls, x < m) ∧ H' o = some (.lst (os.map nV)) ∧ os.length = i ∧ ∀ x ∈ os, x < m)
      ⟨v3, List.range m, [], rfl, s05, s35, s5 _ _ epl, List.length_range, fun x hx => List.mem_range.mp hx, eo, rfl, fun x hx => by cases hx⟩ ?_ ?_
    · rintro i σ H6 hi ⟨v3, ls, os, rfl, s6, s36, epl6, lsl, lsb, eo6, osl, osb⟩
      rw [show (0 : Int) + (i : Int) = (i : Int) by omega]
      obtain ⟨d, hd, hlt⟩ := P_left dr (zlo i hi)
      obtain ⟨y, hy⟩ := get_lt (l := ls) (i := d) (by omega)
      refine ⟨_, rfl, .inl ⟨rfl, _, SqL.of eo6⟩, _, rfl, .inl ⟨rfl, _, SqL.of epl6⟩, _, rfl, _, rfl, dp, _, _, nV d, rfl, rfl, SqL.of (s36 _ _ edp), at_n (getn hd), pl, _, _, d, nV y, rfl, rfl, epl6, by omega, by omega, ?_, getn hy, ?_⟩
      · rw [List.length_map]
        exact seq_nat (lt_get hy)
      have eo7 : (upd H6 pl (.lst ((ls.map nV).eraseIdx d))) o = some (.lst (os.map nV)) := by rw [upd_ne (Ne.symm plo)]; exact eo6
      refine ⟨o, _, _, rfl, rfl, eo7, ?_, ?_⟩
      · rw [List.length_map, osl]
        exact szl (by omega)
      refine ⟨_, ls.eraseIdx d, os ++ [y], rfl, (s6.mut npl0).mut no0, (s36.mut npl).mut no3, ?_, ?_, fun x hx => lsb x (List.mem_of_mem_eraseIdx hx), ?_, ?_, fun x hx => ?_⟩
      · rw [upd_ne plo, upd_same, erase_map]
      · rw [List.length_eraseIdx, if_pos (lt_get hy), lsl]
        omega
      · rw [upd_same, List.map_append]
        rfl
      · rw [List.length_append, osl]
        rfl
      · rcases List.mem_append.mp hx with h | h
        · exact osb x h
        · rw [List.mem_singleton.mp h]
          exact lsb y (List.mem_of_getElem? hy)
    rintro σ H6 ⟨v3, ls, os, rfl, s6, s36, epl6, lsl, lsb, eo6, osl, osb⟩
    refine ⟨Nat.zero_le _, fun r nr => ?_⟩
    have s7 : Same H6 (upd H6 r (.lst [])) := (Same.refl H6).new nr
    have er : (upd H6 r (.lst [])) r = some (.lst []) := upd_same
    generalize upd H6 r (.lst []) = H7 at s7 er ⊢
    have nr0 : H r = none := s6.free nr
    have eo7 := s7 _ _ eo6
    have ed7 := (s36.trans s7) _ _ edp
    have s07 := s6.trans s7
    have ror : r ≠ o := Ne.symm (ne_of_none eo6 nr)
    have nr7 : ∀ {b : Addr} {x : HO}, H6 b = some x → b ≠ r := fun e => ne_of_none e nr
    have ed6 := s36 _ _ edp
    refine ⟨_, rfl, _, rfl, (by omega), (by omega), ?_⟩
    rw [show ((m : Nat) : Int).toNat = m by omega]
    refine for_range (lo := 0) (n := m) (fun i σ H' => ∃ (v3 v8 : Option V) (us : List V) (ps : K02.PL), σ = [some (.int c), some (nV m), some (.ref z), v3, some (.ref dp), some (.ref pl), some (.ref o), some (.ref r), v8] ∧ Same H H' ∧ Same H6 H' ∧ H' r = some (.lst us) ∧ PI K H' us (upP ps) ∧ K02.Within m ps ∧ ps.length ≤ m * i)
      ⟨v3, none, [], [], rfl, s07, s7, er, .nil, (fun q h => by cases h), Nat.zero_le _⟩ ?_ ?_
    · rintro i σ H8 hi ⟨v3, v8, us, ps, rfl, s8, s68, er8, hP, hW, hl⟩
      rw [show (0 : Int) + (i : Int) = (i : Int) by omega]
      refine ⟨_, rfl, _, _, rfl, rfl, _, rfl, ((i + 1 : Nat) : Int), (m : Int), by rw [Int.natCast_add]; rfl, ⟨by omega, by omega, by omega, by omega⟩, ?_⟩
      rw [show ((m : Int) - ((i + 1 : Nat) : Int)).toNat = m - (i + 1) by omega]
      refine for_range (lo := ((i + 1 : Nat) : Int)) (n := m - (i + 1)) (fun j σ H' => ∃ (v8 : Option V) (us : List V) (ps : K02.PL), σ = [some (.int c), some (nV m), some (.ref z), some (nV i), some (.ref dp), some (.ref pl), some (.ref o), some (.ref r), v8] ∧ Same H H' ∧ Same H6 H' ∧ H' r = some (.lst us) ∧ PI K H' us (upP ps) ∧ K02.Within m ps ∧ ps.length ≤ m * i + j)
        ⟨v8, us, ps, rfl, s8, s68, er8, hP, hW, by omega⟩ ?_ ?_
      · rintro j σ H9 hj ⟨v8, us, ps, rfl, s9, s69, er9, hP, hW, hl⟩
        rw [show ((i + 1 : Nat) : Int) + (j : Int) = ((i + 1 + j : Nat) : Int) by omega]
        generalize el : i + 1 + j = l
        have lm : l < m := by omega
        have hin : m * i + m ≤ m * m := by rw [← Nat.mul_succ]; exact Nat.mul_le_mul_left m hi
        obtain ⟨d, hd⟩ := get_lt (l := ds) (i := m + m * i + l) (by omega)
        have eidx : (m : Int) + (m : Int) * (i : Int) + (l : Int) = ((m + m * i + l : Nat) : Int) := by rw [Int.natCast_add, Int.natCast_add, Int.natCast_mul]
        refine ⟨_, rfl, _, rfl, _, rfl, _, rfl, _, _, rfl, rfl, .inl ⟨by omega, by omega⟩, _, _, rfl, rfl, _, rfl, _, _, rfl, rfl, ?_⟩
        dsimp only
        rw [eidx]
        refine ⟨dp, _, _, nV d, rfl, rfl, SqL.of (s69 _ _ ed6), at_n (getn hd), _, _, rfl, rfl, _, rfl, ite2 (fun cc => ?_) (fun cc => ?_)⟩
        · obtain ⟨a, ha⟩ := get_lt (l := os) (i := i) (by omega)
          obtain ⟨b, hb⟩ := get_lt (l := os) (i := l) (by omega)
          have eo9 := s69 _ _ eo6
          refine ⟨_, rfl, .inl ⟨rfl, _, SqL.of er9⟩, _, rfl, _, rfl, o, _, _, nV a, rfl, rfl, SqL.of eo9, at_n (getn ha), _, rfl, _, rfl, o, _, _, nV b, rfl, rfl, SqL.of eo9, at_n (getn hb), sp2, fun t nt => ?_⟩
          have er10 : (upd H9 t (.tup [nV a, nV b])) r = some (.lst us) := by rw [upd_ne (ne_of_none er9 nt)]; exact er9
          refine ⟨r, _, _, rfl, rfl, er10, ?_, ?_⟩
          · rw [hP.len, upP_len]
            exact szl (by omega)
          refine ⟨_, us ++ [V.ref t], ps ++ [(a, b)], rfl, (s9.new nt).mut nr0, (s69.new nt).mut nr, upd_same, ?_, ?_, by rw [List.length_append, List.length_singleton]; omega⟩
          · rw [upP_snoc]
            exact ((hP.same ((Same.refl H9).new nt)).snoc (SqT.of upd_same)).mutL er10
          · intro q hq
            rcases List.mem_append.mp hq with h | h
            · exact hW q h
            · rw [List.mem_singleton.mp h]
              exact ⟨osb a (List.mem_of_getElem? ha), osb b (List.mem_of_getElem? hb)⟩
        · exact ⟨_, us, ps, rfl, s9, s69, er9, hP, hW, by omega⟩
      · rintro σ H9 ⟨v8, us, ps, rfl, s9, s69, er9, hP, hW, hl⟩
        refine ⟨_, v8, us, ps, rfl, s9, s69, er9, hP, hW, ?_⟩
        rw [Nat.mul_succ]
        omega
    · rintro σ H8 ⟨v3, v8, us, ps, rfl, s8, s68, er8, hP, hW, hl⟩
      exact ⟨_, rfl, q r us ps H8 s8 nr0 er8 hP hW (by omega)⟩
end
end K28W

namespace K28W
open PySem PySem.Spec PyProof.Rows L2 KH K28 KD
abbrev s_law_all_shifts : Stmt := topS 24
theorem sc_law_all_shifts : FnScope ["times", "pairs", "longest", "after", "k", "rows", "found", "size", "longer", "row", "later"] ["times", "pairs", "longest"] (defScope s_law_all_shifts) := ⟨rfl, rfl, rfl, by decide +kernel, rfl, by decide +kernel, by decide +kernel⟩

/-! ### pairs as data -/
def dP (q : P2) : PyData := .tuple [.int q.1, .int q.2]
theorem eqv_dP (a b : P2) : PyData.eqv (dP a) (dP b) = decide (a = b) := by
  have h : PyData.eqv (dP a) (dP b) = ((a.1 == b.1) && ((a.2 == b.2) && true)) := by
    unfold dP
    simp [PyData.eqv, PyData.eqvAll]
  rw [h, Bool.eq_iff_iff]
  simp only [Bool.and_true, Bool.and_eq_true, beq_iff_eq, decide_eq_true_eq]
  obtain ⟨a1, a2⟩ := a
  obtain ⟨b1, b2⟩ := b
  simp only [Prod.mk.injEq]
theorem any_dP (q : P2) : ∀ l : List P2, ((l.map dP).any fun z => PyData.eqv z (dP q)) = decide (q ∈ l)
  | [] => rfl
  | x :: l => by
    rw [List.map_cons, List.any_cons, any_dP q l, eqv_dP, Bool.eq_iff_iff]
    simp only [Bool.or_eq_true, decide_eq_true_eq, List.mem_cons]
    constructor
    · rintro (h | h)
      · exact .inl h.symm
      · exact .inr h
    · rintro (h | h)
      · exact .inl h.symm
      · exact .inr h
theorem shaped_dP (q : P2) : SeqAt.shaped (dP q) = true := by
  unfold SeqAt.shaped dP
  simp [PyData.canLay0, PyData.canLayAll0, PyData.depth, PyData.depthAll]
theorem dP_depth : ∀ l : List P2, PyData.depthAll (l.map dP) ≤ 1
  | [] => by simp [PyData.depthAll]
  | x :: l => by
    have ih := dP_depth l
    rw [List.map_cons]
    simp only [PyData.depthAll, dP, PyData.depth]
    exact Nat.max_le.mpr ⟨by simp [PyData.depthAll, PyData.depth], ih⟩
theorem dP_lay : ∀ l : List P2, PyData.canLayAll0 (l.map dP) = true
  | [] => by simp [PyData.canLayAll0]
  | x :: l => by
    have ih := dP_lay l
    rw [List.map_cons]
    simp only [PyData.canLayAll0, PyData.canLay0, dP, ih, Bool.and_self]
theorem shaped_l (l : List P2) : SeqAt.shaped (.list (l.map dP)) = true := by
  unfold SeqAt.shaped
  simp only [PyData.canLay0, dP_lay, Bool.true_and, PyData.depth, decide_eq_true_eq]
  have := dP_depth l
  exact decide_eq_true (by omega)
theorem PI.dp {K : PySem.W.Frag} {H : Hp} : ∀ {vs : List V} {l : List P2}, PI K H vs l → DpAll K H vs (l.map dP)
  | _, _, .nil => .nil
  | _, _, .cons ⟨t, e, q⟩ r => by
    subst e
    exact .cons (.tup q (.cons (.int _) (.cons (.int _) .nil))) (PI.dp r)
theorem mem_upP {ps : K02.PL} {a b : Nat} : (((a : Int), (b : Int)) : P2) ∈ upP ps ↔ (a, b) ∈ ps := by
  unfold upP
  rw [List.mem_map]
  constructor
  · rintro ⟨⟨x, y⟩, h, e⟩
    have e1 := congrArg Prod.fst e
    have e2 := congrArg Prod.snd e
    dsimp only at e1 e2
    have : x = a := by omega
    have : y = b := by omega
    subst x y
    exact h
  · exact fun h => ⟨(a, b), h, rfl⟩
/-! ### rows sorted -/
theorem sortL : ∀ bs : List (List Int), PySem.W.Sortable (bs.map PySem.W.Datum.toD) := fun bs => PySem.W.Sortable.others (enc := PySem.W.Datum.toD (α := List Int)) fun b => ⟨fun z => (by cases z), fun xs z => (by cases z)⟩
def rowLe (a b : K28.Row) : Bool := !K02.lexLt b a
def sortR (L : List K28.Row) : List K28.Row := L.mergeSort rowLe
theorem dataLe_cast (a b : K28.Row) : PySem.W.dataLe false (PySem.W.Datum.toD (α := List Int)) (castL a) (castL b) = rowLe a b := by
  rw [PySem.W.dataLe_eq]
  show (!PySem.W.dataLt (PySem.W.Datum.toD (castL b)) (PySem.W.Datum.toD (castL a))) = _
  rw [PySem.W.DatumOrd.lt_eq]
  show (!PySem.W.listLt (castL b) (castL a)) = _
  rw [listLt_ints]
  rfl
theorem sort_cast (L : List K28.Row) : (L.map castL).mergeSort (PySem.W.dataLe false PySem.W.Datum.toD) = (sortR L).map castL := by
  unfold sortR
  exact (PySem.W.sort_maps castL fun a _ b _ => (dataLe_cast a b).symm).symm
theorem sortR_mem {L : List K28.Row} {r : K28.Row} : r ∈ sortR L ↔ r ∈ L := (List.mergeSort_perm L rowLe).mem_iff
theorem sortR_len (L : List K28.Row) : (sortR L).length = L.length := (List.mergeSort_perm L rowLe).length_eq
theorem sortR_sorted (L : List K28.Row) : (sortR L).Pairwise fun a b => K02.lexLt b a = false := by
  have h := List.pairwise_mergeSort (le := rowLe) (fun a b c h1 h2 => by
    unfold rowLe at *
    simp only [Bool.not_eq_true'] at *
    exact K02.lex_le_trans h1 h2) (fun a b => by
    unfold rowLe
    cases h : K02.lexLt b a with
    | false => rfl
    | true => rw [K02.lex_asym h]; rfl) L
  exact h.imp fun {a b} h => by
    unfold rowLe at h
    simpa using h
/-- rows that can be read -/
def RS (K : PySem.W.Frag) (H : Hp) (us : List V) (L : List K28.Row) : Prop := Paired (fun v r => ∃ a, v = V.ref a ∧ SqL K H a (r.map nV)) us L
theorem RS.same {K : PySem.W.Frag} {H H' : Hp} {us : List V} {L : List K28.Row} (h : RS K H us L) (s : Same H H') : RS K H' us L := P_mono (fun _ _ ⟨a, e, q⟩ => ⟨a, e, s.seq q⟩) h
theorem dpall_ints {K : PySem.W.Frag} {H : Hp} : ∀ {r : K28.Row} {vs : List V}, DpAll K H vs ((castL r).map PySem.W.Datum.toD) → vs = r.map nV
  | [], _, h => by cases h; rfl
  | k :: r, _, h => by
    cases h with
    | cons h1 h2 =>
      have e := dpall_ints (r := r) h2
      subst e
      cases h1
      rfl
theorem dp_rows {K : PySem.W.Frag} {H : Hp} : ∀ {L : List K28.Row} {ys : List V}, DpAll K H ys ((L.map castL).map PySem.W.Datum.toD) → RS K H ys L
  | [], _, h => by cases h; exact .nil
  | r :: L, _, h => by
    cases h with
    | cons h1 h2 =>
      have h1' : Dp K H _ (.list ((castL r).map PySem.W.Datum.toD)) := h1
      cases h1' with
      | lst a b => exact .cons ⟨_, rfl, by rw [← dpall_ints b]; exact a⟩ (dp_rows h2)
/-! ### rows apart from two lists -/
def RX (x y : Addr) (H : Hp) (us : List V) (L : List K28.Row) : Prop := Paired (fun v r => ∃ a, v = V.ref a ∧ a ≠ x ∧ a ≠ y ∧ H a = some (.lst (r.map nV))) us L
theorem RX.st {x y : Addr} {H H' : Hp} {us : List V} {L : List K28.Row} (h : RX x y H us L) (s : StN0 H H' x y) : RX x y H' us L := P_mono (fun _ _ ⟨a, e, n, m, q⟩ => ⟨a, e, n, m, s _ _ q n m⟩) h
theorem RX.same {x y : Addr} {H H' : Hp} {us : List V} {L : List K28.Row} (h : RX x y H us L) (s : Same H H') : RX x y H' us L := P_mono (fun _ _ ⟨a, e, n, m, q⟩ => ⟨a, e, n, m, s _ _ q⟩) h
theorem RX.new {x y z : Addr} {H : Hp} {us : List V} {L : List K28.Row} (h : RX x y H us L) (n : H z = none) : RX x z H us L := P_mono (fun _ _ ⟨a, e, n1, _, q⟩ => ⟨a, e, n1, ne_of_none q n, q⟩) h
theorem RX.new2 {x y z : Addr} {H : Hp} {us : List V} {L : List K28.Row} (h : RX x y H us L) (n : H z = none) : RX z z H us L := P_mono (fun _ _ ⟨a, e, n1, _, q⟩ => ⟨a, e, ne_of_none q n, ne_of_none q n, q⟩) h
theorem RX.drop {x y : Addr} {H : Hp} {us : List V} {L : List K28.Row} (h : RX x y H us L) : RX x x H us L := P_mono (fun _ _ ⟨a, e, n1, _, q⟩ => ⟨a, e, n1, n1, q⟩) h
theorem RX.dp {K : PySem.W.Frag} {x y : Addr} {H : Hp} : ∀ {us : List V} {L : List K28.Row}, RX x y H us L → DpAll K H us ((L.map castL).map PySem.W.Datum.toD)
  | _, _, .nil => .nil
  | _, _, .cons ⟨a, e, _, _, q⟩ r => by
    subst e
    exact .cons (dp_list (SqL.of q)) (RX.dp r)
theorem rows_len {aft : Nat → List Nat} {m : Nat} (hm : m ≤ 8) (ha : ∀ v, (∀ k ∈ aft v, k < m) ∧ (aft v).Nodup) : ∀ s, (rows aft m s).length ≤ 2 * 7 ^ s
  | 0 => Nat.zero_le _
  | s + 1 => by
    have ih := rows_len hm ha s
    have l := lay_len hm ha s
    rw [rows_succ, List.length_append, Nat.pow_succ]
    omega
theorem lay_len7 {aft : Nat → List Nat} {m : Nat} (hm : m ≤ 8) (ha : ∀ v, (∀ k ∈ aft v, k < m) ∧ (aft v).Nodup) (s : Nat) : (lay aft m s).length ≤ 8 * 7 ^ 7 := by
  by_cases c : s ≤ 7
  · exact Nat.le_trans (lay_len hm ha s) (Nat.mul_le_mul_left 8 (Nat.pow_le_pow_right (by decide) c))
  · rw [lay_end (fun v => (ha v).1) (by omega)]
    exact Nat.zero_le _
theorem ext_take_len {aft : Nat → List Nat} (L : List K28.Row) (i : Nat) : (ext aft (L.take i)).length ≤ (ext aft L).length := by
  have : ext aft L = ext aft (L.take i) ++ ext aft (L.drop i) := by rw [← ext_app, List.take_append_drop]
  rw [this, List.length_append]
  omega
section
variable {P : Program} {w : World} {K : PySem.W.Frag} {mg : Str → Option Value} {base : Heap} {CN CB CD CT CU fI fJ : Addr}
def sp_all (K : PySem.W.Frag) : Sp := fun vs H Q _ => ∃ (ta pa : Addr) (lg : Int) (tv qv : List V) (T : List P2) (ps : K02.PL), vs = [.ref ta, .ref pa, .int lg] ∧ SqL K H ta tv ∧ PI K H tv T ∧ SqL K H pa qv ∧ PI K H qv (upP ps) ∧ T.length ≤ 8 ∧
  ∀ z us H', Same H H' → H z = none → H' z = some (.lst us) → RS K H' us (sortR ((rows (aftS T.length ps) T.length T.length).filter (fitR T lg))) → Q (.ref z) H'
theorem ok_all {f : Addr} {fd : FuncData} (F : Fun K "_law_all_shifts" "_law_all_shifts" s_law_all_shifts f fd) (T : Txt mg) : FnOk P w K mg base CX0 1 f fd ["times", "pairs", "longest"] (sp_all K) := by
  refine F.ok sc_law_all_shifts (fun vs H Q E h => ?_) (fun cdv A outer s H vs Q E hr h => ?_)
  · obtain ⟨ta, pa, lg, tv, qv, T, ps, rfl, _⟩ := h
    rfl
  · obtain ⟨ta, pa, lg, tv, qv, tm, ps, rfl, hT, hTP, hF, hFP, hm, q⟩ := h
    refine ⟨_, (pss_cons (ps_set (i := 3) sc_law_all_shifts.nd rfl (.inl rfl) (pe_lst pa_nil))
 (pss_cons (ps_for PassesOwn.never rfl (pi_range1 rfl T.range (pa_cons (pe_callB call_len_seq (by rfl) T.len (by decide +kernel) (pa_cons (pv 0) pa_nil)) pa_nil)) (pg_name (i := 4) sc_law_all_shifts.nd rfl (.inr rfl))
 (pss_one (ps_expr (pe_bm PySem.F.plainAttrs_list PySem.F.slot_list_append PySem.F.type_list_append mt_append (pv 3) (pa_cons (pe_lc (own := [("later", 10)]) (g := gName 10) rfl sc_law_all_shifts.nd (pi_range1 rfl T.range (pa_cons (pe_callB call_len_seq (by rfl) T.len (by decide +kernel) (pa_cons (pv 0) pa_nil)) pa_nil)) (blkOk_by (N := ["times", "pairs", "longest", "after", "k", "rows", "found", "size", "longer", "row", "later"]) (sc := defScope s_law_all_shifts) (by decide +kernel)) (fun _ _ _ _ _ => (pg_name (i := 10) sc_law_all_shifts.nd rfl (.inl rfl))) (fun _ _ _ _ _ => pts_one (pt_cmpR (r := rInD K) (op_inD (u65 hr)) (pe_tup (pa_cons (pv 4) (pa_cons (pv 10) pa_nil))) (pv 1) (by rfl))) (fun _ _ _ _ _ => (pv 10))) pa_nil)))))
 (pss_cons (ps_setLc (i := 5) (own := [("k", 4)]) (g := gName 4) (tt := tYes) rfl sc_law_all_shifts.nd rfl rfl (sw_true rfl rfl rfl (by decide +kernel)) (pi_range1 rfl T.range (pa_cons (pe_callB call_len_seq (by rfl) T.len (by decide +kernel) (pa_cons (pv 0) pa_nil)) pa_nil)) (blkOk_by (N := ["times", "pairs", "longest", "after", "k", "rows", "found", "size", "longer", "row", "later"]) (sc := defScope s_law_all_shifts) (by decide +kernel)) (fun _ _ _ _ _ => (pg_name (i := 4) sc_law_all_shifts.nd rfl (.inl rfl))) (fun _ _ _ _ _ => pts_nil) (fun _ _ _ _ _ => (pe_lst (pa_cons (pv 4) pa_nil))))
 (pss_cons (ps_set (i := 6) sc_law_all_shifts.nd rfl (.inl rfl) (pe_lst pa_nil))
 (pss_cons (ps_for PassesOwn.never rfl (pi_range1 rfl T.range (pa_cons (pe_callB call_len_seq (by rfl) T.len (by decide +kernel) (pa_cons (pv 0) pa_nil)) pa_nil)) (pg_name (i := 7) sc_law_all_shifts.nd rfl (.inl rfl))
 (pss_cons (ps_set (i := 8) sc_law_all_shifts.nd rfl (.inl rfl) (pe_lst pa_nil))
 (pss_cons (ps_for PassesOwn.never rfl (pi_list (pv 5)) (pg_name (i := 9) sc_law_all_shifts.nd rfl (.inl rfl))
 (pss_cons (ps_if (pt_cmpR op_le (pe_op op_sub (pe_ix ix_tup (pe_ix ix_list (pv 0) (pe_ix ix_list (pv 9) (pe_un un_neg pe_int) (fun _ _ => rfl)) (fun _ _ => rfl)) pe_int (fun _ _ => rfl)) (pe_ix ix_tup (pe_ix ix_list (pv 0) (pe_ix ix_list (pv 9) pe_int (fun _ _ => rfl)) (fun _ _ => rfl)) pe_int (fun _ _ => rfl))) (pv 2) (nomark _))
 (pss_one (ps_expr (pe_bm PySem.F.plainAttrs_list PySem.F.slot_list_append PySem.F.type_list_append mt_append (pv 6) (pa_cons (pv 9) pa_nil))))
 pss_nil)
 (pss_one (ps_for PassesOwn.never rfl (pi_list (pe_ix ix_list (pv 3) (pe_ix ix_list (pv 9) (pe_un un_neg pe_int) (fun _ _ => rfl)) (fun _ _ => rfl))) (pg_name (i := 10) sc_law_all_shifts.nd rfl (.inl rfl))
 (pss_one (ps_if (pt_cmpR op_notIn_seq (pv 10) (pv 9) (by rfl))
 (pss_one (ps_expr (pe_bm PySem.F.plainAttrs_list PySem.F.slot_list_append PySem.F.type_list_append mt_append (pv 8) (pa_cons (pe_op op_cat (pv 9) (pe_lst (pa_cons (pv 10) pa_nil))) pa_nil))))
 pss_nil))))))
 (pss_one (ps_set (i := 5) sc_law_all_shifts.nd rfl (.inl rfl) (pe_callTy call_list_of (by rfl) T.list (by decide +kernel) (pa_cons (pv 8) pa_nil)))))))
 (pss_one (ps_ret (pe_callB (cr_sortedA (List Int) hr.units (by decide) sortL) (by rfl) T.sorted (by decide +kernel) (pa_cons (pv 6) pa_nil))))))))), ?_⟩
    have htl : tv.length = tm.length := hTP.len
    generalize em : tm.length = m at htl hm q
    -- after
    refine ⟨Nat.zero_le _, fun af naf => ?_⟩
    refine ⟨_, rfl, ta, _, rfl, .inl ((Same.refl H).new naf |>.seq hT), _, rfl, (by omega), (by omega), ?_⟩
    rw [show ((tv.length : Nat) : Int).toNat = m by omega]
    refine for_range (lo := 0) (n := m) (fun k σ H' => ∃ (v4 : Option V) (as : List V), σ = [some (.ref ta), some (.ref pa), some (.int lg), some (.ref af), v4, none, none, none, none, none, none] ∧ Same H H' ∧ H' af = some (.lst as) ∧ RX af af H' as ((List.range k).map (aftS m ps)))
      ⟨none, [], rfl, (Same.refl H).new naf, upd_same, .nil⟩ ?_ ?_
    · rintro k σ H1 hk ⟨v4, as, rfl, s1, eaf, rx⟩
      rw [show (0 : Int) + (k : Int) = (k : Int) by omega]
      refine ⟨_, rfl, .inl ⟨rfl, _, SqL.of eaf⟩, _, rfl, ta, _, rfl, .inl (s1.seq hT), _, rfl, (by omega), (by omega), ?_⟩
      rw [show ((tv.length : Nat) : Int).toNat = m by omega]
      refine fun D nD => ?_
      refine lc_range (lo := 0) (n := m) (fun i H' => Same H1 H' ∧ H' D = some (.lst (((List.range i).filter fun b => decide ((k, b) ∈ ps)).map nV))) ⟨(Same.refl H1).new nD, upd_same⟩ ?_ ?_
      · rintro i H2 hi ⟨s2, eD⟩
        rw [show (0 : Int) + (i : Int) = (i : Int) by omega]
        refine ⟨rfl, _, rfl, _, rfl, sp2, fun t nt => ?_⟩
        have s3 : Same H2 (upd H2 t (.tup [nV k, nV i])) := (Same.refl H2).new nt
        have et : (upd H2 t (.tup [nV k, nV i])) t = some (.tup [nV k, nV i]) := upd_same
        generalize upd H2 t (.tup [nV k, nV i]) = H3 at s3 et ⊢
        have s13 := (s1.trans s2).trans s3
        refine ⟨_, rfl, dP ((k : Int), (i : Int)), (upP ps).map dP, .tup (SqT.of et) (.cons (.int _) (.cons (.int _) .nil)), .lst (s13.seq hF) (PI.same hFP s13).dp, shaped_dP _, shaped_l _, _, rfl, ?_⟩
        rw [any_dP, decide_eq_decide.mpr mem_upP]
        cases c : decide ((k, i) ∈ ps) with
        | true =>
          refine iteT ⟨_, rfl, _, s3 _ _ eD, ?_, (s2.trans s3).mut nD, ?_⟩
          · rw [List.length_map]
            exact szl (Nat.le_trans (List.length_filter_le _ _) (by rw [List.length_range]; omega))
          · rw [upd_same, List.range_succ, List.filter_append, List.map_append]
            simp [c]
        | false =>
          refine iteF ⟨s2.trans s3, ?_⟩
          rw [s3 _ _ eD, List.range_succ, List.filter_append]
          simp [c]
      rintro H2 ⟨s2, eD⟩
      have eaf2 := s2 _ _ eaf
      have Daf : D ≠ af := Ne.symm (ne_of_none eaf nD)
      refine ⟨af, _, _, rfl, rfl, eaf2, ?_, _, as ++ [V.ref D], rfl, (s1.trans s2).mut naf, upd_same, ?_⟩
      · rw [P_len rx, List.length_map, List.length_range]
        exact szl (by omega)
      · rw [List.range_succ, List.map_append]
        refine P_append ((rx.same s2).st ((StN0.refl _ _ _).upA)) (.cons ⟨D, rfl, Daf, Daf, ?_⟩ .nil)
        rw [upd_ne Daf]
        exact eD
    rintro σ H1 ⟨v4, as, rfl, s1, eaf, rxa⟩
    -- rows
    refine ⟨_, rfl, ta, _, rfl, .inl (s1.seq hT), _, rfl, (by omega), (by omega), ?_⟩
    rw [show ((tv.length : Nat) : Int).toNat = m by omega]
    refine fun la0 nla0 => ?_
    refine lc_range (lo := 0) (n := m) (fun k H' => ∃ vs, Same H1 H' ∧ H' la0 = some (.lst vs) ∧ RX la0 la0 H' vs ((List.range k).map fun k => [k])) ⟨[], (Same.refl H1).new nla0, upd_same, .nil⟩ ?_ ?_
    · rintro k H2 hk ⟨vs, s2, ela, rx⟩
      rw [show (0 : Int) + (k : Int) = (k : Int) by omega]
      refine ⟨rfl, _, rfl, (by show 1 ≤ sizeLine; decide), fun x nx => ?_⟩
      have u1 : Same H2 (upd H2 x (.lst [nV k])) := (Same.refl H2).new nx
      have ex : (upd H2 x (.lst [nV k])) x = some (.lst ([k].map nV)) := upd_same
      generalize upd H2 x (.lst [nV k]) = H3 at u1 ex ⊢
      have xla : x ≠ la0 := Ne.symm (ne_of_none ela nx)
      refine ⟨vs, u1 _ _ ela, ?_, vs ++ [V.ref x], (s2.trans u1).mut nla0, upd_same, ?_⟩
      · rw [P_len rx, List.length_map, List.length_range]
        exact szl (by omega)
      · rw [List.range_succ, List.map_append]
        refine P_append ((rx.same u1).st ((StN0.refl _ _ _).upA)) (.cons ⟨x, rfl, xla, xla, ?_⟩ .nil)
        rw [upd_ne xla]
        exact ex
    rintro B ⟨lv0, s2, ela0, rx0⟩
    have sB := s1.trans s2
    have eafB := s2 _ _ eaf
    have rxaB := rxa.same s2
    -- found = []
    refine ⟨Nat.zero_le _, fun fo nfo => ?_⟩
    have b1 : Same B (upd B fo (.lst [])) := (Same.refl B).new nfo
    have efo : (upd B fo (.lst [])) fo = some (.lst []) := upd_same
    have rx1 := (rx0.new2 nfo).same b1
    have lafo : la0 ≠ fo := ne_of_none ela0 nfo
    generalize upd B fo (.lst []) = B1 at b1 efo rx1 ⊢
    have nfoH : H fo = none := sB.free nfo
    generalize eaft : aftS m ps = aft at rxaB q
    have alt : ∀ v, ∀ k ∈ aft v, k < m := by rw [← eaft]; exact aft_lt
    have abo : ∀ v, (∀ k ∈ aft v, k < m) ∧ (aft v).Nodup := by rw [← eaft]; exact aft_both
    refine ⟨_, rfl, ta, _, rfl, .inl ((sB.trans b1).seq hT), _, rfl, (by omega), (by omega), ?_⟩
    rw [show ((tv.length : Nat) : Int).toNat = m by omega]
    refine for_range (lo := 0) (n := m) (fun st σ H' => ∃ (v4 v7 v8 v9 v10 : Option V) (la : Addr) (lv fv : List V), σ = [some (.ref ta), some (.ref pa), some (.int lg), some (.ref af), v4, some (.ref la), some (.ref fo), v7, v8, v9, v10] ∧ Same H H' ∧ Same B H' ∧ la ≠ fo ∧ H' la = some (.lst lv) ∧ RX fo fo H' lv (lay aft m st) ∧ H' fo = some (.lst fv) ∧ RX fo fo H' fv ((rows aft m st).filter (fitR tm lg)))
      ⟨v4, none, none, none, none, la0, lv0, [], rfl, sB.trans b1, b1, lafo, b1 _ _ ela0, rx1, efo, .nil⟩ ?_ ?_
    · rintro st σ HB hst ⟨v4, v7, v8, v9, v10, la, lv, fv, rfl, sH, sBB, lafo, ela, rxl, efo, rxf⟩
      refine ⟨Nat.zero_le _, fun lo nlo => ?_⟩
      have c1 : Same HB (upd HB lo (.lst [])) := (Same.refl HB).new nlo
      have elo : (upd HB lo (.lst [])) lo = some (.lst []) := upd_same
      have lalo : la ≠ lo := ne_of_none ela nlo
      have folo : fo ≠ lo := ne_of_none efo nlo
      have rxl1 := (rxl.new nlo).same c1
      have rxf1 := (rxf.new nlo).same c1
      have nloB : B lo = none := sBB.free nlo
      have nloH : H lo = none := sH.free nlo
      have ela1 := c1 _ _ ela
      have efo1 := c1 _ _ efo
      have sH1 := sH.trans c1
      have sB1 := sBB.trans c1
      generalize upd HB lo (.lst []) = HC at c1 elo rxl1 rxf1 ela1 efo1 sH1 sB1 ⊢
      refine ⟨_, rfl, la, rfl, ⟨_, SqL.of ela1⟩, for_list (K := K) (a := la) (xs := lv) (fun i σ H' => ∃ (v9 v10 : Option V) (gv fv : List V), σ = [some (.ref ta), some (.ref pa), some (.int lg), some (.ref af), v4, some (.ref la), some (.ref fo), some (nV st), some (.ref lo), v9, v10] ∧ Same H H' ∧ Same B H' ∧ StN0 HC H' fo lo ∧ H' lo = some (.lst gv) ∧ RX fo lo H' gv (ext aft ((lay aft m st).take i)) ∧ H' fo = some (.lst fv) ∧ RX fo lo H' fv ((rows aft m st ++ (lay aft m st).take i).filter (fitR tm lg)))
        ⟨v9, v10, [], fv, by rw [show (0 : Int) + (st : Int) = (st : Int) by omega]; rfl, sH1, sB1, StN0.refl _ _ _, elo, .nil, efo1, by rw [List.take_zero, List.append_nil]; exact rxf1⟩ (fun i σ H' _ ⟨_, _, _, _, _, _, _, sn, _⟩ => SqL.of (sn _ _ ela1 lafo lalo)) ?_ ?_⟩
      · rintro i y σ HE hy ⟨v9, v10, gv, fv, rfl, tE, bE, snE, elE, rxg, efE, rxfE⟩
        obtain ⟨r, hr1, x, rfl, xfo, xlo, ex⟩ := P_right rxl1 hy
        have hrm := List.mem_of_getElem? hr1
        have wf := lay_wf alt st r hrm
        have rne := wf.ne
        have hlast : last r < m := wf.lt _ (last_mem rne)
        have hhead : r.headD 0 < m := by
          cases r with
          | nil => exact (rne rfl).elim
          | cons x r => exact wf.lt x List.mem_cons_self
        refine ifLs (Pst := fun H' => ∃ fv', Same H H' ∧ Same B H' ∧ StN0 HC H' fo lo ∧ H' lo = some (.lst gv) ∧ RX fo lo H' gv (ext aft ((lay aft m st).take i)) ∧ H' fo = some (.lst fv') ∧ RX fo lo H' fv' ((rows aft m st ++ (lay aft m st).take (i + 1)).filter (fitR tm lg))) ?_ ?_
        · intro Qb qf qt
          obtain ⟨q1, hq1⟩ := get_lt (l := tm) (i := last r) (by omega)
          obtain ⟨q2, hq2⟩ := get_lt (l := tm) (i := r.headD 0) (by omega)
          obtain ⟨_, hv1, t1, rfl, et1⟩ := P_left hTP hq1
          obtain ⟨_, hv2, t2', rfl, et2⟩ := P_left hTP hq2
          have exE := snE _ _ ex xfo xlo
          refine ⟨_, rfl, _, rfl, _, rfl, ixl (SqL.of exE) (at_last rne) (ixl (tE.seq hT) (at_n hv1) ⟨t1, _, 1, .int q1.2, rfl, rfl, tE.seqT et1, rfl, ?_⟩)⟩
          refine ⟨_, rfl, _, rfl, x, _, 0, nV (r.headD 0), rfl, rfl, SqL.of exE, at_n (j := 0) (at_head rne), ixl (tE.seq hT) (at_n hv2) ⟨t2', _, 0, .int q2.1, rfl, rfl, tE.seqT et2, rfl, _, _, rfl, rfl, _, rfl, _, _, rfl, rfl, _, rfl, ?_⟩⟩
          have efit : fitR tm lg r = decide (q1.2 - q2.1 ≤ lg) := by
            unfold fitR
            rw [List.getD_eq_getElem?_getD, List.getD_eq_getElem?_getD, hq1, hq2]
            rfl
          rw [← efit]
          have tk1 : (lay aft m st).take (i + 1) = (lay aft m st).take i ++ [r] := take_more hr1
          cases c : fitR tm lg r with
          | false =>
            refine qf HE ⟨fv, tE, bE, snE, elE, rxg, efE, ?_⟩
            rw [tk1, ← List.append_assoc, List.filter_append, List.filter_cons, c, if_neg Bool.false_ne_true, List.filter_nil, List.append_nil]
            exact rxfE
          | true =>
            refine qt HE fun D' hd => ?_
            refine ⟨_, rfl, .inl ⟨rfl, _, SqL.of efE⟩, _, rfl, fo, _, _, rfl, rfl, efE, ?_, hd _ ⟨fv ++ [.ref x], tE.mut nfoH, bE.mut nfo, snE.upA, ?_, rxg.st ((StN0.refl _ _ _).upA), upd_same, ?_⟩⟩
            · rw [P_len rxfE]
              have h1 := rows_len hm abo (st + 1)
              have h2 : 2 * 7 ^ (st + 1) ≤ 2 * 7 ^ 8 := Nat.mul_le_mul_left 2 (Nat.pow_le_pow_right (by decide) (by omega))
              have h3 : ((rows aft m st ++ (lay aft m st).take i).filter (fitR tm lg)).length ≤ (rows aft m (st + 1)).length := by
                refine Nat.le_trans (List.length_filter_le _ _) ?_
                rw [rows_succ, List.length_append, List.length_append, List.length_take]
                omega
              have h4 : 2 * 7 ^ 8 < sizeLine := by decide
              omega
            · rw [upd_ne (Ne.symm folo)]
              exact elE
            · rw [tk1, ← List.append_assoc, List.filter_append, List.filter_cons, c, if_pos rfl, List.filter_nil]
              refine P_append (rxfE.st ((StN0.refl _ _ _).upA)) (.cons ⟨x, rfl, xfo, xlo, ?_⟩ .nil)
              rw [upd_ne xfo]
              exact exE
        · rintro HF ⟨fv', tF, bF, snF, elF, rxgF, efF, rxfF⟩
          have exF := snF _ _ ex xfo xlo
          obtain ⟨_, hya, ya, rfl, _, _, eya⟩ := P_left rxaB (i := last r) (y := aft (last r)) (by rw [List.getElem?_map, List.getElem?_range hlast]; rfl)
          refine ⟨_, rfl, _, rfl, _, rfl, ixl (SqL.of exF) (at_last rne) (ixl (SqL.of (bF _ _ eafB)) (at_n hya) ⟨ya, rfl, ⟨_, SqL.of (bF _ _ eya)⟩, for_list (K := K) (a := ya) (xs := (aft (last r)).map nV) (fun j σ H' => ∃ (v10 : Option V) (gv : List V), σ = [some (.ref ta), some (.ref pa), some (.int lg), some (.ref af), v4, some (.ref la), some (.ref fo), some (nV st), some (.ref lo), some (.ref x), v10] ∧ Same H H' ∧ Same B H' ∧ StN0 HC H' fo lo ∧ H' lo = some (.lst gv) ∧ RX fo lo H' gv (ext aft ((lay aft m st).take i) ++ part1 aft r j) ∧ H' fo = some (.lst fv') ∧ RX fo lo H' fv' ((rows aft m st ++ (lay aft m st).take (i + 1)).filter (fitR tm lg)))
            ⟨v10, gv, rfl, tF, bF, snF, elF, by unfold part1; rw [List.take_zero, List.filter_nil, List.map_nil, List.append_nil]; exact rxgF, efF, rxfF⟩ (fun j σ H' _ ⟨_, _, _, _, sb, _⟩ => SqL.of (sb _ _ eya)) ?_ ?_⟩)⟩
          · rintro j y2 σ HG hj ⟨v10, gv, rfl, tG, bG, snG, elG, rxgG, efG, rxfG⟩
            obtain ⟨k, hk, rfl⟩ := getn_inv hj
            have exG := snG _ _ ex xfo xlo
            have pm := part1_more hk
            refine ⟨_, rfl, _, rfl, x, _, rfl, .inl (SqL.of exG), rfl, flat_n _, _, rfl, ?_⟩
            rw [in_n]
            cases cr : r.contains k with
            | true =>
              refine iteF ⟨_, gv, rfl, tG, bG, snG, elG, ?_, efG, rxfG⟩
              rw [pm, cr, if_pos rfl, List.append_nil]
              exact rxgG
            | false =>
              rw [cr, if_neg Bool.false_ne_true] at pm
              refine iteT ⟨_, rfl, .inl ⟨rfl, _, SqL.of elG⟩, _, rfl, _, rfl, (by show 1 ≤ sizeLine; decide), fun p np => ?_⟩
              have w1 : Same HG (upd HG p (.lst [nV k])) := (Same.refl HG).new np
              have epp : (upd HG p (.lst [nV k])) p = some (.lst [nV k]) := upd_same
              generalize upd HG p (.lst [nV k]) = HK at w1 epp ⊢
              refine ⟨x, p, _, _, rfl, rfl, w1 _ _ exG, epp, ?_, fun z nz => ?_⟩
              · rw [List.length_map, wf.len]
                exact szle (by show st + 1 + 1 ≤ 10000; omega)
              have w2 : Same HK (upd HK z (.lst (r.map nV ++ [nV k]))) := (Same.refl HK).new nz
              have ezz : (upd HK z (.lst (r.map nV ++ [nV k]))) z = some (.lst ((r ++ [k]).map nV)) := by rw [upd_same, List.map_append]; rfl
              have zlo : z ≠ lo := fun e => by rw [e, w1 _ _ elG] at nz; cases nz
              have zfo : z ≠ fo := fun e => by rw [e, w1 _ _ efG] at nz; cases nz
              generalize upd HK z (.lst (r.map nV ++ [nV k])) = HL at w2 ezz ⊢
              have w12 := w1.trans w2
              refine ⟨lo, _, _, rfl, rfl, w12 _ _ elG, ?_, _, gv ++ [.ref z], rfl, (tG.trans w12).mut nloH, (bG.trans w12).mut nloB, (snG.to w12).upB, upd_same, ?_, ?_, (rxfG.same w12).st ((StN0.refl _ _ _).upB)⟩
              · rw [P_len rxgG]
                have h1 := lay_len7 hm abo (st + 1)
                have h2 := ext_take_len (aft := aft) (lay aft m st) (i + 1)
                have h3 : (part1 aft r j).length ≤ (ext1 aft r).length := by
                  unfold part1 ext1
                  rw [List.length_map, List.length_map]
                  exact (List.Sublist.filter _ (List.take_sublist _ _)).length_le
                have h4 : ext aft ((lay aft m st).take (i + 1)) = ext aft ((lay aft m st).take i) ++ ext1 aft r := by
                  rw [take_more hr1, ext_app]
                  congr 1
                  unfold ext
                  simp
                have h5 : (ext aft (lay aft m st)).length = (lay aft m (st + 1)).length := rfl
                rw [h4] at h2
                rw [List.length_append] at h2 ⊢
                have h6 : 8 * 7 ^ 7 < sizeLine := by decide
                omega
              · rw [pm, ← List.append_assoc]
                refine P_append ((rxgG.same w12).st ((StN0.refl _ _ _).upB)) (.cons ⟨z, rfl, zfo, zlo, ?_⟩ .nil)
                rw [upd_ne zlo]
                exact ezz
              · rw [upd_ne folo]
                exact w12 _ _ efG
          · rintro σ HG ⟨v10, gv, rfl, tG, bG, snG, elG, rxgG, efG, rxfG⟩
            refine ⟨_, _, gv, fv', rfl, tG, bG, snG, elG, ?_, efG, rxfG⟩
            rw [List.length_map, part1_all] at rxgG
            rw [take_more hr1, ext_app]
            have : ext aft [r] = ext1 aft r := by unfold ext; simp
            rw [this]
            exact rxgG
      · rintro σ HE ⟨v9, v10, gv, fv, rfl, tE, bE, snE, elE, rxg, efE, rxfE⟩
        have hlv : lv.length = (lay aft m st).length := P_len rxl
        rw [hlv, List.take_length] at rxg rxfE
        refine ⟨_, rfl, lo, _, rfl, .inl (SqL.of elE), fun la' nla => ?_⟩
        have w1 : Same HE (upd HE la' (.lst gv)) := (Same.refl HE).new nla
        exact ⟨_, _, _, _, _, la', gv, fv, rfl, tE.trans w1, bE.trans w1, Ne.symm (ne_of_none efE nla), upd_same, (rxg.drop).same w1, w1 _ _ efE, by rw [rows_succ]; exact (rxfE.drop).same w1⟩
    · rintro σ HB ⟨v4, v7, v8, v9, v10, la, lv, fv, rfl, sH, sBB, lafo, ela, rxl, efo, rxf⟩
      refine ⟨_, rfl, fo, fv, ((rows aft m m).filter (fitR tm lg)).map castL, rfl, SqL.of efo, rxf.dp, fun ys p dy _ np => ?_⟩
      rw [sort_cast] at dy
      exact q p ys _ (sH.new np) (sH.free np) upd_same ((dp_rows dy).same ((Same.refl HB).new np))
end
end K28W

namespace K28W
open PySem PySem.Spec PyProof.Rows L2 KH K28 KD
abbrev s_law_due : Stmt := topS 25
theorem sc_law_due : FnScope ["times", "pairs", "longest", "k", "rows", "lots", "parts", "numbers", "lot", "chosen", "left", "size", "least", "row", "span", "part"] ["times", "pairs", "longest"] (defScope s_law_due) := ⟨rfl, rfl, rfl, by decide +kernel, rfl, by decide +kernel, by decide +kernel⟩

/-- what is due, in a heap -/
inductive DueAt (K : PySem.W.Frag) (H : Hp) (aft : Nat → List Nat) (T : List P2) (lg : Int) (r : Addr) : Prop
  | long (k : Nat) : LongAt T lg k → H r = some (.tup [.str "long", nV k]) → DueAt K H aft T lg r
  | shifts (z x : Addr) (us : List V) (rs : List K28.Row) (v : List Nat) : Short T lg → H r = some (.tup [.str "shifts", .ref z, .ref x]) → H z = some (.lst us) → RS K H us rs → H x = some (.lst (v.map nV)) → Res aft T lg v rs → DueAt K H aft T lg r
theorem DueAt.same {K : PySem.W.Frag} {H H' : Hp} {aft : Nat → List Nat} {T : List P2} {lg : Int} {r : Addr} (h : DueAt K H aft T lg r) (s : Same H H') : DueAt K H' aft T lg r := by
  cases h with
  | long k a b => exact .long k a (s _ _ b)
  | shifts z x us rs v a b c d e f => exact .shifts z x us rs v a (s _ _ b) (s _ _ c) (d.same s) (s _ _ e) f
/-! ### lots by their least piece -/
def rmin (r : K28.Row) : Nat := lsb (lotN r)
def partsOf (L : List K28.Row) (j : Nat) : List Nat := (L.filter fun r => rmin r == j).map lotN
theorem partsOf_snoc (L : List K28.Row) (r : K28.Row) (j : Nat) : partsOf (L ++ [r]) j = partsOf L j ++ (if rmin r = j then [lotN r] else []) := by
  unfold partsOf
  rw [List.filter_append, List.map_append]
  congr 1
  by_cases e : rmin r = j <;> simp [List.filter_cons, e]
theorem parts_step {m : Nat} (L : List K28.Row) (r : K28.Row) : ((List.range m).map (partsOf L)).set (rmin r) (partsOf L (rmin r) ++ [lotN r]) = (List.range m).map (partsOf (L ++ [r])) := by
  apply List.ext_getElem?
  intro i
  rw [List.getElem?_set]
  by_cases e : rmin r = i
  · rw [if_pos e]
    by_cases c : i < m
    · rw [if_pos (by rw [List.length_map, List.length_range]; omega), List.getElem?_map, List.getElem?_range c, ← e]
      simp only [Option.map_some, partsOf_snoc, if_true]
    · rw [if_neg (by rw [List.length_map, List.length_range]; omega), List.getElem?_eq_none (by rw [List.length_map, List.length_range]; omega)]
  · rw [if_neg e, List.getElem?_map, List.getElem?_map]
    by_cases c : i < m
    · rw [List.getElem?_range c]
      simp only [Option.map_some, partsOf_snoc, if_neg e, List.append_nil]
    · rw [List.getElem?_eq_none (by rw [List.length_range]; omega)]
      rfl
theorem mem_parts {L : List K28.Row} {p j : Nat} : p ∈ partsOf L j ↔ ∃ r ∈ L, rmin r = j ∧ lotN r = p := by
  unfold partsOf
  rw [List.mem_map]
  constructor
  · rintro ⟨r, h, e⟩
    rw [List.mem_filter, beq_iff_eq] at h
    exact ⟨r, h.1, h.2, e⟩
  · rintro ⟨r, a, b, e⟩
    exact ⟨r, List.mem_filter.mpr ⟨a, by rw [beq_iff_eq]; exact b⟩, e⟩
theorem parts_len (L : List K28.Row) (j : Nat) : (partsOf L j).length ≤ L.length := by
  unfold partsOf
  rw [List.length_map]
  exact List.length_filter_le _ _
theorem cast_min {r : K28.Row} {mn : Int} (h8 : ∀ k ∈ r, k < 8) (hm : mn ∈ castL r) (hle : ∀ y ∈ castL r, mn ≤ y) : mn = (rmin r : Int) := by
  obtain ⟨x, hx, rfl⟩ := List.mem_map.mp hm
  unfold rmin
  rw [lsb_min hx h8 fun y hy => by
    have := hle (y : Int) (List.mem_map.mpr ⟨y, hy, rfl⟩)
    omega]
theorem cnt_full : ∀ m, m < 9 → K28.cnt (2 ^ m - 1) ≤ m := by decide +kernel
theorem cnt_zero : ∀ l, l < 256 → K28.cnt l = 0 → l = 0 := by decide +kernel
section
variable {P : Program} {w : World} {K : PySem.W.Frag} {mg : Str → Option Value} {base : Heap} {CN CB CD CT CU fI fJ : Addr}
def sp_due (K : PySem.W.Frag) : Sp := fun vs H Q _ => ∃ (ta pa : Addr) (lg : Int) (tv qv : List V) (T : List P2) (ps : K02.PL), vs = [.ref ta, .ref pa, .int lg] ∧ SqL K H ta tv ∧ PI K H tv T ∧ SqL K H pa qv ∧ PI K H qv (upP ps) ∧ T.length ≤ 8 ∧
  ∀ r H', Same H H' → H r = none → DueAt K H' (aftS T.length ps) T lg r → Q (.ref r) H'
theorem ok_due {f f1 f2 f3 : Addr} {fd fd1 fd2 fd3 : FuncData} (F : Fun K "_law_due" "_law_due" s_law_due f fd) (T : Txt mg) (C_law_all_shifts : Cal P w K mg base 1 "_law_all_shifts" ["times", "pairs", "longest"] (sp_all K) f1 fd1) (C_law_lot : Cal P w K mg base 1 "_law_lot" ["row"] (sp_lot K) f2 fd2)
    (C_law_least : Cal P w K mg base 1 "_law_least" ["lot"] sp_least f3 fd3) : FnOk P w K mg base CX0 2 f fd ["times", "pairs", "longest"] (sp_due K) := by
  refine F.ok sc_law_due (fun vs H Q E h => ?_) (fun cdv A outer s H vs Q E hr h => ?_)
  · obtain ⟨ta, pa, lg, tv, qv, T, ps, rfl, _⟩ := h
    rfl
  · obtain ⟨ta, pa, lg, tv, qv, tm, ps, rfl, hT, hTP, hF, hFP, hm, q⟩ := h
    refine ⟨_, (pss_cons (ps_for PassesOwn.never rfl (pi_range1 rfl T.range (pa_cons (pe_callB call_len_seq (by rfl) T.len (by decide +kernel) (pa_cons (pv 0) pa_nil)) pa_nil)) (pg_name (i := 3) sc_law_due.nd rfl (.inl rfl))
 (pss_one (ps_if (pt_cmpR op_gt (pe_op op_sub (pe_ix ix_tup (pe_ix ix_list (pv 0) (pv 3) (fun _ _ => rfl)) pe_int (fun _ _ => rfl)) (pe_ix ix_tup (pe_ix ix_list (pv 0) (pv 3) (fun _ _ => rfl)) pe_int (fun _ _ => rfl))) (pv 2) (nomark _))
 (pss_one (ps_ret (pe_tup (pa_cons pe_str (pa_cons (pv 3) pa_nil)))))
 pss_nil)))
 (pss_cons (ps_set (i := 4) sc_law_due.nd rfl (.inl rfl) (pe_call C_law_all_shifts.ok (hr.mono (by decide)) (by rfl) C_law_all_shifts.mg C_law_all_shifts.kp C_law_all_shifts.b .nil pass0 (pa_cons (pv 0) (pa_cons (pv 1) (pa_cons (pv 2) pa_nil)))))
 (pss_cons (ps_setLc (i := 5) (own := [("row", 13)]) (g := gName 13) (tt := tYes) rfl sc_law_due.nd rfl rfl (sw_true rfl rfl rfl (by decide +kernel)) (pi_list (pv 4)) (blkOk_by (N := ["times", "pairs", "longest", "k", "rows", "lots", "parts", "numbers", "lot", "chosen", "left", "size", "least", "row", "span", "part"]) (sc := defScope s_law_due) (by decide +kernel)) (fun _ _ _ _ _ => (pg_name (i := 13) sc_law_due.nd rfl (.inl rfl))) (fun _ _ _ _ _ => pts_nil) (fun _ _ _ _ _ => (pe_call C_law_lot.ok (hr.mono (by decide)) (by rfl) C_law_lot.mg C_law_lot.kp C_law_lot.b .nil pass0 (pa_cons (pv 13) pa_nil))))
 (pss_cons (ps_setLc (i := 6) (own := [("span", 14)]) (g := gName 14) (tt := tYes) rfl sc_law_due.nd rfl rfl (sw_true rfl rfl rfl (by decide +kernel)) (pi_list (pv 0)) (blkOk_by (N := ["times", "pairs", "longest", "k", "rows", "lots", "parts", "numbers", "lot", "chosen", "left", "size", "least", "row", "span", "part"]) (sc := defScope s_law_due) (by decide +kernel)) (fun _ _ _ _ _ => (pg_name (i := 14) sc_law_due.nd rfl (.inl rfl))) (fun _ _ _ _ _ => pts_nil) (fun _ _ _ _ _ => (pe_lst pa_nil)))
 (pss_cons (ps_for PassesOwn.never rfl (pi_range1 rfl T.range (pa_cons (pe_callB call_len_seq (by rfl) T.len (by decide +kernel) (pa_cons (pv 4) pa_nil)) pa_nil)) (pg_name (i := 3) sc_law_due.nd rfl (.inl rfl))
 (pss_one (ps_expr (pe_bm PySem.F.plainAttrs_list PySem.F.slot_list_append PySem.F.type_list_append mt_append (pe_ix ix_list (pv 6) (pe_callB (cr_min rfl) (by rfl) T.min (by decide +kernel) (pa_cons (pe_ix ix_list (pv 4) (pv 3) (fun _ _ => rfl)) pa_nil)) (fun _ _ => rfl)) (pa_cons (pe_ix ix_list (pv 5) (pv 3) (fun _ _ => rfl)) pa_nil)))))
 (pss_cons (ps_set (i := 7) sc_law_due.nd rfl (.inr rfl) (pe_lst (pa_cons pe_int pa_nil)))
 (pss_cons (ps_for PassesOwn.never rfl (pi_range2 rfl T.range (pa_cons pe_int (pa_cons (pe_op op_shl pe_int (pe_callB call_len_seq (by rfl) T.len (by decide +kernel) (pa_cons (pv 0) pa_nil))) pa_nil))) (pg_name (i := 8) sc_law_due.nd rfl (.inr rfl))
 (pss_one (ps_expr (pe_bm PySem.F.plainAttrs_list PySem.F.slot_list_append PySem.F.type_list_append mt_append (pv 7) (pa_cons (pe_op op_add pe_int (pe_callB (cr_min rfl) (by rfl) T.min (by decide +kernel) (pa_cons (pe_lc (own := [("part", 15)]) (g := gName 15) rfl sc_law_due.nd (pi_list (pe_ix ix_list (pv 6) (pe_call C_law_least.ok (hr.mono (by decide)) (by rfl) C_law_least.mg C_law_least.kp C_law_least.b .nil pass0 (pa_cons (pv 8) pa_nil)) (fun _ _ => rfl))) (blkOk_by (N := ["times", "pairs", "longest", "k", "rows", "lots", "parts", "numbers", "lot", "chosen", "left", "size", "least", "row", "span", "part"]) (sc := defScope s_law_due) (by decide +kernel)) (fun _ _ _ _ _ => (pg_name (i := 15) sc_law_due.nd rfl (.inl rfl))) (fun _ _ _ _ _ => pts_one (pt_cmpR op_eq (pe_op op_and (pv 15) (pv 8)) (pv 15) (nomark _))) (fun _ _ _ _ _ => (pe_ix (r := rIxL K) ix_list (pv 7) (pe_op op_sub (pv 8) (pv 15)) (fun _ _ => rfl)))) pa_nil))) pa_nil)))))
 (pss_cons (ps_set (i := 9) sc_law_due.nd rfl (.inl rfl) (pe_lst pa_nil))
 (pss_cons (ps_set (i := 10) sc_law_due.nd rfl (.inl rfl) (pe_op op_sub (pe_callB call_len_seq (by rfl) T.len (by decide +kernel) (pa_cons (pv 7) pa_nil)) pe_int))
 (pss_cons (ps_for PassesOwn.never rfl (pi_range1 rfl T.range (pa_cons (pe_callB call_len_seq (by rfl) T.len (by decide +kernel) (pa_cons (pv 0) pa_nil)) pa_nil)) (pg_name (i := 11) sc_law_due.nd rfl (.inl rfl))
 (pss_cons (ps_set (i := 12) sc_law_due.nd rfl (.inl rfl) (pe_call C_law_least.ok (hr.mono (by decide)) (by rfl) C_law_least.mg C_law_least.kp C_law_least.b .nil pass0 (pa_cons (pv 10) pa_nil)))
 (pss_one (ps_for PassesOwn.never rfl (pi_range1 rfl T.range (pa_cons (pe_callB call_len_seq (by rfl) T.len (by decide +kernel) (pa_cons (pv 4) pa_nil)) pa_nil)) (pg_name (i := 3) sc_law_due.nd rfl (.inl rfl))
 (pss_one (ps_if (PW.pt (pw_and (pt_cmpR op_gt (pv 10) pe_int (nomark _)) (pw_and (pt_cmpR op_eq (pe_callB (cr_min rfl) (by rfl) T.min (by decide +kernel) (pa_cons (pe_ix ix_list (pv 4) (pv 3) (fun _ _ => rfl)) pa_nil)) (pv 12) (nomark _)) (pw_and1 (pt_cmpR op_eq (pe_op op_and (pe_ix ix_list (pv 5) (pv 3) (fun _ _ => rfl)) (pv 10)) (pe_ix ix_list (pv 5) (pv 3) (fun _ _ => rfl)) (nomark _))))))
 (pss_one (ps_if (pt_cmpR op_eq (pe_ix ix_list (pv 7) (pe_op op_sub (pv 10) (pe_ix ix_list (pv 5) (pv 3) (fun _ _ => rfl))) (fun _ _ => rfl)) (pe_op op_sub (pe_ix ix_list (pv 7) (pv 10) (fun _ _ => rfl)) pe_int) (nomark _))
 (pss_cons (ps_expr (pe_bm PySem.F.plainAttrs_list PySem.F.slot_list_append PySem.F.type_list_append mt_append (pv 9) (pa_cons (pe_ix ix_list (pv 4) (pv 3) (fun _ _ => rfl)) pa_nil)))
 (pss_cons (ps_set (i := 10) sc_law_due.nd rfl (.inl rfl) (pe_op op_sub (pv 10) (pe_ix ix_list (pv 5) (pv 3) (fun _ _ => rfl))))
 (pss_one ps_break)))
 pss_nil))
 pss_nil))))))
 (pss_one (ps_ret (pe_tup (pa_cons pe_str (pa_cons (pv 9) (pa_cons (pv 7) pa_nil)))))))))))))))), ?_⟩
    have htl : tv.length = tm.length := hTP.len
    -- 'long'
    refine ⟨_, rfl, ta, tv, rfl, .inl hT, _, rfl, (by omega), (by omega), ?_⟩
    rw [show ((tv.length : Nat) : Int).toNat = tm.length by omega]
    refine for_range (lo := 0) (n := tm.length) (fun i σ H' => ∃ (v3 : Option V), σ = [some (.ref ta), some (.ref pa), some (.int lg), v3, none, none, none, none, none, none, none, none, none, none, none, none] ∧ H' = H ∧ ∀ (j : Nat) (y : P2), j < i → tm[j]? = some y → y.2 - y.1 ≤ lg)
      ⟨none, rfl, rfl, fun j y h => absurd h (Nat.not_lt_zero j)⟩ ?_ ?_
    · rintro i σ H0 hi ⟨v3, rfl, rfl, fine⟩
      rw [show (0 : Int) + (i : Int) = (i : Int) by omega]
      obtain ⟨y, hy⟩ := get_lt hi
      obtain ⟨_, hv, t, rfl, et⟩ := P_left hTP hy
      refine ⟨_, rfl, _, rfl, ixl hT (at_n hv) ⟨t, _, 1, .int y.2, rfl, rfl, et, rfl, ?_⟩⟩
      refine ⟨_, rfl, _, rfl, ixl hT (at_n hv) ⟨t, _, 0, .int y.1, rfl, rfl, et, rfl, _, _, rfl, rfl, _, rfl, _, _, rfl, rfl, _, rfl, ite2 (fun c => ?_) (fun c => ?_)⟩⟩
      · have c' := of_decide_eq_true c
        refine ⟨_, rfl, (by show 2 ≤ sizeLine; decide), fun r nr => q r _ ((Same.refl H0).new nr) nr (.long i ⟨y, hy, c', fine⟩ upd_same)⟩
      · have c' := of_decide_eq_false (Bool.eq_false_iff.mpr c)
        refine ⟨_, rfl, rfl, fun j z hj hz => ?_⟩
        by_cases e : j = i
        · subst e
          rw [hy] at hz
          cases hz
          omega
        · exact fine j z (by omega) hz
    rintro σ H0 ⟨v3, rfl, rfl, fine⟩
    have sh : Short tm lg := fun j y hj => fine j y (lt_get hj) hj
    -- rows
    refine ⟨_, rfl, _, rfl, _, rfl, ta, pa, lg, tv, qv, tm, ps, rfl, hT, hTP, hF, hFP, hm, fun z0 us H1 s1 nz0 ez0 rs0 => ?_⟩
    have al : ∀ v, ∀ k ∈ aftS tm.length ps v, k < tm.length := aft_lt
    have abo : ∀ v, (∀ k ∈ aftS tm.length ps v, k < tm.length) ∧ (aftS tm.length ps v).Nodup := aft_both
    generalize aftS tm.length ps = aft at q rs0 al abo
    have hSR : ∀ r, r ∈ sortR ((rows aft tm.length tm.length).filter (fitR tm lg)) ↔ r ∈ rows aft tm.length tm.length ∧ fitR tm lg r = true := fun r => by rw [sortR_mem, List.mem_filter]
    have srt := sortR_sorted ((rows aft tm.length tm.length).filter (fitR tm lg))
    have srl : (sortR ((rows aft tm.length tm.length).filter (fitR tm lg))).length ≤ 2 * 7 ^ 8 := by
      rw [sortR_len]
      refine Nat.le_trans (List.length_filter_le _ _) (Nat.le_trans (rows_len hm abo _) (Nat.mul_le_mul_left 2 (Nat.pow_le_pow_right (by decide) hm)))
    generalize sortR ((rows aft tm.length tm.length).filter (fitR tm lg)) = SR at rs0 hSR srt srl
    have e78 : 2 * 7 ^ 8 = 11529602 := by decide
    rw [e78] at srl
    have zs78 : 11529602 + 1 < sizeLine := by decide
    have wf : ∀ r ∈ SR, r ≠ [] ∧ r.Nodup ∧ (∀ k ∈ r, k < tm.length) ∧ ∀ k ∈ r, k < 8 := fun r hr => by
      obtain ⟨i, _, w⟩ := rows_wf al ((hSR r).mp hr).1
      exact ⟨w.ne, w.nd, w.lt, fun k hk => by have := w.lt k hk; omega⟩
    have hul : us.length = SR.length := P_len rs0
    -- lots
    refine ⟨_, rfl, z0, rfl, ⟨_, SqL.of ez0⟩, fun lo nlo => ?_⟩
    refine lc_list (K := K) (a := z0) (xs := us) (fun i H' => Same H1 H' ∧ H' lo = some (.lst (((SR.take i).map lotN).map nV))) ⟨(Same.refl H1).new nlo, upd_same⟩ (fun i H' _ ⟨sm, _⟩ => SqL.of (sm _ _ ez0)) ?_ ?_
    · rintro i x H2 hx ⟨s2, elo⟩
      obtain ⟨r, hr1, a, rfl, er⟩ := P_right rs0 hx
      obtain ⟨_, wnd, _, w8⟩ := wf r (List.mem_of_getElem? hr1)
      refine ⟨rfl, _, rfl, a, r, rfl, s2.seq er, wnd, w8, _, elo, ?_, s2.mut nlo, ?_⟩
      · rw [List.length_map, List.length_map]
        exact Nat.lt_of_le_of_lt (List.length_take_le' _ _) (by omega)
      · rw [upd_same, map_take_succ _ hr1, List.map_append]
        rfl
    rintro H2 ⟨s2, elo⟩
    rw [hul, List.take_length] at elo
    have s02 := s1.trans s2
    -- parts
    refine ⟨_, rfl, ta, rfl, ⟨_, s02.seq hT⟩, fun pt npt => ?_⟩
    refine lc_list (K := K) (a := ta) (xs := tv) (fun i H' => Same H2 H' ∧ LL H2 H' pt ((List.range i).map (partsOf []))) ⟨(Same.refl H2).new npt, LL.nil npt⟩ (fun i H' _ ⟨sm, _⟩ => sm.seq (s02.seq hT)) ?_ ?_
    · rintro i x H3 hx ⟨s3, ll⟩
      refine ⟨rfl, Nat.zero_le _, fun p np => ?_⟩
      obtain ⟨vs, hv, hvl⟩ := ll.lst
      have hpa : pt ≠ p := ne_of_none hv np
      refine ⟨vs, by rw [upd_ne hpa]; exact hv, ?_, (s3.new np).mut npt, ?_⟩
      · rw [hvl, List.length_map, List.length_range]
        exact szl (by have := lt_get hx; omega)
      · have := ll.snoc s3 np hv []
        rw [List.range_succ, List.map_append]
        exact this
    rintro H3 ⟨s3, ll⟩
    rw [htl] at ll
    have s03 := s02.trans s3
    -- for k in range(len(rows))
    refine ⟨_, rfl, z0, us, rfl, .inl (SqL.of ((s2.trans s3) _ _ ez0)), _, rfl, (by omega), (by omega), ?_⟩
    rw [show ((us.length : Nat) : Int).toNat = SR.length by omega]
    refine for_range (lo := 0) (n := SR.length) (fun i σ H' => ∃ (v3 : Option V), σ = [some (.ref ta), some (.ref pa), some (.int lg), v3, some (.ref z0), some (.ref lo), some (.ref pt), none, none, none, none, none, none, none, none, none] ∧ Same H2 H' ∧ LL H2 H' pt ((List.range tm.length).map (partsOf (SR.take i))))
      ⟨v3, rfl, s3, ll⟩ ?_ ?_
    · rintro i σ H4 hi ⟨v3, rfl, s4, ll⟩
      rw [show (0 : Int) + (i : Int) = (i : Int) by omega]
      obtain ⟨r, hr1⟩ := get_lt hi
      obtain ⟨x, hx, a, rfl, er⟩ := P_left rs0 hr1
      obtain ⟨wne, wnd, wm, w8⟩ := wf r (List.mem_of_getElem? hr1)
      have rlt : rmin r < tm.length := lsb_lt hm (lot_lt wm) (lot_pos wne)
      refine ⟨_, rfl, _, rfl, _, rfl, ixl (SqL.of ((s2.trans s4) _ _ ez0)) (at_n hx) ⟨a, castL r, rfl, by rw [castL_V]; exact (s2.trans s4).seq er, ?_, fun mn hmn hle => ?_⟩⟩
      · unfold castL
        rw [List.length_map]
        exact List.length_pos_iff.mpr wne
      rw [cast_min w8 hmn hle]
      have hat : ((List.range tm.length).map (partsOf (SR.take i)))[rmin r]? = some (partsOf (SR.take i) (rmin r)) := by rw [List.getElem?_map, List.getElem?_range rlt]; rfl
      obtain ⟨vs, x, hv, hvx, hxl, hx0, _⟩ := ll.at hat
      refine ixl (SqL.of hv) (at_n hvx) ⟨.inl ⟨rfl, _, SqL.of hxl⟩, _, rfl, _, rfl, lo, _, _, nV (lotN r), rfl, rfl, SqL.of (s4 _ _ elo), at_n (getn (getn hr1)), x, _, _, rfl, rfl, hxl, ?_, ?_⟩
      · rw [List.length_map]
        exact Nat.lt_of_le_of_lt (Nat.le_trans (parts_len _ _) (List.length_take_le' _ _)) (by omega)
      · refine ⟨_, rfl, s4.mut hx0, ?_⟩
        · have := ll.grow hat hv hvx (partsOf (SR.take i) (rmin r) ++ [lotN r])
          rw [parts_step, ← take_more hr1, List.map_append] at this
          exact this
    rintro σ H4 ⟨v3, rfl, s4, ll⟩
    rw [List.take_length] at ll
    have lr := ll.lr
    have s04 := s02.trans s4
    have ez4 := (s2.trans s4) _ _ ez0
    have elo4 := s4 _ _ elo
    have rs4 := rs0.same (s2.trans s4)
    clear ll s3
    obtain ⟨hp1, hp2⟩ := two_le hm
    have ppos : ∀ p, PtR aft tm lg p → 0 < p ∧ p < 256 := ptR_pos hm al
    have mlp : ∀ n p, p ∈ partsOf SR (lsb n) ↔ PtR aft tm lg p ∧ lsb p = lsb n := fun n p => by
      rw [mem_parts]
      constructor
      · rintro ⟨r, h1, h2, rfl⟩
        exact ⟨⟨r, ((hSR r).mp h1).1, ((hSR r).mp h1).2, rfl⟩, h2⟩
      · rintro ⟨⟨r, h1, h2, rfl⟩, h3⟩
        exact ⟨r, (hSR r).mpr ⟨h1, h2⟩, h3, rfl⟩
    -- numbers
    refine ⟨(by show 1 ≤ sizeLine; decide), fun nu nnu => ?_⟩
    have u1 : Same H4 (upd H4 nu (.lst [nV 0])) := (Same.refl H4).new nnu
    have enu : (upd H4 nu (.lst [nV 0])) nu = some (.lst ([0].map nV)) := upd_same
    generalize upd H4 nu (.lst [nV 0]) = H5 at u1 enu ⊢
    refine ⟨_, rfl, ta, tv, rfl, .inl ((s04.trans u1).seq hT), _, _, rfl, rfl, ⟨by first | decide | omega, by first | decide | omega, by first | decide | omega⟩, ?_⟩
    refine ⟨1, ((2 ^ tm.length : Nat) : Int), by rw [← shl1, htl], ⟨by omega, by omega, by omega, by omega⟩, ?_⟩
    rw [show (((2 ^ tm.length : Nat) : Int) - 1).toNat = 2 ^ tm.length - 1 by omega]
    refine for_range (lo := 1) (n := 2 ^ tm.length - 1) (fun i σ H' => ∃ (v : List Nat) (v8 : Option V), σ = [some (.ref ta), some (.ref pa), some (.int lg), v3, some (.ref z0), some (.ref lo), some (.ref pt), some (.ref nu), v8, none, none, none, none, none, none, none] ∧ Same H4 H' ∧ H' nu = some (.lst (v.map nV)) ∧ Vl (PtR aft tm lg) (i + 1) v)
      ⟨[0], none, rfl, u1, enu, Vl.start _⟩ ?_ ?_
    · rintro i σ H6 hi ⟨v, v8, rfl, s6, ev, hv⟩
      rw [show (1 : Int) + (i : Int) = ((i + 1 : Nat) : Int) by omega]
      generalize en : i + 1 = n at hv ⊢
      have hn : n < 2 ^ tm.length := by omega
      have n0 : 0 < n := by omega
      have n256 : n < 256 := by omega
      have nlt : lsb n < tm.length := lsb_lt hm hn n0
      have one : PtR aft tm lg (2 ^ lsb n) := one_mem sh _ nlt
      have ml := mlp n
      obtain ⟨vs, y, hvs, hvy, ey⟩ := lr.at (i := lsb n) (l := partsOf SR (lsb n)) (by rw [List.getElem?_map, List.getElem?_range nlt]; rfl)
      have ll := parts_len SR (lsb n)
      generalize partsOf SR (lsb n) = l at ml ey ll
      have hvs6 := s6 _ _ hvs
      have ey6 := s6 _ _ ey
      refine ⟨_, rfl, .inl ⟨rfl, _, SqL.of ev⟩, ?_⟩
      refine ⟨_, rfl, _, rfl, n, rfl, n256, ?_⟩
      refine ixl (SqL.of hvs6) (at_n hvy) ⟨y, rfl, ⟨_, SqL.of ey6⟩, fun B nB => ?_⟩
      refine lc_list (K := K) (a := y) (xs := l.map nV) (fun k H7 => Same H6 H7 ∧ H7 B = some (.lst ((vals v n (l.take k)).map nV))) ⟨(Same.refl H6).new nB, upd_same⟩ (fun k H7 _ ⟨s7, _⟩ => s7.seq (SqL.of ey6)) ?_ ?_
      · rintro k z H7 hk ⟨s7, eB⟩
        obtain ⟨p, hp, rfl⟩ := getn_inv hk
        have hpk := (ml p).mp (List.mem_of_getElem? hp)
        obtain ⟨p0, p1⟩ := ppos p hpk.1
        refine ⟨rfl, _, rfl, _, rfl, _, _, rfl, rfl, _, rfl, ?_⟩
        dsimp only
        rw [band p n]
        refine ⟨rfl, _, rfl, ?_⟩
        by_cases e : p &&& n = p
        · rw [eqN (α := Nat) e]
          have le := (sub_cnt p p1 n n256 p0 e).1
          refine iteT ⟨_, rfl, _, rfl, _, rfl, _, _, rfl, rfl, ?_⟩
          dsimp only
          rw [show ((n : Nat) : Int) - (p : Int) = ((n - p : Nat) : Int) by omega]
          refine ixl (SqL.of (s7 _ _ ev)) (at_n (getn (getD_at (show n - p < v.length by rw [hv.len]; omega)))) ⟨_, eB, ?_, s7.mut nB, ?_⟩
          · rw [List.length_map]
            exact Nat.lt_of_le_of_lt (Nat.le_trans (vals_len _ _ _) (List.length_take_le' _ _)) (by omega)
          · rw [upd_same, vals_yes hp e, List.map_append]
            rfl
        · rw [neN (α := Nat) e]
          exact iteF ⟨s7, by rw [vals_no hp e]; exact eB⟩
      rintro H7 ⟨s7, eB⟩
      rw [List.length_map, List.take_length] at eB
      refine ⟨B, castL (vals v n l), rfl, by rw [castL_V]; exact SqL.of eB, ?_, fun mn hmn hle => ?_⟩
      · unfold castL
        rw [List.length_map]
        exact vals_pos n256 n0 ml one
      obtain ⟨yv, hyv, rfl⟩ := List.mem_map.mp hmn
      refine ⟨_, _, rfl, rfl, nu, _, _, rfl, rfl, s7 _ _ ev, ?_, v ++ [1 + yv], _, rfl, (s6.trans s7).mut nnu, ?_, ?_⟩
      · rw [List.length_map, hv.len]
        exact szl (by omega)
      · rw [upd_same, List.map_append]
        congr 2
      · exact hv.grow n256 ppos n0 ml hyv fun z hz => by
          have := hle (z : Int) (List.mem_map.mpr ⟨z, hz, rfl⟩)
          omega
    rintro σ H6 ⟨v, v8, rfl, s6, ev, hv⟩
    rw [show 2 ^ tm.length - 1 + 1 = 2 ^ tm.length by omega] at hv
    have hvl : v.length = 2 ^ tm.length := hv.len
    have s06 := s04.trans s6
    have nu0 : H0 nu = none := s04.free nnu
    have elo6 := s6 _ _ elo4
    have ez6 := s6 _ _ ez4
    have rs6 := rs4.same s6
    -- chosen
    refine ⟨Nat.zero_le _, fun ch nch => ?_⟩
    have u7 : Same H6 (upd H6 ch (.lst [])) := (Same.refl H6).new nch
    have ech : (upd H6 ch (.lst [])) ch = some (.lst []) := upd_same
    generalize upd H6 ch (.lst []) = H7 at u7 ech ⊢
    refine ⟨_, rfl, nu, _, rfl, .inl (SqL.of (u7 _ _ ev)), _, _, rfl, rfl, ?_⟩
    refine ⟨_, rfl, ta, tv, rfl, .inl ((s06.trans u7).seq hT), _, rfl, (by omega), (by omega), ?_⟩
    rw [show ((tv.length : Nat) : Int).toNat = tm.length by omega]
    refine for_range (lo := 0) (n := tm.length) (fun i σ H' => ∃ (v3 v11 v12 : Option V) (left : Nat) (cs : List V) (rs : List K28.Row), σ = [some (.ref ta), some (.ref pa), some (.int lg), v3, some (.ref z0), some (.ref lo), some (.ref pt), some (.ref nu), v8, some (.ref ch), some (nV left), v11, v12, none, none, none] ∧ Same H6 H' ∧ H' ch = some (.lst cs) ∧ RS K H6 cs rs ∧
        (∀ t, Pk (rows aft tm.length tm.length) (fitR tm lg) v left t → Pk (rows aft tm.length tm.length) (fitR tm lg) v (2 ^ tm.length - 1) (rs ++ t)) ∧ left < 2 ^ tm.length ∧ K28.cnt left ≤ tm.length - i ∧ rs.length ≤ i)
      ⟨v3, none, none, 2 ^ tm.length - 1, [], [], ?_, u7, ech, .nil, fun t h => h, by omega, cnt_full _ (by omega), Nat.le_refl _⟩ ?_ ?_
    · have : (((v.map nV).length : Nat) : Int) - 1 = ((2 ^ tm.length - 1 : Nat) : Int) := by rw [List.length_map, hvl]; omega
      show [_, _, _, _, _, _, _, _, _, _, some (V.int ((((v.map nV).length : Nat) : Int) - 1)), _, _, _, _, _] = _
      rw [this]
    · rintro i σ H8 hi ⟨v3, v11, v12, left, cs, rs, rfl, s8, ech8, hcs, pk, hlt, hcn, hrl⟩
      have l256 : left < 256 := by omega
      have ev8 := s8 _ _ ev
      refine ⟨_, rfl, left, rfl, l256, ?_⟩
      refine ⟨_, rfl, z0, us, rfl, .inl (SqL.of (s8 _ _ ez6)), _, rfl, (by omega), (by omega), ?_⟩
      rw [show ((us.length : Nat) : Int).toNat = SR.length by omega]
      refine for_range (lo := 0) (n := SR.length) (fun k σ H' => ∃ (v3 : Option V), σ = [some (.ref ta), some (.ref pa), some (.int lg), v3, some (.ref z0), some (.ref lo), some (.ref pt), some (.ref nu), v8, some (.ref ch), some (nV left), some (.int (0 + (i : Int))), some (nV (lsb left)), none, none, none] ∧ H' = H8 ∧ ∀ (j : Nat) (r : K28.Row), j < k → SR[j]? = some r → 0 < left → ¬ K28.Good v left (lotN r))
        ⟨v3, rfl, rfl, fun j r h => absurd h (Nat.not_lt_zero j)⟩ ?_ ?_
      · rintro k σ H9 hk ⟨v3, rfl, rfl, no⟩
        rw [show (0 : Int) + (k : Int) = (k : Int) by omega]
        obtain ⟨r, hr1⟩ := get_lt hk
        obtain ⟨x, hx, a, rfl, er⟩ := P_left rs6 hr1
        have hrm := List.mem_of_getElem? hr1
        obtain ⟨wne, wnd, wm, w8⟩ := wf r hrm
        have next : (0 < left → ¬ K28.Good v left (lotN r)) → ∀ (j : Nat) (r : K28.Row), j < k + 1 → SR[j]? = some r → 0 < left → ¬ K28.Good v left (lotN r) := fun h j r' hj hr' => by
          by_cases e : j = k
          · subst e
            rw [hr1] at hr'
            cases hr'
            exact h
          · exact no j r' (by omega) hr'
        have lot256 : 0 < lotN r ∧ lotN r < 256 := ppos _ ⟨r, ((hSR r).mp hrm).1, ((hSR r).mp hrm).2, rfl⟩
        refine ⟨_, rfl, _, _, rfl, rfl, _, rfl, ?_⟩
        by_cases l0 : 0 < left
        case neg =>
          rw [decide_eq_false (show ¬ (0 : Int) < (left : Int) by omega)]
          exact iteF (iteF ⟨_, rfl, rfl, next fun z => absurd z l0⟩)
        rw [decide_eq_true (show (0 : Int) < (left : Int) by omega)]
        refine iteT ⟨_, rfl, _, rfl, ixl (SqL.of (s8 _ _ ez6)) (at_n hx) ⟨a, castL r, rfl, by rw [castL_V]; exact s8.seq er, ?_, fun mn hmn hle => ?_⟩⟩
        · unfold castL
          rw [List.length_map]
          exact List.length_pos_iff.mpr wne
        rw [cast_min w8 hmn hle]
        refine ⟨_, rfl, rfl, _, rfl, ?_⟩
        by_cases c1 : rmin r = lsb left
        case neg =>
          rw [neN (α := Nat) c1]
          exact iteF (iteF ⟨_, rfl, rfl, next fun _ g => c1 g.1⟩)
        rw [eqN (α := Nat) c1]
        have elot : (((SR.map lotN).map nV))[k]? = some (nV (lotN r)) := getn (getn hr1)
        refine iteT ⟨_, rfl, _, rfl, ixl (SqL.of (s8 _ _ elo6)) (at_n elot) ⟨_, rfl, _, _, rfl, rfl, _, rfl, _, rfl, ixl (SqL.of (s8 _ _ elo6)) (at_n elot) ?_⟩⟩
        dsimp only
        rw [band]
        refine ⟨rfl, _, rfl, ?_⟩
        by_cases c2 : lotN r &&& left = lotN r
        case neg =>
          rw [neN (α := Nat) c2]
          exact iteF ⟨_, rfl, rfl, next fun _ g => c2 g.2.1⟩
        rw [eqN (α := Nat) c2]
        have le := (sub_cnt _ lot256.2 left l256 lot256.1 c2).1
        have lc := (sub_cnt _ lot256.2 left l256 lot256.1 c2).2
        refine iteT ⟨_, rfl, _, rfl, _, rfl, _, rfl, ixl (SqL.of (s8 _ _ elo6)) (at_n elot) ⟨_, _, rfl, rfl, ?_⟩⟩
        dsimp only
        rw [show ((left : Nat) : Int) - (lotN r : Int) = ((left - lotN r : Nat) : Int) by omega]
        refine ixl (SqL.of ev8) (at_n (getn (getD_at (show left - lotN r < v.length by omega)))) ?_
        refine ⟨_, rfl, _, rfl, ixl (SqL.of ev8) (at_n (getn (getD_at (show left < v.length by omega)))) ⟨_, _, rfl, rfl, rfl, _, rfl, ?_⟩⟩
        have eg : decide (nV (v.getD (left - lotN r) 0) = V.int ((v.getD left 0 : Int) - 1)) = goodb v left (lotN r) := by
          unfold goodb
          rw [Bool.eq_iff_iff, decide_eq_true_eq, beq_iff_eq, vint_eq]
          omega
        rw [eg]
        cases c3 : goodb v left (lotN r) with
        | false =>
          exact iteF ⟨_, rfl, rfl, next fun _ g => by rw [((good_iff hv l0 hlt).mp g).2.2] at c3; cases c3⟩
        | true =>
          have good : K28.Good v left (lotN r) := (good_iff hv l0 hlt).mpr ⟨c1, c2, c3⟩
          have bst : Bst (rows aft tm.length tm.length) (fitR tm lg) v left r := by
            refine ⟨((hSR r).mp hrm).1, ((hSR r).mp hrm).2, good, fun r' h1 f1 g1 => ?_⟩
            obtain ⟨j, hj⟩ := List.getElem?_of_mem ((hSR r').mpr ⟨h1, f1⟩)
            rcases Nat.lt_trichotomy j k with l | l | l
            · exact absurd g1 (no j r' l hj l0)
            · subst l
              rw [hr1] at hj
              cases hj
              exact K02.lex_irr r
            · obtain ⟨p1, p2⟩ := List.getElem?_eq_some_iff.mp hr1
              obtain ⟨p3, p4⟩ := List.getElem?_eq_some_iff.mp hj
              have := List.pairwise_iff_getElem.mp srt k j p1 p3 l
              rw [p2, p4] at this
              exact this
          have clen : cs.length = rs.length := P_len hcs
          refine iteT ⟨_, rfl, .inl ⟨rfl, _, SqL.of ech8⟩, _, rfl, _, rfl, ixl (SqL.of (s8 _ _ ez6)) (at_n hx) ⟨ch, _, _, rfl, rfl, ech8, by rw [clen]; exact szl (by omega), ?_⟩⟩
          have s9 : Same H6 (upd H9 ch (.lst (cs ++ [V.ref a]))) := s8.mut nch
          have ech9 : (upd H9 ch (.lst (cs ++ [V.ref a]))) ch = some (.lst (cs ++ [V.ref a])) := upd_same
          generalize upd H9 ch (.lst (cs ++ [V.ref a])) = H10 at s9 ech9 ⊢
          refine ⟨_, rfl, _, rfl, _, rfl, ixl (SqL.of (s9 _ _ elo6)) (at_n elot) ⟨_, _, rfl, rfl, ?_⟩⟩
          refine ⟨some (nV k), some (.int (0 + (i : Int))), some (nV (lsb left)), left - lotN r, cs ++ [V.ref a], rs ++ [r], ?_, s9, ech9, P_append hcs (.cons ⟨a, rfl, er⟩ .nil), fun t ht => ?_, by omega, by omega, by rw [List.length_append, List.length_singleton]; omega⟩
          · rw [show nV (left - lotN r) = V.int ((left : Int) - (lotN r : Int)) by rw [show (left : Int) - (lotN r : Int) = ((left - lotN r : Nat) : Int) by omega]]
            rfl
          · rw [List.append_assoc]
            exact pk _ (.cons l0 bst ht)
      · rintro σ H9 ⟨v3, rfl, rfl, no⟩
        have l0 : left = 0 := by
          refine Classical.byContradiction fun c => ?_
          have l0 : 0 < left := Nat.pos_of_ne_zero c
          obtain ⟨p, ⟨r, h1, h2, rfl⟩, g⟩ := hv.good l0 hlt
          obtain ⟨j, hj⟩ := List.getElem?_of_mem ((hSR r).mpr ⟨h1, h2⟩)
          exact no j r (lt_get hj) hj l0 g
        exact ⟨v3, _, _, left, cs, rs, rfl, s8, ech8, hcs, pk, hlt, by rw [l0, show K28.cnt 0 = 0 by decide]; exact Nat.zero_le _, by omega⟩
    · rintro σ H8 ⟨v3, v11, v12, left, cs, rs, rfl, s8, ech8, hcs, pk, hlt, hcn, hrl⟩
      have l0 : left = 0 := cnt_zero left (by omega) (by omega)
      subst l0
      have pk0 := pk [] .nil
      rw [List.append_nil] at pk0
      refine ⟨_, rfl, _, rfl, (by show 3 ≤ sizeLine; decide), fun r nr => ?_⟩
      have s9 : Same H8 (upd H8 r (.tup [.str "shifts", .ref ch, .ref nu])) := (Same.refl H8).new nr
      have s08 := s06.trans s8
      exact q r _ (s08.trans s9) (s08.free nr) (.shifts ch nu cs rs v sh upd_same (s9 _ _ ech8) (hcs.same (s8.trans s9)) (s9 _ _ (s8 _ _ ev)) ⟨hv, pk0⟩)
end
end K28W

namespace K28W
open PySem PySem.Spec PyProof.Rows L2 KH K28 KD
abbrev s_law_same : Stmt := topS 27
theorem sc_law_same : FnScope ["told", "due", "k"] ["told", "due"] (defScope s_law_same) := ⟨rfl, rfl, rfl, by decide +kernel, rfl, by decide +kernel, by decide +kernel⟩

abbrev s_law_right : Stmt := topS 28
theorem sc_law_right : FnScope ["told", "due", "k"] ["told", "due"] (defScope s_law_right) := ⟨rfl, rfl, rfl, by decide +kernel, rfl, by decide +kernel, by decide +kernel⟩

/-- what is told -/
inductive TellAt (H : Hp) (aft : Nat → List Nat) (T : List P2) (lg : Int) (r : Addr) : Prop
  | long (k : Nat) : LongAt T lg k → H r = some (.tup [.str "long", nV k]) → TellAt H aft T lg r
  | shifts (z x : Addr) (as : List Addr) (rs : List K28.Row) (v : List Nat) : Short T lg → H r = some (.tup [.str "shifts", .ref z, .ref x]) → H z = some (.lst (as.map V.ref)) → RA H as rs → H x = some (.lst (v.map nV)) → Res aft T lg v rs → TellAt H aft T lg r
theorem Told.at {H H' : Hp} {aft : Nat → List Nat} {T : List P2} {lg : Int} {r : Addr} (h : Told H H' aft T lg r) : TellAt H' aft T lg r := by
  cases h with
  | long k a b => exact .long k a b
  | shifts z x as rs v a b _ _ c _ d e f => exact .shifts z x as rs v a b c (P_mono (fun _ _ h => h.2) d) e f
theorem TellAt.same {H H' : Hp} {aft : Nat → List Nat} {T : List P2} {lg : Int} {r : Addr} (h : TellAt H aft T lg r) (s : Same H H') : TellAt H' aft T lg r := by
  cases h with
  | long k a b => exact .long k a (s _ _ b)
  | shifts z x us rs v a b c d e f => exact .shifts z x us rs v a (s _ _ b) (s _ _ c) (d.same s) (s _ _ e) f
theorem pk_len {L : List K28.Row} {fit : K28.Row → Bool} {v : List Nat} (hL : ∀ r ∈ L, 0 < lotN r) {left : Nat} {rs : List K28.Row} (h : Pk L fit v left rs) : rs.length ≤ left ∧ ∀ r ∈ rs, r ∈ L := by
  induction h with
  | nil => exact ⟨Nat.le_refl _, fun r h => by cases h⟩
  | @cons left r rs h0 b _ ih =>
    have := hL r b.mem
    refine ⟨by rw [List.length_cons]; have := ih.1; omega, fun r' h' => ?_⟩
    rcases List.mem_cons.mp h' with e | e
    · rw [e]
      exact b.mem
    · exact ih.2 r' e
theorem Res.size {aft : Nat → List Nat} {T : List P2} {lg : Int} {v : List Nat} {rs : List K28.Row} (h : Res aft T lg v rs) (hm : T.length ≤ 8) (ha : ∀ v, ∀ k ∈ aft v, k < T.length) : rs.length ≤ 256 ∧ v.length ≤ 256 ∧ ∀ r ∈ rs, r.length ≤ 8 := by
  obtain ⟨hp1, hp2⟩ := two_le hm
  have h1 := pk_len (fun r hr => by
    obtain ⟨i, _, w⟩ := rows_wf ha hr
    exact lot_pos w.ne) h.pk
  refine ⟨by have := h1.1; omega, by rw [h.vl.len]; exact hp1, fun r hr => ?_⟩
  obtain ⟨i, _, w⟩ := rows_wf ha (h1.2 r hr)
  exact K02.nodup_len 8 r w.nd fun k hk => by have := w.lt k hk; omega
theorem shapedI (z : Int) : SeqAt.shaped (.int z) = true := by
  unfold SeqAt.shaped
  simp [PyData.canLay0, PyData.depth]
theorem eqvI (z : Int) : PyData.eqv (.int z) (.int z) = true := by simp [PyData.eqv]
section
variable {P : Program} {w : World} {K : PySem.W.Frag} {mg : Str → Option Value} {base : Heap} {CN CB CD CT CU fI fJ : Addr}
def sp_same (K : PySem.W.Frag) : Sp := fun vs H Q _ => ∃ (a b : Addr) (l : List Nat), vs = [.ref a, .ref b] ∧ H a = some (.lst (l.map nV)) ∧ SqL K H b (l.map nV) ∧ l.length ≤ 1000 ∧ Q (.bl true) H
theorem ok_same {f f1 : Addr} {fd fd1 : FuncData} (F : Fun K "_law_same" "_law_same" s_law_same f fd) (T : Txt mg) (C_law_number : Cal P w K mg base 1 "_law_number" ["thing"] sp_number f1 fd1) : FnOk P w K mg base CX0 2 f fd ["told", "due"] (sp_same K) := by
  refine F.ok sc_law_same (fun vs H Q E h => ?_) (fun cdv A outer s H vs Q E hr h => ?_)
  · obtain ⟨a, b, l, rfl, _⟩ := h
    rfl
  · obtain ⟨a, b, l, rfl, hp, hb, hl, q⟩ := h
    refine ⟨_, (pss_cons (ps_if (PW.pt (pw_or (pt_not (pt_val (pe_callB call_isi (by rfl) T.isinstance (by decide +kernel) (pa_cons (pv 0) (pa_cons (pe_bltn (v := .ty "list") (by rfl) T.list (by decide +kernel) rfl) pa_nil))))) (pw_or1 (pt_cmpR op_ne (pe_callB call_len_seq (by rfl) T.len (by decide +kernel) (pa_cons (pv 0) pa_nil)) (pe_callB call_len_seq (by rfl) T.len (by decide +kernel) (pa_cons (pv 1) pa_nil)) (nomark _)))))
 (pss_one (ps_ret pe_bl))
 pss_nil)
 (pss_cons (ps_for PassesOwn.never rfl (pi_range1 rfl T.range (pa_cons (pe_callB call_len_seq (by rfl) T.len (by decide +kernel) (pa_cons (pv 1) pa_nil)) pa_nil)) (pg_name (i := 2) sc_law_same.nd rfl (.inl rfl))
 (pss_one (ps_if (PW.pt (pw_or (pt_not (pt_val (pe_call C_law_number.ok (hr.mono (by decide)) (by rfl) C_law_number.mg C_law_number.kp C_law_number.b .nil pass0 (pa_cons (pe_ix ix_list (pv 0) (pv 2) (fun _ _ => rfl)) pa_nil)))) (pw_or1 (pt_cmpR op_ne (pe_ix ix_list (pv 0) (pv 2) (fun _ _ => rfl)) (pe_ix ix_list (pv 1) (pv 2) (fun _ _ => rfl)) (nomark _)))))
 (pss_one (ps_ret pe_bl))
 pss_nil)))
 (pss_one (ps_ret pe_bl)))), ?_⟩
    refine ⟨_, rfl, _, _, _, _, true, rfl, .ty "list", .base (.lst hp), kit_ty (by decide +kernel), _, rfl, ?_⟩
    refine iteF ⟨_, rfl, a, _, rfl, .inl (SqL.of hp), _, rfl, b, _, rfl, .inl hb, rfl, _, rfl, ?_⟩
    rw [decide_eq_true rfl]
    refine iteF ?_
    refine ⟨_, rfl, b, _, rfl, .inl hb, _, rfl, (by omega), (by rw [List.length_map]; omega), ?_⟩
    rw [show (((l.map nV).length : Nat) : Int).toNat = l.length by rw [List.length_map]; omega]
    refine for_range (lo := 0) (n := l.length) (fun i σ H' => ∃ (v2 : Option V), σ = [some (.ref a), some (.ref b), v2] ∧ H' = H) ⟨_, rfl, rfl⟩ ?_ ?_
    · rintro i σ H' hi ⟨v2, rfl, rfl⟩
      rw [show (0 : Int) + (i : Int) = (i : Int) by omega]
      obtain ⟨x, hx⟩ := get_lt hi
      refine ⟨_, rfl, _, rfl, ixl (SqL.of hp) (at_n (getn hx)) ⟨_, rfl, _, rfl, ?_⟩⟩
      refine iteF ⟨_, rfl, _, rfl, ixl (SqL.of hp) (at_n (getn hx)) ⟨_, rfl, _, rfl, ixl hb (at_n (getn hx)) ⟨rfl, _, rfl, ?_⟩⟩⟩
      rw [decide_eq_true rfl]
      exact iteF ⟨_, rfl, rfl⟩
    · rintro σ H' ⟨v2, rfl, rfl⟩
      exact q
def sp_right (K : PySem.W.Frag) : Sp := fun vs H Q _ => ∃ (t u : Addr) (aft : Nat → List Nat) (T : List P2) (lg : Int), vs = [.ref t, .ref u] ∧ TellAt H aft T lg t ∧ DueAt K H aft T lg u ∧ T.length ≤ 8 ∧ (∀ v, ∀ k ∈ aft v, k < T.length) ∧ ∀ H', Same H H' → Q (.bl true) H'
theorem ok_right {f f1 f2 : Addr} {fd fd1 fd2 : FuncData} (F : Fun K "_law_right" "_law_right" s_law_right f fd) (T : Txt mg) (C_law_number : Cal P w K mg base 1 "_law_number" ["thing"] sp_number f1 fd1) (C_law_same : Cal P w K mg base 2 "_law_same" ["told", "due"] (sp_same K) f2 fd2) : FnOk P w K mg base CX0 3 f fd ["told", "due"] (sp_right K) := by
  refine F.ok sc_law_right (fun vs H Q E h => ?_) (fun cdv A outer s H vs Q E hr h => ?_)
  · obtain ⟨t, u, aft, T, lg, rfl, _⟩ := h
    rfl
  · obtain ⟨t, u, aft, tm, lg, rfl, ht, hu, hm, al, q⟩ := h
    refine ⟨_, (pss_cons (ps_if (PW.pt (pw_or (pt_not (pt_val (pe_callB call_isi (by rfl) T.isinstance (by decide +kernel) (pa_cons (pv 0) (pa_cons (pe_bltn (v := .ty "tuple") (by rfl) T.tuple (by decide +kernel) rfl) pa_nil))))) (pw_or1 (pt_cmpR op_ne (pe_callB call_len_seq (by rfl) T.len (by decide +kernel) (pa_cons (pv 0) pa_nil)) (pe_callB call_len_seq (by rfl) T.len (by decide +kernel) (pa_cons (pv 1) pa_nil)) (nomark _)))))
 (pss_one (ps_ret pe_bl))
 pss_nil)
 (pss_cons (ps_if (PW.pt (pw_or (pt_not (pt_val (pe_callB call_isi (by rfl) T.isinstance (by decide +kernel) (pa_cons (pe_ix ix_tup (pv 0) pe_int (fun _ _ => rfl)) (pa_cons (pe_bltn (v := .ty "str") (by rfl) T.str (by decide +kernel) rfl) pa_nil))))) (pw_or1 (pt_cmpR op_ne (pe_ix ix_tup (pv 0) pe_int (fun _ _ => rfl)) (pe_ix ix_tup (pv 1) pe_int (fun _ _ => rfl)) (nomark _)))))
 (pss_one (ps_ret pe_bl))
 pss_nil)
 (pss_cons (ps_if (pt_cmpR op_eq (pe_ix ix_tup (pv 1) pe_int (fun _ _ => rfl)) pe_str (nomark _))
 (pss_one (ps_ret (pe_and (pe_call C_law_number.ok (hr.mono (by decide)) (by rfl) C_law_number.mg C_law_number.kp C_law_number.b .nil pass0 (pa_cons (pe_ix ix_tup (pv 0) pe_int (fun _ _ => rfl)) pa_nil)) (pe_one (pe_cmpR (op_eqD hr.units) (pe_ix ix_tup (pv 0) pe_int (fun _ _ => rfl)) (pe_ix ix_tup (pv 1) pe_int (fun _ _ => rfl)) (nomark _))))))
 pss_nil)
 (pss_cons (ps_if (PW.pt (pw_or (pt_not (pt_val (pe_callB call_isi (by rfl) T.isinstance (by decide +kernel) (pa_cons (pe_ix ix_tup (pv 0) pe_int (fun _ _ => rfl)) (pa_cons (pe_bltn (v := .ty "list") (by rfl) T.list (by decide +kernel) rfl) pa_nil))))) (pw_or1 (pt_cmpR op_ne (pe_callB call_len_seq (by rfl) T.len (by decide +kernel) (pa_cons (pe_ix ix_tup (pv 0) pe_int (fun _ _ => rfl)) pa_nil)) (pe_callB call_len_seq (by rfl) T.len (by decide +kernel) (pa_cons (pe_ix ix_tup (pv 1) pe_int (fun _ _ => rfl)) pa_nil)) (nomark _)))))
 (pss_one (ps_ret pe_bl))
 pss_nil)
 (pss_cons (ps_for PassesOwn.never rfl (pi_range1 rfl T.range (pa_cons (pe_callB call_len_seq (by rfl) T.len (by decide +kernel) (pa_cons (pe_ix ix_tup (pv 1) pe_int (fun _ _ => rfl)) pa_nil)) pa_nil)) (pg_name (i := 2) sc_law_right.nd rfl (.inl rfl))
 (pss_one (ps_if (pt_not (pt_val (pe_call C_law_same.ok (hr.mono (by decide)) (by rfl) C_law_same.mg C_law_same.kp C_law_same.b .nil pass0 (pa_cons (pe_ix ix_list (pe_ix ix_tup (pv 0) pe_int (fun _ _ => rfl)) (pv 2) (fun _ _ => rfl)) (pa_cons (pe_ix ix_list (pe_ix ix_tup (pv 1) pe_int (fun _ _ => rfl)) (pv 2) (fun _ _ => rfl)) pa_nil)))))
 (pss_one (ps_ret pe_bl))
 pss_nil)))
 (pss_one (ps_ret (pe_call C_law_same.ok (hr.mono (by decide)) (by rfl) C_law_same.mg C_law_same.kp C_law_same.b .nil pass0 (pa_cons (pe_ix ix_tup (pv 0) pe_int (fun _ _ => rfl)) (pa_cons (pe_ix ix_tup (pv 1) pe_int (fun _ _ => rfl)) pa_nil)))))))))), ?_⟩
    cases ht with
    | long k lk et =>
      cases hu with
      | shifts z x us rs v sh _ _ _ _ _ => exact (lk.not sh).elim
      | long k' lk' eu =>
        have ek := lk.uniq lk'
        subst ek
        refine ⟨_, rfl, _, _, _, _, true, rfl, .ty "tuple", .base (.tup et), kit_ty (by decide +kernel), _, rfl, iteF ⟨_, rfl, t, _, rfl, .inr (SqT.of et), _, rfl, u, _, rfl, .inr (SqT.of eu), rfl, _, rfl, ?_⟩⟩
        rw [decide_eq_true rfl]
        refine iteF ⟨_, rfl, t, _, 0, .str "long", rfl, rfl, SqT.of et, rfl, _, _, _, _, true, rfl, .ty "str", .base (.str _), kit_ty (by decide +kernel), _, rfl, iteF ?_⟩
        refine ⟨_, rfl, t, _, 0, .str "long", rfl, rfl, SqT.of et, rfl, _, rfl, u, _, 0, .str "long", rfl, rfl, SqT.of eu, rfl, rfl, _, rfl, ?_⟩
        rw [decide_eq_true rfl]
        refine iteF ⟨_, rfl, u, _, 0, .str "long", rfl, rfl, SqT.of eu, rfl, rfl, _, rfl, ?_⟩
        rw [decide_eq_true rfl]
        refine iteT ⟨_, rfl, t, _, 1, nV k, rfl, rfl, SqT.of et, rfl, _, rfl, _, rfl, iteT ?_⟩
        refine ⟨_, rfl, t, _, 1, nV k, rfl, rfl, SqT.of et, rfl, _, rfl, u, _, 1, nV k, rfl, rfl, SqT.of eu, rfl, .int (k : Int), .int (k : Int), .int (k : Int), .int (k : Int), shapedI _, shapedI _, ?_⟩
        rw [eqvI]
        exact q _ (Same.refl _)
    | shifts z x as rs v sh et ez ra ex res =>
      cases hu with
      | long k lk _ => exact (lk.not sh).elim
      | shifts z' x' us rs' v' _ eu ez' rs0 ex' res' =>
        obtain ⟨ev, er⟩ := res.uniq hm al res'
        subst ev er
        obtain ⟨zl, vl, rl⟩ := res.size hm al
        have al1 : as.length = rs.length := P_len ra
        have ul1 : us.length = rs.length := P_len rs0
        refine ⟨_, rfl, _, _, _, _, true, rfl, .ty "tuple", .base (.tup et), kit_ty (by decide +kernel), _, rfl, iteF ⟨_, rfl, t, _, rfl, .inr (SqT.of et), _, rfl, u, _, rfl, .inr (SqT.of eu), rfl, _, rfl, ?_⟩⟩
        rw [decide_eq_true (show V.int (([.str "shifts", .ref z, .ref x] : List V).length : Int) = V.int (([.str "shifts", .ref z', .ref x'] : List V).length : Int) from rfl)]
        refine iteF ⟨_, rfl, t, _, 0, .str "shifts", rfl, rfl, SqT.of et, rfl, _, _, _, _, true, rfl, .ty "str", .base (.str _), kit_ty (by decide +kernel), _, rfl, iteF ?_⟩
        refine ⟨_, rfl, t, _, 0, .str "shifts", rfl, rfl, SqT.of et, rfl, _, rfl, u, _, 0, .str "shifts", rfl, rfl, SqT.of eu, rfl, rfl, _, rfl, ?_⟩
        rw [decide_eq_true rfl]
        refine iteF ⟨_, rfl, u, _, 0, .str "shifts", rfl, rfl, SqT.of eu, rfl, rfl, _, rfl, ?_⟩
        rw [decide_eq_false (show ¬ V.str "shifts" = V.str "long" by decide)]
        refine iteF ⟨_, rfl, t, _, 1, .ref z, rfl, rfl, SqT.of et, rfl, _, _, _, _, true, rfl, .ty "list", .base (.lst ez), kit_ty (by decide +kernel), _, rfl, iteF ?_⟩
        refine ⟨_, rfl, t, _, 1, .ref z, rfl, rfl, SqT.of et, rfl, z, _, rfl, .inl (SqL.of ez), _, rfl, u, _, 1, .ref z', rfl, rfl, SqT.of eu, rfl, z', _, rfl, .inl (SqL.of ez'), rfl, _, rfl, ?_⟩
        rw [decide_eq_true (show V.int ((as.map V.ref).length : Int) = V.int (us.length : Int) by rw [List.length_map, al1, ul1])]
        refine iteF ?_
        refine ⟨_, rfl, u, _, 1, .ref z', rfl, rfl, SqT.of eu, rfl, z', _, rfl, .inl (SqL.of ez'), _, rfl, (by omega), (by omega), ?_⟩
        rw [show ((us.length : Nat) : Int).toNat = rs.length by omega]
        refine for_range (lo := 0) (n := rs.length) (fun k σ H' => ∃ v2 : Option V, σ = [some (.ref t), some (.ref u), v2] ∧ H' = H) ⟨_, rfl, rfl⟩ ?_ ?_
        · rintro k σ H' hk ⟨v2, rfl, rfl⟩
          rw [show (0 : Int) + (k : Int) = (k : Int) by omega]
          obtain ⟨r, hr1⟩ := get_lt hk
          obtain ⟨a1, h1, e1⟩ := P_left ra hr1
          obtain ⟨_, h2, a2, rfl, e2⟩ := P_left rs0 hr1
          refine ⟨_, rfl, t, _, 1, .ref z, rfl, rfl, SqT.of et, rfl, _, rfl, ixl (SqL.of ez) (at_n (getn h1)) ?_⟩
          refine ⟨_, rfl, u, _, 1, .ref z', rfl, rfl, SqT.of eu, rfl, _, rfl, ixl (SqL.of ez') (at_n h2) ⟨a1, a2, r, rfl, e1, e2, ?_, _, rfl, iteF ⟨_, rfl, rfl⟩⟩⟩
          have := rl r (List.mem_of_getElem? hr1)
          omega
        · rintro σ H' ⟨v2, rfl, rfl⟩
          exact ⟨_, rfl, t, _, 2, .ref x, rfl, rfl, SqT.of et, rfl, _, rfl, u, _, 2, .ref x', rfl, rfl, SqT.of eu, rfl, x, x', v, rfl, ex, SqL.of ex', by omega, q _ (Same.refl _)⟩
end
end K28W

namespace K28W
open PySem PySem.Spec PyProof.Rows L2 KH K28 KD
abbrev s_law_answered : Stmt := topS 29
theorem sc_law_answered : FnScope ["times", "pairs", "longest", "due", "passed_times", "passed", "told", "row", "turned"] ["times", "pairs", "longest", "due"] (defScope s_law_answered) := ⟨rfl, rfl, rfl, by decide +kernel, rfl, by decide +kernel, by decide +kernel⟩

/-! ### pairs as data that is shown -/
def dPs (ts : List P2) : PyData := .list (ts.map dP)
def Mid (z : Int) : Prop := z.natAbs ≤ 10 ^ 16
def MidP (ts : List P2) : Prop := ∀ q ∈ ts, Mid q.1 ∧ Mid q.2
theorem mid_log {z : Int} (h : Mid z) : z.natAbs.log2 < 60 := by
  by_cases e : z.natAbs = 0
  · rw [e]
    decide
  · exact (Nat.log2_lt e).2 (Nat.lt_of_le_of_lt h (by decide))
theorem mid_text {z : Int} (h : Mid z) : (PyData.shown (.int z)).length ≤ 20 := by
  have e := PySem.int_text_length_le10 (a := z) (k := 18) (by decide) (Nat.lt_of_le_of_lt h (by decide))
  show (Str.ofString (toString z)).length ≤ 20
  rw [PySem.ofString_length]
  omega
theorem mid2 (q : P2) (h : Mid q.1 ∧ Mid q.2) : ∀ z ∈ [q.1, q.2], Mid z := fun z hz => by
  simp only [List.mem_cons, List.not_mem_nil, or_false] at hz
  rcases hz with rfl | rfl
  · exact h.1
  · exact h.2
theorem mids_show {l : List Int} (h : ∀ z ∈ l, Mid z) : PyData.showableAll (l.map PyData.int) = true := PyData.showableAll_ints l fun z hz => Nat.lt_trans (mid_log (h z hz)) (by decide)
theorem ps_show : ∀ {ts : List P2}, MidP ts → PyData.showableAll (ts.map dP) = true
  | [], _ => by simp only [List.map_nil, PyData.showableAll]
  | q :: ts, h => by
    simp only [List.map_cons, PyData.showableAll, Bool.and_eq_true]
    refine ⟨?_, ps_show fun y hy => h y (List.mem_cons_of_mem _ hy)⟩
    have := mids_show (mid2 q (h q List.mem_cons_self))
    simp only [dP, PyData.showable]
    exact this
theorem ps_nodict : ∀ ts : List P2, PyData.hasDictAll (ts.map dP) = false
  | [] => by simp only [List.map_nil, PyData.hasDictAll]
  | q :: ts => by
    simp only [List.map_cons, PyData.hasDictAll, dP, PyData.hasDict, Bool.false_or, Bool.or_self]
    exact ps_nodict ts
theorem ps_leaves : ∀ {ts : List P2}, MidP ts → PyData.leavesShortAll 20 (ts.map dP) = true
  | [], _ => by simp only [List.map_nil, PyData.leavesShortAll]
  | q :: ts, h => by
    obtain ⟨h1, h2⟩ := h q List.mem_cons_self
    simp only [List.map_cons, PyData.leavesShortAll, dP, PyData.leavesShort, Bool.and_eq_true, decide_eq_true_eq]
    exact ⟨⟨mid_text h1, mid_text h2, trivial⟩, ps_leaves fun y hy => h y (List.mem_cons_of_mem _ hy)⟩
theorem mid_weight {z : Int} (h : Mid z) : PyData.weight (.int z) ≤ 60 := by
  have := mid_log h
  simp only [PyData.weight]
  split <;> omega
theorem ps_weight : ∀ {ts : List P2}, MidP ts → PyData.weightAll (ts.map dP) ≤ 200 * ts.length
  | [], _ => by simp only [List.map_nil, PyData.weightAll]; exact Nat.zero_le _
  | q :: ts, h => by
    obtain ⟨h1, h2⟩ := h q List.mem_cons_self
    have ih := ps_weight (ts := ts) fun y hy => h y (List.mem_cons_of_mem _ hy)
    have w1 := mid_weight h1
    have w2 := mid_weight h2
    have w : PyData.weight (dP q) ≤ 183 := by
      unfold dP
      rw [show PyData.weight (.tuple [.int q.1, .int q.2]) = PyData.weightAll [.int q.1, .int q.2] by simp only [PyData.weight]]
      rw [show PyData.weightAll [.int q.1, .int q.2] = PyData.weight (.int q.1) + 1 + (PyData.weight (.int q.2) + 1 + 0) by simp only [PyData.weightAll]]
      omega
    simp only [List.map_cons, PyData.weightAll, List.length_cons]
    omega
theorem dPs_shows {ts : List P2} (h : MidP ts) (hl : ts.length ≤ 1000) : Shows (dPs ts) where
  sh := by simp only [dPs, PyData.showable]; exact ps_show h
  nd := by simp only [dPs, PyData.hasDict]; exact ps_nodict ts
  dp := by
    have := dP_depth ts
    simp only [dPs, PyData.depth]
    omega
  sz := by
    have a := PyData.shown_le 20 (by decide) (dPs ts) (by simp only [dPs, PyData.leavesShort]; exact ps_leaves h)
    have b := ps_weight h
    have c : PyData.weight (dPs ts) ≤ 200 * ts.length := by simp only [dPs, PyData.weight]; exact b
    have d : (20 + 2) * PyData.weight (dPs ts) ≤ 22 * (200 * 1000) := Nat.mul_le_mul (by decide) (by omega)
    rw [sizeLine_eq]
    omega
theorem dpPs {K : PySem.W.Frag} {H : Hp} {a : Addr} {us : List V} {ts : List P2} (h : SqL K H a us) (p : PI K H us ts) : Dp K H (.ref a) (dPs ts) := .lst h p.dp
theorem OkT.mid {T : List P2} (h : OkT T) : MidP T := fun q hq => by
  obtain ⟨h1, h2, h3⟩ := h q hq
  have e16 : (10 : Nat) ^ 16 = 10000000000000000 := by decide
  unfold Mid
  rw [e16]
  omega
theorem mid_upP {m : Nat} {ps : K02.PL} (h : K02.Within m ps) (hm : m ≤ 8) : MidP (upP ps) := fun q hq => by
  obtain ⟨j, hj⟩ := List.getElem?_of_mem hq
  obtain ⟨a, b, hab, rfl⟩ := upP_get hj
  have := h _ (List.mem_of_getElem? hab)
  have e16 : (10 : Nat) ^ 16 = 10000000000000000 := by decide
  unfold Mid
  rw [e16]
  dsimp only at this ⊢
  omega
theorem upP_inj : ∀ {ps qs : K02.PL}, upP ps = upP qs → ps = qs
  | [], [], _ => rfl
  | [], _ :: _, h => by cases h
  | _ :: _, [], h => by cases h
  | (a, b) :: ps, (c, d) :: qs, h => by
    have h1 : (((a : Int), (b : Int)) : P2) = ((c : Int), (d : Int)) := (List.cons.inj h).1
    have h2 : upP ps = upP qs := (List.cons.inj h).2
    rw [upP_inj h2]
    have e1 := congrArg Prod.fst h1
    have e2 := congrArg Prod.snd h1
    dsimp only at e1 e2
    have : a = c := by omega
    have : b = d := by omega
    subst a b
    rfl
theorem upP_rev (ps : K02.PL) : (upP ps).reverse = upP ps.reverse := by unfold upP; rw [List.map_reverse]
theorem upP_app (ps qs : K02.PL) : upP ps ++ upP qs = upP (ps ++ qs) := by unfold upP; rw [List.map_append]
theorem PI.rev {K : PySem.W.Frag} {H : Hp} : ∀ {vs : List V} {qs : List P2}, PI K H vs qs → PI K H vs.reverse qs.reverse
  | _, _, .nil => .nil
  | _, _, .cons f r => by
    rw [List.reverse_cons, List.reverse_cons]
    exact P_append (PI.rev r) (.cons f .nil)
theorem aft_congr {m : Nat} {ps qs : K02.PL} (h : ∀ q, q ∈ ps ↔ q ∈ qs) : aftS m ps = aftS m qs := by
  funext k
  unfold aftS
  refine List.filter_congr fun b _ => decide_eq_decide.mpr (h _)
theorem FF.no {m : Nat} {ps : K02.PL} {z : Int} (h : FF (m : Int) (upP ps) z) (w : K02.Within m ps) : False := by
  have ok : ∀ {k : Nat} {q : P2}, (upP ps)[k]? = some q → Okp (m : Int) q := fun e => by
    obtain ⟨a, b, hab, rfl⟩ := upP_get e
    have := w _ (List.mem_of_getElem? hab)
    unfold Okp Okn
    dsimp only at this ⊢
    omega
  cases h with
  | fst e n _ => exact n (ok e).1
  | snd e _ n _ => exact n (ok e).2
section
variable {P : Program} {w : World} {K : PySem.W.Frag} {mg : Str → Option Value} {base : Heap} {CN CB CD CT CU fI fJ : Addr}
def sp_answered (K : PySem.W.Frag) : Sp := fun vs H Q _ => ∃ (ta pa du : Addr) (lg : Int) (tv qv : List V) (T : List P2) (ps : K02.PL), vs = [.ref ta, .ref pa, .int lg, .ref du] ∧ H ta = some (.lst tv) ∧ PI K H tv T ∧ H pa = some (.lst qv) ∧ PI K H qv (upP ps) ∧ T.length ≤ 8 ∧ OkT T ∧ K02.Within T.length ps ∧ ps.length ≤ 100 ∧
  Short T lg ∧ DueAt K H (aftS T.length ps) T lg du ∧ ∀ H', Same H H' → Q (.bl true) H'
theorem ok_answered {f f1 f2 f3 : Addr} {fd fd1 fd2 fd3 : FuncData} (F : Fun K "_law_answered" "_law_answered" s_law_answered f fd) (T : Txt mg) (Cfewest_shifts : CalX P w K mg base 4 "fewest_shifts" ["spans", "follows", "longest"] (sp_fewest K CN CT) f1 fd1)
    (C_law_right : Cal P w K mg base 3 "_law_right" ["told", "due"] (sp_right K) f2 fd2) (C_law_due : Cal P w K mg base 2 "_law_due" ["times", "pairs", "longest"] (sp_due K) f3 fd3) : FnOkG P w K mg base 5 f fd ["times", "pairs", "longest", "due"] (sp_answered K) := by
  refine F.okG sc_law_answered (fun vs H Q E h => ?_) (fun cdv A outer s H vs Q E gA0 hr h => ?_)
  · obtain ⟨ta, pa, du, lg, tv, qv, T, ps, rfl, _⟩ := h
    rfl
  · obtain ⟨ta, pa, du, lg, tv, qv, tm, ps, rfl, eta, hTP, epa, hQP, hm, okT, wi, hpl, sh, due, q⟩ := h
    have gA : (A.deeper (envOfC "_law_answered" (defScope s_law_answered) s.heap.objs.size f cdv)).guards = some [] := gA0
    have S1 := dPs_shows okT.mid (by omega)
    have S2 := dPs_shows (mid_upP wi hm) (by rw [upP_len]; omega)
    have al : ∀ v, ∀ k ∈ aftS tm.length ps v, k < tm.length := aft_lt
    refine ⟨_, (pss_cons (ps_set (i := 4) sc_law_answered.nd rfl (.inl rfl) (pe_callTy call_list_of (by rfl) T.list (by decide +kernel) (pa_cons (pv 0) pa_nil)))
 (pss_cons (ps_set (i := 5) sc_law_answered.nd rfl (.inl rfl) (pe_callTy call_list_of (by rfl) T.list (by decide +kernel) (pa_cons (pv 1) pa_nil)))
 (pss_cons (ps_set (i := 6) sc_law_answered.nd rfl (.inl rfl) (pe_call Cfewest_shifts.ok (hr.mono (by decide)) (by rfl) Cfewest_shifts.mg Cfewest_shifts.kp Cfewest_shifts.b .nil passL (pa_cons (pv 4) (pa_cons (pv 5) (pa_cons (pv 2) pa_nil)))))
 (pss_cons (ps_if (pt_not (pt_val (pe_call C_law_right.ok (hr.mono (by decide)) (by rfl) C_law_right.mg C_law_right.kp C_law_right.b .nil pass0 (pa_cons (pv 6) (pa_cons (pv 3) pa_nil)))))
 (pss_one (ps_ret pe_bl))
 pss_nil)
 (pss_cons (ps_if (PW.pt (pw_or (pt_cmpR op_ne (pe_callB (call_reprD gA hr.units) (by rfl) T.repr (by decide +kernel) (pa_cons (pv 4) pa_nil)) (pe_callB (call_reprD gA hr.units) (by rfl) T.repr (by decide +kernel) (pa_cons (pv 0) pa_nil)) (nomark _)) (pw_or1 (pt_cmpR op_ne (pe_callB (call_reprD gA hr.units) (by rfl) T.repr (by decide +kernel) (pa_cons (pv 5) pa_nil)) (pe_callB (call_reprD gA hr.units) (by rfl) T.repr (by decide +kernel) (pa_cons (pv 1) pa_nil)) (nomark _)))))
 (pss_one (ps_ret pe_bl))
 pss_nil)
 (pss_cons (ps_for PassesOwn.never rfl (pi_list (pe_ix ix_tup (pv 6) pe_int (fun _ _ => rfl))) (pg_name (i := 7) sc_law_answered.nd rfl (.inl rfl))
 (pss_one (ps_expr (pe_bm PySem.F.plainAttrs_list PySem.F.slot_list_append PySem.F.type_list_append mt_append (pv 7) (pa_cons pe_int pa_nil)))))
 (pss_cons (ps_expr (pe_bm0 PySem.F.plainAttrs_list PySem.F.slot_list_clear PySem.F.type_list_clear mt_clear (pe_ix ix_tup (pv 6) pe_int (fun _ _ => rfl))))
 (pss_cons (ps_expr (pe_bm PySem.F.plainAttrs_list PySem.F.slot_list_append PySem.F.type_list_append mt_append (pe_ix ix_tup (pv 6) pe_int (fun _ _ => rfl)) (pa_cons pe_int pa_nil)))
 (pss_cons (ps_if (pt_not (pt_val (pe_call C_law_right.ok (hr.mono (by decide)) (by rfl) C_law_right.mg C_law_right.kp C_law_right.b .nil pass0 (pa_cons (pe_call Cfewest_shifts.ok (hr.mono (by decide)) (by rfl) Cfewest_shifts.mg Cfewest_shifts.kp Cfewest_shifts.b .nil passL (pa_cons (pv 4) (pa_cons (pv 5) (pa_cons (pv 2) pa_nil)))) (pa_cons (pv 3) pa_nil)))))
 (pss_one (ps_ret pe_bl))
 pss_nil)
 (pss_cons (ps_set (i := 8) sc_law_answered.nd rfl (.inl rfl) (pe_lstRev rfl rfl T.list rfl T.reversed (pv 1)))
 (pss_cons (ps_if (pt_not (pt_val (pe_call C_law_right.ok (hr.mono (by decide)) (by rfl) C_law_right.mg C_law_right.kp C_law_right.b .nil pass0 (pa_cons (pe_call Cfewest_shifts.ok (hr.mono (by decide)) (by rfl) Cfewest_shifts.mg Cfewest_shifts.kp Cfewest_shifts.b .nil passL (pa_cons (pe_callTy call_tuple_of (by rfl) T.tuple (by decide +kernel) (pa_cons (pv 0) pa_nil)) (pa_cons (pe_callTy call_tuple_of (by rfl) T.tuple (by decide +kernel) (pa_cons (pe_op op_cat (pv 8) (pv 1)) pa_nil)) (pa_cons (pv 2) pa_nil)))) (pa_cons (pv 3) pa_nil)))))
 (pss_one (ps_ret pe_bl))
 pss_nil)
 (pss_cons (ps_expr (pe_bm0 PySem.F.plainAttrs_list PySem.F.slot_list_clear PySem.F.type_list_clear mt_clear (pv 5)))
 (pss_one (ps_ret (pe_call C_law_right.ok (hr.mono (by decide)) (by rfl) C_law_right.mg C_law_right.kp C_law_right.b .nil pass0 (pa_cons (pe_call Cfewest_shifts.ok (hr.mono (by decide)) (by rfl) Cfewest_shifts.mg Cfewest_shifts.kp Cfewest_shifts.b .nil passL (pa_cons (pv 4) (pa_cons (pv 5) (pa_cons (pv 2) pa_nil)))) (pa_cons (pe_call C_law_due.ok (hr.mono (by decide)) (by rfl) C_law_due.mg C_law_due.kp C_law_due.b .nil pass0 (pa_cons (pv 0) (pa_cons (pe_lst pa_nil) (pa_cons (pv 2) pa_nil)))) pa_nil))))))))))))))))), ?_⟩
    -- passed_times, passed
    refine ⟨_, rfl, ta, tv, rfl, .inl (SqL.of eta), fun pt npt => ?_⟩
    have s1 : Same H (upd H pt (.lst tv)) := (Same.refl H).new npt
    have ept : (upd H pt (.lst tv)) pt = some (.lst tv) := upd_same
    generalize upd H pt (.lst tv) = H1 at s1 ept ⊢
    refine ⟨_, rfl, pa, qv, rfl, .inl (SqL.of (s1 _ _ epa)), fun pd npd => ?_⟩
    have s2 : Same H1 (upd H1 pd (.lst qv)) := (Same.refl H1).new npd
    have epd : (upd H1 pd (.lst qv)) pd = some (.lst qv) := upd_same
    generalize upd H1 pd (.lst qv) = H2 at s2 epd ⊢
    have t2 := s1.trans s2
    have ept2 := s2 _ _ ept
    have npdH : H pd = none := s1.free npd
    -- told
    refine ⟨_, rfl, _, rfl, _, rfl, pt, pd, lg, tv, qv, tm, upP ps, rfl, Sq.of ept2, hTP.same t2, Sq.of epd, PI.same hQP t2, fun c => absurd c (by omega), fun _ z f => (f.no wi).elim, fun _ ps' e wi' r1 H3 s3 nr1 td => ?_⟩
    obtain rfl := upP_inj e
    have t3 := t2.trans s3
    refine ⟨_, rfl, _, rfl, r1, du, _, tm, lg, rfl, td.at, due.same t3, hm, al, fun H4 s4 => ⟨_, rfl, iteF ?_⟩⟩
    have t4 := t3.trans s4
    have s24 := s3.trans s4
    refine ⟨_, rfl, pt, dPs tm, rfl, dpPs (SqL.of (s24 _ _ ept2)) (hTP.same t4), S1.sh, S1.nd, S1.dp, S1.sz, _, rfl, ta, dPs tm, rfl, dpPs (SqL.of (t4 _ _ eta)) (hTP.same t4), S1.sh, S1.nd, S1.dp, S1.sz, rfl, _, rfl, ?_⟩
    rw [decide_eq_true rfl]
    refine iteF ?_
    refine ⟨_, rfl, pd, dPs (upP ps), rfl, dpPs (SqL.of (s24 _ _ epd)) (PI.same hQP t4), S2.sh, S2.nd, S2.dp, S2.sz, _, rfl, pa, dPs (upP ps), rfl, dpPs (SqL.of (t4 _ _ epa)) (PI.same hQP t4), S2.sh, S2.nd, S2.dp, S2.sz, rfl, _, rfl, ?_⟩
    rw [decide_eq_true rfl]
    refine iteF ?_
    -- for row in told[1]
    cases td with
    | long k lk _ => exact (lk.not sh).elim
    | shifts z x as rs v _ er1 nz nx ez anx rn ex res =>
    obtain ⟨zl, vl, rl⟩ := res.size hm al
    have er4 := s4 _ _ er1
    have ez4 := s4 _ _ ez
    have ex4 := s4 _ _ ex
    have rn4 := rn.same s4
    have asl : as.length = rs.length := P_len rn
    refine ⟨_, rfl, r1, _, 1, .ref z, rfl, rfl, SqT.of er4, rfl, z, rfl, ⟨_, SqL.of ez4⟩, for_list (K := K) (a := z) (xs := as.map V.ref) (fun i σ H' => ∃ (v7 : Option V), σ = [some (.ref ta), some (.ref pa), some (.int lg), some (.ref du), some (.ref pt), some (.ref pd), some (.ref r1), v7, none] ∧ Same H2 H' ∧ H' r1 = some (.tup [.str "shifts", .ref z, .ref x]) ∧ H' z = some (.lst (as.map V.ref)) ∧ H' x = some (.lst (v.map nV)) ∧ ∀ a ∈ as, ∃ ys, H' a = some (.lst ys) ∧ ys.length ≤ 8 + i)
      ⟨none, rfl, s24, er4, ez4, ex4, fun a ha => ?_⟩ (fun i σ H' _ ⟨_, _, _, _, e, _⟩ => SqL.of e) ?_ ?_⟩
    · obtain ⟨j, hj⟩ := List.getElem?_of_mem ha
      obtain ⟨r, hr, _, e⟩ := P_right rn4 hj
      exact ⟨_, e, by rw [List.length_map]; exact rl r (List.mem_of_getElem? hr)⟩
    · rintro i y σ H5 hy ⟨v7, rfl, s5, er5, ez5, ex5, rows5⟩
      obtain ⟨a, ha, rfl⟩ := getn_inv hy
      have ham := List.mem_of_getElem? ha
      obtain ⟨r, hr, na, _⟩ := P_right rn4 ha
      obtain ⟨ys, ey, yl⟩ := rows5 a ham
      obtain ⟨naz, nax⟩ := anx a ham
      have il : i < as.length := lt_get ha
      refine ⟨_, rfl, .inl ⟨rfl, _, SqL.of ey⟩, a, _, _, rfl, rfl, ey, szl (by omega), _, rfl, s5.mut na, ?_, ?_, ?_, fun b hb => ?_⟩
      · rw [upd_ne (ne_of er5 ey (by intro z; cases z))]
        exact er5
      · rw [upd_ne (Ne.symm naz)]
        exact ez5
      · rw [upd_ne (Ne.symm nax)]
        exact ex5
      · by_cases e : b = a
        · subst e
          exact ⟨_, upd_same, by rw [List.length_append, List.length_singleton]; omega⟩
        · obtain ⟨ws, ew, wl⟩ := rows5 b hb
          exact ⟨ws, by rw [upd_ne e]; exact ew, by omega⟩
    rintro σ H5 ⟨v7, rfl, s5, er5, ez5, ex5, _⟩
    -- told[1].clear()
    refine ⟨_, rfl, r1, _, 1, .ref z, rfl, rfl, SqT.of er5, rfl, .inl ⟨rfl, _, SqL.of ez5⟩, z, _, rfl, rfl, ez5, ?_⟩
    have s6 : Same H2 (upd H5 z (.lst [])) := s5.mut nz
    have er6 : (upd H5 z (.lst [])) r1 = some (.tup [.str "shifts", .ref z, .ref x]) := by rw [upd_ne (ne_of er5 ez5 (by intro z; cases z))]; exact er5
    have ex6 : ∃ l : List V, (upd H5 z (.lst [])) x = some (.lst l) ∧ l.length ≤ 256 := by
      by_cases e : x = z
      · rw [e]
        exact ⟨[], upd_same, Nat.zero_le _⟩
      · exact ⟨_, by rw [upd_ne e]; exact ex5, by rw [List.length_map]; exact vl⟩
    generalize upd H5 z (.lst []) = H6 at s6 er6 ex6 ⊢
    obtain ⟨xl, ex6, xll⟩ := ex6
    -- told[2].append(7)
    refine ⟨_, rfl, r1, _, 2, .ref x, rfl, rfl, SqT.of er6, rfl, .inl ⟨rfl, _, SqL.of ex6⟩, x, _, _, rfl, rfl, ex6, szl (by omega), ?_⟩
    have s7 : Same H2 (upd H6 x (.lst (xl ++ [V.int 7]))) := s6.mut nx
    generalize upd H6 x (.lst (xl ++ [V.int 7])) = H7 at s7 ⊢
    have t7 := t2.trans s7
    -- once more
    refine ⟨_, rfl, _, rfl, _, rfl, pt, pd, lg, tv, qv, tm, upP ps, rfl, Sq.of (s7 _ _ ept2), hTP.same t7, Sq.of (s7 _ _ epd), PI.same hQP t7, fun c => absurd c (by omega), fun _ z f => (f.no wi).elim, fun _ ps' e wi' r2 H8 s8 nr2 tdb => ?_⟩
    obtain rfl := upP_inj e
    have t8 := t7.trans s8
    refine ⟨_, rfl, r2, du, _, tm, lg, rfl, tdb.at, due.same t8, hm, al, fun H9 s9 => ⟨_, rfl, iteF ?_⟩⟩
    have t9 := t8.trans s9
    have s29 := (s7.trans s8).trans s9
    -- turned
    refine ⟨_, rfl, pa, qv, rfl, SqL.of (t9 _ _ epa), fun tu ntu => ?_⟩
    have s10 : Same H9 (upd H9 tu (.lst qv.reverse)) := (Same.refl H9).new ntu
    have etu : (upd H9 tu (.lst qv.reverse)) tu = some (.lst qv.reverse) := upd_same
    generalize upd H9 tu (.lst qv.reverse) = HA at s10 etu ⊢
    have tA := t9.trans s10
    -- of tuples
    refine ⟨_, rfl, ta, tv, rfl, .inl ⟨SqL.of (tA _ _ eta), fun l1 nl1 => ?_⟩⟩
    have s11 : Same HA (upd HA l1 (.tup tv)) := (Same.refl HA).new nl1
    have el1 : (upd HA l1 (.tup tv)) l1 = some (.tup tv) := upd_same
    generalize upd HA l1 (.tup tv) = HB at s11 el1 ⊢
    have tB := tA.trans s11
    refine ⟨_, rfl, _, rfl, tu, pa, _, _, rfl, rfl, s11 _ _ etu, tB _ _ epa, ?_, fun l2 nl2 => ?_⟩
    · rw [List.length_reverse, hQP.len, upP_len]
      exact szle (by omega)
    have s12 : Same HB (upd HB l2 (.lst (qv.reverse ++ qv))) := (Same.refl HB).new nl2
    have el2 : (upd HB l2 (.lst (qv.reverse ++ qv))) l2 = some (.lst (qv.reverse ++ qv)) := upd_same
    generalize upd HB l2 (.lst (qv.reverse ++ qv)) = HC at s12 el2 ⊢
    refine ⟨l2, _, rfl, .inl ⟨SqL.of el2, fun l3 nl3 => ?_⟩⟩
    have s13 : Same HC (upd HC l3 (.tup (qv.reverse ++ qv))) := (Same.refl HC).new nl3
    have el3 : (upd HC l3 (.tup (qv.reverse ++ qv))) l3 = some (.tup (qv.reverse ++ qv)) := upd_same
    generalize upd HC l3 (.tup (qv.reverse ++ qv)) = HD at s13 el3 ⊢
    have sBD := s12.trans s13
    have tD := tB.trans sBD
    have hQ2 : PI K HD (qv.reverse ++ qv) (upP (ps.reverse ++ ps)) := by
      have a := (PI.same hQP tD)
      have b := P_append a.rev a
      rw [upP_rev, upP_app] at b
      exact b
    have mem2 : ∀ q, q ∈ ps.reverse ++ ps ↔ q ∈ ps := fun q => by simp
    have wi2 : K02.Within tm.length (ps.reverse ++ ps) := fun q hq => wi q ((mem2 q).mp hq)
    refine ⟨_, rfl, l1, l3, lg, tv, _, tm, upP (ps.reverse ++ ps), rfl, .inr (SqT.of (sBD _ _ el1)), hTP.same tD, .inr (SqT.of el3), hQ2, fun c => absurd c (by omega), fun _ z f => (f.no wi2).elim, fun _ ps' e wi' r3 HE sE nr3 tdc => ?_⟩
    obtain rfl := upP_inj e
    rw [aft_congr mem2] at tdc
    have tE := tD.trans sE
    refine ⟨_, rfl, r3, du, _, tm, lg, rfl, tdc.at, due.same tE, hm, al, fun HF sF => ⟨_, rfl, iteF ?_⟩⟩
    have tF := tE.trans sF
    have s2F := ((((s29.trans s10).trans s11).trans sBD).trans sE).trans sF
    have epdF := s2F _ _ epd
    -- passed.clear()
    refine ⟨_, rfl, .inl ⟨rfl, _, SqL.of epdF⟩, pd, _, rfl, rfl, epdF, ?_⟩
    have tG : Same H (upd HF pd (.lst [])) := tF.mut npdH
    have epdG : (upd HF pd (.lst [])) pd = some (.lst []) := upd_same
    have eptG : (upd HF pd (.lst [])) pt = some (.lst tv) := by
      rw [upd_ne (ne_of_none ept npd)]
      exact s2F _ _ ept2
    generalize upd HF pd (.lst []) = HG at tG epdG eptG ⊢
    have wi0 : K02.Within tm.length [] := fun q hq => by cases hq
    refine ⟨_, rfl, _, rfl, _, rfl, pt, pd, lg, tv, [], tm, upP [], rfl, Sq.of eptG, hTP.same tG, Sq.of epdG, .nil, fun c => absurd c (by omega), fun _ z f => (f.no wi0).elim, fun _ ps' e wi' r4 HH sH nr4 tdd => ?_⟩
    obtain rfl := upP_inj e
    have tH := tG.trans sH
    refine ⟨_, rfl, Nat.zero_le _, fun en nen => ?_⟩
    have sI : Same HH (upd HH en (.lst [])) := (Same.refl HH).new nen
    have een : (upd HH en (.lst [])) en = some (.lst []) := upd_same
    generalize upd HH en (.lst []) = HI at sI een ⊢
    have tI := tH.trans sI
    refine ⟨_, rfl, ta, en, lg, tv, [], tm, [], rfl, SqL.of (tI _ _ eta), hTP.same tI, SqL.of een, .nil, hm, fun u HJ sJ nu du2 => ?_⟩
    exact ⟨r4, u, _, tm, lg, rfl, tdd.at.same (sI.trans sJ), du2, hm, aft_lt, fun HK sK => q HK ((tI.trans sJ).trans sK)⟩
end
end K28W

namespace K28W
open PySem PySem.Spec PyProof.Rows L2 KH K28 KD
abbrev s_law_flawed : Stmt := topS 30
theorem sc_law_flawed : FnScope ["cell", "count", "pairs", "drawn", "good", "wrong", "rows"] ["cell", "count", "pairs"] (defScope s_law_flawed) := ⟨rfl, rfl, rfl, by decide +kernel, rfl, by decide +kernel, by decide +kernel⟩

abbrev s_law_first_flaw : Stmt := topS 31
theorem sc_law_first_flaw : FnScope ["count", "rows", "row", "number"] ["count", "rows"] (defScope s_law_first_flaw) := ⟨rfl, rfl, rfl, by decide +kernel, rfl, by decide +kernel, by decide +kernel⟩

theorem set_self {σ : L2.St} {j : Nat} {x : V} (h : σ[j]? = some (some x)) : σ.set j (some x) = σ := by
  apply List.ext_getElem?
  intro k
  rw [List.getElem?_set]
  by_cases ek : j = k
  · subst ek
    rw [if_pos rfl, if_pos (List.getElem?_eq_some_iff.mp h).1, h]
  · rw [if_neg ek]
theorem asgN {te : TE} {i : Nat} {rest : TS} {D : Ends} {σ : L2.St} {H : Hp} (q : te σ H (fun x H1 => ∀ σ' : L2.St, σ.set i (some x) = σ' → rest D σ' H1)) : tSeq (tAsg te (gName i)) rest D σ H := by
  have e : (fun (x : V) (H1 : Hp) => ∀ σ' : L2.St, σ.set i (some x) = σ' → rest D σ' H1) = (fun x H1 => rest D (σ.set i (some x)) H1) := by
    funext x H1
    exact propext ⟨fun h => h _ rfl, fun h σ' e => by rw [← e]; exact h⟩
  rw [e] at q
  exact q
theorem nextS {u : TS} {D : Ends} {σ : L2.St} {H : Hp} (q : u D σ H) : tNext { D with nx := u D } σ H := q
theorem ifsetP {t : TT} {e1 : TE} {i1 : Nat} {rest : TS} {D : Ends} {σ : L2.St} {H : Hp} {w1 : V} {C : Prop} (Pst : V → Hp → Prop) (ht : ∀ Q : Bool → Hp → Prop, (∀ b, (b = true ↔ C) → Q b H) → t σ H Q) (h1 : σ[i1]? = some (some w1)) (h0 : ¬ C → Pst w1 H)
    (ev1 : C → ∀ Q : VK, (∀ v H', Pst v H' → Q v H') → e1 σ H Q) (q : ∀ u1 H', Pst u1 H' → rest D (σ.set i1 (some u1)) H') : tSeq (tIfS t (tAsg e1 (gName i1)) tNext) rest D σ H := by
  refine ht _ fun b hb => ?_
  cases b with
  | true =>
    rw [if_pos rfl]
    exact ev1 (hb.mp rfl) _ (fun v H' p => q v H' p)
  | false =>
    rw [if_neg Bool.false_ne_true]
    have := q w1 H (h0 fun z => Bool.noConfusion (hb.mpr z))
    rw [set_self h1] at this
    exact this
theorem P_drop {α β : Type} {F : α → β → Prop} : ∀ {xs : List α} {ys : List β} (k : Nat), Paired F xs ys → Paired F (xs.drop k) (ys.drop k)
  | _, _, 0, h => h
  | _, _, k + 1, .nil => .nil
  | _, _, k + 1, .cons _ r => P_drop k r
theorem testI {n : Nat} {z : Int} {Q : Bool → Hp → Prop} {H : Hp} (h : ∀ b, (b = true ↔ (n : Int) = z) → Q b H) : Q (decide (nV n = V.int z)) H := h _ ⟨fun e => V.int.inj (of_decide_eq_true e), fun e => decide_eq_true (congrArg V.int e)⟩
theorem P_take {α β : Type} {F : α → β → Prop} : ∀ {xs : List α} {ys : List β} (k : Nat), Paired F xs ys → Paired F (xs.take k) (ys.take k)
  | _, _, 0, _ => .nil
  | _, _, _ + 1, .nil => .nil
  | _, _, k + 1, .cons f r => .cons f (P_take k r)
theorem PI.mutL' {K : PySem.W.Frag} {H : Hp} {o : Addr} {vs us : List V} {ps : List P2} {x : HO} (h : PI K H vs ps) (e : H o = some (.lst us)) : PI K (upd H o x) vs ps := h.mutL e
theorem bad_p {m x1 x2 : Int} (h : (x1 < 0 ∨ m ≤ x1) ∨ (x2 < 0 ∨ m ≤ x2)) : ¬ Okp m (x1, x2) := fun z => by
  obtain ⟨⟨a, b⟩, c, d⟩ := z
  dsimp only at a b c d
  omega
section
variable {P : Program} {w : World} {K : PySem.W.Frag} {mg : Str → Option Value} {base : Heap} {CN CB CD CT CU fI fJ : Addr}
def sp_flawed (K : PySem.W.Frag) : Sp := fun vs H Q _ => ∃ (c : Int) (m : Nat) (pa : Addr) (qv : List V) (ps : K02.PL), vs = [.int c, nV m, .ref pa] ∧ H pa = some (.lst qv) ∧ PI K H qv (upP ps) ∧ K02.Within m ps ∧ m ≤ 8 ∧ ps.length ≤ 100 ∧
  ∀ rx us qs H', Same H H' → H rx = none → H' rx = some (.lst us) → PI K H' us qs → MidP qs → qs.length ≤ 200 → (∃ q ∈ qs, ¬ Okp (m : Int) q) → Q (.ref rx) H'
theorem ok_flawed {f f1 : Addr} {fd fd1 : FuncData} (F : Fun K "_law_flawed" "_law_flawed" s_law_flawed f fd) (T : Txt mg) (C_law_draws : Cal P w K mg base 1 "_law_draws" ["cell", "sizes"] (sp_draws K) f1 fd1) : FnOk P w K mg base CX0 2 f fd ["cell", "count", "pairs"] (sp_flawed K) := by
  refine F.ok sc_law_flawed (fun vs H Q E h => ?_) (fun cdv A outer s H vs Q E hr h => ?_)
  · obtain ⟨c, m, pa, qv, ps, rfl, _⟩ := h
    rfl
  · obtain ⟨c, m, pa, qv, ps, rfl, epa, hQP, wi, hm, hpl, q⟩ := h
    refine ⟨_, (pss_cons (ps_set (i := 3) sc_law_flawed.nd rfl (.inl rfl) (pe_call C_law_draws.ok (hr.mono (by decide)) (by rfl) C_law_draws.mg C_law_draws.kp C_law_draws.b .nil pass0 (pa_cons (pv 0) (pa_cons (pe_lst (pa_cons pe_int (pa_cons pe_int (pa_cons pe_int (pa_cons pe_int (pa_cons pe_int pa_nil)))))) pa_nil))))
 (pss_cons (ps_set (i := 4) sc_law_flawed.nd rfl (.inl rfl) (pe_op op_modN (pe_callTy call_int1 (by rfl) T.int (by decide +kernel) (pa_cons (pe_ix ix_list (pv 3) pe_int (fun _ _ => rfl)) pa_nil)) (pe_callB (call_max2 rfl) (by rfl) T.max (by decide +kernel) (pa_cons pe_int (pa_cons (pv 1) pa_nil)))))
 (pss_cons (ps_set (i := 5) sc_law_flawed.nd rfl (.inl rfl) (pe_tup (pa_cons (pe_op op_sub (pe_un un_neg pe_int) (pe_ix ix_list (pv 3) pe_int (fun _ _ => rfl))) (pa_cons (pv 4) pa_nil))))
 (pss_cons (ps_if (pt_cmpR op_eq (pe_ix ix_list (pv 3) pe_int (fun _ _ => rfl)) pe_int (nomark _))
 (pss_one (ps_set (i := 5) sc_law_flawed.nd rfl (.inl rfl) (pe_tup (pa_cons (pe_op op_add (pv 1) (pe_ix ix_list (pv 3) pe_int (fun _ _ => rfl))) (pa_cons (pv 4) pa_nil)))))
 pss_nil)
 (pss_cons (ps_if (pt_cmpR op_eq (pe_ix ix_list (pv 3) pe_int (fun _ _ => rfl)) pe_int (nomark _))
 (pss_one (ps_set (i := 5) sc_law_flawed.nd rfl (.inl rfl) (pe_tup (pa_cons (pv 4) (pa_cons (pe_op op_sub (pe_un un_neg pe_int) (pe_ix ix_list (pv 3) pe_int (fun _ _ => rfl))) pa_nil)))))
 pss_nil)
 (pss_cons (ps_if (pt_cmpR op_eq (pe_ix ix_list (pv 3) pe_int (fun _ _ => rfl)) pe_int (nomark _))
 (pss_one (ps_set (i := 5) sc_law_flawed.nd rfl (.inl rfl) (pe_tup (pa_cons (pv 4) (pa_cons (pe_op op_add (pv 1) (pe_ix ix_list (pv 3) pe_int (fun _ _ => rfl))) pa_nil)))))
 pss_nil)
 (pss_cons (ps_if (pt_cmpR op_eq (pe_ix ix_list (pv 3) pe_int (fun _ _ => rfl)) pe_int (nomark _))
 (pss_one (ps_set (i := 5) sc_law_flawed.nd rfl (.inl rfl) (pe_tup (pa_cons (pe_op op_add (pv 1) (pe_ix ix_list (pv 3) pe_int (fun _ _ => rfl))) (pa_cons (pe_op op_sub (pe_un un_neg pe_int) (pe_ix ix_list (pv 3) pe_int (fun _ _ => rfl))) pa_nil)))))
 pss_nil)
 (pss_cons (ps_set (i := 6) sc_law_flawed.nd rfl (.inl rfl) (pe_callTy call_list_of (by rfl) T.list (by decide +kernel) (pa_cons (pv 2) pa_nil)))
 (pss_cons (ps_expr (pe_bm PySem.F.plainAttrs_list PySem.F.slot_list_insert PySem.F.type_list_insert mt_insert (pv 6) (pa_cons (pe_op op_modN (pe_callTy call_int1 (by rfl) T.int (by decide +kernel) (pa_cons (pe_ix ix_list (pv 3) pe_int (fun _ _ => rfl)) pa_nil)) (pe_op op_add (pe_callB call_len_seq (by rfl) T.len (by decide +kernel) (pa_cons (pv 6) pa_nil)) pe_int)) (pa_cons (pv 5) pa_nil))))
 (pss_cons (ps_if (pt_cmpR op_gt (pe_ix ix_list (pv 3) pe_int (fun _ _ => rfl)) pe_int (nomark _))
 (pss_one (ps_expr (pe_bm PySem.F.plainAttrs_list PySem.F.slot_list_insert PySem.F.type_list_insert mt_insert (pv 6) (pa_cons (pe_op op_modN (pe_callTy call_int1 (by rfl) T.int (by decide +kernel) (pa_cons (pe_ix ix_list (pv 3) pe_int (fun _ _ => rfl)) pa_nil)) (pe_op op_add (pe_callB call_len_seq (by rfl) T.len (by decide +kernel) (pa_cons (pv 6) pa_nil)) pe_int)) (pa_cons (pe_tup (pa_cons (pv 4) (pa_cons (pv 1) pa_nil))) pa_nil)))))
 pss_nil)
 (pss_one (ps_ret (pv 6))))))))))))), ?_⟩
    refine asgN ⟨_, rfl, (by show 5 ≤ sizeLine; decide), fun z nz => ⟨z, c, [6, 30, 30, 8, 3], rfl, SqL.of upd_same, by decide, by decide, fun dp ds H2 s2 ndp edp dr σ' e => ?_⟩⟩
    obtain rfl : σ' = [some (.int c), some (nV m), some (.ref pa), some (.ref dp), none, none, none] := e.symm
    clear e
    obtain ⟨d0, d1, d2, d3, d4, rfl, b0, b1, b2, b3, b4⟩ : ∃ d0 d1 d2 d3 d4, ds = [d0, d1, d2, d3, d4] ∧ d0 < 6 ∧ d1 < 30 ∧ d2 < 30 ∧ d3 < 8 ∧ d4 < 3 := by
      cases dr with | cons h0 dr => cases dr with | cons h1 dr => cases dr with | cons h2 dr => cases dr with | cons h3 dr => cases dr with | cons h4 dr => cases dr with | nil => exact ⟨_, _, _, _, _, rfl, h0, h1, h2, h3, h4⟩
    have t2 : Same H H2 := ((Same.refl H).new nz).trans s2
    have hG : SqL K H2 dp ([d0, d1, d2, d3, d4].map nV) := SqL.of edp
    -- good
    obtain ⟨g, eg, hg⟩ := fmod_nat (d3 : Int) (z := if m > 1 then m else 1) (by split <;> omega)
    have e1 : (if (m : Int) > 1 then (m : Int) else 1) = ((if m > 1 then m else 1 : Nat) : Int) := by
      by_cases h : m > 1
      · rw [if_pos h, if_pos (by omega)]
      · rw [if_neg h, if_neg (by omega)]
        rfl
    have hg8 : g ≤ 8 := by
      have : g < if m > 1 then m else 1 := hg
      split at this <;> omega
    refine asgN ⟨_, rfl, dp, _, 3, nV d3, rfl, rfl, hG, at_n (j := 3) rfl, .inl ⟨_, rfl, _, rfl, 1, (m : Int), rfl, _, _, rfl, rfl, (by rw [e1]; split <;> omega), ?_⟩⟩
    dsimp only
    rw [e1, eg]
    refine fun σ' e => ?_
    obtain rfl : σ' = [some (.int c), some (nV m), some (.ref pa), some (.ref dp), some (nV g), none, none] := e.symm
    clear e
    -- wrong
    refine asgN ⟨_, rfl, _, rfl, dp, _, 4, nV d4, rfl, rfl, hG, at_n (j := 4) rfl, _, _, rfl, rfl, _, rfl, sp2, fun t0 n0 σ' e => ?_⟩
    obtain rfl : σ' = [some (.int c), some (nV m), some (.ref pa), some (.ref dp), some (nV g), some (.ref t0), none] := e.symm
    clear e
    have s0 : Same H2 (upd H2 t0 (.tup [.int (-1 - (d4 : Int)), nV g])) := (Same.refl H2).new n0
    have et0 : (upd H2 t0 (.tup [.int (-1 - (d4 : Int)), nV g])) t0 = some (.tup [.int (-1 - (d4 : Int)), nV g]) := upd_same
    generalize upd H2 t0 (.tup [.int (-1 - (d4 : Int)), nV g]) = H3 at s0 et0 ⊢
    refine ifsetP (C := (d0 : Int) = 1) (fun u H' => ∃ (t : Addr) (x1 x2 : Int), u = .ref t ∧ Same H2 H' ∧ H' t = some (.tup [.int x1, .int x2]) ∧ x1.natAbs ≤ 200 ∧ x2.natAbs ≤ 200 ∧ ¬ Okp (m : Int) (x1, x2)) (fun Q' hq => ⟨_, rfl, dp, _, 0, nV d0, rfl, rfl, s0.seq hG, at_n (j := 0) rfl, rfl, _, rfl, testI (Q := Q') (H := H3) hq⟩) rfl (fun _ => ⟨t0, _, _, rfl, s0, et0, by omega, by omega, bad_p (by omega)⟩)
      (fun _ Q' hq => ⟨_, rfl, _, rfl, dp, _, 4, nV d4, rfl, rfl, s0.seq hG, at_n (j := 4) rfl, _, _, rfl, rfl, _, rfl, sp2, fun t nt => hq _ _ ⟨t, (m : Int) + (d4 : Int), (g : Int), rfl, s0.new nt, upd_same, by omega, by omega, bad_p (by omega)⟩⟩) ?_
    rintro u1 H4 ⟨t1, x1, y1, rfl, s1, et1, p1, p2, p3⟩
    refine ifsetP (C := (d0 : Int) = 2) (fun u H' => ∃ (t : Addr) (x1 x2 : Int), u = .ref t ∧ Same H2 H' ∧ H' t = some (.tup [.int x1, .int x2]) ∧ x1.natAbs ≤ 200 ∧ x2.natAbs ≤ 200 ∧ ¬ Okp (m : Int) (x1, x2)) (fun Q' hq => ⟨_, rfl, dp, _, 0, nV d0, rfl, rfl, s1.seq hG, at_n (j := 0) rfl, rfl, _, rfl, testI (Q := Q') (H := H4) hq⟩) rfl (fun _ => ⟨t1, _, _, rfl, s1, et1, p1, p2, p3⟩)
      (fun _ Q' hq => ⟨_, rfl, _, rfl, _, rfl, dp, _, 4, nV d4, rfl, rfl, s1.seq hG, at_n (j := 4) rfl, _, _, rfl, rfl, sp2, fun t nt => hq _ _ ⟨t, (g : Int), -1 - (d4 : Int), rfl, s1.new nt, upd_same, by omega, by omega, bad_p (by omega)⟩⟩) ?_
    clear p1 p2 p3
    rintro u1 H5 ⟨t2', x2, y2, rfl, s2', et2, p1, p2, p3⟩
    refine ifsetP (C := (d0 : Int) = 3) (fun u H' => ∃ (t : Addr) (x1 x2 : Int), u = .ref t ∧ Same H2 H' ∧ H' t = some (.tup [.int x1, .int x2]) ∧ x1.natAbs ≤ 200 ∧ x2.natAbs ≤ 200 ∧ ¬ Okp (m : Int) (x1, x2)) (fun Q' hq => ⟨_, rfl, dp, _, 0, nV d0, rfl, rfl, s2'.seq hG, at_n (j := 0) rfl, rfl, _, rfl, testI (Q := Q') (H := H5) hq⟩) rfl (fun _ => ⟨t2', _, _, rfl, s2', et2, p1, p2, p3⟩)
      (fun _ Q' hq => ⟨_, rfl, _, rfl, _, rfl, dp, _, 4, nV d4, rfl, rfl, s2'.seq hG, at_n (j := 4) rfl, _, _, rfl, rfl, sp2, fun t nt => hq _ _ ⟨t, (g : Int), (m : Int) + (d4 : Int), rfl, s2'.new nt, upd_same, by omega, by omega, bad_p (by omega)⟩⟩) ?_
    clear p1 p2 p3
    rintro u1 H6 ⟨t3, x3, y3, rfl, s3, et3, p1, p2, p3⟩
    refine ifsetP (C := (d0 : Int) = 4) (fun u H' => ∃ (t : Addr) (x1 x2 : Int), u = .ref t ∧ Same H2 H' ∧ H' t = some (.tup [.int x1, .int x2]) ∧ x1.natAbs ≤ 200 ∧ x2.natAbs ≤ 200 ∧ ¬ Okp (m : Int) (x1, x2)) (fun Q' hq => ⟨_, rfl, dp, _, 0, nV d0, rfl, rfl, s3.seq hG, at_n (j := 0) rfl, rfl, _, rfl, testI (Q := Q') (H := H6) hq⟩) rfl (fun _ => ⟨t3, _, _, rfl, s3, et3, p1, p2, p3⟩)
      (fun _ Q' hq => ⟨_, rfl, _, rfl, dp, _, 4, nV d4, rfl, rfl, s3.seq hG, at_n (j := 4) rfl, _, _, rfl, rfl, _, rfl, _, rfl, dp, _, 4, nV d4, rfl, rfl, s3.seq hG, at_n (j := 4) rfl, _, _, rfl, rfl, sp2, fun t nt => hq _ _ ⟨t, (m : Int) + (d4 : Int), -1 - (d4 : Int), rfl, s3.new nt, upd_same, by omega, by omega, bad_p (by omega)⟩⟩) ?_
    clear p1 p2 p3
    rintro u1 H7 ⟨t4, x4, y4, rfl, s4, et4, p1, p2, p3⟩
    have t7 := t2.trans s4
    -- rows = list(pairs)
    refine ⟨_, rfl, pa, qv, rfl, .inl (SqL.of (t7 _ _ epa)), fun rx nrx => ?_⟩
    have s8 : Same H7 (upd H7 rx (.lst qv)) := (Same.refl H7).new nrx
    have erx : (upd H7 rx (.lst qv)) rx = some (.lst qv) := upd_same
    generalize upd H7 rx (.lst qv) = H8 at s8 erx ⊢
    have t8 := t7.trans s8
    have nrx0 : H rx = none := t7.free nrx
    have et8 := s8 _ _ et4
    have s28 := s4.trans s8
    have hql : qv.length = ps.length := by rw [hQP.len, upP_len]
    obtain ⟨pi, epi, hpi⟩ := fmod_nat (d1 : Int) (z := qv.length + 1) (by omega)
    refine ⟨_, rfl, .inl ⟨rfl, _, SqL.of erx⟩, _, rfl, dp, _, 1, nV d1, rfl, rfl, s28.seq hG, at_n (j := 1) rfl, .inl ⟨_, rfl, _, rfl, rx, _, rfl, .inl (SqL.of erx), _, _, rfl, rfl, _, _, rfl, rfl, (by show ((qv.length : Nat) : Int) + 1 ≠ 0; omega), ?_⟩⟩
    dsimp only
    rw [show ((qv.length : Nat) : Int) + 1 = ((qv.length + 1 : Nat) : Int) by omega, epi]
    refine ⟨_, rfl, rx, _, (pi : Int), _, rfl, rfl, erx, by rw [hql]; exact szl (by omega), by omega, by omega, ?_⟩
    rw [show ((pi : Nat) : Int).toNat = pi by omega]
    have s9 : Same H (upd H8 rx (.lst (qv.take pi ++ [V.ref t4] ++ qv.drop pi))) := t8.mut nrx0
    have erx9 : (upd H8 rx (.lst (qv.take pi ++ [V.ref t4] ++ qv.drop pi))) rx = some (.lst (qv.take pi ++ [V.ref t4] ++ qv.drop pi)) := upd_same
    have hP9 : PI K (upd H8 rx (.lst (qv.take pi ++ [V.ref t4] ++ qv.drop pi))) (qv.take pi ++ [V.ref t4] ++ qv.drop pi) ((upP ps).take pi ++ [(x4, y4)] ++ (upP ps).drop pi) := by
      have a := (PI.same hQP t8).mutL (x := .lst (qv.take pi ++ [V.ref t4] ++ qv.drop pi)) erx
      exact P_append (P_append (P_take pi a) (.cons ⟨t4, rfl, sqT_mutL (SqT.of et8) erx⟩ .nil)) (P_drop pi a)
    have hG9 : SqL K (upd H8 rx (.lst (qv.take pi ++ [V.ref t4] ++ qv.drop pi))) dp ([d0, d1, d2, d3, d4].map nV) := by
      have e := s28 _ _ edp
      have n : dp ≠ rx := ne_of_none (s4 _ _ edp) nrx
      exact SqL.of (by rw [upd_ne n]; exact e)
    have mid9 : MidP ((upP ps).take pi ++ [(x4, y4)] ++ (upP ps).drop pi) := fun y hy => by
      have hM := mid_upP wi hm
      rcases List.mem_append.mp hy with hy | hy
      · rcases List.mem_append.mp hy with hy | hy
        · exact hM y (List.mem_of_mem_take hy)
        · rw [List.mem_singleton.mp hy]
          exact ⟨Nat.le_trans p1 (by decide), Nat.le_trans p2 (by decide)⟩
      · exact hM y (List.mem_of_mem_drop hy)
    have len9 : ((upP ps).take pi ++ [(x4, y4)] ++ (upP ps).drop pi).length = ps.length + 1 := by
      rw [List.length_append, List.length_append, List.length_take, List.length_drop, List.length_singleton, upP_len]
      omega
    have bad9 : (x4, y4) ∈ (upP ps).take pi ++ [(x4, y4)] ++ (upP ps).drop pi := by simp
    generalize qv.take pi ++ [V.ref t4] ++ qv.drop pi = rv at s9 erx9 hP9 hG9
    generalize (upP ps).take pi ++ [(x4, y4)] ++ (upP ps).drop pi = qs at hP9 mid9 len9 bad9
    generalize upd H8 rx (.lst rv) = H9 at s9 erx9 hP9 hG9 ⊢
    have rvl : rv.length = ps.length + 1 := by rw [hP9.len, len9]
    -- if drawn[0] > 3
    refine ifLs (Pst := fun H' => ∃ us qs', Same H H' ∧ H' rx = some (.lst us) ∧ PI K H' us qs' ∧ MidP qs' ∧ qs'.length ≤ 200 ∧ (x4, y4) ∈ qs') ?_ ?_
    · intro Qb qf qt
      refine ⟨_, rfl, dp, _, 0, nV d0, rfl, rfl, hG9, at_n (j := 0) rfl, _, _, rfl, rfl, _, rfl, ?_⟩
      cases cc : decide ((3 : Int) < (d0 : Int)) with
      | false => exact qf H9 ⟨rv, qs, s9, erx9, hP9, mid9, by omega, bad9⟩
      | true =>
        refine qt H9 fun D' hd => ?_
        obtain ⟨pj, epj, hpj⟩ := fmod_nat (d2 : Int) (z := rv.length + 1) (by omega)
        refine ⟨_, rfl, .inl ⟨rfl, _, SqL.of erx9⟩, _, rfl, dp, _, 2, nV d2, rfl, rfl, hG9, at_n (j := 2) rfl, .inl ⟨_, rfl, _, rfl, rx, _, rfl, .inl (SqL.of erx9), _, _, rfl, rfl, _, _, rfl, rfl, (by show ((rv.length : Nat) : Int) + 1 ≠ 0; omega), ?_⟩⟩
        dsimp only
        rw [show ((rv.length : Nat) : Int) + 1 = ((rv.length + 1 : Nat) : Int) by omega, epj]
        refine ⟨_, rfl, _, rfl, sp2, fun t nt => ?_⟩
        have sA : Same H9 (upd H9 t (.tup [nV g, nV m])) := (Same.refl H9).new nt
        have etA : (upd H9 t (.tup [nV g, nV m])) t = some (.tup [nV g, nV m]) := upd_same
        generalize upd H9 t (.tup [nV g, nV m]) = HA at sA etA ⊢
        have erxA := sA _ _ erx9
        refine ⟨rx, _, (pj : Int), _, rfl, rfl, erxA, by rw [rvl]; exact szl (by omega), by omega, by omega, ?_⟩
        rw [show ((pj : Nat) : Int).toNat = pj by omega]
        refine hd _ ⟨_, qs.take pj ++ [((g : Int), (m : Int))] ++ qs.drop pj, (s9.trans sA).mut nrx0, upd_same, ?_, fun y hy => ?_, ?_, ?_⟩
        · have a := (PI.same hP9 sA).mutL (x := .lst (rv.take pj ++ [V.ref t] ++ rv.drop pj)) erxA
          exact P_append (P_append (P_take pj a) (.cons ⟨t, rfl, sqT_mutL (SqT.of etA) erxA⟩ .nil)) (P_drop pj a)
        · rcases List.mem_append.mp hy with hy | hy
          · rcases List.mem_append.mp hy with hy | hy
            · exact mid9 y (List.mem_of_mem_take hy)
            · rw [List.mem_singleton.mp hy]
              have e16 : (10 : Nat) ^ 16 = 10000000000000000 := by decide
              unfold Mid
              rw [e16]
              dsimp only
              omega
          · exact mid9 y (List.mem_of_mem_drop hy)
        · rw [List.length_append, List.length_append, List.length_take, List.length_drop, List.length_singleton]
          omega
        · have : (x4, y4) ∈ qs.take pj ++ qs.drop pj := by rw [List.take_append_drop]; exact bad9
          rcases List.mem_append.mp this with h | h
          · exact List.mem_append_left _ (List.mem_append_left _ h)
          · exact List.mem_append_right _ h
    · rintro HB ⟨us, qs', sB, erB, hPB, midB, lenB, badB⟩
      exact ⟨_, rfl, q rx us qs' HB sB nrx0 erB hPB midB lenB ⟨_, badB, p3⟩⟩
/-! ### the first that is no piece, by the law -/
def sp_flaw (K : PySem.W.Frag) : Sp := fun vs H Q _ => ∃ (a : Addr) (us : List V) (qs : List P2) (m : Nat), vs = [nV m, .ref a] ∧ SqL K H a us ∧ PI K H us qs ∧ (∃ q ∈ qs, ¬ Okp (m : Int) q) ∧ ∀ z, FF (m : Int) qs z → Q (.int z) H
theorem ok_flaw {f : Addr} {fd : FuncData} (F : Fun K "_law_first_flaw" "_law_first_flaw" s_law_first_flaw f fd) (T : Txt mg) : FnOk P w K mg base CX0 1 f fd ["count", "rows"] (sp_flaw K) := by
  refine F.ok sc_law_first_flaw (fun vs H Q E h => ?_) (fun cdv A outer s H vs Q E hr h => ?_)
  · obtain ⟨a, us, qs, m, rfl, _⟩ := h
    rfl
  · obtain ⟨a, us, qs, m, rfl, hS, hP, nf, q⟩ := h
    refine ⟨_, (pss_cons (ps_for PassesOwn.never rfl (pi_list (pv 1)) (pg_name (i := 2) sc_law_first_flaw.nd rfl (.inl rfl))
 (pss_one (ps_for PassesOwn.never rfl (pi_tup (pv 2)) (pg_name (i := 3) sc_law_first_flaw.nd rfl (.inl rfl))
 (pss_one (ps_if (pt_not (pt_chain op_le op_lt pe_int (pv 3) (pv 0)))
 (pss_one (ps_ret (pv 3)))
 pss_nil)))))
 (pss_one (ps_ret pe_int))), ?_⟩
    refine ⟨_, rfl, a, rfl, ⟨_, hS⟩, for_list (K := K) (a := a) (xs := us) (fun i σ H' => ∃ v2 v3 : Option V, σ = [some (nV m), some (.ref a), v2, v3] ∧ H' = H ∧ ∀ (j : Nat) (y : P2), j < i → qs[j]? = some y → Okp (m : Int) y) ⟨_, _, rfl, rfl, fun j y h => absurd h (Nat.not_lt_zero j)⟩ (fun i σ H' _ ⟨_, _, _, e, _⟩ => by rw [e]; exact hS) ?_ ?_⟩
    · rintro i x σ H0 hi ⟨v2, v3, rfl, rfl, fine⟩
      obtain ⟨y, hy, t, rfl, et⟩ := P_right hP hi
      refine ⟨_, rfl, t, rfl, ⟨_, et⟩, for_tup (K := K) (a := t) (xs := [.int y.1, .int y.2]) (fun j σ H' => ∃ v3 : Option V, σ = [some (nV m), some (.ref a), some (.ref t), v3] ∧ H' = H0 ∧ (0 < j → Okn (m : Int) y.1) ∧ (1 < j → Okn (m : Int) y.2)) ⟨v3, rfl, rfl, fun h => absurd h (by decide), fun h => absurd h (by decide)⟩ (fun i σ H' _ ⟨_, _, e, _⟩ => by rw [e]; exact et) ?_ ?_⟩
      · rintro j x σ H1 hj ⟨v3, rfl, rfl, o1, o2⟩
        have key : ∃ z : Int, x = .int z ∧ (¬ Okn (m : Int) z → FF (m : Int) qs z) ∧ (Okn (m : Int) z → (0 < j + 1 → Okn (m : Int) y.1) ∧ (1 < j + 1 → Okn (m : Int) y.2)) := by
          match j, hj, o1, o2 with
          | 0, hj, o1, o2 =>
            cases hj
            exact ⟨y.1, rfl, fun b => .fst hy b fine, fun o => ⟨fun _ => o, fun h => absurd h (by decide)⟩⟩
          | 1, hj, o1, o2 =>
            cases hj
            exact ⟨y.2, rfl, fun b => .snd hy (o1 (by decide)) b fine, fun o => ⟨fun _ => o1 (by decide), fun _ => o⟩⟩
          | j + 2, hj, _, _ => cases hj
        obtain ⟨z, rfl, bad, good⟩ := key
        refine ⟨_, rfl, _, _, rfl, rfl, _, rfl, ?_⟩
        by_cases c1' : ¬ ((0 : Int) ≤ z)
        · have c1 := c1'
          rw [decide_eq_false c1]
          exact iteF ⟨_, rfl, iteT ⟨_, rfl, q z (bad fun o => c1 o.1)⟩⟩
        have c1 := Decidable.not_not.mp c1'
        rw [decide_eq_true c1]
        refine iteT ⟨_, rfl, _, _, rfl, rfl, _, rfl, ?_⟩
        by_cases c2' : ¬ (z < (m : Int))
        · have c2 := c2'
          rw [decide_eq_false c2]
          exact iteT ⟨_, rfl, q z (bad fun o => by have := o.2; omega)⟩
        have c2 := Decidable.not_not.mp c2'
        rw [decide_eq_true c2]
        exact iteF ⟨_, rfl, rfl, good ⟨c1, by omega⟩⟩
      · rintro σ H1 ⟨v3, rfl, rfl, o1, o2⟩
        refine ⟨_, _, rfl, rfl, fun j y' hj hy' => ?_⟩
        by_cases e : j = i
        · subst e
          rw [hy] at hy'
          cases hy'
          exact ⟨o1 (by show 0 < 2; decide), o2 (by show 1 < 2; decide)⟩
        · exact fine j y' (by omega) hy'
    · rintro σ H0 ⟨v2, v3, rfl, rfl, fine⟩
      obtain ⟨y, hy, nok⟩ := nf
      obtain ⟨j, hj⟩ := List.getElem?_of_mem hy
      exact (nok (fine j y (by rw [hP.len]; exact lt_get hj) hj)).elim
end
end K28W

namespace K28W
open PySem PySem.Spec PyProof.Rows L2 KH K28 KD
abbrev s_law_refused : Stmt := topS 32
theorem sc_law_refused : FnScope ["times", "rows", "longest", "word", "number", "passed_times", "passed", "e"] ["times", "rows", "longest", "word", "number"] (defScope s_law_refused) := ⟨rfl, rfl, rfl, by decide +kernel, rfl, by decide +kernel, by decide +kernel⟩

theorem FF.uniq {m z z' : Int} {ts : List P2} (f : FF m ts z) (g : FF m ts z') : z = z' := by
  have same : ∀ {k k' : Nat} {q q' : P2}, ts[k]? = some q → ts[k']? = some q' → ¬ Okp m q → ¬ Okp m q' → (∀ (j : Nat) (y : P2), j < k → ts[j]? = some y → Okp m y) → (∀ (j : Nat) (y : P2), j < k' → ts[j]? = some y → Okp m y) → q = q' := by
    intro k k' q q' h h' b b' f f'
    rcases Nat.lt_trichotomy k k' with c | c | c
    · exact (b (f' k q c h)).elim
    · subst c
      rw [h] at h'
      exact Option.some.inj h'
    · exact (b' (f k' q' c h')).elim
  cases f with
  | fst h b f =>
    cases g with
    | fst h' b' f' => rw [same h h' (fun z => b z.1) (fun z => b' z.1) f f']
    | snd h' o' b' f' =>
      have e := same h h' (fun z => b z.1) (fun z => b' z.2) f f'
      rw [e] at b
      exact (b o').elim
  | snd h o b f =>
    cases g with
    | fst h' b' f' =>
      have e := same h h' (fun z => b z.2) (fun z => b' z.1) f f'
      rw [← e] at b'
      exact (b' o).elim
    | snd h' o' b' f' => rw [same h h' (fun z => b z.2) (fun z => b' z.2) f f']
theorem lk_what2 {x y : V} : List.lookup ("what" : Str) [(("most" : Str), x), (("what" : Str), y)] = some y := by
  have e : (("what" : Str) == ("most" : Str)) = false := by decide
  simp [List.lookup, e]
theorem lk_most {x y : V} : List.lookup ("most" : Str) [(("most" : Str), x), (("what" : Str), y)] = some x := by simp [List.lookup]
section
variable {P : Program} {w : World} {K : PySem.W.Frag} {mg : Str → Option Value} {base : Heap} {CN CB CD CT CU fI fJ : Addr}
inductive Ref (T qs : List P2) : Str → Int → Prop
  | pieces : 8 < T.length → Ref T qs "pieces" 8
  | piece (z : Int) : T.length ≤ 8 → FF (T.length : Int) qs z → Ref T qs "piece" z
def sp_refused (K : PySem.W.Frag) : Sp := fun vs H Q _ => ∃ (ta ra : Addr) (lg : Int) (word : Str) (number : Int) (tv qv : List V) (T qs : List P2), vs = [.ref ta, .ref ra, .int lg, .str word, .int number] ∧ SqL K H ta tv ∧ PI K H tv T ∧ SqL K H ra qv ∧ PI K H qv qs ∧ MidP T ∧ MidP qs ∧ T.length ≤ 200 ∧ qs.length ≤ 200 ∧ Ref T qs word number ∧ ∀ H', Same H H' → Q (.bl true) H'
theorem ok_refused {f f1 f2 : Addr} {fd fd1 fd2 : FuncData} (F : Fun K "_law_refused" "_law_refused" s_law_refused f fd) (T : Txt mg) (XB : Exc P K mg CN CB CD CT CU fI) (XT : Exm P K mg CN CB CD CT CU fJ) (Cfewest_shifts : CalX P w K mg base 4 "fewest_shifts" ["spans", "follows", "longest"] (sp_fewest K CN CT) f1 fd1)
    (C_law_number : CalQ P w K mg base 1 "_law_number" ["thing"] sp_number f2 fd2) : FnOkG P w K mg base 5 f fd ["times", "rows", "longest", "word", "number"] (sp_refused K) := by
  refine F.okG sc_law_refused (fun vs H Q E h => ?_) (fun cdv A outer s H vs Q E gA0 hr h => ?_)
  · obtain ⟨ta, ra, lg, word, number, tv, qv, T, qs, rfl, _⟩ := h
    rfl
  · obtain ⟨ta, ra, lg, word, number, tv, qv, tm, qs, rfl, hT, hTP, hR, hQP, mT, mQ, lT, lQ, ref, q⟩ := h
    have gA : (A.deeper (envOfC "_law_refused" (defScope s_law_refused) s.heap.objs.size f cdv)).guards = some [] := gA0
    have S1 := dPs_shows mT (by omega)
    have S2 := dPs_shows mQ (by omega)
    have nW : PySem.W.findIn K (.ref CN) "what" = some none := XB.own.noN "what" (by simp)
    have nV' : PySem.W.findIn K (.ref CN) "value" = some none := XB.own.noN "value" (by simp)
    have mW : PySem.W.findIn K (.ref CT) "what" = some none := XT.own.noN "what" (by simp)
    have mM : PySem.W.findIn K (.ref CT) "most" = some none := XT.own.noN "most" (by simp)
    refine ⟨_, (pss_cons (ps_set (i := 5) sc_law_refused.nd rfl (.inl rfl) (pe_callTy call_list_of (by rfl) T.list (by decide +kernel) (pa_cons (pv 0) pa_nil)))
      (pss_cons (ps_set (i := 6) sc_law_refused.nd rfl (.inl rfl) (pe_callTy call_list_of (by rfl) T.list (by decide +kernel) (pa_cons (pv 1) pa_nil)))
      (pss_cons (ps_try_as (i := 7) (tb := fun W => tDrop (tCallS (sp_fewest K CN CT) (WE W) (tCons (tVar 5) (tCons (tVar 6) (tCons (tVar 2) tNil))))) (Wout := fun _ _ _ _ => False) rfl rfl sc_law_refused.nd rfl rfl ⟨rfl, by decide, Or.inl XB.gB⟩ takes0
          (fun W pn xe tk _ => pss_one (ps_expr (by exact (pe_callS Cfewest_shifts.ok (hr.mono (by decide)) rfl Cfewest_shifts.mg Cfewest_shifts.kp Cfewest_shifts.b (fun σ => passAt tk σ) (by exact (pa_cons (pv 5) (pa_cons (pv 6) (pa_cons (pv 2) pa_nil))))))))
          (fun a oe cls d pn hz hf => (pss_cons (ps_if (PW.pt (pw_or (pt_val (pe_callB (r := rIsCT K a cls d) (call_isCT hz hf) (by rfl) T.isinstance (by decide +kernel) (pa_cons (pv 7) (pa_cons (pe_tup (pa_cons (pe_glob (v := .ref CD) rfl XB.gD rfl) (pa_cons (pe_glob (v := .ref CU) rfl XB.gU rfl) pa_nil))) pa_nil)))) (pw_or (pt_cmpR op_ne (pe_callB (r := rRepr K) (call_reprD gA hr.units) (by rfl) T.repr (by decide +kernel) (pa_cons (pv 5) pa_nil)) (pe_callB (r := rRepr K) (call_reprD gA hr.units) (by rfl) T.repr (by decide +kernel) (pa_cons (pv 0) pa_nil)) (nomark _)) (pw_or1 (pt_cmpR op_ne (pe_callB (r := rRepr K) (call_reprD gA hr.units) (by rfl) T.repr (by decide +kernel) (pa_cons (pv 6) pa_nil)) (pe_callB (r := rRepr K) (call_reprD gA hr.units) (by rfl) T.repr (by decide +kernel) (pa_cons (pv 1) pa_nil)) (nomark _))))))
            (pss_one (ps_ret pe_bl)) pss_nil)
            (pss_cons (ps_if (pt_cmpR op_eq (pv 3) pe_str (nomark _))
              (pss_cons (ps_if (PW.pt (pw_or (pt_not (pt_val (pe_callB (r := rIsC K a cls d) (call_isC hz hf) (by rfl) T.isinstance (by decide +kernel) (pa_cons (pv 7) (pa_cons (pe_glob (v := .ref CT) rfl XB.gT rfl) pa_nil))))) (pw_or1 (pt_val (pe_callB (r := rIsC K a cls d) (call_isC hz hf) (by rfl) T.isinstance (by decide +kernel) (pa_cons (pv 7) (pa_cons (pe_glob (v := .ref CN) rfl XB.gN rfl) pa_nil)))))))
                (pss_one (ps_ret pe_bl)) pss_nil)
              (pss_one (ps_ret (pe_and (pe_callB (r := rIsi K) call_isi (by rfl) T.isinstance (by decide +kernel) (pa_cons (pe_xf XT.xf mW hz hf (pv 7)) (pa_cons (pe_bltn (v := .ty "str") (by rfl) T.str (by decide +kernel) rfl) pa_nil))) (pe_and (pe_cmpR op_eq (pe_xf XT.xf mW hz hf (pv 7)) (pv 3) (nomark _)) (pe_and (pe_callQ C_law_number.ok ⟨(hr.mono (j := 1) (by decide)).dp, (hr.mono (j := 1) (by decide)).un⟩ (by rfl) C_law_number.mg C_law_number.kp C_law_number.b (pa_cons (pe_xf XT.xf mM hz hf (pv 7)) pa_nil)) (pe_one (pe_cmpR op_eq (pe_xf XT.xf mM hz hf (pv 7)) (pv 4) (nomark _)))))))))
              pss_nil)
            (pss_cons (ps_if (PW.pt (pw_or (pt_not (pt_val (pe_callB (r := rIsC K a cls d) (call_isC hz hf) (by rfl) T.isinstance (by decide +kernel) (pa_cons (pv 7) (pa_cons (pe_glob (v := .ref CN) rfl XB.gN rfl) pa_nil))))) (pw_or1 (pt_val (pe_callB (r := rIsC K a cls d) (call_isC hz hf) (by rfl) T.isinstance (by decide +kernel) (pa_cons (pv 7) (pa_cons (pe_glob (v := .ref CT) rfl XB.gT rfl) pa_nil)))))))
              (pss_one (ps_ret pe_bl)) pss_nil)
            (pss_one (ps_ret (pe_and (pe_callB (r := rIsi K) call_isi (by rfl) T.isinstance (by decide +kernel) (pa_cons (pe_xf XB.xf nW hz hf (pv 7)) (pa_cons (pe_bltn (v := .ty "str") (by rfl) T.str (by decide +kernel) rfl) pa_nil))) (pe_and (pe_cmpR op_eq (pe_xf XB.xf nW hz hf (pv 7)) (pv 3) (nomark _)) (pe_and (pe_callQ C_law_number.ok ⟨(hr.mono (j := 1) (by decide)).dp, (hr.mono (j := 1) (by decide)).un⟩ (by rfl) C_law_number.mg C_law_number.kp C_law_number.b (pa_cons (pe_xf XB.xf nV' hz hf (pv 7)) pa_nil)) (pe_one (pe_cmpR op_eq (pe_xf XB.xf nV' hz hf (pv 7)) (pv 4) (nomark _)))))))))))))
      (pss_one (ps_ret pe_bl))))), ?_⟩
    refine ⟨_, rfl, ta, tv, rfl, .inl hT, fun pt npt => ?_⟩
    have s1 : Same H (upd H pt (.lst tv)) := (Same.refl H).new npt
    have ept : (upd H pt (.lst tv)) pt = some (.lst tv) := upd_same
    generalize upd H pt (.lst tv) = H1 at s1 ept ⊢
    refine ⟨_, rfl, ra, qv, rfl, .inl (s1.seq hR), fun pd npd => ?_⟩
    have s2 : Same H1 (upd H1 pd (.lst qv)) := (Same.refl H1).new npd
    have epd : (upd H1 pd (.lst qv)) pd = some (.lst qv) := upd_same
    generalize upd H1 pd (.lst qv) = H2 at s2 epd ⊢
    have t2 := s1.trans s2
    have ept2 := s2 _ _ ept
    cases ref with
    | pieces h8 =>
      refine ⟨_, rfl, _, rfl, _, rfl, pt, pd, lg, tv, qv, tm, qs, rfl, Sq.of ept2, hTP.same t2, Sq.of epd, hQP.same t2, fun _ d H3 s3 nd ed => ?_, fun c => absurd c (by omega), fun c => absurd c (by omega)⟩
      have t3 := t2.trans s3
      refine ⟨true, XT.te, fun _ x nx => ?_, fun z => Bool.noConfusion z⟩
      refine ⟨_, rfl, sp2, fun tp ntp => ?_⟩
      have s4 : Same H3 (upd H3 tp (.tup [.ref CD, .ref CU])) := (Same.refl H3).new ntp
      have etp : (upd H3 tp (.tup [.ref CD, .ref CU])) tp = some (.tup [.ref CD, .ref CU]) := upd_same
      generalize upd H3 tp (.tup [.ref CD, .ref CU]) = H4 at s4 etp ⊢
      have ed4 := s4 _ _ ed
      have t4 := t3.trans s4
      have s24 := s3.trans s4
      refine ⟨CT, tp, _, _, false, rfl, ⟨rfl, XT.ec, d, _, rfl, ed4⟩, etp, .cons (.own CD) (.cons (.own CU) .nil), XT.kO, _, rfl, iteF ?_⟩
      refine ⟨_, rfl, pt, _, rfl, dpPs (SqL.of (s24 _ _ ept2)) (hTP.same t4), S1.sh, S1.nd, S1.dp, S1.sz, _, rfl, ta, _, rfl, dpPs (t4.seq hT) (hTP.same t4), S1.sh, S1.nd, S1.dp, S1.sz, rfl, _, rfl, ?_⟩
      rw [decide_eq_true rfl]
      refine iteF ?_
      refine ⟨_, rfl, pd, _, rfl, dpPs (SqL.of (s24 _ _ epd)) (hQP.same t4), S2.sh, S2.nd, S2.dp, S2.sz, _, rfl, ra, _, rfl, dpPs (t4.seq hR) (hQP.same t4), S2.sh, S2.nd, S2.dp, S2.sz, rfl, _, rfl, ?_⟩
      rw [decide_eq_true rfl]
      refine iteF ?_
      refine ⟨_, rfl, rfl, _, rfl, ?_⟩
      rw [decide_eq_true rfl]
      refine iteT ⟨_, rfl, CT, _, _, true, rfl, ⟨rfl, XT.ec, d, _, rfl, ed4⟩, .own CT, XT.kT, _, rfl, iteF ?_⟩
      refine ⟨_, rfl, CT, _, _, false, rfl, ⟨rfl, XT.ec, d, _, rfl, ed4⟩, .own CN, XT.kN, _, rfl, iteF ?_⟩
      refine ⟨_, rfl, rfl, rfl, d, _, _, rfl, ed4, lk_what2, _, _, _, _, true, rfl, .ty "str", .base (.str _), kit_ty (by decide +kernel), _, rfl, iteT ?_⟩
      refine ⟨_, rfl, rfl, rfl, d, _, _, rfl, ed4, lk_what2, _, rfl, rfl, _, rfl, ?_⟩
      rw [decide_eq_true rfl]
      refine iteT ⟨_, rfl, rfl, rfl, d, _, _, rfl, ed4, lk_most, _, rfl, _, rfl, iteT ?_⟩
      refine ⟨_, rfl, rfl, rfl, d, _, _, rfl, ed4, lk_most, _, rfl, rfl, ?_⟩
      rw [decide_eq_true rfl]
      exact q H4 t4
    | piece z h8 ff =>
      refine ⟨_, rfl, _, rfl, _, rfl, pt, pd, lg, tv, qv, tm, qs, rfl, Sq.of ept2, hTP.same t2, Sq.of epd, hQP.same t2, fun c => absurd c (by omega), fun _ z' ff' d H3 s3 nd ed => ?_, fun _ ps e wi => by subst e; exact (ff.no wi).elim⟩
      obtain rfl := ff'.uniq ff
      have t3 := t2.trans s3
      refine ⟨true, XB.te, fun _ x nx => ?_, fun z => Bool.noConfusion z⟩
      refine ⟨_, rfl, sp2, fun tp ntp => ?_⟩
      have s4 : Same H3 (upd H3 tp (.tup [.ref CD, .ref CU])) := (Same.refl H3).new ntp
      have etp : (upd H3 tp (.tup [.ref CD, .ref CU])) tp = some (.tup [.ref CD, .ref CU]) := upd_same
      generalize upd H3 tp (.tup [.ref CD, .ref CU]) = H4 at s4 etp ⊢
      have ed4 := s4 _ _ ed
      have t4 := t3.trans s4
      have s24 := s3.trans s4
      refine ⟨CN, tp, _, _, false, rfl, ⟨rfl, XB.ec, d, _, rfl, ed4⟩, etp, .cons (.own CD) (.cons (.own CU) .nil), XB.kO, _, rfl, iteF ?_⟩
      refine ⟨_, rfl, pt, _, rfl, dpPs (SqL.of (s24 _ _ ept2)) (hTP.same t4), S1.sh, S1.nd, S1.dp, S1.sz, _, rfl, ta, _, rfl, dpPs (t4.seq hT) (hTP.same t4), S1.sh, S1.nd, S1.dp, S1.sz, rfl, _, rfl, ?_⟩
      rw [decide_eq_true rfl]
      refine iteF ?_
      refine ⟨_, rfl, pd, _, rfl, dpPs (SqL.of (s24 _ _ epd)) (hQP.same t4), S2.sh, S2.nd, S2.dp, S2.sz, _, rfl, ra, _, rfl, dpPs (t4.seq hR) (hQP.same t4), S2.sh, S2.nd, S2.dp, S2.sz, rfl, _, rfl, ?_⟩
      rw [decide_eq_true rfl]
      refine iteF ?_
      refine ⟨_, rfl, rfl, _, rfl, ?_⟩
      rw [decide_eq_false (show ¬ V.str "piece" = V.str "pieces" by decide)]
      refine iteF ⟨_, rfl, CN, _, _, true, rfl, ⟨rfl, XB.ec, d, _, rfl, ed4⟩, .own CN, XB.kN, _, rfl, iteF ?_⟩
      refine ⟨_, rfl, CN, _, _, false, rfl, ⟨rfl, XB.ec, d, _, rfl, ed4⟩, .own CT, XB.kT, _, rfl, iteF ?_⟩
      refine ⟨_, rfl, rfl, rfl, d, _, _, rfl, ed4, lk_what, _, _, _, _, true, rfl, .ty "str", .base (.str _), kit_ty (by decide +kernel), _, rfl, iteT ?_⟩
      refine ⟨_, rfl, rfl, rfl, d, _, _, rfl, ed4, lk_what, _, rfl, rfl, _, rfl, ?_⟩
      rw [decide_eq_true rfl]
      refine iteT ⟨_, rfl, rfl, rfl, d, _, _, rfl, ed4, lk_value, _, rfl, _, rfl, iteT ?_⟩
      refine ⟨_, rfl, rfl, rfl, d, _, _, rfl, ed4, lk_value, _, rfl, rfl, ?_⟩
      rw [decide_eq_true rfl]
      exact q H4 t4
end
end K28W

namespace K28W
open PySem PySem.Spec PyProof.Rows L2 KH K28 KD
abbrev slaw : Stmt := topS 33
theorem sclaw : FnScope ["script", "shape", "count", "times", "pairs", "top", "longest", "due", "less", "rows", "span", "k"] ["script"] (defScope slaw) := ⟨rfl, rfl, rfl, by decide +kernel, rfl, by decide +kernel, by decide +kernel⟩

theorem ifsetQ {t : TT} {e1 : TE} {i1 : Nat} {rest : TS} {D : Ends} {σ : L2.St} {H : Hp} {w1 : V} (Pst : V → Hp → Prop) (ht : ∀ Q : Bool → Hp → Prop, (∀ b, Q b H) → t σ H Q) (h1 : σ[i1]? = some (some w1)) (h0 : Pst w1 H)
    (ev1 : ∀ Q : VK, (∀ v H', Pst v H' → Q v H') → e1 σ H Q) (q : ∀ u1 H', Pst u1 H' → rest D (σ.set i1 (some u1)) H') : tSeq (tIfS t (tAsg e1 (gName i1)) tNext) rest D σ H := by
  refine ht _ fun b => ?_
  cases b with
  | true =>
    rw [if_pos rfl]
    exact ev1 _ (fun v H' p => q v H' p)
  | false =>
    rw [if_neg Bool.false_ne_true]
    have := q w1 H h0
    rw [set_self h1] at this
    exact this
def difs (T : List P2) : List Int := T.map fun q => q.2 - q.1
theorem P_mid {T T' : List P2} (h : MidP T) (h' : MidP T') : MidP (T ++ T') := fun q hq => (List.mem_append.mp hq).elim (h q) (h' q)
section
variable {P : Program} {w : World} {K : PySem.W.Frag} {mg : Str → Option Value} {base : Heap} {CN CB CD CT CU fI fJ : Addr}
def sp_law (K : PySem.W.Frag) : Sp := fun vs H Q _ => ∃ (a : Addr) (ns : List Int), vs = [.ref a] ∧ SqL K H a (ns.map V.int) ∧ ns.length ≤ 63 ∧ ∀ H', Q (.bl true) H'
theorem ok_law {f f1 f2 f3 f4 f5 f6 f7 f8 f9 fA fB fC : Addr} {fd fd1 fd2 fd3 fd4 fd5 fd6 fd7 fd8 fd9 fdA fdB fdC : FuncData} (F : Fun K "law" "law" slaw f fd) (T : Txt mg) (C_law_cell : Cal P w K mg base 1 "_law_cell" ["script", "k"] (sp_cell K) f1 fd1) (C_law_draws : Cal P w K mg base 1 "_law_draws" ["cell", "sizes"] (sp_draws K) f2 fd2)
    (C_law_times : Cal P w K mg base 2 "_law_times" ["cell", "count", "wide"] (sp_times K) f3 fd3) (C_law_some_pairs : Cal P w K mg base 2 "_law_some_pairs" ["cell", "count", "number"] (sp_pairs K) f4 fd4) (C_law_ordered_pairs : Cal P w K mg base 2 "_law_ordered_pairs" ["cell", "count"] (sp_ordered K) f5 fd5)
    (C_law_due : Cal P w K mg base 2 "_law_due" ["times", "pairs", "longest"] (sp_due K) f6 fd6) (C_law_answered : CalG P w K mg base 5 "_law_answered" ["times", "pairs", "longest", "due"] (sp_answered K) f7 fd7) (C_law_right : Cal P w K mg base 3 "_law_right" ["told", "due"] (sp_right K) f8 fd8)
    (Cfewest_shifts : CalX P w K mg base 4 "fewest_shifts" ["spans", "follows", "longest"] (sp_fewest K CN CT) f9 fd9) (C_law_flawed : Cal P w K mg base 2 "_law_flawed" ["cell", "count", "pairs"] (sp_flawed K) fA fdA) (C_law_refused : CalG P w K mg base 5 "_law_refused" ["times", "rows", "longest", "word", "number"] (sp_refused K) fB fdB)
    (C_law_first_flaw : Cal P w K mg base 1 "_law_first_flaw" ["count", "rows"] (sp_flaw K) fC fdC) : FnOkG P w K mg base 6 f fd ["script"] (sp_law K) := by
  refine F.okG sclaw (fun vs H Q E h => ?_) (fun cdv A outer s H vs Q E gA0 hr h => ?_)
  · obtain ⟨a, ns, rfl, _⟩ := h
    rfl
  · obtain ⟨a, ns, rfl, hS, hns, q⟩ := h
    have gA : (A.deeper (envOfC "law" (defScope slaw) s.heap.objs.size f cdv)).guards = some [] := gA0
    refine ⟨_, (pss_cons (ps_set (i := 1) sclaw.nd rfl (.inl rfl) (pe_call C_law_draws.ok (hr.mono (by decide)) (by rfl) C_law_draws.mg C_law_draws.kp C_law_draws.b .nil pass0 (pa_cons (pe_call C_law_cell.ok (hr.mono (by decide)) (by rfl) C_law_cell.mg C_law_cell.kp C_law_cell.b .nil pass0 (pa_cons (pv 0) (pa_cons pe_int pa_nil))) (pa_cons (pe_lst (pa_cons pe_int (pa_cons pe_int (pa_cons pe_int (pa_cons pe_int (pa_cons pe_int (pa_cons pe_int (pa_cons pe_int pa_nil)))))))) pa_nil))))
 (pss_cons (ps_set (i := 2) sclaw.nd rfl (.inl rfl) (pe_ix ix_list (pv 1) pe_int (fun _ _ => rfl)))
 (pss_cons (ps_if (pt_cmpR op_eq (pe_ix ix_list (pv 1) pe_int (fun _ _ => rfl)) pe_int (nomark _))
 (pss_one (ps_set (i := 2) sclaw.nd rfl (.inl rfl) (pe_op op_add pe_int (pe_ix ix_list (pv 1) pe_int (fun _ _ => rfl)))))
 pss_nil)
 (pss_cons (ps_if (pt_cmpR op_eq (pe_ix ix_list (pv 1) pe_int (fun _ _ => rfl)) pe_int (nomark _))
 (pss_one (ps_set (i := 2) sclaw.nd rfl (.inl rfl) pe_int))
 pss_nil)
 (pss_cons (ps_set (i := 3) sclaw.nd rfl (.inl rfl) (pe_call C_law_times.ok (hr.mono (by decide)) (by rfl) C_law_times.mg C_law_times.kp C_law_times.b .nil pass0 (pa_cons (pe_call C_law_cell.ok (hr.mono (by decide)) (by rfl) C_law_cell.mg C_law_cell.kp C_law_cell.b .nil pass0 (pa_cons (pv 0) (pa_cons pe_int pa_nil))) (pa_cons (pv 2) (pa_cons (pe_cmpR op_eq (pe_ix ix_list (pv 1) pe_int (fun _ _ => rfl)) pe_int (nomark _)) pa_nil)))))
 (pss_cons (ps_set (i := 4) sclaw.nd rfl (.inl rfl) (pe_call C_law_some_pairs.ok (hr.mono (by decide)) (by rfl) C_law_some_pairs.mg C_law_some_pairs.kp C_law_some_pairs.b .nil pass0 (pa_cons (pe_call C_law_cell.ok (hr.mono (by decide)) (by rfl) C_law_cell.mg C_law_cell.kp C_law_cell.b .nil pass0 (pa_cons (pv 0) (pa_cons pe_int pa_nil))) (pa_cons (pv 2) (pa_cons (pe_ix ix_list (pv 1) pe_int (fun _ _ => rfl)) pa_nil)))))
 (pss_cons (ps_if (pt_cmpR op_eq (pe_ix ix_list (pv 1) pe_int (fun _ _ => rfl)) pe_int (nomark _))
 (pss_one (ps_set (i := 4) sclaw.nd rfl (.inl rfl) (pe_call C_law_ordered_pairs.ok (hr.mono (by decide)) (by rfl) C_law_ordered_pairs.mg C_law_ordered_pairs.kp C_law_ordered_pairs.b .nil pass0 (pa_cons (pe_call C_law_cell.ok (hr.mono (by decide)) (by rfl) C_law_cell.mg C_law_cell.kp C_law_cell.b .nil pass0 (pa_cons (pv 0) (pa_cons pe_int pa_nil))) (pa_cons (pv 2) pa_nil)))))
 pss_nil)
 (pss_cons (ps_set (i := 5) sclaw.nd rfl (.inl rfl) (pe_callB (cr_max rfl) (by rfl) T.max (by decide +kernel) (pa_cons (pe_op op_cat (pe_lst (pa_cons pe_int pa_nil)) (pe_lc (own := [("span", 10)]) (g := gName 10) (tt := tYes) rfl sclaw.nd (pi_list (pv 3)) (blkOk_by (N := ["script", "shape", "count", "times", "pairs", "top", "longest", "due", "less", "rows", "span", "k"]) (sc := defScope slaw) (by decide +kernel)) (fun _ _ _ _ _ => (pg_name (i := 10) sclaw.nd rfl (.inl rfl))) (fun _ _ _ _ _ => pts_nil) (fun _ _ _ _ _ => (pe_op op_sub (pe_ix (r := rIxT K) ix_tup (pv 10) pe_int (fun _ _ => rfl)) (pe_ix (r := rIxT K) ix_tup (pv 10) pe_int (fun _ _ => rfl)))))) pa_nil)))
 (pss_cons (ps_set (i := 6) sclaw.nd rfl (.inl rfl) (pv 5))
 (pss_cons (ps_if (PW.pt (pw_and (pt_cmpR op_gt (pe_ix ix_list (pv 1) pe_int (fun _ _ => rfl)) pe_int (nomark _)) (pw_and1 (pt_cmpR op_eq (pe_ix ix_list (pv 1) pe_int (fun _ _ => rfl)) pe_int (nomark _)))))
 (pss_one (ps_set (i := 6) sclaw.nd rfl (.inl rfl) (pe_op op_add (pv 5) (pe_ix ix_list (pv 1) pe_int (fun _ _ => rfl)))))
 pss_nil)
 (pss_cons (ps_if (PW.pt (pw_and (pt_cmpR op_gt (pe_ix ix_list (pv 1) pe_int (fun _ _ => rfl)) pe_int (nomark _)) (pw_and1 (pt_cmpR op_gt (pe_ix ix_list (pv 1) pe_int (fun _ _ => rfl)) pe_int (nomark _)))))
 (pss_one (ps_set (i := 6) sclaw.nd rfl (.inl rfl) (pe_op op_add (pv 5) (pe_op op_modN (pe_callTy call_int1 (by rfl) T.int (by decide +kernel) (pa_cons (pe_ix ix_list (pv 1) pe_int (fun _ _ => rfl)) pa_nil)) pe_int))))
 pss_nil)
 (pss_cons (ps_set (i := 7) sclaw.nd rfl (.inl rfl) (pe_call C_law_due.ok (hr.mono (by decide)) (by rfl) C_law_due.mg C_law_due.kp C_law_due.b .nil pass0 (pa_cons (pv 3) (pa_cons (pv 4) (pa_cons (pv 6) pa_nil)))))
 (pss_cons (ps_if (pt_not (pt_val (pe_callG C_law_answered.ok gA (hr.mono (by decide)) (by rfl) C_law_answered.mg C_law_answered.kp C_law_answered.b (pa_cons (pv 3) (pa_cons (pv 4) (pa_cons (pv 6) (pa_cons (pv 7) pa_nil)))))))
 (pss_one (ps_ret pe_bl))
 pss_nil)
 (pss_cons (ps_set (i := 8) sclaw.nd rfl (.inl rfl) (pe_callB (call_max2 rfl) (by rfl) T.max (by decide +kernel) (pa_cons pe_int (pa_cons (pe_op op_sub (pv 5) pe_int) pa_nil))))
 (pss_cons (ps_if (pt_not (pt_val (pe_call C_law_right.ok (hr.mono (by decide)) (by rfl) C_law_right.mg C_law_right.kp C_law_right.b .nil pass0 (pa_cons (pe_call Cfewest_shifts.ok (hr.mono (by decide)) (by rfl) Cfewest_shifts.mg Cfewest_shifts.kp Cfewest_shifts.b .nil passL (pa_cons (pe_callTy call_list_of (by rfl) T.list (by decide +kernel) (pa_cons (pv 3) pa_nil)) (pa_cons (pe_callTy call_list_of (by rfl) T.list (by decide +kernel) (pa_cons (pv 4) pa_nil)) (pa_cons (pv 8) pa_nil)))) (pa_cons (pe_call C_law_due.ok (hr.mono (by decide)) (by rfl) C_law_due.mg C_law_due.kp C_law_due.b .nil pass0 (pa_cons (pv 3) (pa_cons (pv 4) (pa_cons (pv 8) pa_nil)))) pa_nil)))))
 (pss_one (ps_ret pe_bl))
 pss_nil)
 (pss_cons (ps_set (i := 9) sclaw.nd rfl (.inl rfl) (pe_call C_law_flawed.ok (hr.mono (by decide)) (by rfl) C_law_flawed.mg C_law_flawed.kp C_law_flawed.b .nil pass0 (pa_cons (pe_call C_law_cell.ok (hr.mono (by decide)) (by rfl) C_law_cell.mg C_law_cell.kp C_law_cell.b .nil pass0 (pa_cons (pv 0) (pa_cons pe_int pa_nil))) (pa_cons (pv 2) (pa_cons (pv 4) pa_nil)))))
 (pss_cons (ps_if (pt_not (pt_val (pe_callG C_law_refused.ok gA (hr.mono (by decide)) (by rfl) C_law_refused.mg C_law_refused.kp C_law_refused.b (pa_cons (pv 3) (pa_cons (pv 9) (pa_cons (pv 8) (pa_cons pe_str (pa_cons (pe_call C_law_first_flaw.ok (hr.mono (by decide)) (by rfl) C_law_first_flaw.mg C_law_first_flaw.kp C_law_first_flaw.b .nil pass0 (pa_cons (pv 2) (pa_cons (pv 9) pa_nil))) pa_nil))))))))
 (pss_one (ps_ret pe_bl))
 pss_nil)
 (pss_cons (ps_if (pt_not (pt_val (pe_callG C_law_refused.ok gA (hr.mono (by decide)) (by rfl) C_law_refused.mg C_law_refused.kp C_law_refused.b (pa_cons (pe_op op_cat (pv 3) (pe_lc (own := [("k", 11)]) (g := gName 11) (tt := tYes) rfl sclaw.nd (pi_range1 rfl T.range (pa_cons (pe_op op_sub pe_int (pv 2)) pa_nil)) (blkOk_by (N := ["script", "shape", "count", "times", "pairs", "top", "longest", "due", "less", "rows", "span", "k"]) (sc := defScope slaw) (by decide +kernel)) (fun _ _ _ _ _ => (pg_name (i := 11) sclaw.nd rfl (.inl rfl))) (fun _ _ _ _ _ => pts_nil) (fun _ _ _ _ _ => (pe_tup (pa_cons (pv 11) (pa_cons (pe_op op_add (pv 11) pe_int) pa_nil)))))) (pa_cons (pv 9) (pa_cons (pv 8) (pa_cons pe_str (pa_cons pe_int pa_nil))))))))
 (pss_one (ps_ret pe_bl))
 pss_nil)
 (pss_one (ps_ret (pe_call C_law_right.ok (hr.mono (by decide)) (by rfl) C_law_right.mg C_law_right.kp C_law_right.b .nil pass0 (pa_cons (pe_call Cfewest_shifts.ok (hr.mono (by decide)) (by rfl) Cfewest_shifts.mg Cfewest_shifts.kp Cfewest_shifts.b .nil passL (pa_cons (pe_callTy call_list_of (by rfl) T.list (by decide +kernel) (pa_cons (pv 3) pa_nil)) (pa_cons (pe_callTy call_list_of (by rfl) T.list (by decide +kernel) (pa_cons (pv 4) pa_nil)) (pa_cons (pv 6) pa_nil)))) (pa_cons (pv 7) pa_nil))))))))))))))))))))))), ?_⟩
    refine asgN ⟨_, rfl, a, ns, 0, rfl, hS, hns, by decide, fun c H1 s1 => ⟨by show 7 ≤ sizeLine; decide, fun z nz => ⟨z, c, [24, 7, 13, 4, 2001, 4, 2], rfl, SqL.of upd_same, by decide, by decide, fun dp ds H2 s2 ndp edp dr σ' e => ?_⟩⟩⟩
    obtain rfl : σ' = [some (.ref a), some (.ref dp), none, none, none, none, none, none, none, none, none, none] := e.symm
    clear e
    obtain ⟨z0, z1, z2, z3, z4, z5, z6, rfl, b0, b1, b2, b3, b4, b5, b6⟩ : ∃ z0 z1 z2 z3 z4 z5 z6, ds = [z0, z1, z2, z3, z4, z5, z6] ∧ z0 < 24 ∧ z1 < 7 ∧ z2 < 13 ∧ z3 < 4 ∧ z4 < 2001 ∧ z5 < 4 ∧ z6 < 2 := by
      cases dr with | cons h0 dr => cases dr with | cons h1 dr => cases dr with | cons h2 dr => cases dr with | cons h3 dr => cases dr with | cons h4 dr => cases dr with | cons h5 dr => cases dr with | cons h6 dr => cases dr with | nil => exact ⟨_, _, _, _, _, _, _, rfl, h0, h1, h2, h3, h4, h5, h6⟩
    have t2 : Same H H2 := (s1.new nz).trans s2
    have hG : SqL K H2 dp ([z0, z1, z2, z3, z4, z5, z6].map nV) := SqL.of edp
    -- count
    refine asgN ⟨_, rfl, dp, _, 1, nV z1, rfl, rfl, hG, at_n (j := 1) rfl, fun σ' e => ?_⟩
    obtain rfl : σ' = [some (.ref a), some (.ref dp), some (nV z1), none, none, none, none, none, none, none, none, none] := e.symm
    clear e
    refine ifsetQ (fun u H' => H' = H2 ∧ ∃ m : Nat, u = nV m ∧ m ≤ 8) (fun Q' hq => ⟨_, rfl, dp, _, 0, nV z0, rfl, rfl, hG, at_n (j := 0) rfl, rfl, _, rfl, hq _⟩) rfl ⟨rfl, z1, rfl, by omega⟩
      (fun Q' hq => ⟨_, rfl, dp, _, 6, nV z6, rfl, rfl, hG, at_n (j := 6) rfl, _, _, rfl, rfl, hq _ _ ⟨rfl, 7 + z6, (by show V.int (7 + (z6 : Int)) = V.int ((7 + z6 : Nat) : Int); rw [show ((7 + z6 : Nat) : Int) = 7 + (z6 : Int) by omega]), by omega⟩⟩) ?_
    rintro u1 H2 ⟨rfl, m1, rfl, hm1⟩
    refine ifsetQ (fun u H' => H' = H2 ∧ ∃ m : Nat, u = nV m ∧ m ≤ 8) (fun Q' hq => ⟨_, rfl, dp, _, 0, nV z0, rfl, rfl, hG, at_n (j := 0) rfl, rfl, _, rfl, hq _⟩) rfl ⟨rfl, m1, rfl, hm1⟩
      (fun Q' hq => hq _ _ ⟨rfl, 8, rfl, by decide⟩) ?_
    rintro u1 H2 ⟨rfl, m, rfl, hm⟩
    -- times
    refine asgN ⟨_, rfl, a, ns, 1, rfl, t2.seq hS, hns, by decide, fun c2 H3 s3 => ⟨_, rfl, _, rfl, dp, _, 5, nV z5, rfl, rfl, s3.seq hG, at_n (j := 5) rfl, rfl, c2, m, decide (nV z5 = V.int 0), rfl, by omega, fun tp tv tm H4 s4 ntp etp hTP htl okT σ' e => ?_⟩⟩
    obtain rfl : σ' = [some (.ref a), some (.ref dp), some (nV m), some (.ref tp), none, none, none, none, none, none, none, none] := e.symm
    clear e
    have s24 := s3.trans s4
    have t4 := t2.trans s24
    have hG4 := s24.seq hG
    -- pairs
    refine asgN ⟨_, rfl, a, ns, 2, rfl, t4.seq hS, hns, by decide, fun c3 H5 s5 => ⟨_, rfl, _, rfl, dp, _, 2, nV z2, rfl, rfl, s5.seq hG4, at_n (j := 2) rfl, c3, m, z2, rfl, by omega, by omega, fun pp0 qv0 ps0 H6 s6 npp0 epp0 hQP0 wi0 pl0 σ' e => ?_⟩⟩
    obtain rfl : σ' = [some (.ref a), some (.ref dp), some (nV m), some (.ref tp), some (.ref pp0), none, none, none, none, none, none, none] := e.symm
    clear e
    have s46 := s5.trans s6
    have t6 := t4.trans s46
    have hG6 := s46.seq hG4
    refine ifsetQ (fun u H' => ∃ (p : Addr) (us : List V) (ps : K02.PL), u = .ref p ∧ Same H4 H' ∧ H' p = some (.lst us) ∧ PI K H' us (upP ps) ∧ K02.Within m ps ∧ ps.length ≤ 100) (fun Q' hq => ⟨_, rfl, dp, _, 0, nV z0, rfl, rfl, hG6, at_n (j := 0) rfl, rfl, _, rfl, hq _⟩) rfl ⟨pp0, qv0, ps0, rfl, s46, epp0, hQP0, wi0, by omega⟩
      (fun Q' hq => ⟨_, rfl, a, ns, 2, rfl, t6.seq hS, hns, by decide, fun c4 H7 s7 => ⟨_, rfl, c4, m, rfl, hm, fun p us ps H8 s8 _ ep hP wi pl => hq _ _ ⟨p, us, ps, rfl, (s46.trans s7).trans s8, ep, hP, wi, by omega⟩⟩⟩) ?_
    rintro u1 H8 ⟨pp, qv, ps, rfl, s48, epp, hQP, wi, hpl⟩
    have t8 := t4.trans s48
    have hG8 := s48.seq hG4
    have etp8 := s48 _ _ etp
    have hTP8 := hTP.same s48
    clear s6 s46 t6 hG6 hQP0 epp0 npp0 wi0 pl0
    have hm' : tm.length ≤ 8 := by omega
    have htv : tv.length = tm.length := hTP.len
    -- top
    refine asgN ⟨(by show 1 ≤ sizeLine; decide), fun zz nzz => ?_⟩
    have s9 : Same H8 (upd H8 zz (.lst [V.int 0])) := (Same.refl H8).new nzz
    have ezz : (upd H8 zz (.lst [V.int 0])) zz = some (.lst [V.int 0]) := upd_same
    generalize upd H8 zz (.lst [V.int 0]) = H9 at s9 ezz ⊢
    have etp9 := s9 _ _ etp8
    refine ⟨_, rfl, tp, rfl, ⟨_, SqL.of etp9⟩, fun D nD => ?_⟩
    refine lc_list (K := K) (a := tp) (xs := tv) (fun i H' => Same H9 H' ∧ H' D = some (.lst ((difs (tm.take i)).map V.int))) ⟨(Same.refl H9).new nD, upd_same⟩ (fun i H' _ ⟨sm, _⟩ => SqL.of (sm _ _ etp9)) ?_ ?_
    · rintro i x HA hx ⟨sA, eD⟩
      obtain ⟨y, hy, t, rfl, et⟩ := P_right hTP8 hx
      have etA := (s9.trans sA).seqT et
      refine ⟨rfl, _, rfl, t, _, 1, .int y.2, rfl, rfl, etA, rfl, _, rfl, t, _, 0, .int y.1, rfl, rfl, etA, rfl, _, _, rfl, rfl, _, eD, ?_, sA.mut nD, ?_⟩
      · rw [List.length_map]
        unfold difs
        rw [List.length_map]
        exact szl (Nat.le_trans (List.length_take_le' _ _) (by omega))
      · rw [upd_same]
        unfold difs
        rw [map_take_succ _ hy, List.map_append]
        rfl
    rintro HA ⟨sA, eD⟩
    rw [htv, List.take_length] at eD
    refine ⟨zz, D, _, _, rfl, rfl, sA _ _ ezz, eD, ?_, fun l nl => ?_⟩
    · show 1 + _ ≤ _
      rw [List.length_map]
      unfold difs
      rw [List.length_map]
      exact szle (by omega)
    have sB : Same HA (upd HA l (.lst ([V.int 0] ++ (difs tm).map V.int))) := (Same.refl HA).new nl
    have el : (upd HA l (.lst ([V.int 0] ++ (difs tm).map V.int))) l = some (.lst ((0 :: difs tm).map V.int)) := upd_same
    generalize upd HA l (.lst ([V.int 0] ++ (difs tm).map V.int)) = HB at sB el ⊢
    refine ⟨l, 0 :: difs tm, rfl, SqL.of el, Nat.zero_lt_succ _, fun top _ htop σ' e => ?_⟩
    obtain rfl : σ' = [some (.ref a), some (.ref dp), some (nV m), some (.ref tp), some (.ref pp), some (.int top), none, none, none, none, none, none] := e.symm
    clear e
    have sh0 : Short tm top := fun j y hj => htop _ (List.mem_cons_of_mem _ (List.mem_map.mpr ⟨y, List.mem_of_getElem? hj, rfl⟩))
    have s8B := (s9.trans sA).trans sB
    have tB := t8.trans s8B
    have hGB := s8B.seq hG8
    have etpB := s8B _ _ etp8
    have eppB := s8B _ _ epp
    have hTPB := hTP8.same s8B
    have hQPB := PI.same hQP s8B
    clear s9 sA sB eD ezz el s8B hG8 hTP8 hQP etp9 etp8 epp
    -- longest
    refine asgN ⟨_, rfl, fun σ' e => ?_⟩
    obtain rfl : σ' = [some (.ref a), some (.ref dp), some (nV m), some (.ref tp), some (.ref pp), some (.int top), some (.int top), none, none, none, none, none] := e.symm
    clear e
    refine ifsetQ (fun u H' => H' = HB ∧ ∃ z : Int, u = .int z ∧ top ≤ z) (fun Q' hq => ⟨_, rfl, dp, _, 3, nV z3, rfl, rfl, hGB, at_n (j := 3) rfl, _, _, rfl, rfl, _, rfl, ite2 (fun _ => ⟨_, rfl, dp, _, 5, nV z5, rfl, rfl, hGB, at_n (j := 5) rfl, rfl, _, rfl, hq _⟩) (fun _ => hq _)⟩) rfl ⟨rfl, top, rfl, Int.le_refl _⟩
      (fun Q' hq => ⟨_, rfl, _, rfl, dp, _, 4, nV z4, rfl, rfl, hGB, at_n (j := 4) rfl, _, _, rfl, rfl, hq _ _ ⟨rfl, _, rfl, by omega⟩⟩) ?_
    rintro u1 HB ⟨rfl, lg1, rfl, hlg1⟩
    obtain ⟨d41, e41, _⟩ := fmod_nat (z4 : Int) (z := 41) (by decide)
    refine ifsetQ (fun u H' => H' = HB ∧ ∃ z : Int, u = .int z ∧ top ≤ z) (fun Q' hq => ⟨_, rfl, dp, _, 3, nV z3, rfl, rfl, hGB, at_n (j := 3) rfl, _, _, rfl, rfl, _, rfl, ite2 (fun _ => ⟨_, rfl, dp, _, 5, nV z5, rfl, rfl, hGB, at_n (j := 5) rfl, _, _, rfl, rfl, _, rfl, hq _⟩) (fun _ => hq _)⟩) rfl ⟨rfl, lg1, rfl, hlg1⟩
      (fun Q' hq => ⟨_, rfl, _, rfl, dp, _, 4, nV z4, rfl, rfl, hGB, at_n (j := 4) rfl,   .inl ⟨_, rfl, _, _, rfl, rfl, (by show (41 : Int) ≠ 0; decide), _, _, rfl, rfl, hq _ _ ⟨rfl, _, rfl, by rw [show (41 : Int) = ((41 : Nat) : Int) by rfl, e41]; omega⟩⟩⟩) ?_
    rintro u1 HB ⟨rfl, lg, rfl, hlg⟩
    have sh : Short tm lg := fun j y hj => Int.le_trans (sh0 j y hj) hlg
    -- due
    refine asgN ⟨_, rfl, _, rfl, _, rfl, tp, pp, lg, tv, qv, tm, ps, rfl, SqL.of etpB, hTPB, SqL.of eppB, hQPB, hm', fun du HC sC ndu due σ' e => ?_⟩
    obtain rfl : σ' = [some (.ref a), some (.ref dp), some (nV m), some (.ref tp), some (.ref pp), some (.int top), some (.int lg), some (.ref du), none, none, none, none] := e.symm
    clear e
    have tC := tB.trans sC
    have wi' : K02.Within tm.length ps := by rw [htl]; exact wi
    have al : ∀ v, ∀ k ∈ aftS tm.length ps v, k < tm.length := aft_lt
    have mT := okT.mid
    have mQ := mid_upP wi hm
    -- answered
    refine ⟨_, rfl, _, rfl, _, rfl, _, rfl, tp, pp, du, lg, tv, qv, tm, ps, rfl, sC _ _ etpB, hTPB.same sC, sC _ _ eppB, PI.same hQPB sC, hm', okT, wi', hpl, sh, due, fun HD sD => ⟨_, rfl, iteF (nextS ?_)⟩⟩
    have tD := tC.trans sD
    have sBD := sC.trans sD
    -- less
    refine asgN ⟨_, rfl, _, _, rfl, rfl, 0, top - 1, rfl, ?_⟩
    generalize (if top - 1 > 0 then top - 1 else 0) = less
    refine fun σ' e => ?_
    obtain rfl : σ' = [some (.ref a), some (.ref dp), some (nV m), some (.ref tp), some (.ref pp), some (.int top), some (.int lg), some (.ref du), some (.int less), none, none, none] := e.symm
    clear e
    refine ⟨_, rfl, tp, tv, rfl, .inl (SqL.of (sBD _ _ etpB)), fun l1 nl1 => ?_⟩
    have r1 : Same HD (upd HD l1 (.lst tv)) := (Same.refl HD).new nl1
    have el1 : (upd HD l1 (.lst tv)) l1 = some (.lst tv) := upd_same
    generalize upd HD l1 (.lst tv) = J1 at r1 el1 ⊢
    refine ⟨_, rfl, pp, qv, rfl, .inl (SqL.of (r1 _ _ (sBD _ _ eppB))), fun l2 nl2 => ?_⟩
    have r2 : Same J1 (upd J1 l2 (.lst qv)) := (Same.refl J1).new nl2
    have el2 : (upd J1 l2 (.lst qv)) l2 = some (.lst qv) := upd_same
    generalize upd J1 l2 (.lst qv) = J2 at r2 el2 ⊢
    have r02 := r1.trans r2
    have rB2 := (sBD).trans r02
    refine ⟨_, rfl, l1, l2, less, tv, qv, tm, upP ps, rfl, Sq.of (r2 _ _ el1), hTPB.same rB2, Sq.of el2, PI.same hQPB rB2, fun c => absurd c (by omega), fun _ z f => (f.no wi').elim, fun _ ps' e _ r J3 r3 nr td => ?_⟩
    obtain rfl := upP_inj e
    have rB3 := rB2.trans r3
    refine ⟨_, rfl, _, rfl, _, rfl, tp, pp, less, tv, qv, tm, ps, rfl, SqL.of (rB3 _ _ etpB), hTPB.same rB3, SqL.of (rB3 _ _ eppB), PI.same hQPB rB3, hm', fun u J4 r4 nu due2 => ?_⟩
    refine ⟨r, u, _, tm, less, rfl, td.at.same r4, due2, hm', al, fun J5 r5 => ⟨_, rfl, iteF (nextS ?_)⟩⟩
    have rB5 := (rB3.trans r4).trans r5
    have t5 := tB.trans rB5
    have due5 : DueAt K J5 (aftS tm.length ps) tm lg du := due.same (((sD.trans r02).trans r3).trans (r4.trans r5))
    clear td due2 r1 r2 r3 r4 r5 el1 el2 rB2 rB3 r02 nr
    -- rows
    refine asgN ⟨_, rfl, a, ns, 3, rfl, t5.seq hS, hns, by decide, fun c5 J6 r6 => ⟨_, rfl, _, rfl, c5, m, pp, qv, ps, rfl, (rB5.trans r6) _ _ eppB, PI.same hQPB (rB5.trans r6), wi, hm, hpl, fun rx us qs J7 r7 nrx erx hPR midR lenR badR σ' e => ?_⟩⟩
    obtain rfl : σ' = [some (.ref a), some (.ref dp), some (nV m), some (.ref tp), some (.ref pp), some (.int top), some (.int lg), some (.ref du), some (.int less), some (.ref rx), none, none] := e.symm
    clear e
    have rB7 := (rB5.trans r6).trans r7
    have due7 := due5.same (r6.trans r7)
    -- refused
    refine ⟨_, rfl, _, rfl, _, rfl, _, rfl, _, rfl, rx, us, qs, m, rfl, SqL.of erx, hPR, badR, fun z ff => ?_⟩
    refine ⟨tp, rx, less, "piece", z, tv, us, tm, qs, rfl, SqL.of (rB7 _ _ etpB), hTPB.same rB7, SqL.of erx, hPR, mT, midR, by omega, lenR, .piece z hm' (by rw [htl]; exact ff), fun J8 r8 => ⟨_, rfl, iteF ?_⟩⟩
    have rB8 := rB7.trans r8
    have due8 := due7.same r8
    -- refused: too many
    refine ⟨_, rfl, _, rfl, _, _, rfl, rfl, _, rfl, (by omega), (by omega), ?_⟩
    rw [show (9 - (m : Int)).toNat = 9 - m by omega]
    refine fun D nD => ?_
    have etp8 := rB8 _ _ etpB
    refine lc_range (lo := 0) (n := 9 - m) (fun i H' => ∃ (us : List V) (T : List P2), Same J8 H' ∧ H' D = some (.lst us) ∧ PI K H' us T ∧ T.length = i ∧ MidP T) ⟨[], [], (Same.refl J8).new nD, upd_same, .nil, rfl, fun q h => by cases h⟩ ?_ ?_
    · rintro i J9 hi ⟨us', T', r9, eD, hP, hl, hM⟩
      rw [show (0 : Int) + (i : Int) = (i : Int) by omega]
      refine ⟨rfl, _, rfl, _, rfl, _, _, rfl, rfl, sp2, fun t nt => ?_⟩
      have eD2 : (upd J9 t (.tup [nV i, .int ((i : Int) + 1)])) D = some (.lst us') := by rw [upd_ne (ne_of_none eD nt)]; exact eD
      refine ⟨us', eD2, ?_, us' ++ [V.ref t], T' ++ [((i : Int), (i : Int) + 1)], (r9.new nt).mut nD, upd_same, ?_, by rw [List.length_append, hl]; rfl, fun q hq => ?_⟩
      · rw [hP.len, hl]
        exact szl (by omega)
      · exact ((hP.same ((Same.refl J9).new nt)).snoc (SqT.of upd_same)).mutL eD2
      · rcases List.mem_append.mp hq with h | h
        · exact hM q h
        · rw [List.mem_singleton.mp h]
          have e16 : (10 : Nat) ^ 16 = 10000000000000000 := by decide
          unfold Mid
          rw [e16]
          dsimp only
          omega
    rintro J9 ⟨us', T', r9, eD, hPD, hlD, hMD⟩
    refine ⟨tp, D, _, _, rfl, rfl, r9 _ _ etp8, eD, ?_, fun l nl => ?_⟩
    · rw [hPD.len, htv]
      exact szle (by omega)
    have rA : Same J9 (upd J9 l (.lst (tv ++ us'))) := (Same.refl J9).new nl
    have el : (upd J9 l (.lst (tv ++ us'))) l = some (.lst (tv ++ us')) := upd_same
    generalize upd J9 l (.lst (tv ++ us')) = JA at rA el ⊢
    have rBA := (rB8.trans r9).trans rA
    have r7A := (r8.trans r9).trans rA
    refine ⟨_, rfl, _, rfl, l, rx, less, "pieces", 8, tv ++ us', us, tm ++ T', qs, rfl, SqL.of el, P_append (hTPB.same rBA) (hPD.same rA), SqL.of (r7A _ _ erx), hPR.same r7A, P_mid mT hMD, midR, by rw [List.length_append]; omega, lenR, .pieces (by rw [List.length_append]; omega), fun JB rB' => ⟨_, rfl, iteF ?_⟩⟩
    have rBB := rBA.trans rB'
    have dueB := due8.same ((r9.trans rA).trans rB')
    clear el eD
    -- the last one
    refine ⟨_, rfl, tp, tv, rfl, .inl (SqL.of (rBB _ _ etpB)), fun l1 nl1 => ?_⟩
    have r1 : Same JB (upd JB l1 (.lst tv)) := (Same.refl JB).new nl1
    have el1 : (upd JB l1 (.lst tv)) l1 = some (.lst tv) := upd_same
    generalize upd JB l1 (.lst tv) = J1 at r1 el1 ⊢
    refine ⟨_, rfl, pp, qv, rfl, .inl (SqL.of (r1 _ _ (rBB _ _ eppB))), fun l2 nl2 => ?_⟩
    have r2 : Same J1 (upd J1 l2 (.lst qv)) := (Same.refl J1).new nl2
    have el2 : (upd J1 l2 (.lst qv)) l2 = some (.lst qv) := upd_same
    generalize upd J1 l2 (.lst qv) = J2 at r2 el2 ⊢
    have r02 := r1.trans r2
    have rB2 := (rBB).trans r02
    refine ⟨_, rfl, l1, l2, lg, tv, qv, tm, upP ps, rfl, Sq.of (r2 _ _ el1), hTPB.same rB2, Sq.of el2, PI.same hQPB rB2, fun c => absurd c (by omega), fun _ z f => (f.no wi').elim, fun _ ps' e _ r J3 r3 nr td => ?_⟩
    obtain rfl := upP_inj e
    have rB3 := rB2.trans r3
    exact ⟨_, rfl, r, du, _, tm, lg, rfl, td.at, dueB.same (r02.trans r3), hm', al, fun J4 r4 => q J4⟩
end
end K28W

namespace K28W
open PySem PySem.Spec PyProof.Rows L2 KH K28 KD
theorem kit_self {K : PySem.W.Frag} {C : Addr} : PySem.W.kitOne K (.ref C) (.ref C) = some true := by
  unfold PySem.W.kitOne
  rw [if_pos (by simp)]
theorem kit_other {K : PySem.W.Frag} {C D : Addr} {b : Bool} (ne : C ≠ D) (h : PySem.W.subIn K (.ref D) (.type "BaseException") = some true) (e : PySem.W.exmOne K (.ref C) (.ref D) = some b) : PySem.W.kitOne K (.ref C) (.ref D) = some b := by
  unfold PySem.W.exmOne at e
  have e1 : (PySem.W.subIn K (.ref D) (.type "BaseException") == some true) = true := by rw [h] <;> rfl
  rw [if_pos e1] at e
  unfold PySem.W.kitOne
  rw [if_neg (by simp [ne])]
  exact e
theorem all_mk {l : PySem.W.OpenLaw} {w : World} {K : PySem.W.Frag} {h : Heap} {mg : Str → Option Value} {fa f0 f1 f2 f3 f4 f5 f6 f7 f8 f9 f10 f11 f12 f13 f14 f15 f16 f17 f18 f19 f20 f21 f22 f23 : Addr} (X : K.In h) (G : h.Ns mainGlobals mg) (hfa : mg "law" = some (.ref fa))
    {od0 an0 od1 an1 od2 an2 od3 an3 od4 an4 od5 an5 od6 an6 od7 an7 od8 an8 od9 an9 od10 an10 od11 an11 od12 an12 od13 an13 od14 an14 od15 an15 od16 an16 od17 an17 od18 an18 od19 an19 od20 an20 od21 an21 od22 an22 od23 an23 odI anI cddI cldI odJ anJ cddJ cldJ : Option Addr} {sl0 sl1 sl2 sl3 sl4 sl5 sl6 sl7 sl8 sl9 sl10 sl11 sl12 sl13 sl14 sl15 sl16 sl17 sl18 sl19 sl20 sl21 sl22 sl23 slI csI clsI slJ csJ clsJ : Array (Option Value)} {vsI vsJ : Array Value} {oc0 kV0 dc0 pm0 cd0 ct0 oc1 kV1 dc1 pm1 cd1 ct1 oc2 kV2 dc2 pm2 cd2 ct2 oc3 kV3 dc3 pm3 cd3 ct3 oc4 kV4 dc4 pm4 cd4 ct4 oc5 kV5 dc5 pm5 cd5 ct5 oc6 kV6 dc6 pm6 cd6 ct6 oc7 kV7 dc7 pm7 cd7 ct7 oc8 kV8 dc8 pm8 cd8 ct8 oc9 kV9 dc9 pm9 cd9 ct9 oc10 kV10 dc10 pm10 cd10 ct10 oc11 kV11 dc11 pm11 cd11 ct11 oc12 kV12 dc12 pm12 cd12 ct12 oc13 kV13 dc13 pm13 cd13 ct13 oc14 kV14 dc14 pm14 cd14 ct14 oc15 kV15 dc15 pm15 cd15 ct15 oc16 kV16 dc16 pm16 cd16 ct16 oc17 kV17 dc17 pm17 cd17 ct17 oc18 kV18 dc18 pm18 cd18 ct18 oc19 kV19 dc19 pm19 cd19 ct19 oc20 kV20 dc20 pm20 cd20 ct20 oc21 kV21 dc21 pm21 cd21 ct21 oc22 kV22 dc22 pm22 cd22 ct22 oc23 kV23 dc23 pm23 cd23 ct23 ocI kVI dcI pmI ctI cclI clI ocJ kVJ dcJ pmJ ctJ cclJ clJ : Value} {t8 tf tg : Tok} {file filf : Str}
    {CN CB CD CT CU fI cda cc N fJ cdb cb M : Addr} {nm qn nn qm : Str} {bs sub bt sut : List Value} {sn sm : List Str} {ab ac : Bool} {col com : Option Bool} {dd de : Option Addr} {m0 m1 m2 m3 m5 q0 q1 q2 q3 q5 : Option Value}
    (a0 : PySem.W.nsIn K mainGlobals "_law_cell" = some (some (.ref f0)))
    (l0 : K.lookup f0 = some ⟨oc0, od0, .func (PySem.W.fnOf "_law_cell" "_law_cell" (defArgs s_law_cell) (defBody s_law_cell) (defScope s_law_cell) .none kV0 dc0 pm0 an0 cd0 ct0), sl0⟩)
    (c0 : PySem.W.codeIn K cd0 "_law_cell" = true)
    (k0 : PySem.W.keepIn K (.ref f0) = true)
    (a1 : PySem.W.nsIn K mainGlobals "_law_draws" = some (some (.ref f1)))
    (l1 : K.lookup f1 = some ⟨oc1, od1, .func (PySem.W.fnOf "_law_draws" "_law_draws" (defArgs s_law_draws) (defBody s_law_draws) (defScope s_law_draws) .none kV1 dc1 pm1 an1 cd1 ct1), sl1⟩)
    (c1 : PySem.W.codeIn K cd1 "_law_draws" = true)
    (k1 : PySem.W.keepIn K (.ref f1) = true)
    (a2 : PySem.W.nsIn K mainGlobals "check_number" = some (some (.ref f2)))
    (l2 : K.lookup f2 = some ⟨oc2, od2, .func (PySem.W.fnOf "check_number" "check_number" (defArgs scheck_number) (defBody scheck_number) (defScope scheck_number) .none kV2 dc2 pm2 an2 cd2 ct2), sl2⟩)
    (c2 : PySem.W.codeIn K cd2 "check_number" = true)
    (k2 : PySem.W.keepIn K (.ref f2) = true)
    (a3 : PySem.W.nsIn K mainGlobals "check_many" = some (some (.ref f3)))
    (l3 : K.lookup f3 = some ⟨oc3, od3, .func (PySem.W.fnOf "check_many" "check_many" (defArgs scheck_many) (defBody scheck_many) (defScope scheck_many) .none kV3 dc3 pm3 an3 cd3 ct3), sl3⟩)
    (c3 : PySem.W.codeIn K cd3 "check_many" = true)
    (k3 : PySem.W.keepIn K (.ref f3) = true)
    (a4 : PySem.W.nsIn K mainGlobals "_first_lists" = some (some (.ref f4)))
    (l4 : K.lookup f4 = some ⟨oc4, od4, .func (PySem.W.fnOf "_first_lists" "_first_lists" (defArgs s_first_lists) (defBody s_first_lists) (defScope s_first_lists) .none kV4 dc4 pm4 an4 cd4 ct4), sl4⟩)
    (c4 : PySem.W.codeIn K cd4 "_first_lists" = true)
    (k4 : PySem.W.keepIn K (.ref f4) = true)
    (a5 : PySem.W.nsIn K mainGlobals "_by_least" = some (some (.ref f5)))
    (l5 : K.lookup f5 = some ⟨oc5, od5, .func (PySem.W.fnOf "_by_least" "_by_least" (defArgs s_by_least) (defBody s_by_least) (defScope s_by_least) .none kV5 dc5 pm5 an5 cd5 ct5), sl5⟩)
    (c5 : PySem.W.codeIn K cd5 "_by_least" = true)
    (k5 : PySem.W.keepIn K (.ref f5) = true)
    (a6 : PySem.W.nsIn K mainGlobals "_lot_values" = some (some (.ref f6)))
    (l6 : K.lookup f6 = some ⟨oc6, od6, .func (PySem.W.fnOf "_lot_values" "_lot_values" (defArgs s_lot_values) (defBody s_lot_values) (defScope s_lot_values) .none kV6 dc6 pm6 an6 cd6 ct6), sl6⟩)
    (c6 : PySem.W.codeIn K cd6 "_lot_values" = true)
    (k6 : PySem.W.keepIn K (.ref f6) = true)
    (a7 : PySem.W.nsIn K mainGlobals "_chosen_shifts" = some (some (.ref f7)))
    (l7 : K.lookup f7 = some ⟨oc7, od7, .func (PySem.W.fnOf "_chosen_shifts" "_chosen_shifts" (defArgs s_chosen_shifts) (defBody s_chosen_shifts) (defScope s_chosen_shifts) .none kV7 dc7 pm7 an7 cd7 ct7), sl7⟩)
    (c7 : PySem.W.codeIn K cd7 "_chosen_shifts" = true)
    (k7 : PySem.W.keepIn K (.ref f7) = true)
    (a8 : PySem.W.nsIn K mainGlobals "fewest_shifts" = some (some (.ref f8)))
    (l8 : K.lookup f8 = some ⟨oc8, od8, .func (PySem.W.fnOf "fewest_shifts" "fewest_shifts" (defArgs sfewest_shifts) (defBody sfewest_shifts) (defScope sfewest_shifts) .none kV8 dc8 pm8 an8 cd8 ct8), sl8⟩)
    (c8 : PySem.W.codeIn K cd8 "fewest_shifts" = true)
    (k8 : PySem.W.keepIn K (.ref f8) = true)
    (a9 : PySem.W.nsIn K mainGlobals "_law_times" = some (some (.ref f9)))
    (l9 : K.lookup f9 = some ⟨oc9, od9, .func (PySem.W.fnOf "_law_times" "_law_times" (defArgs s_law_times) (defBody s_law_times) (defScope s_law_times) .none kV9 dc9 pm9 an9 cd9 ct9), sl9⟩)
    (c9 : PySem.W.codeIn K cd9 "_law_times" = true)
    (k9 : PySem.W.keepIn K (.ref f9) = true)
    (a10 : PySem.W.nsIn K mainGlobals "_law_some_pairs" = some (some (.ref f10)))
    (l10 : K.lookup f10 = some ⟨oc10, od10, .func (PySem.W.fnOf "_law_some_pairs" "_law_some_pairs" (defArgs s_law_some_pairs) (defBody s_law_some_pairs) (defScope s_law_some_pairs) .none kV10 dc10 pm10 an10 cd10 ct10), sl10⟩)
    (c10 : PySem.W.codeIn K cd10 "_law_some_pairs" = true)
    (k10 : PySem.W.keepIn K (.ref f10) = true)
    (a11 : PySem.W.nsIn K mainGlobals "_law_ordered_pairs" = some (some (.ref f11)))
    (l11 : K.lookup f11 = some ⟨oc11, od11, .func (PySem.W.fnOf "_law_ordered_pairs" "_law_ordered_pairs" (defArgs s_law_ordered_pairs) (defBody s_law_ordered_pairs) (defScope s_law_ordered_pairs) .none kV11 dc11 pm11 an11 cd11 ct11), sl11⟩)
    (c11 : PySem.W.codeIn K cd11 "_law_ordered_pairs" = true)
    (k11 : PySem.W.keepIn K (.ref f11) = true)
    (a12 : PySem.W.nsIn K mainGlobals "_law_lot" = some (some (.ref f12)))
    (l12 : K.lookup f12 = some ⟨oc12, od12, .func (PySem.W.fnOf "_law_lot" "_law_lot" (defArgs s_law_lot) (defBody s_law_lot) (defScope s_law_lot) .none kV12 dc12 pm12 an12 cd12 ct12), sl12⟩)
    (c12 : PySem.W.codeIn K cd12 "_law_lot" = true)
    (k12 : PySem.W.keepIn K (.ref f12) = true)
    (a13 : PySem.W.nsIn K mainGlobals "_law_least" = some (some (.ref f13)))
    (l13 : K.lookup f13 = some ⟨oc13, od13, .func (PySem.W.fnOf "_law_least" "_law_least" (defArgs s_law_least) (defBody s_law_least) (defScope s_law_least) .none kV13 dc13 pm13 an13 cd13 ct13), sl13⟩)
    (c13 : PySem.W.codeIn K cd13 "_law_least" = true)
    (k13 : PySem.W.keepIn K (.ref f13) = true)
    (a14 : PySem.W.nsIn K mainGlobals "_law_all_shifts" = some (some (.ref f14)))
    (l14 : K.lookup f14 = some ⟨oc14, od14, .func (PySem.W.fnOf "_law_all_shifts" "_law_all_shifts" (defArgs s_law_all_shifts) (defBody s_law_all_shifts) (defScope s_law_all_shifts) .none kV14 dc14 pm14 an14 cd14 ct14), sl14⟩)
    (c14 : PySem.W.codeIn K cd14 "_law_all_shifts" = true)
    (k14 : PySem.W.keepIn K (.ref f14) = true)
    (a15 : PySem.W.nsIn K mainGlobals "_law_due" = some (some (.ref f15)))
    (l15 : K.lookup f15 = some ⟨oc15, od15, .func (PySem.W.fnOf "_law_due" "_law_due" (defArgs s_law_due) (defBody s_law_due) (defScope s_law_due) .none kV15 dc15 pm15 an15 cd15 ct15), sl15⟩)
    (c15 : PySem.W.codeIn K cd15 "_law_due" = true)
    (k15 : PySem.W.keepIn K (.ref f15) = true)
    (a16 : PySem.W.nsIn K mainGlobals "_law_number" = some (some (.ref f16)))
    (l16 : K.lookup f16 = some ⟨oc16, od16, .func (PySem.W.fnOf "_law_number" "_law_number" (defArgs s_law_number) (defBody s_law_number) (defScope s_law_number) .none kV16 dc16 pm16 an16 cd16 ct16), sl16⟩)
    (c16 : PySem.W.codeIn K cd16 "_law_number" = true)
    (k16 : PySem.W.keepIn K (.ref f16) = true)
    (a17 : PySem.W.nsIn K mainGlobals "_law_same" = some (some (.ref f17)))
    (l17 : K.lookup f17 = some ⟨oc17, od17, .func (PySem.W.fnOf "_law_same" "_law_same" (defArgs s_law_same) (defBody s_law_same) (defScope s_law_same) .none kV17 dc17 pm17 an17 cd17 ct17), sl17⟩)
    (c17 : PySem.W.codeIn K cd17 "_law_same" = true)
    (k17 : PySem.W.keepIn K (.ref f17) = true)
    (a18 : PySem.W.nsIn K mainGlobals "_law_right" = some (some (.ref f18)))
    (l18 : K.lookup f18 = some ⟨oc18, od18, .func (PySem.W.fnOf "_law_right" "_law_right" (defArgs s_law_right) (defBody s_law_right) (defScope s_law_right) .none kV18 dc18 pm18 an18 cd18 ct18), sl18⟩)
    (c18 : PySem.W.codeIn K cd18 "_law_right" = true)
    (k18 : PySem.W.keepIn K (.ref f18) = true)
    (a19 : PySem.W.nsIn K mainGlobals "_law_answered" = some (some (.ref f19)))
    (l19 : K.lookup f19 = some ⟨oc19, od19, .func (PySem.W.fnOf "_law_answered" "_law_answered" (defArgs s_law_answered) (defBody s_law_answered) (defScope s_law_answered) .none kV19 dc19 pm19 an19 cd19 ct19), sl19⟩)
    (c19 : PySem.W.codeIn K cd19 "_law_answered" = true)
    (k19 : PySem.W.keepIn K (.ref f19) = true)
    (a20 : PySem.W.nsIn K mainGlobals "_law_flawed" = some (some (.ref f20)))
    (l20 : K.lookup f20 = some ⟨oc20, od20, .func (PySem.W.fnOf "_law_flawed" "_law_flawed" (defArgs s_law_flawed) (defBody s_law_flawed) (defScope s_law_flawed) .none kV20 dc20 pm20 an20 cd20 ct20), sl20⟩)
    (c20 : PySem.W.codeIn K cd20 "_law_flawed" = true)
    (k20 : PySem.W.keepIn K (.ref f20) = true)
    (a21 : PySem.W.nsIn K mainGlobals "_law_first_flaw" = some (some (.ref f21)))
    (l21 : K.lookup f21 = some ⟨oc21, od21, .func (PySem.W.fnOf "_law_first_flaw" "_law_first_flaw" (defArgs s_law_first_flaw) (defBody s_law_first_flaw) (defScope s_law_first_flaw) .none kV21 dc21 pm21 an21 cd21 ct21), sl21⟩)
    (c21 : PySem.W.codeIn K cd21 "_law_first_flaw" = true)
    (k21 : PySem.W.keepIn K (.ref f21) = true)
    (a22 : PySem.W.nsIn K mainGlobals "_law_refused" = some (some (.ref f22)))
    (l22 : K.lookup f22 = some ⟨oc22, od22, .func (PySem.W.fnOf "_law_refused" "_law_refused" (defArgs s_law_refused) (defBody s_law_refused) (defScope s_law_refused) .none kV22 dc22 pm22 an22 cd22 ct22), sl22⟩)
    (c22 : PySem.W.codeIn K cd22 "_law_refused" = true)
    (k22 : PySem.W.keepIn K (.ref f22) = true)
    (a23 : PySem.W.nsIn K mainGlobals "law" = some (some (.ref f23)))
    (l23 : K.lookup f23 = some ⟨oc23, od23, .func (PySem.W.fnOf "law" "law" (defArgs slaw) (defBody slaw) (defScope slaw) .none kV23 dc23 pm23 an23 cd23 ct23), sl23⟩)
    (c23 : PySem.W.codeIn K cd23 "law" = true)
    (k23 : PySem.W.keepIn K (.ref f23) = true)
    (z_len : PySem.W.nsIn K mainGlobals "len" = some none)
    (z_abs : PySem.W.nsIn K mainGlobals "abs" = some none)
    (z_int : PySem.W.nsIn K mainGlobals "int" = some none)
    (z_range : PySem.W.nsIn K mainGlobals "range" = some none)
    (z_list : PySem.W.nsIn K mainGlobals "list" = some none)
    (z_tuple : PySem.W.nsIn K mainGlobals "tuple" = some none)
    (z_sum : PySem.W.nsIn K mainGlobals "sum" = some none)
    (z_min : PySem.W.nsIn K mainGlobals "min" = some none)
    (z_max : PySem.W.nsIn K mainGlobals "max" = some none)
    (z_sorted : PySem.W.nsIn K mainGlobals "sorted" = some none)
    (z_isinstance : PySem.W.nsIn K mainGlobals "isinstance" = some none)
    (z_bool : PySem.W.nsIn K mainGlobals "bool" = some none)
    (z_str : PySem.W.nsIn K mainGlobals "str" = some none)
    (z_repr : PySem.W.nsIn K mainGlobals "repr" = some none)
    (z_reversed : PySem.W.nsIn K mainGlobals "reversed" = some none)
    (z_super : PySem.W.nsIn K mainGlobals "super" = some none)
    (m8 : PySem.W.nsIn K mainGlobals "_MOST_PIECES" = some (some (.int 8 t8)))
    (aCN : PySem.W.nsIn K mainGlobals "BadNumber" = some (some (.ref CN)))
    (aCB : PySem.W.nsIn K mainGlobals "BusError" = some (some (.ref CB)))
    (aCD : PySem.W.nsIn K mainGlobals "Doubled" = some (some (.ref CD)))
    (aCT : PySem.W.nsIn K mainGlobals "TooMany" = some (some (.ref CT)))
    (aCU : PySem.W.nsIn K mainGlobals "Unknown" = some (some (.ref CU)))
    (xN : K.lookup CN = some (excClassObj nm qn CN N bs [.ref CB, .type "ValueError", .type "Exception", .type "BaseException", .type "object"] true sn sub ab col dd m0 m1 m2 m3 m5 "ValueError.__new__"))
    (sa : PySem.W.findIn K (.ref CN) "__setattr__" = some (some (.builtin "object.__setattr__")))
    (ga : PySem.W.findIn K (.ref CN) "__getattribute__" = some (some (.builtin "BaseException.__getattribute__")))
    (gg : PySem.W.findIn K (.ref CN) "__getattr__" = some none)
    (n1 : PySem.W.findIn K (.ref CN) "what" = some none)
    (n2 : PySem.W.findIn K (.ref CN) "value" = some none)
    (iC : PySem.W.findIn K (.ref CN) "__init__" = some (some (.ref fI)))
    (tI : PySem.W.typeIn K (.ref fI) = some (.type "function"))
    (kC : PySem.W.keepIn K (.ref CN) = true)
    (yN : K.lookup CT = some (excClassObj nn qm CT M bt [.ref CB, .type "ValueError", .type "Exception", .type "BaseException", .type "object"] true sm sut ac com de q0 q1 q2 q3 q5 "ValueError.__new__"))
    (sb : PySem.W.findIn K (.ref CT) "__setattr__" = some (some (.builtin "object.__setattr__")))
    (gb : PySem.W.findIn K (.ref CT) "__getattribute__" = some (some (.builtin "BaseException.__getattribute__")))
    (gh : PySem.W.findIn K (.ref CT) "__getattr__" = some none)
    (n3 : PySem.W.findIn K (.ref CT) "what" = some none)
    (n4 : PySem.W.findIn K (.ref CT) "most" = some none)
    (iT : PySem.W.findIn K (.ref CT) "__init__" = some (some (.ref fJ)))
    (tJ : PySem.W.typeIn K (.ref fJ) = some (.type "function"))
    (kT : PySem.W.keepIn K (.ref CT) = true)
    (eCN : PySem.W.subIn K (.ref CN) (.type "BaseException") = some true)
    (tCN : PySem.W.typeIn K (.ref CN) = some (.type "type"))
    (hCN : PySem.W.hasDictIn K CN = true)
    (eCB : PySem.W.subIn K (.ref CB) (.type "BaseException") = some true)
    (tCB : PySem.W.typeIn K (.ref CB) = some (.type "type"))
    (hCB : PySem.W.hasDictIn K CB = true)
    (sCB : PySem.W.subIn K (.ref CN) (.ref CB) = some true)
    (eCD : PySem.W.subIn K (.ref CD) (.type "BaseException") = some true)
    (tCD : PySem.W.typeIn K (.ref CD) = some (.type "type"))
    (hCD : PySem.W.hasDictIn K CD = true)
    (sCD : PySem.W.subIn K (.ref CN) (.ref CD) = some false)
    (neCD : CN ≠ CD)
    (eCT : PySem.W.subIn K (.ref CT) (.type "BaseException") = some true)
    (tCT : PySem.W.typeIn K (.ref CT) = some (.type "type"))
    (hCT : PySem.W.hasDictIn K CT = true)
    (sCT : PySem.W.subIn K (.ref CN) (.ref CT) = some false)
    (neCT : CN ≠ CT)
    (eCU : PySem.W.subIn K (.ref CU) (.type "BaseException") = some true)
    (tCU : PySem.W.typeIn K (.ref CU) = some (.type "type"))
    (hCU : PySem.W.hasDictIn K CU = true)
    (sCU : PySem.W.subIn K (.ref CN) (.ref CU) = some false)
    (neCU : CN ≠ CU)
    (rCN : PySem.W.subIn K (.ref CT) (.ref CN) = some false)
    (meCN : CT ≠ CN)
    (rCB : PySem.W.subIn K (.ref CT) (.ref CB) = some true)
    (rCD : PySem.W.subIn K (.ref CT) (.ref CD) = some false)
    (meCD : CT ≠ CD)
    (rCU : PySem.W.subIn K (.ref CT) (.ref CU) = some false)
    (meCU : CT ≠ CU)
    (vC : PySem.W.subIn K (.ref CN) (.type "ValueError") = some true)
    (vT : PySem.W.subIn K (.ref CT) (.type "ValueError") = some true)
    (mT : PySem.W.mroIn K CT (.ref CT) = some true)
    (mP : PySem.W.mroIn K CT (.type "object") = some true)
    (suT : PySem.W.ks_superIn K CT CT "__init__" = some (some (.builtin "ValueError.__init__")))
    (mC : PySem.W.mroIn K CN (.ref CN) = some true)
    (mO : PySem.W.mroIn K CN (.type "object") = some true)
    (suC : PySem.W.ks_superIn K CN CN "__init__" = some (some (.builtin "ValueError.__init__")))
    (noO : PySem.W.nsIn K cStatics "thirdparty.any" = some none)
    (top : (l.prog.main.scope.names.lookup ("super" : Str)).isSome = false)
    (lI : K.lookup fI = some ⟨ocI, odI, .func (PySem.W.ksFn "__init__" "BadNumber.__init__" (defArgs (inClass (topS 4) 0)) (defBody (inClass (topS 4) 0)) (defScope (inClass (topS 4) 0)) .none kVI dcI pmI anI (.ref cda) ctI cc), slI⟩)
    (cI : PySem.W.codeIn K (.ref cda) "BadNumber.__init__" = true)
    (lcd : K.lookup cda = some ⟨cclI, cddI, .fields vsI, csI⟩)
    (hvs : vsI[2]? = some (.str file tf))
    (hfi : ((l.prog.main.file : Str) == file) = true)
    (lcc : K.lookup cc = some ⟨clI, cldI, .cell (some (.ref CN)), clsI⟩)
    (lJ : K.lookup fJ = some ⟨ocJ, odJ, .func (PySem.W.ksFn "__init__" "TooMany.__init__" (defArgs (inClass (topS 5) 0)) (defBody (inClass (topS 5) 0)) (defScope (inClass (topS 5) 0)) .none kVJ dcJ pmJ anJ (.ref cdb) ctJ cb), slJ⟩)
    (cJ : PySem.W.codeIn K (.ref cdb) "TooMany.__init__" = true)
    (lce : K.lookup cdb = some ⟨cclJ, cddJ, .fields vsJ, csJ⟩)
    (hvt : vsJ[2]? = some (.str filf tg))
    (hfj : ((l.prog.main.file : Str) == filf) = true)
    (lcb : K.lookup cb = some ⟨clJ, cldJ, .cell (some (.ref CT)), clsJ⟩)
    (hcb : PySem.W.findIn K (.ref CT) "__class__" = some (some (.builtin "object.__class__")))
    (hca : PySem.W.findIn K (.ref CN) "__class__" = some (some (.builtin "object.__class__")))
    (hsp : PySem.W.specialIn K (.builtin "object.__class__") "__get__" = some (some (.builtin "getset_descriptor.__get__")))
    (htk : PySem.W.takesIn K (.builtin "object.__class__") = some true)
    : ∃ fd : FuncData, (∀ (s : Shared) (v : Value), BindsTo s fd ⟨[v], []⟩ [("script", v)]) ∧ ∀ base : Heap, K.In base → base.Ns mainGlobals mg → FnOkG l.prog w K mg base 6 fa fd ["script"] (sp_law K) := by
  have e := hfa.symm.trans (PySem.W.mg_of X G a23)
  cases e
  have F0 := fun_mk (st := s_law_cell) l0 c0 k0
  have b0 := F0.binds (ps := ["script", "k"]) fun _ _ _ _ _ _ us hl => match us, hl with | [_, _], _ => rfl
  have F1 := fun_mk (st := s_law_draws) l1 c1 k1
  have b1 := F1.binds (ps := ["cell", "sizes"]) fun _ _ _ _ _ _ us hl => match us, hl with | [_, _], _ => rfl
  have F2 := fun_mk (st := scheck_number) l2 c2 k2
  have b2 := F2.binds (ps := ["what", "value", "least", "most"]) fun _ _ _ _ _ _ us hl => match us, hl with | [_, _, _, _], _ => rfl
  have F3 := fun_mk (st := scheck_many) l3 c3 k3
  have b3 := F3.binds (ps := ["what", "things", "most"]) fun _ _ _ _ _ _ us hl => match us, hl with | [_, _, _], _ => rfl
  have F4 := fun_mk (st := s_first_lists) l4 c4 k4
  have b4 := F4.binds (ps := ["times", "follows", "longest"]) fun _ _ _ _ _ _ us hl => match us, hl with | [_, _, _], _ => rfl
  have F5 := fun_mk (st := s_by_least) l5 c5 k5
  have b5 := F5.binds (ps := ["lists"]) fun _ _ _ _ _ _ us hl => match us, hl with | [_], _ => rfl
  have F6 := fun_mk (st := s_lot_values) l6 c6 k6
  have b6 := F6.binds (ps := ["many", "begun"]) fun _ _ _ _ _ _ us hl => match us, hl with | [_, _], _ => rfl
  have F7 := fun_mk (st := s_chosen_shifts) l7 c7 k7
  have b7 := F7.binds (ps := ["lists", "begun", "values"]) fun _ _ _ _ _ _ us hl => match us, hl with | [_, _, _], _ => rfl
  have F8 := fun_mk (st := sfewest_shifts) l8 c8 k8
  have b8 := F8.binds (ps := ["spans", "follows", "longest"]) fun _ _ _ _ _ _ us hl => match us, hl with | [_, _, _], _ => rfl
  have F9 := fun_mk (st := s_law_times) l9 c9 k9
  have b9 := F9.binds (ps := ["cell", "count", "wide"]) fun _ _ _ _ _ _ us hl => match us, hl with | [_, _, _], _ => rfl
  have F10 := fun_mk (st := s_law_some_pairs) l10 c10 k10
  have b10 := F10.binds (ps := ["cell", "count", "number"]) fun _ _ _ _ _ _ us hl => match us, hl with | [_, _, _], _ => rfl
  have F11 := fun_mk (st := s_law_ordered_pairs) l11 c11 k11
  have b11 := F11.binds (ps := ["cell", "count"]) fun _ _ _ _ _ _ us hl => match us, hl with | [_, _], _ => rfl
  have F12 := fun_mk (st := s_law_lot) l12 c12 k12
  have b12 := F12.binds (ps := ["row"]) fun _ _ _ _ _ _ us hl => match us, hl with | [_], _ => rfl
  have F13 := fun_mk (st := s_law_least) l13 c13 k13
  have b13 := F13.binds (ps := ["lot"]) fun _ _ _ _ _ _ us hl => match us, hl with | [_], _ => rfl
  have F14 := fun_mk (st := s_law_all_shifts) l14 c14 k14
  have b14 := F14.binds (ps := ["times", "pairs", "longest"]) fun _ _ _ _ _ _ us hl => match us, hl with | [_, _, _], _ => rfl
  have F15 := fun_mk (st := s_law_due) l15 c15 k15
  have b15 := F15.binds (ps := ["times", "pairs", "longest"]) fun _ _ _ _ _ _ us hl => match us, hl with | [_, _, _], _ => rfl
  have F16 := fun_mk (st := s_law_number) l16 c16 k16
  have b16 := F16.binds (ps := ["thing"]) fun _ _ _ _ _ _ us hl => match us, hl with | [_], _ => rfl
  have F17 := fun_mk (st := s_law_same) l17 c17 k17
  have b17 := F17.binds (ps := ["told", "due"]) fun _ _ _ _ _ _ us hl => match us, hl with | [_, _], _ => rfl
  have F18 := fun_mk (st := s_law_right) l18 c18 k18
  have b18 := F18.binds (ps := ["told", "due"]) fun _ _ _ _ _ _ us hl => match us, hl with | [_, _], _ => rfl
  have F19 := fun_mk (st := s_law_answered) l19 c19 k19
  have b19 := F19.binds (ps := ["times", "pairs", "longest", "due"]) fun _ _ _ _ _ _ us hl => match us, hl with | [_, _, _, _], _ => rfl
  have F20 := fun_mk (st := s_law_flawed) l20 c20 k20
  have b20 := F20.binds (ps := ["cell", "count", "pairs"]) fun _ _ _ _ _ _ us hl => match us, hl with | [_, _, _], _ => rfl
  have F21 := fun_mk (st := s_law_first_flaw) l21 c21 k21
  have b21 := F21.binds (ps := ["count", "rows"]) fun _ _ _ _ _ _ us hl => match us, hl with | [_, _], _ => rfl
  have F22 := fun_mk (st := s_law_refused) l22 c22 k22
  have b22 := F22.binds (ps := ["times", "rows", "longest", "word", "number"]) fun _ _ _ _ _ _ us hl => match us, hl with | [_, _, _, _, _], _ => rfl
  have F23 := fun_mk (st := slaw) l23 c23 k23
  refine ⟨PySem.W.fnOf "law" "law" (defArgs slaw) (defBody slaw) (defScope slaw) .none kV23 dc23 pm23 an23 cd23 ct23, fun s v => .of_eq rfl, fun base _ _ => ?_⟩
  have T : Txt mg := ⟨PySem.W.mg_none_of X G z_len, PySem.W.mg_none_of X G z_abs, PySem.W.mg_none_of X G z_int, PySem.W.mg_none_of X G z_range, PySem.W.mg_none_of X G z_list, PySem.W.mg_none_of X G z_tuple, PySem.W.mg_none_of X G z_sum, PySem.W.mg_none_of X G z_min, PySem.W.mg_none_of X G z_max, PySem.W.mg_none_of X G z_sorted, PySem.W.mg_none_of X G z_isinstance, PySem.W.mg_none_of X G z_bool, PySem.W.mg_none_of X G z_str, PySem.W.mg_none_of X G z_repr, PySem.W.mg_none_of X G z_reversed, PySem.W.mg_none_of X G z_super⟩
  have c8 : ∃ t, mg "_MOST_PIECES" = some (.int 8 t) := ⟨_, PySem.W.mg_of X G m8⟩
  have own : PySem.OwX.OwnTxt l.prog K CN fI ["what", "value"] :=
    { cls := ⟨nm, qn, N, bs, _, sn, sub, ab, col, dd, m0, m1, m2, m3, m5, xN, by first | rfl | decide +kernel⟩, sa := sa, ga := ga, gg := gg,
      noN := fun f hf => by
        simp only [List.mem_cons, List.not_mem_nil, or_false] at hf
        rcases hf with rfl | rfl
        · exact n1
        · exact n2
      iC := iC, tC := tI, kC := kC, exC := eCN, tyC := tCN, hdC := hCN, veC := vC, spC := mC, suC := suC, noO := noO, noS := z_super, top := top, few := by decide,
      fn := ⟨ocI, odI, "__init__", "BadNumber.__init__", _, _, _, .none, kVI, dcI, pmI, anI, cda, cc, ctI, slI, _, cclI, cddI, vsI, csI, file, tf, clI, cldI, clsI, lI, cI,
        .mk (by decide) (.cons (.cons .nil)), rfl, rfl, lcd, hvs, hfi, lcc, rfl, rfl, (fun y hy => by
          simp only [List.mem_cons, List.not_mem_nil, or_false] at hy
          rcases hy with rfl | rfl | rfl <;> rfl), (by decide), rfl, rfl, rfl, fun s us hu => match us, hu with | [_, _, _], _ => .of_eq rfl⟩ }
  have owT : PySem.OwX.OwnTxt l.prog K CT fJ ["what", "most"] :=
    { cls := ⟨nn, qm, M, bt, _, sm, sut, ac, com, de, q0, q1, q2, q3, q5, yN, by first | rfl | decide +kernel⟩, sa := sb, ga := gb, gg := gh,
      noN := fun f hf => by
        simp only [List.mem_cons, List.not_mem_nil, or_false] at hf
        rcases hf with rfl | rfl
        · exact n3
        · exact n4
      iC := iT, tC := tJ, kC := kT, exC := eCT, tyC := tCT, hdC := hCT, veC := vT, spC := mT, suC := suT, noO := noO, noS := z_super, top := top, few := by decide,
      fn := ⟨ocJ, odJ, "__init__", "TooMany.__init__", _, _, _, .none, kVJ, dcJ, pmJ, anJ, cdb, cb, ctJ, slJ, _, cclJ, cddJ, vsJ, csJ, filf, tg, clJ, cldJ, clsJ, lJ, cJ,
        .mk (by decide) (.cons (.cons .nil)), rfl, rfl, lce, hvt, hfj, lcb, rfl, rfl, (fun y hy => by
          simp only [List.mem_cons, List.not_mem_nil, or_false] at hy
          rcases hy with rfl | rfl | rfl <;> rfl), (by decide), rfl, rfl, rfl, fun s us hu => match us, hu with | [_, _, _], _ => .of_eq rfl⟩ }
  have ec : ExcC K CN := ⟨ga, gg, eCN, hCN, hca, hsp, htk, mO⟩
  have et : ExcC K CT := ⟨gb, gh, eCT, hCT, hcb, hsp, htk, mP⟩
  have XB : Exc l.prog K mg CN CB CD CT CU fI :=
    { own := own, gN := PySem.W.mg_of X G aCN, gB := PySem.W.mg_of X G aCB, gD := PySem.W.mg_of X G aCD, gT := PySem.W.mg_of X G aCT, gU := PySem.W.mg_of X G aCU, ec := ec, xf := ⟨ga, gg, eCN, hCN⟩,
      te := PySem.W.exm_ref eCB hCB tCB sCB, kN := kit_self, kT := kit_other neCT eCT (PySem.W.exm_ref eCT hCT tCT sCT), kO := kitAny_cons (kit_other neCD eCD (PySem.W.exm_ref eCD hCD tCD sCD)) (fun _ => kitAny_cons (kit_other neCU eCU (PySem.W.exm_ref eCU hCU tCU sCU)) (fun _ => rfl) (fun z => Bool.noConfusion z)) (fun z => Bool.noConfusion z) }
  have XT : Exm l.prog K mg CN CB CD CT CU fJ :=
    { own := owT, gN := PySem.W.mg_of X G aCT, ec := et, xf := ⟨gb, gh, eCT, hCT⟩,
      te := PySem.W.exm_ref eCB hCB tCB rCB, kT := kit_self, kN := kit_other meCN eCN (PySem.W.exm_ref eCN hCN tCN rCN), kO := kitAny_cons (kit_other meCD eCD (PySem.W.exm_ref eCD hCD tCD rCD)) (fun _ => kitAny_cons (kit_other meCU eCU (PySem.W.exm_ref eCU hCU tCU rCU)) (fun _ => rfl) (fun z => Bool.noConfusion z)) (fun z => Bool.noConfusion z) }
  have C_law_cell : Cal l.prog w K mg base 1 "_law_cell" ["script", "k"] (sp_cell K) f0 _ := ⟨ok_cell F0 T  , PySem.W.mg_of X G a0, k0, b0⟩
  have C_law_draws : Cal l.prog w K mg base 1 "_law_draws" ["cell", "sizes"] (sp_draws K) f1 _ := ⟨ok_draws F1 T  , PySem.W.mg_of X G a1, k1, b1⟩
  have Ccheck_number : CalX l.prog w K mg base 3 "check_number" ["what", "value", "least", "most"] (sp_check CN) f2 _ := ⟨ok_check F2 T XB , PySem.W.mg_of X G a2, k2, b2⟩
  have Ccheck_many : CalX l.prog w K mg base 3 "check_many" ["what", "things", "most"] (sp_many K CT) f3 _ := ⟨ok_many F3 T XT , PySem.W.mg_of X G a3, k3, b3⟩
  have C_first_lists : Cal l.prog w K mg base 1 "_first_lists" ["times", "follows", "longest"] (sp_first K) f4 _ := ⟨ok_first F4 T  , PySem.W.mg_of X G a4, k4, b4⟩
  have C_by_least : Cal l.prog w K mg base 1 "_by_least" ["lists"] sp_byleast f5 _ := ⟨ok_byleast F5 T  , PySem.W.mg_of X G a5, k5, b5⟩
  have C_lot_values : Cal l.prog w K mg base 1 "_lot_values" ["many", "begun"] sp_values f6 _ := ⟨ok_values F6 T  , PySem.W.mg_of X G a6, k6, b6⟩
  have C_chosen_shifts : Cal l.prog w K mg base 1 "_chosen_shifts" ["lists", "begun", "values"] sp_chosen f7 _ := ⟨ok_chosen F7 T  , PySem.W.mg_of X G a7, k7, b7⟩
  have Cfewest_shifts : CalX l.prog w K mg base 4 "fewest_shifts" ["spans", "follows", "longest"] (sp_fewest K CN CT) f8 _ := ⟨ok_fewest F8 T c8 Ccheck_number Ccheck_many C_first_lists C_by_least C_lot_values C_chosen_shifts, PySem.W.mg_of X G a8, k8, b8⟩
  have C_law_times : Cal l.prog w K mg base 2 "_law_times" ["cell", "count", "wide"] (sp_times K) f9 _ := ⟨ok_times F9 T  C_law_draws, PySem.W.mg_of X G a9, k9, b9⟩
  have C_law_some_pairs : Cal l.prog w K mg base 2 "_law_some_pairs" ["cell", "count", "number"] (sp_pairs K) f10 _ := ⟨ok_pairs F10 T  C_law_draws, PySem.W.mg_of X G a10, k10, b10⟩
  have C_law_ordered_pairs : Cal l.prog w K mg base 2 "_law_ordered_pairs" ["cell", "count"] (sp_ordered K) f11 _ := ⟨ok_ordered F11 T  C_law_draws, PySem.W.mg_of X G a11, k11, b11⟩
  have C_law_lot : Cal l.prog w K mg base 1 "_law_lot" ["row"] (sp_lot K) f12 _ := ⟨ok_lot F12 T  , PySem.W.mg_of X G a12, k12, b12⟩
  have C_law_least : Cal l.prog w K mg base 1 "_law_least" ["lot"] sp_least f13 _ := ⟨ok_least F13 T  , PySem.W.mg_of X G a13, k13, b13⟩
  have C_law_all_shifts : Cal l.prog w K mg base 1 "_law_all_shifts" ["times", "pairs", "longest"] (sp_all K) f14 _ := ⟨ok_all F14 T  , PySem.W.mg_of X G a14, k14, b14⟩
  have C_law_due : Cal l.prog w K mg base 2 "_law_due" ["times", "pairs", "longest"] (sp_due K) f15 _ := ⟨ok_due F15 T  C_law_all_shifts C_law_lot C_law_least, PySem.W.mg_of X G a15, k15, b15⟩
  have C_law_number : Cal l.prog w K mg base 1 "_law_number" ["thing"] sp_number f16 _ := ⟨ok_number F16 T  , PySem.W.mg_of X G a16, k16, b16⟩
  have CQ_law_number : CalQ l.prog w K mg base 1 "_law_number" ["thing"] sp_number f16 _ := ⟨ok_numberQ F16 T, PySem.W.mg_of X G a16, k16, b16⟩
  have C_law_same : Cal l.prog w K mg base 2 "_law_same" ["told", "due"] (sp_same K) f17 _ := ⟨ok_same F17 T  C_law_number, PySem.W.mg_of X G a17, k17, b17⟩
  have C_law_right : Cal l.prog w K mg base 3 "_law_right" ["told", "due"] (sp_right K) f18 _ := ⟨ok_right F18 T  C_law_number C_law_same, PySem.W.mg_of X G a18, k18, b18⟩
  have C_law_answered : CalG l.prog w K mg base 5 "_law_answered" ["times", "pairs", "longest", "due"] (sp_answered K) f19 _ := ⟨ok_answered F19 T  Cfewest_shifts C_law_right C_law_due, PySem.W.mg_of X G a19, k19, b19⟩
  have C_law_flawed : Cal l.prog w K mg base 2 "_law_flawed" ["cell", "count", "pairs"] (sp_flawed K) f20 _ := ⟨ok_flawed F20 T  C_law_draws, PySem.W.mg_of X G a20, k20, b20⟩
  have C_law_first_flaw : Cal l.prog w K mg base 1 "_law_first_flaw" ["count", "rows"] (sp_flaw K) f21 _ := ⟨ok_flaw F21 T  , PySem.W.mg_of X G a21, k21, b21⟩
  have C_law_refused : CalG l.prog w K mg base 5 "_law_refused" ["times", "rows", "longest", "word", "number"] (sp_refused K) f22 _ := ⟨ok_refused F22 T XB XT Cfewest_shifts CQ_law_number, PySem.W.mg_of X G a22, k22, b22⟩
  exact ok_law F23 T C_law_cell C_law_draws C_law_times C_law_some_pairs C_law_ordered_pairs C_law_due C_law_answered C_law_right Cfewest_shifts C_law_flawed C_law_refused C_law_first_flaw
end K28W
open PySem PySem.W PyProof.Rows
set_option maxHeartbeats 0 in
theorem PySem.Challenge.cw_changeskept_k28_shifts_and_values_holds : PySem.Challenge.rw_changeskept_k28_shifts_and_values.Holds := by
  w_on; o_law; k_head; (case hw => w_witness2)
  k_fill
  refine L2.walk_ofG (l := PySem.Challenge.rw_changeskept_k28_shifts_and_values) (n := 63) (k := 6) (x := "script") (sp := fun w => K28W.sp_law _) rfl (by decide) rfl ⟨rfl, by decide, by decide⟩ (fun w h Y => PySem.W.kIn_of Y) ?F (fun _ _ a ns hl _ hS => ⟨a, ns, rfl, hS, hl, fun _ => rfl⟩)
  case F =>
    intro w mg fa h KX G hmg
    refine' K28W.all_mk KX G hmg ?a0 ?l0 ?c0 ?k0 ?a1 ?l1 ?c1 ?k1 ?a2 ?l2 ?c2 ?k2 ?a3 ?l3 ?c3 ?k3 ?a4 ?l4 ?c4 ?k4 ?a5 ?l5 ?c5 ?k5 ?a6 ?l6 ?c6 ?k6 ?a7 ?l7 ?c7 ?k7 ?a8 ?l8 ?c8 ?k8 ?a9 ?l9 ?c9 ?k9 ?a10 ?l10 ?c10 ?k10 ?a11 ?l11 ?c11 ?k11 ?a12 ?l12 ?c12 ?k12 ?a13 ?l13 ?c13 ?k13 ?a14 ?l14 ?c14 ?k14 ?a15 ?l15 ?c15 ?k15 ?a16 ?l16 ?c16 ?k16 ?a17 ?l17 ?c17 ?k17 ?a18 ?l18 ?c18 ?k18 ?a19 ?l19 ?c19 ?k19 ?a20 ?l20 ?c20 ?k20 ?a21 ?l21 ?c21 ?k21 ?a22 ?l22 ?c22 ?k22 ?a23 ?l23 ?c23 ?k23 ?z_len ?z_abs ?z_int ?z_range ?z_list ?z_tuple ?z_sum ?z_min ?z_max ?z_sorted ?z_isinstance ?z_bool ?z_str ?z_repr ?z_reversed ?z_super ?m8 ?aCN ?aCB ?aCD ?aCT ?aCU ?xN ?sa ?ga ?gg ?n1 ?n2 ?iC ?tI ?kC ?yN ?sb ?gb ?gh ?n3 ?n4 ?iT ?tJ ?kT ?eCN ?tCN ?hCN ?eCB ?tCB ?hCB ?sCB ?eCD ?tCD ?hCD ?sCD ?neCD ?eCT ?tCT ?hCT ?sCT ?neCT ?eCU ?tCU ?hCU ?sCU ?neCU ?rCN ?meCN ?rCB ?rCD ?meCD ?rCU ?meCU ?vC ?vT ?mT ?mP ?suT ?mC ?mO ?suC ?noO ?top ?lI ?cI ?lcd ?hvs ?hfi ?lcc ?lJ ?cJ ?lce ?hvt ?hfj ?lcb ?hcb ?hca ?hsp ?htk
    (case a0 => k_is); (case l0 => k_is); (case c0 => k_is); (case k0 => k_is); (case a1 => k_is); (case l1 => k_is); (case c1 => k_is); (case k1 => k_is)
    (case a2 => k_is); (case l2 => k_is); (case c2 => k_is); (case k2 => k_is); (case a3 => k_is); (case l3 => k_is); (case c3 => k_is); (case k3 => k_is)
    (case a4 => k_is); (case l4 => k_is); (case c4 => k_is); (case k4 => k_is); (case a5 => k_is); (case l5 => k_is); (case c5 => k_is); (case k5 => k_is)
    (case a6 => k_is); (case l6 => k_is); (case c6 => k_is); (case k6 => k_is); (case a7 => k_is); (case l7 => k_is); (case c7 => k_is); (case k7 => k_is)
    (case a8 => k_is); (case l8 => k_is); (case c8 => k_is); (case k8 => k_is); (case a9 => k_is); (case l9 => k_is); (case c9 => k_is); (case k9 => k_is)
    (case a10 => k_is); (case l10 => k_is); (case c10 => k_is); (case k10 => k_is); (case a11 => k_is); (case l11 => k_is); (case c11 => k_is); (case k11 => k_is)
    (case a12 => k_is); (case l12 => k_is); (case c12 => k_is); (case k12 => k_is); (case a13 => k_is); (case l13 => k_is); (case c13 => k_is); (case k13 => k_is)
    (case a14 => k_is); (case l14 => k_is); (case c14 => k_is); (case k14 => k_is); (case a15 => k_is); (case l15 => k_is); (case c15 => k_is); (case k15 => k_is)
    (case a16 => k_is); (case l16 => k_is); (case c16 => k_is); (case k16 => k_is); (case a17 => k_is); (case l17 => k_is); (case c17 => k_is); (case k17 => k_is)
    (case a18 => k_is); (case l18 => k_is); (case c18 => k_is); (case k18 => k_is); (case a19 => k_is); (case l19 => k_is); (case c19 => k_is); (case k19 => k_is)
    (case a20 => k_is); (case l20 => k_is); (case c20 => k_is); (case k20 => k_is); (case a21 => k_is); (case l21 => k_is); (case c21 => k_is); (case k21 => k_is)
    (case a22 => k_is); (case l22 => k_is); (case c22 => k_is); (case k22 => k_is); (case a23 => k_is); (case l23 => k_is); (case c23 => k_is); (case k23 => k_is)
    (case z_len => k_is); (case z_abs => k_is); (case z_int => k_is); (case z_range => k_is); (case z_list => k_is); (case z_tuple => k_is); (case z_sum => k_is); (case z_min => k_is)
    (case z_max => k_is); (case z_sorted => k_is); (case z_isinstance => k_is); (case z_bool => k_is); (case z_str => k_is); (case z_repr => k_is); (case z_reversed => k_is); (case z_super => k_is)
    (case m8 => k_is); (case aCN => k_is); (case aCB => k_is); (case aCD => k_is); (case aCT => k_is); (case aCU => k_is); (case xN => k_is); (case sa => k_is)
    (case ga => k_is); (case gg => k_is); (case n1 => k_is); (case n2 => k_is); (case iC => k_is); (case tI => k_is); (case kC => k_is); (case yN => k_is)
    (case sb => k_is); (case gb => k_is); (case gh => k_is); (case n3 => k_is); (case n4 => k_is); (case iT => k_is); (case tJ => k_is); (case kT => k_is)
    (case eCN => k_is); (case tCN => k_is); (case hCN => k_is); (case eCB => k_is); (case tCB => k_is); (case hCB => k_is); (case sCB => first | k_is | rfl); (case eCD => k_is)
    (case tCD => k_is); (case hCD => k_is); (case sCD => first | k_is | rfl); (case neCD => decide); (case eCT => k_is); (case tCT => k_is); (case hCT => k_is); (case sCT => first | k_is | rfl)
    (case neCT => decide); (case eCU => k_is); (case tCU => k_is); (case hCU => k_is); (case sCU => first | k_is | rfl); (case neCU => decide); (case rCN => first | k_is | rfl); (case meCN => decide)
    (case rCB => first | k_is | rfl); (case rCD => first | k_is | rfl); (case meCD => decide); (case rCU => first | k_is | rfl); (case meCU => decide); (case vC => k_is); (case vT => k_is); (case mT => first | k_is | rfl | kernel_rfl)
    (case mP => first | k_is | rfl | kernel_rfl); (case suT => first | ks_is | rfl | kernel_rfl); (case mC => first | k_is | rfl | kernel_rfl); (case mO => first | k_is | rfl | kernel_rfl); (case suC => first | ks_is | rfl | kernel_rfl); (case noO => k_is); (case top => first | rfl | decide +kernel); (case lI => k_is)
    (case cI => k_is); (case lcd => k_is); (case hvs => rfl); (case hfi => first | rfl | decide +kernel); (case lcc => k_is); (case lJ => k_is); (case cJ => k_is); (case lce => k_is)
    (case hvt => rfl); (case hfj => first | rfl | decide +kernel); (case lcb => k_is); (case hcb => k_is); (case hca => k_is); (case hsp => first | k_is | rfl | kernel_rfl); (case htk => first | k_is | rfl | kernel_rfl)


