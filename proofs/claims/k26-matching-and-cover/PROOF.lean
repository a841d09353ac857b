import PyProof.Rows.All
import Wide.All
import OpenK.AllK
import Wide.FinOn
import HandS.ForMost
import HandS.RevRange
import HandS.Rev
import HandS.IsInst
import HandS.More
import HandS.Conv
import HandS.Wide
import KE.DatumOrd
import PyProof.Rows.All
import Wide.All
import OpenK.AllK
import Wide.FinOn
import PyProof.EqAt
import PyProof.EqKinds
import PyProof.TupleCall
import KE.KExcSuper
import HandS.ForSpec
import HandS.ExcInit
import HandS.ExcSuper
import KE.KIsAll
import KE.KExcIs
import HandS.ExcField
import HandS.ExcIs
import PyProof.ReprLen
import PyProof.ReprRoom
import HandS.Walk
import KE.GoesMore
import HandS.Deep
import HandS.SetFor
import HandS.DictComp
import HandS.SortInts
import KE.RegKSuper
import PySem.Challenge.RW_changeskept_k26_matching_and_cover
set_option Elab.async false
set_option linter.all false
set_option maxRecDepth 100000
set_option maxHeartbeats 4000000
/-! The mathematics of the law on the canonical order and the least ring: plain lists, no program in sight. -/
namespace K02
abbrev PL := List (Nat × Nat)
/-! ### lookups in lists of pairs -/
def look {β : Type} : List (Nat × β) → Nat → Option β
  | [], _ => none
  | p :: r, k => if p.1 = k then some p.2 else look r k
def put {β : Type} : List (Nat × β) → Nat → β → List (Nat × β)
  | [], k, v => [(k, v)]
  | p :: r, k, v => if p.1 = k then (p.1, v) :: r else p :: put r k v
theorem look_put {β : Type} (k : Nat) (v : β) : ∀ (l : List (Nat × β)) (j : Nat), look (put l k v) j = if k = j then some v else look l j
  | [], j => by
    show (if k = j then some v else none) = _
    rfl
  | p :: r, j => by
    unfold put
    by_cases h : p.1 = k
    · rw [if_pos h]
      show (if p.1 = j then some v else look r j) = if k = j then some v else (if p.1 = j then some p.2 else look r j)
      rw [h]
      by_cases e : k = j
      · rw [if_pos e, if_pos e]
      · rw [if_neg e, if_neg e, if_neg e]
    · rw [if_neg h]
      show (if p.1 = j then some p.2 else look (put r k v) j) = if k = j then some v else (if p.1 = j then some p.2 else look r j)
      rw [look_put k v r j]
      by_cases e : p.1 = j
      · have : ¬ k = j := fun z => h (e.trans z.symm)
        rw [if_pos e, if_neg this, if_pos e]
      · rw [if_neg e, if_neg e]
theorem look_mem {β : Type} : ∀ {l : List (Nat × β)} {k : Nat} {v : β}, look l k = some v → (k, v) ∈ l
  | [], _, _, h => by cases h
  | p :: r, k, v, h => by
    unfold look at h
    by_cases e : p.1 = k
    · rw [if_pos e] at h
      cases h
      rw [← e]
      exact List.mem_cons_self
    · rw [if_neg e] at h
      exact List.mem_cons_of_mem _ (look_mem h)
theorem look_snoc {β : Type} (k : Nat) (v : β) : ∀ (l : List (Nat × β)) (j : Nat), look l k = none → look (l ++ [(k, v)]) j = if k = j then some v else look l j
  | [], j, _ => by
    show (if k = j then some v else none) = _
    rfl
  | p :: r, j, h => by
    have h0 : ¬ p.1 = k := fun e => by
      unfold look at h
      rw [if_pos e] at h
      cases h
    have h1 : look r k = none := by
      unfold look at h
      rwa [if_neg h0] at h
    show (if p.1 = j then some p.2 else look (r ++ [(k, v)]) j) = if k = j then some v else (if p.1 = j then some p.2 else look r j)
    rw [look_snoc k v r j h1]
    by_cases e : p.1 = j
    · have : ¬ k = j := fun z => h0 (e.trans z.symm)
      rw [if_pos e, if_neg this, if_pos e]
    · rw [if_neg e, if_neg e]
theorem look_none_iff {β : Type} : ∀ {l : List (Nat × β)} {k : Nat}, look l k = none ↔ k ∉ l.map (·.1)
  | [], k => by simp [look]
  | p :: r, k => by
    unfold look
    by_cases e : p.1 = k
    · rw [if_pos e]
      simp [e]
    · rw [if_neg e, look_none_iff]
      simp only [List.map_cons, List.mem_cons, not_or]
      exact ⟨fun h => ⟨fun z => e z.symm, h⟩, fun h => h.2⟩
/-! ### pigeons -/
theorem nodup_len : ∀ (n : Nat) (l : List Nat), l.Nodup → (∀ x ∈ l, x < n) → l.length ≤ n
  | 0, [], _, _ => Nat.le_refl 0
  | 0, x :: r, _, h => absurd (h x List.mem_cons_self) (Nat.not_lt_zero _)
  | n + 1, l, hn, h => by
    have h1 : (l.erase n).Nodup := hn.erase n
    have h2 : ∀ x ∈ l.erase n, x < n := fun x hx => by
      have q := (hn.mem_erase_iff).mp hx
      have := h x q.2
      have := q.1
      omega
    have ih := nodup_len n (l.erase n) h1 h2
    have := List.le_length_erase (a := n) (l := l)
    omega
/-! ### pairs: what leads into a place, what leads out of it -/
def bef (ps : PL) (v : Nat) : List Nat := (ps.filter (fun p => p.2 == v)).map (·.1)
def aft (ps : PL) (v : Nat) : List Nat := (ps.filter (fun p => p.1 == v)).map (·.2)
theorem mem_bef {ps : PL} {u v : Nat} : u ∈ bef ps v ↔ (u, v) ∈ ps := by
  unfold bef
  rw [List.mem_map]
  constructor
  · rintro ⟨⟨a, b⟩, h, rfl⟩
    obtain ⟨h1, h2⟩ := List.mem_filter.mp h
    have e : b = v := by simpa using h2
    rw [← e]
    exact h1
  · intro h
    exact ⟨(u, v), List.mem_filter.mpr ⟨h, by simp⟩, rfl⟩
theorem mem_aft {ps : PL} {u v : Nat} : v ∈ aft ps u ↔ (u, v) ∈ ps := by
  unfold aft
  rw [List.mem_map]
  constructor
  · rintro ⟨⟨a, b⟩, h, rfl⟩
    obtain ⟨h1, h2⟩ := List.mem_filter.mp h
    have e : a = u := by simpa using h2
    rw [← e]
    exact h1
  · intro h
    exact ⟨(u, v), List.mem_filter.mpr ⟨h, by simp⟩, rfl⟩
/-! ### the canonical order -/
def freeP (ps : PL) (t : List Nat) (v : Nat) : Bool := !t.contains v && (bef ps v).all (fun b => t.contains b)
def nextP (m : Nat) (ps : PL) (t : List Nat) : Option Nat := (List.range m).find? (freeP ps t)
def growS (m : Nat) (ps : PL) (t : List Nat) : List Nat := match nextP m ps t with
  | none => t
  | some v => t ++ [v]
def grow (m : Nat) (ps : PL) : Nat → List Nat
  | 0 => []
  | k + 1 => growS m ps (grow m ps k)
def orderOf (m : Nat) (ps : PL) : Option (List Nat) := if (grow m ps m).length < m then none else some (grow m ps m)
theorem next_some {m : Nat} {ps : PL} {t : List Nat} {v : Nat} (h : nextP m ps t = some v) : v < m ∧ v ∉ t ∧ ∀ u, (u, v) ∈ ps → u ∈ t := by
  have h1 := List.find?_some h
  have h2 := List.mem_of_find?_eq_some h
  unfold freeP at h1
  rw [Bool.and_eq_true, List.all_eq_true] at h1
  refine ⟨List.mem_range.mp h2, by simpa using h1.1, fun u hu => ?_⟩
  simpa using h1.2 u (mem_bef.mpr hu)
theorem next_none {m : Nat} {ps : PL} {t : List Nat} (h : nextP m ps t = none) {v : Nat} (hv : v < m) (ht : v ∉ t) : ∃ u, (u, v) ∈ ps ∧ u ∉ t := by
  have h1 := List.find?_eq_none.mp h v (List.mem_range.mpr hv)
  have h2 : freeP ps t v = false := by simpa using h1
  unfold freeP at h2
  rw [Bool.and_eq_false_iff] at h2
  rcases h2 with h2 | h2
  · exact absurd (by simpa using h2) ht
  · rw [List.all_eq_false] at h2
    obtain ⟨u, hu, hc⟩ := h2
    exact ⟨u, mem_bef.mp hu, by simpa using hc⟩
theorem grow_len (m : Nat) (ps : PL) : ∀ k, (grow m ps k).length ≤ k
  | 0 => Nat.le_refl 0
  | k + 1 => by
    have ih := grow_len m ps k
    unfold grow growS
    cases nextP m ps (grow m ps k) with
    | none => exact Nat.le_succ_of_le ih
    | some v =>
      rw [List.length_append]
      exact Nat.succ_le_succ ih
theorem grow_stuck {m : Nat} {ps : PL} {k : Nat} (h : nextP m ps (grow m ps k) = none) : ∀ j, grow m ps (k + j) = grow m ps k
  | 0 => rfl
  | j + 1 => by
    have ih := grow_stuck h j
    show growS m ps (grow m ps (k + j)) = _
    rw [ih]
    unfold growS
    rw [h]
theorem grow_nodup (m : Nat) (ps : PL) : ∀ k, (grow m ps k).Nodup
  | 0 => List.nodup_nil
  | k + 1 => by
    have ih := grow_nodup m ps k
    unfold grow growS
    cases e : nextP m ps (grow m ps k) with
    | none => exact ih
    | some v =>
      refine List.nodup_append.mpr ⟨ih, by simp, ?_⟩
      intro a ha b hb
      have : b = v := by simpa using hb
      intro z
      rw [z, this] at ha
      exact (next_some e).2.1 ha
theorem grow_lt (m : Nat) (ps : PL) : ∀ k, ∀ x ∈ grow m ps k, x < m
  | 0, _, h => by cases h
  | k + 1, x, h => by
    have ih := grow_lt m ps k
    unfold grow growS at h
    cases e : nextP m ps (grow m ps k) with
    | none =>
      rw [e] at h
      exact ih x h
    | some v =>
      rw [e] at h
      rcases List.mem_append.mp h with q | q
      · exact ih x q
      · have : x = v := by simpa using q
        rw [this]
        exact (next_some e).1
/-- if each step found one, so many are taken -/
theorem grow_full {m : Nat} {ps : PL} : ∀ k, (∀ j, j < k → nextP m ps (grow m ps j) ≠ none) → (grow m ps k).length = k
  | 0, _ => rfl
  | k + 1, h => by
    have ih := grow_full k (fun j hj => h j (Nat.lt_succ_of_lt hj))
    unfold grow growS
    cases e : nextP m ps (grow m ps k) with
    | none => exact absurd e (h k (Nat.lt_succ_self k))
    | some v =>
      show (grow m ps k ++ [v]).length = k + 1
      rw [List.length_append, ih]
      rfl
theorem order_stuck {m : Nat} {ps : PL} {k : Nat} (hk : k < m) (h : nextP m ps (grow m ps k) = none) : orderOf m ps = none := by
  have e := grow_stuck h (m - k)
  rw [show k + (m - k) = m by omega] at e
  unfold orderOf
  rw [e, if_pos (Nat.lt_of_le_of_lt (grow_len m ps k) hk)]
theorem order_full {m : Nat} {ps : PL} (h : ∀ j, j < m → nextP m ps (grow m ps j) ≠ none) : orderOf m ps = some (grow m ps m) := by
  unfold orderOf
  rw [grow_full m h, if_neg (Nat.lt_irrefl _)]
/-- none: some step was stuck, with places left that lean on places left -/
theorem order_none {m : Nat} {ps : PL} (h : orderOf m ps = none) : ∃ t : List Nat, (∃ v, v < m ∧ v ∉ t) ∧ ∀ v, v < m → v ∉ t → ∃ u, (u, v) ∈ ps ∧ u ∉ t := by
  have hx : ∃ j, j < m ∧ nextP m ps (grow m ps j) = none := by
    apply Classical.byContradiction
    intro c
    have := order_full (m := m) (ps := ps) (fun j hj e => c ⟨j, hj, e⟩)
    rw [h] at this
    cases this
  obtain ⟨j, hj, e⟩ := hx
  refine ⟨grow m ps j, ?_, fun v hv ht => next_none e hv ht⟩
  apply Classical.byContradiction
  intro c
  have hall : ∀ v, v < m → v ∈ grow m ps j := fun v hv => Classical.byContradiction fun q => c ⟨v, hv, q⟩
  have h1 := nodup_len_ge (List.range m) (grow m ps j) List.nodup_range (fun x hx => hall x (List.mem_range.mp hx))
  rw [List.length_range] at h1
  have := grow_len m ps j
  omega
where
  nodup_len_ge : ∀ (a b : List Nat), a.Nodup → (∀ x ∈ a, x ∈ b) → a.length ≤ b.length
  | [], _, _, _ => Nat.zero_le _
  | x :: r, b, hn, h => by
    obtain ⟨h1, h2⟩ := List.nodup_cons.mp hn
    have ih := nodup_len_ge r (b.erase x) h2 (fun y hy => by
      have hyx : y ≠ x := fun z => h1 (z ▸ hy)
      exact (List.mem_erase_of_ne hyx).mpr (h y (List.mem_cons_of_mem _ hy)))
    have hx : x ∈ b := h x List.mem_cons_self
    have e := List.length_erase_of_mem hx
    have : 0 < b.length := List.length_pos_of_mem hx
    rw [List.length_cons]
    omega
/-! ### rings -/
/-- from u over the places of r, all beyond o, back to o -/
def Cl (ps : PL) (o : Nat) : Nat → List Nat → Prop
  | u, [] => (u, o) ∈ ps
  | u, v :: r => (u, v) ∈ ps ∧ o < v ∧ Cl ps o v r
def Len (ps : PL) (o u n : Nat) : Prop := ∃ r, Cl ps o u r ∧ r.length = n
/-- the first difference decides, else the shorter is the less -/
def lexLt : List Nat → List Nat → Bool
  | [], [] => false
  | [], _ :: _ => true
  | _ :: _, [] => false
  | x :: xs, y :: ys => if x = y then lexLt xs ys else decide (x < y)
theorem lex_irr : ∀ l : List Nat, lexLt l l = false
  | [] => rfl
  | x :: r => by
    unfold lexLt
    rw [if_pos rfl]
    exact lex_irr r
theorem lex_asym : ∀ {a b : List Nat}, lexLt a b = true → lexLt b a = false
  | [], [], h => by cases h
  | [], _ :: _, _ => rfl
  | _ :: _, [], h => by cases h
  | x :: xs, y :: ys, h => by
    unfold lexLt at h ⊢
    by_cases e : x = y
    · rw [if_pos e] at h
      rw [if_pos e.symm]
      exact lex_asym h
    · rw [if_neg e] at h
      rw [if_neg (fun z => e z.symm)]
      have := of_decide_eq_true h
      exact decide_eq_false (by omega)
theorem lex_anti : ∀ {a b : List Nat}, lexLt a b = false → lexLt b a = false → a = b
  | [], [], _, _ => rfl
  | [], _ :: _, h, _ => by cases h
  | _ :: _, [], _, h => by cases h
  | x :: xs, y :: ys, h, h' => by
    unfold lexLt at h h'
    by_cases e : x = y
    · rw [if_pos e] at h
      rw [if_pos e.symm] at h'
      rw [e, lex_anti h h']
    · rw [if_neg e] at h
      rw [if_neg (fun z => e z.symm)] at h'
      have := of_decide_eq_false h
      have := of_decide_eq_false h'
      omega
/-- not less goes on -/
theorem lex_le_trans : ∀ {a b c : List Nat}, lexLt b a = false → lexLt c b = false → lexLt c a = false
  | [], b, c, _, _ => by cases c <;> rfl
  | x :: xs, [], c, h, _ => by cases h
  | x :: xs, y :: ys, [], _, h => by cases h
  | x :: xs, y :: ys, z :: zs, h1, h2 => by
    unfold lexLt at h1 h2 ⊢
    by_cases e1 : y = x
    · rw [if_pos e1] at h1
      by_cases e2 : z = y
      · rw [if_pos e2] at h2
        rw [if_pos (e2.trans e1)]
        exact lex_le_trans h1 h2
      · rw [if_neg e2] at h2
        rw [if_neg (fun q => e2 (q.trans e1.symm))]
        have := of_decide_eq_false h2
        exact decide_eq_false (by omega)
    · rw [if_neg e1] at h1
      have g1 := of_decide_eq_false h1
      by_cases e2 : z = y
      · rw [if_neg (fun q => e1 (e2.symm.trans q))]
        exact decide_eq_false (by omega)
      · rw [if_neg e2] at h2
        have g2 := of_decide_eq_false h2
        rw [if_neg (by omega)]
        exact decide_eq_false (by omega)
theorem lex_app : ∀ {a b : List Nat} (x : List Nat), a.length = b.length → lexLt (a ++ x) (b ++ x) = lexLt a b
  | [], [], x, _ => lex_irr x
  | [], _ :: _, _, h => by simp at h
  | _ :: _, [], _, h => by simp at h
  | p :: a, q :: b, x, h => by
    show (if p = q then lexLt (a ++ x) (b ++ x) else decide (p < q)) = if p = q then lexLt a b else decide (p < q)
    rw [lex_app x (by simpa using h)]
/-- the least ring from o: the fewest places, then the first list -/
def LRing (ps : PL) (o : Nat) (l : List Nat) : Prop := ∃ r, l = o :: r ∧ Cl ps o o r ∧ ∀ r', Cl ps o o r' → r.length ≤ r'.length ∧ (r'.length = r.length → lexLt r' r = false)
theorem LRing.uniq {ps : PL} {o : Nat} {l m : List Nat} (a : LRing ps o l) (b : LRing ps o m) : l = m := by
  obtain ⟨r, rfl, c, h⟩ := a
  obtain ⟨t, rfl, d, k⟩ := b
  have h1 := h t d
  have k1 := k r c
  have e : r.length = t.length := Nat.le_antisymm h1.1 k1.1
  rw [lex_anti (k1.2 e) (h1.2 e.symm)]
open Classical in
noncomputable def ringOf (ps : PL) (o : Nat) : Option (List Nat) := if h : ∃ l, LRing ps o l then some (Classical.choose h) else none
theorem ringOf_some {ps : PL} {o : Nat} {l : List Nat} (h : LRing ps o l) : ringOf ps o = some l := by
  have hx : ∃ l, LRing ps o l := ⟨l, h⟩
  unfold ringOf
  rw [dif_pos hx, LRing.uniq (Classical.choose_spec hx) h]
theorem ringOf_none {ps : PL} {o : Nat} (h : ∀ r, ¬ Cl ps o o r) : ringOf ps o = none := by
  unfold ringOf
  rw [dif_neg]
  rintro ⟨l, r, _, c, _⟩
  exact h r c
theorem ringOf_is {ps : PL} {o : Nat} {l : List Nat} (h : ringOf ps o = some l) : LRing ps o l := by
  unfold ringOf at h
  by_cases hx : ∃ l, LRing ps o l
  · rw [dif_pos hx] at h
    cases h
    exact Classical.choose_spec hx
  · rw [dif_neg hx] at h
    cases h
def pick (b x : Option (List Nat)) : Option (List Nat) := match x, b with
  | none, _ => b
  | some l, none => some l
  | some l, some m => if l.length < m.length then some l else some m
noncomputable def best (ps : PL) : Nat → Option (List Nat)
  | 0 => none
  | o + 1 => pick (best ps o) (ringOf ps o)
/-! ### the program's way: steps backwards, then the least next place -/
/-- what the steps hold: o itself with 0; beyond o the fewest places of a way back to o, and one more -/
def IsSteps (ps : PL) (o : Nat) (S : Nat → Option Nat) : Prop := ∀ u n, S u = some n ↔ (u = o ∧ n = 0) ∨ (o < u ∧ ∃ k, n = k + 1 ∧ Len ps o u k ∧ ∀ j, j < k → ¬ Len ps o u j)
/-- row is built from u by the least next place -/
def Greedy (ps : PL) (S : Nat → Option Nat) : Nat → Nat → List Nat → Prop
  | _, 0, r => r = []
  | u, n + 1, r => ∃ v t, r = v :: t ∧ ((u, v) ∈ ps ∧ S v = some (n + 1)) ∧ (∀ w, (u, w) ∈ ps → S w = some (n + 1) → v ≤ w) ∧ Greedy ps S v n t
theorem greedy_len {ps : PL} {S : Nat → Option Nat} : ∀ {u n : Nat} {r : List Nat}, Greedy ps S u n r → r.length = n
  | _, 0, _, h => by
    have e : _ = _ := h
    rw [e]
    rfl
  | _, n + 1, _, ⟨v, t, e, _, _, h⟩ => by
    rw [e, List.length_cons, greedy_len h]
theorem greedy_least {ps : PL} {o : Nat} {S : Nat → Option Nat} (hS : IsSteps ps o S) : ∀ {n u : Nat} {r : List Nat}, Greedy ps S u n r → Len ps o u n → (∀ j, j < n → ¬ Len ps o u j) →
    Cl ps o u r ∧ ∀ r', Cl ps o u r' → r'.length = n → lexLt r' r = false
  | 0, u, r, h, hl, _ => by
    have e : r = [] := h
    obtain ⟨r0, c, z⟩ := hl
    have : r0 = [] := List.length_eq_zero_iff.mp z
    subst this
    subst e
    refine ⟨c, fun r' _ hz => ?_⟩
    rw [List.length_eq_zero_iff.mp hz]
    rfl
  | n + 1, u, r, ⟨v, t, e, ⟨huv, hv⟩, hmin, hg⟩, hl, hno => by
    subst e
    obtain ⟨q0, q1⟩ | ⟨hov, k, ek, hlv, hnv⟩ := (hS v (n + 1)).mp hv
    · cases q1
    · have ek' : k = n := by omega
      subst ek'
      obtain ⟨c, hm⟩ := greedy_least hS hg hlv hnv
      refine ⟨⟨huv, hov, c⟩, fun r' c' hz => ?_⟩
      cases r' with
      | nil => cases hz
      | cons w t' =>
        obtain ⟨huw, how, c2⟩ := c'
        have hz' : t'.length = k := by simpa using hz
        have hw : S w = some (k + 1) := (hS w (k + 1)).mpr (.inr ⟨how, k, rfl, ⟨t', c2, hz'⟩, fun j hj hL => by
          obtain ⟨r3, c3, z3⟩ := hL
          exact hno (j + 1) (by omega) ⟨w :: r3, ⟨huw, how, c3⟩, by rw [List.length_cons, z3]⟩⟩)
        have hle := hmin w huw hw
        unfold lexLt
        by_cases e : w = v
        · subst e
          rw [if_pos rfl]
          exact hm t' c2 hz'
        · rw [if_neg e]
          exact decide_eq_false (by omega)
theorem greedy_ring {ps : PL} {o : Nat} {S : Nat → Option Nat} (hS : IsSteps ps o S) {n : Nat} {r : List Nat} (h : Greedy ps S o n r) (hl : Len ps o o n) (hno : ∀ j, j < n → ¬ Len ps o o j) : LRing ps o (o :: r) := by
  obtain ⟨c, hm⟩ := greedy_least hS h hl hno
  have e := greedy_len h
  refine ⟨r, rfl, c, fun r' c' => ⟨?_, fun z => hm r' c' (z.trans e)⟩⟩
  rw [e]
  exact Nat.le_of_not_lt fun q => hno _ q ⟨r', c', rfl⟩
/-- a way with a next place: there is one that the greedy step may take -/
theorem greedy_next {ps : PL} {o : Nat} {S : Nat → Option Nat} (hS : IsSteps ps o S) {n u : Nat} (hl : Len ps o u (n + 1)) (hno : ∀ j, j < n + 1 → ¬ Len ps o u j) : ∃ v, (u, v) ∈ ps ∧ S v = some (n + 1) := by
  obtain ⟨r, c, z⟩ := hl
  cases r with
  | nil => cases z
  | cons w t =>
    obtain ⟨huw, how, c2⟩ := c
    have hz' : t.length = n := by simpa using z
    exact ⟨w, huw, (hS w (n + 1)).mpr (.inr ⟨how, n, rfl, ⟨t, c2, hz'⟩, fun j hj hL => by
      obtain ⟨r3, c3, z3⟩ := hL
      exact hno (j + 1) (by omega) ⟨w :: r3, ⟨huw, how, c3⟩, by rw [List.length_cons, z3]⟩⟩)⟩
theorem steps_beyond {ps : PL} {o : Nat} {S : Nat → Option Nat} (hS : IsSteps ps o S) {v n : Nat} (h : S v = some (n + 1)) : Len ps o v n ∧ ∀ j, j < n → ¬ Len ps o v j := by
  obtain ⟨_, q1⟩ | ⟨_, k, ek, hlv, hnv⟩ := (hS v (n + 1)).mp h
  · cases q1
  · have ek' : k = n := by omega
    subst ek'
    exact ⟨hlv, hnv⟩
/-- the lengths: the steps of the places behind o -/
theorem lens_some {ps : PL} {o : Nat} {S : Nat → Option Nat} (hS : IsSteps ps o S) {n : Nat} (hm : ∃ v, (o, v) ∈ ps ∧ S v = some n) (hle : ∀ v k, (o, v) ∈ ps → S v = some k → n ≤ k) : Len ps o o n ∧ ∀ j, j < n → ¬ Len ps o o j := by
  constructor
  · obtain ⟨v, hv, e⟩ := hm
    obtain ⟨rfl, rfl⟩ | ⟨hov, k, rfl, ⟨r, c, z⟩, _⟩ := (hS v n).mp e
    · exact ⟨[], hv, rfl⟩
    · exact ⟨v :: r, ⟨hv, hov, c⟩, by rw [List.length_cons, z]⟩
  · rintro j hj ⟨r, c, z⟩
    cases r with
    | nil =>
      have e : (o, o) ∈ ps := c
      have := hle o 0 e ((hS o 0).mpr (.inl ⟨rfl, rfl⟩))
      omega
    | cons v t =>
      obtain ⟨hov, hlt, c2⟩ := c
      -- the least way from v
      have hx : ∃ k, Len ps o v k ∧ ∀ i, i < k → ¬ Len ps o v i := least ⟨_, t, c2, rfl⟩
      obtain ⟨k, hk, hno⟩ := hx
      have hkt : k ≤ t.length := Nat.le_of_not_lt fun q => hno _ q ⟨t, c2, rfl⟩
      have := hle v (k + 1) hov ((hS v (k + 1)).mpr (.inr ⟨hlt, k, rfl, hk, hno⟩))
      rw [List.length_cons] at z
      omega
where
  least {P : Nat → Prop} (h : ∃ n, P n) : ∃ k, P k ∧ ∀ i, i < k → ¬ P i := by
    obtain ⟨n, hn⟩ := h
    induction n using Nat.strongRecOn with
    | ind n ih =>
      by_cases q : ∃ i, i < n ∧ P i
      · obtain ⟨i, hi, pi⟩ := q
        exact ih i hi pi
      · exact ⟨n, hn, fun i hi pi => q ⟨i, hi, pi⟩⟩
theorem lens_none {ps : PL} {o : Nat} {S : Nat → Option Nat} (hS : IsSteps ps o S) (h : ∀ v, (o, v) ∈ ps → S v = none) : ∀ r, ¬ Cl ps o o r := by
  intro r c
  cases r with
  | nil =>
    have := h o c
    rw [(hS o 0).mpr (.inl ⟨rfl, rfl⟩)] at this
    cases this
  | cons v t =>
    obtain ⟨hov, hlt, c2⟩ := c
    obtain ⟨k, hk, hno⟩ := lens_some.least (P := Len ps o v) ⟨_, t, c2, rfl⟩
    have := h v hov
    rw [(hS v (k + 1)).mpr (.inr ⟨hlt, k, rfl, hk, hno⟩)] at this
    cases this
/-- a ring from o has a least one -/
theorem greedy_is {ps : PL} {o : Nat} {S : Nat → Option Nat} (hS : IsSteps ps o S) : ∀ {n u : Nat}, Len ps o u n → (∀ j, j < n → ¬ Len ps o u j) → ∃ r, Greedy ps S u n r
  | 0, _, _, _ => ⟨[], rfl⟩
  | n + 1, u, hl, hno => by
    obtain ⟨v, ⟨huv, hv⟩, hmin⟩ := lens_some.least (P := fun v => (u, v) ∈ ps ∧ S v = some (n + 1)) (greedy_next hS hl hno)
    obtain ⟨h1, h2⟩ := steps_beyond hS hv
    obtain ⟨t, ht⟩ := greedy_is hS h1 h2
    exact ⟨v :: t, v, t, rfl, ⟨huv, hv⟩, fun w hw hs => Nat.le_of_not_lt fun q => hmin w q ⟨hw, hs⟩, ht⟩
open Classical in
noncomputable def trueSteps (ps : PL) (o u : Nat) : Option Nat := if u = o then some 0 else if h : o < u ∧ ∃ k, Len ps o u k then some (Classical.choose (lens_some.least h.2) + 1) else none
theorem trueSteps_is (ps : PL) (o : Nat) : IsSteps ps o (trueSteps ps o) := by
  intro u n
  unfold trueSteps
  by_cases e : u = o
  · rw [if_pos e]
    constructor
    · intro h
      cases h
      exact .inl ⟨e, rfl⟩
    · rintro (⟨_, rfl⟩ | ⟨h, _⟩)
      · rfl
      · omega
  · rw [if_neg e]
    by_cases h : o < u ∧ ∃ k, Len ps o u k
    · rw [dif_pos h]
      have q := Classical.choose_spec (lens_some.least h.2)
      constructor
      · intro z
        cases z
        exact .inr ⟨h.1, _, rfl, q.1, q.2⟩
      · rintro (⟨z, _⟩ | ⟨_, k, rfl, h1, h2⟩)
        · exact absurd z e
        · have a1 : ¬ k < Classical.choose (lens_some.least h.2) := fun z => q.2 _ z h1
          have a2 : ¬ Classical.choose (lens_some.least h.2) < k := fun z => h2 _ z q.1
          rw [show Classical.choose (lens_some.least h.2) = k by omega]
    · rw [dif_neg h]
      constructor
      · intro z
        cases z
      · rintro (⟨z, _⟩ | ⟨h1, k, _, h2, _⟩)
        · exact absurd z e
        · exact absurd ⟨h1, k, h2⟩ h
theorem ringOf_there {ps : PL} {o : Nat} {r : List Nat} (c : Cl ps o o r) : ∃ l, ringOf ps o = some l := by
  obtain ⟨n, h1, h2⟩ := lens_some.least (P := Len ps o o) ⟨_, r, c, rfl⟩
  obtain ⟨t, ht⟩ := greedy_is (trueSteps_is ps o) h1 h2
  exact ⟨_, ringOf_some (greedy_ring (trueSteps_is ps o) ht h1 h2)⟩
/-! ### the law's way: the least walk to each place, place by place longer -/
inductive Wk (ps : PL) (o : Nat) : List Nat → Nat → Prop
  | base : Wk ps o [o] o
  | step {l : List Nat} {u v : Nat} : Wk ps o l u → (u, v) ∈ ps → o < v → Wk ps o (l ++ [v]) v
theorem Wk.pos {ps : PL} {o : Nat} {l : List Nat} {v : Nat} (h : Wk ps o l v) : 0 < l.length := by
  cases h with
  | base => exact Nat.one_pos
  | step _ _ _ =>
    rw [List.length_append]
    exact Nat.succ_pos _
theorem wk_cl {ps : PL} {o : Nat} {l : List Nat} {u : Nat} (h : Wk ps o l u) : ∀ r, Cl ps o u r → ∃ t, l ++ r = o :: t ∧ Cl ps o o t := by
  induction h with
  | base => exact fun r c => ⟨r, rfl, c⟩
  | @step l u v _ huv hov ih =>
    intro r c
    obtain ⟨t, e, ct⟩ := ih (v :: r) ⟨huv, hov, c⟩
    exact ⟨t, by rw [List.append_assoc]; exact e, ct⟩
theorem cl_wk {ps : PL} {o : Nat} : ∀ {r l : List Nat} {u : Nat}, Wk ps o l u → Cl ps o u r → ∃ w, Wk ps o (l ++ r) w ∧ (w, o) ∈ ps
  | [], l, u, h, c => ⟨u, by rw [List.append_nil]; exact h, c⟩
  | v :: r, l, u, h, ⟨huv, hov, c⟩ => by
    obtain ⟨w, h1, h2⟩ := cl_wk (Wk.step h huv hov) c
    exact ⟨w, by rw [List.append_assoc] at h1; exact h1, h2⟩
/-- W holds the least walk of n + 1 places to each place -/
def IsWalks (ps : PL) (o n : Nat) (W : Nat → Option (List Nat)) : Prop :=
  (∀ v l, W v = some l → Wk ps o l v ∧ l.length = n + 1) ∧ ∀ v l', Wk ps o l' v → l'.length = n + 1 → ∃ l, W v = some l ∧ lexLt l' l = false
theorem walks_start (ps : PL) (o : Nat) : IsWalks ps o 0 (look [(o, [o])]) := by
  refine ⟨fun v l h => ?_, fun v l' h hl => ?_⟩
  · have h' : (if o = v then some [o] else none) = some l := h
    by_cases e : o = v
    · rw [if_pos e] at h'
      cases h'
      rw [← e]
      exact ⟨Wk.base, rfl⟩
    · rw [if_neg e] at h'
      cases h'
  · cases h with
    | base => exact ⟨[o], (show (if o = o then some [o] else none) = some [o] from if_pos rfl), lex_irr _⟩
    | step h1 _ _ =>
      have := h1.pos
      rw [List.length_append, List.length_singleton] at hl
      omega
def longerS (W : Nat → Option (List Nat)) (o : Nat) (lg : List (Nat × List Nat)) (p : Nat × Nat) : List (Nat × List Nat) :=
  if o < p.2 then
    match W p.1 with
    | none => lg
    | some l => match look lg p.2 with
      | none => put lg p.2 (l ++ [p.2])
      | some m => if lexLt (l ++ [p.2]) m then put lg p.2 (l ++ [p.2]) else lg
  else lg
def IsLonger (ps : PL) (W : Nat → Option (List Nat)) (o : Nat) (G : Nat → Option (List Nat)) : Prop :=
  (∀ v m, G v = some m → ∃ u l, (u, v) ∈ ps ∧ o < v ∧ W u = some l ∧ m = l ++ [v]) ∧ ∀ u v l, (u, v) ∈ ps → o < v → W u = some l → ∃ m, G v = some m ∧ lexLt (l ++ [v]) m = false
theorem longer_start (W : Nat → Option (List Nat)) (o : Nat) : IsLonger [] W o (look []) := ⟨fun _ _ h => (by cases h), fun _ _ _ h => (by cases h)⟩
theorem longer_stay {ps : PL} {W : Nat → Option (List Nat)} {o : Nat} {G : Nat → Option (List Nat)} {p : Nat × Nat} (h : IsLonger ps W o G) (hn : o < p.2 → ∀ l, W p.1 = some l → ∃ m, G p.2 = some m ∧ lexLt (l ++ [p.2]) m = false) : IsLonger (ps ++ [p]) W o G := by
  refine ⟨fun v m e => ?_, fun u v l hm hv hw => ?_⟩
  · obtain ⟨u, l, h1, h2, h3, h4⟩ := h.1 v m e
    exact ⟨u, l, List.mem_append_left _ h1, h2, h3, h4⟩
  · rcases List.mem_append.mp hm with q | q
    · exact h.2 u v l q hv hw
    · have e : (u, v) = p := by simpa using q
      subst e
      exact hn hv l hw
theorem longer_put {ps : PL} {W : Nat → Option (List Nat)} {o : Nat} {lg : List (Nat × List Nat)} {p : Nat × Nat} {l : List Nat} (h : IsLonger ps W o (look lg)) (ho : o < p.2) (hw : W p.1 = some l)
    (hle : ∀ m, look lg p.2 = some m → lexLt m (l ++ [p.2]) = false) : IsLonger (ps ++ [p]) W o (look (put lg p.2 (l ++ [p.2]))) := by
  refine ⟨fun v m e => ?_, fun u v l2 hm hv hw2 => ?_⟩
  · rw [look_put] at e
    by_cases q : p.2 = v
    · rw [if_pos q] at e
      cases e
      refine ⟨p.1, l, List.mem_append_right _ ?_, q ▸ ho, hw, by rw [q]⟩
      rw [← q]
      exact List.mem_singleton.mpr rfl
    · rw [if_neg q] at e
      obtain ⟨u, l, h1, h2, h3, h4⟩ := h.1 v m e
      exact ⟨u, l, List.mem_append_left _ h1, h2, h3, h4⟩
  · rw [look_put]
    rcases List.mem_append.mp hm with z | z
    · obtain ⟨m, hm1, hm2⟩ := h.2 u v l2 z hv hw2
      by_cases q : p.2 = v
      · rw [if_pos q]
        refine ⟨_, rfl, ?_⟩
        subst q
        exact lex_le_trans (hle m hm1) hm2
      · rw [if_neg q]
        exact ⟨m, hm1, hm2⟩
    · have e : (u, v) = p := by simpa using z
      subst e
      rw [if_pos rfl]
      have hw' : W u = some l := hw
      rw [hw'] at hw2
      cases hw2
      exact ⟨_, rfl, lex_irr _⟩
theorem longer_step {ps : PL} {W : Nat → Option (List Nat)} {o : Nat} {lg : List (Nat × List Nat)} {p : Nat × Nat} (h : IsLonger ps W o (look lg)) : IsLonger (ps ++ [p]) W o (look (longerS W o lg p)) := by
  unfold longerS
  by_cases ho : o < p.2
  · rw [if_pos ho]
    cases hw : W p.1 with
    | none => exact longer_stay h fun _ l q => by rw [hw] at q; cases q
    | some l =>
      cases hg : look lg p.2 with
      | none => exact longer_put h ho hw fun m q => by rw [hg] at q; cases q
      | some m =>
        show IsLonger (ps ++ [p]) W o (look (if lexLt (l ++ [p.2]) m = true then put lg p.2 (l ++ [p.2]) else lg))
        cases hc : lexLt (l ++ [p.2]) m with
        | true =>
          rw [if_pos rfl]
          exact longer_put h ho hw fun m2 q => by
            rw [hg] at q
            cases q
            exact lex_asym hc
        | false =>
          rw [if_neg Bool.false_ne_true]
          exact longer_stay h fun _ l2 q => by
            rw [hw] at q
            cases q
            exact ⟨m, hg, hc⟩
  · rw [if_neg ho]
    exact longer_stay h fun q => absurd q ho
theorem walks_longer {ps : PL} {o n : Nat} {W G : Nat → Option (List Nat)} (hW : IsWalks ps o n W) (hG : IsLonger ps W o G) : IsWalks ps o (n + 1) G := by
  refine ⟨fun v m e => ?_, fun v l' h hl => ?_⟩
  · obtain ⟨u, l, h1, h2, h3, rfl⟩ := hG.1 v m e
    obtain ⟨w1, w2⟩ := hW.1 u l h3
    exact ⟨Wk.step w1 h1 h2, by rw [List.length_append, w2]; rfl⟩
  · cases h with
    | base => exact absurd hl (by show ¬ 1 = n + 1 + 1; omega)
    | @step l u _ h1 h2 h3 =>
      have e : l.length = n + 1 := by
        rw [List.length_append, List.length_singleton] at hl
        omega
      obtain ⟨l0, q1, q2⟩ := hW.2 u l h1 e
      obtain ⟨m, r1, r2⟩ := hG.2 u v l0 h2 h3 q1
      refine ⟨m, r1, lex_le_trans r2 ?_⟩
      rw [lex_app [v] (e.trans (hW.1 u l0 q1).2.symm)]
      exact q2
/-- the rings that the walks close, in the order of the pairs -/
def ringsOf (ps : PL) (o : Nat) (W : Nat → Option (List Nat)) : List (List Nat) := ps.filterMap fun p => if p.2 = o then W p.1 else none
theorem rings_mem {ps : PL} {o n : Nat} {W : Nat → Option (List Nat)} (hW : IsWalks ps o n W) {l : List Nat} (h : l ∈ ringsOf ps o W) : ∃ t, l = o :: t ∧ Cl ps o o t ∧ t.length = n := by
  obtain ⟨p, hp, e⟩ := List.mem_filterMap.mp h
  by_cases q : p.2 = o
  · rw [if_pos q] at e
    obtain ⟨w1, w2⟩ := hW.1 _ _ e
    obtain ⟨t, e1, e2⟩ := wk_cl w1 [] (show (p.1, o) ∈ ps by rw [← q]; exact hp)
    rw [List.append_nil] at e1
    refine ⟨t, e1, e2, ?_⟩
    rw [e1, List.length_cons] at w2
    omega
  · rw [if_neg q] at e
    cases e
theorem rings_all {ps : PL} {o n : Nat} {W : Nat → Option (List Nat)} (hW : IsWalks ps o n W) {t : List Nat} (c : Cl ps o o t) (h : t.length = n) : ∃ l, l ∈ ringsOf ps o W ∧ lexLt (o :: t) l = false := by
  obtain ⟨w, h1, h2⟩ := cl_wk (Wk.base (ps := ps) (o := o)) c
  obtain ⟨l, q1, q2⟩ := hW.2 w ([o] ++ t) h1 (by show t.length + 1 = n + 1; rw [h])
  exact ⟨l, List.mem_filterMap.mpr ⟨(w, o), h2, by rw [if_pos rfl]; exact q1⟩, q2⟩
theorem law_none {ps : PL} {o n : Nat} {W : Nat → Option (List Nat)} (hW : IsWalks ps o n W) (h : ringsOf ps o W = []) (hno : ∀ r, Cl ps o o r → n ≤ r.length) : ∀ r, Cl ps o o r → n + 1 ≤ r.length := by
  intro r c
  have h1 := hno r c
  rcases Nat.lt_or_ge n r.length with q | q
  · exact q
  · obtain ⟨l, hl, _⟩ := rings_all hW c (Nat.le_antisymm q h1)
    rw [h] at hl
    cases hl
theorem law_ring {ps : PL} {o n : Nat} {W : Nat → Option (List Nat)} (hW : IsWalks ps o n W) (hno : ∀ r, Cl ps o o r → n ≤ r.length) {x : List Nat} (hx : x ∈ ringsOf ps o W) (hm : ∀ y, y ∈ ringsOf ps o W → lexLt y x = false) : LRing ps o x ∧ x.length = n + 1 := by
  obtain ⟨t, rfl, c, e⟩ := rings_mem hW hx
  refine ⟨⟨t, rfl, c, fun r' c' => ⟨by rw [e]; exact hno r' c', fun z => ?_⟩⟩, by rw [List.length_cons, e]⟩
  obtain ⟨l, hl, hle⟩ := rings_all hW c' (z.trans e)
  have h1 := lex_le_trans (hm l hl) hle
  unfold lexLt at h1
  rw [if_pos rfl] at h1
  exact h1
/-! ### the shortest rings fit in -/
def Within (m : Nat) (ps : PL) : Prop := ∀ p ∈ ps, p.1 < m ∧ p.2 < m
theorem cl_suffix {ps : PL} {o : Nat} : ∀ {a : List Nat} {u v : Nat} {c : List Nat}, Cl ps o u (a ++ v :: c) → Cl ps o v c
  | [], _, _, _, h => h.2.2
  | _ :: a, _, _, _, h => cl_suffix (a := a) h.2.2
theorem cl_nodup {ps : PL} {o : Nat} : ∀ {r : List Nat} {u : Nat}, Cl ps o u r → ∃ r', Cl ps o u r' ∧ r'.Nodup
  | [], _, h => ⟨[], h, List.nodup_nil⟩
  | v :: t, u, ⟨h1, h2, h3⟩ => by
    obtain ⟨t', c, hn⟩ := cl_nodup h3
    by_cases hv : v ∈ t'
    · obtain ⟨a, b, rfl⟩ := List.append_of_mem hv
      exact ⟨v :: b, ⟨h1, h2, cl_suffix c⟩, (List.nodup_append.mp hn).2.1⟩
    · exact ⟨v :: t', ⟨h1, h2, c⟩, List.nodup_cons.mpr ⟨hv, hn⟩⟩
theorem cl_within {m : Nat} {ps : PL} (hm : Within m ps) {o : Nat} : ∀ {r : List Nat} {u : Nat}, Cl ps o u r → u < m ∧ ∀ x ∈ r, o < x ∧ x < m
  | [], u, h => ⟨(hm _ h).1, fun _ q => by cases q⟩
  | v :: t, u, ⟨h1, h2, h3⟩ => by
    obtain ⟨q1, q2⟩ := cl_within hm h3
    refine ⟨(hm _ h1).1, fun x hx => ?_⟩
    rcases List.mem_cons.mp hx with e | e
    · subst e
      exact ⟨h2, q1⟩
    · exact q2 x e
theorem ring_fits {m : Nat} {ps : PL} (hm : Within m ps) {o : Nat} {r : List Nat} (c : Cl ps o o r) : ∃ r', Cl ps o o r' ∧ r'.length < m := by
  obtain ⟨r', c', hn⟩ := cl_nodup c
  obtain ⟨q1, q2⟩ := cl_within hm c'
  refine ⟨r', c', ?_⟩
  have := nodup_len m (o :: r') (List.nodup_cons.mpr ⟨fun z => Nat.lt_irrefl _ (q2 o z).1, hn⟩) (fun x hx => by
    rcases List.mem_cons.mp hx with e | e
    · rw [e]; exact q1
    · exact (q2 x e).2)
  exact this
/-! ### order or ring -/
theorem grow_mono (m : Nat) (ps : PL) {k : Nat} {x : Nat} (h : x ∈ grow m ps k) : x ∈ grow m ps (k + 1) := by
  unfold grow growS
  cases nextP m ps (grow m ps k) with
  | none => exact h
  | some v => exact List.mem_append_left _ h
theorem grow_new {m : Nat} {ps : PL} {k o : Nat} (h : o ∈ grow m ps (k + 1)) (h' : o ∉ grow m ps k) : ∀ w, (w, o) ∈ ps → w ∈ grow m ps k := by
  intro w hw
  unfold grow growS at h
  cases e : nextP m ps (grow m ps k) with
  | none =>
    rw [e] at h
    exact absurd h h'
  | some v =>
    rw [e] at h
    rcases List.mem_append.mp h with q | q
    · exact absurd q h'
    · have : o = v := by simpa using q
      subst this
      exact (next_some e).2.2 w hw
theorem grow_closed (m : Nat) (ps : PL) : ∀ (k : Nat) {a b : Nat}, (a, b) ∈ ps → b ∈ grow m ps k → a ∈ grow m ps k
  | 0, _, _, _, h => by cases h
  | k + 1, a, b, hab, h => by
    by_cases q : b ∈ grow m ps k
    · exact grow_mono m ps (grow_closed m ps k hab q)
    · exact grow_mono m ps (grow_new h q a hab)
theorem grow_back {m : Nat} {ps : PL} {k o : Nat} (h : ∀ w, (w, o) ∈ ps → w ∈ grow m ps k) : ∀ {r : List Nat} {u : Nat}, Cl ps o u r → u ∈ grow m ps k
  | [], u, c => h u c
  | _ :: _, _, ⟨h1, _, h3⟩ => grow_closed m ps k h1 (grow_back h h3)
theorem order_no_ring {m : Nat} {ps : PL} (hm : Within m ps) {t : List Nat} (h : orderOf m ps = some t) (o : Nat) : ∀ r, ¬ Cl ps o o r := by
  intro r c
  have hlen : m ≤ (grow m ps m).length := by
    unfold orderOf at h
    by_cases q : (grow m ps m).length < m
    · rw [if_pos q] at h
      cases h
    · exact Nat.le_of_not_lt q
  have ho : o < m := (cl_within hm c).1
  have hin : o ∈ grow m ps m := Classical.byContradiction fun q => by
    have := nodup_len m (o :: grow m ps m) (List.nodup_cons.mpr ⟨q, grow_nodup m ps m⟩) (fun x hx => by
      rcases List.mem_cons.mp hx with e | e
      · rw [e]; exact ho
      · exact grow_lt m ps m x e)
    rw [List.length_cons] at this
    omega
  obtain ⟨k, hk, hno⟩ := lens_some.least (P := fun k => o ∈ grow m ps k) ⟨m, hin⟩
  cases k with
  | zero => cases hk
  | succ k =>
    have q := hno k (Nat.lt_succ_self k)
    exact q (grow_back (grow_new hk q) c)
def backs (g : Nat → Nat) (s : Nat) : Nat → List Nat
  | 0 => []
  | j + 1 => g (s + j + 1) :: backs g s j
theorem backs_cl {ps : PL} {g : Nat → Nat} (hg : ∀ n, (g (n + 1), g n) ∈ ps) (s : Nat) : ∀ j, (∀ i, 1 ≤ i → i ≤ j → g s < g (s + i)) → Cl ps (g s) (g (s + j + 1)) (backs g s j)
  | 0, _ => hg s
  | j + 1, h => ⟨hg (s + j + 1), h (j + 1) (by omega) (Nat.le_refl _), backs_cl hg s j fun i h1 h2 => h i h1 (by omega)⟩
theorem pigeon (m : Nat) (g : Nat → Nat) (h : ∀ n, g n < m) : ∃ i j, i < j ∧ g i = g j := by
  apply Classical.byContradiction
  intro c
  have inj : ∀ i j, i < j → g i ≠ g j := fun i j hij e => c ⟨i, j, hij, e⟩
  have hn : ((List.range (m + 1)).map g).Nodup := by
    refine List.Pairwise.map g (R := fun i j => i < j) (fun i j hij => inj i j hij) ?_
    exact List.pairwise_lt_range
  have := nodup_len m _ hn (fun x hx => by
    obtain ⟨i, _, rfl⟩ := List.mem_map.mp hx
    exact h i)
  rw [List.length_map, List.length_range] at this
  omega
theorem seq_ring {m : Nat} {ps : PL} {g : Nat → Nat} (hg : ∀ n, (g (n + 1), g n) ∈ ps) (hm : ∀ n, g n < m) : ∃ o r, o < m ∧ Cl ps o o r := by
  obtain ⟨i, j, hij, e⟩ := pigeon m g hm
  -- the places seen from i on come again at j
  -- least place at or behind i, up to j
  obtain ⟨mu, ⟨s, h1, h2, rfl⟩, hmin⟩ := lens_some.least (P := fun x => ∃ s, i ≤ s ∧ s < j ∧ x = g s) ⟨g i, i, Nat.le_refl _, hij, rfl⟩
  -- the sequence s, s + 1, .., j = i, .., s: as a new sequence
  let g' : Nat → Nat := fun n => g (i + (s - i + n) % (j - i))
  have hp : 0 < j - i := by omega
  have hg' : ∀ n, (g' (n + 1), g' n) ∈ ps := by
    intro n
    show (g (i + (s - i + (n + 1)) % (j - i)), g (i + (s - i + n) % (j - i))) ∈ ps
    have hr := Nat.mod_lt (s - i + n) hp
    by_cases q : (s - i + n) % (j - i) + 1 = j - i
    · have e1 : (s - i + (n + 1)) % (j - i) = 0 := by
        rw [← Nat.add_assoc, ← Nat.mod_add_mod, q, Nat.mod_self]
      rw [e1, Nat.add_zero, e]
      have e2 : i + (s - i + n) % (j - i) = j - 1 := by omega
      rw [e2]
      have := hg (j - 1)
      rw [show j - 1 + 1 = j by omega] at this
      exact this
    · have e1 : (s - i + (n + 1)) % (j - i) = (s - i + n) % (j - i) + 1 := by
        rw [← Nat.add_assoc, ← Nat.mod_add_mod]
        exact Nat.mod_eq_of_lt (by omega)
      rw [e1]
      exact hg _
  have hle : ∀ n, g s ≤ g' n := by
    intro n
    have hr := Nat.mod_lt (s - i + n) hp
    exact Nat.le_of_not_lt fun q => hmin _ q ⟨i + (s - i + n) % (j - i), by omega, by omega, rfl⟩
  have h0 : g' 0 = g s := by
    show g (i + (s - i + 0) % (j - i)) = g s
    rw [Nat.add_zero, Nat.mod_eq_of_lt (by omega)]
    congr 1
    omega
  have hper : g' (j - i) = g s := by
    show g (i + (s - i + (j - i)) % (j - i)) = g s
    rw [Nat.add_mod_right, Nat.mod_eq_of_lt (by omega)]
    congr 1
    omega
  obtain ⟨q, ⟨hq1, hq2⟩, hno⟩ := lens_some.least (P := fun q => 1 ≤ q ∧ g' q = g s) ⟨j - i, by omega, hper⟩
  refine ⟨g s, backs g' 0 (q - 1), hm s, ?_⟩
  have := backs_cl hg' 0 (q - 1) (fun t t1 t2 => by
    rw [h0, Nat.zero_add]
    have a1 := hle t
    have a2 : g' t ≠ g s := fun z => hno t (by omega) ⟨t1, z⟩
    omega)
  rw [h0, show 0 + (q - 1) + 1 = q by omega, hq2] at this
  exact this
theorem order_or_ring {m : Nat} {ps : PL} (hm : Within m ps) (h : orderOf m ps = none) : ∃ o r, o < m ∧ Cl ps o o r := by
  obtain ⟨t, ⟨v, hv, hvt⟩, hall⟩ := order_none h
  have hch : ∀ x : {v : Nat // v < m ∧ v ∉ t}, ∃ y : {v : Nat // v < m ∧ v ∉ t}, (y.1, x.1) ∈ ps := fun x => by
    obtain ⟨u, hu1, hu2⟩ := hall x.1 x.2.1 x.2.2
    exact ⟨⟨u, (hm _ hu1).1, hu2⟩, hu1⟩
  let f : {v : Nat // v < m ∧ v ∉ t} → {v : Nat // v < m ∧ v ∉ t} := fun x => Classical.choose (hch x)
  let g : Nat → {v : Nat // v < m ∧ v ∉ t} := fun n => Nat.rec ⟨v, hv, hvt⟩ (fun _ x => f x) n
  exact seq_ring (m := m) (g := fun n => (g n).1) (fun n => Classical.choose_spec (hch (g n))) (fun n => (g n).2.1)
/-! ### the best ring -/
theorem pick_some {b : Option (List Nat)} {x : Option (List Nat)} {l : List Nat} (h : x = some l) : ∃ m, pick b x = some m := by
  subst h
  cases b with
  | none => exact ⟨_, rfl⟩
  | some k =>
    show ∃ m, (if l.length < k.length then some l else some k) = some m
    by_cases q : l.length < k.length
    · exact ⟨l, if_pos q⟩
    · exact ⟨k, if_neg q⟩
theorem best_keeps {ps : PL} {o : Nat} {l : List Nat} (h : best ps o = some l) : ∃ m, best ps (o + 1) = some m := by
  show ∃ m, pick (best ps o) (ringOf ps o) = some m
  rw [h]
  cases hx : ringOf ps o with
  | none => exact ⟨l, rfl⟩
  | some x => exact pick_some rfl
theorem best_there {ps : PL} {o : Nat} {r : List Nat} (c : Cl ps o o r) : ∀ j, ∃ l, best ps (o + 1 + j) = some l
  | 0 => by
    obtain ⟨l, hl⟩ := ringOf_there c
    exact pick_some hl
  | j + 1 => by
    obtain ⟨l, hl⟩ := best_there c j
    exact best_keeps hl
theorem best_none {ps : PL} (h : ∀ o r, ¬ Cl ps o o r) : ∀ m, best ps m = none
  | 0 => rfl
  | m + 1 => by
    show pick (best ps m) (ringOf ps m) = none
    rw [best_none h m, ringOf_none (h m)]
    rfl
theorem one_of_two {m : Nat} {ps : PL} (hm : Within m ps) : (orderOf m ps = none ↔ best ps m ≠ none) := by
  constructor
  · intro h
    obtain ⟨o, r, ho, c⟩ := order_or_ring hm h
    obtain ⟨l, hl⟩ := best_there c (m - (o + 1))
    rw [show o + 1 + (m - (o + 1)) = m by omega] at hl
    rw [hl]
    exact fun z => by cases z
  · intro h
    cases e : orderOf m ps with
    | none => rfl
    | some t => exact absurd (best_none (order_no_ring hm e) m) h
theorem pick_short {b : Option (List Nat)} {ps : PL} {o : Nat} {l : List Nat} (hb : b = some l) (h : ∀ r, Cl ps o o r → l.length ≤ r.length + 1) : pick b (ringOf ps o) = b := by
  subst hb
  cases hx : ringOf ps o with
  | none => rfl
  | some x =>
    obtain ⟨r, rfl, c, _⟩ := ringOf_is hx
    have := h r c
    show (if (o :: r).length < l.length then some (o :: r) else some l) = some l
    rw [if_neg (by rw [List.length_cons]; omega)]
theorem pick_no {b : Option (List Nat)} {ps : PL} {o : Nat} (h : ∀ r, ¬ Cl ps o o r) : pick b (ringOf ps o) = b := by
  rw [ringOf_none h]
  rfl
theorem pick_new {b : Option (List Nat)} {ps : PL} {o : Nat} {x : List Nat} (hx : LRing ps o x) (h : ∀ l, b = some l → x.length < l.length) : pick b (ringOf ps o) = some x := by
  rw [ringOf_some hx]
  cases b with
  | none => rfl
  | some l => exact if_pos (h l rfl)
end K02

/-! Rules of our own over the hand layer: a walk over a list or a tuple; the order of data; the least of a list of data; list(reversed(a list)). -/
namespace RT
open PySem PySem.Spec PyProof.Rows L2
section
variable {prog : Program} {w : World} {A : Around} {E : Value → Shared → Prop} {s : Shared}
theorem extend_rev {R : Result → Shared → Prop} {it l : Addr} {items : Array Value} (hh : A.handled = none) (S : Addr) (res : Value) (c₀ : Nat) (hS : s.heap.get? S = some { cls := .type "list", data := .seq #[] c₀ })
    (hit : s.heap.IsRevIter it l ((items.size : Int) - 1)) (hl : s.heap.IsList l items) (hne : l ≠ it) (hSi : S ≠ it) (hSl : S ≠ l) (hn : items.size ≤ sizeLine)
    (hR : ∀ h' tk acc' c', (∀ b o, b ≠ S → b ≠ it → s.heap.get? b = some o → h'.get? b = some o) → h'.get? S = some { cls := .type "list", dict := none, data := .seq acc' c', slots := #[] } →
      ItemsOf (fun i v => items[items.size - 1 - i]? = some v) acc' items.size → R (.ok (.ret res)) { s with heap := h', toks := tk }) :
    wpAny (model prog w) A.in1 (Builtin.List.listExtendWith (.ref S) (.ref it) res)
      (fun fin s' => match fin with | .done f => R (.ok f) s' | .again c' => c'.quiet = true ∧ codeAny (model prog w) A c' R s') (fun e s' => R (.error e) s') s := by
  have W := (Walks.listRev (prog := prog) (w := w) (A := A.in1) hh it l hne items).toS
  have hSf : S ∉ [it, l] := by simp only [List.mem_cons, List.not_mem_nil, or_false, not_or]; exact ⟨hSi, hSl⟩
  have hT : s.TypeIs (.ref it) "list_reverseiterator" := hit.typeIs
  have h1 : Builtin.List.listSameRef (.ref S) (.ref it) = false := by simp [Builtin.List.listSameRef, hSi]
  unfold Builtin.List.listExtendWith
  refine wpAny_bind (wpAny_typeOf hT ?_)
  rw [if_neg (by rw [h1]; decide)]
  refine wpAny_bind (wpAny_pyIter_revIter hit ?_)
  refine wpAny_bind (wpAny_holding ?_)
  unfold Builtin.List.listLengthHint
  refine wpAny_bind (wpAny_specialOf hT nolen_lri ?_)
  show wpAny _ A.in1 (specialOf (Value.ref it) (Str.ofString "__length_hint__") >>= _) _ _ _
  refine wpAny_bind (wpAny_specialOf hT hint_lri ?_)
  generalize hid : ("list_reverseiterator.__length_hint__" : String) = id0
  wp_delta
  rw [show splitId id0 = some ("list_reverseiterator", "__length_hint__") from by subst hid; decide +kernel]
  subst hid
  refine wpAny_bind (wpAny_isInstance (b := true) hT (by rw [isSubtype_type]; kernel_rfl) ?_)
  refine wpAny_pure ?_
  rw [if_neg (by decide)]
  have e0 : ((items.size : Nat) : Int) - 1 - ((0 : Nat) : Int) = (items.size : Int) - 1 := by omega
  refine wpAny_pure ⟨plainId_quiet F.plain_extend_loop _, codeAny_extend_loopS W hn _ hSf _ items.size 0 _ _ _ rfl (Nat.zero_le _) ⟨Nat.zero_le _, by rw [e0]; exact hit, hl⟩ hS (ItemsOf.nil _) fun s' acc' c' hm hS' hacc => ?_⟩
  rw [Moved.eq_with hm]
  refine hR s'.heap s'.toks acc' c' (fun b o hb hb2 e => hm.heap b o (fun hmem => ?_) e) hS' hacc
  rcases List.mem_cons.mp hmem with e' | hmem
  · exact hb e'
  · exact hb2 (List.mem_singleton.mp hmem)
theorem list_init_rev {R : Result → Shared → Prop} {it l : Addr} {items : Array Value} (hh : A.handled = none) (S : Addr) (hS : s.heap.get? S = some { cls := .type "list", data := .seq #[] })
    (hit : s.heap.IsRevIter it l ((items.size : Int) - 1)) (hl : s.heap.IsList l items) (hne : l ≠ it) (hSi : S ≠ it) (hSl : S ≠ l) (hn : items.size ≤ sizeLine)
    (hR : ∀ h' tk acc' c', (∀ b o, b ≠ S → b ≠ it → s.heap.get? b = some o → h'.get? b = some o) → h'.get? S = some { cls := .type "list", dict := none, data := .seq acc' c', slots := #[] } →
      ItemsOf (fun i v => items[items.size - 1 - i]? = some v) acc' items.size → R (.ok (.ret .none)) { s with heap := h', toks := tk }) :
    wpAny (model prog w) A.in1 (Builtin.«list.__init__» ⟨[.ref S, .ref it], []⟩)
      (fun fin s' => match fin with | .done f => R (.ok f) s' | .again c' => c'.quiet = true ∧ codeAny (model prog w) A c' R s') (fun e s' => R (.error e) s') s := by
  show wpAny _ _ (do let old ← Builtin.List.listItems (.ref S); Builtin.List.listUpdate (.ref S) (fun _ => #[]); letGo old.toList.reverse; Builtin.List.listExtendWith (.ref S) (.ref it) .none) _ _ s
  refine wpAny_bind ?_
  unfold Builtin.List.listItems
  refine wpAny_bind (wpAny_seqItems hS rfl (wpAny_pure ?_))
  show wpAny _ _ (updateSeq S (fun _ => #[]) >>= fun _ => letGo (#[] : Array Value).toList.reverse >>= fun _ => Builtin.List.listExtendWith (.ref S) (.ref it) .none) _ _ s
  refine wpAny_bind (wpAny_updateSeq hS rfl ?_)
  have hS₂ := Heap.get?_update_self (Obj.mapSeq (fun _ => (#[] : Array Value))) hS rfl
  have oth : ∀ b o, b ≠ S → s.heap.get? b = some o → (s.heap.update S (Obj.mapSeq (fun _ => (#[] : Array Value)))).get? b = some o :=
    fun b o hb e => (Heap.get?_update_other _ _ (Ne.symm hb)).trans e
  refine wpAny_bind (wpAny_letGo ?_)
  refine extend_rev hh S .none _ hS₂ (hit.at fun o e => oth _ _ (Ne.symm hSi) e) (hl.at fun o e => oth _ _ (Ne.symm hSl) e) hne hSi hSl hn fun h' tk acc' c' hk hS' hacc => ?_
  exact hR h' tk acc' c' (fun b o hb hb2 e => hk b o hb hb2 (oth b o hb e)) hS' hacc
theorem call_list_rev {it l : Addr} {items : Array Value} {Q : Value → Shared → Prop} (hh : A.handled = none) (hit : s.heap.IsRevIter it l ((items.size : Int) - 1)) (hl : s.heap.IsList l items) (hne : l ≠ it) (hn : items.size ≤ sizeLine)
    (hQ : ∀ h' tk acc' c', (∀ b o, b ≠ it → s.heap.get? b = some o → h'.get? b = some o) →
      h'.get? s.heap.objs.size = some { cls := .type "list", dict := none, data := .seq acc' c', slots := #[] } → ItemsOf (fun i v => items[items.size - 1 - i]? = some v) acc' items.size → Q (.ref s.heap.objs.size) { s with heap := h', toks := tk }) :
    wpAny (model prog w) A (call (.type "list") [.ref it]) Q E s := by
  obtain ⟨oi, hoi, _⟩ := id hit
  obtain ⟨ol, hol, _⟩ := id hl
  have hSi : s.heap.objs.size ≠ it := Nat.ne_of_gt (Heap.lt_size hoi)
  have hSl : s.heap.objs.size ≠ l := Nat.ne_of_gt (Heap.lt_size hol)
  refine callType_codes (Q₁ := fun obj s₁ => obj = .ref s.heap.objs.size ∧ s₁ = { s with heap := s.heap.push { cls := .type "list", data := .seq #[] } }) F.called_list (F.typeCall_list_1 _) F.entry_list_init
    (code_list_new _ ⟨rfl, rfl⟩) fun obj s₁ h₁ => ?_
  obtain ⟨rfl, rfl⟩ := h₁
  have hS : (s.heap.push { cls := .type "list", data := .seq #[] }).get? s.heap.objs.size = some { cls := .type "list", data := .seq #[] } := Heap.get?_push_size _ rfl
  refine ⟨⟨_, hS, rfl⟩, F.args_list_init_2 _ _, list_init_rev (A := A.in1) hh _ hS (hit.at fun o e => Heap.get?_push_of_some _ e) (hl.push _) hne hSi hSl hn fun h' tk acc' c' hk hS' hacc => ?_⟩
  exact ⟨rfl, hQ h' tk acc' c' (fun b o hb e => hk b o (Nat.ne_of_lt (Heap.lt_size e)) hb (Heap.get?_push_of_some _ e)) hS' hacc⟩
end
end RT
namespace L2
open PySem PySem.Spec PyProof.Rows
section
variable {X : Cx}
/-- list(reversed(x)), x a list: a new list -/
def tLstRev (K : PySem.W.Frag) (te : TE) : TE := fun σ H Q => te σ H fun v H1 => ∃ (a : Addr) (xs : List V), v = .ref a ∧ SqL K H1 a xs ∧ ∀ q, H1 q = none → Q (.ref q) (upd H1 q (.lst xs.reverse))
theorem pe_lstRev {e : Expr} {te : TE} {p p2 pos pos2 : Pos} (hc : X.calm = true) (hg : Gl X "list") (hm : X.mg "list" = none) (hg2 : Gl X "reversed") (hm2 : X.mg "reversed" = none) (he : PE X e te)
    (hs : starEach [e] X.env = (false, eval e X.env) :: starEach [] X.env := by rfl)
    (hs2 : starEach [.Call (.Name "reversed" p2) [e] [] pos2] X.env = (false, eval (.Call (.Name "reversed" p2) [e] [] pos2) X.env) :: starEach [] X.env := by rfl) :
    PE X (.Call (.Name "list" p) [.Call (.Name "reversed" p2) [e] [] pos2] [] pos) (tLstRev X.K te) := by
  refine ⟨fun pins s σ H Q I h => ?_⟩
  refine Call_ (ld_blt I hg hm boot_list (PyProof.Rows.callWith_type1 (args_cons ?_ hs2) hs2 rfl))
  refine Call_ (ld_blt I hg2 hm2 PyProof.Rows.boot_reversed (PyProof.Rows.callWith_type1 (args_cons ?_ hs) hs rfl))
  refine thn (he.run pins s σ H _ I h) fun u s1 ⟨v, H1, I1, r1, q1⟩ => args_nil ?_
  obtain ⟨a, xs, ev, hq, q⟩ := q1
  subst ev
  obtain rfl : u = Value.ref a := r1
  obtain ⟨its, rv, p', hz⟩ := I1.list hq
  refine call_reversed_list p'.isList (args_nil ?_)
  have k0 : ∀ b o, s1.heap.get? b = some o → (s1.heap.push (revObj a ((its.toArray.size : Int) - 1))).get? b = some o := fun b o e => Heap.get?_push_of_some _ e
  have I2 : Inv X pins σ H1 { s1 with heap := s1.heap.push (revObj a ((its.toArray.size : Int) - 1)) } := I1.kept (t' := s1.toks) k0
  obtain ⟨f0, f1, f2, f3, f4, f5⟩ := I1.fpOk (H' := H1) (b := s1.heap.objs.size) (Nat.le_refl _) (I1.hok.fresh (Nat.le_refl _))
  have hl := p'.isList
  obtain ⟨ol, hol, _⟩ := id hl
  have hne : a ≠ s1.heap.objs.size := Nat.ne_of_lt (Heap.lt_size hol)
  have hn : its.toArray.size ≤ sizeLine := by rw [List.size_toArray, ← rv.length]; exact hz
  refine RT.call_list_rev (s := { s1 with heap := s1.heap.push (revObj a ((its.toArray.size : Int) - 1)) }) (I1.ok.hd hc) ⟨_, Heap.get?_push_size _ rfl, rfl, rfl⟩ (hl.push _) hne hn fun h' tk acc c' hk hS' hi => ?_
  have ez : (s1.heap.push (revObj a ((its.toArray.size : Int) - 1))).objs.size = s1.heap.objs.size + 1 := Heap.size_push _ _
  have hS2 : h'.get? (s1.heap.objs.size + 1) = some { cls := .type "list", data := .seq acc c' } := by rw [← ez]; exact hS'
  show EP X pins σ Q (Value.ref (s1.heap.push (revObj a ((its.toArray.size : Int) - 1))).objs.size) _
  rw [ez]
  refine ⟨.ref (s1.heap.objs.size + 1), upd H1 (s1.heap.objs.size + 1) (.lst xs.reverse), I1.laid (t' := tk) (fun b o e => hk b o (Nat.ne_of_lt (Heap.lt_size e)) (k0 b o e)) (Nat.le_succ _) (show ObjOk X.prog X.w _ _ _ (.lst xs.reverse) from ⟨by rw [List.length_reverse]; exact hz, acc.toList, c', RT.vals_rev rv hi, ?_⟩), rfl, q _ (I1.hok.fresh (Nat.le_succ _))⟩
  rw [Array.toArray_toList]
  exact hS2
end
end L2
namespace L2
open PySem PySem.Spec PyProof.Rows PySem.W
section
variable {X : Cx}
/-- a list or a tuple, walked -/
def iSeq (K : PySem.W.Frag) (tl : TE) : TI := fun σ H R => tl σ H fun x H1 => ∃ a, x = .ref a ∧ (((∃ xs, SqL K H1 a xs) ∧ R (Itl K a) H1) ∨ ((∃ xs, SqT K H1 a xs) ∧ R (Itt K a) H1))
theorem pi_seq {tg l : Expr} {tl : TE} (hl : PE X l tl) : PI X tg l (iSeq X.K tl) := by
  refine ⟨fun pins s σ H R I h => ?_⟩
  refine thn (hl.run pins s σ H _ I h) fun v s1 ⟨x, H1, I1, r1, q1⟩ => ?_
  obtain ⟨a, e, ⟨⟨xs, hq⟩, q⟩ | ⟨⟨xs, hq⟩, q⟩⟩ := q1
  · subst e
    cases r1
    obtain ⟨its, rv, p, hz⟩ := I1.list hq
    refine wpAny_pyIter_list p.isList ?_
    refine ⟨s1.heap.objs.size, [s1.heap.objs.size], _, _, H1, rfl, I1.kept (t' := s1.toks) fun b o e => Heap.get?_push_of_some _ e, turn_list a _, ⟨_, Heap.get?_push_size _ rfl, rfl, rfl⟩, fun b hb => ?_, q⟩
    have e : b = s1.heap.objs.size := by simpa using hb
    subst e
    exact I1.fpOk (Nat.le_refl _) (I1.hok.fresh (Nat.le_refl _))
  · subst e
    cases r1
    obtain ⟨its, rv, p, hz⟩ := I1.tuple hq
    refine wpAny_pyIter_tuple (show s1.heap.IsTuple a its.toArray from p) ?_
    refine ⟨s1.heap.objs.size, [s1.heap.objs.size], _, _, H1, rfl, I1.kept (t' := s1.toks) fun b o e => Heap.get?_push_of_some _ e, turn_tuple a _, ⟨_, Heap.get?_push_size _ rfl, rfl, rfl⟩, fun b hb => ?_, q⟩
    have e : b = s1.heap.objs.size := by simpa using hb
    subst e
    exact I1.fpOk (Nat.le_refl _) (I1.hok.fresh (Nat.le_refl _))
/-- x < y of data with a Lean type -/
def rLtA (α : Type) [DecidableEq α] [DatumOrd α] (K : PySem.W.Frag) : R2 := fun x y H Q => ∃ (a b : α), Dp K H x (Datum.toD a) ∧ Dp K H y (Datum.toD b) ∧ Q (.bl (DatumOrd.lt a b)) H
theorem op_ltA (α : Type) [DecidableEq α] [DatumOrd α] (hu : X.A.units + 64 < cLine) (hd : Datum.depth α ≤ 60) : OpR X (compareOp .Lt) (rLtA α X.K) := by
  intro pins s σ H x y v u Q I rx ry h
  obtain ⟨a, b, ha, hb, q⟩ := h
  obtain ⟨as, r1⟩ := Dp.reads I _ x v ha rx
  obtain ⟨bs, r2⟩ := Dp.reads I _ y u hb ry
  exact lt_datum ⟨as, r1⟩ ⟨bs, r2⟩ (by omega) ⟨.bl _, H, I, rfl, q⟩
theorem DpAll.at {K : PySem.W.Frag} {H : Hp} : ∀ {vs : List V} {ds : List PyData}, DpAll K H vs ds → ∀ (i : Nat) (v : V), vs[i]? = some v → ∃ d, ds[i]? = some d ∧ Dp K H v d
  | _, _, .nil, i, v, h => by simp at h
  | _, _, .cons h1 h2, 0, v, h => by
    simp only [List.getElem?_cons_zero, Option.some.injEq] at h
    subst h
    exact ⟨_, rfl, h1⟩
  | _, _, .cons h1 h2, i + 1, v, h => DpAll.at h2 i v (by simpa using h)
theorem toD_inj {α : Type} [DecidableEq α] [Datum α] {a b : α} (h : Datum.toD a = Datum.toD b) : a = b := by
  have e := Datum.eqv a b
  rw [h, Datum.eqv b b, decide_eq_true rfl] at e
  exact of_decide_eq_true e.symm
/-- min(xs): the item that stands where the first least one stands -/
def rMinA (α : Type) [DecidableEq α] [DatumOrd α] (K : PySem.W.Frag) : List V → Hp → VK → Prop := fun us H Q => ∃ (a : Addr) (vs : List V) (x : α) (xs : List α), us = [V.ref a] ∧ SqL K H a vs ∧ DpAll K H vs ((x :: xs).map Datum.toD) ∧
  ∀ (i : Nat) (v : V), vs[i]? = some v → (x :: xs)[i]? = some (minOf x xs) → Q v H
theorem cr_minA (α : Type) [DecidableEq α] [DatumOrd α] (hc : X.calm = true) (hu : X.A.units + 64 < cLine) (hd : Datum.depth α ≤ 60) : CallR X (.builtin "min") (rMinA α X.K) := by
  intro pins s σ H vs us Q I r h
  obtain ⟨a, ws, x, xs, rfl, hs, hda, q⟩ := h
  obtain ⟨its, rv, hl, _⟩ := I.list hs
  rw [Vals.ref1 r]
  obtain ⟨as, hr⟩ := Dp.readsAll I _ _ its hda rv
  refine min_list_datum (x := x) (xs := xs) (I.ok.hd hc) hl.isList ⟨as, by simpa using hr⟩ (by omega) fun i v h' tk hi hv hk => ?_
  have hi' : its[i]? = some v := by simpa using hi
  -- the item's own V
  have hlt : i < its.length := (List.getElem?_eq_some_iff.mp hi').1
  have hlw : i < ws.length := by
    have := Vals.length rv
    omega
  have hw : ws[i]? = some ws[i] := List.getElem?_eq_getElem hlw
  obtain ⟨u, hu1, hu2⟩ := rv.get hw
  rw [hi'] at hu1
  cases hu1
  obtain ⟨d, hd1, hd2⟩ := hda.at i _ hw
  obtain ⟨y, hy1, hy2⟩ : ∃ y, (x :: xs)[i]? = some y ∧ Datum.toD y = d := by
    rw [List.getElem?_map] at hd1
    cases e : (x :: xs)[i]? with
    | none => rw [e] at hd1; cases hd1
    | some y => rw [e] at hd1; exact ⟨y, rfl, Option.some.inj hd1⟩
  subst hy2
  have I2 : Inv X pins σ H { s with heap := h', toks := tk } := I.kept hk
  obtain ⟨bs, r2⟩ := Dp.reads I2 _ _ v hd2 hu2
  obtain ⟨cs, r3⟩ := hv
  have e := toD_inj (alike_unique _ _ v bs cs (DatumOrd.alike y (minOf x xs)) r2 r3)
  exact ⟨_, H, I2, hu2, q i _ hw (by rw [hy1, e])⟩
end
end L2
namespace L2
open PySem PySem.Spec PyProof.Rows
def rLenQ (K : PySem.W.Frag) : List V → Hp → VK → Prop := fun xs H Q => ∃ p ys, xs = [.ref p] ∧ (SqL K H p ys ∨ SqT K H p ys) ∧ Q (.int ys.length) H
def rListOf (K : PySem.W.Frag) : List V → Hp → VK → Prop := fun xs H Q => ∃ p ys, xs = [.ref p] ∧ (SqL K H p ys ∨ SqT K H p ys) ∧ ∀ l, H l = none → Q (.ref l) (upd H l (.lst ys))
end L2

/-! Heaps in short: numbers, lists of lists, lists of pairs, dicts by numbers. -/
namespace KH
open PySem PySem.Spec PyProof.Rows L2 K02
abbrev nV (n : Nat) : V := .int (n : Int)
/-! ### lists -/
theorem getn {α β : Type} {f : α → β} {l : List α} {i : Nat} {x : α} (h : l[i]? = some x) : (l.map f)[i]? = some (f x) := by
  rw [List.getElem?_map, h]
  rfl
theorem getn_inv {α β : Type} {f : α → β} {l : List α} {i : Nat} {y : β} (h : (l.map f)[i]? = some y) : ∃ x, l[i]? = some x ∧ y = f x := by
  rw [List.getElem?_map] at h
  cases e : l[i]? with
  | none => rw [e] at h; cases h
  | some x => rw [e] at h; exact ⟨x, rfl, (Option.some.inj h).symm⟩
theorem get_lt {α : Type} {l : List α} {i : Nat} (h : i < l.length) : ∃ x, l[i]? = some x := ⟨l[i], List.getElem?_eq_getElem h⟩
theorem lt_get {α : Type} {l : List α} {i : Nat} {x : α} (h : l[i]? = some x) : i < l.length := (List.getElem?_eq_some_iff.mp h).1
theorem take_more {α : Type} {l : List α} {i : Nat} {x : α} (h : l[i]? = some x) : l.take (i + 1) = l.take i ++ [x] := by
  rw [List.take_add_one, h]
  rfl
theorem at_n {xs : List V} {j : Nat} {v : V} (h : xs[j]? = some v) : atI xs (j : Int) = some v := atI_nat h
theorem szl {n : Nat} (h : n ≤ 10000) : n < sizeLine := Nat.lt_of_le_of_lt h (by decide)
theorem szle {n : Nat} (h : n ≤ 10000) : n ≤ sizeLine := Nat.le_of_lt (szl h)
section
variable {α β : Type} {F G : α → β → Prop}
theorem P_len : ∀ {xs : List α} {ys : List β}, Paired F xs ys → xs.length = ys.length
  | _, _, .nil => rfl
  | _, _, .cons _ h => by rw [List.length_cons, List.length_cons, P_len h]
theorem P_get : ∀ {xs : List α} {ys : List β}, Paired F xs ys → ∀ {i : Nat} {x : α} {y : β}, xs[i]? = some x → ys[i]? = some y → F x y
  | _, _, .nil, i, x, _, h, _ => by simp at h
  | _, _, .cons f _, 0, x, y, h, h' => by
    simp at h h'
    subst h
    subst h'
    exact f
  | _, _, .cons _ r, i + 1, x, y, h, h' => P_get r (i := i) (by simpa using h) (by simpa using h')
theorem P_right {xs : List α} {ys : List β} (p : Paired F xs ys) {i : Nat} {x : α} (h : xs[i]? = some x) : ∃ y, ys[i]? = some y ∧ F x y := by
  have hl := lt_get h
  rw [P_len p] at hl
  obtain ⟨y, hy⟩ := get_lt hl
  exact ⟨y, hy, P_get p h hy⟩
theorem P_left {xs : List α} {ys : List β} (p : Paired F xs ys) {i : Nat} {y : β} (h : ys[i]? = some y) : ∃ x, xs[i]? = some x ∧ F x y := by
  have hl := lt_get h
  rw [← P_len p] at hl
  obtain ⟨x, hx⟩ := get_lt hl
  exact ⟨x, hx, P_get p hx h⟩
theorem P_mono (h : ∀ x y, F x y → G x y) : ∀ {xs : List α} {ys : List β}, Paired F xs ys → Paired G xs ys
  | _, _, .nil => .nil
  | _, _, .cons f r => .cons (h _ _ f) (P_mono h r)
theorem P_monoM : ∀ {xs : List α} {ys : List β}, (∀ x y, x ∈ xs → F x y → G x y) → Paired F xs ys → Paired G xs ys
  | _, _, _, .nil => .nil
  | _, _, h, .cons f r => .cons (h _ _ List.mem_cons_self f) (P_monoM (fun x y hx => h x y (List.mem_cons_of_mem _ hx)) r)
theorem P_set : ∀ {xs : List α} {ys : List β}, Paired F xs ys → ∀ {i : Nat} {x : α} {y : β}, F x y → Paired F (xs.set i x) (ys.set i y)
  | _, _, .nil, _, _, _, _ => .nil
  | _, _, .cons _ r, 0, _, _, f => .cons f r
  | _, _, .cons g r, i + 1, _, _, f => .cons g (P_set r f)
theorem P_setR {xs : List α} {ys : List β} (p : Paired F xs ys) {i : Nat} {x : α} {y : β} (hx : xs[i]? = some x) (f : F x y) : Paired F xs (ys.set i y) := by
  have := P_set p (i := i) f
  rwa [show xs.set i x = xs from List.set_getElem?_self hx] at this
where
  List.set_getElem?_self {l : List α} {i : Nat} {x : α} (h : l[i]? = some x) : l.set i x = l := by
    apply List.ext_getElem?
    intro j
    rw [List.getElem?_set]
    by_cases e : i = j
    · subst e
      rw [if_pos rfl, if_pos (lt_get h), h]
    · rw [if_neg e]
theorem P_append : ∀ {xs xs' : List α} {ys ys' : List β}, Paired F xs ys → Paired F xs' ys' → Paired F (xs ++ xs') (ys ++ ys')
  | _, _, _, _, .nil, h => h
  | _, _, _, _, .cons f r, h => .cons f (P_append r h)
end
/-! ### what stays -/
theorem _root_.L2.Same.seqT {K : PySem.W.Frag} {H H' : Hp} {a : Addr} {xs : List V} (e : Same H H') (h : SqT K H a xs) : SqT K H' a xs := by
  rcases h with (h | ⟨o, h⟩) | h
  · exact .inl (.inl (e _ _ h))
  · exact .inl (.inr ⟨o, e _ _ h⟩)
  · exact .inr h
theorem _root_.L2.Same.new {H H' : Hp} {p : Addr} {o : HO} (s : Same H H') (h : H' p = none) : Same H (upd H' p o) := fun b x e => by
  have e' := s b x e
  rw [upd_ne (ne_of_none e' h)]
  exact e'
theorem _root_.L2.Same.mut {H H' : Hp} {p : Addr} {o : HO} (s : Same H H') (h : H p = none) : Same H (upd H' p o) := fun b x e => by
  rw [upd_ne (ne_of_none e h)]
  exact s b x e
theorem new_free {H H' : Hp} {p : Addr} (s : Same H H') (h : H' p = none) : H p = none := s.free h
theorem ne_new {H : Hp} {a p : Addr} {o : HO} (h : H a = some o) (hp : H p = none) : a ≠ p := ne_of_none h hp
/-! ### a walk over a list or a tuple -/
def Sq (K : PySem.W.Frag) (H : Hp) (a : Addr) (xs : List V) : Prop := SqL K H a xs ∨ SqT K H a xs
theorem _root_.L2.Same.sq {K : PySem.W.Frag} {H H' : Hp} {a : Addr} {xs : List V} (e : Same H H') (h : Sq K H a xs) : Sq K H' a xs := h.imp (fun q => e.seq q) (fun q => e.seqT q)
theorem for_seq {K : PySem.W.Frag} {a : Addr} {xs : List V} {g : TG} {tb : TS} {D : Ends} {σ : L2.St} {H0 H : Hp} (hq : Sq K H0 a xs) (s0 : Same H0 H) (Pv : Nat → L2.St → Hp → Prop) (h0 : Pv 0 σ H) (hl : ∀ i σ' H', i ≤ xs.length → Pv i σ' H' → Same H0 H')
    (hs : ∀ i x σ H, xs[i]? = some x → Pv i σ H → g x σ H fun σ2 H2 => tb { D with nx := Pv (i + 1), ct := Pv (i + 1), bk := D.nx } σ2 H2) (hd : ∀ σ H, Pv xs.length σ H → D.nx σ H) :
    ∃ a', V.ref a = V.ref a' ∧ (((∃ xs, SqL K H a' xs) ∧ ∃ W : Nat → Nat → L2.St → Hp → Prop, (∃ m, W 0 m σ H) ∧ ∀ i m σ H, W i m σ H →
      ((Itl K a').stop i H ∧ D.nx σ H) ∨ ((Itl K a').go i H ∧ ∃ N : L2.St → Hp → Prop, (∀ σ' H', N σ' H' → ∃ m', m' < m ∧ W (i + 1) m' σ' H') ∧ ∀ x H', (Itl K a').yld i H x H' → g x σ H' fun σ2 H2 => tb { D with nx := N, ct := N, bk := D.nx } σ2 H2)) ∨
      ((∃ xs, SqT K H a' xs) ∧ ∃ W : Nat → Nat → L2.St → Hp → Prop, (∃ m, W 0 m σ H) ∧ ∀ i m σ H, W i m σ H →
      ((Itt K a').stop i H ∧ D.nx σ H) ∨ ((Itt K a').go i H ∧ ∃ N : L2.St → Hp → Prop, (∀ σ' H', N σ' H' → ∃ m', m' < m ∧ W (i + 1) m' σ' H') ∧ ∀ x H', (Itt K a').yld i H x H' → g x σ H' fun σ2 H2 => tb { D with nx := N, ct := N, bk := D.nx } σ2 H2))) := by
  rcases hq with hq | hq
  · exact ⟨a, rfl, .inl ⟨⟨_, s0.seq hq⟩, for_list (K := K) (a := a) (xs := xs) Pv h0 (fun i σ' H' hi p => (hl i σ' H' hi p).seq hq) hs hd⟩⟩
  · exact ⟨a, rfl, .inr ⟨⟨_, s0.seqT hq⟩, for_tup (K := K) (a := a) (xs := xs) Pv h0 (fun i σ' H' hi p => (hl i σ' H' hi p).seqT hq) hs hd⟩⟩
/-! ### dicts by numbers -/
def dkN {β : Type} (f : β → V) (l : List (Nat × β)) : List (Key × V) := l.map fun p => (Sum.inl (p.1 : Int), f p.2)
theorem key_eq {a b : Nat} : ((Sum.inl (a : Int) : Key) = Sum.inl (b : Int)) ↔ a = b := by
  constructor
  · intro h
    have := Sum.inl.inj h
    omega
  · intro h
    rw [h]
theorem val_dk {β : Type} (f : β → V) (k : Nat) : ∀ l : List (Nat × β), valV (dkN f l) (Sum.inl (k : Int)) = (look l k).map f
  | [] => rfl
  | p :: r => by
    show valV ((Sum.inl (p.1 : Int), f p.2) :: dkN f r) (Sum.inl (k : Int)) = (if p.1 = k then some p.2 else look r k).map f
    by_cases e : p.1 = k
    · rw [valV_pos (key_eq.mpr e), if_pos e]
      rfl
    · rw [valV_neg (fun z => e (key_eq.mp z)), if_neg e, val_dk f k r]
theorem put_dk {β : Type} (f : β → V) (k : Nat) (v : β) (l : List (Nat × β)) (hn : (l.map (·.1)).Nodup) : putK (dkN f l) (Sum.inl (k : Int)) (f v) = dkN f (put l k v) := by
  unfold putK
  rw [valV_any, val_dk]
  cases h : look l k with
  | none =>
    rw [if_neg (by simp)]
    rw [put_new l h]
    unfold dkN
    rw [List.map_append]
    rfl
  | some w =>
    rw [if_pos (by simp)]
    exact put_old l (by rw [h]; rfl) hn
where
  put_new : ∀ (l : List (Nat × β)), look l k = none → put l k v = l ++ [(k, v)]
    | [], _ => rfl
    | p :: r, h => by
      unfold look at h
      by_cases e : p.1 = k
      · rw [if_pos e] at h
        cases h
      · rw [if_neg e] at h
        show (if p.1 = k then (p.1, v) :: r else p :: put r k v) = _
        rw [if_neg e, put_new r h]
        rfl
  map_other : ∀ (l : List (Nat × β)), k ∉ l.map (·.1) → (dkN f l).map (fun kv => if kv.1 = Sum.inl (k : Int) then (kv.1, f v) else kv) = dkN f l
    | [], _ => rfl
    | p :: r, h => by
      rw [List.map_cons, List.mem_cons, not_or] at h
      show (if (Sum.inl (p.1 : Int) : Key) = Sum.inl (k : Int) then (Sum.inl (p.1 : Int), f v) else (Sum.inl (p.1 : Int), f p.2)) :: (dkN f r).map (fun kv => if kv.1 = Sum.inl (k : Int) then (kv.1, f v) else kv) = _
      rw [if_neg (fun z => h.1 (key_eq.mp z).symm), map_other r h.2]
      rfl
  put_old : ∀ (l : List (Nat × β)), (look l k).isSome = true → (l.map (·.1)).Nodup → (dkN f l).map (fun kv => if kv.1 = Sum.inl (k : Int) then (kv.1, f v) else kv) = dkN f (put l k v)
    | [], h, _ => by cases h
    | p :: r, h, hn => by
      rw [List.map_cons] at hn
      obtain ⟨h1, h2⟩ := List.nodup_cons.mp hn
      show (if (Sum.inl (p.1 : Int) : Key) = Sum.inl (k : Int) then (Sum.inl (p.1 : Int), f v) else (Sum.inl (p.1 : Int), f p.2)) :: (dkN f r).map (fun kv => if kv.1 = Sum.inl (k : Int) then (kv.1, f v) else kv) = dkN f (if p.1 = k then (p.1, v) :: r else p :: put r k v)
      by_cases e : p.1 = k
      · rw [if_pos (key_eq.mpr e), if_pos e, map_other r (by rw [← e]; exact h1)]
        rfl
      · rw [if_neg (fun z => e (key_eq.mp z)), if_neg e]
        unfold look at h
        rw [if_neg e] at h
        rw [put_old r h h2]
        rfl
theorem dk_len {β : Type} (f : β → V) (l : List (Nat × β)) : (dkN f l).length = l.length := by unfold dkN; rw [List.length_map]
theorem put_keys {β : Type} (k : Nat) (v : β) : ∀ (l : List (Nat × β)), (l.map (·.1)).Nodup → ((put l k v).map (·.1)).Nodup ∧ ∀ x, x ∈ (put l k v).map (·.1) → x = k ∨ x ∈ l.map (·.1)
  | [], _ => ⟨by simp [put], fun x h => .inl (by simpa [put] using h)⟩
  | p :: r, hn => by
    rw [List.map_cons] at hn
    obtain ⟨h1, h2⟩ := List.nodup_cons.mp hn
    unfold put
    by_cases e : p.1 = k
    · rw [if_pos e]
      exact ⟨hn, fun x h => .inr h⟩
    · rw [if_neg e]
      obtain ⟨i1, i2⟩ := put_keys k v r h2
      refine ⟨?_, fun x h => ?_⟩
      · rw [List.map_cons]
        refine List.nodup_cons.mpr ⟨fun z => ?_, i1⟩
        rcases i2 _ z with q | q
        · exact e q
        · exact h1 q
      · rw [List.map_cons, List.mem_cons] at h
        rcases h with q | q
        · rw [q, List.map_cons]
          exact .inr List.mem_cons_self
        · rcases i2 _ q with q | q
          · exact .inl q
          · rw [List.map_cons]
            exact .inr (List.mem_cons_of_mem _ q)
theorem dget_n {β : Type} {H : Hp} {a : Addr} {f : β → V} {l : List (Nat × β)} {k : Nat} (h : H a = some (.dK (dkN f l))) : DGet H a (nV k) ((look l k).map f) := by
  have := DGet.k (k := Sum.inl (k : Int)) h
  rw [val_dk] at this
  exact this
theorem dput_n {β : Type} {H : Hp} {a : Addr} {f : β → V} {l : List (Nat × β)} {k : Nat} {v : β} (h : H a = some (.dK (dkN f l))) (hl : l.length < sizeLine) (hn : (l.map (·.1)).Nodup) : DPut H a (nV k) (f v) (upd H a (.dK (dkN f (put l k v)))) := by
  have := DPut.k (k := Sum.inl (k : Int)) (v := f v) h (by rw [dk_len]; exact hl)
  rw [put_dk f k v l hn] at this
  exact this
/-! ### lists of lists of numbers, all new -/
/-- at a (new since H0) a list of lists, each new since H0, no two the same -/
structure LL (H0 H : Hp) (a : Addr) (bs : List (List Nat)) : Prop where
  new : H0 a = none
  ex : ∃ as : List Addr, H a = some (.lst (as.map V.ref)) ∧ as.Nodup ∧ (∀ x ∈ as, H0 x = none ∧ x ≠ a) ∧ Paired (fun x l => H x = some (.lst (l.map nV))) as bs
theorem LL.other {H0 H : Hp} {a p : Addr} {o : HO} {bs : List (List Nat)} (h : LL H0 H a bs) (hp : H p = none) : LL H0 (upd H p o) a bs := by
  obtain ⟨n, as, h1, h2, h3, h4⟩ := h
  refine ⟨n, as, by rw [upd_ne (ne_of_none h1 hp)]; exact h1, h2, h3, P_mono (fun x l e => ?_) h4⟩
  rw [upd_ne (ne_of_none e hp)]
  exact e
/-- what is not of it may change -/
theorem LL.apart {H0 H H' : Hp} {a : Addr} {bs : List (List Nat)} (h : LL H0 H a bs) (s : Same H H') : LL H0 H' a bs := by
  obtain ⟨n, as, h1, h2, h3, h4⟩ := h
  exact ⟨n, as, s _ _ h1, h2, h3, P_mono (fun x l e => s _ _ e) h4⟩
theorem LL.at {H0 H : Hp} {a : Addr} {bs : List (List Nat)} (h : LL H0 H a bs) {i : Nat} {l : List Nat} (hi : bs[i]? = some l) : ∃ (vs : List V) (x : Addr), H a = some (.lst vs) ∧ vs[i]? = some (V.ref x) ∧ H x = some (.lst (l.map nV)) ∧ H0 x = none ∧ x ≠ a := by
  obtain ⟨n, as, h1, h2, h3, h4⟩ := h
  obtain ⟨x, hx, hl⟩ := P_left h4 hi
  have hm : x ∈ as := List.mem_of_getElem? hx
  exact ⟨_, x, h1, getn hx, hl, (h3 x hm).1, (h3 x hm).2⟩
/-- the i-th list grows -/
theorem LL.grow {H0 H : Hp} {a : Addr} {bs : List (List Nat)} (h : LL H0 H a bs) {i : Nat} {l : List Nat} {vs : List V} {x : Addr} (hi : bs[i]? = some l) (hv : H a = some (.lst vs)) (hx : vs[i]? = some (V.ref x)) (m : List Nat) : LL H0 (upd H x (.lst (m.map nV))) a (bs.set i m) := by
  obtain ⟨n, as, h1, h2, h3, h4⟩ := h
  rw [h1] at hv
  cases hv
  obtain ⟨y, hy, e⟩ := getn_inv hx
  cases e
  have hm : x ∈ as := List.mem_of_getElem? hy
  refine ⟨n, as, ?_, h2, h3, ?_⟩
  · rw [upd_ne (Ne.symm (h3 x hm).2)]
    exact h1
  · have key : Paired (fun z l => (z = x → l = m) → (upd H x (.lst (m.map nV))) z = some (.lst (l.map nV))) as bs := P_mono (fun z l e q => by
      by_cases c : z = x
      · rw [c, upd_same, q c]
      · rw [upd_ne c]
        exact e) h4
    exact P_fix h2 key hy
where
  P_fix : ∀ {as : List Addr} {bs : List (List Nat)} {i : Nat}, as.Nodup → Paired (fun z l => (z = x → l = m) → (upd H x (.lst (m.map nV))) z = some (.lst (l.map nV))) as bs → as[i]? = some x →
      Paired (fun z l => (upd H x (.lst (m.map nV))) z = some (.lst (l.map nV))) as (bs.set i m)
    | _, _, _, _, .nil, h => by simp at h
    | _, _, 0, hn, .cons f r, h => by
      simp at h
      subst h
      obtain ⟨h1, h2⟩ := List.nodup_cons.mp hn
      refine .cons upd_same (P_monoM (fun z l hz e => e fun c => absurd (c ▸ hz) h1) r)
    | _, _, i + 1, hn, .cons f r, h => by
      obtain ⟨h1, h2⟩ := List.nodup_cons.mp hn
      have hx : _ := List.mem_of_getElem? (show _ from (by simpa using h : (_ : List Addr)[i]? = some x))
      refine .cons (f fun c => absurd (c ▸ hx) h1) (P_fix h2 r (by simpa using h))
/-! ### lists of pairs -/
/-- the refs of a list of pairs of numbers -/
def Prs (K : PySem.W.Frag) (H : Hp) (vs : List V) (ps : PL) : Prop := Paired (fun v q => ∃ t, v = V.ref t ∧ SqT K H t [nV q.1, nV q.2]) vs ps
theorem Prs.same {K : PySem.W.Frag} {H H' : Hp} {vs : List V} {ps : PL} (h : Prs K H vs ps) (s : Same H H') : Prs K H' vs ps := P_mono (fun _ _ ⟨t, e, q⟩ => ⟨t, e, s.seqT q⟩) h
end KH
namespace KH
open PySem PySem.Spec PyProof.Rows L2 K02
theorem Prs.len {K : PySem.W.Frag} {H : Hp} {vs : List V} {ps : PL} (h : Prs K H vs ps) : vs.length = ps.length := P_len h
theorem Prs.snoc {K : PySem.W.Frag} {H : Hp} {vs : List V} {ps : PL} {t : Addr} {a b : Nat} (h : Prs K H vs ps) (ht : SqT K H t [nV a, nV b]) : Prs K H (vs ++ [V.ref t]) (ps ++ [(a, b)]) := P_append h (.cons ⟨t, rfl, ht⟩ .nil)
theorem within_snoc {m : Nat} {ps : PL} {a b : Nat} (h : Within m ps) (ha : a < m) (hb : b < m) : Within m (ps ++ [(a, b)]) := fun p hp => by
  rcases List.mem_append.mp hp with q | q
  · exact h p q
  · rw [List.mem_singleton.mp q]
    exact ⟨ha, hb⟩
theorem within_app {m : Nat} {ps qs : PL} (h : Within m ps) (k : Within m qs) : Within m (ps ++ qs) := fun p hp => by
  rcases List.mem_append.mp hp with q | q
  · exact h p q
  · exact k p q
theorem within_nil {m : Nat} : Within m [] := fun _ h => by cases h
theorem sp2 : (2 : Nat) ≤ sizeLine := by decide
end KH
namespace KH
open PySem PySem.Spec PyProof.Rows L2 K02
/-- a tuple stands beside a list that changes -/
theorem sqT_mutL {K : PySem.W.Frag} {H : Hp} {t o : Addr} {xs us : List V} {x : HO} (h : SqT K H t xs) (e : H o = some (.lst us)) : SqT K (upd H o x) t xs := by
  rcases h with (h | ⟨ob, h⟩) | h
  · exact .inl (.inl (by rw [upd_ne (ne_of h e (by intro z; cases z))]; exact h))
  · exact .inl (.inr ⟨ob, by rw [upd_ne (ne_of h e (by intro z; cases z))]; exact h⟩)
  · exact .inr h
theorem Prs.mutL {K : PySem.W.Frag} {H : Hp} {o : Addr} {vs us : List V} {ps : PL} {x : HO} (h : Prs K H vs ps) (e : H o = some (.lst us)) : Prs K (upd H o x) vs ps := P_mono (fun _ _ ⟨t, et, q⟩ => ⟨t, et, sqT_mutL q e⟩) h
theorem sqT_new {K : PySem.W.Frag} {H : Hp} {t p : Addr} {xs : List V} {x : HO} (h : SqT K H t xs) (e : H p = none) : SqT K (upd H p x) t xs := ((Same.refl H).new e).seqT h
theorem Prs.new {K : PySem.W.Frag} {H : Hp} {p : Addr} {vs : List V} {ps : PL} {x : HO} (h : Prs K H vs ps) (e : H p = none) : Prs K (upd H p x) vs ps := h.same ((Same.refl H).new e)
end KH
namespace KH
open PySem PySem.Spec PyProof.Rows L2 K02
theorem LL.snoc {H0 H : Hp} {a p : Addr} {bs : List (List Nat)} {vs : List V} (h : LL H0 H a bs) (s : Same H0 H) (hp : H p = none) (hv : H a = some (.lst vs)) (l : List Nat) :
    LL H0 (upd (upd H p (.lst (l.map nV))) a (.lst (vs ++ [V.ref p]))) a (bs ++ [l]) := by
  obtain ⟨n, as, h1, h2, h3, h4⟩ := h
  rw [h1] at hv
  cases hv
  have hpa : p ≠ a := fun z => by rw [z, h1] at hp; cases hp
  have hpas : p ∉ as := fun z => by
    obtain ⟨i, hi⟩ := List.getElem?_of_mem z
    obtain ⟨l', _, e⟩ := P_right h4 hi
    rw [hp] at e
    cases e
  refine ⟨n, as ++ [p], ?_, ?_, ?_, ?_⟩
  · rw [upd_same, List.map_append]
    rfl
  · refine List.nodup_append.mpr ⟨h2, by simp, fun x hx y hy => ?_⟩
    rw [List.mem_singleton.mp hy]
    exact fun z => hpas (z ▸ hx)
  · intro x hx
    rcases List.mem_append.mp hx with q | q
    · exact h3 x q
    · rw [List.mem_singleton.mp q]
      exact ⟨s.free hp, hpa⟩
  · refine P_append (P_monoM (fun x l' hx e => ?_) h4) (.cons ?_ .nil)
    · rw [upd_ne (h3 x hx).2, upd_ne (ne_of_none e hp)]
      exact e
    · rw [upd_ne hpa, upd_same]
theorem LL.lst {H0 H : Hp} {a : Addr} {bs : List (List Nat)} (h : LL H0 H a bs) : ∃ vs, H a = some (.lst vs) ∧ vs.length = bs.length := by
  obtain ⟨n, as, h1, h2, h3, h4⟩ := h
  exact ⟨_, h1, by rw [List.length_map]; exact P_len h4⟩
theorem LL.nil {H : Hp} {a : Addr} (h : H a = none) : LL H (upd H a (.lst [])) a [] := ⟨h, [], upd_same, List.nodup_nil, fun x hx => (by cases hx), .nil⟩
/-- another new object that is none of its own changes -/
theorem LL.beside {H0 H : Hp} {a p : Addr} {o u : HO} {bs : List (List Nat)} (h : LL H0 H a bs) (hp : H p = some u) (hu : ∀ xs, u ≠ .lst xs) : LL H0 (upd H p o) a bs := by
  obtain ⟨n, as, h1, h2, h3, h4⟩ := h
  refine ⟨n, as, by rw [upd_ne (ne_of h1 hp (fun z => hu _ z.symm))]; exact h1, h2, h3, P_mono (fun x l e => ?_) h4⟩
  rw [upd_ne (ne_of e hp (fun z => hu _ z.symm))]
  exact e
/-! ### what the pairs give place by place -/
theorem bef_app (qs : PL) (a b v : Nat) : bef (qs ++ [(a, b)]) v = bef qs v ++ (if b = v then [a] else []) := by
  unfold bef
  rw [List.filter_append, List.map_append]
  by_cases h : b = v
  · rw [if_pos h]
    congr 1
    simp [h]
  · rw [if_neg h]
    congr 1
    simp [h]
theorem aft_app (qs : PL) (a b v : Nat) : aft (qs ++ [(a, b)]) v = aft qs v ++ (if a = v then [b] else []) := by
  unfold aft
  rw [List.filter_append, List.map_append]
  by_cases h : a = v
  · rw [if_pos h]
    congr 1
    simp [h]
  · rw [if_neg h]
    congr 1
    simp [h]
def befs (m : Nat) (ps : PL) : List (List Nat) := (List.range m).map (bef ps)
def afts (m : Nat) (ps : PL) : List (List Nat) := (List.range m).map (aft ps)
theorem befs_at {m v : Nat} (ps : PL) (h : v < m) : (befs m ps)[v]? = some (bef ps v) := by
  unfold befs
  rw [List.getElem?_map, List.getElem?_range h]
  rfl
theorem afts_at {m v : Nat} (ps : PL) (h : v < m) : (afts m ps)[v]? = some (aft ps v) := by
  unfold afts
  rw [List.getElem?_map, List.getElem?_range h]
  rfl
theorem set_map_range {m b : Nat} (f g : Nat → List Nat) (x : List Nat) (hx : g b = x) (hn : ∀ v, v < m → v ≠ b → g v = f v) : ((List.range m).map f).set b x = (List.range m).map g := by
  apply List.ext_getElem?
  intro j
  rw [List.getElem?_set, List.getElem?_map, List.getElem?_map, List.length_map, List.length_range]
  by_cases hj : j < m
  · rw [List.getElem?_range hj]
    by_cases e : b = j
    · subst e
      rw [if_pos rfl, if_pos hj]
      show some x = some (g b)
      rw [hx]
    · rw [if_neg e]
      show some (f j) = some (g j)
      rw [hn j hj (fun z => e z.symm)]
  · rw [List.getElem?_eq_none (by rw [List.length_range]; omega)]
    by_cases e : b = j
    · subst e
      rw [if_pos rfl, if_neg hj]
      rfl
    · rw [if_neg e]
      rfl
theorem befs_step {m a b i : Nat} {ps : PL} (h : ps[i]? = some (a, b)) : (befs m (ps.take i)).set b (bef (ps.take i) b ++ [a]) = befs m (ps.take (i + 1)) := by
  unfold befs
  refine set_map_range _ _ _ ?_ fun v hv hne => ?_
  · rw [take_more h, bef_app, if_pos rfl]
  · rw [take_more h, bef_app, if_neg (fun z => hne z.symm), List.append_nil]
theorem afts_step {m a b i : Nat} {ps : PL} (h : ps[i]? = some (a, b)) : (afts m (ps.take i)).set a (aft (ps.take i) a ++ [b]) = afts m (ps.take (i + 1)) := by
  unfold afts
  refine set_map_range _ _ _ ?_ fun v hv hne => ?_
  · rw [take_more h, aft_app, if_pos rfl]
  · rw [take_more h, aft_app, if_neg (fun z => hne z.symm), List.append_nil]
theorem befs_nil (m : Nat) : befs m [] = List.replicate m [] := by
  unfold befs
  apply List.ext_getElem?
  intro j
  rw [List.getElem?_map, List.getElem?_replicate]
  by_cases hj : j < m
  · rw [List.getElem?_range hj, if_pos hj]
    rfl
  · rw [List.getElem?_eq_none (by rw [List.length_range]; omega), if_neg hj]
    rfl
theorem afts_nil (m : Nat) : afts m [] = List.replicate m [] := by
  unfold afts
  apply List.ext_getElem?
  intro j
  rw [List.getElem?_map, List.getElem?_replicate]
  by_cases hj : j < m
  · rw [List.getElem?_range hj, if_pos hj]
    rfl
  · rw [List.getElem?_eq_none (by rw [List.length_range]; omega), if_neg hj]
    rfl
theorem bef_len (ps : PL) (v : Nat) : (bef ps v).length ≤ ps.length := by
  unfold bef
  rw [List.length_map]
  exact List.length_filter_le _ _
theorem aft_len (ps : PL) (v : Nat) : (aft ps v).length ≤ ps.length := by
  unfold aft
  rw [List.length_map]
  exact List.length_filter_le _ _
/-! ### the taken ones: a dict that holds True -/
def tk (t : List Nat) : List (Nat × Bool) := t.map fun x => (x, true)
theorem tk_keys (t : List Nat) : (tk t).map (·.1) = t := by
  unfold tk
  rw [List.map_map]
  exact List.map_id' t
theorem tk_len (t : List Nat) : (tk t).length = t.length := by unfold tk; rw [List.length_map]
theorem tk_look : ∀ (t : List Nat) (k : Nat), look (tk t) k = if t.contains k then some true else none
  | [], k => rfl
  | x :: r, k => by
    show (if x = k then some true else look (tk r) k) = _
    rw [tk_look r k, List.contains_cons]
    by_cases e : x = k
    · subst e
      simp
    · have : (k == x) = false := by simpa using fun z : k = x => e z.symm
      rw [if_neg e, this, Bool.false_or]
theorem tk_some (t : List Nat) (k : Nat) : ((look (tk t) k).map V.bl).isSome = t.contains k := by
  rw [tk_look]
  cases t.contains k <;> rfl
theorem tk_put {t : List Nat} {k : Nat} (h : k ∉ t) : put (tk t) k true = tk (t ++ [k]) := by
  rw [put_dk.put_new k true (tk t) (by rw [look_none_iff, tk_keys]; exact h)]
  unfold tk
  rw [List.map_append]
  rfl
/-- what a def hands back: None, or a new list -/
def OutL (H H' : Hp) (v : V) (r : Option (List Nat)) : Prop := match r with
  | none => v = .non
  | some l => ∃ p, v = .ref p ∧ H p = none ∧ H' p = some (.lst (l.map nV))
end KH
namespace KH
open PySem PySem.Spec PyProof.Rows L2 K02
/-! ### lists of lists that are read -/
def LR (H : Hp) (a : Addr) (bs : List (List Nat)) : Prop := ∃ as : List Addr, H a = some (.lst (as.map V.ref)) ∧ Paired (fun x l => H x = some (.lst (l.map nV))) as bs
theorem LR.same {H H' : Hp} {a : Addr} {bs : List (List Nat)} (h : LR H a bs) (s : Same H H') : LR H' a bs := by
  obtain ⟨as, h1, h2⟩ := h
  exact ⟨as, s _ _ h1, P_mono (fun _ _ e => s _ _ e) h2⟩
theorem LR.at {H : Hp} {a : Addr} {bs : List (List Nat)} (h : LR H a bs) {i : Nat} {l : List Nat} (hi : bs[i]? = some l) : ∃ (vs : List V) (x : Addr), H a = some (.lst vs) ∧ vs[i]? = some (V.ref x) ∧ H x = some (.lst (l.map nV)) := by
  obtain ⟨as, h1, h2⟩ := h
  obtain ⟨x, hx, hl⟩ := P_left h2 hi
  exact ⟨_, x, h1, getn hx, hl⟩
theorem LL.lr {H0 H : Hp} {a : Addr} {bs : List (List Nat)} (h : LL H0 H a bs) : LR H a bs := by
  obtain ⟨_, as, h1, _, _, h4⟩ := h
  exact ⟨as, h1, h4⟩
theorem OutL.same {H H1 H2 : Hp} {v : V} {r : Option (List Nat)} (h : OutL H H1 v r) (s : Same H1 H2) : OutL H H2 v r := by
  cases r with
  | none => exact h
  | some l =>
    obtain ⟨p, e, h0, hp⟩ := h
    exact ⟨p, e, h0, s _ _ hp⟩
/-- one of two, both new lists of lists: an own list of one changes -/
structure LX (H : Hp) (a : Addr) (as : List Addr) (bs : List (List Nat)) : Prop where
  top : H a = some (.lst (as.map V.ref))
  nd : as.Nodup
  na : a ∉ as
  ins : Paired (fun x l => H x = some (.lst (l.map nV))) as bs
theorem LL.lx {H0 H : Hp} {a : Addr} {bs : List (List Nat)} (h : LL H0 H a bs) : ∃ as, LX H a as bs ∧ (∀ x ∈ as, H0 x = none) := by
  obtain ⟨_, as, h1, h2, h3, h4⟩ := h
  exact ⟨as, ⟨h1, h2, fun z => (h3 a z).2 rfl, h4⟩, fun x hx => (h3 x hx).1⟩
theorem LX.same {H H' : Hp} {a : Addr} {as : List Addr} {bs : List (List Nat)} (h : LX H a as bs) (s : Same H H') : LX H' a as bs := ⟨s _ _ h.top, h.nd, h.na, P_mono (fun _ _ e => s _ _ e) h.ins⟩
theorem LX.frame {H : Hp} {a p : Addr} {o : HO} {as : List Addr} {bs : List (List Nat)} (h : LX H a as bs) (h1 : p ≠ a) (h2 : p ∉ as) : LX (upd H p o) a as bs :=
  ⟨by rw [upd_ne (Ne.symm h1)]; exact h.top, h.nd, h.na, P_monoM (fun x l hx e => by rw [upd_ne (show x ≠ p from fun z => h2 (z ▸ hx))]; exact e) h.ins⟩
theorem LX.lr {H : Hp} {a : Addr} {as : List Addr} {bs : List (List Nat)} (h : LX H a as bs) : LR H a bs := ⟨as, h.top, h.ins⟩
theorem LX.at {H : Hp} {a : Addr} {as : List Addr} {bs : List (List Nat)} (h : LX H a as bs) {i : Nat} {l : List Nat} (hi : bs[i]? = some l) : ∃ x : Addr, as[i]? = some x ∧ x ∈ as ∧ (as.map V.ref)[i]? = some (V.ref x) ∧ H x = some (.lst (l.map nV)) := by
  obtain ⟨x, hx, hl⟩ := P_left h.ins hi
  exact ⟨x, hx, List.mem_of_getElem? hx, getn hx, hl⟩
theorem P_fixA {H : Hp} {x : Addr} {m : List Nat} : ∀ {as : List Addr} {bs : List (List Nat)} {i : Nat}, as.Nodup → Paired (fun z l => (z = x → l = m) → (upd H x (.lst (m.map nV))) z = some (.lst (l.map nV))) as bs → as[i]? = some x →
      Paired (fun z l => (upd H x (.lst (m.map nV))) z = some (.lst (l.map nV))) as (bs.set i m)
    | _, _, _, _, .nil, h => by simp at h
    | _, _, 0, hn, .cons f r, h => by
      simp at h
      subst h
      obtain ⟨h1, h2⟩ := List.nodup_cons.mp hn
      refine .cons upd_same (P_monoM (fun z l hz e => e fun c => absurd (c ▸ hz) h1) r)
    | _, _, i + 1, hn, .cons f r, h => by
      obtain ⟨h1, h2⟩ := List.nodup_cons.mp hn
      have hx : _ := List.mem_of_getElem? (show _ from (by simpa using h : (_ : List Addr)[i]? = some x))
      refine .cons (f fun c => absurd (c ▸ hx) h1) (P_fixA h2 r (by simpa using h))
theorem LX.grow {H : Hp} {a x : Addr} {as : List Addr} {bs : List (List Nat)} (h : LX H a as bs) {i : Nat} (hx : as[i]? = some x) (m : List Nat) : LX (upd H x (.lst (m.map nV))) a as (bs.set i m) := by
  have hm : x ∈ as := List.mem_of_getElem? hx
  refine ⟨by rw [upd_ne (show a ≠ x from fun z => h.na (z ▸ hm))]; exact h.top, h.nd, h.na, ?_⟩
  have key : Paired (fun z l => (z = x → l = m) → (upd H x (.lst (m.map nV))) z = some (.lst (l.map nV))) as bs := P_mono (fun z l e q => by
    by_cases c : z = x
    · rw [c, upd_same, q c]
    · rw [upd_ne c]
      exact e) h.ins
  exact P_fixA h.nd key hx
end KH

/-! an own exception whose __init__ says super().__init__('text') and keeps its arguments as fields -/
namespace PySem
namespace OwX
open PySem.W PySem.Calls PyProof.Rows PySem.HandSPX
/-- the rows self.f = f -/
inductive Stores : List Stmt → List Str → Prop
  | nil : Stores [] []
  | cons {f : Str} {q1 q2 q3 q4 : Pos} {rest : List Stmt} {fs : List Str} : Stores rest fs → Stores (.Assign [.Attribute (.Name "self" q1) f q2] (.Name f q3) q4 :: rest) (f :: fs)
inductive Body : List Stmt → List Str → Prop
  | mk {text : Str} {k : Nat} {p1 p2 p3 p4 p5 p6 : Pos} {rest : List Stmt} {fs : List Str} : (p3.endLine == p5.line) = true → Stores rest fs →
      Body (.Expr (.Call (.Attribute (.Call (.Name "super" p1) [] [] p2) "__init__" p3) [.Constant (.str text) k p4] [] p5) p6 :: rest) fs
/-- what the written part says of the class at C and of its __init__, at fI -/
structure OwnTxt (P : Program) (K : Frag) (C fI : Addr) (fs : List Str) : Prop where
  cls : ∃ nm q N bs bm sn sub ab col dd k0 k1 k2 k3 k5, K.lookup C = some (excClassObj nm q C N bs bm true sn sub ab col dd k0 k1 k2 k3 k5 "ValueError.__new__") ∧ refsVE bm = true
  sa : findIn K (.ref C) "__setattr__" = some (some (.builtin "object.__setattr__"))
  ga : findIn K (.ref C) "__getattribute__" = some (some (.builtin "BaseException.__getattribute__"))
  gg : findIn K (.ref C) "__getattr__" = some none
  noN : ∀ f ∈ fs, findIn K (.ref C) f = some none
  iC : findIn K (.ref C) "__init__" = some (some (.ref fI))
  tC : typeIn K (.ref fI) = some (.type "function")
  kC : keepIn K (.ref C) = true
  exC : subIn K (.ref C) (.type "BaseException") = some true
  tyC : typeIn K (.ref C) = some (.type "type")
  hdC : hasDictIn K C = true
  veC : subIn K (.ref C) (.type "ValueError") = some true
  spC : mroIn K C (.ref C) = some true
  suC : ks_superIn K C C "__init__" = some (some (.builtin "ValueError.__init__"))
  noO : nsIn K cStatics "thirdparty.any" = some none
  noS : nsIn K mainGlobals "super" = some none
  top : (P.main.scope.names.lookup ("super" : Str)).isSome = false
  few : fs.length ≤ 900
  fn : ∃ (oc : Value) (od : Option Addr) (name qual : Str) (params : Arguments) (body : List Stmt) (scope : Scope) (dV kV doc pm : Value) (an : Option Addr) (cda cc : Addr) (ct : Value) (osl : Array (Option Value))
      (ar : Arg) (ccl : Value) (cdd : Option Addr) (vs : Array Value) (ccs : Array (Option Value)) (file : Str) (tf : Tok) (cl : Value) (cld : Option Addr) (csl : Array (Option Value)),
    K.lookup fI = some ⟨oc, od, .func (ksFn name qual params body scope dV kV doc pm an (.ref cda) ct cc), osl⟩ ∧ codeIn K (.ref cda) qual = true ∧ Body body fs ∧
    (params.posonlyargs ++ params.args).head? = some ar ∧ ar.arg = "self" ∧
    K.lookup cda = some ⟨ccl, cdd, .fields vs, ccs⟩ ∧ vs[2]? = some (.str file tf) ∧ ((P.main.file : Str) == file) = true ∧ K.lookup cc = some ⟨cl, cld, .cell (some (.ref C)), csl⟩ ∧
    scope.names.lookup ("super" : Str) = some .globalImplicit ∧ scope.names.lookup ("__class__" : Str) = some .free ∧ (∀ y ∈ ("self" : Str) :: fs, scope.names.lookup y = some .local) ∧
    (∀ x ∈ scope.names, x.2 ≠ .cell) ∧ scope.kind = .function ∧ scope.isCoroutine = false ∧ scope.isGenerator = false ∧
    ∀ (s : Shared) (us : List Value), us.length = fs.length + 1 → BindsTo s (ksFn name qual params body scope dV kV doc pm an (.ref cda) ct cc) ⟨us, []⟩ ((("self" : Str) :: fs).zip us)
abbrev excD (C : Addr) (dx : Option Addr) (t1 : Addr) : Obj := { cls := .ref C, dict := dx, data := .fields #[.ref t1, .none, .none, .none, .bool false, .none] }
/-- the fields, the last first -/
def fld (l : List (Str × Value)) : Str → Option Value := fun y => l.lookup y
theorem fld_cons {n : Str} {v : Value} {l : List (Str × Value)} : fld ((n, v) :: l) = fun y => if y = n then some v else fld l y := by
  funext y
  unfold fld
  by_cases e : y = n
  · subst e
    simp [List.lookup]
  · have e' : (y == n) = false := by simpa using e
    rw [if_neg e]
    simp [List.lookup, e']
theorem fld_nil : fld [] = fun _ => none := rfl
theorem fld_within (l : List (Str × Value)) : Within (fld l) (l.map (·.1)) := by
  induction l with
  | nil => exact Within.nil
  | cons a l ih =>
    obtain ⟨n, v⟩ := a
    rw [fld_cons]
    exact Within.cons n v ih
/-- what __init__ leaves of a fresh exception at x -/
structure InitEnd (h h' : Heap) (x C dx t1 : Addr) (l : List (Str × Value)) : Prop where
  keep : ∀ b o, b ≠ x → h.get? b = some o → h'.get? b = some o
  obj : h'.get? x = some (excD C (some dx) t1)
  dbig : h.objs.size ≤ dx
  dne : dx ≠ x
  ns : h'.Ns1 dx (fld l)
section
variable {prog : Program} {w : World} {A : Around} {E : Value → Shared → Prop} {R : Result → Shared → Prop} {s : Shared} {K : Frag} {mg mb : Str → Option Value} {C fI : Addr} {fs : List Str}
/-- ValueError.__init__ bound to the instance, called -/
theorem call_mw {h : Heap} {g : Array GenState} {d : Drawn} {t : Nat} {os : OsState} {nm q : Str} {N : Addr} {bs bm : List Value} {hdct : Bool} {sn : List Str} {sub : List Value} {ab : Bool} {col : Option Bool} {dd : Option Addr} {k0 k1 k2 k3 k5 : Option Value}
    {u e t0 : Addr} {rest : List Value} {Q : Value → Shared → Prop}
    (hC : h.get? C = some (excClassObj nm q C N bs bm hdct sn sub ab col dd k0 k1 k2 k3 k5 "ValueError.__new__")) (he : h.get? e = some (excD C none t0)) (hu : h.get? u = some (kxs_mw "ValueError.__init__" e)) (hrest : rest.length ≤ sizeLine)
    (hq : ∀ h' t1, (∀ b o, b ≠ e → h.get? b = some o → h'.get? b = some o) → h'.get? e = some (excD C none t1) → Q .none ⟨h', g, d, t, os⟩) :
    wpAny (model prog w) A (call (.ref u) rest) Q E ⟨h, g, d, t, os⟩ := by
  refine wpAny_call (codeAny_of_tree ?_)
  show wpAny _ A.in1 (callAny (.ref u) ⟨rest, []⟩) _ _ _
  simp only [callAny]
  refine wpAny_bind (wpAny_load hu ?_)
  simp only [kxs_mw, show (Value.type "method-wrapper" == Value.type "method" || Value.type "method-wrapper" == Value.type "builtin_function_or_method" || Value.type "method-wrapper" == Value.type "method-wrapper") = true by decide, if_true]
  refine KFB.if_so (by decide) ?_
  refine wpAny_bind (check_bound_init F.excBase_ValueError.toExcCallFacts hC he rfl ?_)
  refine wpAny_bind (wpAny_pure (wpAny_pure ?_))
  refine ⟨plainId_quiet F.excBase_ValueError.init.plain _, codeAny_builtin F.excBase_ValueError.initEntry ?_⟩
  exact exc_init_tree (cls := .ref C) (t0 := t0) (dv := none) (c2 := .none) (c3 := .none) (b4 := .bool false) he hrest fun h' k e' _ => hq h' _ k e'
theorem in_but {h h' : Heap} {x : Addr} (X : K.In h) (hx : K.lookup x = none) (k : ∀ b o, b ≠ x → h.get? b = some o → h'.get? b = some o) : K.In h' := fun a o e =>
  k a o (fun z => by rw [z, hx] at e; cases e) (X a o e)
theorem out_of {h : Heap} {a : Addr} (X : K.In h) (ha : h.objs.size ≤ a) : K.lookup a = none := by
  cases e : K.lookup a with
  | none => rfl
  | some o => exact absurd (Heap.lt_size (X _ _ e)) (Nat.not_lt.mpr ha)
theorem ns_but {h h' : Heap} {x L : Addr} {m : Str → Option Value} (n : h.Ns L m) (hx : L ≠ x) (k : ∀ b o, b ≠ x → h.get? b = some o → h'.get? b = some o) : h'.Ns L m := by
  obtain ⟨oL, es, ep, hL, r⟩ := n
  exact ⟨oL, es, ep, k _ _ hx hL, r⟩
theorem ldF {M : Model} {env : Env} {m : Str → Option Value} {x : Str} {pos : Pos} {v : Value} {Q : Value → Shared → Prop} (hk : env.scope.kind = .function) (hl : env.scope.names.lookup x = some .local) (hn : s.heap.Ns env.locals m) (hv : m x = some v) (h : Q v s)
    (hd : (x == ("__debug__" : Str)) = false) : wpAny M A (eval (.Name x pos) env) Q E s := wpAny_Name (wpAny_loadName_local hk hl hn hv h) hd
/-- the further stores -/
theorem stores_old {P : Program} (T : OwnTxt P K C fI fs) {env : Env} {m : Str → Option Value} {x dx t1 : Addr} {Q : Flow → Shared → Prop} (hk : env.scope.kind = .function) (hself : env.scope.names.lookup ("self" : Str) = some .local) (hms : m "self" = some (.ref x)) (hx : K.lookup x = none) (hdx : K.lookup dx = none) (hL : env.locals ≠ dx) (hxd : x ≠ dx) {body : List Stmt} {gs : List Str} (S : Stores body gs) :
    ∀ {s : Shared} {l : List (Str × Value)} {vs : List Value}, K.In s.heap → s.heap.Ns env.locals m → s.heap.get? x = some (excD C (some dx) t1) → s.heap.Ns1 dx (fld l) → l.length + gs.length ≤ 900 →
      gs.length = vs.length → (∀ p ∈ gs.zip vs, m p.1 = some p.2) → (∀ f ∈ gs, env.scope.names.lookup f = some .local ∧ findIn K (.ref C) f = some none ∧ (f == ("__debug__" : Str)) = false) →
      (∀ h' tk, (∀ b o, b ≠ dx → s.heap.get? b = some o → h'.get? b = some o) → h'.Ns1 dx (fld ((gs.zip vs).reverse ++ l)) → Q .next { s with heap := h', toks := tk }) →
      wpAny (model prog w) A (execs body env) Q E s := by
  induction S with
  | nil =>
    intro s l vs X hn ho hd hl hlen hm hf hq
    obtain ⟨hp, g, d, t, os⟩ := s
    exact wpAny_execs_nil (hq hp t (fun _ _ _ e => e) hd)
  | @cons f q1 q2 q3 q4 rest fs' S ih =>
    intro s l vs X hn ho hd hl hlen hm hf hq
    cases vs with
    | nil => simp at hlen
    | cons v vs =>
      obtain ⟨nm, q, N, bs, bm, sn, sub, ab, col, dd, k0, k1, k2, k3, k5, hC, hbm⟩ := T.cls
      have hcl : clsIn K C = some { name := nm, bases := bs, mro := .ref C :: bm, ns := N, qualname := q, hasDict := true, slotNames := sn, subclasses := sub, abstract := ab, collection := col, hasDel := false } := by unfold clsIn; rw [hC] <;> rfl
      obtain ⟨f1, f2, f3⟩ := hf f List.mem_cons_self
      refine wpAny_execs_cons (plainObj_wpAny_Assign_Attribute ?_)
      refine ldF (v := v) hk f1 hn (hm (f, v) (by simp)) (ldF (v := .ref x) hk hself hn hms ?_ (by decide)) f3
      obtain ⟨hp, g, d, t, os⟩ := s
      obtain ⟨oD, esD, epD, hoD, hdD⟩ : ∃ oD, ∃ _ : True, ∃ _ : True, hp.get? dx = some oD ∧ True := by
        obtain ⟨o, es, ep, e, r⟩ := hd
        exact ⟨o, trivial, trivial, e, trivial⟩
      refine set_plain X (ox := excD C (some dx) t1) (od := some oD) ⟨ho, rfl, rfl, hoD⟩ T.sa ?_
      refine OEX.osa_old X ho hd (fld_within l) (by rw [List.length_map]; omega) hcl (show refsVE (.ref C :: bm) = true from hbm) rfl f2 (fun h' tk' k hn' => ?_)
      rw [← fld_cons] at hn'
      refine ih (s := ⟨h', g, d, tk', os⟩) (l := (f, v) :: l) (vs := vs) (in_but X hdx k) (ns_but hn hL k) (k _ _ hxd ho) hn' (by simp at hl ⊢; omega) (by simpa using hlen) (fun p hp => hm p (by simp [hp])) (fun y hy => hf y (List.mem_cons_of_mem _ hy)) ?_
      intro h2 tk2 k2 hn2
      refine hq h2 tk2 (fun b o hb e => k2 b o hb (k b o hb e)) ?_
      have e : ((f :: fs').zip (v :: vs)).reverse ++ l = (fs'.zip vs).reverse ++ (f, v) :: l := by simp
      rw [e]
      exact hn2
/-- all the stores -/
theorem stores_new {P : Program} (T : OwnTxt P K C fI fs) {env : Env} {m : Str → Option Value} {x t1 : Addr} {Q : Flow → Shared → Prop} (hk : env.scope.kind = .function) (hself : env.scope.names.lookup ("self" : Str) = some .local) (hms : m "self" = some (.ref x)) (hx : K.lookup x = none) (hLx : env.locals ≠ x) {body : List Stmt} {gs : List Str} (S : Stores body gs)
    {s : Shared} {vs : List Value} (X : K.In s.heap) (hn : s.heap.Ns env.locals m) (ho : s.heap.get? x = some (excD C none t1)) (hl : gs.length ≤ 900) (h0 : gs ≠ [])
      (hlen : gs.length = vs.length) (hm : ∀ p ∈ gs.zip vs, m p.1 = some p.2) (hf : ∀ f ∈ gs, env.scope.names.lookup f = some .local ∧ findIn K (.ref C) f = some none ∧ (f == ("__debug__" : Str)) = false)
      (hq : ∀ h' tk dx, InitEnd s.heap h' x C dx t1 ((gs.zip vs).reverse) → Q .next { s with heap := h', toks := tk }) :
      wpAny (model prog w) A (execs body env) Q E s := by
  cases S with
  | nil => exact absurd rfl h0
  | @cons f q1 q2 q3 q4 rest fs' S =>
    cases vs with
    | nil => simp at hlen
    | cons v vs =>
      obtain ⟨nm, q, N, bs, bm, sn, sub, ab, col, dd, k0, k1, k2, k3, k5, hC, hbm⟩ := T.cls
      have hcl : clsIn K C = some { name := nm, bases := bs, mro := .ref C :: bm, ns := N, qualname := q, hasDict := true, slotNames := sn, subclasses := sub, abstract := ab, collection := col, hasDel := false } := by unfold clsIn; rw [hC] <;> rfl
      obtain ⟨f1, f2, f3⟩ := hf f List.mem_cons_self
      refine wpAny_execs_cons (plainObj_wpAny_Assign_Attribute ?_)
      refine ldF (v := v) hk f1 hn (hm (f, v) (by simp)) (ldF (v := .ref x) hk hself hn hms ?_ (by decide)) f3
      obtain ⟨hp, g, d, t, os⟩ := s
      refine set_plain X (ox := excD C none t1) (od := none) ⟨ho, rfl, rfl, trivial⟩ T.sa ?_
      refine exc_osa X ho hcl (show refsVE (.ref C :: bm) = true from hbm) rfl f2 (fun h₃ tk₃ dx k₃ dn dne hx₃ hn₃ => ?_)
      have hn' : h₃.Ns1 dx (fld [(f, v)]) := by
        rw [fld_cons, fld_nil]
        exact hn₃
      have hLd : env.locals ≠ dx := Nat.ne_of_lt (Nat.lt_of_lt_of_le hn.lt dn)
      refine stores_old T hk hself hms hx (out_of X dn) hLd (Ne.symm dne) S (s := ⟨h₃, g, d, tk₃, os⟩) (l := [(f, v)]) (vs := vs) (in_but X hx k₃) (ns_but hn hLx k₃) hx₃ hn' (by simp at hl ⊢; omega) (by simpa using hlen) (fun p hp => hm p (by simp [hp])) (fun y hy => hf y (List.mem_cons_of_mem _ hy)) ?_
      intro h2 tk2 k2 hn2
      refine hq h2 tk2 dx ⟨fun b o hb e => ?_, k2 _ _ (Ne.symm dne) hx₃, dn, dne, ?_⟩
      · exact k2 b o (fun z => absurd (Heap.lt_size e) (by rw [z]; exact Nat.not_lt.mpr dn)) (k₃ b o hb e)
      · have e : ((f :: fs').zip (v :: vs)).reverse = (fs'.zip vs).reverse ++ [(f, v)] := by simp
        rw [e]
        exact hn2
theorem zip_look {ks : List Str} {us : List Value} (hn : ks.Nodup) (hl : ks.length = us.length) : ∀ p ∈ ks.zip us, (ks.zip us).reverse.lookup p.1 = some p.2 := by
  have key : ∀ {l : List (Str × Value)}, (l.map (·.1)).Nodup → ∀ (k : Str) (v : Value), (k, v) ∈ l → l.lookup k = some v := by
    intro l
    induction l with
    | nil => intro _ k v hp; cases hp
    | cons a l ih =>
      intro hn k v hp
      rw [List.map_cons, List.nodup_cons] at hn
      obtain ⟨k', v'⟩ := a
      rcases List.mem_cons.mp hp with e | hp
      · cases e
        simp [List.lookup]
      · have ne : k ≠ k' := fun e => hn.1 (List.mem_map.mpr ⟨(k, v), hp, e⟩)
        have ne' : (k == k') = false := by simpa using ne
        simp only [List.lookup, ne']
        exact ih hn.2 k v hp
  intro p hp
  refine key ?_ p.1 p.2 (List.mem_reverse.mpr hp)
  rw [List.map_reverse]
  refine (List.reverse_perm _).nodup_iff.mpr ?_
  rw [List.map_fst_zip (by omega)]
  exact hn
theorem super_call {env : Env} {text : Str} {k : Nat} {p1 p2 p3 p4 p5 : Pos} (hp : (p3.endLine == p5.line) = true) :
    eval (.Call (.Attribute (.Call (.Name "super" p1) [] [] p2) "__init__" p3) [.Constant (.str text) k p4] [] p5) env = (do
      let ov ← attributeBase (.Call (.Name "super" p1) [] [] p2) "__init__" env (eval (.Call (.Name "super" p1) [] [] p2) env)
      standAt p3.atName
      let (f, first) ← holding [ov] (getMethod ov "__init__" (do return (← importBound (.Call (.Name "super" p1) [] [] p2) env).getD true))
      callWith p5 f first (backTo p5 (starEach [.Constant (.str text) k p4] env)) []) := by
  show (do
      let ov ← attributeBase (.Call (.Name "super" p1) [] [] p2) "__init__" env (eval (.Call (.Name "super" p1) [] [] p2) env)
      standAt p3.atName
      methodCall (.Call (.Name "super" p1) [] [] p2) "__init__" p3 p5 env ov 1 (backTo p5 (starEach [.Constant (.str text) k p4] env)) []) = _
  have few : methodCallForm 1 (backTo p5 (starEach [.Constant (.str text) k p4] env)) [] = true := rfl
  unfold methodCall methodCallPos calleeOf
  rw [few]
  simp only [hp, Bool.not_true, Bool.false_or, if_true, pure_bind]
/-- the whole __init__ -/
theorem own_init {P : Program} (T : OwnTxt P K C fI fs) (hp : prog = P) (hnd : (("self" : Str) :: fs).Nodup) (hdb : ∀ f ∈ fs, (f == ("__debug__" : Str)) = false) (h0 : fs ≠ []) {x t0 : Addr} {us : List Value} (hus : us.length = fs.length) (X : K.In s.heap) (hlim : s.heap.NoLimit) (hG : s.heap.Ns mainGlobals mg) (hgs : mg "super" = none)
    (hB : s.heap.Ns builtinsNs mb) (hbs : mb "super" = some (.type "super")) (hx : s.heap.get? x = some (excD C none t0)) (hnx : K.lookup x = none) (hroom : A.depth < recursionLimit)
    (hq : ∀ h' tk dx t1, InitEnd s.heap h' x C dx t1 ((fs.zip us).reverse) → R (.ok (.ret .none)) { s with heap := h', toks := tk }) :
    codeAny (model prog w) A (.call (.ref fI) ⟨.ref x :: us, []⟩) R s := by
  subst hp
  obtain ⟨oc, od, name, qual, params, body, scope, dV, kV, doc, pm, an, cda, cc, ct, osl, ar, ccl, cdd, vs, ccs, file, tf, cl, cld, csl, ho, hcd, hbody, har, hars, hcode, hvs, hfile, hcell, ksu, kcl, klo, hnc, hk, hco, hgen, hbind⟩ := T.fn
  obtain ⟨nm, q, N, bs, bm, sn, sub, ab, col, dd, k0, k1, k2, k3, k5, hC, hbm⟩ := T.cls
  have hcl : clsIn K C = some { name := nm, bases := bs, mro := .ref C :: bm, ns := N, qualname := q, hasDict := true, slotNames := sn, subclasses := sub, abstract := ab, collection := col, hasDel := false } := by unfold clsIn; rw [hC] <;> rfl
  have hzl : ∀ p ∈ (("self" : Str) :: fs).zip (Value.ref x :: us), ((("self" : Str) :: fs).zip (Value.ref x :: us)).reverse.lookup p.1 = some p.2 := zip_look hnd (by simp [hus])
  refine ks_codeAny_call_defAt (fd := ksFn name qual params body scope dV kV doc pm an (.ref cda) ct cc) (body := body) (binds := (("self" : Str) :: fs).zip (Value.ref x :: us)) hroom (X _ _ ho) rfl hlim (codeRec_of X hcd) rfl (hbind s _ (by simp [hus])) hnc
    (fun p hp => klo p.1 (List.of_mem_zip (a := p.1) (b := p.2) hp).1) (fun h₁ hn k => ?_) hco hgen hk
  obtain ⟨hp, g, d, t, os⟩ := s
  have hxL : hp.objs.size ≠ x := Nat.ne_of_gt (Heap.lt_size hx)
  have X₁ : K.In h₁ := X.keeps k
  have hx₁ := k _ _ hx
  cases hbody with
  | @mk text kk p1 p2 p3 p4 p5 p6 rest fs' hpos S =>
  have hE : callEnv (ksFn name qual params (.Expr (.Call (.Attribute (.Call (.Name "super" p1) [] [] p2) "__init__" p3) [.Constant (.str text) kk p4] [] p5) p6 :: rest) scope dV kV doc pm an (.ref cda) ct cc) hp.objs.size fI = ksEnv qual scope hp.objs.size fI (.ref cda) cc := rfl
  rw [hE]
  refine ks_wpAt_execs_cons (ks_wpAt_Expr_any (ks_wpAt_MethodCall ?_ (super_call hpos)) (by simp [interactive, ksEnv, envX, hk]))
  refine ks_wpAt_super_base (env := ksEnv qual scope hp.objs.size fI (.ref cda) cc) ksu kcl (by decide) rfl (X₁ _ _ ho) rfl har rfl (X₁ _ _ hcode) rfl hvs hfile T.top ?_
  refine ks_loadName_global hk ksu (loadGlobal_builtin (env := ksEnv qual scope hp.objs.size fI (.ref cda) cc) (hG.keeps k) hgs (hB.keeps k) hbs ⟨rfl, ?_⟩)
  refine wpAny_loadName_free hk kcl rfl ⟨_, X₁ _ _ hcell, rfl⟩ ?_
  rw [hars]
  refine wpAny_loadName_local hk (klo _ List.mem_cons_self) hn (v := .ref x) (hzl ("self", .ref x) (by simp)) ?_
  have hC₁ := X₁ _ _ hC
  have I₁ : InstAt h₁ x (excD C none t0) C none := ⟨hx₁, rfl, rfl, trivial⟩
  refine ks_wpAny_isType_cls hC₁ rfl ⟨rfl, ?_⟩
  refine ks_wpAny_call_super hC₁ rfl hx₁ rfl (fun c e => by cases e) (looks_mroIn X₁ T.spC) (fun h₂ e₂ k₂ => ?_)
  have X₂ : K.In h₂ := X₁.keeps k₂
  have hx₂ := k₂ _ _ hx₁
  have I₂ : InstAt h₂ x (excD C none t0) C none := ⟨hx₂, rfl, rfl, trivial⟩
  have hm : alongIn K "__init__" (((Value.ref C :: bm).dropWhile (· != .ref C)).drop 1) = some (some (.builtin "ValueError.__init__")) := by
    have := T.suC
    unfold ks_superIn at this
    rw [hcl] at this
    exact this
  refine kxs_getMethod (l₀ := .ref C :: bm) kxs_ValueError e₂ (looks_opaque X₂ T.noO) (fun A Q E s k q => wpAny_bind ((looks_clsIn X₂ hcl) A _ E s k (wpAny_pure q))) rfl X₂ hm (I₂.type.andThen (looks_subIn X₂ T.veC)) (ks_ne X₂ I₂ (by exact hcl)) (by decide) ?_
  have e₃ : (h₂.push (kxs_mw "ValueError.__init__" x)).get? h₂.objs.size = some (kxs_mw "ValueError.__init__" x) := Heap.get?_push_size _ rfl
  have k₃ : ∀ b o, h₂.get? b = some o → (h₂.push (kxs_mw "ValueError.__init__" x)).get? b = some o := fun b o e => Heap.get?_push_of_some _ e
  refine kxs_callWith (i := "ValueError.__init__") (x := x) rfl (evalArgs_plain (spliced_cons ?_))
  refine wpAny_Constant_str (k := kk) (pos := p4) (spliced_nil ⟨e₃, ?_⟩)
  refine call_mw (k₃ _ _ (X₂ _ _ hC)) (k₃ _ _ hx₂) e₃ (by rw [sizeLine_eq]; exact (by decide : 1 ≤ 16777216)) (fun h₄ t₁ k₄ hx₄ => ?_)
  have kk4 : ∀ b o, b ≠ x → h₁.get? b = some o → h₄.get? b = some o := fun b o hb e => k₄ b o hb (k₃ _ _ (k₂ _ _ e))
  show wpAt _ _ _ (execs rest (ksEnv qual scope hp.objs.size fI (.ref cda) cc)) _ _ _
  refine wpAt_of_wpAny ?_
  refine stores_new (s := ⟨h₄, _, _, _, _⟩) T (env := ksEnv qual scope hp.objs.size fI (.ref cda) cc) hk (klo _ List.mem_cons_self) (hzl ("self", .ref x) (by simp)) hnx hxL S (vs := us) (in_but X₁ hnx kk4) (ns_but hn hxL kk4) hx₄ T.few h0 hus.symm (fun p hp => hzl p (by simp [hp]))
    (fun f hf => ⟨klo f (List.mem_cons_of_mem _ hf), T.noN f hf, hdb f hf⟩) ?_
  intro h' tk dx E
  refine hq h' tk dx t₁ ⟨fun b o hb e => E.keep b o hb (kk4 b o hb (k b o e)), E.obj, ?_, E.dne, E.ns⟩
  have hL4 : hp.objs.size < h₄.objs.size := (ns_but hn hxL kk4).lt
  exact Nat.le_trans (Nat.le_of_lt hL4) E.dbig
/-- a made exception -/
structure OwnMade (h h' : Heap) (e C d : Addr) (l : List (Str × Value)) : Prop where
  keep : ∀ b o, h.get? b = some o → h'.get? b = some o
  new : h.objs.size ≤ e
  obj : ∃ oe vs, h'.get? e = some oe ∧ oe.cls = .ref C ∧ oe.dict = some d ∧ oe.data = .fields vs ∧ vs[1]? = some .none
  dbig : h.objs.size ≤ d
  dne : d ≠ e
  ns : h'.Ns1 d (fld l)
theorem own_made {P : Program} (T : OwnTxt P K C fI fs) (hp : prog = P) (hnd : (("self" : Str) :: fs).Nodup) (hdb : ∀ f ∈ fs, (f == ("__debug__" : Str)) = false) (h0 : fs ≠ []) {us : List Value} (hus : us.length = fs.length) (X : K.In s.heap) (hlim : s.heap.NoLimit) (hG : s.heap.Ns mainGlobals mg) (hgs : mg "super" = none)
    (hB : s.heap.Ns builtinsNs mb) (hbs : mb "super" = some (.type "super")) (hroom : A.depth + 1 < recursionLimit)
    (hq : ∀ h' tk e d, OwnMade s.heap h' e C d ((fs.zip us).reverse) → R (.ok (.ret (.ref e))) { s with heap := h', toks := tk }) :
    codeAny (model prog w) A (.call (.ref C) ⟨us, []⟩) R s := by
  obtain ⟨nm, q, N, bs, bm, sn, sub, ab, col, dd, k0, k1, k2, k3, k5, hC, hbm⟩ := T.cls
  obtain ⟨hp', g, dr, tk, os⟩ := s
  have hsz : us.length ≤ sizeLine := by
    have := T.few
    rw [sizeLine_eq]
    omega
  have k : ∀ b o, hp'.get? b = some o → ((hp'.push (kdv_tup us)).push (excO C hp'.objs.size)).get? b = some o := fun b o e => Heap.get?_push_of_some _ (Heap.get?_push_of_some _ e)
  have hget : ((hp'.push (kdv_tup us)).push (excO C hp'.objs.size)).get? (hp'.objs.size + 1) = some (excO C hp'.objs.size) := by heap_get
  have hnx : K.lookup (hp'.objs.size + 1) = none := out_of X (Nat.le_succ _)
  refine call_own F.excBase_ValueError (fun X => refsVE_contains X bm hbm) (X _ _ hC) (looks_findIn X T.iC) (fun self => bind_fn X self T.tC) hsz ?_
  refine own_init (s := ⟨(hp'.push (kdv_tup us)).push (excO C hp'.objs.size), g, dr, tk, os⟩) T hp hnd hdb h0 hus (X.keeps k) (hlim.keeps k) (hG.keeps k) hgs (hB.keeps k) hbs hget hnx ?_ fun h' tk' dx t1 ⟨k', hx, dn, dne, hns⟩ => ?_
  · show A.depth + 1 < recursionLimit
    exact hroom
  · have old : ∀ b o, hp'.get? b = some o → h'.get? b = some o := fun b o e => k' b o (Nat.ne_of_lt (Nat.lt_succ_of_lt (Heap.lt_size e))) (k b o e)
    have z : hp'.objs.size + 1 + 1 ≤ dx := by
      first
        | (simpa only [Heap.size_push] using dn)
        | exact dn
        | (have q := dn; rw [Heap.size_push, Heap.size_push] at q; exact q)
    exact ⟨rfl, hq h' tk' (hp'.objs.size + 1) dx ⟨old, Nat.le_succ _, ⟨_, _, hx, rfl, rfl, rfl, rfl⟩, Nat.le_trans (Nat.le_trans (Nat.le_succ _) (Nat.le_succ _)) z, dne, hns⟩⟩
end
end OwX
end PySem
namespace L2
open PySem PySem.Spec PyProof.Rows
theorem relO_fld : ∀ {fs : List Str} {vs : List V} {us : List Value}, Vals vs us → ∀ f, RelO (List.lookup f ((fs.zip vs).reverse)) (PySem.OwX.fld ((fs.zip us).reverse) f) := by
  have key : ∀ {l : List (Str × V)} {l' : List (Str × Value)}, Paired (fun a b => a.1 = b.1 ∧ RelV a.2 b.2) l l' → ∀ f, RelO (List.lookup f l) (PySem.OwX.fld l' f) := by
    intro l l' h f
    unfold PySem.OwX.fld
    induction h with
    | nil => trivial
    | @cons a b l l' r _ ih =>
      obtain ⟨n, v⟩ := a
      obtain ⟨n', v'⟩ := b
      obtain ⟨e, rv⟩ := r
      have e' : n = n' := e
      subst e'
      cases c : (f == n) with
      | true => simp only [List.lookup, c]; exact rv
      | false => simp only [List.lookup, c]; exact ih
  intro fs vs us h f
  refine key ?_ f
  have z : ∀ {fs : List Str} {vs : List V} {us : List Value}, Vals vs us → Paired (fun (a : Str × V) (b : Str × Value) => a.1 = b.1 ∧ RelV a.2 b.2) (fs.zip vs) (fs.zip us) := by
    intro fs vs us h
    induction h generalizing fs with
    | nil => cases fs <;> exact .nil
    | cons r _ ih =>
      cases fs with
      | nil => exact .nil
      | cons f fs => exact .cons ⟨rfl, r⟩ ih
  have rv : ∀ {l : List (Str × V)} {l' : List (Str × Value)}, Paired (fun (a : Str × V) (b : Str × Value) => a.1 = b.1 ∧ RelV a.2 b.2) l l' → ∀ {k k'}, Paired (fun (a : Str × V) (b : Str × Value) => a.1 = b.1 ∧ RelV a.2 b.2) k k' →
      Paired (fun (a : Str × V) (b : Str × Value) => a.1 = b.1 ∧ RelV a.2 b.2) (l.reverseAux k) (l'.reverseAux k') := by
    intro l l' h
    induction h with
    | nil => intro k k' hk; exact hk
    | cons r _ ih => intro k k' hk; exact ih (.cons r hk)
  exact rv (z h) .nil
section
variable {X : Cx} {C fI : Addr} {fs : List Str} {x : Str}
/-- C(e, ..): the exception's own dict d, new, holds the fields -/
def tMkOwnS (C : Addr) (fs : List Str) (ta : TA) : St → Hp → XK → Prop := fun σ H Q => ta σ H fun vs H1 => vs.length = fs.length ∧ ∀ d, H1 d = none → Q (.ref C) (some d) (upd H1 d (.xd ((fs.zip vs).reverse)))
theorem pmk_ownS {a : Expr} {as : List Expr} {ta : TA} {p pos : Pos} {k : Nat} (T : PySem.OwX.OwnTxt X.prog X.K C fI fs) (hm : X.mg x = some (.ref C)) (hs : X.mg "super" = none) (hnd : (("self" : Str) :: fs).Nodup) (hdb : ∀ f ∈ fs, (f == ("__debug__" : Str)) = false) (h0 : fs ≠ []) (hr : Room k X.A) (ha : PA X (a :: as) ta) (hg : Gl X x)
    (hdx : (x == ("__debug__" : Str)) = false := by decide) (he : starEach (a :: as) X.env = (false, eval a X.env) :: starEach as X.env := by rfl) (hpl : (backTo pos (starEach as X.env)).any (·.1) = false := by rfl) :
    PMk X (.Call (.Name x p) (a :: as) [] pos) (tMkOwnS C fs ta) := by
  intro pins s σ H Q I h
  refine wpAny_Call_Name_kw (ld_glob I hg hm ?_ hdx)
  refine PySem.W.callWith_K (h₀ := X.base) I.ok.mod.kin T.kC (thn (ha.run pos pins s σ H _ I h) fun us s1 hh => ?_) he hpl
  obtain ⟨vs, H1, I1, r1, el, q1⟩ := hh
  refine ⟨I1.kIn, ?_⟩
  show wpAny _ _ (call (.ref C) us) _ _ _
  have hlim := I1.nolimit
  obtain ⟨mb, b1, b2⟩ := I1.mod.blt
  have hG := I1.mod.glob.keeps I1.bk
  have hB := b1.keeps I1.bk
  have hus : us.length = fs.length := by rw [← el]; exact (Paired.length r1).symm
  obtain ⟨hp, g, dr, tk, os⟩ := s1
  refine wpAny_call (PySem.OwX.own_made T rfl hnd hdb h0 hus I1.kIn hlim hG hs hB ((b2 "super" (by decide)).trans (by first | rfl | decide +kernel | kernel_rfl)) (by have := hr.dp; omega) fun h' tk' e d M => ?_)
  show MkP X pins σ Q (.ref e) ⟨h', g, dr, tk', os⟩
  obtain ⟨oe, fv, hoe, hc, hd, hdat, h1⟩ := M.obj
  have hns := M.ns
  obtain ⟨G', g1, g2⟩ := restrict h' fun b => decide (b ≠ e)
  have gk : ∀ b, b ≠ e → G'.get? b = h'.get? b := fun b hb => g1 b (decide_eq_true hb)
  have ge : G'.get? e = none := g2 e (by simp)
  have old : ∀ b o, hp.get? b = some o → G'.get? b = some o := fun b o q => (gk b (Nat.ne_of_lt (Nat.lt_of_lt_of_le (Heap.lt_size q) M.new))).trans (M.keep b o q)
  have ob : ObjOk X.prog X.w (upd H1 d (.xd ((fs.zip vs).reverse))) G' d (.xd ((fs.zip vs).reverse)) :=
    ⟨_, hns.at (fun o q => (gk d M.dne).trans q), fun f => relO_fld r1 f⟩
  have J : Inv X pins σ (upd H1 d (.xd ((fs.zip vs).reverse))) ⟨G', g, dr, tk', os⟩ := I1.laid (t' := tk') old M.dbig ob
  refine ⟨e, oe, fv, ⟨G', g, dr, tk', os⟩, _, .ref C, some d, rfl, J, fun b o q => ?_, ge, hoe, ⟨hc, hd⟩, hdat, h1, ?_, rfl, I1.bare, raises_own T.exC T.tyC, q1 d (I1.hok.fresh M.dbig)⟩
  · by_cases hb : b = e
    · have q' : G'.get? b = some o := q
      rw [hb, ge] at q'; cases q'
    · exact (gk b hb).symm.trans q
  · rw [upd_ne (Ne.symm M.dne)]
    exact I1.hok.fresh M.new
/-- raise C(e, ..) -/
def tRaiseOwnS (C : Addr) (fs : List Str) (W : WX) (ta : TA) : TS := fun _ σ H => tMkOwnS C fs ta σ H fun cls d H' => W cls d σ H'
theorem ps_raiseOwnS {a : Expr} {as : List Expr} {ta : TA} {W : WX} {p pos pos2 : Pos} {k : Nat} (hc : X.calm = true) (T : PySem.OwX.OwnTxt X.prog X.K C fI fs) (hm : X.mg x = some (.ref C)) (hs : X.mg "super" = none) (hnd : (("self" : Str) :: fs).Nodup) (hdb : ∀ f ∈ fs, (f == ("__debug__" : Str)) = false) (h0 : fs ≠ []) (hr : Room k X.A) (tk : Takes X W) (ha : PA X (a :: as) ta) (hg : Gl X x)
    (hdx : (x == ("__debug__" : Str)) = false := by decide) (he : starEach (a :: as) X.env = (false, eval a X.env) :: starEach as X.env := by rfl) (hpl : (backTo pos (starEach as X.env)).any (·.1) = false := by rfl) :
    PS X (.Raise (some (.Call (.Name x p) (a :: as) [] pos)) none pos2) (tRaiseOwnS C fs W ta) := ps_raise hc tk (pmk_ownS T hm hs hnd hdb h0 hr ha hg hdx he hpl)
end
end L2

/-! repr of data: defs whose context is known to show nothing (guards), from the law down to the calls of repr -/
namespace L2
open PySem PySem.Spec PyProof.Rows
/-- as FnOk, for contexts in which no repr is under way -/
structure FnOkG (P : Program) (w : World) (K : PySem.W.Frag) (mg : Str → Option Value) (base : Heap) (k : Nat) (f : Addr) (fd : FuncData) (ps : List Str) (sp : Sp) : Prop where
  len : ∀ vs H Q E, sp vs H Q E → vs.length = ps.length
  run : ∀ (A : Around) (outer : List Env) (s : Shared) (H : Hp) (args : Args) (us : List Value) (vs : List V) (Q : VK) (E : XK), A.guards = some [] → Room k A →
    Env0 P w K mg base A outer s H → BindsTo s fd args (ps.zip us) → Vals vs us → sp vs H Q E → codeAny (model P w) A (.call (.ref f) args) (CR CX0 outer P w H s Q E) s
section
variable {P : Program} {w : World} {K : PySem.W.Frag} {mg : Str → Option Value} {base : Heap}
theorem Fun.okG {x qual : Str} {st : Stmt} {f : Addr} {fd : FuncData} {N ps : List Str} {k : Nat} {sp : Sp} (F : Fun K x qual st f fd) (S : FnScope N ps (defScope st)) (len : ∀ vs H Q E, sp vs H Q E → vs.length = ps.length)
    (body : ∀ (cdv : Value) (A : Around) (outer : List Env) (s : Shared) (H : Hp) (vs : List V) (Q : VK) (E : XK), A.guards = some [] → Room k (A.deeper (envOfC qual (defScope st) s.heap.objs.size f cdv)) → sp vs H Q E →
      ∃ t, PSs (cxOf CX0 P w K mg base N qual (defScope st) f cdv A outer s H E).nox (defBody st) t ∧ t { nx := fun _ H' => Q .non H', rt := Q } (start N vs) H) :
    FnOkG P w K mg base (k + 1) f fd ps sp where
  len := len
  run := by
    intro A outer s H args us vs Q E gA room e0 bind rel want
    obtain ⟨oc, od, kV, doc, pm, an, cdv, ct, osl, rfl, lk, code⟩ := F.ex
    have same := len _ _ _ _ want
    have up : ∀ b o, base.get? b = some o → s.heap.get? b = some o := fun b o e => (e0.bs b o e).1
    have inK := e0.mod.kin.keeps up
    have places : ∀ y ∈ ps.zip us, (defScope st).names.lookup y.1 = some .local ∨
        ((defScope st).names.lookup y.1 = some .cell ∧ ((cellsFrom (s.heap.objs.size + 1) (defScope st).names []).lookup y.1).isSome = true) := by
      rintro ⟨n, v⟩ hy
      cases S.par n (List.of_mem_zip hy).1 with
      | inl q => exact Or.inl q
      | inr q => exact Or.inr ⟨q, PySem.W.cellsFrom_some _ _ _ (.inl q)⟩
    refine codeAny_call_function room.depth (inK _ _ lk) rfl S.co S.gen rfl (PySem.W.codeRec_of inK code) (bind _ _ _ _ (wpAny_newFunctionEnv_cells S.kind places fun env same_env s1 made => ?_))
    subst same_env
    have nolim := e0.mod.nolimit.keeps up
    refine ⟨nolim.keeps made.toInCall.keep, codeAny_func ?_⟩
    obtain ⟨t, rule, reading⟩ := body cdv A outer s H vs Q E gA (room.deeper _) want
    have first := inv_start (CX := CX0) (E := E) S room.hd e0 same rel made
    refine wpAny_mono (rule.nox.run [] s1 (start N vs) H _ first reading) ?_ (fun _ _ z => z)
    intro fl s' out
    match fl, out with
    | .ret u, ⟨v, _, H', J, rv, q⟩ => exact ⟨v, H', J.os, J.bare, J.base, J.hok, rv, q⟩
    | .next, ⟨_, H', J, q⟩ => exact ⟨.non, H', J.os, J.bare, J.base, J.hok, rfl, q⟩
    | .brk, ⟨_, _, _, q⟩ => exact q.elim
    | .cont, ⟨_, _, _, q⟩ => exact q.elim
end
section
variable {X : Cx} {k : Nat} {f : Addr} {fd : FuncData} {ps : List Str} {sp : Sp} {x : Str} {p pos : Pos} {e : Expr} {es : List Expr} {t : TA}
/-- a call of such a def -/
theorem pe_callG (F : FnOkG X.prog X.w X.K X.mg X.base k f fd ps sp) (gA : X.A.guards = some []) (hr : Room k X.A) (hg : Gl X x) (hm : X.mg x = some (.ref f)) (hk : PySem.W.keepIn X.K (.ref f) = true) (hb : Binds X.K fd ps [])
    (ha : PA X (e :: es) t) (hdb : (x == ("__debug__" : Str)) = false := by decide) (he : starEach (e :: es) X.env = (false, eval e X.env) :: starEach es X.env := by rfl) (hpl : (backTo pos (starEach es X.env)).any (·.1) = false := by rfl) :
    PE X (.Call (.Name x p) (e :: es) [] pos) (tCall sp [] E0 t) := by
  constructor
  intro pins s σ H Q I h
  refine wpAny_Call_Name_kw (ld_glob I hg hm (PySem.W.callWith_K (h₀ := X.base) I.ok.mod.kin hk (thn (ha.run pos pins s σ H _ I h) ?_) he hpl) hdb)
  rintro us s1 ⟨vs, H1, J, rel, want⟩
  refine ⟨J.kIn, ?_⟩
  have n : us.length = ps.length := by rw [← rel.length, ← F.len _ _ _ _ want, List.append_nil]
  have want' : sp vs H1 Q E0 := by rw [← List.append_nil vs]; exact want
  have bnd := hb s1 us J.kIn (by rw [List.append_nil]; exact n)
  rw [List.append_nil] at bnd
  refine wpAny_call (codeAny_mono (F.run X.A X.stack s1 H1 ⟨us, []⟩ us vs Q E0 gA hr J.env0 bnd rel want') ?_)
  intro r s' out
  match r, out with
  | .error _, out => exact out.elim
  | .ok (.ret u), out => exact J.after out
  | .ok .next, out => exact out.elim
  | .ok .brk, out => exact out.elim
  | .ok .cont, out => exact out.elim
/-- repr of data without dicts -/
def rRepr (K : PySem.W.Frag) : List V → Hp → VK → Prop := fun xs H Q => ∃ (a : Addr) (d : PyData), xs = [.ref a] ∧ Dp K H (.ref a) d ∧ d.showable = true ∧ d.hasDict = false ∧ d.depth ≤ 60 ∧ d.shown.length ≤ sizeLine ∧ Q (.str d.shown) H
theorem call_reprD (gA : X.A.guards = some []) (hu : X.A.units + 64 < cLine) : CallR X (.builtin "repr") (rRepr X.K) := by
  intro pins s σ H xs us Q I r h
  obtain ⟨a, d, rfl, hd, sh, nd, dp, sz, q⟩ := h
  obtain ⟨u, rfl, ru⟩ := vals1 r
  obtain rfl : u = Value.ref a := ru
  obtain ⟨as, rd⟩ := Dp.reads I d _ _ hd rfl
  refine repr_of_reads' rd sh (PyData.noDict_hsm nd) gA (by omega) (fun _ _ e => e) (fun h' u tk kp => ?_) sz
  exact ⟨.str d.shown, H, I.kept (t' := tk) kp, ⟨u, rfl⟩, q⟩
end
/-- the law's promise at the heap behind the top, for such a def -/
theorem law_startG {P : Program} {w : World} {K : PySem.W.Frag} {mg mb : Str → Option Value} {k : Nat} {fa a : Addr} {fd : FuncData} {x : Str} {sp : Sp} {s : Shared} {vs : List Value}
    (KX : K.In s.heap) (hns : s.heap.Ns mainGlobals mg) (hb : s.heap.Ns builtinsNs mb) (hbb : ∀ x : Str, x ≠ "__name__" → mb x = bootBuiltins x) (hlim : s.heap.NoLimit) (hg : s.gens = #[])
    (ha : s.heap.get? a = some { cls := .type "list", data := .seq vs.toArray }) (room : Room k callerA) (F : ∀ base : Heap, K.In base → base.Ns mainGlobals mg → FnOkG P w K mg base k fa fd [x] sp)
    (bind : ∀ (s : Shared) (u : Value), BindsTo s fd ⟨[u], []⟩ [(x, u)]) (H : Hp) (only : Only H) (hok : HOk P w H s.heap) (one : ∀ b, H b ≠ none → b = a) (out : H a ≠ none → K.lookup a = none)
    (want : sp [.ref a] H (fun v _ => v = .bl true) fun _ _ _ => False) :
    codeAny (model P w) callerA (.call (.ref fa) ⟨[.ref a], []⟩) (fun r s' => r = .ok (.ret (.bool true)) ∧ OldK s.heap s'.heap ∧ s'.os = s.os ∧ AllBare s'.gens) s := by
  have free : ∀ {b : Addr}, (b = a → False) → H b = none := fun {b} hb => by
    cases q : H b with
    | none => rfl
    | some u => exact (hb (one b (by rw [q]; exact fun z => (by cases z)))).elim
  have dicts : ∀ {b : Addr} {m : Str → Option Value}, s.heap.Ns b m → (hidT s.heap H).Ns b m := by
    rintro b m ⟨o, es, ep, e, d, r⟩
    refine ⟨o, es, ep, hidT_get e (free fun eb => ?_), d, r⟩
    rw [eb, ha] at e
    cases e
    have d' : Data.seq vs.toArray _ = Data.dict es ep := d
    cases d'
  have kin : K.In (hidT s.heap H) := fun b o e => hidT_get (KX b o e) (by
    cases q : H b with
    | none => rfl
    | some u =>
      have eb := one b (by rw [q]; exact fun z => (by cases z))
      have := out (by rw [← eb, q]; exact fun z => (by cases z))
      rw [eb, this] at e
      cases e)
  obtain ⟨mc, lim1, lim2⟩ := hlim
  have md : Mod K mg (hidT s.heap H) := { kin := kin, glob := dicts hns, blt := ⟨mb, dicts hb, hbb⟩, nolimit := ⟨mc, dicts lim1, lim2⟩ }
  have e0 : Env0 P w K mg (hidT s.heap H) callerA [] s H :=
    { frames := rfl, mod := md, bs := fun b o e => of_hidT e, bsz := Nat.le_of_eq (hidT_size _ _), funs := trivial, frf := fun b hb => absurd (show b ∈ ([] : List Addr) from hb) (List.not_mem_nil), hok := hok, bare := .of_eq hg }
  refine codeAny_mono ((F _ kin (dicts hns)).run callerA [] s H ⟨[.ref a], []⟩ [.ref a] [.ref a] _ _ rfl room e0 (bind s (.ref a)) (.cons rfl .nil) want) ?_
  intro r s' res
  match r, res with
  | .error _, res => exact res.elim
  | .ok .next, res => exact res.elim
  | .ok .brk, res => exact res.elim
  | .ok .cont, res => exact res.elim
  | .ok (.ret u), ⟨v, H', os, bare, un, hok', rv, ev⟩ =>
    have ev' : v = .bl true := ev
    subst ev'
    obtain rfl : u = Value.bool true := rv
    refine ⟨rfl, OldK.of_keep ?_, os, bare⟩
    intro b o e
    rcases only b with z | ⟨ob, xs, z⟩
    · exact un.keep b o e z (fun m => absurd (show b ∈ ([] : List Addr) from m) List.not_mem_nil) List.not_mem_nil
    · have e1 := (hok b _ z).1
      have e2 := (hok' b _ (un.frzs b ob _ z)).1
      rw [e] at e1
      cases e1
      exact e2
theorem walk_ofG {l : PySem.W.OpenLaw} {n k : Nat} {q : Program} {loose : List Str} {XP : (Str → Option Value) → Heap → Prop} {YP : World → Heap → Prop} {d : DefRec} {K : Params → PySem.W.Frag} {sp : World → Sp} {x : Str}
    (hn : l.most = some n) (hn2 : n ≤ sizeLine) (hdf : d.params.defaults = []) (room : Room k callerA) (hY : ∀ (w : World) (h : Heap), YP w h → (K w.params).In h)
    (F : ∀ (w : World) (mg : Str → Option Value) (fa : Addr) (h : Heap), (K w.params).In h → h.Ns mainGlobals mg → mg d.name = some (.ref fa) →
      ∃ fd : FuncData, (∀ (s : Shared) (u : Value), BindsTo s fd ⟨[u], []⟩ [(x, u)]) ∧ ∀ base : Heap, (K w.params).In base → base.Ns mainGlobals mg → FnOkG l.prog w (K w.params) mg base k fa fd [x] (sp w))
    (hsp : ∀ (w : World) (H : Hp) (a : Addr) (ns : List Int), ns.length ≤ n → Only H → SqL (K w.params) H a (ns.map V.int) → sp w [.ref a] H (fun v _ => v = .bl true) fun _ _ _ => False) :
    PySem.W.WalkO q loose XP YP l.row.toRowW d [] (fun f vs => PySem.call f vs) := by
  refine Att.attach_call hn hdf ?_
  intro w s₀ s mg mb fa o pm cd doc a vs ns G Y ho hd hcd hmg hobj hints hlen hg
  have KX := hY w _ Y
  obtain ⟨fd, bind, hF⟩ := F w mg fa _ KX G.T.g hmg
  have size : ns.length ≤ sizeLine := Nat.le_trans hlen hn2
  have go := fun (H : Hp) => law_startG (w := w) (a := a) (vs := vs) KX G.T.g G.T.b G.T.builtins G.T.nolimit hg hobj room hF bind H
  cases hk : (K w.params).lookup a with
  | some o' =>
    have e := KX a o' hk
    rw [hobj] at e
    cases e
    have only : Only (fun _ => none) := fun _ => Or.inl rfl
    refine go (fun _ => none) only (fun b u z => by have z2 : (none : Option HO) = some u := z; cases z2) (fun b z => absurd rfl z) (fun z => absurd rfl z) (hsp w _ a ns hlen only (.inr ⟨_, vs.toArray, _, hk, rfl, rfl, rfl, ?_, ?_⟩))
    · rw [List.size_toArray, hints.length]
      exact size
    · exact vals_ints hints
  | none =>
    have at_a : ∀ {b u}, (if b = a then some (HO.frz { cls := .type "list", data := .seq vs.toArray } (.lst (ns.map V.int))) else none) = some u → b = a ∧ u = .frz { cls := .type "list", data := .seq vs.toArray } (.lst (ns.map V.int)) := by
      intro b u z
      by_cases hb : b = a
      · rw [if_pos hb] at z
        exact ⟨hb, (Option.some.inj z).symm⟩
      · rw [if_neg hb] at z
        cases z
    have only : Only (fun b => if b = a then some (HO.frz { cls := .type "list", data := .seq vs.toArray } (.lst (ns.map V.int))) else none) := by
      intro b
      by_cases hb : b = a
      · exact Or.inr ⟨_, _, if_pos hb⟩
      · exact Or.inl (if_neg hb)
    refine go _ only ?_ ?_ (fun _ => hk) (hsp w _ a ns hlen only (.inl (.inr ⟨{ cls := .type "list", data := .seq vs.toArray }, if_pos rfl⟩)))
    · intro b u z
      obtain ⟨rfl, rfl⟩ := at_a z
      exact ⟨hobj, by rw [List.length_map]; exact size, vs, _, vals_ints hints, hobj⟩
    · intro b z
      cases q : (if b = a then some (HO.frz { cls := .type "list", data := .seq vs.toArray } (.lst (ns.map V.int))) else none) with
      | none => exact absurd q z
      | some u => exact (at_a q).1
end L2

/-! isinstance of a caught error whose fields stand in a dict; a tuple of classes -/
namespace L2
open PySem PySem.Spec PyProof.Rows
section
variable {X : Cx} {a : Addr} {oe : Obj} {cls : Value} {d : Option Addr} {pn : List (Addr × Obj)}
/-- the error that the suite holds at a: its class D, its dict dd -/
def Caught (K : PySem.W.Frag) (H : Hp) (cls : Value) (d : Option Addr) (D : Addr) : Prop := cls = .ref D ∧ ExcC K D ∧ ∃ (dd : Addr) (fs : List (Str × V)), d = some dd ∧ H dd = some (.xd fs)
theorem caught_at {pins : List (Addr × Obj)} {σ : St} {H : Hp} {s : Shared} {D : Addr} (I : Inv (X.suite a ((a, oe) :: pn)) pins σ H s) (hz : Zc cls d oe) (hf : ∃ vs, oe.data = .fields vs) (c : Caught X.K H cls d D) : ∃ od, PySem.W.InstAt s.heap a oe D od := by
  obtain ⟨rfl, _, dd, fs, rfl, ea⟩ := c
  have here := (I.pin (a, oe) (List.mem_append_left _ List.mem_cons_self)).1
  obtain ⟨vs, hd⟩ := hf
  obtain ⟨mA, hns, _⟩ := (show ObjOk X.prog X.w H s.heap dd (.xd fs) from I.hok dd _ ea)
  obtain ⟨od, ho, _⟩ := lookIn_ns hns
  refine ⟨some od, here, hz.1, ?_, ?_⟩
  · unfold PySem.W.notCls
    rw [hd] <;> rfl
  · rw [hz.2]
    exact ho
theorem caught_kit {K : PySem.W.Frag} {D : Addr} {od : Option Obj} (C : ExcC K D) : PySem.W.KitX K (.ref a) (.ref D) (fun h => PySem.W.InstAt h a oe D od) := by
  have hc : (PySem.W.clsIn K D).isSome = true := by
    obtain ⟨cd, hc, _⟩ := PySem.W.any_some C.hd
    rw [hc]
    rfl
  exact PySem.W.kitx_exc hc C.hg C.hk C.hs C.ha C.hn C.ht C.hm
def rIsC (K : PySem.W.Frag) (a : Addr) (cls : Value) (d : Option Addr) : List V → Hp → VK → Prop := fun xs H Q => ∃ (D : Addr) (c : V) (cv : Value) (b : Bool), xs = [.ref a, c] ∧ Caught K H cls d D ∧ ClsV c cv ∧ PySem.W.kitOne K (.ref D) cv = some b ∧ Q (.bl b) H
def rIsCT (K : PySem.W.Frag) (a : Addr) (cls : Value) (d : Option Addr) : List V → Hp → VK → Prop := fun xs H Q => ∃ (D tp : Addr) (cs : List V) (us : List Value) (b : Bool), xs = [.ref a, .ref tp] ∧ Caught K H cls d D ∧ H tp = some (.tup cs) ∧ Paired ClsV cs us ∧ PySem.W.kitAny K (.ref D) us = some b ∧ Q (.bl b) H
theorem call_isC (hz : Zc cls d oe) (hf : ∃ vs, oe.data = .fields vs) : CallR (X.suite a ((a, oe) :: pn)) (.builtin "isinstance") (rIsC X.K a cls d) := by
  intro pins s σ H xs us Q I r h
  obtain ⟨D, c, cv, b, rfl, hc, k, e, q⟩ := h
  obtain ⟨u1, u2, rfl, r1, r2⟩ := vals2 r
  obtain rfl : u1 = Value.ref a := r1
  have e2 := k.eq r2
  subst e2
  obtain ⟨od, J⟩ := caught_at I hz hf hc
  exact PySem.W.kia_one (caught_kit hc.2.1) I.kIn J e (fun z => by cases z) fun tk => ⟨.bl b, H, I.tok tk, rfl, q⟩
theorem call_isCT (hz : Zc cls d oe) (hf : ∃ vs, oe.data = .fields vs) : CallR (X.suite a ((a, oe) :: pn)) (.builtin "isinstance") (rIsCT X.K a cls d) := by
  intro pins s σ H xs us Q I r h
  obtain ⟨D, tp, cs, ws, b, rfl, hc, hT, k, e, q⟩ := h
  obtain ⟨u1, u2, rfl, r1, r2⟩ := vals2 r
  obtain rfl : u1 = Value.ref a := r1
  obtain rfl : u2 = Value.ref tp := r2
  obtain ⟨od, J⟩ := caught_at I hz hf hc
  obtain ⟨_, its, rv, o, h1, h2, n, h3⟩ := (show ObjOk X.prog X.w H s.heap tp (.tup cs) from I.hok tp _ hT)
  have e3 := ClsV.all k rv
  subst e3
  obtain ⟨oc, od', dt, sl⟩ := o
  simp only at h2 h3
  subst h2 h3
  exact PySem.W.kia_tup (caught_kit hc.2.1) I.kIn J h1 e (fun z => by cases z) fun tk => ⟨.bl b, H, I.tok tk, rfl, q⟩
end
end L2

/-! lists of numbers, lists of such lists, as data that is shown -/
namespace KD
open PySem PySem.Spec PyProof.Rows L2
def dI (l : List Int) : PyData := .list (l.map .int)
def dW (W : List (List Int)) : PyData := .list (W.map dI)
structure Shows (d : PyData) : Prop where
  sh : d.showable = true
  nd : d.hasDict = false
  dp : d.depth ≤ 60
  sz : d.shown.length ≤ sizeLine
def Smalls (l : List Int) : Prop := ∀ z ∈ l, z.natAbs < 1000000
theorem small_log {z : Int} (h : z.natAbs < 1000000) : z.natAbs.log2 < 20 := by
  by_cases e : z.natAbs = 0
  · rw [e]
    decide
  · exact (Nat.log2_lt e).2 (Nat.lt_of_lt_of_le h (by decide))
theorem ints_show {l : List Int} (h : Smalls l) : PyData.showableAll (l.map PyData.int) = true := PyData.showableAll_ints l fun z hz => Nat.lt_trans (small_log (h z hz)) (by decide)
theorem ints_nodict : ∀ l : List Int, PyData.hasDictAll (l.map PyData.int) = false
  | [] => by simp only [List.map_nil, PyData.hasDictAll]
  | z :: l => by simp only [List.map_cons, PyData.hasDictAll, PyData.hasDict, ints_nodict l, Bool.or_self]
theorem ints_depth : ∀ l : List Int, PyData.depthAll (l.map PyData.int) = 0
  | [] => by simp only [List.map_nil, PyData.depthAll]
  | z :: l => by simp only [List.map_cons, PyData.depthAll, PyData.depth, ints_depth l, Nat.max_self]
theorem ints_leaves : ∀ {l : List Int}, Smalls l → PyData.leavesShortAll 13 (l.map PyData.int) = true
  | [], _ => by simp only [List.map_nil, PyData.leavesShortAll]
  | z :: l, h => by
    simp only [List.map_cons, PyData.leavesShortAll, PyData.leavesShort, Bool.and_eq_true, decide_eq_true_eq]
    exact ⟨PyData.shown_int_le (Nat.lt_trans (h z List.mem_cons_self) (by decide)), ints_leaves fun y hy => h y (List.mem_cons_of_mem _ hy)⟩
theorem ints_weight : ∀ {l : List Int}, Smalls l → PyData.weightAll (l.map PyData.int) ≤ 21 * l.length
  | [], _ => by simp only [List.map_nil, PyData.weightAll]; exact Nat.zero_le _
  | z :: l, h => by
    have := small_log (h z List.mem_cons_self)
    have ih := ints_weight (l := l) fun y hy => h y (List.mem_cons_of_mem _ hy)
    have w : PyData.weight (.int z) ≤ 20 := by
      simp only [PyData.weight]
      split <;> omega
    simp only [List.map_cons, PyData.weightAll, List.length_cons]
    omega
theorem dI_shows {l : List Int} (h : Smalls l) (hl : l.length ≤ 10000) : Shows (dI l) where
  sh := by simp only [dI, PyData.showable]; exact ints_show h
  nd := by simp only [dI, PyData.hasDict]; exact ints_nodict l
  dp := by simp only [dI, PyData.depth, ints_depth]; decide
  sz := PyData.shown_fits (B := 13) (by decide) (by decide) (by simp only [dI, PyData.leavesShort]; exact ints_leaves h) (by
    simp only [dI, PyData.weight]
    have := ints_weight h
    have e : (2 : Nat) ^ 20 = 1048576 := by decide
    omega)
theorem rows_show : ∀ {W : List (List Int)}, (∀ r ∈ W, Smalls r) → PyData.showableAll (W.map dI) = true
  | [], _ => by simp only [List.map_nil, PyData.showableAll]
  | r :: W, h => by
    simp only [List.map_cons, PyData.showableAll, Bool.and_eq_true]
    exact ⟨by simp only [dI, PyData.showable]; exact ints_show (h r List.mem_cons_self), rows_show fun y hy => h y (List.mem_cons_of_mem _ hy)⟩
theorem rows_nodict : ∀ W : List (List Int), PyData.hasDictAll (W.map dI) = false
  | [] => by simp only [List.map_nil, PyData.hasDictAll]
  | r :: W => by simp only [List.map_cons, PyData.hasDictAll, dI, PyData.hasDict, ints_nodict, Bool.false_or]; exact rows_nodict W
theorem rows_depth : ∀ W : List (List Int), PyData.depthAll (W.map dI) ≤ 1
  | [] => by simp only [List.map_nil, PyData.depthAll]; exact Nat.zero_le _
  | r :: W => by
    have := rows_depth W
    simp only [List.map_cons, PyData.depthAll, dI, PyData.depth, ints_depth]
    exact Nat.max_le.mpr ⟨Nat.le_refl _, this⟩
theorem rows_leaves : ∀ {W : List (List Int)}, (∀ r ∈ W, Smalls r) → PyData.leavesShortAll 13 (W.map dI) = true
  | [], _ => by simp only [List.map_nil, PyData.leavesShortAll]
  | r :: W, h => by
    simp only [List.map_cons, PyData.leavesShortAll, Bool.and_eq_true]
    exact ⟨by simp only [dI, PyData.leavesShort]; exact ints_leaves (h r List.mem_cons_self), rows_leaves fun y hy => h y (List.mem_cons_of_mem _ hy)⟩
theorem rows_weight {k : Nat} : ∀ {W : List (List Int)}, (∀ r ∈ W, Smalls r ∧ r.length ≤ k) → PyData.weightAll (W.map dI) ≤ (21 * k + 1) * W.length
  | [], _ => by simp only [List.map_nil, PyData.weightAll]; exact Nat.zero_le _
  | r :: W, h => by
    have h1 := h r List.mem_cons_self
    have w := ints_weight h1.1
    have ih := rows_weight (k := k) (W := W) fun y hy => h y (List.mem_cons_of_mem _ hy)
    have wd : PyData.weight (dI r) ≤ 21 * k := by
      simp only [dI, PyData.weight]
      have : 21 * r.length ≤ 21 * k := Nat.mul_le_mul_left 21 h1.2
      omega
    simp only [List.map_cons, PyData.weightAll, List.length_cons]
    rw [Nat.mul_succ]
    omega
theorem dW_shows {W : List (List Int)} (h : ∀ r ∈ W, Smalls r ∧ r.length ≤ 100) (hl : W.length ≤ 400) : Shows (dW W) where
  sh := by simp only [dW, PyData.showable]; exact rows_show fun r hr => (h r hr).1
  nd := by simp only [dW, PyData.hasDict]; exact rows_nodict W
  dp := by
    have := rows_depth W
    simp only [dW, PyData.depth]
    omega
  sz := PyData.shown_fits (B := 13) (by decide) (by decide) (by simp only [dW, PyData.leavesShort]; exact rows_leaves fun r hr => (h r hr).1) (by
    simp only [dW, PyData.weight]
    have := rows_weight h
    have e : (2 : Nat) ^ 20 = 1048576 := by decide
    have : (21 * 100 + 1) * W.length ≤ (21 * 100 + 1) * 400 := Nat.mul_le_mul_left _ hl
    omega)
theorem dpI {K : PySem.W.Frag} {H : Hp} {a : Addr} {l : List Int} (h : SqL K H a (l.map V.int)) : Dp K H (.ref a) (dI l) := by
  refine .lst h ?_
  clear h
  induction l with
  | nil => exact .nil
  | cons z l ih => exact .cons (.int z) ih
theorem dpW {K : PySem.W.Frag} {H : Hp} {a : Addr} {as : List Addr} {W : List (List Int)} (h : SqL K H a (as.map V.ref)) (p : Paired (fun x r => SqL K H x (r.map V.int)) as W) : Dp K H (.ref a) (dW W) := by
  refine .lst h ?_
  clear h
  induction p with
  | nil => exact .nil
  | cons f _ ih => exact .cons (dpI f) ih
/-- the reading of repr(x), x such data -/
theorem shown {K : PySem.W.Frag} {H : Hp} {a : Addr} {d : PyData} {Q : VK} (s : Shows d) (p : Dp K H (.ref a) d) (q : Q (.str d.shown) H) : rRepr K [.ref a] H Q := ⟨a, d, rfl, p, s.sh, s.nd, s.dp, s.sz, q⟩
def rTupOf (K : PySem.W.Frag) : List V → Hp → VK → Prop := fun xs H Q => ∃ p ys, xs = [.ref p] ∧ ((SqL K H p ys ∧ ∀ l, H l = none → Q (.ref l) (upd H l (.tup ys))) ∨ (SqT K H p ys ∧ Q (.ref p) H))
end KD

/-! defs that may be called while an error is handled: their bodies ask nothing of what is handled -/
namespace L2
open PySem PySem.Spec PyProof.Rows
structure RoomQ (k : Nat) (A : Around) : Prop where
  dp : A.depth + 3 * k + 5 < recursionLimit
  un : A.units + 16 * k + 200 < cLine
theorem RoomQ.of {k : Nat} {A : Around} (r : Room k A) : RoomQ k A := ⟨r.dp, r.un⟩
theorem RoomQ.mono {j k : Nat} {A : Around} (r : RoomQ k A) (h : j ≤ k) : RoomQ j A := by
  obtain ⟨a, b⟩ := r
  exact ⟨by omega, by omega⟩
theorem RoomQ.deeper {k : Nat} {A : Around} (r : RoomQ (k + 1) A) (env : Env) : RoomQ k (A.deeper env) := by
  obtain ⟨a, b⟩ := r
  refine ⟨?_, ?_⟩
  · show A.depth + 1 + 3 * k + 5 < _
    omega
  · show A.units + 3 + 16 * k + 200 < _
    omega
structure FnOkQ (P : Program) (w : World) (K : PySem.W.Frag) (mg : Str → Option Value) (base : Heap) (k : Nat) (f : Addr) (fd : FuncData) (ps : List Str) (sp : Sp) : Prop where
  len : ∀ vs H Q E, sp vs H Q E → vs.length = ps.length
  run : ∀ (A : Around) (outer : List Env) (s : Shared) (H : Hp) (args : Args) (us : List Value) (vs : List V) (Q : VK) (E : XK), RoomQ k A →
    Env0 P w K mg base A outer s H → BindsTo s fd args (ps.zip us) → Vals vs us → sp vs H Q E → codeAny (model P w) A (.call (.ref f) args) (CR CX0 outer P w H s Q E) s
/-- the body's context: nothing is known of what is handled -/
def cxQ (P : Program) (w : World) (K : PySem.W.Frag) (mg : Str → Option Value) (base : Heap) (N : List Str) (qual : Str) (scope : Scope) (f : Addr) (cd : Value) (A : Around) (outer : List Env) (s : Shared) (H : Hp) (E : XK) : Cx :=
  { cxOf CX0 P w K mg base N qual scope f cd A outer s H E with calm := false }
section
variable {P : Program} {w : World} {K : PySem.W.Frag} {mg : Str → Option Value} {base : Heap}
theorem Fun.okQ {x qual : Str} {st : Stmt} {f : Addr} {fd : FuncData} {N ps : List Str} {k : Nat} {sp : Sp} (F : Fun K x qual st f fd) (S : FnScope N ps (defScope st)) (len : ∀ vs H Q E, sp vs H Q E → vs.length = ps.length)
    (body : ∀ (cdv : Value) (A : Around) (outer : List Env) (s : Shared) (H : Hp) (vs : List V) (Q : VK) (E : XK), RoomQ k (A.deeper (envOfC qual (defScope st) s.heap.objs.size f cdv)) → sp vs H Q E →
      ∃ t, PSs (cxQ P w K mg base N qual (defScope st) f cdv A outer s H E).nox (defBody st) t ∧ t { nx := fun _ H' => Q .non H', rt := Q } (start N vs) H) :
    FnOkQ P w K mg base (k + 1) f fd ps sp where
  len := len
  run := by
    intro A outer s H args us vs Q E room e0 bind rel want
    obtain ⟨oc, od, kV, doc, pm, an, cdv, ct, osl, rfl, lk, code⟩ := F.ex
    have same := len _ _ _ _ want
    have up : ∀ b o, base.get? b = some o → s.heap.get? b = some o := fun b o e => (e0.bs b o e).1
    have inK := e0.mod.kin.keeps up
    have places : ∀ y ∈ ps.zip us, (defScope st).names.lookup y.1 = some .local ∨
        ((defScope st).names.lookup y.1 = some .cell ∧ ((cellsFrom (s.heap.objs.size + 1) (defScope st).names []).lookup y.1).isSome = true) := by
      rintro ⟨n, v⟩ hy
      cases S.par n (List.of_mem_zip hy).1 with
      | inl q => exact Or.inl q
      | inr q => exact Or.inr ⟨q, PySem.W.cellsFrom_some _ _ _ (.inl q)⟩
    have depth : A.depth < recursionLimit := by have := room.dp; omega
    refine codeAny_call_function depth (inK _ _ lk) rfl S.co S.gen rfl (PySem.W.codeRec_of inK code) (bind _ _ _ _ (wpAny_newFunctionEnv_cells S.kind places fun env same_env s1 made => ?_))
    subst same_env
    have nolim := e0.mod.nolimit.keeps up
    refine ⟨nolim.keeps made.toInCall.keep, codeAny_func ?_⟩
    obtain ⟨t, rule, reading⟩ := body cdv A outer s H vs Q E (room.deeper _) want
    have e0' : Env0 P w K mg base { A with handled := none } outer s H := { frames := e0.frames, mod := e0.mod, bs := e0.bs, bsz := e0.bsz, funs := e0.funs, frf := e0.frf, hok := e0.hok, bare := e0.bare }
    have I := inv_start (CX := CX0) (E := E) S (A := { A with handled := none }) rfl e0' same rel made
    have ok : (cxQ P w K mg base N qual (defScope st) f cdv A outer s H E).Ok :=
      { mod := I.ok.mod, kind := I.ok.kind, glob := I.ok.glob, blt := I.ok.blt, above := I.ok.above, inj := I.ok.inj, has := I.ok.has, cab := I.ok.cab,
        hd := fun z => Bool.noConfusion (show false = true from z), frames := Around.frames_deeper e0.frames, stk := I.ok.stk, exf := I.ok.exf, bs := I.ok.bs, bsz := I.ok.bsz, noex := I.ok.noex, exfs := I.ok.exfs, funs := I.ok.funs, frf := I.ok.frf }
    have first : Inv (cxQ P w K mg base N qual (defScope st) f cdv A outer s H E) [] (start N vs) H s1 :=
      { ok := ok, os := I.os, bare := I.bare, base := I.base, loc := I.loc, cell := I.cell, free := I.free, freeC := I.freeC, pin := I.pin, hok := I.hok, len := I.len }
    refine wpAny_mono (rule.nox.run [] s1 (start N vs) H _ first reading) ?_ (fun _ _ z => z)
    intro fl s' out
    match fl, out with
    | .ret u, ⟨v, _, H', J, rv, q⟩ => exact ⟨v, H', J.os, J.bare, J.base, J.hok, rv, q⟩
    | .next, ⟨_, H', J, q⟩ => exact ⟨.non, H', J.os, J.bare, J.base, J.hok, rfl, q⟩
    | .brk, ⟨_, _, _, q⟩ => exact q.elim
    | .cont, ⟨_, _, _, q⟩ => exact q.elim
end
section
variable {X : Cx} {k : Nat} {f : Addr} {fd : FuncData} {ps : List Str} {sp : Sp} {x : Str} {p pos : Pos} {e : Expr} {es : List Expr} {t : TA}
theorem pe_callQ (F : FnOkQ X.prog X.w X.K X.mg X.base k f fd ps sp) (hr : RoomQ k X.A) (hg : Gl X x) (hm : X.mg x = some (.ref f)) (hk : PySem.W.keepIn X.K (.ref f) = true) (hb : Binds X.K fd ps [])
    (ha : PA X (e :: es) t) (hdb : (x == ("__debug__" : Str)) = false := by decide) (he : starEach (e :: es) X.env = (false, eval e X.env) :: starEach es X.env := by rfl) (hpl : (backTo pos (starEach es X.env)).any (·.1) = false := by rfl) :
    PE X (.Call (.Name x p) (e :: es) [] pos) (tCall sp [] E0 t) := by
  constructor
  intro pins s σ H Q I h
  refine wpAny_Call_Name_kw (ld_glob I hg hm (PySem.W.callWith_K (h₀ := X.base) I.ok.mod.kin hk (thn (ha.run pos pins s σ H _ I h) ?_) he hpl) hdb)
  rintro us s1 ⟨vs, H1, J, rel, want⟩
  refine ⟨J.kIn, ?_⟩
  have n : us.length = ps.length := by rw [← rel.length, ← F.len _ _ _ _ want, List.append_nil]
  have want' : sp vs H1 Q E0 := by rw [← List.append_nil vs]; exact want
  have bnd := hb s1 us J.kIn (by rw [List.append_nil]; exact n)
  rw [List.append_nil] at bnd
  refine wpAny_call (codeAny_mono (F.run X.A X.stack s1 H1 ⟨us, []⟩ us vs Q E0 hr J.env0 bnd rel want') ?_)
  intro r s' out
  match r, out with
  | .error _, out => exact out.elim
  | .ok (.ret u), out => exact J.after out
  | .ok .next, out => exact out.elim
  | .ok .brk, out => exact out.elim
  | .ok .cont, out => exact out.elim
end
end L2

/-! for i, x in enumerate(xs), xs a list or a tuple -/
namespace RT
open PySem PySem.Spec PyProof.Rows L2
theorem new_enum1 {v : Value} {o : Obj} {G : Heap → Prop} (B : Begins v o G) :
    Meets (Builtin.«enumerate.__new__» ⟨[.type "enumerate", v], []⟩) (fun _ R s => G s.heap ∧
      R (.ok (.ret (.ref (s.heap.push o).objs.size))) { s with heap := (s.heap.push o).push { cls := .type "enumerate", data := .fields #[.none, .bool false, .ref s.heap.objs.size, rawInt 0, .none, .none] } }) := by
  refine .of_wp fun prog w A R s hh => ?_
  obtain ⟨heap, gens, drawn, toks, os⟩ := s
  obtain ⟨hG, hR⟩ := hh
  have sub := sub_enumerate
  have it : ∀ {A' : Around} {E : Value → Shared → Prop} {Q : Value → Shared → Prop}, Q (.ref heap.objs.size) ⟨heap.push o, gens, drawn, toks, os⟩ → wpAny (model prog w) A' (pyIter v) Q E ⟨heap, gens, drawn, toks, os⟩ := fun q => B.iter prog w _ _ ⟨heap, gens, drawn, toks, os⟩ _ hG q
  wp_walk using it
  refine wpAny_stack_any fun st => wpAny_pure ?_
  split
  · rename_i c _ _ _ _ _
    cases (c == Value.type "enumerate") <;> (wp_walk using it; exact ⟨_, rfl, hR⟩)
  · wp_walk using it
    exact ⟨_, rfl, hR⟩
section
variable {prog : Program} {w : World} {A : Around} {E : Value → Shared → Prop} {s : Shared}
theorem call_enum_tup {t : Addr} {items : Array Value} {Q : Value → Shared → Prop} (hT : s.heap.IsTuple t items)
    (q : ∀ h', IsEnum h' (s.heap.objs.size + 1) s.heap.objs.size 0 .none → h'.IsTupleIter s.heap.objs.size t 0 → (∀ b o, s.heap.get? b = some o → h'.get? b = some o) → Q (.ref (s.heap.objs.size + 1)) { s with heap := h' }) :
    wpAny (model prog w) A (call (.type "enumerate") [.ref t]) Q E s := by
  refine callType_new F.called_enumerate (by decide) (F.typeCall_enumerate_1 _) (F.newCall_enumerate_1 _) (fun obj => F.args_object_init_2 obj _) F.entry_enumerate_new (new_enum1 (begins_tuple t items)) ⟨hT, ?_⟩
  generalize eo : ({ cls := .type "tuple_iterator", data := .fields #[.ref t, .int 0 0] } : Obj) = io
  have z : (s.heap.push io).objs.size = s.heap.objs.size + 1 := Heap.size_push ..
  generalize ee : ({ cls := .type "enumerate", data := .fields #[.none, .bool false, .ref s.heap.objs.size, rawInt 0, .none, .none] } : Obj) = en
  have fe : ((s.heap.push io).push en).get? (s.heap.objs.size + 1) = some en := by
    rw [← z]
    exact Heap.get?_push_size _ (by rw [← ee]; rfl)
  have fi : ((s.heap.push io).push en).get? s.heap.objs.size = some io := Heap.get?_push_of_some _ (Heap.get?_push_size _ (by rw [← eo]; rfl))
  show _ ∧ _
  rw [z]
  exact ⟨⟨en, fe, by rw [← ee]⟩, q _ (fe.trans (by rw [← ee])) ⟨io, fi, by rw [← eo], by rw [← eo]; rfl⟩ fun b o x => Heap.get?_push_of_some _ (Heap.get?_push_of_some _ x)⟩
end
end RT
namespace L2
open PySem PySem.Spec PyProof.Rows
/-- the tuple at a, its items numbered, in new pairs -/
def Iten (K : PySem.W.Frag) (a : Addr) : It where
  go := fun i H => ∃ (xs : List V) (x : V), SqT K H a xs ∧ xs[i]? = some x
  yld := fun i H v H' => ∃ T x, v = .ref T ∧ H T = none ∧ H' = upd H T (.tup [.int (i : Nat), x]) ∧ ∀ xs, SqT K H a xs → xs[i]? = some x
  stop := fun i H => ∃ xs : List V, SqT K H a xs ∧ xs.length ≤ i
theorem turn_enumT {P : Program} {w : World} {K : PySem.W.Frag} {elts : List Expr} {kk : Nat} {tpos : Pos} (a e it : Addr) :
    Turn P w K (.Tuple elts kk tpos) (Iten K a) [e, it] e (fun i h => (∃ old, IsEnum h e it ((i : Nat) : Int) old) ∧ h.IsTupleIter it a i ∧ e ≠ it) := by
  have two : ∀ {b : Addr}, b ∈ [e, it] → b = e ∨ b = it := fun hb => by simpa using hb
  refine { mem := by simp, obj := ?_, keep := ?_, item := ?_, done := ?_, self := ?_ }
  · rintro i h ⟨⟨old, he⟩, ⟨o, ho, _, hd⟩, _⟩ b hb
    rcases two hb with rfl | rfl
    · exact ⟨_, he, fun v q => nomatch q⟩
    · exact ⟨o, ho, fun v q => by rw [hd] at q; cases q⟩
  · rintro i h h' ⟨⟨old, he⟩, hi, ne⟩ k
    exact ⟨⟨old, k e (by simp) _ he⟩, hi.at fun o q => k it (by simp) o q, ne⟩
  · intro X hP hw hK hc i pins s σ H E I hf st hg
    subst hP hw hK
    obtain ⟨⟨old, he⟩, hit, ne⟩ := st
    obtain ⟨xs, x, hq, hx⟩ := hg
    obtain ⟨its, rv, p, _⟩ := I.tuple hq
    obtain ⟨u, hu, ru⟩ := rv.get hx
    have le : e < s.heap.objs.size := Heap.lt_size he
    have li : it < s.heap.objs.size := by obtain ⟨_, q, _⟩ := hit; exact Heap.lt_size q
    have ea : e ≠ a := fun z => by
      obtain ⟨o, ho, hcl, _⟩ := p
      rw [← z, he] at ho
      cases ho
      exact absurd (Value.type.inj hcl) (by decide)
    have ia : a ≠ it := fun z => by
      obtain ⟨o, ho, hcl, _⟩ := p
      obtain ⟨o2, ho2, hcl2, _⟩ := hit
      rw [z, ho2] at ho
      cases ho
      rw [hcl2] at hcl
      exact absurd (Value.type.inj hcl) (by decide)
    have ilt : i < its.toArray.size := by
      have := (List.getElem?_eq_some_iff.mp hu).1
      simpa using this
    refine wpAny_pyNext_enum_itemD (Draws.tuple (A := X.A.in1) (I.ok.hd hc) it a ia its.toArray) he ⟨hit, p⟩ ilt ne (by simp [ne, ea]) fun y h' tk hy ho st' hT hsz hk => ?_
    obtain rfl : y = u := by
      have hy' : its[i]? = some y := by simpa using hy
      rw [hu] at hy'
      exact (Option.some.inj hy').symm
    refine ⟨_, rfl, wpAny_letOwnedTupleGo_enum (s := { s with heap := h', toks := tk + 1 }) ho fun h2 he2 sb => ?_⟩
    have same : ∀ b, b ≠ e → h2.get? b = h'.get? b := fun b hb => sb.2 b hb
    have T2 : h2.get? s.heap.objs.size = some { cls := .type "tuple", data := .seq #[.int i tk, y] } := (same _ (Nat.ne_of_gt le)).trans hT
    have ok : ObjOk X.prog X.w (upd H s.heap.objs.size (.tup [.int (i : Nat), x])) h2 s.heap.objs.size (.tup [.int (i : Nat), x]) :=
      ⟨by show 2 ≤ sizeLine; decide, [.int i tk, y], .cons ⟨_, rfl⟩ (.cons ru .nil), ⟨_, T2, rfl, _, rfl⟩⟩
    have J : Inv X pins σ (upd H s.heap.objs.size (.tup [.int (i : Nat), x])) { s with heap := h2, toks := tk + 1 } :=
      I.turnedNew (ch := [e, it]) (fun b ob hb q => (same b (fun z => hb (by simp [z]))).trans (hk b ob (fun z => hb (by simp [z])) (fun z => hb (by simp [z])) q)) hf (Nat.le_refl _) ok
    refine ⟨.ref s.heap.objs.size, _, J, rfl, ⟨_, x, rfl, I.hok.fresh (Nat.le_refl _), rfl, fun ys hy => by rw [I.tuple_inj hy hq]; exact hx⟩, ⟨⟨y, ?_⟩, st'.1.at fun o q => (same it (Ne.symm ne)).trans q, ne⟩, fun b hb => ?_⟩
    · rw [show ((i + 1 : Nat) : Int) = (i : Int) + 1 by omega]
      exact he2
    · have lb : b < s.heap.objs.size := by rcases two hb with z | z <;> rw [z] <;> assumption
      rw [upd_ne (Nat.ne_of_lt lb)]
      exact (hf b hb).1
  · intro X hP hw hK hc i pins s σ H E I hf st hg
    subst hP hw hK
    obtain ⟨⟨old, he⟩, hit, ne⟩ := st
    obtain ⟨xs, hq, hx⟩ := hg
    obtain ⟨its, rv, p, _⟩ := I.tuple hq
    obtain ⟨f0, f1, f2, f3, f4, f5⟩ := hf it (by simp)
    have ll := rv.length
    have ia : a ≠ it := fun z => by
      obtain ⟨o, ho, hcl, _⟩ := p
      obtain ⟨o2, ho2, hcl2, _⟩ := hit
      rw [z, ho2] at ho
      cases ho
      rw [hcl2] at hcl
      exact absurd (Value.type.inj hcl) (by decide)
    exact enum_endT (I.ok.hd hc) he hit p ia (by simp; omega) fun h' eb => ⟨rfl, I.turned (t' := s.toks) (fun b o hb q => eb b o hb q) f0 f1 f3 f4 f5⟩
  · exact fun A i s Q E st h => let ⟨⟨_, he⟩, _⟩ := st; wpAny_pyIter_enum he h
where
  enum_endT {prog : Program} {w : World} {A : Around} {E : Value → Shared → Prop} {s : Shared} {e it t : Addr} {i : Nat} {items : Array Value} {old : Value} {Q : Option Value → Shared → Prop} (hh : A.handled = none) (he : IsEnum s.heap e it i old)
      (hit : s.heap.IsTupleIter it t i) (hT : s.heap.IsTuple t items) (ne : t ≠ it) (hx : items.size ≤ i) (hQ : ∀ h', Heap.ExtBut it s.heap h' → Q none { s with heap := h' }) : wpAny (model prog w) A (pyNext (.ref e)) Q E s := by
    have ty : s.TypeIs (.ref e) "enumerate" := ⟨_, he, rfl⟩
    unfold pyNext
    refine wpAny_bind (wpAny_attempt (wpAny_callSpecial?_slot (name := Str.ofString "__next__") ty F.slot_enumerate_next (wpAny_call_entry F.slot_enumerate_next ty F.entry_enumerate_next ?_ (F.args_enumerate_next_1 _))))
    show wpAny _ _ (field (.ref e) 2 >>= _) _ _ _
    refine wpAny_bind (wpAny_field he rfl (x := .ref it) rfl (wpAny_bind (wpAny_nextOf_tuple_end hh hit hT (Array.getElem?_eq_none hx) fun h' x eb ⟨o, ho, hc⟩ => ?_)))
    exact wpAny_bind (wpAny_isInstance (T := "StopIteration") (b := true) ⟨o, ho, hc⟩ isSubtype_stop (wpAny_pure (hQ _ eb)))
def iEnumQ (K : PySem.W.Frag) (ta : TA) : TI := fun σ H R => ta σ H fun vs H1 => ∃ a, vs = [.ref a] ∧ (((∃ xs, SqL K H1 a xs) ∧ R (Ite K a) H1) ∨ ((∃ xs, SqT K H1 a xs) ∧ R (Iten K a) H1))
theorem pi_enumQ {X : Cx} {e : Expr} {ta : TA} {p pos tpos : Pos} {elts : List Expr} {kk : Nat} (hg : Gl X "enumerate") (hm : X.mg "enumerate" = none) (ha : PA X [e] ta) (hs : starEach [e] X.env = [(false, eval e X.env)] := by rfl) :
    PI X (.Tuple elts kk tpos) (.Call (.Name "enumerate" p) [e] [] pos) (iEnumQ X.K ta) := by
  refine ⟨fun pins s σ H R I h => ?_⟩
  refine Call_ (ld_blt I hg hm boot_enumerate (PyProof.Rows.callWith_type1 (thn (ha.run pos pins s σ H _ I h) fun us s1 ⟨vs, H1, I1, r1, q1⟩ => ?_) hs rfl))
  obtain ⟨a, rfl, q1⟩ := q1
  have fp : ∀ b ∈ [s1.heap.objs.size + 1, s1.heap.objs.size], s1.heap.objs.size ≤ b := fun b hb => by
    have e' : b = s1.heap.objs.size + 1 ∨ b = s1.heap.objs.size := by simpa using hb
    rcases e' with z | z <;> rw [z]
    · exact Nat.le_succ _
    · exact Nat.le_refl _
  cases r1 with
  | cons r rr =>
    cases rr
    cases r
    rcases q1 with ⟨⟨xs, hq⟩, q⟩ | ⟨⟨xs, hq⟩, q⟩
    · obtain ⟨its, rv, p', _⟩ := I1.list hq
      refine call_enumerate_list p'.isList fun h' he hit _ hk => wpAny_pyIter_enum he ?_
      exact ⟨s1.heap.objs.size + 1, [s1.heap.objs.size + 1, s1.heap.objs.size], _, _, H1, rfl, I1.kept (t' := s1.toks) hk, turn_enum a (s1.heap.objs.size + 1) s1.heap.objs.size, ⟨⟨.none, he⟩, hit, Nat.succ_ne_self _⟩, fun b hb => I1.fpOk (fp b hb) (I1.hok.fresh (fp b hb)), q⟩
    · obtain ⟨its, rv, p', _⟩ := I1.tuple hq
      refine RT.call_enum_tup (show s1.heap.IsTuple a its.toArray from p') fun h' he hit hk => wpAny_pyIter_enum he ?_
      exact ⟨s1.heap.objs.size + 1, [s1.heap.objs.size + 1, s1.heap.objs.size], _, _, H1, rfl, I1.kept (t' := s1.toks) hk, turn_enumT a (s1.heap.objs.size + 1) s1.heap.objs.size, ⟨⟨.none, he⟩, hit, Nat.succ_ne_self _⟩, fun b hb => I1.fpOk (fp b hb) (I1.hok.fresh (fp b hb)), q⟩
theorem walk_enumT {K : PySem.W.Frag} {a : Addr} {xs : List V} : Walk (Iten K a) xs.length (fun H => SqT K H a xs) (YPair (fun i => some (.int (i : Nat))) (fun i => xs[i]?)) := by
  refine ⟨fun i _ hi q => ⟨xs, xs[i], q, by simp [hi]⟩, fun _ q => ⟨xs, q, Nat.le_refl _⟩, fun i H v H' _ q y => ?_⟩
  obtain ⟨T, x, h1, h2, h3, h4⟩ := y
  exact ⟨T, .int (i : Nat), x, h1, h2, h3, rfl, h4 xs q⟩
end L2
namespace L2
open PySem PySem.Spec PyProof.Rows
/-- a method of a list and such, within a comprehension: the reading is told without the block's own context -/
theorem pe_bmK {X : Cx} {K : PySem.W.Frag} {o e : Expr} {es : List Expr} {to : TE} {t : TA} {name : Str} {apos cpos : Pos} {T id : String} {r : V → List V → Hp → VK → Prop} (pa : PlainAttrs T) (slot : Slot T name id) (hty : typeOf (.builtin id) = pure (.type "method_descriptor"))
    (hm : MtR X id r) (ho : PE X o to) (ha : PA X (e :: es) t) (hK : X.K = K := by rfl) (hbase : attributeBase o name X.env (eval o X.env) = eval o X.env := by rfl)
    (hfew : ((backTo cpos (starEach (e :: es) X.env)).all (fun x => !x.1) && (backToKw cpos (keywordEach [] X.env)).all (fun x => x.1.isSome)
      && decide ((e :: es).length + ([] : List Keyword).length + (if ([] : List Keyword).isEmpty then 0 else 1) < 30)) = true := by rfl)
    (hline : (apos.endLine == cpos.line) = true := by rfl) (hs : starEach (e :: es) X.env = (false, eval e X.env) :: starEach es X.env := by rfl) (hplain : (backTo cpos (starEach es X.env)).any (·.1) = false := by rfl) :
    PE X (.Call (.Attribute o name apos) (e :: es) [] cpos) (tBM K T r to t) := by
  subst hK
  exact pe_bm pa slot hty hm ho ha hbase hfew hline hs hplain
end L2
namespace L2
open PySem PySem.Spec PyProof.Rows
theorem for_enumQ {K : PySem.W.Frag} {a : Addr} {xs : List V} {g : TG} {tb : TS} {D : Ends} {σ : St} {H0 H : Hp} (hq : SqL K H0 a xs ∨ SqT K H0 a xs) (Pv : Nat → St → Hp → Prop) (h0 : Pv 0 σ H) (hl : ∀ i σ' H', i ≤ xs.length → Pv i σ' H' → ∀ ys, (SqL K H0 a ys → SqL K H' a ys) ∧ (SqT K H0 a ys → SqT K H' a ys))
    (hs : ∀ i x t σ H, xs[i]? = some x → Pv i σ H → H t = none → g (.ref t) σ (upd H t (.tup [.int (i : Nat), x])) fun σ2 H2 => tb { D with nx := Pv (i + 1), ct := Pv (i + 1), bk := D.nx } σ2 H2) (hd : ∀ σ H, Pv xs.length σ H → D.nx σ H) :
    ∃ a', [V.ref a] = [V.ref a'] ∧ (((∃ xs, SqL K H a' xs) ∧ ∃ W : Nat → Nat → St → Hp → Prop, (∃ m, W 0 m σ H) ∧ ∀ i m σ H, W i m σ H →
      ((Ite K a').stop i H ∧ D.nx σ H) ∨ ((Ite K a').go i H ∧ ∃ N : St → Hp → Prop, (∀ σ' H', N σ' H' → ∃ m', m' < m ∧ W (i + 1) m' σ' H') ∧ ∀ x H', (Ite K a').yld i H x H' → g x σ H' fun σ2 H2 => tb { D with nx := N, ct := N, bk := D.nx } σ2 H2)) ∨
      ((∃ xs, SqT K H a' xs) ∧ ∃ W : Nat → Nat → St → Hp → Prop, (∃ m, W 0 m σ H) ∧ ∀ i m σ H, W i m σ H →
      ((Iten K a').stop i H ∧ D.nx σ H) ∨ ((Iten K a').go i H ∧ ∃ N : St → Hp → Prop, (∀ σ' H', N σ' H' → ∃ m', m' < m ∧ W (i + 1) m' σ' H') ∧ ∀ x H', (Iten K a').yld i H x H' → g x σ H' fun σ2 H2 => tb { D with nx := N, ct := N, bk := D.nx } σ2 H2))) := by
  have turn : ∀ i x σ H H', i < xs.length → Pv i σ H → YPair (fun i => some (.int (i : Nat))) (fun i => xs[i]?) i H x H' → g x σ H' fun σ2 H2 => tb { D with nx := Pv (i + 1), ct := Pv (i + 1), bk := D.nx } σ2 H2 := by
    rintro i x σ H H' hi p ⟨t, u, v, rfl, nt, rfl, hu, hv⟩
    cases hu
    exact hs i v t σ H hv p nt
  rcases hq with hq | hq
  · exact ⟨a, rfl, .inl ⟨⟨_, (hl 0 σ H (Nat.zero_le _) h0 xs).1 hq⟩, for_it (walk_enum (K := K) (a := a) (xs := xs)) Pv h0 (fun i σ H hi p => (hl i σ H hi p xs).1 hq) turn hd⟩⟩
  · exact ⟨a, rfl, .inr ⟨⟨_, (hl 0 σ H (Nat.zero_le _) h0 xs).2 hq⟩, for_it (walk_enumT (K := K) (a := a) (xs := xs)) Pv h0 (fun i σ H hi p => (hl i σ H hi p xs).2 hq) turn hd⟩⟩
end L2

/-! General lemmas for the readings of law defs: pairs, rows, ifs that join again, data. -/
namespace KP
open PySem PySem.Spec PyProof.Rows L2 KH KD
theorem u65 {k : Nat} {A : Around} (h : Room k A) : A.units + 65 < cLine := by
  have := h.un
  omega
abbrev IL (L : List Int) : List V := L.map V.int
theorem Sq.of {K : PySem.W.Frag} {H : Hp} {a : Addr} {xs : List V} (h : H a = some (.lst xs)) : Sq K H a xs := .inl (SqL.of h)
theorem IL_snoc (l : List Int) (x : Int) : IL (l ++ [x]) = IL l ++ [V.int x] := by
  unfold IL
  rw [List.map_append]
  rfl
theorem map_take_succ {α β : Type} (f : α → β) {l : List α} {i : Nat} {x : α} (h : l[i]? = some x) : (l.take (i + 1)).map f = (l.take i).map f ++ [f x] := by
  rw [take_more h, List.map_append]
  rfl
theorem ixq {K : PySem.W.Frag} {H : Hp} {a : Addr} {xs : List V} {i : Int} {v : V} {Q : VK} (h : Sq K H a xs) (e : atI xs i = some v) (q : Q v H) : rIx K (.ref a) (.int i) H Q := by
  rcases h with h | h
  · exact .inl ⟨a, xs, i, v, rfl, rfl, h, e, q⟩
  · exact .inr (.inl ⟨a, xs, i, v, rfl, rfl, h, e, q⟩)
theorem ixl {K : PySem.W.Frag} {H : Hp} {a : Addr} {xs : List V} {i : Int} {v : V} {Q : VK} (h : SqL K H a xs) (e : atI xs i = some v) (q : Q v H) : rIxL K (.ref a) (.int i) H Q := ⟨a, xs, i, v, rfl, rfl, h, e, q⟩
theorem lc_seq {K : PySem.W.Frag} {a : Addr} {xs : List V} {g : TG} {tt : TT} {te : TE} {vs : List Nat} {σ : L2.St} {H0 H : Hp} {Qd : Addr → Hp → Prop} (hq : Sq K H0 a xs) (s0 : Same H0 H) (Pv : Addr → Nat → Hp → Prop) (h0 : ∀ D, H D = none → Pv D 0 (upd H D (.lst []))) (hl : ∀ D i H', H D = none → i ≤ xs.length → Pv D i H' → Same H0 H')
    (hs : ∀ D i x H', H D = none → xs[i]? = some x → Pv D i H' → g x (wipe σ vs) H' fun σ2 H2 => wipe σ2 vs = wipe σ vs ∧ tt σ2 H2 fun b H3 => if b = true then te σ2 H3 fun y H4 => ∃ acc, H4 D = some (.lst acc) ∧ acc.length < sizeLine ∧ Pv D (i + 1) (upd H4 D (.lst (acc ++ [y]))) else Pv D (i + 1) H3)
    (hd : ∀ D H', H D = none → Pv D xs.length H' → Qd D H') :
    ∃ a', V.ref a = V.ref a' ∧ (((∃ xs, SqL K H a' xs) ∧ ∀ D, H D = none → ∃ W : Nat → Nat → Hp → Prop, (∃ m, W 0 m (upd H D (.lst []))) ∧ ∀ i m H, W i m H →
      ((Itl K a').stop i H ∧ Qd D H) ∨ ((Itl K a').go i H ∧ ∃ Nx : Hp → Prop, (∀ H', Nx H' → ∃ m', m' < m ∧ W (i + 1) m' H') ∧ ∀ x H', (Itl K a').yld i H x H' → g x (wipe σ vs) H' fun σ2 H2 => wipe σ2 vs = wipe σ vs ∧ tt σ2 H2 fun b H3 =>
        if b = true then te σ2 H3 fun y H4 => ∃ acc, H4 D = some (.lst acc) ∧ acc.length < sizeLine ∧ Nx (upd H4 D (.lst (acc ++ [y]))) else Nx H3)) ∨
      ((∃ xs, SqT K H a' xs) ∧ ∀ D, H D = none → ∃ W : Nat → Nat → Hp → Prop, (∃ m, W 0 m (upd H D (.lst []))) ∧ ∀ i m H, W i m H →
      ((Itt K a').stop i H ∧ Qd D H) ∨ ((Itt K a').go i H ∧ ∃ Nx : Hp → Prop, (∀ H', Nx H' → ∃ m', m' < m ∧ W (i + 1) m' H') ∧ ∀ x H', (Itt K a').yld i H x H' → g x (wipe σ vs) H' fun σ2 H2 => wipe σ2 vs = wipe σ vs ∧ tt σ2 H2 fun b H3 =>
        if b = true then te σ2 H3 fun y H4 => ∃ acc, H4 D = some (.lst acc) ∧ acc.length < sizeLine ∧ Nx (upd H4 D (.lst (acc ++ [y]))) else Nx H3))) := by
  rcases hq with hq | hq
  · exact ⟨a, rfl, .inl ⟨⟨_, s0.seq hq⟩, fun D nD => lc_list (K := K) (a := a) (xs := xs) (Pv D) (h0 D nD) (fun i H' hi p => (hl D i H' nD hi p).seq hq) (fun i x H' hx p => hs D i x H' nD hx p) (fun H' p => hd D H' nD p)⟩⟩
  · exact ⟨a, rfl, .inr ⟨⟨_, s0.seqT hq⟩, fun D nD => lc_tup (K := K) (a := a) (xs := xs) (Pv D) (h0 D nD) (fun i H' hi p => (hl D i H' nD hi p).seqT hq) (fun i x H' hx p => hs D i x H' nD hx p) (fun H' p => hd D H' nD p)⟩⟩
theorem cut_ints (ns : List Int) (lo hi : Option Int) : ∃ ms : List Int, cutV (ns.map V.int) lo hi = ms.map V.int := by
  unfold cutV
  rw [← List.map_drop, ← List.map_take]
  exact ⟨_, rfl⟩
theorem fmod_nat (x : Int) {z : Nat} (hz : 0 < z) : ∃ d : Nat, x.fmod (z : Int) = (d : Int) ∧ d < z := by
  have h1 : 0 ≤ x.fmod (z : Int) := Int.fmod_nonneg_of_pos x (by omega)
  have h2 : x.fmod (z : Int) < z := Int.fmod_lt_of_pos x (by omega)
  exact ⟨(x.fmod (z : Int)).toNat, by omega, by omega⟩
/-- below the sizes -/
def Drawn (ds zs : List Nat) : Prop := Paired (fun d z => d < z) ds zs
theorem drawn_snoc {ds zs : List Nat} {i d z : Nat} (h : Drawn ds (zs.take i)) (hz : zs[i]? = some z) (hd : d < z) : Drawn (ds ++ [d]) (zs.take (i + 1)) := by
  rw [take_more hz]
  exact P_append h (.cons hd .nil)
abbrev P2 := Int × Int
def PI (K : PySem.W.Frag) (H : Hp) (vs : List V) (qs : List P2) : Prop := Paired (fun v q => ∃ t, v = V.ref t ∧ SqT K H t [.int q.1, .int q.2]) vs qs
theorem PI.same {K : PySem.W.Frag} {H H' : Hp} {vs : List V} {qs : List P2} (h : PI K H vs qs) (s : Same H H') : PI K H' vs qs := P_mono (fun _ _ ⟨t, e, q⟩ => ⟨t, e, s.seqT q⟩) h
def upP (ps : K02.PL) : List P2 := ps.map fun q => ((q.1 : Int), (q.2 : Int))
theorem upP_get {ps : K02.PL} {k : Nat} {q : P2} (h : (upP ps)[k]? = some q) : ∃ a b, ps[k]? = some (a, b) ∧ q = ((a : Int), (b : Int)) := by
  unfold upP at h
  obtain ⟨⟨a, b⟩, h1, h2⟩ := getn_inv h
  exact ⟨a, b, h1, h2⟩
theorem upP_len (ps : K02.PL) : (upP ps).length = ps.length := by unfold upP; rw [List.length_map]
theorem PI.len {K : PySem.W.Frag} {H : Hp} {vs : List V} {qs : List P2} (h : PI K H vs qs) : vs.length = qs.length := P_len h
def castL (l : List Nat) : List Int := l.map fun n : Nat => (n : Int)
theorem castL_V (l : List Nat) : (castL l).map V.int = l.map nV := by
  unfold castL
  rw [List.map_map]
  rfl
/-- all but two things stand -/
def StN0 (H H' : Hp) (a b : Addr) : Prop := ∀ c o, H c = some o → c ≠ a → c ≠ b → H' c = some o
theorem StN0.refl (H : Hp) (a b : Addr) : StN0 H H a b := fun _ _ e _ _ => e
theorem StN0.to {H H1 H2 : Hp} {a b : Addr} (h : StN0 H H1 a b) (s : Same H1 H2) : StN0 H H2 a b := fun c o e x y => s c o (h c o e x y)
theorem StN0.upA {H H' : Hp} {a b : Addr} {o : HO} (h : StN0 H H' a b) : StN0 H (upd H' a o) a b := fun c x e n m => by rw [upd_ne n]; exact h c x e n m
theorem StN0.upB {H H' : Hp} {a b : Addr} {o : HO} (h : StN0 H H' a b) : StN0 H (upd H' b o) a b := fun c x e n m => by rw [upd_ne m]; exact h c x e n m
theorem in_n (k : Nat) : ∀ gs : List Nat, inV (nV k) (gs.map nV) = gs.contains k
  | [] => rfl
  | x :: gs => by
    have ih := in_n k gs
    unfold inV at ih ⊢
    rw [List.map_cons, List.any_cons, ih, List.contains_cons]
    congr 1
    show ((x : Int) == (k : Int)) = (k == x)
    rw [Bool.eq_iff_iff]
    simp only [beq_iff_eq]
    omega
theorem flat_n (gs : List Nat) : (gs.map nV).all flatV = true := List.all_eq_true.mpr fun x hx => by
  obtain ⟨_, _, rfl⟩ := List.mem_map.mp hx
  rfl
/-- an if whose ways join again, the slots as they were -/
theorem ifLs {t : TT} {body rest : TS} {D : Ends} {σ : L2.St} {H : Hp} (Pst : Hp → Prop) (h : ∀ Qb : Bool → Hp → Prop, (∀ H', Pst H' → Qb false H') → (∀ H', (∀ D' : Ends, (∀ H'', Pst H'' → D'.nx σ H'') → body D' σ H') → Qb true H') → t σ H Qb) (q : ∀ H', Pst H' → rest D σ H') : tSeq (tIfS t body tNext) rest D σ H := by
  refine h _ (fun H' p => ?_) (fun H' hb => ?_)
  · rw [if_neg Bool.false_ne_true]
    exact q H' p
  · rw [if_pos rfl]
    exact hb _ q
theorem ifLs1 {t : TT} {body : TS} {D : Ends} {σ : L2.St} {H : Hp} (Pst : Hp → Prop) (h : ∀ Qb : Bool → Hp → Prop, (∀ H', Pst H' → Qb false H') → (∀ H', (∀ D' : Ends, (∀ H'', Pst H'' → D'.nx σ H'') → body D' σ H') → Qb true H') → t σ H Qb) (q : ∀ H', Pst H' → D.nx σ H') : tIfS t body tNext D σ H := by
  refine h _ (fun H' p => ?_) (fun H' hb => ?_)
  · rw [if_neg Bool.false_ne_true]
    exact q H' p
  · rw [if_pos rfl]
    exact hb _ q
theorem listLt_ints : ∀ a b : List Nat, PySem.W.listLt (castL a) (castL b) = K02.lexLt a b
  | [], [] => rfl
  | [], _ :: _ => rfl
  | _ :: _, [] => rfl
  | x :: xs, y :: ys => by
    show (if (x : Int) = (y : Int) then PySem.W.listLt (castL xs) (castL ys) else decide ((x : Int) < (y : Int))) = if x = y then K02.lexLt xs ys else decide (x < y)
    by_cases e : x = y
    · rw [if_pos e, if_pos (by rw [e]), listLt_ints xs ys]
    · rw [if_neg e, if_neg (by omega)]
      exact decide_eq_decide.mpr (by omega)
theorem ints_inj {a b : List Nat} (h : castL a = castL b) : a = b := by
  have h1 : PySem.W.listLt (castL a) (castL b) = false := by rw [h, listLt_ints]; exact K02.lex_irr b
  have h2 : PySem.W.listLt (castL b) (castL a) = false := by rw [h, listLt_ints]; exact K02.lex_irr b
  rw [listLt_ints] at h1 h2
  exact K02.lex_anti h1 h2
theorem min_ints (x : List Nat) : ∀ xs : List (List Nat), ∃ y, PySem.W.minOf (castL x) (xs.map castL) = castL y ∧ y ∈ x :: xs ∧ ∀ z ∈ x :: xs, K02.lexLt z y = false
  | [] => ⟨x, rfl, List.mem_singleton.mpr rfl, fun z hz => by rw [List.mem_singleton.mp hz]; exact K02.lex_irr x⟩
  | u :: us => by
    show ∃ y, PySem.W.minOf (if PySem.W.listLt (castL u) (castL x) = true then castL u else castL x) (us.map castL) = castL y ∧ _
    rw [listLt_ints]
    cases h : K02.lexLt u x with
    | true =>
      rw [if_pos rfl]
      obtain ⟨y, h1, h2, h3⟩ := min_ints u us
      refine ⟨y, h1, List.mem_cons_of_mem _ h2, fun z hz => ?_⟩
      rcases List.mem_cons.mp hz with e | e
      · rw [e]
        exact K02.lex_le_trans (h3 u List.mem_cons_self) (K02.lex_asym h)
      · exact h3 z e
    | false =>
      rw [if_neg Bool.false_ne_true]
      obtain ⟨y, h1, h2, h3⟩ := min_ints x us
      refine ⟨y, h1, ?_, fun z hz => ?_⟩
      · rcases List.mem_cons.mp h2 with e | e
        · rw [e]
          exact List.mem_cons_self
        · exact List.mem_cons_of_mem _ (List.mem_cons_of_mem _ e)
      · rcases List.mem_cons.mp hz with e | e
        · rw [e]
          exact h3 x List.mem_cons_self
        · rcases List.mem_cons.mp e with e | e
          · rw [e]
            exact K02.lex_le_trans (h3 x List.mem_cons_self) h
          · exact h3 z (List.mem_cons_of_mem _ e)
theorem dpAll_nV {K : PySem.W.Frag} {H : Hp} : ∀ l : List Nat, DpAll K H (l.map nV) ((castL l).map PySem.W.Datum.toD)
  | [] => .nil
  | x :: r => .cons (.int (x : Int)) (dpAll_nV r)
theorem dp_list {K : PySem.W.Frag} {H : Hp} {p : Addr} {l : List Nat} (h : SqL K H p (l.map nV)) : Dp K H (.ref p) (PySem.W.Datum.toD (castL l)) := .lst h (dpAll_nV l)
theorem getD_at {v : List Nat} {i : Nat} (h : i < v.length) : v[i]? = some (v.getD i 0) := by
  rw [List.getD_eq_getElem?_getD, List.getElem?_eq_getElem h]
  rfl
theorem vint_eq {a b : Int} : (V.int a = V.int b) ↔ a = b := ⟨V.int.inj, fun h => by rw [h]⟩
theorem eqN {α : Type} {a b : Nat} (h : a = b) : decide (nV a = nV b) = true := decide_eq_true (by rw [h])
theorem neN {α : Type} {a b : Nat} (h : a ≠ b) : decide (nV a = nV b) = false := decide_eq_false fun z => h (by have := V.int.inj z; omega)
theorem PI.snoc {K : PySem.W.Frag} {H : Hp} {vs : List V} {ps : List P2} {t : Addr} {a b : Int} (h : PI K H vs ps) (ht : SqT K H t [.int a, .int b]) : PI K H (vs ++ [V.ref t]) (ps ++ [(a, b)]) := P_append h (.cons ⟨t, rfl, ht⟩ .nil)
theorem PI.mutL {K : PySem.W.Frag} {H : Hp} {o : Addr} {vs us : List V} {ps : List P2} {x : HO} (h : PI K H vs ps) (e : H o = some (.lst us)) : PI K (upd H o x) vs ps := P_mono (fun _ _ ⟨t, et, q⟩ => ⟨t, et, sqT_mutL q e⟩) h
theorem upP_snoc (ps : K02.PL) (a b : Nat) : upP (ps ++ [(a, b)]) = upP ps ++ [((a : Int), (b : Int))] := by unfold upP; rw [List.map_append]; rfl
theorem rgV_nat (n : Nat) : rgV 0 (n : Int) = (List.range n).map nV := by
  unfold rgV
  rw [show ((n : Int) - 0).toNat = n by omega]
  refine List.map_congr_left fun i _ => ?_
  show V.int (0 + (i : Int)) = V.int (i : Int)
  rw [Int.zero_add]
theorem erase_map {α β : Type} (f : α → β) : ∀ (l : List α) (i : Nat), (l.map f).eraseIdx i = (l.eraseIdx i).map f
  | [], _ => rfl
  | _ :: _, 0 => rfl
  | x :: l, i + 1 => by
    show f x :: (l.map f).eraseIdx i = f x :: (l.eraseIdx i).map f
    rw [erase_map f l i]
theorem seq_nat {i n : Nat} (h : i < n) : PySem.seqIndex? (i : Int) n = some i := by
  unfold PySem.seqIndex?
  rw [if_neg (show ¬ ((i : Int) < 0) by omega)]
  dsimp only
  rw [if_pos (by simp; omega)]
  rfl
def dP (q : P2) : PyData := .tuple [.int q.1, .int q.2]
theorem eqv_dP (a b : P2) : PyData.eqv (dP a) (dP b) = decide (a = b) := by
  have h : PyData.eqv (dP a) (dP b) = ((a.1 == b.1) && ((a.2 == b.2) && true)) := by
    unfold dP
    simp [PyData.eqv, PyData.eqvAll]
  rw [h, Bool.eq_iff_iff]
  simp only [Bool.and_true, Bool.and_eq_true, beq_iff_eq, decide_eq_true_eq]
  obtain ⟨a1, a2⟩ := a
  obtain ⟨b1, b2⟩ := b
  simp only [Prod.mk.injEq]
theorem any_dP (q : P2) : ∀ l : List P2, ((l.map dP).any fun z => PyData.eqv z (dP q)) = decide (q ∈ l)
  | [] => rfl
  | x :: l => by
    rw [List.map_cons, List.any_cons, any_dP q l, eqv_dP, Bool.eq_iff_iff]
    simp only [Bool.or_eq_true, decide_eq_true_eq, List.mem_cons]
    constructor
    · rintro (h | h)
      · exact .inl h.symm
      · exact .inr h
    · rintro (h | h)
      · exact .inl h.symm
      · exact .inr h
theorem shaped_dP (q : P2) : SeqAt.shaped (dP q) = true := by
  unfold SeqAt.shaped dP
  simp [PyData.canLay0, PyData.canLayAll0, PyData.depth, PyData.depthAll]
theorem dP_depth : ∀ l : List P2, PyData.depthAll (l.map dP) ≤ 1
  | [] => by simp [PyData.depthAll]
  | x :: l => by
    have ih := dP_depth l
    rw [List.map_cons]
    simp only [PyData.depthAll, dP, PyData.depth]
    exact Nat.max_le.mpr ⟨by simp [PyData.depthAll, PyData.depth], ih⟩
theorem dP_lay : ∀ l : List P2, PyData.canLayAll0 (l.map dP) = true
  | [] => by simp [PyData.canLayAll0]
  | x :: l => by
    have ih := dP_lay l
    rw [List.map_cons]
    simp only [PyData.canLayAll0, PyData.canLay0, dP, ih, Bool.and_self]
theorem shaped_l (l : List P2) : SeqAt.shaped (.list (l.map dP)) = true := by
  unfold SeqAt.shaped
  simp only [PyData.canLay0, dP_lay, Bool.true_and, PyData.depth, decide_eq_true_eq]
  have := dP_depth l
  exact decide_eq_true (by omega)
theorem PI.dp {K : PySem.W.Frag} {H : Hp} : ∀ {vs : List V} {l : List P2}, PI K H vs l → DpAll K H vs (l.map dP)
  | _, _, .nil => .nil
  | _, _, .cons ⟨t, e, q⟩ r => by
    subst e
    exact .cons (.tup q (.cons (.int _) (.cons (.int _) .nil))) (PI.dp r)
theorem mem_upP {ps : K02.PL} {a b : Nat} : (((a : Int), (b : Int)) : P2) ∈ upP ps ↔ (a, b) ∈ ps := by
  unfold upP
  rw [List.mem_map]
  constructor
  · rintro ⟨⟨x, y⟩, h, e⟩
    have e1 := congrArg Prod.fst e
    have e2 := congrArg Prod.snd e
    dsimp only at e1 e2
    have : x = a := by omega
    have : y = b := by omega
    subst x y
    exact h
  · exact fun h => ⟨(a, b), h, rfl⟩
theorem shapedI (z : Int) : SeqAt.shaped (.int z) = true := by
  unfold SeqAt.shaped
  simp [PyData.canLay0, PyData.depth]
theorem eqvI (z : Int) : PyData.eqv (.int z) (.int z) = true := by simp [PyData.eqv]
def dPs (ts : List P2) : PyData := .list (ts.map dP)
def Mid (z : Int) : Prop := z.natAbs ≤ 10 ^ 16
def MidP (ts : List P2) : Prop := ∀ q ∈ ts, Mid q.1 ∧ Mid q.2
theorem mid_log {z : Int} (h : Mid z) : z.natAbs.log2 < 60 := by
  by_cases e : z.natAbs = 0
  · rw [e]
    decide
  · exact (Nat.log2_lt e).2 (Nat.lt_of_le_of_lt h (by decide))
theorem mid_text {z : Int} (h : Mid z) : (PyData.shown (.int z)).length ≤ 20 := by
  have e := PySem.int_text_length_le10 (a := z) (k := 18) (by decide) (Nat.lt_of_le_of_lt h (by decide))
  show (Str.ofString (toString z)).length ≤ 20
  rw [PySem.ofString_length]
  omega
theorem mid2 (q : P2) (h : Mid q.1 ∧ Mid q.2) : ∀ z ∈ [q.1, q.2], Mid z := fun z hz => by
  simp only [List.mem_cons, List.not_mem_nil, or_false] at hz
  rcases hz with rfl | rfl
  · exact h.1
  · exact h.2
theorem mids_show {l : List Int} (h : ∀ z ∈ l, Mid z) : PyData.showableAll (l.map PyData.int) = true := PyData.showableAll_ints l fun z hz => Nat.lt_trans (mid_log (h z hz)) (by decide)
theorem ps_show : ∀ {ts : List P2}, MidP ts → PyData.showableAll (ts.map dP) = true
  | [], _ => by simp only [List.map_nil, PyData.showableAll]
  | q :: ts, h => by
    simp only [List.map_cons, PyData.showableAll, Bool.and_eq_true]
    refine ⟨?_, ps_show fun y hy => h y (List.mem_cons_of_mem _ hy)⟩
    have := mids_show (mid2 q (h q List.mem_cons_self))
    simp only [dP, PyData.showable]
    exact this
theorem ps_nodict : ∀ ts : List P2, PyData.hasDictAll (ts.map dP) = false
  | [] => by simp only [List.map_nil, PyData.hasDictAll]
  | q :: ts => by
    simp only [List.map_cons, PyData.hasDictAll, dP, PyData.hasDict, Bool.false_or, Bool.or_self]
    exact ps_nodict ts
theorem ps_leaves : ∀ {ts : List P2}, MidP ts → PyData.leavesShortAll 20 (ts.map dP) = true
  | [], _ => by simp only [List.map_nil, PyData.leavesShortAll]
  | q :: ts, h => by
    obtain ⟨h1, h2⟩ := h q List.mem_cons_self
    simp only [List.map_cons, PyData.leavesShortAll, dP, PyData.leavesShort, Bool.and_eq_true, decide_eq_true_eq]
    exact ⟨⟨mid_text h1, mid_text h2, trivial⟩, ps_leaves fun y hy => h y (List.mem_cons_of_mem _ hy)⟩
theorem mid_weight {z : Int} (h : Mid z) : PyData.weight (.int z) ≤ 60 := by
  have := mid_log h
  simp only [PyData.weight]
  split <;> omega
theorem ps_weight : ∀ {ts : List P2}, MidP ts → PyData.weightAll (ts.map dP) ≤ 200 * ts.length
  | [], _ => by simp only [List.map_nil, PyData.weightAll]; exact Nat.zero_le _
  | q :: ts, h => by
    obtain ⟨h1, h2⟩ := h q List.mem_cons_self
    have ih := ps_weight (ts := ts) fun y hy => h y (List.mem_cons_of_mem _ hy)
    have w1 := mid_weight h1
    have w2 := mid_weight h2
    have w : PyData.weight (dP q) ≤ 183 := by
      unfold dP
      rw [show PyData.weight (.tuple [.int q.1, .int q.2]) = PyData.weightAll [.int q.1, .int q.2] by simp only [PyData.weight]]
      rw [show PyData.weightAll [.int q.1, .int q.2] = PyData.weight (.int q.1) + 1 + (PyData.weight (.int q.2) + 1 + 0) by simp only [PyData.weightAll]]
      omega
    simp only [List.map_cons, PyData.weightAll, List.length_cons]
    omega
theorem dPs_shows {ts : List P2} (h : MidP ts) (hl : ts.length ≤ 1000) : Shows (dPs ts) where
  sh := by simp only [dPs, PyData.showable]; exact ps_show h
  nd := by simp only [dPs, PyData.hasDict]; exact ps_nodict ts
  dp := by
    have := dP_depth ts
    simp only [dPs, PyData.depth]
    omega
  sz := by
    have a := PyData.shown_le 20 (by decide) (dPs ts) (by simp only [dPs, PyData.leavesShort]; exact ps_leaves h)
    have b := ps_weight h
    have c : PyData.weight (dPs ts) ≤ 200 * ts.length := by simp only [dPs, PyData.weight]; exact b
    have d : (20 + 2) * PyData.weight (dPs ts) ≤ 22 * (200 * 1000) := Nat.mul_le_mul (by decide) (by omega)
    rw [sizeLine_eq]
    omega
theorem dpPs {K : PySem.W.Frag} {H : Hp} {a : Addr} {us : List V} {ts : List P2} (h : SqL K H a us) (p : PI K H us ts) : Dp K H (.ref a) (dPs ts) := .lst h p.dp
theorem upP_inj : ∀ {ps qs : K02.PL}, upP ps = upP qs → ps = qs
  | [], [], _ => rfl
  | [], _ :: _, h => by cases h
  | _ :: _, [], h => by cases h
  | (a, b) :: ps, (c, d) :: qs, h => by
    have h1 : (((a : Int), (b : Int)) : P2) = ((c : Int), (d : Int)) := (List.cons.inj h).1
    have h2 : upP ps = upP qs := (List.cons.inj h).2
    rw [upP_inj h2]
    have e1 := congrArg Prod.fst h1
    have e2 := congrArg Prod.snd h1
    dsimp only at e1 e2
    have : a = c := by omega
    have : b = d := by omega
    subst a b
    rfl
theorem upP_rev (ps : K02.PL) : (upP ps).reverse = upP ps.reverse := by unfold upP; rw [List.map_reverse]
theorem upP_app (ps qs : K02.PL) : upP ps ++ upP qs = upP (ps ++ qs) := by unfold upP; rw [List.map_append]
theorem PI.rev {K : PySem.W.Frag} {H : Hp} : ∀ {vs : List V} {qs : List P2}, PI K H vs qs → PI K H vs.reverse qs.reverse
  | _, _, .nil => .nil
  | _, _, .cons f r => by
    rw [List.reverse_cons, List.reverse_cons]
    exact P_append (PI.rev r) (.cons f .nil)
theorem set_self {σ : L2.St} {j : Nat} {x : V} (h : σ[j]? = some (some x)) : σ.set j (some x) = σ := by
  apply List.ext_getElem?
  intro k
  rw [List.getElem?_set]
  by_cases ek : j = k
  · subst ek
    rw [if_pos rfl, if_pos (List.getElem?_eq_some_iff.mp h).1, h]
  · rw [if_neg ek]
theorem asgN {te : TE} {i : Nat} {rest : TS} {D : Ends} {σ : L2.St} {H : Hp} (q : te σ H (fun x H1 => ∀ σ' : L2.St, σ.set i (some x) = σ' → rest D σ' H1)) : tSeq (tAsg te (gName i)) rest D σ H := by
  have e : (fun (x : V) (H1 : Hp) => ∀ σ' : L2.St, σ.set i (some x) = σ' → rest D σ' H1) = (fun x H1 => rest D (σ.set i (some x)) H1) := by
    funext x H1
    exact propext ⟨fun h => h _ rfl, fun h σ' e => by rw [← e]; exact h⟩
  rw [e] at q
  exact q
theorem nextS {u : TS} {D : Ends} {σ : L2.St} {H : Hp} (q : u D σ H) : tNext { D with nx := u D } σ H := q
theorem ifsetP {t : TT} {e1 : TE} {i1 : Nat} {rest : TS} {D : Ends} {σ : L2.St} {H : Hp} {w1 : V} {C : Prop} (Pst : V → Hp → Prop) (ht : ∀ Q : Bool → Hp → Prop, (∀ b, (b = true ↔ C) → Q b H) → t σ H Q) (h1 : σ[i1]? = some (some w1)) (h0 : ¬ C → Pst w1 H)
    (ev1 : C → ∀ Q : VK, (∀ v H', Pst v H' → Q v H') → e1 σ H Q) (q : ∀ u1 H', Pst u1 H' → rest D (σ.set i1 (some u1)) H') : tSeq (tIfS t (tAsg e1 (gName i1)) tNext) rest D σ H := by
  refine ht _ fun b hb => ?_
  cases b with
  | true =>
    rw [if_pos rfl]
    exact ev1 (hb.mp rfl) _ (fun v H' p => q v H' p)
  | false =>
    rw [if_neg Bool.false_ne_true]
    have := q w1 H (h0 fun z => Bool.noConfusion (hb.mpr z))
    rw [set_self h1] at this
    exact this
theorem P_drop {α β : Type} {F : α → β → Prop} : ∀ {xs : List α} {ys : List β} (k : Nat), Paired F xs ys → Paired F (xs.drop k) (ys.drop k)
  | _, _, 0, h => h
  | _, _, k + 1, .nil => .nil
  | _, _, k + 1, .cons _ r => P_drop k r
theorem testI {n : Nat} {z : Int} {Q : Bool → Hp → Prop} {H : Hp} (h : ∀ b, (b = true ↔ (n : Int) = z) → Q b H) : Q (decide (nV n = V.int z)) H := h _ ⟨fun e => V.int.inj (of_decide_eq_true e), fun e => decide_eq_true (congrArg V.int e)⟩
theorem P_take {α β : Type} {F : α → β → Prop} : ∀ {xs : List α} {ys : List β} (k : Nat), Paired F xs ys → Paired F (xs.take k) (ys.take k)
  | _, _, 0, _ => .nil
  | _, _, _ + 1, .nil => .nil
  | _, _, k + 1, .cons f r => .cons f (P_take k r)
theorem ifsetQ {t : TT} {e1 : TE} {i1 : Nat} {rest : TS} {D : Ends} {σ : L2.St} {H : Hp} {w1 : V} (Pst : V → Hp → Prop) (ht : ∀ Q : Bool → Hp → Prop, (∀ b, Q b H) → t σ H Q) (h1 : σ[i1]? = some (some w1)) (h0 : Pst w1 H)
    (ev1 : ∀ Q : VK, (∀ v H', Pst v H' → Q v H') → e1 σ H Q) (q : ∀ u1 H', Pst u1 H' → rest D (σ.set i1 (some u1)) H') : tSeq (tIfS t (tAsg e1 (gName i1)) tNext) rest D σ H := by
  refine ht _ fun b => ?_
  cases b with
  | true =>
    rw [if_pos rfl]
    exact ev1 _ (fun v H' p => q v H' p)
  | false =>
    rw [if_neg Bool.false_ne_true]
    have := q w1 H h0
    rw [set_self h1] at this
    exact this
theorem P_mid {T T' : List P2} (h : MidP T) (h' : MidP T') : MidP (T ++ T') := fun q hq => (List.mem_append.mp hq).elim (h q) (h' q)
theorem ifbrk {t : TT} {body rest : TS} {D : Ends} {σ : L2.St} {H : Hp} {C : Prop} (ht : ∀ Qb : Bool → Hp → Prop, (∀ b H', Same H H' → (b = true ↔ C) → Qb b H') → t σ H Qb) (hb : C → ∀ H', Same H H' → body { D with nx := rest D } σ H')
    (q : ¬ C → ∀ H', Same H H' → rest D σ H') : tSeq (tIfS t body tNext) rest D σ H := by
  refine ht _ fun b H' s h => ?_
  cases b with
  | true =>
    rw [if_pos rfl]
    exact hb (h.mp rfl) H' s
  | false =>
    rw [if_neg Bool.false_ne_true]
    exact q (fun z => Bool.noConfusion (h.mpr z)) H' s
theorem ifbrk1 {t : TT} {body : TS} {D : Ends} {σ : L2.St} {H : Hp} {C : Prop} (ht : ∀ Qb : Bool → Hp → Prop, (∀ b H', Same H H' → (b = true ↔ C) → Qb b H') → t σ H Qb) (hb : C → ∀ H', Same H H' → body D σ H')
    (q : ¬ C → ∀ H', Same H H' → D.nx σ H') : tIfS t body tNext D σ H := by
  refine ht _ fun b H' s h => ?_
  cases b with
  | true =>
    rw [if_pos rfl]
    exact hb (h.mp rfl) H' s
  | false =>
    rw [if_neg Bool.false_ne_true]
    exact q (fun z => Bool.noConfusion (h.mpr z)) H' s
theorem ifset1 {t : TT} {e1 : TE} {i1 : Nat} {rest : TS} {D : Ends} {σ : L2.St} {H : Hp} {v1 w1 : V} (ht : ∀ Q : Bool → Hp → Prop, (∀ b, Q b H) → t σ H Q) (h1 : σ[i1]? = some (some w1)) (ev1 : ∀ Q : VK, Q v1 H → e1 σ H Q)
    (q : ∀ u1, u1 = v1 ∨ u1 = w1 → rest D (σ.set i1 (some u1)) H) : tSeq (tIfS t (tAsg e1 (gName i1)) tNext) rest D σ H := by
  refine ht _ fun b => ?_
  cases b with
  | true =>
    rw [if_pos rfl]
    exact ev1 _ (q v1 (.inl rfl))
  | false =>
    rw [if_neg Bool.false_ne_true]
    have := q w1 (.inr rfl)
    rw [set_self h1] at this
    exact this
end KP

/-! Matchings and covers in plain Lean: what is reached from the unmatched is the least lot of the greatest lack. -/
namespace K26
open K02
theorem sub_length : ∀ (l m : List Nat), l.Nodup → l ⊆ m → l.length ≤ m.length
  | [], m, _, _ => Nat.zero_le _
  | x :: l, m, nd, s => by
    obtain ⟨h1, h2⟩ := List.nodup_cons.mp nd
    have hx : x ∈ m := s List.mem_cons_self
    have := sub_length l (m.erase x) h2 fun y hy => (List.mem_erase_of_ne (fun e : y = x => h1 (e ▸ hy))).mpr (s (List.mem_cons_of_mem _ hy))
    rw [List.length_erase_of_mem hx] at this
    have := List.length_pos_of_mem hx
    rw [List.length_cons]
    omega
/-- pairs within the two sides -/
def In2 (n m : Nat) (ps : PL) : Prop := ∀ q ∈ ps, q.1 < n ∧ q.2 < m
/-- rights beside a lot -/
def nb (ps : PL) (A : Nat → Bool) (r : Nat) : Bool := ps.any fun q => A q.1 && q.2 == r
theorem nb_iff {ps : PL} {A : Nat → Bool} {r : Nat} : nb ps A r = true ↔ ∃ l, A l = true ∧ (l, r) ∈ ps := by
  unfold nb
  rw [List.any_eq_true]
  constructor
  · rintro ⟨⟨l, r'⟩, h, e⟩
    simp only [Bool.and_eq_true, beq_iff_eq] at e
    obtain ⟨e1, e2⟩ := e
    subst e2
    exact ⟨l, e1, h⟩
  · rintro ⟨l, h1, h2⟩
    exact ⟨(l, r), h2, by simp [h1]⟩
def lot (n : Nat) (A : Nat → Bool) : List Nat := (List.range n).filter A
theorem mem_lot {n : Nat} {A : Nat → Bool} {l : Nat} : l ∈ lot n A ↔ l < n ∧ A l = true := by
  unfold lot
  rw [List.mem_filter, List.mem_range]
theorem lot_nd (n : Nat) (A : Nat → Bool) : (lot n A).Nodup := List.Nodup.sublist List.filter_sublist List.nodup_range
structure Mat (ps ms : PL) : Prop where
  sub : ∀ q ∈ ms, q ∈ ps
  n1 : (ms.map (·.1)).Nodup
  n2 : (ms.map (·.2)).Nodup
def unm (n : Nat) (ms : PL) : List Nat := (List.range n).filter fun l => !(ms.map (·.1)).contains l
theorem mem_unm {n : Nat} {ms : PL} {l : Nat} : l ∈ unm n ms ↔ l < n ∧ l ∉ ms.map (·.1) := by
  unfold unm
  rw [List.mem_filter, List.mem_range]
  simp
def Clo (ps ms : PL) (A : Nat → Bool) : Prop := ∀ l r, A l = true → (l, r) ∈ ps → ∃ l', (l', r) ∈ ms ∧ A l' = true
/-- what is reached by chains from the unmatched -/
structure Zl (n : Nat) (ps ms : PL) (Z : Nat → Bool) : Prop where
  u : ∀ l ∈ unm n ms, Z l = true
  cl : Clo ps ms Z
  lt : ∀ l, Z l = true → l < n
  least : ∀ S : Nat → Bool, (∀ l ∈ unm n ms, S l = true) → Clo ps ms S → ∀ l, Z l = true → S l = true
/-- the least lot of the greatest lack -/
structure Zed (n m : Nat) (ps : PL) (A : Nat → Bool) : Prop where
  lt : ∀ l, A l = true → l < n
  low : ∀ S : Nat → Bool, (lot n S).length + (lot m (nb ps A)).length ≤ (lot n A).length + (lot m (nb ps S)).length
  least : ∀ S : Nat → Bool, (lot n S).length + (lot m (nb ps A)).length = (lot n A).length + (lot m (nb ps S)).length → ∀ l, A l = true → S l = true
theorem Zed.uniq {n m : Nat} {ps : PL} {A B : Nat → Bool} (h : Zed n m ps A) (g : Zed n m ps B) : A = B := by
  have h1 := h.low B
  have g1 := g.low A
  funext l
  have a := h.least B (by omega) l
  have b := g.least A (by omega) l
  cases ca : A l <;> cases cb : B l
  · rfl
  · rw [b cb] at ca; cases ca
  · rw [a ca] at cb; cases cb
  · rfl
/-- the pairs of a matching that begin in a lot -/
def inn (ms : PL) (S : Nat → Bool) : PL := ms.filter fun q => S q.1
theorem mem_inn {ms : PL} {S : Nat → Bool} {q : Nat × Nat} : q ∈ inn ms S ↔ q ∈ ms ∧ S q.1 = true := by
  unfold inn
  rw [List.mem_filter]
theorem inn_n1 {ps ms : PL} (h : Mat ps ms) (S : Nat → Bool) : ((inn ms S).map (·.1)).Nodup := h.n1.sublist (List.Sublist.map _ List.filter_sublist)
theorem inn_n2 {ps ms : PL} (h : Mat ps ms) (S : Nat → Bool) : ((inn ms S).map (·.2)).Nodup := h.n2.sublist (List.Sublist.map _ List.filter_sublist)
section
variable {n m : Nat} {ps ms : PL}
theorem inn_sub (hw : In2 n m ps) (h : Mat ps ms) (S : Nat → Bool) : (inn ms S).map (·.2) ⊆ lot m (nb ps S) := fun r hr => by
  obtain ⟨q, hq, rfl⟩ := List.mem_map.mp hr
  obtain ⟨h1, h2⟩ := mem_inn.mp hq
  have := h.sub q h1
  exact mem_lot.mpr ⟨(hw q this).2, nb_iff.mpr ⟨q.1, h2, this⟩⟩
theorem lot_split (S : Nat → Bool) : lot n S ⊆ ((unm n ms).filter S) ++ (inn ms S).map (·.1) := fun l hl => by
  obtain ⟨h1, h2⟩ := mem_lot.mp hl
  by_cases c : l ∈ ms.map (·.1)
  · obtain ⟨q, hq, rfl⟩ := List.mem_map.mp c
    exact List.mem_append_right _ (List.mem_map.mpr ⟨q, mem_inn.mpr ⟨hq, h2⟩, rfl⟩)
  · exact List.mem_append_left _ (List.mem_filter.mpr ⟨mem_unm.mpr ⟨h1, c⟩, h2⟩)
theorem lot_le (hw : In2 n m ps) (h : Mat ps ms) (S : Nat → Bool) : (lot n S).length ≤ ((unm n ms).filter S).length + (inn ms S).length ∧ (inn ms S).length ≤ (lot m (nb ps S)).length := by
  have a := sub_length _ _ (lot_nd n S) (lot_split (ms := ms) S)
  have b := sub_length _ _ (inn_n2 h S) (inn_sub hw h S)
  rw [List.length_append, List.length_map] at a
  rw [List.length_map] at b
  exact ⟨a, b⟩
theorem unm_nd : (unm n ms).Nodup := List.Nodup.sublist List.filter_sublist List.nodup_range
theorem Zl.full (hw : In2 n m ps) (h : Mat ps ms) {Z : Nat → Bool} (z : Zl n ps ms Z) : (unm n ms).length + (lot m (nb ps Z)).length ≤ (lot n Z).length := by
  have a : (lot m (nb ps Z)).length ≤ ((inn ms Z).map (·.2)).length := sub_length _ _ (lot_nd m _) fun r hr => by
    obtain ⟨h1, h2⟩ := mem_lot.mp hr
    obtain ⟨l, h3, h4⟩ := nb_iff.mp h2
    obtain ⟨l', h5, h6⟩ := z.cl l r h3 h4
    exact List.mem_map.mpr ⟨(l', r), mem_inn.mpr ⟨h5, h6⟩, rfl⟩
  have b : (unm n ms ++ (inn ms Z).map (·.1)).length ≤ (lot n Z).length := by
    refine sub_length _ _ (List.nodup_append.mpr ⟨unm_nd, inn_n1 h Z, fun x hx y hy e => ?_⟩) fun l hl => ?_
    · obtain ⟨q, hq, rfl⟩ := List.mem_map.mp hy
      exact (mem_unm.mp hx).2 (e ▸ List.mem_map.mpr ⟨q, (mem_inn.mp hq).1, rfl⟩)
    · rcases List.mem_append.mp hl with hl | hl
      · exact mem_lot.mpr ⟨(mem_unm.mp hl).1, z.u l hl⟩
      · obtain ⟨q, hq, rfl⟩ := List.mem_map.mp hl
        obtain ⟨h1, h2⟩ := mem_inn.mp hq
        exact mem_lot.mpr ⟨z.lt _ h2, h2⟩
  rw [List.length_append, List.length_map] at b
  rw [List.length_map] at a
  omega
theorem Zl.zed (hw : In2 n m ps) (h : Mat ps ms) {Z : Nat → Bool} (z : Zl n ps ms Z) : Zed n m ps Z := by
  have full := z.full hw h
  have key : ∀ S : Nat → Bool, (lot n S).length ≤ (unm n ms).length + (lot m (nb ps S)).length := fun S => by
    obtain ⟨a, b⟩ := lot_le hw h S
    have := List.length_filter_le S (unm n ms)
    omega
  have kz := key Z
  refine ⟨z.lt, fun S => ?_, fun S e => ?_⟩
  · have := key S
    omega
  · obtain ⟨a, b⟩ := lot_le hw h S
    have c := List.length_filter_le S (unm n ms)
    refine z.least S (fun l hl => ?_) (fun l r hl hr => ?_)
    · refine Classical.byContradiction fun no => ?_
      have : ((unm n ms).filter S).length < (unm n ms).length := by
        refine Nat.lt_of_le_of_ne c fun e2 => no ?_
        have := List.length_filter_eq_length_iff.mp e2 l hl
        exact this
      omega
    · refine Classical.byContradiction fun no => ?_
      have hrm : r ∈ lot m (nb ps S) := mem_lot.mpr ⟨(hw _ hr).2, nb_iff.mpr ⟨l, hl, hr⟩⟩
      have hrn : r ∉ (inn ms S).map (·.2) := fun z => by
        obtain ⟨q, hq, e3⟩ := List.mem_map.mp z
        obtain ⟨h1, h2⟩ := mem_inn.mp hq
        exact no ⟨q.1, by rw [← e3]; exact h1, h2⟩
      have d : (r :: (inn ms S).map (·.2)).length ≤ (lot m (nb ps S)).length := by
        refine sub_length _ _ (List.nodup_cons.mpr ⟨hrn, inn_n2 h S⟩) fun x hx => ?_
        rcases List.mem_cons.mp hx with e3 | hx
        · rw [e3]
          exact hrm
        · exact inn_sub hw h S hx
      rw [List.length_cons, List.length_map] at d
      omega
/-- how many pairs a matching has -/
theorem Zl.size (hw : In2 n m ps) (h : Mat ps ms) {Z : Nat → Bool} (z : Zl n ps ms Z) : ms.length + (lot n Z).length = n + (lot m (nb ps Z)).length := by
  have full := z.full hw h
  obtain ⟨a, b⟩ := lot_le hw h Z
  have c := List.length_filter_le Z (unm n ms)
  have d : (unm n ms).length + ms.length = n := by
    have e1 : (unm n ms ++ ms.map (·.1)).length ≤ (List.range n).length := sub_length _ _ (List.nodup_append.mpr ⟨unm_nd, h.n1, fun x hx y hy e => (mem_unm.mp hx).2 (e ▸ hy)⟩) fun l hl => by
      rcases List.mem_append.mp hl with hl | hl
      · exact List.mem_range.mpr (mem_unm.mp hl).1
      · obtain ⟨q, hq, rfl⟩ := List.mem_map.mp hl
        exact List.mem_range.mpr (hw q (h.sub q hq)).1
    have e2 : (List.range n).length ≤ (unm n ms ++ ms.map (·.1)).length := sub_length _ _ List.nodup_range fun l hl => by
      by_cases c : l ∈ ms.map (·.1)
      · exact List.mem_append_right _ c
      · exact List.mem_append_left _ (mem_unm.mpr ⟨List.mem_range.mp hl, c⟩)
    rw [List.length_append, List.length_map, List.length_range] at e1 e2
    omega
  omega
end
/-! ### a matching by two lists of partners -/
def at_ (L : List (Option Nat)) (i : Nat) : Option Nat := (L[i]?).join
theorem at_set {L : List (Option Nat)} {i j : Nat} {x : Option Nat} (h : i < L.length) : at_ (L.set i x) j = if i = j then x else at_ L j := by
  unfold at_
  rw [List.getElem?_set]
  by_cases e : i = j
  · rw [if_pos e, if_pos h, if_pos e]
    rfl
  · rw [if_neg e, if_neg e]
theorem at_lt {L : List (Option Nat)} {i x : Nat} (h : at_ L i = some x) : i < L.length := by
  refine Classical.byContradiction fun c => ?_
  unfold at_ at h
  rw [List.getElem?_eq_none (by omega)] at h
  cases h
theorem at_get {L : List (Option Nat)} {i : Nat} (h : i < L.length) : L[i]? = some (at_ L i) := by
  unfold at_
  rw [List.getElem?_eq_getElem h]
  rfl
/-- partners of one another, but for one right -/
structure Mx (ps : PL) (f g : Nat → Option Nat) (x : Option Nat) : Prop where
  adj : ∀ l r, f l = some r → (l, r) ∈ ps
  inv : ∀ l r, some r ≠ x → (f l = some r ↔ g r = some l)
  no : ∀ l, x ≠ none → f l ≠ x
def sw (f : Nat → Option Nat) (i : Nat) (x : Option Nat) : Nat → Option Nat := fun j => if i = j then x else f j
theorem Mx.step {ps : PL} {f g : Nat → Option Nat} {r l : Nat} (h : Mx ps f g (some r)) (e : (l, r) ∈ ps) : Mx ps (sw f l (some r)) (sw g r (some l)) (f l) := by
  have hn := fun l0 => h.no l0 (by simp)
  refine ⟨fun l0 r0 h0 => ?_, fun l0 r0 h0 => ?_, fun l0 hx h0 => ?_⟩
  · unfold sw at h0
    split at h0
    · rename_i c
      cases h0
      rw [← c]
      exact e
    · exact h.adj l0 r0 h0
  · unfold sw
    by_cases c1 : l = l0
    · subst c1
      rw [if_pos rfl]
      by_cases c2 : r = r0
      · subst c2
        rw [if_pos rfl]
        exact ⟨fun _ => rfl, fun _ => rfl⟩
      · rw [if_neg c2]
        refine ⟨fun z => absurd (Option.some.inj z) c2, fun z => ?_⟩
        have := (h.inv l r0 (fun z => c2 (Option.some.inj z).symm)).mpr z
        exact absurd this.symm h0
    · rw [if_neg c1]
      by_cases c2 : r = r0
      · subst c2
        rw [if_pos rfl]
        exact ⟨fun z => absurd z (hn l0), fun z => absurd (Option.some.inj z) c1⟩
      · rw [if_neg c2]
        exact h.inv l0 r0 (fun z => c2 (Option.some.inj z).symm)
  · cases cb : f l with
    | none => exact hx cb
    | some r1 =>
      rw [cb] at h0
      have ner : r1 ≠ r := fun z => hn l (by rw [cb, z])
      unfold sw at h0
      by_cases c1 : l = l0
      · rw [if_pos c1] at h0
        exact ner (Option.some.inj h0).symm
      · rw [if_neg c1] at h0
        have a := (h.inv l0 r1 (fun z => ner (Option.some.inj z))).mp h0
        have b := (h.inv l r1 (fun z => ner (Option.some.inj z))).mp cb
        rw [a] at b
        exact c1 (Option.some.inj b).symm
/-- a way back by what came -/
inductive Ch (came : Nat → Option Nat) (f : Nat → Option Nat) : Option Nat → PL → Prop
  | nil : Ch came f none []
  | cons {r l : Nat} {t : PL} : came r = some l → Ch came f (f l) t → Ch came f (some r) ((l, r) :: t)
theorem Ch.congr {came f f' : Nat → Option Nat} {x : Option Nat} {t : PL} (h : Ch came f x t) (e : ∀ q ∈ t, f' q.1 = f q.1) : Ch came f' x t := by
  induction h with
  | nil => exact .nil
  | @cons r l t h1 _ ih =>
    refine .cons h1 ?_
    rw [e (l, r) List.mem_cons_self]
    exact ih fun q hq => e q (List.mem_cons_of_mem _ hq)
theorem Ch.more {came came' f : Nat → Option Nat} {x : Option Nat} {t : PL} (h : Ch came f x t) (e : ∀ r l, came r = some l → came' r = some l) : Ch came' f x t := by
  induction h with
  | nil => exact .nil
  | cons h1 _ ih => exact .cons (e _ _ h1) ih
/-- the state after an exchange along a way -/
def exL (f : Nat → Option Nat) (t : PL) : Nat → Option Nat := t.foldl (fun f q => sw f q.1 (some q.2)) f
def exR (g : Nat → Option Nat) (t : PL) : Nat → Option Nat := t.foldl (fun g q => sw g q.2 (some q.1)) g
theorem exL_cons (f : Nat → Option Nat) (q : Nat × Nat) (t : PL) : exL f (q :: t) = exL (sw f q.1 (some q.2)) t := rfl
theorem exR_cons (g : Nat → Option Nat) (q : Nat × Nat) (t : PL) : exR g (q :: t) = exR (sw g q.2 (some q.1)) t := rfl
theorem exL_out : ∀ (t : PL) (f : Nat → Option Nat) {l : Nat}, l ∉ t.map (·.1) → exL f t l = f l
  | [], _, _, _ => rfl
  | q :: t, f, l, h => by
    rw [exL_cons, exL_out t _ fun z => h (List.mem_cons_of_mem _ z)]
    unfold sw
    rw [if_neg fun z : q.1 = l => h (by rw [← z]; exact List.mem_cons_self)]
theorem exR_out : ∀ (t : PL) (g : Nat → Option Nat) {r : Nat}, r ∉ t.map (·.2) → exR g t r = g r
  | [], _, _, _ => rfl
  | q :: t, g, r, h => by
    rw [exR_cons, exR_out t _ fun z => h (List.mem_cons_of_mem _ z)]
    unfold sw
    rw [if_neg fun z : q.2 = r => h (by rw [← z]; exact List.mem_cons_self)]
theorem exL_in : ∀ (t : PL) (f : Nat → Option Nat) {l : Nat}, l ∈ t.map (·.1) → exL f t l ≠ none
  | q :: t, f, l, h => by
    rw [exL_cons]
    by_cases c : l ∈ t.map (·.1)
    · exact exL_in t _ c
    · rw [exL_out t _ c]
      rcases List.mem_cons.mp h with e | e
      · unfold sw
        rw [if_pos e.symm]
        exact fun z => by cases z
      · exact absurd e c
theorem Ch.mx {ps : PL} {came f g : Nat → Option Nat} {x : Option Nat} {t : PL} (h : Ch came f x t) (m : Mx ps f g x) (e : ∀ q ∈ t, q ∈ ps) (nd : (t.map (·.1)).Nodup) : Mx ps (exL f t) (exR g t) none := by
  induction t generalizing f g x with
  | nil =>
    cases h
    exact m
  | cons q t ih =>
    cases h with
    | @cons r l _ h1 h2 =>
      obtain ⟨n1, n2⟩ := List.nodup_cons.mp nd
      rw [exL_cons, exR_cons]
      refine ih (h2.congr fun q hq => ?_) (m.step (e (l, r) List.mem_cons_self)) (fun q hq => e q (List.mem_cons_of_mem _ hq)) n2
      unfold sw
      rw [if_neg fun z : l = q.1 => n1 (List.mem_map.mpr ⟨q, hq, z.symm⟩)]
/-- what holds ahead of the left number k -/
structure Ok (ps : PL) (k : Nat) (f g : Nat → Option Nat) (F : Nat → Prop) : Prop where
  mx : Mx ps f g none
  cl : ∀ l r, F l → (l, r) ∈ ps → ∃ l', g r = some l' ∧ F l'
  un : ∀ l, l < k → f l = none → F l
  fresh : ∀ l, k ≤ l → f l = none
theorem Ok.iff {ps : PL} {k : Nat} {f g : Nat → Option Nat} {F : Nat → Prop} (h : Ok ps k f g F) (l r : Nat) : f l = some r ↔ g r = some l := h.mx.inv l r (fun z => by cases z)
theorem Ch.off {ps : PL} {k : Nat} {came f g : Nat → Option Nat} {F : Nat → Prop} (ok : Ok ps k f g F) {x : Option Nat} {t : PL} (h : Ch came f x t) (e : ∀ q ∈ t, q ∈ ps) (hx : ∀ r, x = some r → ∀ l, F l → (l, r) ∉ ps) : ∀ r ∈ t.map (·.2), ∀ l, F l → (l, r) ∉ ps := by
  induction h with
  | nil => exact fun r hr => by cases hr
  | @cons r l t h1 _ ih =>
    have hr := hx r rfl
    intro r' hr' l' hl'
    rcases List.mem_cons.mp hr' with e1 | e1
    · rw [show r' = r from e1]
      exact hr l' hl'
    · refine ih (fun q hq => e q (List.mem_cons_of_mem _ hq)) (fun r1 e2 l2 h2 h3 => ?_) r' e1 l' hl'
      obtain ⟨l3, g1, f1⟩ := ok.cl l2 r1 h2 h3
      have := (ok.iff l r1).mp e2
      rw [this] at g1
      cases g1
      exact hr l f1 (e (l, r) List.mem_cons_self)
theorem Ok.aug {ps : PL} {k : Nat} {came f g : Nat → Option Nat} {F : Nat → Prop} (ok : Ok ps k f g F) {r : Nat} {t : PL} (h : Ch came f (some r) t) (e : ∀ q ∈ t, q ∈ ps) (nd : (t.map (·.1)).Nodup) (free : g r = none) (hk : k ∈ t.map (·.1)) (only : ∀ l ∈ t.map (·.1), f l = none → l = k) : Ok ps (k + 1) (exL f t) (exR g t) F := by
  have off := h.off ok e (fun r1 e1 l hl hr => by
    cases e1
    obtain ⟨l', h1, _⟩ := ok.cl l r hl hr
    rw [free] at h1
    cases h1)
  have mx0 : Mx ps f g (some r) := ⟨ok.mx.adj, fun l r0 _ => ok.iff l r0, fun l _ h0 => by
    have := (ok.iff l r).mp h0
    rw [free] at this
    cases this⟩
  refine ⟨h.mx mx0 e nd, fun l r' hl hr => ?_, fun l hl h0 => ?_, fun l hl => ?_⟩
  · rw [exR_out t g fun z => off r' z l hl hr]
    exact ok.cl l r' hl hr
  · by_cases c : l ∈ t.map (·.1)
    · exact absurd h0 (exL_in t f c)
    · rw [exL_out t f c] at h0
      by_cases c2 : l = k
      · exact absurd (c2 ▸ hk) c
      · exact ok.un l (by omega) h0
  · by_cases c : l ∈ t.map (·.1)
    · have := only l c (ok.fresh l (by omega))
      omega
    · rw [exL_out t f c]
      exact ok.fresh l (by omega)
theorem Ok.fail {ps : PL} {k : Nat} {f g : Nat → Option Nat} {F : Nat → Prop} (ok : Ok ps k f g F) {qs : List Nat} (hk : k ∈ qs) (cl : ∀ l ∈ qs, ∀ r, (l, r) ∈ ps → ∃ l', g r = some l' ∧ l' ∈ qs) : Ok ps (k + 1) f g (fun l => F l ∨ l ∈ qs) := by
  refine ⟨ok.mx, fun l r hl hr => ?_, fun l hl h0 => ?_, fun l hl => ok.fresh l (by omega)⟩
  · rcases hl with hl | hl
    · obtain ⟨l', a, b⟩ := ok.cl l r hl hr
      exact ⟨l', a, .inl b⟩
    · obtain ⟨l', a, b⟩ := cl l hl r hr
      exact ⟨l', a, .inr b⟩
  · by_cases c : l = k
    · exact .inr (c ▸ hk)
    · exact .inl (ok.un l (by omega) h0)
theorem Ok.start (ps : PL) : Ok ps 0 (fun _ => none) (fun _ => none) (fun _ => False) :=
  ⟨⟨fun _ _ h => (by cases h), fun _ _ _ => ⟨fun h => (by cases h), fun h => (by cases h)⟩, fun _ h => (h rfl).elim⟩, fun _ _ h => h.elim, fun _ h => (by omega), fun _ _ => rfl⟩
/-- the matching as it is told -/
def told (n : Nat) (f : Nat → Option Nat) : PL := (List.range n).filterMap fun l => (f l).map fun r => (l, r)
theorem mem_told {n : Nat} {f : Nat → Option Nat} {q : Nat × Nat} : q ∈ told n f ↔ q.1 < n ∧ f q.1 = some q.2 := by
  unfold told
  rw [List.mem_filterMap]
  constructor
  · rintro ⟨l, hl, e⟩
    cases c : f l with
    | none => rw [c] at e; cases e
    | some r =>
      rw [c] at e
      cases e
      exact ⟨List.mem_range.mp hl, c⟩
  · rintro ⟨h1, h2⟩
    exact ⟨q.1, List.mem_range.mpr h1, by rw [h2]; rfl⟩
theorem told_firsts (n : Nat) (f : Nat → Option Nat) : (told n f).map (·.1) = (List.range n).filter fun l => (f l).isSome := by
  unfold told
  induction List.range n with
  | nil => rfl
  | cons l t ih =>
    rw [List.filterMap_cons, List.filter_cons]
    cases c : f l with
    | none => exact ih
    | some r =>
      simp only [Option.map_some, Option.isSome_some, if_true, List.map_cons]
      rw [ih]
theorem told_nd2 {f g : Nat → Option Nat} (inv : ∀ l r, f l = some r ↔ g r = some l) : ∀ L : List Nat, L.Nodup → ((L.filterMap fun l => (f l).map fun r => (l, r)).map (·.2)).Nodup
  | [], _ => List.nodup_nil
  | l :: t, nd => by
    obtain ⟨n1, n2⟩ := List.nodup_cons.mp nd
    rw [List.filterMap_cons]
    cases c : f l with
    | none => exact told_nd2 inv t n2
    | some r =>
      simp only [Option.map_some, List.map_cons]
      refine List.nodup_cons.mpr ⟨fun z => ?_, told_nd2 inv t n2⟩
      obtain ⟨q, hq, e⟩ := List.mem_map.mp z
      obtain ⟨l', hl', e2⟩ := List.mem_filterMap.mp hq
      cases c2 : f l' with
      | none => rw [c2] at e2; cases e2
      | some r' =>
        rw [c2] at e2
        cases e2
        dsimp only at e
        subst e
        have a := (inv l r').mp c
        have b := (inv l' r').mp c2
        rw [a] at b
        cases b
        exact n1 hl'
theorem Ok.mat {n m : Nat} {ps : PL} {f g : Nat → Option Nat} {F : Nat → Prop} (ok : Ok ps n f g F) : Mat ps (told n f) := by
  refine ⟨fun q hq => ok.mx.adj _ _ (mem_told.mp hq).2, ?_, told_nd2 ok.iff _ List.nodup_range⟩
  rw [told_firsts]
  exact List.Nodup.sublist List.filter_sublist List.nodup_range
theorem mem_unm_told {n : Nat} {f : Nat → Option Nat} {l : Nat} : l ∈ unm n (told n f) ↔ l < n ∧ f l = none := by
  rw [mem_unm, told_firsts, List.mem_filter, List.mem_range]
  constructor
  · rintro ⟨h1, h2⟩
    refine ⟨h1, ?_⟩
    cases c : f l with
    | none => rfl
    | some r => exact absurd ⟨h1, by rw [c]; rfl⟩ h2
  · rintro ⟨h1, h2⟩
    exact ⟨h1, fun z => by rw [h2] at z; cases z.2⟩
/-- chains in order: the list of what is reached -/
structure Rch (n : Nat) (ps : PL) (f g : Nat → Option Nat) (qs : List Nat) : Prop where
  lt : ∀ l ∈ qs, l < n
  u : ∀ l, l < n → f l = none → l ∈ qs
  least : ∀ S : Nat → Bool, (∀ l, l < n → f l = none → S l = true) → (∀ l r, S l = true → (l, r) ∈ ps → ∃ l', g r = some l' ∧ S l' = true) → ∀ l ∈ qs, S l = true
theorem Ok.zl {n m : Nat} {ps : PL} (hw : In2 n m ps) {f g : Nat → Option Nat} {F : Nat → Prop} (ok : Ok ps n f g F) {qs : List Nat} (rc : Rch n ps f g qs) (cl : ∀ l ∈ qs, ∀ r, (l, r) ∈ ps → ∃ l', g r = some l' ∧ l' ∈ qs) : Zl n ps (told n f) (fun l => qs.contains l) := by
  have mem : ∀ l r, (l, r) ∈ told n f ↔ g r = some l := fun l r => by
    rw [mem_told]
    constructor
    · exact fun h => (ok.iff l r).mp h.2
    · intro h
      have := (ok.iff l r).mpr h
      exact ⟨(hw _ (ok.mx.adj l r this)).1, this⟩
  refine ⟨fun l hl => ?_, fun l r hl hr => ?_, fun l hl => rc.lt l (by simpa using hl), fun S hu hc l hl => ?_⟩
  · obtain ⟨h1, h2⟩ := mem_unm_told.mp hl
    simpa using rc.u l h1 h2
  · obtain ⟨l', h1, h2⟩ := cl l (by simpa using hl) r hr
    exact ⟨l', (mem l' r).mpr h1, by simpa using h2⟩
  · refine rc.least S (fun l h1 h2 => hu l (mem_unm_told.mpr ⟨h1, h2⟩)) (fun l r h1 h2 => ?_) l (by simpa using hl)
    obtain ⟨l', a, b⟩ := hc l r h1 h2
    exact ⟨l', (mem l' r).mp a, b⟩
end K26

local macro_rules | `(tactic| walk_at "nz") => `(tactic| (dsimp only; first | decide | omega))
namespace K26W
open PySem PySem.Spec PyProof.Rows L2 KH KD KP K26
def topS (i : Nat) : Stmt := PySem.Challenge.pw_changeskept_k26_matching_and_cover.main.body.getD i (.Pass ⟨0, 0, 0, 0⟩)
abbrev s_law_cell : Stmt := topS 13
theorem sc_law_cell : FnScope ["script", "k", "spare", "cell"] ["script", "k"] (defScope s_law_cell) := ⟨rfl, rfl, rfl, by decide +kernel, rfl, by decide +kernel, by decide +kernel⟩

abbrev s_law_draws : Stmt := topS 14
theorem sc_law_draws : FnScope ["cell", "sizes", "whole", "found", "number", "size", "k", "mixed"] ["cell", "sizes"] (defScope s_law_draws) := ⟨rfl, rfl, rfl, by decide +kernel, rfl, by decide +kernel, by decide +kernel⟩

abbrev s_law_number : Stmt := topS 23
theorem sc_law_number : FnScope ["thing"] ["thing"] (defScope s_law_number) := ⟨rfl, rfl, rfl, by decide +kernel, rfl, by decide +kernel, by decide +kernel⟩

/-- the built-in names are what they are -/
structure Txt (mg : Str → Option Value) : Prop where
  len : mg "len" = none
  abs : mg "abs" = none
  int : mg "int" = none
  range : mg "range" = none
  list : mg "list" = none
  tuple : mg "tuple" = none
  max : mg "max" = none
  isinstance : mg "isinstance" = none
  bool : mg "bool" = none
  str : mg "str" = none
  repr : mg "repr" = none
  reversed : mg "reversed" = none
  sorted : mg "sorted" = none
  super : mg "super" = none
/-- a def as its callers know it -/
structure Cal (P : Program) (w : World) (K : PySem.W.Frag) (mg : Str → Option Value) (base : Heap) (k : Nat) (x : Str) (ps : List Str) (sp : Sp) (f : Addr) (fd : FuncData) : Prop where
  ok : FnOk P w K mg base CX0 k f fd ps sp
  mg : mg x = some (.ref f)
  kp : PySem.W.keepIn K (.ref f) = true
  b : Binds K fd ps []
/-- .. one that may raise -/
structure CalX (P : Program) (w : World) (K : PySem.W.Frag) (mg : Str → Option Value) (base : Heap) (k : Nat) (x : Str) (ps : List Str) (sp : Sp) (f : Addr) (fd : FuncData) : Prop where
  ok : FnOk P w K mg base (L2.CX P w) k f fd ps sp
  mg : mg x = some (.ref f)
  kp : PySem.W.keepIn K (.ref f) = true
  b : Binds K fd ps []
/-- .. one that shows data -/
structure CalG (P : Program) (w : World) (K : PySem.W.Frag) (mg : Str → Option Value) (base : Heap) (k : Nat) (x : Str) (ps : List Str) (sp : Sp) (f : Addr) (fd : FuncData) : Prop where
  ok : FnOkG P w K mg base k f fd ps sp
  mg : mg x = some (.ref f)
  kp : PySem.W.keepIn K (.ref f) = true
  b : Binds K fd ps []
/-- a def that may be called in an except suite, as its callers know it -/
structure CalQ (P : Program) (w : World) (K : PySem.W.Frag) (mg : Str → Option Value) (base : Heap) (k : Nat) (x : Str) (ps : List Str) (sp : Sp) (f : Addr) (fd : FuncData) : Prop where
  ok : FnOkQ P w K mg base k f fd ps sp
  mg : mg x = some (.ref f)
  kp : PySem.W.keepIn K (.ref f) = true
  b : Binds K fd ps []
section
variable {P : Program} {w : World} {K : PySem.W.Frag} {mg : Str → Option Value} {base : Heap}
/-! ### a cell of the script -/
def sp_cell (K : PySem.W.Frag) : Sp := fun vs H Q _ => ∃ (a : Addr) (ns : List Int) (k : Nat), vs = [.ref a, nV k] ∧ SqL K H a (ns.map V.int) ∧ ns.length ≤ 63 ∧ k ≤ 1000 ∧ ∀ n H', Same H H' → Q (.int n) H'
theorem ok_cell {f : Addr} {fd : FuncData} (F : Fun K "_law_cell" "_law_cell" s_law_cell f fd) (T : Txt mg) : FnOk P w K mg base CX0 1 f fd ["script", "k"] (sp_cell K) := by
  refine F.ok sc_law_cell (fun vs H Q E h => ?_) (fun cdv A outer s H vs Q E hr h => ?_)
  · obtain ⟨a, ns, k, rfl, _⟩ := h
    rfl
  · obtain ⟨a, ns, k, rfl, hS, hl, hk, q⟩ := h
    refine ⟨_, (pss_cons (ps_if (pt_cmpR op_lt (pv 1) (pe_callB call_len_seq (by rfl) T.len (by decide +kernel) (pa_cons (pv 0) pa_nil)) (nomark _))
 (pss_one (ps_ret (pe_ix ix_list (pv 0) (pv 1) (fun _ _ => rfl))))
 pss_nil)
 (pss_cons (ps_set (i := 2) sc_law_cell.nd rfl (.inl rfl) pe_int)
 (pss_cons (ps_for PassesOwn.never rfl (pi_list (pe_slice sl_list (pv 0) po_none (po_some pe_int))) (pg_name (i := 3) sc_law_cell.nd rfl (.inl rfl))
 (pss_one (ps_set (i := 2) sc_law_cell.nd rfl (.inl rfl) (pe_op op_add (pv 2) (pe_op op_modN (pe_callB call_abs (by rfl) T.abs (by decide +kernel) (pa_cons (pe_callTy call_int1 (by rfl) T.int (by decide +kernel) (pa_cons (pv 3) pa_nil)) pa_nil)) pe_int)))))
 (pss_one (ps_ret (pe_op op_add (pv 2) (pe_op op_mul pe_int (pv 1)))))))), ?_⟩
    refine ⟨_, rfl, _, rfl, a, _, rfl, .inl hS, _, _, rfl, rfl, _, rfl, ite2 (fun hlt => ?_) (fun _ => ?_)⟩
    · have hlt' : k < ns.length := by
        have := of_decide_eq_true hlt
        rw [List.length_map] at this
        omega
      obtain ⟨n, hn⟩ := get_lt hlt'
      exact ⟨_, rfl, _, rfl, a, _, _, _, rfl, rfl, hS, at_n (getn hn), q n H (Same.refl H)⟩
    · refine ⟨_, rfl, 3, rfl, a, _, rfl, hS, fun p np => ?_⟩
      obtain ⟨ms, em⟩ := cut_ints ns none (some 3)
      rw [em]
      refine ⟨p, rfl, ⟨_, SqL.of upd_same⟩, for_list (K := K) (a := p) (xs := ms.map V.int) (fun i σ H' => ∃ (z : Int) (v : Option V), σ = [some (.ref a), some (nV k), some (.int z), v] ∧ Same H H' ∧ H' p = some (.lst (ms.map V.int)))
        ⟨0, none, rfl, (Same.refl H).new np, upd_same⟩ (fun i σ H' _ ⟨_, _, _, _, e⟩ => SqL.of e) ?_ ?_⟩
      · rintro i y σ H' hi ⟨z, v, rfl, sm, e⟩
        obtain ⟨c, _, rfl⟩ := getn_inv hi
        refine ⟨_, rfl, _, rfl, .inl ⟨_, rfl, _, rfl, _, _, rfl, rfl, (by walk_at "nz"), _, _, rfl, rfl, ?_⟩⟩
        exact ⟨_, _, rfl, sm, e⟩
      · rintro σ H' ⟨z, v, rfl, sm, e⟩
        exact ⟨_, rfl, _, rfl, _, _, rfl, rfl, .inl ⟨by decide, by decide⟩, _, _, rfl, rfl, q _ _ sm⟩
/-! ### drawn numbers -/
def sp_draws (K : PySem.W.Frag) : Sp := fun vs H Q _ => ∃ (a : Addr) (c : Int) (zs : List Nat), vs = [.int c, .ref a] ∧ SqL K H a (zs.map nV) ∧ zs.length ≤ 1000 ∧ (∀ z ∈ zs, 0 < z ∧ z < 1073741824) ∧
  ∀ p ds H', Same H H' → H p = none → H' p = some (.lst (ds.map nV)) → Drawn ds zs → Q (.ref p) H'
theorem ok_draws {f : Addr} {fd : FuncData} (F : Fun K "_law_draws" "_law_draws" s_law_draws f fd) (T : Txt mg) : FnOk P w K mg base CX0 1 f fd ["cell", "sizes"] (sp_draws K) := by
  refine F.ok sc_law_draws (fun vs H Q E h => ?_) (fun cdv A outer s H vs Q E hr h => ?_)
  · obtain ⟨a, c, zs, rfl, _⟩ := h
    rfl
  · obtain ⟨a, c, zs, rfl, hS, hl, hz, q⟩ := h
    refine ⟨_, (pss_cons (ps_set (i := 2) sc_law_draws.nd rfl (.inl rfl) (pe_callB call_abs (by rfl) T.abs (by decide +kernel) (pa_cons (pe_callTy call_int1 (by rfl) T.int (by decide +kernel) (pa_cons (pv 0) pa_nil)) pa_nil)))
 (pss_cons (ps_set (i := 3) sc_law_draws.nd rfl (.inl rfl) (pe_lst pa_nil))
 (pss_cons (ps_if (pt_cmpR op_ge (pv 2) (pe_op op_pow pe_int pe_int) (nomark _))
 (pss_cons (ps_set (i := 4) sc_law_draws.nd rfl (.inl rfl) (pe_op op_sub (pv 2) (pe_op op_pow pe_int pe_int)))
 (pss_cons (ps_for PassesOwn.never rfl (pi_list (pv 1)) (pg_name (i := 5) sc_law_draws.nd rfl (.inl rfl))
 (pss_cons (ps_expr (pe_bm PySem.F.plainAttrs_list PySem.F.slot_list_append PySem.F.type_list_append mt_append (pv 3) (pa_cons (pe_op op_modN (pe_callTy call_int1 (by rfl) T.int (by decide +kernel) (pa_cons (pv 4) pa_nil)) (pv 5)) pa_nil)))
 (pss_one (ps_set (i := 4) sc_law_draws.nd rfl (.inl rfl) (pe_op op_fdivN (pv 4) (pv 5))))))
 (pss_one (ps_ret (pv 3)))))
 pss_nil)
 (pss_cons (ps_for PassesOwn.never rfl (pi_range1 rfl T.range (pa_cons (pe_callB call_len_seq (by rfl) T.len (by decide +kernel) (pa_cons (pv 1) pa_nil)) pa_nil)) (pg_name (i := 6) sc_law_draws.nd rfl (.inl rfl))
 (pss_cons (ps_set (i := 7) sc_law_draws.nd rfl (.inl rfl) (pe_op op_modN (pe_callTy call_int1 (by rfl) T.int (by decide +kernel) (pa_cons (pe_op op_add (pe_op op_add (pv 2) (pe_op op_mul pe_int (pv 6))) pe_int) pa_nil)) pe_int))
 (pss_cons (ps_set (i := 7) sc_law_draws.nd rfl (.inl rfl) (pe_op op_modN (pe_callTy call_int1 (by rfl) T.int (by decide +kernel) (pa_cons (pe_op op_mul (pv 7) (pe_op op_add (pv 7) pe_int)) pa_nil)) pe_int))
 (pss_cons (ps_set (i := 7) sc_law_draws.nd rfl (.inl rfl) (pe_op op_modN (pe_callTy call_int1 (by rfl) T.int (by decide +kernel) (pa_cons (pe_op op_add (pe_op op_mul (pv 7) (pe_op op_add (pv 7) pe_int)) (pe_op op_mul pe_int (pv 6))) pa_nil)) pe_int))
 (pss_one (ps_expr (pe_bm PySem.F.plainAttrs_list PySem.F.slot_list_append PySem.F.type_list_append mt_append (pv 3) (pa_cons (pe_op op_modN (pe_callTy call_int1 (by rfl) T.int (by decide +kernel) (pa_cons (pe_op op_fdivN (pv 7) pe_int) pa_nil)) (pe_ix ix_list (pv 1) (pv 6) (fun _ _ => rfl))) pa_nil))))))))
 (pss_one (ps_ret (pv 3))))))), ?_⟩
    -- whole = abs(int(cell)); found = []
    refine ⟨_, rfl, .inl ⟨_, rfl, _, rfl, ?_⟩⟩
    refine ⟨Nat.zero_le _, fun p np => ?_⟩
    have s0 : Same H (upd H p (.lst [])) := (Same.refl H).new np
    -- if whole >= 10 ** 18
    refine ⟨_, rfl, _, _, rfl, rfl, ⟨by decide, by decide, by decide⟩, _, _, rfl, rfl, _, rfl, ite2 (fun _ => ?_) (fun hsm => ?_)⟩
    · refine ⟨_, rfl, _, _, rfl, rfl, ⟨by decide, by decide, by decide⟩, _, _, rfl, rfl, ?_⟩
      refine ⟨_, rfl, a, rfl, ⟨_, s0.seq hS⟩, for_list (K := K) (a := a) (xs := zs.map nV) (fun i σ H' => ∃ (w n : Int) (ds : List Nat) (v5 v6 v7 : Option V), σ = [some (.int c), some (.ref a), some (.int w), some (.ref p), some (.int n), v5, v6, v7] ∧ Same H H' ∧ H' p = some (.lst (ds.map nV)) ∧ Drawn ds (zs.take i))
        ⟨_, _, [], none, none, none, rfl, s0, upd_same, .nil⟩ (fun i σ H' _ ⟨_, _, _, _, _, _, _, sm, _⟩ => sm.seq hS) ?_ ?_⟩
      · rintro i y σ H' hi ⟨w', n, ds, v5, v6, v7, rfl, sm, e, dr⟩
        obtain ⟨z, hzi, rfl⟩ := getn_inv hi
        obtain ⟨hz0, hz1⟩ := hz z (List.mem_of_getElem? hzi)
        obtain ⟨d, ed, hd⟩ := fmod_nat n hz0
        refine ⟨_, rfl, .inl ⟨rfl, _, SqL.of e⟩, _, rfl, .inl ⟨_, rfl, _, rfl, _, _, rfl, rfl, (by walk_at "nz"), p, _, _, rfl, rfl, e, ?_, ?_⟩⟩
        · rw [List.length_map, P_len dr]
          exact szl (Nat.le_trans (List.length_take_le' _ _) (by omega))
        · refine ⟨_, rfl, _, rfl, _, _, rfl, rfl, ⟨by omega, by omega⟩, ?_⟩
          refine ⟨_, _, ds ++ [d], _, _, _, rfl, sm.mut np, ?_, drawn_snoc dr hzi hd⟩
          dsimp only
          rw [upd_same, ed, List.map_append]
          rfl
      · rintro σ H' ⟨w', n, ds, v5, v6, v7, rfl, sm, e, dr⟩
        rw [List.length_map, List.take_length] at dr
        exact ⟨_, rfl, q p ds H' sm np e dr⟩
    · -- the mixing
      have hwb : ∃ w : Nat, (if c < 0 then -c else c) = (w : Int) ∧ w < 10 ^ 18 := by
        have h1 : ¬ ((10 : Int) ^ (18 : Int).toNat ≤ if c < 0 then -c else c) := fun z => hsm (decide_eq_true z)
        have e18 : (10 : Int) ^ (18 : Int).toNat = 1000000000000000000 := by decide
        rw [e18] at h1
        refine ⟨(if c < 0 then -c else c).toNat, ?_, ?_⟩ <;> split at h1 <;> split <;> omega
      obtain ⟨wn, ew, hw⟩ := hwb
      rw [ew]
      refine ⟨_, rfl, a, _, rfl, .inl (s0.seq hS), _, rfl, (by omega), (by rw [List.length_map]; omega), ?_⟩
      have el : (((zs.map nV).length : Nat) : Int).toNat = zs.length := by rw [List.length_map]; omega
      rw [el]
      refine for_range (lo := 0) (n := zs.length) (fun i σ H' => ∃ (ds : List Nat) (v4 v5 v6 v7 : Option V), σ = [some (.int c), some (.ref a), some (nV wn), some (.ref p), v4, v5, v6, v7] ∧ Same H H' ∧ H' p = some (.lst (ds.map nV)) ∧ Drawn ds (zs.take i))
        ⟨[], none, none, none, none, rfl, s0, upd_same, .nil⟩ ?_ ?_
      · rintro i σ H' hi ⟨ds, v4, v5, v6, v7, rfl, sm, e, dr⟩
        obtain ⟨z, hzi⟩ := get_lt hi
        obtain ⟨hz0, hz1⟩ := hz z (List.mem_of_getElem? hzi)
        obtain ⟨m1, e1, b1⟩ := fmod_nat ((wn : Int) + 7919 * ((0 : Int) + (i : Int)) + 13) (z := 2147483647) (by decide)
        obtain ⟨m2, e2, b2⟩ := fmod_nat ((m1 : Int) * ((m1 : Int) + 48271)) (z := 2147483629) (by decide)
        obtain ⟨m3, e3, b3⟩ := fmod_nat ((m2 : Int) * ((m2 : Int) + 69621) + 31 * ((0 : Int) + (i : Int))) (z := 2147483647) (by decide)
        obtain ⟨d, ed, hd⟩ := fmod_nat ((m3 : Int).fdiv 9) hz0
        -- mixed = int(whole + 7919 * k + 13) % 2147483647
        refine ⟨_, rfl, _, rfl, _, _, rfl, rfl, .inl ⟨by decide, by decide⟩, _, _, rfl, rfl, _, _, rfl, rfl, .inl ⟨_, rfl, _, _, rfl, rfl, (by walk_at "nz"), ?_⟩⟩
        dsimp only
        rw [show ((2147483647 : Nat) : Int) = 2147483647 by rfl] at e1
        rw [e1]
        -- mixed = int(mixed * (mixed + 48271)) % 2147483629
        refine ⟨_, rfl, _, rfl, _, _, rfl, rfl, _, _, rfl, rfl, .inl ⟨by omega, by omega⟩, .inl ⟨_, rfl, _, _, rfl, rfl, (by walk_at "nz"), ?_⟩⟩
        dsimp only
        rw [show ((2147483629 : Nat) : Int) = 2147483629 by rfl] at e2
        rw [e2]
        refine ⟨_, rfl, _, rfl, _, _, rfl, rfl, _, _, rfl, rfl, .inl ⟨by omega, by omega⟩, _, rfl, _, _, rfl, rfl, .inl ⟨by decide, by decide⟩, _, _, rfl, rfl, .inl ⟨_, rfl, _, _, rfl, rfl, (by walk_at "nz"), ?_⟩⟩
        dsimp only
        rw [show ((2147483647 : Nat) : Int) = 2147483647 by rfl] at e3
        rw [e3]
        -- found.append(int(mixed // 9) % sizes[k])
        refine ⟨_, rfl, .inl ⟨rfl, _, SqL.of e⟩, _, rfl, _, _, rfl, rfl, ⟨by decide, by decide⟩, .inl ⟨_, rfl, _, rfl, _, rfl, a, _, _, nV z, rfl, rfl, sm.seq hS, ?_, _, _, rfl, rfl, (by walk_at "nz"), p, _, _, rfl, rfl, e, ?_, ?_⟩⟩
        · rw [show (0 : Int) + (i : Int) = (i : Int) by omega]
          exact at_n (getn hzi)
        · rw [List.length_map, P_len dr]
          exact szl (Nat.le_trans (List.length_take_le' _ _) (by omega))
        · refine ⟨ds ++ [d], _, _, _, _, rfl, sm.mut np, ?_, drawn_snoc dr hzi hd⟩
          dsimp only
          rw [upd_same, ed, List.map_append]
          rfl
      · rintro σ H' ⟨ds, v4, v5, v6, v7, rfl, sm, e, dr⟩
        rw [List.take_length] at dr
        exact ⟨_, rfl, q p ds H' sm np e dr⟩
end
/-- the errors' classes, as the written part has them -/
structure Exc (P : Program) (K : PySem.W.Frag) (mg : Str → Option Value) (CN CB CD CT CU fI : Addr) : Prop where
  own : PySem.OwX.OwnTxt P K CN fI ["what", "value"]
  gN : mg "BadNumber" = some (.ref CN)
  gB : mg "BusError" = some (.ref CB)
  gD : mg "Doubled" = some (.ref CD)
  gT : mg "TooMany" = some (.ref CT)
  gU : mg "Unknown" = some (.ref CU)
  ec : ExcC K CN
  xf : XfC K CN
  te : PySem.W.exmOne K (.ref CN) (.ref CB) = some true
  kN : PySem.W.kitOne K (.ref CN) (.ref CN) = some true
  kO : PySem.W.kitAny K (.ref CN) [.ref CD, .ref CT, .ref CU] = some false
section
variable {P : Program} {w : World} {K : PySem.W.Frag} {mg : Str → Option Value} {base : Heap} {CN CB CD CT CU fI : Addr}
/-- the error with its fields -/
def Err (CN : Addr) (wd : Str) (z : Int) (H : Hp) (E : XK) : Prop := ∀ d H', Same H H' → H d = none → H' d = some (.xd [("value", .int z), ("what", .str wd)]) → E (.ref CN) (some d) H'
def sp_number : Sp := fun vs H Q _ => ∃ z : Int, vs = [.int z] ∧ Q (.bl true) H
theorem ok_number {f : Addr} {fd : FuncData} (F : Fun K "_law_number" "_law_number" s_law_number f fd) (T : Txt mg) : FnOk P w K mg base CX0 1 f fd ["thing"] sp_number := by
  refine F.ok sc_law_number (fun vs H Q E h => ?_) (fun cdv A outer s H vs Q E hr h => ?_)
  · obtain ⟨z, rfl, _⟩ := h
    rfl
  · obtain ⟨z, rfl, q⟩ := h
    refine ⟨_, (pss_one (ps_ret (pe_and (pe_callB call_isi (by rfl) T.isinstance (by decide +kernel) (pa_cons (pv 0) (pa_cons (pe_bltn (v := .ty "int") (by rfl) T.int (by decide +kernel) rfl) pa_nil))) (pe_one (pe_not (pe_callB call_isi (by rfl) T.isinstance (by decide +kernel) (pa_cons (pv 0) (pa_cons (pe_bltn (v := .ty "bool") (by rfl) T.bool (by decide +kernel) rfl) pa_nil)))))))), ?_⟩
    refine ⟨_, rfl, _, _, _, _, true, rfl, .ty "int", .base (.int _), kit_ty (by decide +kernel), _, rfl, iteT ?_⟩
    exact ⟨_, rfl, _, _, _, _, false, rfl, .ty "bool", .base (.int _), kit_ty (by decide +kernel), _, rfl, q⟩
theorem ok_numberQ {f : Addr} {fd : FuncData} (F : Fun K "_law_number" "_law_number" s_law_number f fd) (T : Txt mg) : FnOkQ P w K mg base 1 f fd ["thing"] sp_number := by
  refine F.okQ sc_law_number (fun vs H Q E h => ?_) (fun cdv A outer s H vs Q E hr h => ?_)
  · obtain ⟨z, rfl, _⟩ := h
    rfl
  · obtain ⟨z, rfl, q⟩ := h
    refine ⟨_, (pss_one (ps_ret (pe_and (pe_callB call_isi (by rfl) T.isinstance (by decide +kernel) (pa_cons (pv 0) (pa_cons (pe_bltn (v := .ty "int") (by rfl) T.int (by decide +kernel) rfl) pa_nil))) (pe_one (pe_not (pe_callB call_isi (by rfl) T.isinstance (by decide +kernel) (pa_cons (pv 0) (pa_cons (pe_bltn (v := .ty "bool") (by rfl) T.bool (by decide +kernel) rfl) pa_nil)))))))), ?_⟩
    refine ⟨_, rfl, _, _, _, _, true, rfl, .ty "int", .base (.int _), kit_ty (by decide +kernel), _, rfl, iteT ?_⟩
    exact ⟨_, rfl, _, _, _, _, false, rfl, .ty "bool", .base (.int _), kit_ty (by decide +kernel), _, rfl, q⟩
theorem lk_what {x y : V} : List.lookup ("what" : Str) [(("value" : Str), x), (("what" : Str), y)] = some y := by
  have e : (("what" : Str) == ("value" : Str)) = false := by decide
  simp [List.lookup, e]
theorem lk_value {x y : V} : List.lookup ("value" : Str) [(("value" : Str), x), (("what" : Str), y)] = some x := by simp [List.lookup]
end
end K26W

namespace K26W
open PySem PySem.Spec PyProof.Rows L2 KH KD KP K26
abbrev s_neighbours : Stmt := topS 7
theorem sc_neighbours : FnScope ["lefts", "rights", "pairs", "rows", "left", "right"] ["lefts", "rights", "pairs"] (defScope s_neighbours) := ⟨rfl, rfl, rfl, by decide +kernel, rfl, by decide +kernel, by decide +kernel⟩

abbrev s_exchange : Stmt := topS 8
theorem sc_exchange : FnScope ["right", "came", "of_left", "of_right", "left", "before"] ["right", "came", "of_left", "of_right"] (defScope s_exchange) := ⟨rfl, rfl, rfl, by decide +kernel, rfl, by decide +kernel, by decide +kernel⟩

/-! ### the rights of each left -/
def adjR (ps : K02.PL) (l : Nat) : List Nat := (ps.filter fun q => q.1 == l).map (·.2)
theorem mem_adj {ps : K02.PL} {l r : Nat} : r ∈ adjR ps l ↔ (l, r) ∈ ps := by
  unfold adjR
  rw [List.mem_map]
  constructor
  · rintro ⟨⟨a, b⟩, h, e⟩
    rw [List.mem_filter, beq_iff_eq] at h
    dsimp only at h e
    rw [← h.2, ← e]
    exact h.1
  · exact fun h => ⟨(l, r), List.mem_filter.mpr ⟨h, by simp⟩, rfl⟩
theorem adj_snoc (ps : K02.PL) (a b l : Nat) : adjR (ps ++ [(a, b)]) l = adjR ps l ++ (if a = l then [b] else []) := by
  unfold adjR
  rw [List.filter_append, List.map_append]
  congr 1
  by_cases e : a = l <;> simp [List.filter_cons, e]
theorem adj_len (ps : K02.PL) (l : Nat) : (adjR ps l).length ≤ ps.length := by
  unfold adjR
  rw [List.length_map]
  exact List.length_filter_le _ _
theorem adj_step {n : Nat} (ps : K02.PL) (a b : Nat) : ((List.range n).map (adjR ps)).set a (adjR ps a ++ [b]) = (List.range n).map (adjR (ps ++ [(a, b)])) := by
  apply List.ext_getElem?
  intro i
  rw [List.getElem?_set]
  by_cases e : a = i
  · rw [if_pos e]
    by_cases c : i < n
    · rw [if_pos (by rw [List.length_map, List.length_range]; omega), List.getElem?_map, List.getElem?_range c, ← e]
      simp only [Option.map_some, adj_snoc, if_true]
    · rw [if_neg (by rw [List.length_map, List.length_range]; omega), List.getElem?_eq_none (by rw [List.length_map, List.length_range]; omega)]
  · rw [if_neg e, List.getElem?_map, List.getElem?_map]
    by_cases c : i < n
    · rw [List.getElem?_range c]
      simp only [Option.map_some, adj_snoc, if_neg e, List.append_nil]
    · rw [List.getElem?_eq_none (by rw [List.length_range]; omega)]
      rfl
def In1 (n : Int) (z : Int) : Prop := 0 ≤ z ∧ z < n
/-- the first pair out of range -/
inductive Flaw (n m : Int) (ts : List P2) : Str → Int → Prop
  | left {k : Nat} {q : P2} : ts[k]? = some q → ¬ In1 n q.1 → (∀ (j : Nat) (y : P2), j < k → ts[j]? = some y → In1 n y.1 ∧ In1 m y.2) → Flaw n m ts "left" q.1
  | right {k : Nat} {q : P2} : ts[k]? = some q → In1 n q.1 → ¬ In1 m q.2 → (∀ (j : Nat) (y : P2), j < k → ts[j]? = some y → In1 n y.1 ∧ In1 m y.2) → Flaw n m ts "right" q.2
def pN : Option Nat → V
  | none => .non
  | some n => nV n
section
variable {P : Program} {w : World} {K : PySem.W.Frag} {mg : Str → Option Value} {base : Heap} {CN CB CD CT CU fI : Addr}
def sp_neighbours (K : PySem.W.Frag) (CN : Addr) : Sp := fun vs H Q E => ∃ (n m : Nat) (pa : Addr) (us : List V) (qs : List P2), vs = [nV n, nV m, .ref pa] ∧ Sq K H pa us ∧ PI K H us qs ∧ n ≤ 100 ∧ qs.length ≤ 1000 ∧ (∀ wd z, Flaw n m qs wd z → Err CN wd z H E) ∧
  (∀ ps, qs = upP ps → In2 n m ps → ∀ r H', Same H H' → H r = none → LR H' r ((List.range n).map (adjR ps)) → Q (.ref r) H')
theorem ok_neighbours {f : Addr} {fd : FuncData} (F : Fun K "_neighbours" "_neighbours" s_neighbours f fd) (T : Txt mg) (XBadNumber : Exc P K mg CN CB CD CT CU fI) : FnOk P w K mg base (L2.CX P w) 3 f fd ["lefts", "rights", "pairs"] (sp_neighbours K CN) := by
  refine F.okX sc_neighbours (fun vs H Q E h => ?_) (fun cdv A outer s H vs Q E hr h => ?_)
  · obtain ⟨n, m, pa, us, qs, rfl, _⟩ := h
    rfl
  · obtain ⟨n, m, pa, us, qs, rfl, hS, hP, hn, hl, qe, qn⟩ := h
    refine ⟨_, (pss_cons (ps_setLc (i := 3) (own := [("left", 4)]) (g := gName 4) (tt := tYes) rfl sc_neighbours.nd rfl rfl (sw_true rfl rfl rfl (by decide +kernel)) (pi_range1 rfl T.range (pa_cons (pv 0) pa_nil)) (blkOk_by (N := ["lefts", "rights", "pairs", "rows", "left", "right"]) (sc := defScope s_neighbours) (by decide +kernel)) (fun _ _ _ _ _ => (pg_name (i := 4) sc_neighbours.nd rfl (.inl rfl))) (fun _ _ _ _ _ => pts_nil) (fun _ _ _ _ _ => (pe_lst pa_nil)))
 (pss_cons (ps_for (passes_of rfl) rfl (pi_seq (pv 2)) (pg_tup rfl (pgs_cons (pg_name (i := 4) sc_neighbours.nd rfl (.inl rfl)) (pgs_cons (pg_name (i := 5) sc_neighbours.nd rfl (.inl rfl)) pgs_nil)))
 (pss_cons (ps_if (pt_not (pt_chain op_le op_lt pe_int (pv 4) (pv 0)))
 (pss_one (ps_raiseOwnS rfl XBadNumber.own XBadNumber.gN T.super (by decide) (by decide) (by simp) hr (takes_of rfl rfl rfl rfl) (by exact (pa_cons pe_str (pa_cons (pv 4) pa_nil))) rfl))
 pss_nil)
 (pss_cons (ps_if (pt_not (pt_chain op_le op_lt pe_int (pv 5) (pv 1)))
 (pss_one (ps_raiseOwnS rfl XBadNumber.own XBadNumber.gN T.super (by decide) (by decide) (by simp) hr (takes_of rfl rfl rfl rfl) (by exact (pa_cons pe_str (pa_cons (pv 5) pa_nil))) rfl))
 pss_nil)
 (pss_one (ps_expr (pe_bm PySem.F.plainAttrs_list PySem.F.slot_list_append PySem.F.type_list_append mt_append (pe_ix ix_list (pv 3) (pv 4) (fun _ _ => rfl)) (pa_cons (pv 5) pa_nil)))))))
 (pss_one (ps_ret (pv 3))))), ?_⟩
    have hul : us.length = qs.length := hP.len
    -- rows
    refine ⟨_, rfl, _, rfl, (by omega), (by omega), ?_⟩
    rw [show ((n : Nat) : Int).toNat = n by omega]
    refine fun ro nro => ?_
    refine lc_range (lo := 0) (n := n) (fun i H' => Same H H' ∧ LL H H' ro ((List.range i).map (adjR []))) ⟨(Same.refl H).new nro, LL.nil nro⟩ ?_ ?_
    · rintro i H1 hi ⟨s1, ll⟩
      refine ⟨rfl, Nat.zero_le _, fun p np => ?_⟩
      obtain ⟨vs, hv, hvl⟩ := ll.lst
      have hpa : ro ≠ p := ne_of_none hv np
      refine ⟨vs, by rw [upd_ne hpa]; exact hv, ?_, (s1.new np).mut nro, ?_⟩
      · rw [hvl, List.length_map, List.length_range]
        exact szl (by omega)
      · have := ll.snoc s1 np hv []
        rw [List.range_succ, List.map_append]
        exact this
    rintro H1 ⟨s1, ll⟩
    -- for left, right in pairs
    refine ⟨_, rfl, for_seq (xs := us) hS s1 (fun i σ H' => ∃ (v4 v5 : Option V) (ps : K02.PL), σ = [some (nV n), some (nV m), some (.ref pa), some (.ref ro), v4, v5] ∧ Same H H' ∧ qs.take i = upP ps ∧ In2 n m ps ∧ LL H H' ro ((List.range n).map (adjR ps))) ⟨_, _, [], rfl, s1, rfl, (fun q h => by cases h), ll⟩ (fun i σ H' _ ⟨_, _, _, _, e, _⟩ => e) ?_ ?_⟩
    · rintro i x σ H2 hi ⟨v4, v5, ps, rfl, s2, eps, wi, ll⟩
      obtain ⟨q, hq, t, rfl, et⟩ := P_right hP hi
      have fine : ∀ (j : Nat) (y : P2), j < i → qs[j]? = some y → In1 n y.1 ∧ In1 m y.2 := fun j y hj hy => by
        have : (upP ps)[j]? = some y := by rw [← eps, List.getElem?_take, if_pos hj]; exact hy
        obtain ⟨a, b, hab, rfl⟩ := upP_get this
        have := wi _ (List.mem_of_getElem? hab)
        unfold In1
        dsimp only at this ⊢
        omega
      have err : ∀ {wd z}, Flaw n m qs wd z → ∀ d, H2 d = none → E (.ref CN) (some d) (upd H2 d (.xd [("value", .int z), ("what", .str wd)])) := fun f d nd => qe _ _ f d _ (s2.new nd) (s2.free nd) upd_same
      refine ⟨t, _, rfl, s2.seqT et, rfl, _, _, rfl, _, _, rfl, rfl, ?_⟩
      refine ⟨_, rfl, _, _, rfl, rfl, _, rfl, ?_⟩
      by_cases c1' : ¬ ((0 : Int) ≤ q.1)
      · have c1 := c1'
        rw [decide_eq_false c1]
        exact iteF ⟨_, rfl, iteT ⟨_, rfl, rfl, fun d nd => err (.left hq (fun z => c1 z.1) fine) d nd⟩⟩
      have c1 := Decidable.not_not.mp c1'
      rw [decide_eq_true c1]
      refine iteT ⟨_, rfl, _, _, rfl, rfl, _, rfl, ?_⟩
      by_cases c2' : ¬ (q.1 < (n : Int))
      · have c2 := c2'
        rw [decide_eq_false c2]
        exact iteT ⟨_, rfl, rfl, fun d nd => err (.left hq (fun z => c2 z.2) fine) d nd⟩
      have c2 := Decidable.not_not.mp c2'
      rw [decide_eq_true c2]
      refine iteF ?_
      refine ⟨_, rfl, _, _, rfl, rfl, _, rfl, ?_⟩
      by_cases c3' : ¬ ((0 : Int) ≤ q.2)
      · have c3 := c3'
        rw [decide_eq_false c3]
        exact iteF ⟨_, rfl, iteT ⟨_, rfl, rfl, fun d nd => err (.right hq ⟨c1, c2⟩ (fun z => c3 z.1) fine) d nd⟩⟩
      have c3 := Decidable.not_not.mp c3'
      rw [decide_eq_true c3]
      refine iteT ⟨_, rfl, _, _, rfl, rfl, _, rfl, ?_⟩
      by_cases c4' : ¬ (q.2 < (m : Int))
      · have c4 := c4'
        rw [decide_eq_false c4]
        exact iteT ⟨_, rfl, rfl, fun d nd => err (.right hq ⟨c1, c2⟩ (fun z => c4 z.2) fine) d nd⟩
      have c4 := Decidable.not_not.mp c4'
      rw [decide_eq_true c4]
      refine iteF ?_
      obtain ⟨a, ha⟩ : ∃ a : Nat, q.1 = a := ⟨q.1.toNat, by omega⟩
      obtain ⟨b, hb⟩ : ∃ b : Nat, q.2 = b := ⟨q.2.toNat, by omega⟩
      have hat : ((List.range n).map (adjR ps))[a]? = some (adjR ps a) := by rw [List.getElem?_map, List.getElem?_range (by omega)]; rfl
      obtain ⟨vs, y, hv, hvx, hxl, hx0, _⟩ := ll.at hat
      rw [ha, hb]
      have psl : ps.length ≤ qs.length := by
        have := congrArg List.length eps
        rw [upP_len, List.length_take] at this
        omega
      refine ⟨_, rfl, _, rfl, ixl (SqL.of hv) (at_n hvx) ⟨.inl ⟨rfl, _, SqL.of hxl⟩, _, rfl, y, _, _, rfl, rfl, hxl, ?_, _, _, ps ++ [(a, b)], rfl, s2.mut hx0, ?_, ?_, ?_⟩⟩
      · rw [List.length_map]
        exact szl (Nat.le_trans (adj_len _ _) (by omega))
      · rw [take_more hq, eps, upP_snoc, ← ha, ← hb]
      · intro p hp
        rcases List.mem_append.mp hp with h | h
        · exact wi p h
        · rw [List.mem_singleton.mp h]
          exact ⟨by show a < n; omega, by show b < m; omega⟩
      · have := ll.grow hat hv hvx (adjR ps a ++ [b])
        rw [adj_step, List.map_append] at this
        exact this
    · rintro σ H2 ⟨v4, v5, ps, rfl, s2, eps, wi, ll⟩
      rw [hul, List.take_length] at eps
      exact ⟨_, rfl, qn ps eps wi ro H2 s2 nro ll.lr⟩
/-! ### an exchange -/
/-- two lists of partners -/
structure LR2 (H : Hp) (a b : Addr) (L R : List (Option Nat)) : Prop where
  l : H a = some (.lst (L.map pN))
  r : H b = some (.lst (R.map pN))
  ne : a ≠ b
theorem LR2.setL {H : Hp} {a b : Addr} {L R : List (Option Nat)} (h : LR2 H a b L R) (i : Nat) (x : Option Nat) : LR2 (upd H a (.lst ((L.set i x).map pN))) a b (L.set i x) R :=
  ⟨upd_same, by rw [upd_ne (Ne.symm h.ne)]; exact h.r, h.ne⟩
theorem LR2.setR {H : Hp} {a b : Addr} {L R : List (Option Nat)} (h : LR2 H a b L R) (i : Nat) (x : Option Nat) : LR2 (upd H b (.lst ((R.set i x).map pN))) a b L (R.set i x) :=
  ⟨by rw [upd_ne h.ne]; exact h.l, upd_same, h.ne⟩
theorem map_set {α β : Type} (f : α → β) (l : List α) (i : Nat) (x : α) : (l.map f).set i (f x) = (l.set i x).map f := by
  rw [List.map_set]
theorem at_fun {L : List (Option Nat)} {i : Nat} {x : Option Nat} (h : i < L.length) : at_ (L.set i x) = sw (at_ L) i x := by
  funext j
  rw [at_set h]
  rfl
theorem ixn {n k : Nat} (h : k < n) : ixN n (k : Int) = some k := by
  unfold ixN
  rw [if_pos (by omega), if_pos (by omega)]
  rfl
def sp_exchange : Sp := fun vs H Q _ => ∃ (r : Nat) (d a b : Addr) (cm : List (Nat × Nat)) (L R : List (Option Nat)) (t : K02.PL), vs = [nV r, .ref d, .ref a, .ref b] ∧ H d = some (.dK (dkN nV cm)) ∧ LR2 H a b L R ∧ Ch (K02.look cm) (at_ L) (some r) t ∧ (t.map (·.1)).Nodup ∧ (∀ q ∈ t, q.1 < L.length ∧ q.2 < R.length) ∧
  ∀ H' L' R', StN0 H H' a b → LR2 H' a b L' R' → L'.length = L.length → R'.length = R.length → at_ L' = exL (at_ L) t → at_ R' = exR (at_ R) t → Q .non H'
theorem ok_exchange {f : Addr} {fd : FuncData} (F : Fun K "_exchange" "_exchange" s_exchange f fd) (T : Txt mg) : FnOk P w K mg base CX0 1 f fd ["right", "came", "of_left", "of_right"] sp_exchange := by
  refine F.ok sc_exchange (fun vs H Q E h => ?_) (fun cdv A outer s H vs Q E hr h => ?_)
  · obtain ⟨r, d, a, b, cm, L, R, t, rfl, _⟩ := h
    rfl
  · obtain ⟨r, d, a, b, cm, L0, R0, t0, rfl, ed, lr0, ch0, nd0, lt0, q⟩ := h
    refine ⟨_, (pss_one (ps_while PassesOwn.never (pt_cmpR op_notN (pv 0) pe_non (nomark _))
 (pss_cons (ps_set (i := 4) sc_exchange.nd rfl (.inl rfl) (pe_dget (hu_of hr) (pv 1) (pv 0) (fun _ _ => rfl)))
 (pss_cons (ps_set (i := 5) sc_exchange.nd rfl (.inl rfl) (pe_ix ix_list (pv 2) (pv 4) (fun _ _ => rfl)))
 (pss_cons (ps_asg (pv 0) (pg_sub (pv 2) (pv 4) set_list))
 (pss_cons (ps_asg (pv 4) (pg_sub (pv 3) (pv 0) set_list))
 (pss_one (ps_set (i := 0) sc_exchange.nd rfl (.inl rfl) (pv 5))))))))), ?_⟩
    have da : d ≠ a := ne_of ed lr0.l (by intro z; cases z)
    have db : d ≠ b := ne_of ed lr0.r (by intro z; cases z)
    refine ⟨fun c σ H' => ∃ (x : Option Nat) (L R : List (Option Nat)) (t : K02.PL) (v4 v5 : Option V), σ = [some (pN x), some (.ref d), some (.ref a), some (.ref b), v4, v5] ∧ StN0 H H' a b ∧ LR2 H' a b L R ∧ Ch (K02.look cm) (at_ L) x t ∧ (t.map (·.1)).Nodup ∧ (∀ q ∈ t, q.1 < L.length ∧ q.2 < R.length) ∧
        L.length = L0.length ∧ R.length = R0.length ∧ exL (at_ L) t = exL (at_ L0) t0 ∧ exR (at_ R) t = exR (at_ R0) t0 ∧ c = t.length,
      ⟨_, some r, L0, R0, t0, none, none, rfl, StN0.refl _ _ _, lr0, ch0, nd0, lt0, rfl, rfl, rfl, rfl, rfl⟩, ?_⟩
    rintro c σ H1 ⟨x, L, R, t, v4, v5, rfl, s1, lr, ch, nd, lt, hL, hR, eL, eR, rfl⟩
    cases ch with
    | nil =>
      refine ⟨_, rfl, rfl, _, rfl, ?_⟩
      exact iteF (q H1 L R s1 lr hL hR eL eR)
    | @cons r l t h1 h2 =>
      obtain ⟨hl, hrr⟩ := lt (l, r) List.mem_cons_self
      obtain ⟨n1, n2⟩ := List.nodup_cons.mp nd
      refine ⟨_, rfl, rfl, _, rfl, iteT ⟨fun σ H' => ∃ (x : Option Nat) (L R : List (Option Nat)) (t' : K02.PL) (v4 v5 : Option V), σ = [some (pN x), some (.ref d), some (.ref a), some (.ref b), v4, v5] ∧ StN0 H H' a b ∧ LR2 H' a b L R ∧ Ch (K02.look cm) (at_ L) x t' ∧ (t'.map (·.1)).Nodup ∧ (∀ q ∈ t', q.1 < L.length ∧ q.2 < R.length) ∧
        L.length = L0.length ∧ R.length = R0.length ∧ exL (at_ L) t' = exL (at_ L0) t0 ∧ exR (at_ R) t' = exR (at_ R0) t0 ∧ t'.length = t.length, ?_, ?_⟩⟩
      · rintro σ' H' ⟨x, L, R, t', v4, v5, rfl, a1, a2, a3, a4, a5, a6, a7, a8, a9, a10⟩
        exact ⟨t'.length, by rw [a10]; simp, x, L, R, t', v4, v5, rfl, a1, a2, a3, a4, a5, a6, a7, a8, a9, rfl⟩
      have ed1 := s1 _ _ ed da db
      have g1 := dget_n (k := r) ed1
      rw [h1] at g1
      refine ⟨_, rfl, _, rfl, d, _, rfl, g1, ?_⟩
      refine ⟨_, rfl, _, rfl, ixl (SqL.of lr.l) (at_n (getn (at_get hl))) ?_⟩
      refine ⟨_, rfl, _, rfl, _, rfl, a, _, (l : Int), l, rfl, rfl, lr.l, ixn (by rw [List.length_map]; exact hl), ?_⟩
      have lr1 := lr.setL l (some r)
      have s2 : StN0 H (upd H1 a (.lst ((L.set l (some r)).map pN))) a b := s1.upA
      dsimp only
      rw [map_set pN L l (some r)]
      generalize upd H1 a (.lst ((L.set l (some r)).map pN)) = H2 at lr1 s2 ⊢
      refine ⟨_, rfl, _, rfl, _, rfl, b, _, (r : Int), r, rfl, rfl, lr1.r, ixn (by rw [List.length_map]; exact hrr), ?_⟩
      have lr2 := lr1.setR r (some l)
      have s3 : StN0 H (upd H2 b (.lst ((R.set r (some l)).map pN))) a b := s2.upB
      dsimp only
      rw [show ((R.map pN).set r (nV l) : List V) = (R.set r (some l)).map pN from map_set pN R r (some l)]
      generalize upd H2 b (.lst ((R.set r (some l)).map pN)) = H3 at lr2 s3 ⊢
      refine ⟨_, rfl, ?_⟩
      refine ⟨at_ L l, L.set l (some r), R.set r (some l), t, _, _, rfl, s3, lr2, ?_, n2, fun q hq => ?_, by rw [List.length_set]; exact hL, by rw [List.length_set]; exact hR, ?_, ?_, rfl⟩
      · refine h2.congr fun q hq => ?_
        rw [at_set hl, if_neg fun z : l = q.1 => n1 (List.mem_map.mpr ⟨q, hq, z.symm⟩)]
      · rw [List.length_set, List.length_set]
        exact lt q (List.mem_cons_of_mem _ hq)
      · rw [at_fun hl]
        exact eL
      · rw [at_fun hrr]
        exact eR
end
end K26W

namespace K26W
open PySem PySem.Spec PyProof.Rows L2 KH KD KP K26
abbrev s_give_partner : Stmt := topS 9
theorem sc_give_partner : FnScope ["start", "rows", "of_left", "of_right", "came", "queue", "k", "right"] ["start", "rows", "of_left", "of_right"] (defScope s_give_partner) := ⟨rfl, rfl, rfl, by decide +kernel, rfl, by decide +kernel, by decide +kernel⟩

/-! ### the search for a free right -/
structure Bf (ps : K02.PL) (f g : Nat → Option Nat) (k0 : Nat) (cm : List (Nat × Nat)) (qs : List Nat) : Prop where
  nd : (cm.map (·.1)).Nodup
  qnd : qs.Nodup
  st : k0 ∈ qs
  came : ∀ r l, K02.look cm r = some l → ∃ l', g r = some l' ∧ l' ∈ qs
  only : ∀ l ∈ qs, f l = none → l = k0
  way : ∀ l ∈ qs, ∃ t, Ch (K02.look cm) f (f l) t ∧ (l :: t.map (·.1)).Nodup ∧ (∀ q ∈ t, q ∈ ps) ∧ (∀ q ∈ t, q.1 ∈ qs) ∧ k0 ∈ l :: t.map (·.1)
  qk : ∀ l ∈ qs, l ≠ k0 → ∃ r, f l = some r ∧ K02.look cm r ≠ none
theorem Bf.start {ps : K02.PL} {f g : Nat → Option Nat} {k0 : Nat} (h : f k0 = none) : Bf ps f g k0 [] [k0] := by
  refine ⟨List.nodup_nil, by simp, List.mem_singleton.mpr rfl, fun r l e => (by cases e), fun l hl _ => List.mem_singleton.mp hl, fun l hl => ?_, fun l hl ne => absurd (List.mem_singleton.mp hl) ne⟩
  rw [List.mem_singleton.mp hl, h]
  exact ⟨[], .nil, by simp, fun q hq => (by cases hq), fun q hq => (by cases hq), List.mem_cons_self⟩
theorem look_put_old {cm : List (Nat × Nat)} {r l : Nat} (hr : K02.look cm r = none) : ∀ r' x, K02.look cm r' = some x → K02.look (K02.put cm r l) r' = some x := fun r' x e => by
  rw [K02.look_put, if_neg fun z : r = r' => by rw [← z, hr] at e; cases e]
  exact e
theorem Bf.grow {ps : K02.PL} {f g : Nat → Option Nat} {k0 : Nat} {cm : List (Nat × Nat)} {qs : List Nat} (h : Bf ps f g k0 cm qs) (inv : ∀ l r, f l = some r ↔ g r = some l) (h0 : f k0 = none) {l r l' : Nat} (hl : l ∈ qs) (hr : K02.look cm r = none) (e : (l, r) ∈ ps) (hg : g r = some l') : Bf ps f g k0 (K02.put cm r l) (qs ++ [l']) := by
  have fl' : f l' = some r := (inv l' r).mpr hg
  have ne0 : l' ≠ k0 := fun z => by rw [z, h0] at fl'; cases fl'
  have new : l' ∉ qs := fun z => by
    obtain ⟨r1, a, b⟩ := h.qk l' z ne0
    rw [fl'] at a
    cases a
    exact b hr
  have more := look_put_old (l := l) hr
  have key : K02.look (K02.put cm r l) r = some l := by rw [K02.look_put, if_pos rfl]
  refine ⟨(put_keys r l cm h.nd).1, List.nodup_append.mpr ⟨h.qnd, by simp, fun x hx y hy z => new (by rw [← List.mem_singleton.mp hy, ← z]; exact hx)⟩, List.mem_append_left _ h.st, fun r1 x e1 => ?_, fun x hx hn => ?_, fun x hx => ?_, fun x hx ne => ?_⟩
  · rw [K02.look_put] at e1
    by_cases c : r = r1
    · subst c
      exact ⟨l', hg, by simp⟩
    · rw [if_neg c] at e1
      obtain ⟨y, a, b⟩ := h.came r1 x e1
      exact ⟨y, a, List.mem_append_left _ b⟩
  · rcases List.mem_append.mp hx with hx | hx
    · exact h.only x hx hn
    · rw [List.mem_singleton.mp hx, fl'] at hn
      cases hn
  · rcases List.mem_append.mp hx with hx | hx
    · obtain ⟨t, a, b, c, d, e1⟩ := h.way x hx
      exact ⟨t, a.more more, b, c, fun q hq => List.mem_append_left _ (d q hq), e1⟩
    · obtain ⟨t, a, b, c, d, e1⟩ := h.way l hl
      rw [List.mem_singleton.mp hx, fl']
      refine ⟨(l, r) :: t, .cons key (a.more more), List.nodup_cons.mpr ⟨fun z => ?_, b⟩, fun q hq => ?_, fun q hq => ?_, List.mem_cons_of_mem _ e1⟩
      · rcases List.mem_cons.mp z with z | z
        · exact new (z ▸ hl)
        · obtain ⟨q, hq, e2⟩ := List.mem_map.mp z
          exact new (e2 ▸ d q hq)
      · rcases List.mem_cons.mp hq with hq | hq
        · rw [hq]
          exact e
        · exact c q hq
      · rcases List.mem_cons.mp hq with hq | hq
        · rw [hq]
          exact List.mem_append_left _ hl
        · exact List.mem_append_left _ (d q hq)
  · rcases List.mem_append.mp hx with hx | hx
    · obtain ⟨r1, a, b⟩ := h.qk x hx ne
      refine ⟨r1, a, ?_⟩
      cases c : K02.look cm r1 with
      | none => exact absurd c b
      | some y => rw [more r1 y c]; exact fun z => by cases z
    · rw [List.mem_singleton.mp hx]
      exact ⟨r, fl', by rw [key]; exact fun z => by cases z⟩
theorem Bf.free {ps : K02.PL} {f g : Nat → Option Nat} {k0 : Nat} {cm : List (Nat × Nat)} {qs : List Nat} (h : Bf ps f g k0 cm qs) {l r : Nat} (hl : l ∈ qs) (hr : K02.look cm r = none) (e : (l, r) ∈ ps) :
    ∃ t, Ch (K02.look (K02.put cm r l)) f (some r) t ∧ (t.map (·.1)).Nodup ∧ (∀ q ∈ t, q ∈ ps) ∧ (∀ x ∈ t.map (·.1), f x = none → x = k0) ∧ k0 ∈ t.map (·.1) := by
  obtain ⟨t, a, b, c, d, e1⟩ := h.way l hl
  have key : K02.look (K02.put cm r l) r = some l := by rw [K02.look_put, if_pos rfl]
  refine ⟨(l, r) :: t, .cons key (a.more (look_put_old hr)), b, fun q hq => ?_, fun x hx hn => ?_, e1⟩
  · rcases List.mem_cons.mp hq with hq | hq
    · rw [hq]
      exact e
    · exact c q hq
  · refine h.only x ?_ hn
    rcases List.mem_cons.mp hx with z | z
    · rw [z]
      exact hl
    · obtain ⟨q, hq, e2⟩ := List.mem_map.mp z
      rw [← e2]
      exact d q hq
/-- rows that stand beside two lists -/
def RW (H : Hp) (ro a b : Addr) (bs : List (List Nat)) : Prop := ro ≠ a ∧ ro ≠ b ∧ ∃ as : List Addr, H ro = some (.lst (as.map V.ref)) ∧ Paired (fun x l => x ≠ a ∧ x ≠ b ∧ H x = some (.lst (l.map nV))) as bs
theorem RW.st {H H' : Hp} {ro a b : Addr} {bs : List (List Nat)} (h : RW H ro a b bs) (s : StN0 H H' a b) : RW H' ro a b bs := by
  obtain ⟨h1, h2, as, h3, h4⟩ := h
  exact ⟨h1, h2, as, s _ _ h3 h1 h2, P_mono (fun _ _ ⟨n1, n2, e⟩ => ⟨n1, n2, s _ _ e n1 n2⟩) h4⟩
theorem RW.lr {H : Hp} {ro a b : Addr} {bs : List (List Nat)} (h : RW H ro a b bs) : LR H ro bs := by
  obtain ⟨h1, h2, as, h3, h4⟩ := h
  exact ⟨as, h3, P_mono (fun _ _ ⟨_, _, e⟩ => e) h4⟩
theorem LR2.same {H H' : Hp} {a b : Addr} {L R : List (Option Nat)} (h : LR2 H a b L R) (s : Same H H') : LR2 H' a b L R := ⟨s _ _ h.l, s _ _ h.r, h.ne⟩
theorem St_after {H H1 H2 : Hp} {a b : Addr} (s : Same H H1) (t : StN0 H1 H2 a b) : StN0 H H2 a b := fun c o e x y => t c o (s c o e) x y
theorem pN_isN (x : Option Nat) : decide (pN x = V.non) = x.isNone := by
  cases x with
  | none => rfl
  | some n => rfl
section
variable {P : Program} {w : World} {K : PySem.W.Frag} {mg : Str → Option Value} {base : Heap} {CN CB CD CT CU fI : Addr}
def sp_give : Sp := fun vs H Q _ => ∃ (k ro0 : Nat) (ro a b : Addr) (n m : Nat) (ps : K02.PL) (L R : List (Option Nat)) (F : Nat → Prop), vs = [nV k, .ref ro, .ref a, .ref b] ∧ RW H ro a b ((List.range n).map (adjR ps)) ∧ LR2 H a b L R ∧ L.length = n ∧ R.length = m ∧ In2 n m ps ∧ n ≤ 100 ∧ m ≤ 100 ∧ k < n ∧ Ok ps k (at_ L) (at_ R) F ∧
  ∀ H' L' R' F', StN0 H H' a b → LR2 H' a b L' R' → L'.length = n → R'.length = m → Ok ps (k + 1) (at_ L') (at_ R') F' → Q .non H'
theorem ok_give {f f1 : Addr} {fd fd1 : FuncData} (F : Fun K "_give_partner" "_give_partner" s_give_partner f fd) (T : Txt mg) (C_exchange : Cal P w K mg base 1 "_exchange" ["right", "came", "of_left", "of_right"] sp_exchange f1 fd1) : FnOk P w K mg base CX0 2 f fd ["start", "rows", "of_left", "of_right"] sp_give := by
  refine F.ok sc_give_partner (fun vs H Q E h => ?_) (fun cdv A outer s H vs Q E hr h => ?_)
  · obtain ⟨k, _, ro, a, b, n, m, ps, L, R, F, rfl, _⟩ := h
    rfl
  · obtain ⟨k0, _, ro, a, b, n, m, ps, L, R, F, rfl, rw0, lr0, hL, hR, hw, hn, hm, hk, ok, q⟩ := h
    refine ⟨_, (pss_cons (ps_set (i := 4) sc_give_partner.nd rfl (.inl rfl) pe_dnewK)
 (pss_cons (ps_set (i := 5) sc_give_partner.nd rfl (.inl rfl) (pe_lst (pa_cons (pv 0) pa_nil)))
 (pss_cons (ps_set (i := 6) sc_give_partner.nd rfl (.inl rfl) pe_int)
 (pss_one (ps_while PassesOwn.never (pt_cmpR op_lt (pv 6) (pe_callB call_len_seq (by rfl) T.len (by decide +kernel) (pa_cons (pv 5) pa_nil)) (nomark _))
 (pss_cons (ps_for PassesOwn.never rfl (pi_list (pe_ix ix_list (pv 1) (pe_ix ix_list (pv 5) (pv 6) (fun _ _ => rfl)) (fun _ _ => rfl))) (pg_name (i := 7) sc_give_partner.nd rfl (.inl rfl))
 (pss_one (ps_if (pt_cmp (pc_dnotin (hu_of hr) (pv 7) (pv 4)))
 (pss_cons (ps_dput (hu_of hr) (pv 4) (pv 7) (pe_ix ix_list (pv 5) (pv 6) (fun _ _ => rfl)) rfl)
 (pss_cons (ps_if (pt_cmpR op_isN (pe_ix ix_list (pv 3) (pv 7) (fun _ _ => rfl)) pe_non (nomark _))
 (pss_cons (ps_expr (pe_call C_exchange.ok (hr.mono (by decide)) (by rfl) C_exchange.mg C_exchange.kp C_exchange.b .nil pass0 (pa_cons (pv 7) (pa_cons (pv 4) (pa_cons (pv 2) (pa_cons (pv 3) pa_nil))))))
 (pss_one ps_retN))
 pss_nil)
 (pss_one (ps_expr (pe_bm PySem.F.plainAttrs_list PySem.F.slot_list_append PySem.F.type_list_append mt_append (pv 5) (pa_cons (pe_ix ix_list (pv 3) (pv 7) (fun _ _ => rfl)) pa_nil))))))
 pss_nil)))
 (pss_one (ps_set (i := 6) sc_give_partner.nd rfl (.inl rfl) (pe_op op_add (pv 6) pe_int))))))))), ?_⟩
    have f0 : at_ L k0 = none := ok.fresh k0 (Nat.le_refl _)
    have inv := ok.iff
    have ltL : ∀ {l r}, at_ L l = some r → l < n := fun h => by rw [← hL]; exact at_lt h
    refine fun d nd => ?_
    have s1 : Same H (upd H d (.dK [])) := (Same.refl H).new nd
    have ed : (upd H d (.dK [])) d = some (.dK (dkN nV [])) := upd_same
    generalize upd H d (.dK []) = H1 at s1 ed ⊢
    refine ⟨_, rfl, (by show 1 ≤ sizeLine; decide), fun qa nqa => ?_⟩
    have s2 : Same H1 (upd H1 qa (.lst [nV k0])) := (Same.refl H1).new nqa
    have eq0 : (upd H1 qa (.lst [nV k0])) qa = some (.lst ([k0].map nV)) := upd_same
    have nqaH : H qa = none := s1.free nqa
    have dqa : d ≠ qa := ne_of_none ed nqa
    generalize upd H1 qa (.lst [nV k0]) = H2 at s2 eq0 ⊢
    have s02 := s1.trans s2
    refine ⟨fun c σ H' => ∃ (i : Nat) (cm : List (Nat × Nat)) (qs : List Nat) (v7 : Option V), σ = [some (nV k0), some (.ref ro), some (.ref a), some (.ref b), some (.ref d), some (.ref qa), some (nV i), v7] ∧ Same H H' ∧ H' d = some (.dK (dkN nV cm)) ∧ H' qa = some (.lst (qs.map nV)) ∧ Bf ps (at_ L) (at_ R) k0 cm qs ∧ i ≤ qs.length ∧
        (∀ j l, j < i → qs[j]? = some l → ∀ r, (l, r) ∈ ps → K02.look cm r ≠ none) ∧ c = n - i,
      ⟨_, 0, [], [k0], none, rfl, s02, s2 _ _ ed, eq0, Bf.start f0, Nat.zero_le _, fun j l h => absurd h (Nat.not_lt_zero j), rfl⟩, ?_⟩
    rintro c σ H3 ⟨i, cm, qs, v7, rfl, s3, ed3, eq3, bf, hi, done, rfl⟩
    have qlt : ∀ l ∈ qs, l < n := fun l hl => by
      by_cases c : l = k0
      · omega
      · obtain ⟨r, h1, _⟩ := bf.qk l hl c
        exact ltL h1
    have qlen : qs.length ≤ n := K02.nodup_len n qs bf.qnd qlt
    refine ⟨_, rfl, _, rfl, qa, _, rfl, .inl (SqL.of eq3), _, _, rfl, rfl, _, rfl, ite2 (fun c => ?_) (fun c => ?_)⟩
    case refine_2 =>
      have ie : qs.length ≤ i := by
        have := of_decide_eq_false (Bool.eq_false_iff.mpr c)
        rw [List.length_map] at this
        omega
      refine q H3 L R _ (fun c o e _ _ => s3 _ _ e) (lr0.same s3) hL hR (ok.fail bf.st fun l hl r hr => ?_)
      obtain ⟨j, hj⟩ := List.getElem?_of_mem hl
      have := done j l (by have := lt_get hj; omega) hj r hr
      cases e : K02.look cm r with
      | none => exact absurd e this
      | some x => exact bf.came r x e
    have ilt : i < qs.length := by
      have := of_decide_eq_true c
      rw [List.length_map] at this
      omega
    obtain ⟨l, hl⟩ := get_lt ilt
    have hlm := List.mem_of_getElem? hl
    have hln := qlt l hlm
    refine ⟨fun σ H' => ∃ (cm : List (Nat × Nat)) (qs : List Nat) (v7 : Option V), σ = [some (nV k0), some (.ref ro), some (.ref a), some (.ref b), some (.ref d), some (.ref qa), some (nV (i + 1)), v7] ∧ Same H H' ∧ H' d = some (.dK (dkN nV cm)) ∧ H' qa = some (.lst (qs.map nV)) ∧ Bf ps (at_ L) (at_ R) k0 cm qs ∧ i + 1 ≤ qs.length ∧
        (∀ j l, j < i + 1 → qs[j]? = some l → ∀ r, (l, r) ∈ ps → K02.look cm r ≠ none), ?_, ?_⟩
    · rintro σ' H' ⟨cm, qs, v7, rfl, a1, a2, a3, a4, a5, a6⟩
      exact ⟨n - (i + 1), by omega, i + 1, cm, qs, v7, rfl, a1, a2, a3, a4, a5, a6, rfl⟩
    obtain ⟨vs, y, hv, hvy, ey⟩ := rw0.lr.at (i := l) (l := adjR ps l) (by rw [List.getElem?_map, List.getElem?_range hln]; rfl)
    refine ⟨_, rfl, _, rfl, _, rfl, ixl (SqL.of eq3) (at_n (getn hl)) (ixl (SqL.of (s3 _ _ hv)) (at_n hvy) ⟨y, rfl, ⟨_, SqL.of (s3 _ _ ey)⟩, for_list (K := K) (a := y) (xs := (adjR ps l).map nV) (fun j σ H' => ∃ (cm : List (Nat × Nat)) (qs' : List Nat) (v7 : Option V), σ = [some (nV k0), some (.ref ro), some (.ref a), some (.ref b), some (.ref d), some (.ref qa), some (nV i), v7] ∧ Same H H' ∧ H' d = some (.dK (dkN nV cm)) ∧ H' qa = some (.lst ((qs ++ qs').map nV)) ∧ Bf ps (at_ L) (at_ R) k0 cm (qs ++ qs') ∧
        (∀ j l, j < i → qs[j]? = some l → ∀ r, (l, r) ∈ ps → K02.look cm r ≠ none) ∧ ∀ r ∈ (adjR ps l).take j, K02.look cm r ≠ none)
      ⟨cm, [], v7, rfl, s3, ed3, by rw [List.append_nil]; exact eq3, by rw [List.append_nil]; exact bf, done, fun r hr => by rw [List.take_zero] at hr; cases hr⟩ (fun j σ H' _ ⟨_, _, _, _, sm, _⟩ => SqL.of (sm _ _ ey)) ?_ ?_⟩)⟩
    · rintro j x σ H4 hx ⟨cm, qs', v7, rfl, s4, ed4, eq4, bf, done, dr⟩
      obtain ⟨r, hr1, rfl⟩ := getn_inv hx
      have her : (l, r) ∈ ps := mem_adj.mp (List.mem_of_getElem? hr1)
      have hrm : r < m := (hw _ her).2
      have cml : cm.length ≤ m := by
        have := K02.nodup_len m (cm.map (·.1)) bf.nd fun x hx => by
          cases e : K02.look cm x with
          | none => exact (K02.look_none_iff.mp e hx).elim
          | some z =>
            obtain ⟨l', h1, _⟩ := bf.came x z e
            rw [← hR]
            exact at_lt h1
        rwa [List.length_map] at this
      have lr4 := lr0.same s4
      refine ⟨_, rfl, _, rfl, d, _, rfl, dget_n (k := r) ed4, _, rfl, ?_⟩
      cases e : K02.look cm r with
      | some x =>
        refine iteF ⟨cm, qs', _, rfl, s4, ed4, eq4, bf, done, fun r' hr' => ?_⟩
        rw [take_more hr1] at hr'
        rcases List.mem_append.mp hr' with h | h
        · exact dr r' h
        · rw [List.mem_singleton.mp h, e]
          exact fun z => by cases z
      | none =>
        refine iteT ?_
        have hl4 : (qs ++ qs')[i]? = some l := by rw [List.getElem?_append_left ilt]; exact hl
        have hlq := List.mem_of_getElem? hl4
        have nd4 : H d = none := nd
        have da : d ≠ a := Ne.symm (ne_of_none lr0.l nd)
        have db : d ≠ b := Ne.symm (ne_of_none lr0.r nd)
        refine ⟨_, rfl, _, rfl, ixl (SqL.of eq4) (at_n (getn hl4)) ⟨_, rfl, _, rfl, d, _, rfl, dput_n (f := nV) (k := r) (v := l) ed4 (szl (by omega)) bf.nd, ?_⟩⟩
        have s5 : Same H (upd H4 d (.dK (dkN nV (K02.put cm r l)))) := s4.mut nd
        have ed5 : (upd H4 d (.dK (dkN nV (K02.put cm r l)))) d = some (.dK (dkN nV (K02.put cm r l))) := upd_same
        have eq5 : (upd H4 d (.dK (dkN nV (K02.put cm r l)))) qa = some (.lst ((qs ++ qs').map nV)) := by rw [upd_ne (Ne.symm dqa)]; exact eq4
        generalize upd H4 d (.dK (dkN nV (K02.put cm r l))) = H5 at s5 ed5 eq5 ⊢
        have lr5 := lr0.same s5
        refine ⟨_, rfl, _, rfl, ixl (SqL.of lr5.r) (at_n (getn (at_get (by rw [hR]; exact hrm)))) ⟨rfl, _, rfl, ?_⟩⟩
        rw [pN_isN]
        have old : ∀ r', K02.look cm r' ≠ none → K02.look (K02.put cm r l) r' ≠ none := fun r' h => by
          cases c : K02.look cm r' with
          | none => exact absurd c h
          | some z => rw [look_put_old e r' z c]; exact fun z => by cases z
        cases eg : at_ R r with
        | none =>
          obtain ⟨t, t1, t2, t3, t4, t5⟩ := bf.free hlq e her
          refine iteT ⟨_, rfl, _, rfl, _, rfl, _, rfl, r, d, a, b, _, L, R, t, rfl, ed5, lr5, t1, t2, fun p hp => ?_, fun H6 L' R' st lr' hl' hr' eL eR => ?_⟩
          · have := hw p (t3 p hp)
            rw [hL, hR]
            exact this
          · refine q H6 L' R' F (St_after s5 st) lr' (by omega) (by omega) ?_
            rw [eL, eR]
            exact ok.aug t1 t3 t2 eg t5 t4
        | some l' =>
          have bf5 := bf.grow inv f0 hlq e her eg
          refine iteF ⟨_, rfl, .inl ⟨rfl, _, SqL.of eq5⟩, _, rfl, _, rfl, ixl (SqL.of lr5.r) (at_n (getn (at_get (by rw [hR]; exact hrm)))) ⟨qa, _, _, rfl, rfl, eq5, ?_, K02.put cm r l, qs' ++ [l'], _, rfl, s5.mut nqaH, ?_, ?_, ?_, fun j x hj hx r' h' => old r' (done j x hj hx r' h'), fun r' hr' => ?_⟩⟩
          · rw [List.length_map]
            have : (qs ++ qs').length ≤ n := K02.nodup_len n _ bf.qnd fun x hx => by
              by_cases c : x = k0
              · omega
              · obtain ⟨r1, h1, _⟩ := bf.qk x hx c
                exact ltL h1
            exact szl (by omega)
          · rw [upd_ne dqa]
            exact ed5
          · rw [upd_same, eg, ← List.append_assoc, List.map_append (l₂ := [l'])]
            rfl
          · rw [← List.append_assoc]
            exact bf5
          · rw [take_more hr1] at hr'
            rcases List.mem_append.mp hr' with h | h
            · exact old r' (dr r' h)
            · rw [List.mem_singleton.mp h, K02.look_put, if_pos rfl]
              exact fun z => by cases z
    · rintro σ H4 ⟨cm, qs', v7, rfl, s4, ed4, eq4, bf, done, dr⟩
      rw [List.length_map, List.take_length] at dr
      refine ⟨_, rfl, _, _, rfl, rfl, cm, qs ++ qs', v7, rfl, s4, ed4, eq4, bf, by rw [List.length_append]; omega, fun j x hj hx r hr => ?_⟩
      by_cases e : j = i
      · subst e
        rw [List.getElem?_append_left ilt, hl] at hx
        cases hx
        exact dr r (mem_adj.mpr hr)
      · refine done j x (by omega) ?_ r hr
        rw [List.getElem?_append_left (by omega)] at hx
        exact hx
end
end K26W

namespace K26W
open PySem PySem.Spec PyProof.Rows L2 KH KD KP K26
abbrev s_reached : Stmt := topS 10
theorem sc_reached : FnScope ["rows", "of_left", "of_right", "queue", "rights", "k", "right", "left"] ["rows", "of_left", "of_right"] (defScope s_reached) := ⟨rfl, rfl, rfl, by decide +kernel, rfl, by decide +kernel, by decide +kernel⟩

/-- a dict comprehension over a list that stays -/
theorem dc_list {K : PySem.W.Frag} {a : Addr} {xs : List V} {g : TG} {tt : TT} {tk tv : TE} {vs : List Nat} {σ : L2.St} {H1 : Hp} {D : Addr} {Qd : Hp → Prop} (Pv : Nat → Hp → Prop) (h0 : Pv 0 (upd H1 D (.dK []))) (hl : ∀ i H, i ≤ xs.length → Pv i H → SqL K H a xs)
    (hs : ∀ i x H, xs[i]? = some x → Pv i H → g x (wipe σ vs) H fun σ2 H2 => wipe σ2 vs = wipe σ vs ∧ tt σ2 H2 fun b H3 =>
      if b = true then tk σ2 H3 fun y H4 => tv σ2 H4 fun z H5 => ∃ kvs k, y = kV k ∧ H5 D = some (.dK kvs) ∧ kvs.length < sizeLine ∧ Pv (i + 1) (upd H5 D (.dK (putK kvs k z))) else Pv (i + 1) H3) (hd : ∀ H, Pv xs.length H → Qd H) :
    ∃ W : Nat → Nat → Hp → Prop, (∃ m, W 0 m (upd H1 D (.dK []))) ∧ ∀ i m H, W i m H →
      ((Itl K a).stop i H ∧ Qd H) ∨ ((Itl K a).go i H ∧ ∃ Nx : Hp → Prop, (∀ H', Nx H' → ∃ m', m' < m ∧ W (i + 1) m' H') ∧ ∀ x H', (Itl K a).yld i H x H' → g x (wipe σ vs) H' fun σ2 H2 => wipe σ2 vs = wipe σ vs ∧ tt σ2 H2 fun b H3 =>
        if b = true then tk σ2 H3 fun y H4 => tv σ2 H4 fun z H5 => ∃ kvs k, y = kV k ∧ H5 D = some (.dK kvs) ∧ kvs.length < sizeLine ∧ Nx (upd H5 D (.dK (putK kvs k z))) else Nx H3) := by
  refine ⟨fun i m H => m = xs.length - i ∧ i ≤ xs.length ∧ Pv i H, ⟨xs.length, by simp, Nat.zero_le _, h0⟩, ?_⟩
  rintro i m H ⟨rfl, hi, p⟩
  have q := hl i H hi p
  by_cases hlt : i < xs.length
  · refine .inr ⟨⟨xs, xs[i], q, by simp [hlt]⟩, Pv (i + 1), fun H' p' => ⟨xs.length - (i + 1), by omega, rfl, hlt, p'⟩, fun x H' y => ?_⟩
    obtain ⟨e, y⟩ := y
    subst e
    exact hs i x _ (y xs q) p
  · have e : i = xs.length := by omega
    subst e
    exact .inl ⟨⟨xs, q, Nat.le_refl _⟩, hd H p⟩
/-! ### what is reached -/
structure Rf (n : Nat) (ps : K02.PL) (f g : Nat → Option Nat) (F : Nat → Prop) (rt qs : List Nat) : Prop where
  rnd : rt.Nodup
  qnd : qs.Nodup
  rc : Rch n ps f g qs
  key : ∀ r ∈ rt, ∃ l ∈ qs, (l, r) ∈ ps
  part : ∀ r ∈ rt, ∃ l', g r = some l' ∧ l' ∈ qs
  qk : ∀ l ∈ qs, f l = none ∨ ∃ r ∈ rt, f l = some r
  inF : ∀ l ∈ qs, F l
theorem Rf.start {n : Nat} {ps : K02.PL} {f g : Nat → Option Nat} {F : Nat → Prop} (ok : Ok ps n f g F) {qs : List Nat} (hq : qs = (List.range n).filter fun l => (f l).isNone) : Rf n ps f g F [] qs := by
  have mem : ∀ l, l ∈ qs ↔ l < n ∧ f l = none := fun l => by
    rw [hq, List.mem_filter, List.mem_range, Option.isNone_iff_eq_none]
  refine ⟨List.nodup_nil, by rw [hq]; exact List.Nodup.sublist List.filter_sublist List.nodup_range, ⟨fun l hl => ((mem l).mp hl).1, fun l h1 h2 => (mem l).mpr ⟨h1, h2⟩, fun S h1 _ l hl => h1 l ((mem l).mp hl).1 ((mem l).mp hl).2⟩, fun r h => (by cases h), fun r h => (by cases h), fun l hl => .inl ((mem l).mp hl).2, fun l hl => ok.un l ((mem l).mp hl).1 ((mem l).mp hl).2⟩
theorem Rf.grow {n m : Nat} {ps : K02.PL} (hw : In2 n m ps) {f g : Nat → Option Nat} {F : Nat → Prop} (ok : Ok ps n f g F) {rt qs : List Nat} (h : Rf n ps f g F rt qs) {l r : Nat} (hl : l ∈ qs) (hr : r ∉ rt) (e : (l, r) ∈ ps) : ∃ l', g r = some l' ∧ Rf n ps f g F (rt ++ [r]) (qs ++ [l']) := by
  obtain ⟨l', hg, fl⟩ := ok.cl l r (h.inF l hl) e
  have ef : f l' = some r := (ok.iff l' r).mpr hg
  have new : l' ∉ qs := fun z => by
    rcases h.qk l' z with a | ⟨r1, a, b⟩
    · rw [ef] at a
      cases a
    · rw [ef] at b
      cases b
      exact hr a
  refine ⟨l', hg, List.nodup_append.mpr ⟨h.rnd, by simp, fun x hx y hy z => hr (by rw [← List.mem_singleton.mp hy, ← z]; exact hx)⟩, List.nodup_append.mpr ⟨h.qnd, by simp, fun x hx y hy z => new (by rw [← List.mem_singleton.mp hy, ← z]; exact hx)⟩, ⟨fun x hx => ?_, fun x h1 h2 => List.mem_append_left _ (h.rc.u x h1 h2), fun S h1 h2 x hx => ?_⟩, fun x hx => ?_, fun x hx => ?_, fun x hx => ?_, fun x hx => ?_⟩
  · rcases List.mem_append.mp hx with hx | hx
    · exact h.rc.lt x hx
    · rw [List.mem_singleton.mp hx]
      exact (hw _ (ok.mx.adj l' r ef)).1
  · rcases List.mem_append.mp hx with hx | hx
    · exact h.rc.least S h1 h2 x hx
    · rw [List.mem_singleton.mp hx]
      obtain ⟨l2, a, b⟩ := h2 l r (h.rc.least S h1 h2 l hl) e
      rw [hg] at a
      cases a
      exact b
  · rcases List.mem_append.mp hx with hx | hx
    · obtain ⟨y, a, b⟩ := h.key x hx
      exact ⟨y, List.mem_append_left _ a, b⟩
    · rw [List.mem_singleton.mp hx]
      exact ⟨l, List.mem_append_left _ hl, e⟩
  · rcases List.mem_append.mp hx with hx | hx
    · obtain ⟨y, a, b⟩ := h.part x hx
      exact ⟨y, a, List.mem_append_left _ b⟩
    · rw [List.mem_singleton.mp hx]
      exact ⟨l', hg, by simp⟩
  · rcases List.mem_append.mp hx with hx | hx
    · rcases h.qk x hx with a | ⟨r1, a, b⟩
      · exact .inl a
      · exact .inr ⟨r1, List.mem_append_left _ a, b⟩
    · rw [List.mem_singleton.mp hx]
      exact .inr ⟨r, by simp, ef⟩
  · rcases List.mem_append.mp hx with hx | hx
    · exact h.inF x hx
    · rw [List.mem_singleton.mp hx]
      exact fl
section
variable {P : Program} {w : World} {K : PySem.W.Frag} {mg : Str → Option Value} {base : Heap} {CN CB CD CT CU fI : Addr}
def sp_reached : Sp := fun vs H Q _ => ∃ (ro a b : Addr) (n m : Nat) (ps : K02.PL) (L R : List (Option Nat)) (F : Nat → Prop), vs = [.ref ro, .ref a, .ref b] ∧ LR H ro ((List.range n).map (adjR ps)) ∧ LR2 H a b L R ∧ L.length = n ∧ R.length = m ∧ In2 n m ps ∧ n ≤ 100 ∧ m ≤ 100 ∧ Ok ps n (at_ L) (at_ R) F ∧
  ∀ t d1 d2 qs rt H', Same H H' → H' t = some (.tup [.ref d1, .ref d2]) → H' d1 = some (.dK (dkN V.bl (tk qs))) → H' d2 = some (.dK (dkN V.bl (tk rt))) → Rf n ps (at_ L) (at_ R) F rt qs → (∀ l ∈ qs, ∀ r, (l, r) ∈ ps → r ∈ rt) → Q (.ref t) H'
theorem ok_reached {f : Addr} {fd : FuncData} (F : Fun K "_reached" "_reached" s_reached f fd) (T : Txt mg) : FnOk P w K mg base CX0 1 f fd ["rows", "of_left", "of_right"] sp_reached := by
  refine F.ok sc_reached (fun vs H Q E h => ?_) (fun cdv A outer s H vs Q E hr h => ?_)
  · obtain ⟨ro, a, b, n, m, ps, L, R, F, rfl, _⟩ := h
    rfl
  · obtain ⟨ro, a, b, n, m, ps, L, R, F, rfl, lr, lr0, hL, hR, hw, hn, hm, ok, q⟩ := h
    refine ⟨_, (pss_cons (ps_setLc (i := 3) (own := [("left", 7)]) (g := gName 7) rfl sc_reached.nd rfl rfl (sw_true rfl rfl rfl (by decide +kernel)) (pi_range1 rfl T.range (pa_cons (pe_callB call_len_seq (by rfl) T.len (by decide +kernel) (pa_cons (pv 0) pa_nil)) pa_nil)) (blkOk_by (N := ["rows", "of_left", "of_right", "queue", "rights", "k", "right", "left"]) (sc := defScope s_reached) (by decide +kernel)) (fun _ _ _ _ _ => (pg_name (i := 7) sc_reached.nd rfl (.inl rfl))) (fun _ _ _ _ _ => pts_one (pt_cmpR op_isN (pe_ix (r := rIxL K) ix_list (pv 1) (pv 7) (fun _ _ => rfl)) pe_non (nomark _))) (fun _ _ _ _ _ => (pv 7)))
 (pss_cons (ps_set (i := 4) sc_reached.nd rfl (.inl rfl) pe_dnewK)
 (pss_cons (ps_set (i := 5) sc_reached.nd rfl (.inl rfl) pe_int)
 (pss_cons (ps_while PassesOwn.never (pt_cmpR op_lt (pv 5) (pe_callB call_len_seq (by rfl) T.len (by decide +kernel) (pa_cons (pv 3) pa_nil)) (nomark _))
 (pss_cons (ps_for PassesOwn.never rfl (pi_list (pe_ix ix_list (pv 0) (pe_ix ix_list (pv 3) (pv 5) (fun _ _ => rfl)) (fun _ _ => rfl))) (pg_name (i := 6) sc_reached.nd rfl (.inl rfl))
 (pss_one (ps_if (pt_cmp (pc_dnotin (hu_of hr) (pv 6) (pv 4)))
 (pss_cons (ps_dput (hu_of hr) (pv 4) (pv 6) pe_bl rfl)
 (pss_one (ps_if (pt_cmpR op_notN (pe_ix ix_list (pv 2) (pv 6) (fun _ _ => rfl)) pe_non (nomark _))
 (pss_one (ps_expr (pe_bm PySem.F.plainAttrs_list PySem.F.slot_list_append PySem.F.type_list_append mt_append (pv 3) (pa_cons (pe_ix ix_list (pv 2) (pv 6) (fun _ _ => rfl)) pa_nil))))
 pss_nil)))
 pss_nil)))
 (pss_one (ps_set (i := 5) sc_reached.nd rfl (.inl rfl) (pe_op op_add (pv 5) pe_int)))))
 (pss_one (ps_ret (pe_tup (pa_cons (pe_dc (own := [("left", 7)]) (g := gName 7) (tt := tYes) rfl sc_reached.nd (pi_list (pv 3)) (blkOk_by (N := ["rows", "of_left", "of_right", "queue", "rights", "k", "right", "left"]) (sc := defScope s_reached) (by decide +kernel)) (fun _ _ _ _ _ => (pg_name (i := 7) sc_reached.nd rfl (.inl rfl))) (fun _ _ _ _ _ => pts_nil) (fun _ _ _ _ _ => (pv 7)) (fun _ _ _ _ _ => pe_bl)) (pa_cons (pv 4) pa_nil))))))))), ?_⟩
    obtain ⟨ras, era, prw⟩ := lr
    have hrl : ras.length = n := by rw [P_len prw, List.length_map, List.length_range]
    have lrr : LR H ro ((List.range n).map (adjR ps)) := ⟨ras, era, prw⟩
    -- queue
    refine ⟨_, rfl, ro, _, rfl, .inl (SqL.of era), _, rfl, (by omega), (by rw [List.length_map]; omega), ?_⟩
    rw [show (((ras.map V.ref).length : Nat) : Int).toNat = n by rw [List.length_map]; omega]
    refine fun qa nqa => ?_
    refine lc_range (lo := 0) (n := n) (fun i H' => Same H H' ∧ H' qa = some (.lst (((List.range i).filter fun l => (at_ L l).isNone).map nV))) ⟨(Same.refl H).new nqa, upd_same⟩ ?_ ?_
    · rintro i H1 hi ⟨s1, e1⟩
      rw [show (0 : Int) + (i : Int) = (i : Int) by omega]
      refine ⟨rfl, _, rfl, _, rfl, ixl (SqL.of (s1 _ _ lr0.l)) (at_n (getn (at_get (by rw [hL]; exact hi)))) ⟨rfl, _, rfl, ?_⟩⟩
      rw [pN_isN]
      cases c : (at_ L i).isNone with
      | true =>
        refine iteT ⟨_, rfl, _, e1, ?_, s1.mut nqa, ?_⟩
        · rw [List.length_map]
          exact szl (Nat.le_trans (List.length_filter_le _ _) (by rw [List.length_range]; omega))
        · rw [upd_same, List.range_succ, List.filter_append, List.map_append]
          simp [c]
      | false =>
        refine iteF ⟨s1, ?_⟩
        rw [e1, List.range_succ, List.filter_append]
        simp [c]
    rintro H1 ⟨s1, eq1⟩
    generalize eqs : ((List.range n).filter fun l => (at_ L l).isNone) = qs0 at eq1
    have rf0 := Rf.start ok eqs.symm
    -- rights
    refine fun d nd => ?_
    have s2 : Same H1 (upd H1 d (.dK [])) := (Same.refl H1).new nd
    have ed : (upd H1 d (.dK [])) d = some (.dK (dkN V.bl (tk []))) := upd_same
    have ndH : H d = none := s1.free nd
    have qad : qa ≠ d := ne_of_none eq1 nd
    generalize upd H1 d (.dK []) = H2 at s2 ed ⊢
    refine ⟨fun c σ H' => ∃ (i : Nat) (rt qs : List Nat) (v6 : Option V), σ = [some (.ref ro), some (.ref a), some (.ref b), some (.ref qa), some (.ref d), some (nV i), v6, none] ∧ Same H H' ∧ H' d = some (.dK (dkN V.bl (tk rt))) ∧ H' qa = some (.lst (qs.map nV)) ∧ Rf n ps (at_ L) (at_ R) F rt qs ∧ i ≤ qs.length ∧
        (∀ j l, j < i → qs[j]? = some l → ∀ r, (l, r) ∈ ps → r ∈ rt) ∧ c = n - i,
      ⟨_, 0, [], qs0, none, rfl, s1.trans s2, ed, s2 _ _ eq1, rf0, Nat.zero_le _, fun j l h => absurd h (Nat.not_lt_zero j), rfl⟩, ?_⟩
    rintro c σ H3 ⟨i, rt, qs, v6, rfl, s3, ed3, eq3, rf, hi, done, rfl⟩
    have qlen : qs.length ≤ n := K02.nodup_len n qs rf.qnd rf.rc.lt
    refine ⟨_, rfl, _, rfl, qa, _, rfl, .inl (SqL.of eq3), _, _, rfl, rfl, _, rfl, ite2 (fun c => ?_) (fun c => ?_)⟩
    case refine_2 =>
      have ie : qs.length ≤ i := by
        have := of_decide_eq_false (Bool.eq_false_iff.mpr c)
        rw [List.length_map] at this
        omega
      have cl : ∀ l ∈ qs, ∀ r, (l, r) ∈ ps → r ∈ rt := fun l hl r hr => by
        obtain ⟨j, hj⟩ := List.getElem?_of_mem hl
        exact done j l (by have := lt_get hj; omega) hj r hr
      refine ⟨_, rfl, qa, rfl, ⟨_, SqL.of eq3⟩, fun D nD => ?_⟩
      refine dc_list (K := K) (a := qa) (xs := qs.map nV) (fun j H' => Same H3 H' ∧ H' D = some (.dK (dkN V.bl (tk (qs.take j))))) ⟨(Same.refl H3).new nD, upd_same⟩ (fun j H' _ ⟨sm, _⟩ => SqL.of (sm _ _ eq3)) ?_ ?_
      · rintro j x H4 hx ⟨s4, eD⟩
        obtain ⟨l, hl, rfl⟩ := getn_inv hx
        have new : l ∉ qs.take j := fun z => by
          have e := take_more hl
          have n2 : (qs.take j ++ [l]).Nodup := e ▸ rf.qnd.sublist (List.take_sublist _ _)
          exact (List.nodup_append.mp n2).2.2 l z l (List.mem_singleton.mpr rfl) rfl
        refine ⟨rfl, _, rfl, _, Sum.inl (l : Int), rfl, eD, ?_, s4.mut nD, ?_⟩
        · rw [dk_len, tk_len]
          exact szl (Nat.le_trans (List.length_take_le' _ _) (by omega))
        · rw [upd_same, put_dk V.bl l true _ (by rw [tk_keys]; exact rf.qnd.sublist (List.take_sublist _ _)), tk_put new, take_more hl]
      rintro H4 ⟨s4, eD⟩
      rw [List.length_map, List.take_length] at eD
      refine ⟨_, rfl, (by show 2 ≤ sizeLine; decide), fun t nt => ?_⟩
      have s5 : Same H4 (upd H4 t (.tup [.ref D, .ref d])) := (Same.refl H4).new nt
      exact q t D d qs rt _ ((s3.trans s4).trans s5) upd_same (s5 _ _ eD) (s5 _ _ (s4 _ _ ed3)) rf cl
    have ilt : i < qs.length := by
      have := of_decide_eq_true c
      rw [List.length_map] at this
      omega
    obtain ⟨l, hl⟩ := get_lt ilt
    have hlm := List.mem_of_getElem? hl
    have hln := rf.rc.lt l hlm
    refine ⟨fun σ H' => ∃ (rt qs : List Nat) (v6 : Option V), σ = [some (.ref ro), some (.ref a), some (.ref b), some (.ref qa), some (.ref d), some (nV (i + 1)), v6, none] ∧ Same H H' ∧ H' d = some (.dK (dkN V.bl (tk rt))) ∧ H' qa = some (.lst (qs.map nV)) ∧ Rf n ps (at_ L) (at_ R) F rt qs ∧ i + 1 ≤ qs.length ∧
        (∀ j l, j < i + 1 → qs[j]? = some l → ∀ r, (l, r) ∈ ps → r ∈ rt), ?_, ?_⟩
    · rintro σ' H' ⟨rt, qs, v6, rfl, a1, a2, a3, a4, a5, a6⟩
      exact ⟨n - (i + 1), by omega, i + 1, rt, qs, v6, rfl, a1, a2, a3, a4, a5, a6, rfl⟩
    obtain ⟨vs, y, hv, hvy, ey⟩ := lrr.at (i := l) (l := adjR ps l) (by rw [List.getElem?_map, List.getElem?_range hln]; rfl)
    refine ⟨_, rfl, _, rfl, _, rfl, ixl (SqL.of eq3) (at_n (getn hl)) (ixl (SqL.of (s3 _ _ hv)) (at_n hvy) ⟨y, rfl, ⟨_, SqL.of (s3 _ _ ey)⟩, for_list (K := K) (a := y) (xs := (adjR ps l).map nV) (fun j σ H' => ∃ (rt qs' : List Nat) (v6 : Option V), σ = [some (.ref ro), some (.ref a), some (.ref b), some (.ref qa), some (.ref d), some (nV i), v6, none] ∧ Same H H' ∧ H' d = some (.dK (dkN V.bl (tk rt))) ∧ H' qa = some (.lst ((qs ++ qs').map nV)) ∧ Rf n ps (at_ L) (at_ R) F rt (qs ++ qs') ∧
        (∀ j l, j < i → qs[j]? = some l → ∀ r, (l, r) ∈ ps → r ∈ rt) ∧ ∀ r ∈ (adjR ps l).take j, r ∈ rt)
      ⟨rt, [], v6, rfl, s3, ed3, by rw [List.append_nil]; exact eq3, by rw [List.append_nil]; exact rf, done, fun r hr => by rw [List.take_zero] at hr; cases hr⟩ (fun j σ H' _ ⟨_, _, _, _, sm, _⟩ => SqL.of (sm _ _ ey)) ?_ ?_⟩)⟩
    · rintro j x σ H4 hx ⟨rt, qs', v6, rfl, s4, ed4, eq4, rf, done, dr⟩
      obtain ⟨r, hr1, rfl⟩ := getn_inv hx
      have her : (l, r) ∈ ps := mem_adj.mp (List.mem_of_getElem? hr1)
      have hrm : r < m := (hw _ her).2
      have rtl : rt.length ≤ m := K02.nodup_len m rt rf.rnd fun x hx => by
        obtain ⟨l', h1, _⟩ := rf.part x hx
        rw [← hR]
        exact at_lt h1
      have g4 := dget_n (k := r) ed4
      refine ⟨_, rfl, _, rfl, d, _, rfl, g4, _, rfl, ?_⟩
      rw [tk_some]
      cases e : rt.contains r with
      | true =>
        have er : r ∈ rt := by simpa using e
        refine iteF ⟨rt, qs', _, rfl, s4, ed4, eq4, rf, done, fun r' hr' => ?_⟩
        rw [take_more hr1] at hr'
        rcases List.mem_append.mp hr' with h | h
        · exact dr r' h
        · rw [List.mem_singleton.mp h]
          exact er
      | false =>
        have er : r ∉ rt := by simpa using e
        refine iteT ?_
        have hl4 : (qs ++ qs')[i]? = some l := by rw [List.getElem?_append_left ilt]; exact hl
        have hlq := List.mem_of_getElem? hl4
        have pd := dput_n (f := V.bl) (k := r) (v := true) ed4 (by rw [tk_len]; exact szl (by omega)) (by rw [tk_keys]; exact rf.rnd)
        rw [tk_put er] at pd
        refine ⟨_, rfl, _, rfl, d, _, rfl, pd, ?_⟩
        have s5 : Same H (upd H4 d (.dK (dkN V.bl (tk (rt ++ [r]))))) := s4.mut ndH
        have ed5 : (upd H4 d (.dK (dkN V.bl (tk (rt ++ [r]))))) d = some (.dK (dkN V.bl (tk (rt ++ [r])))) := upd_same
        have eq5 : (upd H4 d (.dK (dkN V.bl (tk (rt ++ [r]))))) qa = some (.lst ((qs ++ qs').map nV)) := by rw [upd_ne qad]; exact eq4
        generalize upd H4 d (.dK (dkN V.bl (tk (rt ++ [r])))) = H5 at s5 ed5 eq5 ⊢
        have lr5 := lr0.same s5
        obtain ⟨l', eg, rf5⟩ := rf.grow hw ok hlq er her
        have hrR : r < R.length := by rw [hR]; exact hrm
        refine ⟨_, rfl, _, rfl, ixl (SqL.of lr5.r) (at_n (getn (at_get hrR))) ⟨rfl, _, rfl, ?_⟩⟩
        rw [pN_isN, eg]
        refine iteT ⟨_, rfl, .inl ⟨rfl, _, SqL.of eq5⟩, _, rfl, _, rfl, ixl (SqL.of lr5.r) (at_n (getn (at_get hrR))) ⟨qa, _, _, rfl, rfl, eq5, ?_, rt ++ [r], qs' ++ [l'], _, rfl, s5.mut nqa, ?_, ?_, ?_, fun j x hj hx r' h' => List.mem_append_left _ (done j x hj hx r' h'), fun r' hr' => ?_⟩⟩
        · rw [List.length_map]
          have : (qs ++ qs').length ≤ n := K02.nodup_len n _ rf.qnd rf.rc.lt
          exact szl (by omega)
        · rw [upd_ne (Ne.symm qad)]
          exact ed5
        · rw [upd_same, eg, ← List.append_assoc, List.map_append (l₂ := [l'])]
          rfl
        · rw [← List.append_assoc]
          exact rf5
        · rw [take_more hr1] at hr'
          rcases List.mem_append.mp hr' with h | h
          · exact List.mem_append_left _ (dr r' h)
          · rw [List.mem_singleton.mp h]
            simp
    · rintro σ H4 ⟨rt, qs', v6, rfl, s4, ed4, eq4, rf, done, dr⟩
      rw [List.length_map, List.take_length] at dr
      refine ⟨_, rfl, _, _, rfl, rfl, rt, qs ++ qs', v6, rfl, s4, ed4, eq4, rf, by rw [List.length_append]; omega, fun j x hj hx r hr => ?_⟩
      by_cases e : j = i
      · subst e
        rw [List.getElem?_append_left ilt, hl] at hx
        cases hx
        exact dr r (mem_adj.mpr hr)
      · refine done j x (by omega) ?_ r hr
        rw [List.getElem?_append_left (by omega)] at hx
        exact hx
end
end K26W

namespace K26W
open PySem PySem.Spec PyProof.Rows L2 KH KD KP K26
abbrev smatch_and_cover : Stmt := topS 11
theorem scmatch_and_cover : FnScope ["lefts", "rights", "pairs", "rows", "of_left", "of_right", "left", "matching", "reached_lefts", "reached_rights", "cover_lefts", "cover_rights", "right"] ["lefts", "rights", "pairs"] (defScope smatch_and_cover) := ⟨rfl, rfl, rfl, by decide +kernel, rfl, by decide +kernel, by decide +kernel⟩

/-- pairs as told -/
def MP (H : Hp) (us : List V) (ms : K02.PL) : Prop := Paired (fun v q => ∃ t, v = V.ref t ∧ H t = some (.tup [nV q.1, nV q.2])) us ms
theorem MP.same {H H' : Hp} {us : List V} {ms : K02.PL} (h : MP H us ms) (s : Same H H') : MP H' us ms := P_mono (fun _ _ ⟨t, e, q⟩ => ⟨t, e, s _ _ q⟩) h
theorem MP.mutL {H : Hp} {o : Addr} {vs us : List V} {ms : K02.PL} {x : HO} (h : MP H vs ms) (e : H o = some (.lst us)) : MP (upd H o x) vs ms := P_mono (fun _ _ ⟨t, et, q⟩ => ⟨t, et, by rw [upd_ne (ne_of q e (by intro z; cases z))]; exact q⟩) h
/-- what is told of a matching and a cover -/
structure Mtl (n m : Nat) (ps : K02.PL) (ms : K02.PL) (Z : Nat → Bool) : Prop where
  mat : Mat ps ms
  asc : (ms.map (·.1)).Pairwise (· < ·)
  zl : Zl n ps ms Z
def cvL (n : Nat) (Z : Nat → Bool) : List Nat := lot n fun l => !Z l
def cvR (m : Nat) (ps : K02.PL) (Z : Nat → Bool) : List Nat := lot m (nb ps Z)
structure MAt (H : Hp) (n m : Nat) (ps ms : K02.PL) (Z : Nat → Bool) (x y z : Addr) (us : List V) (r : Addr) : Prop where
  r : H r = some (.tup [.ref x, .ref y, .ref z])
  x : H x = some (.lst us)
  p : MP H us ms
  y : H y = some (.lst ((cvL n Z).map nV))
  z : H z = some (.lst ((cvR m ps Z).map nV))
theorem MAt.same {H H' : Hp} {n m : Nat} {ps ms : K02.PL} {Z : Nat → Bool} {x y z : Addr} {us : List V} {r : Addr} (h : MAt H n m ps ms Z x y z us r) (s : Same H H') : MAt H' n m ps ms Z x y z us r := ⟨s _ _ h.r, s _ _ h.x, h.p.same s, s _ _ h.y, s _ _ h.z⟩
theorem told_more {n : Nat} {f : Nat → Option Nat} : told (n + 1) f = told n f ++ (match f n with | none => [] | some r => [(n, r)]) := by
  unfold told
  rw [List.range_succ, List.filterMap_append]
  congr 1
  cases e : f n <;> simp [List.filterMap_cons, e]
theorem rep_more {α β : Type} (f : α → β) (x : α) (i : Nat) : ((List.replicate (i + 1) x).map f) = (List.replicate i x).map f ++ [f x] := by
  rw [List.replicate_succ', List.map_append]
  rfl
theorem at_rep (n i : Nat) : at_ (List.replicate n none) i = none := by
  unfold at_
  rw [List.getElem?_replicate]
  split <;> rfl
section
variable {P : Program} {w : World} {K : PySem.W.Frag} {mg : Str → Option Value} {base : Heap} {CN CB CD CT CU fI : Addr}
def sp_match (K : PySem.W.Frag) (CN : Addr) : Sp := fun vs H Q E => ∃ (n m : Nat) (pa : Addr) (us : List V) (qs : List P2), vs = [nV n, nV m, .ref pa] ∧ Sq K H pa us ∧ PI K H us qs ∧ n ≤ 100 ∧ m ≤ 100 ∧ qs.length ≤ 1000 ∧ (∀ wd z, Flaw n m qs wd z → Err CN wd z H E) ∧
  (∀ ps, qs = upP ps → In2 n m ps → ∀ ms Z x y z vs r H', Same H H' → H x = none → H y = none → H z = none → H r = none → MAt H' n m ps ms Z x y z vs r → Mtl n m ps ms Z → Q (.ref r) H')
theorem ok_match {f f1 f2 f3 : Addr} {fd fd1 fd2 fd3 : FuncData} (F : Fun K "match_and_cover" "match_and_cover" smatch_and_cover f fd) (T : Txt mg) (C_neighbours : CalX P w K mg base 3 "_neighbours" ["lefts", "rights", "pairs"] (sp_neighbours K CN) f1 fd1) (C_give_partner : Cal P w K mg base 2 "_give_partner" ["start", "rows", "of_left", "of_right"] sp_give f2 fd2)
    (C_reached : Cal P w K mg base 1 "_reached" ["rows", "of_left", "of_right"] sp_reached f3 fd3) : FnOk P w K mg base (L2.CX P w) 4 f fd ["lefts", "rights", "pairs"] (sp_match K CN) := by
  refine F.okX scmatch_and_cover (fun vs H Q E h => ?_) (fun cdv A outer s H vs Q E hr h => ?_)
  · obtain ⟨n, m, pa, us, qs, rfl, _⟩ := h
    rfl
  · obtain ⟨n, m, pa, us, qs, rfl, hS, hP, hn, hm, hl, qe, qn⟩ := h
    refine ⟨_, (pss_cons (ps_set (i := 3) scmatch_and_cover.nd rfl (.inl rfl) (pe_callS C_neighbours.ok (hr.mono (by decide)) (by rfl) C_neighbours.mg C_neighbours.kp C_neighbours.b (fun σ => passAt (takes_of rfl rfl rfl rfl) σ) (by exact (pa_cons (pv 0) (pa_cons (pv 1) (pa_cons (pv 2) pa_nil))))))
 (pss_cons (ps_set (i := 4) scmatch_and_cover.nd rfl (.inr rfl) (pe_lc (own := [("left", 6)]) (g := gName 6) (tt := tYes) rfl scmatch_and_cover.nd (pi_range1 rfl T.range (pa_cons (pv 0) pa_nil)) (blkOk_by (N := ["lefts", "rights", "pairs", "rows", "of_left", "of_right", "left", "matching", "reached_lefts", "reached_rights", "cover_lefts", "cover_rights", "right"]) (sc := defScope smatch_and_cover) (by decide +kernel)) (fun _ _ _ _ _ => (pg_name (i := 6) scmatch_and_cover.nd rfl (.inl rfl))) (fun _ _ _ _ _ => pts_nil) (fun _ _ _ _ _ => pe_non)))
 (pss_cons (ps_setLc (i := 5) (own := [("right", 12)]) (g := gName 12) (tt := tYes) rfl scmatch_and_cover.nd rfl rfl (sw_true rfl rfl rfl (by decide +kernel)) (pi_range1 rfl T.range (pa_cons (pv 1) pa_nil)) (blkOk_by (N := ["lefts", "rights", "pairs", "rows", "of_left", "of_right", "left", "matching", "reached_lefts", "reached_rights", "cover_lefts", "cover_rights", "right"]) (sc := defScope smatch_and_cover) (by decide +kernel)) (fun _ _ _ _ _ => (pg_name (i := 12) scmatch_and_cover.nd rfl (.inl rfl))) (fun _ _ _ _ _ => pts_nil) (fun _ _ _ _ _ => pe_non))
 (pss_cons (ps_for (passes_of rfl) rfl (pi_range1 rfl T.range (pa_cons (pv 0) pa_nil)) (pg_name (i := 6) scmatch_and_cover.nd rfl (.inl rfl))
 (pss_one (ps_expr (pe_call C_give_partner.ok (hr.mono (by decide)) (by rfl) C_give_partner.mg C_give_partner.kp C_give_partner.b .nil pass0 (pa_cons (pv 6) (pa_cons (pv 3) (pa_cons (pv 4) (pa_cons (pv 5) pa_nil))))))))
 (pss_cons (ps_setLc (i := 7) (own := [("left", 6)]) (g := gName 6) rfl scmatch_and_cover.nd rfl rfl (sw_true rfl rfl rfl (by decide +kernel)) (pi_range1 rfl T.range (pa_cons (pv 0) pa_nil)) (blkOk_by (N := ["lefts", "rights", "pairs", "rows", "of_left", "of_right", "left", "matching", "reached_lefts", "reached_rights", "cover_lefts", "cover_rights", "right"]) (sc := defScope smatch_and_cover) (by decide +kernel)) (fun _ _ _ _ _ => (pg_name (i := 6) scmatch_and_cover.nd rfl (.inl rfl))) (fun _ _ _ _ _ => pts_one (pt_cmpR op_notN (pe_ix (r := rIxL K) ix_list (pv 4) (pv 6) (fun _ _ => rfl)) pe_non (nomark _))) (fun _ _ _ _ _ => (pe_tup (pa_cons (pv 6) (pa_cons (pe_ix (r := rIxL K) ix_list (pv 4) (pv 6) (fun _ _ => rfl)) pa_nil)))))
 (pss_cons (ps_asg (pe_call C_reached.ok (hr.mono (by decide)) (by rfl) C_reached.mg C_reached.kp C_reached.b .nil pass0 (pa_cons (pv 3) (pa_cons (pv 4) (pa_cons (pv 5) pa_nil)))) (pg_tup rfl (pgs_cons (pg_name (i := 8) scmatch_and_cover.nd rfl (.inr rfl)) (pgs_cons (pg_name (i := 9) scmatch_and_cover.nd rfl (.inr rfl)) pgs_nil))))
 (pss_cons (ps_setLc (i := 10) (own := [("left", 6)]) (g := gName 6) rfl scmatch_and_cover.nd rfl rfl (sw_true rfl rfl rfl (by decide +kernel)) (pi_range1 rfl T.range (pa_cons (pv 0) pa_nil)) (blkOk_by (N := ["lefts", "rights", "pairs", "rows", "of_left", "of_right", "left", "matching", "reached_lefts", "reached_rights", "cover_lefts", "cover_rights", "right"]) (sc := defScope smatch_and_cover) (by decide +kernel)) (fun _ _ _ _ _ => (pg_name (i := 6) scmatch_and_cover.nd rfl (.inl rfl))) (fun _ _ _ _ _ => pts_one (pt_cmp (pc_dnotin (hu_of hr) (pv 6) (pv 8)))) (fun _ _ _ _ _ => (pv 6)))
 (pss_cons (ps_setLc (i := 11) (own := [("right", 12)]) (g := gName 12) rfl scmatch_and_cover.nd rfl rfl (sw_true rfl rfl rfl (by decide +kernel)) (pi_range1 rfl T.range (pa_cons (pv 1) pa_nil)) (blkOk_by (N := ["lefts", "rights", "pairs", "rows", "of_left", "of_right", "left", "matching", "reached_lefts", "reached_rights", "cover_lefts", "cover_rights", "right"]) (sc := defScope smatch_and_cover) (by decide +kernel)) (fun _ _ _ _ _ => (pg_name (i := 12) scmatch_and_cover.nd rfl (.inl rfl))) (fun _ _ _ _ _ => pts_one (pt_cmp (pc_din (hu_of hr) (pv 12) (pv 9)))) (fun _ _ _ _ _ => (pv 12)))
 (pss_one (ps_ret (pe_tup (pa_cons (pv 7) (pa_cons (pv 10) (pa_cons (pv 11) pa_nil)))))))))))))), ?_⟩
    refine ⟨_, rfl, _, rfl, _, rfl, n, m, pa, us, qs, rfl, hS, hP, hn, hl, fun wd z f d H' s nd ed => qe wd z f d H' s nd ed, fun ps eps wi ro H1 s1 nro lr => ?_⟩
    have q := qn ps eps wi
    clear qn qe
    -- of_left
    refine ⟨_, rfl, _, rfl, (by omega), (by omega), ?_⟩
    rw [show ((n : Nat) : Int).toNat = n by omega]
    refine fun a na => ?_
    refine lc_range (lo := 0) (n := n) (fun i H' => Same H1 H' ∧ H' a = some (.lst ((List.replicate i none).map pN))) ⟨(Same.refl H1).new na, upd_same⟩ ?_ ?_
    · rintro i H2 hi ⟨s2, e⟩
      refine ⟨rfl, _, e, ?_, s2.mut na, ?_⟩
      · rw [List.length_map, List.length_replicate]
        exact szl (by omega)
      · rw [upd_same, rep_more]
        rfl
    rintro H2 ⟨s2, ea⟩
    refine ⟨_, rfl, _, rfl, (by omega), (by omega), ?_⟩
    rw [show ((m : Nat) : Int).toNat = m by omega]
    refine fun b nb' => ?_
    refine lc_range (lo := 0) (n := m) (fun i H' => Same H2 H' ∧ H' b = some (.lst ((List.replicate i none).map pN))) ⟨(Same.refl H2).new nb', upd_same⟩ ?_ ?_
    · rintro i H3 hi ⟨s3, e⟩
      refine ⟨rfl, _, e, ?_, s3.mut nb', ?_⟩
      · rw [List.length_map, List.length_replicate]
        exact szl (by omega)
      · rw [upd_same, rep_more]
        rfl
    rintro H3 ⟨s3, eb⟩
    have ab : a ≠ b := ne_of_none ea nb'
    have s13 := s2.trans s3
    have naH : H a = none := s1.free na
    have nbH : H b = none := (s1.trans s2).free nb'
    have rw3 : RW H3 ro a b ((List.range n).map (adjR ps)) := by
      obtain ⟨as, h1, h2⟩ := lr
      refine ⟨ne_of_none h1 na, ne_of_none (s2 _ _ h1) nb', as, s13 _ _ h1, P_mono (fun x l e => ⟨ne_of_none e na, ne_of_none (s2 _ _ e) nb', s13 _ _ e⟩) h2⟩
    have lr3 : LR2 H3 a b (List.replicate n none) (List.replicate m none) := ⟨s3 _ _ ea, eb, ab⟩
    have s03 := s1.trans s13
    -- for left in range(lefts)
    refine ⟨_, rfl, _, rfl, (by omega), (by omega), ?_⟩
    rw [show ((n : Nat) : Int).toNat = n by omega]
    refine for_range (lo := 0) (n := n) (fun i σ H' => ∃ (v6 : Option V) (L R : List (Option Nat)) (F : Nat → Prop), σ = [some (nV n), some (nV m), some (.ref pa), some (.ref ro), some (.ref a), some (.ref b), v6, none, none, none, none, none, none] ∧ StN0 H3 H' a b ∧ LR2 H' a b L R ∧ L.length = n ∧ R.length = m ∧ Ok ps i (at_ L) (at_ R) F)
      ⟨none, _, _, fun _ => False, rfl, StN0.refl _ _ _, lr3, List.length_replicate, List.length_replicate, by
        rw [show at_ (List.replicate n none) = fun _ => none from funext (at_rep n), show at_ (List.replicate m none) = fun _ => none from funext (at_rep m)]
        exact Ok.start ps⟩ ?_ ?_
    · rintro i σ H4 hi ⟨v6, L, R, F, rfl, s4, lr4, hL, hR, ok⟩
      rw [show (0 : Int) + (i : Int) = (i : Int) by omega]
      refine ⟨_, rfl, _, rfl, _, rfl, _, rfl, i, 0, ro, a, b, n, m, ps, L, R, F, rfl, rw3.st s4, lr4, hL, hR, wi, hn, hm, hi, ok, fun H5 L' R' F' s5 lr5 hL' hR' ok' => ?_⟩
      exact ⟨_, L', R', F', rfl, fun c o e x y => s5 c o (s4 c o e x y) x y, lr5, hL', hR', ok'⟩
    rintro σ H4 ⟨v6, L, R, F, rfl, s4, lr4, hL, hR, ok⟩
    have s04 : Same H H4 := fun c o e => s4 c o (s03 c o e) (ne_of_none e naH) (ne_of_none e nbH)
    -- matching
    refine ⟨_, rfl, _, rfl, (by omega), (by omega), ?_⟩
    rw [show ((n : Nat) : Int).toNat = n by omega]
    refine fun x nx => ?_
    refine lc_range (lo := 0) (n := n) (fun i H' => ∃ vs, Same H4 H' ∧ H' x = some (.lst vs) ∧ MP H' vs (told i (at_ L)) ∧ vs.length ≤ i) ⟨[], (Same.refl H4).new nx, upd_same, .nil, Nat.zero_le _⟩ ?_ ?_
    · rintro i H5 hi ⟨vs, s5, ex, hM, hvl⟩
      rw [show (0 : Int) + (i : Int) = (i : Int) by omega]
      have hiL : i < L.length := by rw [hL]; exact hi
      refine ⟨rfl, _, rfl, _, rfl, ixl (SqL.of (s5 _ _ lr4.l)) (at_n (getn (at_get hiL))) ⟨rfl, _, rfl, ?_⟩⟩
      rw [pN_isN]
      cases c : at_ L i with
      | none =>
        refine iteF ⟨vs, s5, ex, ?_, by omega⟩
        rw [told_more, c, List.append_nil]
        exact hM
      | some r =>
        refine iteT ⟨_, rfl, _, rfl, _, rfl, ixl (SqL.of (s5 _ _ lr4.l)) (at_n (getn (at_get hiL))) ⟨sp2, fun t nt => ?_⟩⟩
        rw [c]
        have s6 : Same H5 (upd H5 t (.tup [nV i, nV r])) := (Same.refl H5).new nt
        have et : (upd H5 t (.tup [nV i, nV r])) t = some (.tup [nV i, nV r]) := upd_same
        refine ⟨vs, s6 _ _ ex, szl (by omega), vs ++ [.ref t], (s5.trans s6).mut nx, upd_same, ?_, by rw [List.length_append, List.length_singleton]; omega⟩
        rw [told_more, c]
        have m6 : MP (upd H5 t (.tup [nV i, nV r])) (vs ++ [.ref t]) (told i (at_ L) ++ [(i, r)]) := P_append (hM.same s6) (.cons ⟨t, rfl, et⟩ .nil)
        exact m6.mutL (s6 _ _ ex)
    rintro H5 ⟨us', s5, ex, hM, hvl⟩
    -- reached
    have lr5 := lr4.same s5
    have rw5 : LR H5 ro ((List.range n).map (adjR ps)) := (rw3.st s4).lr.same s5
    refine ⟨_, rfl, _, rfl, _, rfl, ro, a, b, n, m, ps, L, R, F, rfl, rw5, lr5, hL, hR, wi, hn, hm, ok, fun t d1 d2 qs' rt H6 s6 et e1 e2 rf cl => ⟨t, _, rfl, SqT.of et, rfl, _, _, rfl, _, _, rfl, rfl, ?_⟩⟩
    have zl := ok.zl wi rf.rc fun l hl r hr => rf.part r (cl l hl r hr)
    have nbe : ∀ r, nb ps (fun l => qs'.contains l) r = rt.contains r := fun r => by
      rw [Bool.eq_iff_iff, nb_iff]
      simp only [List.contains_eq_mem, decide_eq_true_eq]
      exact ⟨fun ⟨l, h1, h2⟩ => cl l h1 r h2, fun h => rf.key r h⟩
    -- cover_lefts
    refine ⟨_, rfl, _, rfl, (by omega), (by omega), ?_⟩
    rw [show ((n : Nat) : Int).toNat = n by omega]
    refine fun y ny => ?_
    refine lc_range (lo := 0) (n := n) (fun i H' => Same H6 H' ∧ H' y = some (.lst ((lot i fun l => !qs'.contains l).map nV))) ⟨(Same.refl H6).new ny, upd_same⟩ ?_ ?_
    · rintro i H7 hi ⟨s7, ey⟩
      rw [show (0 : Int) + (i : Int) = (i : Int) by omega]
      refine ⟨rfl, _, rfl, _, rfl, d1, _, rfl, dget_n (k := i) (s7 _ _ e1), _, rfl, ?_⟩
      rw [tk_some]
      cases c : qs'.contains i with
      | true =>
        refine iteF ⟨s7, ?_⟩
        rw [ey]
        unfold lot
        rw [List.range_succ, List.filter_append]
        simp only [List.filter_cons, c, Bool.not_true, Bool.not_false, Bool.false_eq_true, if_false, if_true, List.filter_nil, List.append_nil, List.map_cons, List.map_nil]
      | false =>
        refine iteT ⟨_, rfl, _, ey, ?_, s7.mut ny, ?_⟩
        · rw [List.length_map]
          exact szl (Nat.le_trans (List.length_filter_le _ _) (by rw [List.length_range]; omega))
        · rw [upd_same]
          unfold lot
          rw [List.range_succ, List.filter_append, List.map_append]
          simp only [List.filter_cons, c, Bool.not_true, Bool.not_false, Bool.false_eq_true, if_false, if_true, List.filter_nil, List.append_nil, List.map_cons, List.map_nil]
    rintro H7 ⟨s7, ey⟩
    -- cover_rights
    refine ⟨_, rfl, _, rfl, (by omega), (by omega), ?_⟩
    rw [show ((m : Nat) : Int).toNat = m by omega]
    refine fun z nz => ?_
    refine lc_range (lo := 0) (n := m) (fun i H' => Same H7 H' ∧ H' z = some (.lst ((lot i (nb ps fun l => qs'.contains l)).map nV))) ⟨(Same.refl H7).new nz, upd_same⟩ ?_ ?_
    · rintro i H8 hi ⟨s8, ez⟩
      rw [show (0 : Int) + (i : Int) = (i : Int) by omega]
      refine ⟨rfl, _, rfl, _, rfl, d2, _, rfl, dget_n (k := i) ((s7.trans s8) _ _ e2), _, rfl, ?_⟩
      rw [tk_some, ← nbe]
      cases c : nb ps (fun l => qs'.contains l) i with
      | false =>
        refine iteF ⟨s8, ?_⟩
        rw [ez]
        unfold lot
        rw [List.range_succ, List.filter_append]
        simp only [List.filter_cons, c, Bool.not_true, Bool.not_false, Bool.false_eq_true, if_false, if_true, List.filter_nil, List.append_nil, List.map_cons, List.map_nil]
      | true =>
        refine iteT ⟨_, rfl, _, ez, ?_, s8.mut nz, ?_⟩
        · rw [List.length_map]
          exact szl (Nat.le_trans (List.length_filter_le _ _) (by rw [List.length_range]; omega))
        · rw [upd_same]
          unfold lot
          rw [List.range_succ, List.filter_append, List.map_append]
          simp only [List.filter_cons, c, Bool.not_true, Bool.not_false, Bool.false_eq_true, if_false, if_true, List.filter_nil, List.append_nil, List.map_cons, List.map_nil]
    rintro H8 ⟨s8, ez⟩
    refine ⟨_, rfl, _, rfl, _, rfl, (by show 3 ≤ sizeLine; decide), fun r nr => ?_⟩
    have s9 : Same H8 (upd H8 r (.tup [.ref x, .ref y, .ref z])) := (Same.refl H8).new nr
    have s68 := s7.trans s8
    have s59 := (s6.trans s68).trans s9
    have s06 := (s04.trans s5).trans s6
    refine q (told n (at_ L)) (fun l => qs'.contains l) x y z us' r _ ((s06.trans s68).trans s9) (s04.free nx) (s06.free ny) ((s06.trans s7).free nz) ((s06.trans s68).free nr) ⟨upd_same, s59 _ _ ex, hM.same s59, s9 _ _ (s8 _ _ ey), s9 _ _ ez⟩ ⟨ok.mat (m := m), ?_, zl⟩
    rw [told_firsts]
    exact List.Pairwise.sublist List.filter_sublist List.pairwise_lt_range
end
end K26W

namespace K26W
open PySem PySem.Spec PyProof.Rows L2 KH KD KP K26
abbrev s_law_order : Stmt := topS 15
theorem sc_law_order : FnScope ["cell", "count", "kind", "places", "order", "drawn", "k"] ["cell", "count", "kind"] (defScope s_law_order) := ⟨rfl, rfl, rfl, by decide +kernel, rfl, by decide +kernel, by decide +kernel⟩

abbrev s_law_small : Stmt := topS 16
theorem sc_law_small : FnScope ["script", "shape", "lefts", "rights", "sizes", "k", "drawn"] ["script"] (defScope s_law_small) := ⟨rfl, rfl, rfl, by decide +kernel, rfl, by decide +kernel, by decide +kernel⟩

abbrev s_law_any_pairs : Stmt := topS 21
theorem sc_law_any_pairs : FnScope ["script", "shape", "lefts", "rights", "sizes", "k", "drawn"] ["script"] (defScope s_law_any_pairs) := ⟨rfl, rfl, rfl, by decide +kernel, rfl, by decide +kernel, by decide +kernel⟩

theorem erase_perm {α : Type} : ∀ {l : List α} {i : Nat} {x : α}, l[i]? = some x → (x :: l.eraseIdx i).Perm l
  | [], i, x, h => by simp at h
  | y :: l, 0, x, h => by
    have : y = x := by simpa using h
    subst this
    exact List.Perm.refl _
  | y :: l, i + 1, x, h => by
    have h' : l[i]? = some x := by simpa using h
    exact (List.Perm.swap y x (l.eraseIdx i)).trans (List.Perm.cons y (erase_perm h'))
section
variable {P : Program} {w : World} {K : PySem.W.Frag} {mg : Str → Option Value} {base : Heap} {CN CB CD CT CU fI : Addr}
def sp_order : Sp := fun vs H Q _ => ∃ (c : Int) (n kd : Nat), vs = [.int c, nV n, nV kd] ∧ n ≤ 100 ∧ ∀ (p : Addr) (os : List Nat) H', Same H H' → H p = none → H' p = some (.lst (os.map nV)) → os.Perm (List.range n) → Q (.ref p) H'
theorem ok_order {f f1 : Addr} {fd fd1 : FuncData} (F : Fun K "_law_order" "_law_order" s_law_order f fd) (T : Txt mg) (C_law_draws : Cal P w K mg base 1 "_law_draws" ["cell", "sizes"] (sp_draws K) f1 fd1) : FnOk P w K mg base CX0 2 f fd ["cell", "count", "kind"] sp_order := by
  refine F.ok sc_law_order (fun vs H Q E h => ?_) (fun cdv A outer s H vs Q E hr h => ?_)
  · obtain ⟨c, n, kd, rfl, _⟩ := h
    rfl
  · obtain ⟨c, n, kd, rfl, hn, q⟩ := h
    refine ⟨_, (pss_cons (ps_set (i := 3) sc_law_order.nd rfl (.inl rfl) (pe_listRg rfl rfl T.list (prg_1 rfl T.range (pv 1))))
 (pss_cons (ps_if (pt_cmpR op_eq (pv 2) pe_int (nomark _))
 (pss_one (ps_ret (pv 3)))
 pss_nil)
 (pss_cons (ps_if (pt_cmpR op_eq (pv 2) pe_int (nomark _))
 (pss_one (ps_ret (pe_lstRev rfl rfl T.list rfl T.reversed (pv 3))))
 pss_nil)
 (pss_cons (ps_set (i := 4) sc_law_order.nd rfl (.inl rfl) (pe_lst pa_nil))
 (pss_cons (ps_for PassesOwn.never rfl (pi_list (pe_call C_law_draws.ok (hr.mono (by decide)) (by rfl) C_law_draws.mg C_law_draws.kp C_law_draws.b .nil pass0 (pa_cons (pv 0) (pa_cons (pe_lc (own := [("k", 6)]) (g := gName 6) (tt := tYes) rfl sc_law_order.nd (pi_range1 rfl T.range (pa_cons (pv 1) pa_nil)) (blkOk_by (N := ["cell", "count", "kind", "places", "order", "drawn", "k"]) (sc := defScope s_law_order) (by decide +kernel)) (fun _ _ _ _ _ => (pg_name (i := 6) sc_law_order.nd rfl (.inl rfl))) (fun _ _ _ _ _ => pts_nil) (fun _ _ _ _ _ => (pe_op op_sub (pv 1) (pv 6)))) pa_nil)))) (pg_name (i := 5) sc_law_order.nd rfl (.inl rfl))
 (pss_one (ps_expr (pe_bm PySem.F.plainAttrs_list PySem.F.slot_list_append PySem.F.type_list_append mt_append (pv 4) (pa_cons (pe_bm PySem.F.plainAttrs_list PySem.F.slot_list_pop PySem.F.type_list_pop mt_popAt (pv 3) (pa_cons (pv 5) pa_nil)) pa_nil)))))
 (pss_one (ps_ret (pv 4)))))))), ?_⟩
    refine ⟨_, rfl, _, rfl, .of_le (by omega) (by omega) (by omega) (by omega), fun pl npl => ?_⟩
    rw [rgV_nat]
    have s1 : Same H (upd H pl (.lst ((List.range n).map nV))) := (Same.refl H).new npl
    have epl : (upd H pl (.lst ((List.range n).map nV))) pl = some (.lst ((List.range n).map nV)) := upd_same
    generalize upd H pl (.lst ((List.range n).map nV)) = H1 at s1 epl ⊢
    refine ⟨_, rfl, rfl, _, rfl, ?_⟩
    by_cases k0 : kd = 0
    · rw [decide_eq_true (show nV kd = V.int 0 by rw [k0]; rfl)]
      exact iteT ⟨_, rfl, q pl _ H1 s1 npl epl (List.Perm.refl _)⟩
    rw [decide_eq_false (show ¬ nV kd = V.int 0 from fun z => k0 (by have := V.int.inj z; omega))]
    refine iteF ⟨_, rfl, rfl, _, rfl, ?_⟩
    by_cases k1 : kd = 1
    · rw [decide_eq_true (show nV kd = V.int 1 by rw [k1]; rfl)]
      refine iteT ⟨_, rfl, pl, _, rfl, SqL.of epl, fun p np => ?_⟩
      rw [show (((List.range n).map nV).reverse : List V) = ((List.range n).reverse).map nV from (List.map_reverse ..).symm]
      exact q p _ _ (s1.new np) (s1.free np) upd_same (List.reverse_perm _)
    rw [decide_eq_false (show ¬ nV kd = V.int 1 from fun z => k1 (by have := V.int.inj z; omega))]
    refine iteF ⟨Nat.zero_le _, fun o no => ?_⟩
    have s2 : Same H1 (upd H1 o (.lst [])) := (Same.refl H1).new no
    have eo : (upd H1 o (.lst [])) o = some (.lst []) := upd_same
    have plo : pl ≠ o := ne_of_none epl no
    have noH : H o = none := s1.free no
    generalize upd H1 o (.lst []) = H2 at s2 eo ⊢
    have epl2 := s2 _ _ epl
    refine ⟨_, rfl, _, rfl, _, rfl, (by omega), (by omega), ?_⟩
    rw [show ((n : Nat) : Int).toNat = n by omega]
    refine fun z nz => ?_
    refine lc_range (lo := 0) (n := n) (fun i H' => Same H2 H' ∧ H' z = some (.lst (((List.range i).map fun k => n - k).map nV))) ⟨(Same.refl H2).new nz, upd_same⟩ ?_ ?_
    · rintro i H' hi ⟨sm, e⟩
      refine ⟨rfl, _, rfl, _, rfl, _, _, rfl, rfl, _, e, ?_, sm.mut nz, ?_⟩
      · rw [List.length_map, List.length_map, List.length_range]
        exact szl (by omega)
      · rw [upd_same, List.range_succ, List.map_append, List.map_append]
        dsimp only
        rw [show (n : Int) - (0 + (i : Int)) = ((n - i : Nat) : Int) by omega]
        rfl
    rintro H3 ⟨s3, ez⟩
    refine ⟨z, c, (List.range n).map fun k => n - k, rfl, SqL.of ez, by rw [List.length_map, List.length_range]; omega, fun y hy => ?_, fun dp ds H4 s4 ndp edp dr => ?_⟩
    · obtain ⟨k, hk, rfl⟩ := List.mem_map.mp hy
      have := List.mem_range.mp hk
      omega
    have dl : ds.length = n := by rw [P_len dr, List.length_map, List.length_range]
    have s24 := s3.trans s4
    have s04 := (s1.trans s2).trans s24
    refine ⟨dp, rfl, ⟨_, SqL.of edp⟩, for_list (K := K) (a := dp) (xs := ds.map nV) (fun i σ H' => ∃ (v5 : Option V) (ls os : List Nat), σ = [some (.int c), some (nV n), some (nV kd), some (.ref pl), some (.ref o), v5, none] ∧ Same H H' ∧ H' dp = some (.lst (ds.map nV)) ∧ H' pl = some (.lst (ls.map nV)) ∧ H' o = some (.lst (os.map nV)) ∧ os.length = i ∧ (os ++ ls).Perm (List.range n))
      ⟨none, List.range n, [], rfl, s04, edp, s24 _ _ epl2, s24 _ _ eo, rfl, List.Perm.refl _⟩ (fun i σ H' _ ⟨_, _, _, _, _, e, _⟩ => SqL.of e) ?_ ?_⟩
    · rintro i x σ H5 hx ⟨v5, ls, os, rfl, s5, edp5, epl5, eo5, ol, pm⟩
      obtain ⟨d, hd, rfl⟩ := getn_inv hx
      have hi : i < n := by rw [← dl]; exact lt_get hd
      obtain ⟨bd, hbd, hlt⟩ := P_right dr hd
      have ebd : bd = n - i := by
        rw [List.getElem?_map, List.getElem?_range hi] at hbd
        exact (Option.some.inj hbd).symm
      have lsl : ls.length = n - i := by
        have := pm.length_eq
        rw [List.length_append, List.length_range, ol] at this
        omega
      obtain ⟨y, hy⟩ := get_lt (l := ls) (i := d) (by omega)
      refine ⟨_, rfl, .inl ⟨rfl, _, SqL.of eo5⟩, _, rfl, .inl ⟨rfl, _, SqL.of epl5⟩, _, rfl, pl, _, _, d, nV y, rfl, rfl, epl5, by omega, by omega, ?_, getn hy, ?_⟩
      · rw [List.length_map]
        exact seq_nat (lt_get hy)
      have eo6 : (upd H5 pl (.lst ((ls.map nV).eraseIdx d))) o = some (.lst (os.map nV)) := by rw [upd_ne (Ne.symm plo)]; exact eo5
      have ndpH : dp ≠ pl := by
        intro e
        have := ndp
        rw [← e] at epl2
        rw [s3 _ _ epl2] at this
        cases this
      have ndpo : dp ≠ o := by
        intro e
        have := ndp
        rw [← e] at eo
        rw [s3 _ _ eo] at this
        cases this
      refine ⟨o, _, _, rfl, rfl, eo6, ?_, ?_⟩
      · rw [List.length_map, ol]
        exact szl (by omega)
      refine ⟨_, ls.eraseIdx d, os ++ [y], rfl, (s5.mut npl).mut noH, ?_, ?_, ?_, ?_, ?_⟩
      · rw [upd_ne ndpo, upd_ne ndpH]
        exact edp5
      · rw [upd_ne plo, upd_same, erase_map]
      · rw [upd_same, List.map_append]
        rfl
      · rw [List.length_append, ol]
        rfl
      · rw [List.append_assoc]
        exact (List.Perm.append_left os (erase_perm hy)).trans pm
    · rintro σ H5 ⟨v5, ls, os, rfl, s5, edp5, epl5, eo5, ol, pm⟩
      rw [List.length_map, dl] at ol
      have lsl : ls = [] := by
        have := pm.length_eq
        rw [List.length_append, List.length_range, ol] at this
        exact List.length_eq_zero_iff.mp (by omega)
      rw [lsl, List.append_nil] at pm
      exact ⟨_, rfl, q o os H5 s5 noH eo5 pm⟩
/-! ### any pairs -/
def sp_psel (K : PySem.W.Frag) (N L : Nat) : Sp := fun vs H Q _ => ∃ (a : Addr) (ns : List Int), vs = [.ref a] ∧ SqL K H a (ns.map V.int) ∧ ns.length ≤ 63 ∧
  ∀ t p us n m ps H', Same H H' → H' t = some (.tup [nV n, nV m, .ref p]) → H p = none → H' p = some (.lst us) → PI K H' us (upP ps) → In2 n m ps → n ≤ N → m ≤ N → ps.length ≤ L → Q (.ref t) H'
theorem add7 (k : Nat) : V.int (7 + (k : Int)) = nV (7 + k) := by
  show V.int _ = V.int _
  congr 1
theorem flat_len2 (n m i : Nat) : ((List.replicate i [n, m]).flatten).length = 2 * i := by
  induction i with
  | zero => rfl
  | succ k ih =>
    rw [List.replicate_succ, List.flatten_cons, List.length_append, ih]
    show 2 + 2 * k = _
    omega
theorem flat_get0 {n m : Nat} : ∀ {i k : Nat}, i < k → ((List.replicate k [n, m]).flatten)[2 * i]? = some n
  | 0, k + 1, _ => rfl
  | i + 1, k + 1, h => by
    rw [List.replicate_succ, List.flatten_cons, show 2 * (i + 1) = 2 * i + 1 + 1 by omega]
    exact flat_get0 (by omega)
theorem flat_get1 {n m : Nat} : ∀ {i k : Nat}, i < k → ((List.replicate k [n, m]).flatten)[2 * i + 1]? = some m
  | 0, k + 1, _ => rfl
  | i + 1, k + 1, h => by
    rw [List.replicate_succ, List.flatten_cons, show 2 * (i + 1) + 1 = 2 * i + 1 + 1 + 1 by omega]
    exact flat_get1 (by omega)
theorem ok_small {f f1 f2 : Addr} {fd fd1 fd2 : FuncData} (F : Fun K "_law_small" "_law_small" s_law_small f fd) (T : Txt mg) (C_law_draws : Cal P w K mg base 1 "_law_draws" ["cell", "sizes"] (sp_draws K) f1 fd1) (C_law_cell : Cal P w K mg base 1 "_law_cell" ["script", "k"] (sp_cell K) f2 fd2) : FnOk P w K mg base CX0 2 f fd ["script"] (sp_psel K 6 14) := by
  refine F.ok sc_law_small (fun vs H Q E h => ?_) (fun cdv A outer s H vs Q E hr h => ?_)
  · obtain ⟨a, ns, rfl, _⟩ := h
    rfl
  · obtain ⟨a, ns, rfl, hS, hns, q⟩ := h
    refine ⟨_, (pss_cons (ps_set (i := 1) sc_law_small.nd rfl (.inl rfl) (pe_call C_law_draws.ok (hr.mono (by decide)) (by rfl) C_law_draws.mg C_law_draws.kp C_law_draws.b .nil pass0 (pa_cons (pe_call C_law_cell.ok (hr.mono (by decide)) (by rfl) C_law_cell.mg C_law_cell.kp C_law_cell.b .nil pass0 (pa_cons (pv 0) (pa_cons pe_int pa_nil))) (pa_cons (pe_lst (pa_cons pe_int (pa_cons pe_int (pa_cons pe_int pa_nil)))) pa_nil))))
 (pss_cons (ps_set (i := 2) sc_law_small.nd rfl (.inl rfl) (pe_ix ix_list (pv 1) pe_int (fun _ _ => rfl)))
 (pss_cons (ps_set (i := 3) sc_law_small.nd rfl (.inl rfl) (pe_ix ix_list (pv 1) pe_int (fun _ _ => rfl)))
 (pss_cons (ps_if (PW.pt (pw_or (pt_cmpR op_eq (pv 2) pe_int (nomark _)) (pw_or1 (pt_cmpR op_eq (pv 3) pe_int (nomark _)))))
 (pss_one (ps_ret (pe_tup (pa_cons (pv 2) (pa_cons (pv 3) (pa_cons (pe_lst pa_nil) pa_nil))))))
 pss_nil)
 (pss_cons (ps_set (i := 4) sc_law_small.nd rfl (.inl rfl) (pe_lst pa_nil))
 (pss_cons (ps_for PassesOwn.never rfl (pi_range1 rfl T.range (pa_cons (pe_ix ix_list (pv 1) pe_int (fun _ _ => rfl)) pa_nil)) (pg_name (i := 5) sc_law_small.nd rfl (.inl rfl))
 (pss_one (ps_expr (pe_bm PySem.F.plainAttrs_list PySem.F.slot_list_extend PySem.F.type_list_extend mt_extend (pv 4) (pa_cons (pe_lst (pa_cons (pv 2) (pa_cons (pv 3) pa_nil))) pa_nil)))))
 (pss_cons (ps_set (i := 6) sc_law_small.nd rfl (.inr rfl) (pe_call C_law_draws.ok (hr.mono (by decide)) (by rfl) C_law_draws.mg C_law_draws.kp C_law_draws.b .nil pass0 (pa_cons (pe_call C_law_cell.ok (hr.mono (by decide)) (by rfl) C_law_cell.mg C_law_cell.kp C_law_cell.b .nil pass0 (pa_cons (pv 0) (pa_cons pe_int pa_nil))) (pa_cons (pv 4) pa_nil))))
 (pss_one (ps_ret (pe_tup (pa_cons (pv 2) (pa_cons (pv 3) (pa_cons (pe_lc (own := [("k", 5)]) (g := gName 5) (tt := tYes) rfl sc_law_small.nd (pi_range1 rfl T.range (pa_cons (pe_ix ix_list (pv 1) pe_int (fun _ _ => rfl)) pa_nil)) (blkOk_by (N := ["script", "shape", "lefts", "rights", "sizes", "k", "drawn"]) (sc := defScope s_law_small) (by decide +kernel)) (fun _ _ _ _ _ => (pg_name (i := 5) sc_law_small.nd rfl (.inl rfl))) (fun _ _ _ _ _ => pts_nil) (fun _ _ _ _ _ => (pe_tup (pa_cons (pe_ix (r := rIxL K) ix_list (pv 6) (pe_op op_mul pe_int (pv 5)) (fun _ _ => rfl)) (pa_cons (pe_ix (r := rIxL K) ix_list (pv 6) (pe_op op_add (pe_op op_mul pe_int (pv 5)) pe_int) (fun _ _ => rfl)) pa_nil))))) pa_nil))))))))))))), ?_⟩
    refine ⟨_, rfl, a, ns, 1, rfl, hS, hns, by decide, fun c0 H0 s0 => ⟨(by show 3 ≤ sizeLine; decide), fun z0 nz0 => ⟨z0, c0, [7, 7, 15], rfl, SqL.of upd_same, by decide, by decide, fun dp ds H2 s2 ndp edp dr => ?_⟩⟩⟩
    obtain ⟨n, m, z2, rfl, b0, b1, b2⟩ : ∃ n m z2, ds = [n, m, z2] ∧ n < 7 ∧ m < 7 ∧ z2 < 15 := by
      cases dr with | cons h0 dr => cases dr with | cons h1 dr => cases dr with | cons h2 dr => cases dr with | nil => exact ⟨_, _, _, rfl, h0, h1, h2⟩
    have t2 : Same H H2 := (s0.new nz0).trans s2
    have hG : SqL K H2 dp ([n, m, z2].map nV) := SqL.of edp
    refine ⟨_, rfl, dp, _, 0, nV n, rfl, rfl, hG, at_n (j := 0) rfl, _, rfl, dp, _, 1, nV m, rfl, rfl, hG, at_n (j := 1) rfl, ?_⟩
    have none_ : ∀ {x : Nat × Nat}, False → True := fun _ => trivial
    have stop : ∀ p t, H2 p = none → (upd H2 p (.lst [])) t = none → Q (.ref t) (upd (upd H2 p (.lst [])) t (.tup [nV n, nV m, .ref p])) := fun p t np nt => by
      have s3 : Same H2 (upd H2 p (.lst [])) := (Same.refl H2).new np
      have s4 := s3.new (o := .tup [nV n, nV m, .ref p]) nt
      refine q t p [] n m [] _ (t2.trans s4) upd_same (t2.free np) ?_ .nil (fun q h => by cases h) (by omega) (by omega) (Nat.zero_le _)
      rw [upd_ne (ne_of_none upd_same nt)]
      exact upd_same
    refine ⟨_, rfl, rfl, _, rfl, ?_⟩
    by_cases n0 : n = 0
    · rw [decide_eq_true (show nV n = V.int 0 by rw [n0]; rfl)]
      exact iteT (iteT ⟨_, rfl, _, rfl, Nat.zero_le _, fun p np => ⟨(by show 3 ≤ sizeLine; decide), fun t nt => stop p t np nt⟩⟩)
    rw [decide_eq_false (show ¬ nV n = V.int 0 from fun z => n0 (by have := V.int.inj z; omega))]
    refine iteF ⟨_, rfl, rfl, _, rfl, ?_⟩
    by_cases m0 : m = 0
    · rw [decide_eq_true (show nV m = V.int 0 by rw [m0]; rfl)]
      exact iteT ⟨_, rfl, _, rfl, Nat.zero_le _, fun p np => ⟨(by show 3 ≤ sizeLine; decide), fun t nt => stop p t np nt⟩⟩
    rw [decide_eq_false (show ¬ nV m = V.int 0 from fun z => m0 (by have := V.int.inj z; omega))]
    refine iteF ?_
    refine ⟨Nat.zero_le _, fun z nz => ?_⟩
    refine ⟨_, rfl, dp, _, 2, nV z2, rfl, rfl, ((Same.refl H2).new nz).seq hG, at_n (j := 2) rfl, _, rfl, (by omega), (by omega), ?_⟩
    rw [show ((z2 : Nat) : Int).toNat = z2 by omega]
    refine for_range (lo := 0) (n := z2) (fun i σ H' => ∃ (v5 : Option V), σ = [some (.ref a), some (.ref dp), some (nV n), some (nV m), some (.ref z), v5, none] ∧ Same H2 H' ∧ H' z = some (.lst (((List.replicate i [n, m]).flatten).map nV)))
      ⟨_, rfl, (Same.refl H2).new nz, upd_same⟩ ?_ ?_
    · rintro i σ H' hi ⟨v5, rfl, sm, e⟩
      refine ⟨_, rfl, .inl ⟨rfl, _, SqL.of e⟩, _, rfl, _, rfl, sp2, fun t nt => ?_⟩
      have ezt : z ≠ t := ne_of_none e nt
      refine ⟨z, t, _, _, rfl, rfl, (by rw [upd_ne ezt]; exact e), upd_same, ?_, ?_⟩
      · rw [List.length_map, flat_len2]
        exact szle (by show 2 * i + 2 ≤ 10000; omega)
      · refine ⟨_, rfl, (sm.new nt).mut nz, ?_⟩
        rw [upd_same, List.replicate_succ', List.flatten_append, List.map_append]
        rfl
    rintro σ H1 ⟨v5, rfl, s1, ez⟩
    refine ⟨_, rfl, a, ns, 2, rfl, (t2.trans s1).seq hS, hns, by decide, fun c H3 s3 => ⟨_, rfl, z, c, (List.replicate z2 [n, m]).flatten, rfl, SqL.of (s3 _ _ ez), ?_, ?_, fun dq ds H4 s4 ndq edq dr => ?_⟩⟩
    · rw [flat_len2]
      omega
    · intro y hy
      obtain ⟨l, hl, hy⟩ := List.mem_flatten.mp hy
      rw [List.eq_of_mem_replicate hl] at hy
      simp only [List.mem_cons, List.not_mem_nil, or_false] at hy
      rcases hy with rfl | rfl <;> omega
    have t4 := ((t2.trans s1).trans s3).trans s4
    have hG4 := ((s1.trans s3).trans s4).seq hG
    refine ⟨_, rfl, _, rfl, _, rfl, dp, _, 2, nV z2, rfl, rfl, hG4, at_n (j := 2) rfl, _, rfl, (by omega), (by omega), ?_⟩
    rw [show ((z2 : Nat) : Int).toNat = z2 by omega]
    refine fun D nD => ?_
    refine lc_range (lo := 0) (n := z2) (fun i H' => ∃ (us : List V) (ps : K02.PL), Same H4 H' ∧ H' D = some (.lst us) ∧ PI K H' us (upP ps) ∧ In2 n m ps ∧ ps.length = i) ⟨[], [], (Same.refl H4).new nD, upd_same, .nil, (fun q h => by cases h), rfl⟩ ?_ ?_
    · rintro i H5 hi ⟨us, ps, s5, eD, hP, hW, hl⟩
      rw [show (0 : Int) + (i : Int) = (i : Int) by omega]
      obtain ⟨x, hx, bx⟩ := P_left dr (i := 2 * i) (y := n) (flat_get0 hi)
      obtain ⟨y, hy, by'⟩ := P_left dr (i := 2 * i + 1) (y := m) (flat_get1 hi)
      have hA := s5.seq (SqL.of (K := K) edq)
      refine ⟨rfl, _, rfl, _, rfl, _, _, rfl, rfl, .inl ⟨by decide, by decide⟩, dq, _, _, nV x, rfl, rfl, hA, at_n (j := 2 * i) (getn hx), _, rfl, _, rfl, _, _, rfl, rfl, .inl ⟨by decide, by decide⟩, _, _, rfl, rfl, dq, _, _, nV y, rfl, rfl, hA, at_n (j := 2 * i + 1) (getn hy), sp2, fun t nt => ?_⟩
      have eD2 : (upd H5 t (.tup [nV x, nV y])) D = some (.lst us) := by rw [upd_ne (ne_of_none eD nt)]; exact eD
      refine ⟨us, eD2, ?_, us ++ [V.ref t], ps ++ [(x, y)], (s5.new nt).mut nD, upd_same, ?_, ?_, by rw [List.length_append, hl]; rfl⟩
      · rw [hP.len, upP_len, hl]
        exact szl (by omega)
      · rw [upP_snoc]
        exact ((hP.same ((Same.refl H5).new nt)).snoc (SqT.of upd_same)).mutL eD2
      · intro q hq
        rcases List.mem_append.mp hq with h | h
        · exact hW q h
        · rw [List.mem_singleton.mp h]
          exact ⟨bx, by'⟩
    rintro H5 ⟨us, ps, s5, eD, hP, hW, hl⟩
    refine ⟨(by show 3 ≤ sizeLine; decide), fun t nt => ?_⟩
    have s6 : Same H5 (upd H5 t (.tup [nV n, nV m, .ref D])) := (Same.refl H5).new nt
    exact q t D us n m ps _ ((t4.trans s5).trans s6) upd_same (t4.free nD) (s6 _ _ eD) (hP.same s6) hW (by omega) (by omega) (by omega)
theorem ok_any {f f1 f2 : Addr} {fd fd1 fd2 : FuncData} (F : Fun K "_law_any_pairs" "_law_any_pairs" s_law_any_pairs f fd) (T : Txt mg) (C_law_draws : Cal P w K mg base 1 "_law_draws" ["cell", "sizes"] (sp_draws K) f1 fd1) (C_law_cell : Cal P w K mg base 1 "_law_cell" ["script", "k"] (sp_cell K) f2 fd2) : FnOk P w K mg base CX0 2 f fd ["script"] (sp_psel K 40 60) := by
  refine F.ok sc_law_any_pairs (fun vs H Q E h => ?_) (fun cdv A outer s H vs Q E hr h => ?_)
  · obtain ⟨a, ns, rfl, _⟩ := h
    rfl
  · obtain ⟨a, ns, rfl, hS, hns, q⟩ := h
    refine ⟨_, (pss_cons (ps_set (i := 1) sc_law_any_pairs.nd rfl (.inl rfl) (pe_call C_law_draws.ok (hr.mono (by decide)) (by rfl) C_law_draws.mg C_law_draws.kp C_law_draws.b .nil pass0 (pa_cons (pe_call C_law_cell.ok (hr.mono (by decide)) (by rfl) C_law_cell.mg C_law_cell.kp C_law_cell.b .nil pass0 (pa_cons (pv 0) (pa_cons pe_int pa_nil))) (pa_cons (pe_lst (pa_cons pe_int (pa_cons pe_int (pa_cons pe_int pa_nil)))) pa_nil))))
 (pss_cons (ps_set (i := 2) sc_law_any_pairs.nd rfl (.inl rfl) (pe_op op_add pe_int (pe_ix ix_list (pv 1) pe_int (fun _ _ => rfl))))
 (pss_cons (ps_set (i := 3) sc_law_any_pairs.nd rfl (.inl rfl) (pe_op op_add pe_int (pe_ix ix_list (pv 1) pe_int (fun _ _ => rfl))))
 (pss_cons (ps_set (i := 4) sc_law_any_pairs.nd rfl (.inl rfl) (pe_lst pa_nil))
 (pss_cons (ps_for PassesOwn.never rfl (pi_range1 rfl T.range (pa_cons (pe_ix ix_list (pv 1) pe_int (fun _ _ => rfl)) pa_nil)) (pg_name (i := 5) sc_law_any_pairs.nd rfl (.inl rfl))
 (pss_one (ps_expr (pe_bm PySem.F.plainAttrs_list PySem.F.slot_list_extend PySem.F.type_list_extend mt_extend (pv 4) (pa_cons (pe_lst (pa_cons (pv 2) (pa_cons (pv 3) pa_nil))) pa_nil)))))
 (pss_cons (ps_set (i := 6) sc_law_any_pairs.nd rfl (.inr rfl) (pe_call C_law_draws.ok (hr.mono (by decide)) (by rfl) C_law_draws.mg C_law_draws.kp C_law_draws.b .nil pass0 (pa_cons (pe_call C_law_cell.ok (hr.mono (by decide)) (by rfl) C_law_cell.mg C_law_cell.kp C_law_cell.b .nil pass0 (pa_cons (pv 0) (pa_cons pe_int pa_nil))) (pa_cons (pv 4) pa_nil))))
 (pss_one (ps_ret (pe_tup (pa_cons (pv 2) (pa_cons (pv 3) (pa_cons (pe_lc (own := [("k", 5)]) (g := gName 5) (tt := tYes) rfl sc_law_any_pairs.nd (pi_range1 rfl T.range (pa_cons (pe_ix ix_list (pv 1) pe_int (fun _ _ => rfl)) pa_nil)) (blkOk_by (N := ["script", "shape", "lefts", "rights", "sizes", "k", "drawn"]) (sc := defScope s_law_any_pairs) (by decide +kernel)) (fun _ _ _ _ _ => (pg_name (i := 5) sc_law_any_pairs.nd rfl (.inl rfl))) (fun _ _ _ _ _ => pts_nil) (fun _ _ _ _ _ => (pe_tup (pa_cons (pe_ix (r := rIxL K) ix_list (pv 6) (pe_op op_mul pe_int (pv 5)) (fun _ _ => rfl)) (pa_cons (pe_ix (r := rIxL K) ix_list (pv 6) (pe_op op_add (pe_op op_mul pe_int (pv 5)) pe_int) (fun _ _ => rfl)) pa_nil))))) pa_nil)))))))))))), ?_⟩
    refine asgN ⟨_, rfl, a, ns, 1, rfl, hS, hns, by decide, fun c0 H0 s0 => ⟨(by show 3 ≤ sizeLine; decide), fun z0 nz0 => ⟨z0, c0, [34, 34, 61], rfl, SqL.of upd_same, by decide, by decide, fun dp ds H2 s2 ndp edp dr σ' e => ?_⟩⟩⟩
    obtain rfl : σ' = [some (.ref a), some (.ref dp), none, none, none, none, none] := e.symm
    clear e
    obtain ⟨n1, m1, z2, rfl, b0, b1, b2⟩ : ∃ n m z2, ds = [n, m, z2] ∧ n < 34 ∧ m < 34 ∧ z2 < 61 := by
      cases dr with | cons h0 dr => cases dr with | cons h1 dr => cases dr with | cons h2 dr => cases dr with | nil => exact ⟨_, _, _, rfl, h0, h1, h2⟩
    have t2 : Same H H2 := (s0.new nz0).trans s2
    have hG : SqL K H2 dp ([n1, m1, z2].map nV) := SqL.of edp
    refine asgN ⟨_, rfl, dp, _, 0, nV n1, rfl, rfl, hG, at_n (j := 0) rfl, _, _, rfl, rfl, fun σ' e => ?_⟩
    dsimp only at e
    rw [add7] at e
    generalize en : 7 + n1 = n at e
    obtain rfl : σ' = [some (.ref a), some (.ref dp), some (nV n), none, none, none, none] := e.symm
    clear e
    refine asgN ⟨_, rfl, dp, _, 1, nV m1, rfl, rfl, hG, at_n (j := 1) rfl, _, _, rfl, rfl, fun σ' e => ?_⟩
    dsimp only at e
    rw [add7] at e
    generalize em : 7 + m1 = m at e
    obtain rfl : σ' = [some (.ref a), some (.ref dp), some (nV n), some (nV m), none, none, none] := e.symm
    clear e
    refine ⟨Nat.zero_le _, fun z nz => ?_⟩
    refine ⟨_, rfl, dp, _, 2, nV z2, rfl, rfl, ((Same.refl H2).new nz).seq hG, at_n (j := 2) rfl, _, rfl, (by omega), (by omega), ?_⟩
    rw [show ((z2 : Nat) : Int).toNat = z2 by omega]
    refine for_range (lo := 0) (n := z2) (fun i σ H' => ∃ (v5 : Option V), σ = [some (.ref a), some (.ref dp), some (nV n), some (nV m), some (.ref z), v5, none] ∧ Same H2 H' ∧ H' z = some (.lst (((List.replicate i [n, m]).flatten).map nV)))
      ⟨_, rfl, (Same.refl H2).new nz, upd_same⟩ ?_ ?_
    · rintro i σ H' hi ⟨v5, rfl, sm, e⟩
      refine ⟨_, rfl, .inl ⟨rfl, _, SqL.of e⟩, _, rfl, _, rfl, sp2, fun t nt => ?_⟩
      have ezt : z ≠ t := ne_of_none e nt
      refine ⟨z, t, _, _, rfl, rfl, (by rw [upd_ne ezt]; exact e), upd_same, ?_, ?_⟩
      · rw [List.length_map, flat_len2]
        exact szle (by show 2 * i + 2 ≤ 10000; omega)
      · refine ⟨_, rfl, (sm.new nt).mut nz, ?_⟩
        rw [upd_same, List.replicate_succ', List.flatten_append, List.map_append]
        rfl
    rintro σ H1 ⟨v5, rfl, s1, ez⟩
    refine ⟨_, rfl, a, ns, 2, rfl, (t2.trans s1).seq hS, hns, by decide, fun c H3 s3 => ⟨_, rfl, z, c, (List.replicate z2 [n, m]).flatten, rfl, SqL.of (s3 _ _ ez), ?_, ?_, fun dq ds H4 s4 ndq edq dr => ?_⟩⟩
    · rw [flat_len2]
      omega
    · intro y hy
      obtain ⟨l, hl, hy⟩ := List.mem_flatten.mp hy
      rw [List.eq_of_mem_replicate hl] at hy
      simp only [List.mem_cons, List.not_mem_nil, or_false] at hy
      rcases hy with rfl | rfl <;> omega
    have t4 := ((t2.trans s1).trans s3).trans s4
    have hG4 := ((s1.trans s3).trans s4).seq hG
    refine ⟨_, rfl, _, rfl, _, rfl, dp, _, 2, nV z2, rfl, rfl, hG4, at_n (j := 2) rfl, _, rfl, (by omega), (by omega), ?_⟩
    rw [show ((z2 : Nat) : Int).toNat = z2 by omega]
    refine fun D nD => ?_
    refine lc_range (lo := 0) (n := z2) (fun i H' => ∃ (us : List V) (ps : K02.PL), Same H4 H' ∧ H' D = some (.lst us) ∧ PI K H' us (upP ps) ∧ In2 n m ps ∧ ps.length = i) ⟨[], [], (Same.refl H4).new nD, upd_same, .nil, (fun q h => by cases h), rfl⟩ ?_ ?_
    · rintro i H5 hi ⟨us, ps, s5, eD, hP, hW, hl⟩
      rw [show (0 : Int) + (i : Int) = (i : Int) by omega]
      obtain ⟨x, hx, bx⟩ := P_left dr (i := 2 * i) (y := n) (flat_get0 hi)
      obtain ⟨y, hy, by'⟩ := P_left dr (i := 2 * i + 1) (y := m) (flat_get1 hi)
      have hA := s5.seq (SqL.of (K := K) edq)
      refine ⟨rfl, _, rfl, _, rfl, _, _, rfl, rfl, .inl ⟨by decide, by decide⟩, dq, _, _, nV x, rfl, rfl, hA, at_n (j := 2 * i) (getn hx), _, rfl, _, rfl, _, _, rfl, rfl, .inl ⟨by decide, by decide⟩, _, _, rfl, rfl, dq, _, _, nV y, rfl, rfl, hA, at_n (j := 2 * i + 1) (getn hy), sp2, fun t nt => ?_⟩
      have eD2 : (upd H5 t (.tup [nV x, nV y])) D = some (.lst us) := by rw [upd_ne (ne_of_none eD nt)]; exact eD
      refine ⟨us, eD2, ?_, us ++ [V.ref t], ps ++ [(x, y)], (s5.new nt).mut nD, upd_same, ?_, ?_, by rw [List.length_append, hl]; rfl⟩
      · rw [hP.len, upP_len, hl]
        exact szl (by omega)
      · rw [upP_snoc]
        exact ((hP.same ((Same.refl H5).new nt)).snoc (SqT.of upd_same)).mutL eD2
      · intro q hq
        rcases List.mem_append.mp hq with h | h
        · exact hW q h
        · rw [List.mem_singleton.mp h]
          exact ⟨bx, by'⟩
    rintro H5 ⟨us, ps, s5, eD, hP, hW, hl⟩
    refine ⟨(by show 3 ≤ sizeLine; decide), fun t nt => ?_⟩
    have s6 : Same H5 (upd H5 t (.tup [nV n, nV m, .ref D])) := (Same.refl H5).new nt
    exact q t D us n m ps _ ((t4.trans s5).trans s6) upd_same (t4.free nD) (s6 _ _ eD) (hP.same s6) hW (by omega) (by omega) (by omega)
end
end K26W

namespace K26W
open PySem PySem.Spec PyProof.Rows L2 KH KD KP K26
abbrev s_law_rights_of : Stmt := topS 17
theorem sc_law_rights_of : FnScope ["lot", "rights", "pairs", "touched", "pair", "right"] ["lot", "rights", "pairs"] (defScope s_law_rights_of) := ⟨rfl, rfl, rfl, by decide +kernel, rfl, by decide +kernel, by decide +kernel⟩

abbrev s_law_due : Stmt := topS 18
theorem sc_law_due : FnScope ["lefts", "rights", "pairs", "lots", "left", "longer", "best", "touched", "lot", "found"] ["lefts", "rights", "pairs"] (defScope s_law_due) := ⟨rfl, rfl, rfl, by decide +kernel, rfl, by decide +kernel, by decide +kernel⟩

/-! ### all lots of lefts -/
def subs : Nat → List (List Nat)
  | 0 => [[]]
  | n + 1 => subs n ++ (subs n).map (· ++ [n])
theorem subs_len : ∀ n, (subs n).length = 2 ^ n
  | 0 => rfl
  | n + 1 => by
    show (subs n ++ (subs n).map (· ++ [n])).length = _
    rw [List.length_append, List.length_map, subs_len n, Nat.pow_succ]
    omega
theorem subs_has (S : Nat → Bool) : ∀ n, lot n S ∈ subs n
  | 0 => List.mem_singleton.mpr rfl
  | n + 1 => by
    have ih := subs_has S n
    have e : lot (n + 1) S = lot n S ++ (if S n then [n] else []) := by
      unfold lot
      rw [List.range_succ, List.filter_append]
      congr 1
      cases h : S n <;> simp [List.filter_cons, h]
    show lot (n + 1) S ∈ subs n ++ (subs n).map (· ++ [n])
    rw [e]
    cases h : S n with
    | true => exact List.mem_append_right _ (List.mem_map.mpr ⟨_, ih, rfl⟩)
    | false =>
      rw [if_neg Bool.false_ne_true, List.append_nil]
      exact List.mem_append_left _ ih
theorem subs_wf : ∀ n, ∀ l ∈ subs n, l.Nodup ∧ ∀ x ∈ l, x < n
  | 0, l, h => by
    rw [List.mem_singleton.mp h]
    exact ⟨List.nodup_nil, fun x hx => by cases hx⟩
  | n + 1, l, h => by
    rcases List.mem_append.mp h with h | h
    · obtain ⟨a, b⟩ := subs_wf n l h
      exact ⟨a, fun x hx => by have := b x hx; omega⟩
    · obtain ⟨l', h', rfl⟩ := List.mem_map.mp h
      obtain ⟨a, b⟩ := subs_wf n l' h'
      refine ⟨List.nodup_append.mpr ⟨a, by simp, fun x hx y hy e => ?_⟩, fun x hx => ?_⟩
      · have := b x hx
        rw [List.mem_singleton.mp hy] at e
        omega
      · rcases List.mem_append.mp hx with hx | hx
        · have := b x hx
          omega
        · rw [List.mem_singleton.mp hx]
          omega
/-- a lot as a mark of each left -/
def mk (l : List Nat) : Nat → Bool := fun x => l.contains x
theorem mk_iff {l : List Nat} {x : Nat} : mk l x = true ↔ x ∈ l := by unfold mk; simp
theorem lot_mk {n : Nat} {l : List Nat} (nd : l.Nodup) (lt : ∀ x ∈ l, x < n) : (lot n (mk l)).length = l.length := by
  refine Nat.le_antisymm (sub_length _ _ (lot_nd _ _) fun x hx => mk_iff.mp (mem_lot.mp hx).2) (sub_length _ _ nd fun x hx => mem_lot.mpr ⟨lt x hx, mk_iff.mpr hx⟩)
def kd (m : Nat) (ps : K02.PL) (l : List Nat) : Int := ((lot m (nb ps (mk l))).length : Int) - (l.length : Int)
/-- less in lack and size -/
def less (m : Nat) (ps : K02.PL) (l b : List Nat) : Bool := if kd m ps l = kd m ps b then decide (l.length < b.length) else decide (kd m ps l < kd m ps b)
theorem less_no {m : Nat} {ps : K02.PL} {l b b' : List Nat} (h : less m ps l b = false) (g : less m ps b' b = true) : less m ps l b' = false := by
  unfold less at *
  split at h <;> split at g <;> split <;> simp only [decide_eq_true_eq, decide_eq_false_iff_not] at * <;> omega
theorem less_irr (m : Nat) (ps : K02.PL) (l : List Nat) : less m ps l l = false := by
  unfold less
  rw [if_pos rfl]
  simp
theorem nb_congr {ps : K02.PL} {m n : Nat} (hw : In2 n m ps) {A B : Nat → Bool} (h : ∀ l, l < n → A l = B l) (r : Nat) : nb ps A r = nb ps B r := by
  rw [Bool.eq_iff_iff, nb_iff, nb_iff]
  constructor <;> rintro ⟨l, a, b⟩
  · exact ⟨l, by rw [← h l (hw _ b).1]; exact a, b⟩
  · exact ⟨l, by rw [h l (hw _ b).1]; exact a, b⟩
/-- what must be reached -/
def DueQ (n m : Nat) (ps : K02.PL) (A : Nat → Bool) : Prop := ∀ Z, Zed n m ps Z → Z = A
theorem due_of {n m : Nat} {ps : K02.PL} (hw : In2 n m ps) {b : List Nat} (hb : b ∈ subs n) (low : ∀ l ∈ subs n, less m ps l b = false) : DueQ n m ps (mk b) := fun Z z => by
  obtain ⟨nd, lt⟩ := subs_wf n b hb
  have h := low _ (subs_has Z n)
  have zl : lot n (mk (lot n Z)) = lot n Z := by
    unfold lot
    refine List.filter_congr fun x hx => ?_
    rw [Bool.eq_iff_iff, mk_iff]
    show x ∈ lot n Z ↔ _
    rw [mem_lot]
    exact ⟨fun h => h.2, fun h => ⟨List.mem_range.mp hx, h⟩⟩
  have znb : lot m (nb ps (mk (lot n Z))) = lot m (nb ps Z) := by
    unfold lot
    refine List.filter_congr fun r _ => nb_congr hw (fun x hx => ?_) r
    rw [Bool.eq_iff_iff, mk_iff]
    show x ∈ lot n Z ↔ _
    rw [mem_lot]
    exact ⟨fun h => h.2, fun h => ⟨hx, h⟩⟩
  have lb := lot_mk nd lt
  have lw := z.low (mk b)
  unfold less kd at h
  rw [znb] at h
  have eq1 : (lot n (mk b)).length + (lot m (nb ps Z)).length = (lot n Z).length + (lot m (nb ps (mk b))).length := by
    split at h <;> simp only [decide_eq_false_iff_not] at h <;> omega
  have sub := z.least (mk b) eq1
  have ge : b.length ≤ (lot n Z).length := by
    split at h <;> simp only [decide_eq_false_iff_not] at h <;> omega
  funext x
  rw [Bool.eq_iff_iff]
  refine ⟨sub x, fun hx => ?_⟩
  refine Classical.byContradiction fun no => ?_
  have hxb := mk_iff.mp hx
  have : (x :: lot n Z).length ≤ b.length := sub_length _ _ (List.nodup_cons.mpr ⟨fun z => no (mem_lot.mp z).2, lot_nd _ _⟩) fun y hy => by
    rcases List.mem_cons.mp hy with e | hy
    · rw [e]
      exact hxb
    · exact mk_iff.mp (sub y (mem_lot.mp hy).2)
  rw [List.length_cons] at this
  omega
/-- what is due, in a heap -/
structure DueAt (K : PySem.W.Frag) (H : Hp) (n m : Nat) (ps : K02.PL) (A : Nat → Bool) (s : Nat) (y z r : Addr) : Prop where
  r : H r = some (.tup [nV s, .ref y, .ref z])
  y : SqL K H y ((cvL n A).map nV)
  z : SqL K H z ((cvR m ps A).map nV)
  s : s + (lot n A).length = n + (cvR m ps A).length
  due : DueQ n m ps A
theorem DueAt.same {K : PySem.W.Frag} {H H' : Hp} {n m : Nat} {ps : K02.PL} {A : Nat → Bool} {s : Nat} {y z r : Addr} (h : DueAt K H n m ps A s y z r) (sm : Same H H') : DueAt K H' n m ps A s y z r := ⟨sm _ _ h.r, sm.seq h.y, sm.seq h.z, h.s, h.due⟩
/-- lists of numbers -/
def RL (H : Hp) (us : List V) (L : List (List Nat)) : Prop := Paired (fun v l => ∃ a, v = V.ref a ∧ H a = some (.lst (l.map nV))) us L
theorem RL.same {H H' : Hp} {us : List V} {L : List (List Nat)} (h : RL H us L) (s : Same H H') : RL H' us L := P_mono (fun _ _ ⟨a, e, q⟩ => ⟨a, e, s _ _ q⟩) h
section
variable {P : Program} {w : World} {K : PySem.W.Frag} {mg : Str → Option Value} {base : Heap} {CN CB CD CT CU fI : Addr}
def sp_rightsof (K : PySem.W.Frag) : Sp := fun vs H Q _ => ∃ (la pa : Addr) (m : Nat) (l : List Nat) (us : List V) (ps : K02.PL), vs = [.ref la, nV m, .ref pa] ∧ SqL K H la (l.map nV) ∧ SqL K H pa us ∧ PI K H us (upP ps) ∧ m ≤ 100 ∧ ps.length ≤ 1000 ∧
  ∀ r H', Same H H' → H r = none → H' r = some (.lst ((lot m (nb ps (mk l))).map nV)) → Q (.ref r) H'
theorem ok_rightsof {f : Addr} {fd : FuncData} (F : Fun K "_law_rights_of" "_law_rights_of" s_law_rights_of f fd) (T : Txt mg) : FnOk P w K mg base CX0 1 f fd ["lot", "rights", "pairs"] (sp_rightsof K) := by
  refine F.ok sc_law_rights_of (fun vs H Q E h => ?_) (fun cdv A outer s H vs Q E hr h => ?_)
  · obtain ⟨la, pa, m, l, us, ps, rfl, _⟩ := h
    rfl
  · obtain ⟨la, pa, m, l, us, ps, rfl, hL, hS, hP, hm, hl, q⟩ := h
    refine ⟨_, (pss_cons (ps_set (i := 3) sc_law_rights_of.nd rfl (.inr rfl) (pe_lc (own := [("pair", 4)]) (g := gName 4) rfl sc_law_rights_of.nd (pi_list (pv 2)) (blkOk_by (N := ["lot", "rights", "pairs", "touched", "pair", "right"]) (sc := defScope s_law_rights_of) (by decide +kernel)) (fun _ _ _ _ _ => (pg_name (i := 4) sc_law_rights_of.nd rfl (.inl rfl))) (fun _ _ _ _ _ => pts_one (pt_cmpR (r := rIn K false) op_in_seq (pe_ix (r := rIxT K) ix_tup (pv 4) pe_int (fun _ _ => rfl)) (pv 0) (by rfl))) (fun _ _ _ _ _ => (pe_ix (r := rIxT K) ix_tup (pv 4) pe_int (fun _ _ => rfl)))))
 (pss_one (ps_ret (pe_lc (own := [("right", 5)]) (g := gName 5) rfl sc_law_rights_of.nd (pi_range1 rfl T.range (pa_cons (pv 1) pa_nil)) (blkOk_by (N := ["lot", "rights", "pairs", "touched", "pair", "right"]) (sc := defScope s_law_rights_of) (by decide +kernel)) (fun _ _ _ _ _ => (pg_name (i := 5) sc_law_rights_of.nd rfl (.inl rfl))) (fun _ _ _ _ _ => pts_one (pt_cmpR (r := rIn K false) op_in_seq (pv 5) (pv 3) (by rfl))) (fun _ _ _ _ _ => (pv 5)))))), ?_⟩
    have hul : us.length = ps.length := by rw [hP.len, upP_len]
    refine ⟨_, rfl, pa, rfl, ⟨_, hS⟩, fun D nD => ?_⟩
    refine lc_list (K := K) (a := pa) (xs := us) (fun i H' => Same H H' ∧ H' D = some (.lst ((((ps.take i).filter fun q => mk l q.1).map (·.2)).map nV))) ⟨(Same.refl H).new nD, upd_same⟩ (fun i H' _ ⟨sm, _⟩ => sm.seq hS) ?_ ?_
    · rintro i x H1 hx ⟨s1, eD⟩
      obtain ⟨q1, hq, t, rfl, et⟩ := P_right hP hx
      obtain ⟨a, b, hab, rfl⟩ := upP_get hq
      have et1 := s1.seqT et
      refine ⟨rfl, _, rfl, t, _, 0, nV a, rfl, rfl, et1, rfl, _, rfl, la, _, rfl, .inl (s1.seq hL), rfl, flat_n _, _, rfl, ?_⟩
      rw [in_n]
      cases c : mk l a with
      | true =>
        have c' : l.contains a = true := c
        rw [c']
        refine iteT ⟨_, rfl, t, _, 1, nV b, rfl, rfl, et1, rfl, _, eD, ?_, s1.mut nD, ?_⟩
        · rw [List.length_map, List.length_map]
          exact szl (Nat.le_trans (List.length_filter_le _ _) (Nat.le_trans (List.length_take_le' _ _) (by omega)))
        · rw [upd_same, take_more hab, List.filter_append]
          simp only [List.filter_cons, c, if_true, List.filter_nil, List.map_append, List.map_cons, List.map_nil]
      | false =>
        have c' : l.contains a = false := c
        rw [c']
        refine iteF ⟨s1, ?_⟩
        rw [eD, take_more hab, List.filter_append]
        simp only [List.filter_cons, c, Bool.false_eq_true, if_false, List.filter_nil, List.append_nil]
    rintro H1 ⟨s1, eD⟩
    rw [hul, List.take_length] at eD
    have tch : ∀ r, ((ps.filter fun q => mk l q.1).map (·.2)).contains r = nb ps (mk l) r := fun r => by
      rw [Bool.eq_iff_iff, nb_iff]
      simp only [List.contains_eq_mem, decide_eq_true_eq, List.mem_map, List.mem_filter]
      constructor
      · rintro ⟨⟨a, b⟩, ⟨h1, h2⟩, rfl⟩
        exact ⟨a, h2, h1⟩
      · rintro ⟨a, h1, h2⟩
        exact ⟨(a, r), ⟨h2, h1⟩, rfl⟩
    generalize (ps.filter fun q => mk l q.1).map (·.2) = tl at eD tch
    refine ⟨_, rfl, _, rfl, (by omega), (by omega), ?_⟩
    rw [show ((m : Nat) : Int).toNat = m by omega]
    refine fun z nz => ?_
    refine lc_range (lo := 0) (n := m) (fun i H' => Same H1 H' ∧ H' z = some (.lst ((lot i (nb ps (mk l))).map nV))) ⟨(Same.refl H1).new nz, upd_same⟩ ?_ ?_
    · rintro i H2 hi ⟨s2, ez⟩
      rw [show (0 : Int) + (i : Int) = (i : Int) by omega]
      refine ⟨rfl, _, rfl, _, rfl, D, _, rfl, .inl (SqL.of (s2 _ _ eD)), rfl, flat_n _, _, rfl, ?_⟩
      rw [in_n, tch]
      cases c : nb ps (mk l) i with
      | false =>
        refine iteF ⟨s2, ?_⟩
        rw [ez]
        unfold lot
        rw [List.range_succ, List.filter_append]
        simp only [List.filter_cons, c, Bool.false_eq_true, if_false, List.filter_nil, List.append_nil]
      | true =>
        refine iteT ⟨_, rfl, _, ez, ?_, s2.mut nz, ?_⟩
        · rw [List.length_map]
          exact szl (Nat.le_trans (List.length_filter_le _ _) (by rw [List.length_range]; omega))
        · rw [upd_same]
          unfold lot
          rw [List.range_succ, List.filter_append, List.map_append]
          simp only [List.filter_cons, c, if_true, List.filter_nil, List.map_cons, List.map_nil]
    rintro H2 ⟨s2, ez⟩
    exact q z H2 (s1.trans s2) (s1.free nz) ez
def sp_due (K : PySem.W.Frag) : Sp := fun vs H Q _ => ∃ (n m : Nat) (pa : Addr) (us : List V) (ps : K02.PL), vs = [nV n, nV m, .ref pa] ∧ SqL K H pa us ∧ PI K H us (upP ps) ∧ In2 n m ps ∧ n ≤ 6 ∧ m ≤ 100 ∧ ps.length ≤ 1000 ∧
  ∀ r y z A sz H', Same H H' → DueAt K H' n m ps A sz y z r → Q (.ref r) H'
theorem ok_due {f f1 : Addr} {fd fd1 : FuncData} (F : Fun K "_law_due" "_law_due" s_law_due f fd) (T : Txt mg) (C_law_rights_of : Cal P w K mg base 1 "_law_rights_of" ["lot", "rights", "pairs"] (sp_rightsof K) f1 fd1) : FnOk P w K mg base CX0 2 f fd ["lefts", "rights", "pairs"] (sp_due K) := by
  refine F.ok sc_law_due (fun vs H Q E h => ?_) (fun cdv A outer s H vs Q E hr h => ?_)
  · obtain ⟨n, m, pa, us, ps, rfl, _⟩ := h
    rfl
  · obtain ⟨n, m, pa, us, ps, rfl, hS, hP, hw, hn, hm, hl, q⟩ := h
    refine ⟨_, (pss_cons (ps_set (i := 3) sc_law_due.nd rfl (.inl rfl) (pe_lst (pa_cons (pe_lst pa_nil) pa_nil)))
 (pss_cons (ps_for PassesOwn.never rfl (pi_range1 rfl T.range (pa_cons (pv 0) pa_nil)) (pg_name (i := 4) sc_law_due.nd rfl (.inr rfl))
 (pss_cons (ps_setLc (i := 5) (own := [("lot", 8)]) (g := gName 8) (tt := tYes) rfl sc_law_due.nd rfl rfl (sw_true rfl rfl rfl (by decide +kernel)) (pi_list (pv 3)) (blkOk_by (N := ["lefts", "rights", "pairs", "lots", "left", "longer", "best", "touched", "lot", "found"]) (sc := defScope s_law_due) (by decide +kernel)) (fun _ _ _ _ _ => (pg_name (i := 8) sc_law_due.nd rfl (.inl rfl))) (fun _ _ _ _ _ => pts_nil) (fun _ _ _ _ _ => (pe_op op_cat (pv 8) (pe_lst (pa_cons (pv 4) pa_nil)))))
 (pss_one (ps_set (i := 3) sc_law_due.nd rfl (.inl rfl) (pe_op op_cat (pv 3) (pv 5))))))
 (pss_cons (ps_set (i := 6) sc_law_due.nd rfl (.inr rfl) (pe_lst pa_nil))
 (pss_cons (ps_set (i := 7) sc_law_due.nd rfl (.inl rfl) (pe_call C_law_rights_of.ok (hr.mono (by decide)) (by rfl) C_law_rights_of.mg C_law_rights_of.kp C_law_rights_of.b .nil pass0 (pa_cons (pv 6) (pa_cons (pv 1) (pa_cons (pv 2) pa_nil)))))
 (pss_cons (ps_for PassesOwn.never rfl (pi_list (pv 3)) (pg_name (i := 8) sc_law_due.nd rfl (.inl rfl))
 (pss_cons (ps_set (i := 9) sc_law_due.nd rfl (.inl rfl) (pe_call C_law_rights_of.ok (hr.mono (by decide)) (by rfl) C_law_rights_of.mg C_law_rights_of.kp C_law_rights_of.b .nil pass0 (pa_cons (pv 8) (pa_cons (pv 1) (pa_cons (pv 2) pa_nil)))))
 (pss_one (ps_if (pt_cmpR (op_ltA (Int × Int) hr.units (by decide)) (pe_tup (pa_cons (pe_op op_sub (pe_callB call_len_seq (by rfl) T.len (by decide +kernel) (pa_cons (pv 9) pa_nil)) (pe_callB call_len_seq (by rfl) T.len (by decide +kernel) (pa_cons (pv 8) pa_nil))) (pa_cons (pe_callB call_len_seq (by rfl) T.len (by decide +kernel) (pa_cons (pv 8) pa_nil)) pa_nil))) (pe_tup (pa_cons (pe_op op_sub (pe_callB call_len_seq (by rfl) T.len (by decide +kernel) (pa_cons (pv 7) pa_nil)) (pe_callB call_len_seq (by rfl) T.len (by decide +kernel) (pa_cons (pv 6) pa_nil))) (pa_cons (pe_callB call_len_seq (by rfl) T.len (by decide +kernel) (pa_cons (pv 6) pa_nil)) pa_nil))) (nomark _))
 (pss_cons (ps_set (i := 6) sc_law_due.nd rfl (.inr rfl) (pv 8))
 (pss_one (ps_set (i := 7) sc_law_due.nd rfl (.inl rfl) (pv 9))))
 pss_nil))))
 (pss_one (ps_ret (pe_tup (pa_cons (pe_op op_add (pe_op op_sub (pv 0) (pe_callB call_len_seq (by rfl) T.len (by decide +kernel) (pa_cons (pv 6) pa_nil))) (pe_callB call_len_seq (by rfl) T.len (by decide +kernel) (pa_cons (pv 7) pa_nil))) (pa_cons (pe_lc (own := [("left", 4)]) (g := gName 4) rfl sc_law_due.nd (pi_range1 rfl T.range (pa_cons (pv 0) pa_nil)) (blkOk_by (N := ["lefts", "rights", "pairs", "lots", "left", "longer", "best", "touched", "lot", "found"]) (sc := defScope s_law_due) (by decide +kernel)) (fun _ _ _ _ _ => (pg_name (i := 4) sc_law_due.nd rfl (.inl rfl))) (fun _ _ _ _ _ => pts_one (pt_cmpR (r := rIn K true) op_notIn_seq (pv 4) (pv 6) (by rfl))) (fun _ _ _ _ _ => (pv 4))) (pa_cons (pv 7) pa_nil))))))))))), ?_⟩
    have h64 : 2 ^ n ≤ 64 := Nat.le_trans (Nat.pow_le_pow_right (by decide) hn) (by decide)
    refine ⟨Nat.zero_le _, fun e0 ne0 => ⟨(by show 1 ≤ sizeLine; decide), fun lo nlo => ?_⟩⟩
    have s1 : Same H (upd (upd H e0 (.lst [])) lo (.lst [.ref e0])) := ((Same.refl H).new ne0).new nlo
    have elo : (upd (upd H e0 (.lst [])) lo (.lst [.ref e0])) lo = some (.lst [.ref e0]) := upd_same
    have rl0 : RL (upd (upd H e0 (.lst [])) lo (.lst [.ref e0])) [.ref e0] (subs 0) := .cons ⟨e0, rfl, by rw [upd_ne (ne_of_none upd_same nlo)]; exact upd_same⟩ .nil
    generalize upd (upd H e0 (.lst [])) lo (.lst [.ref e0]) = H1 at s1 elo rl0 ⊢
    -- lots
    refine ⟨_, rfl, _, rfl, (by omega), (by omega), ?_⟩
    rw [show ((n : Nat) : Int).toNat = n by omega]
    refine for_range (lo := 0) (n := n) (fun i σ H' => ∃ (v4 v5 : Option V) (la : Addr) (lv : List V), σ = [some (nV n), some (nV m), some (.ref pa), some (.ref la), v4, v5, none, none, none, none] ∧ Same H H' ∧ H' la = some (.lst lv) ∧ RL H' lv (subs i))
      ⟨none, none, lo, _, rfl, s1, elo, rl0⟩ ?_ ?_
    · rintro i σ H2 hi ⟨v4, v5, la, lv, rfl, s2, ela, rl⟩
      rw [show (0 : Int) + (i : Int) = (i : Int) by omega]
      have lvl : lv.length = 2 ^ i := by rw [P_len rl, subs_len]
      have i64 : 2 ^ i ≤ 64 := Nat.le_trans (Nat.pow_le_pow_right (by decide) (by omega)) (show 2 ^ 6 ≤ 64 by decide)
      refine ⟨_, rfl, la, rfl, ⟨_, SqL.of ela⟩, fun D nD => ?_⟩
      refine lc_list (K := K) (a := la) (xs := lv) (fun j H' => ∃ ws, Same H2 H' ∧ H' D = some (.lst ws) ∧ Paired (fun v l => ∃ a, v = V.ref a ∧ a ≠ D ∧ H' a = some (.lst (l.map nV))) ws (((subs i).take j).map (· ++ [i]))) ⟨[], (Same.refl H2).new nD, upd_same, .nil⟩ (fun j H' _ ⟨_, sm, _⟩ => SqL.of (sm _ _ ela)) ?_ ?_
      · rintro j x H3 hx ⟨ws, s3, eD, hW⟩
        obtain ⟨l, hl1, a, rfl, ea⟩ := P_right rl hx
        obtain ⟨lnd, llt⟩ := subs_wf i l (List.mem_of_getElem? hl1)
        have ll : l.length ≤ i := K02.nodup_len i l lnd llt
        refine ⟨rfl, _, rfl, _, rfl, (by show 1 ≤ sizeLine; decide), fun p np => ?_⟩
        have w1 : Same H3 (upd H3 p (.lst [nV i])) := (Same.refl H3).new np
        have ep : (upd H3 p (.lst [nV i])) p = some (.lst [nV i]) := upd_same
        generalize upd H3 p (.lst [nV i]) = H4 at w1 ep ⊢
        refine ⟨a, p, _, _, rfl, rfl, (s3.trans w1) _ _ ea, ep, ?_, fun z nz => ?_⟩
        · rw [List.length_map]
          exact szle (by show l.length + 1 ≤ 10000; omega)
        have w2 : Same H4 (upd H4 z (.lst (l.map nV ++ [nV i]))) := (Same.refl H4).new nz
        have ez : (upd H4 z (.lst (l.map nV ++ [nV i]))) z = some (.lst ((l ++ [i]).map nV)) := by rw [upd_same, List.map_append]; rfl
        have zD : z ≠ D := fun e => by rw [e, w1 _ _ eD] at nz; cases nz
        generalize upd H4 z (.lst (l.map nV ++ [nV i])) = H5 at w2 ez ⊢
        have w12 := w1.trans w2
        refine ⟨ws, w12 _ _ eD, ?_, ws ++ [.ref z], (s3.trans w12).mut nD, upd_same, ?_⟩
        · rw [P_len hW, List.length_map]
          exact szl (Nat.le_trans (List.length_take_le' _ _) (by rw [subs_len]; omega))
        · rw [take_more hl1, List.map_append]
          refine P_append (P_mono (fun v l ⟨a, e, n, q⟩ => ⟨a, e, n, by rw [upd_ne n]; exact w12 _ _ q⟩) hW) (.cons ⟨z, rfl, zD, by rw [upd_ne zD]; exact ez⟩ .nil)
      rintro H3 ⟨ws, s3, eD, hW⟩
      rw [P_len rl, List.take_length] at hW
      have wsl : ws.length = 2 ^ i := by rw [P_len hW, List.length_map, subs_len]
      refine ⟨_, rfl, _, rfl, la, D, _, _, rfl, rfl, s3 _ _ ela, eD, ?_, fun z nz => ?_⟩
      · exact szle (by omega)
      have w1 : Same H3 (upd H3 z (.lst (lv ++ ws))) := (Same.refl H3).new nz
      refine ⟨_, _, z, lv ++ ws, rfl, (s2.trans s3).trans w1, upd_same, ?_⟩
      exact P_append (rl.same (s3.trans w1)) (P_mono (fun v l ⟨a, e, _, q⟩ => ⟨a, e, w1 _ _ q⟩) hW)
    rintro σ H2 ⟨v4, v5, la, lv, rfl, s2, ela, rl⟩
    have lvl : lv.length = 2 ^ n := by rw [P_len rl, subs_len]
    -- best
    refine ⟨Nat.zero_le _, fun be nbe => ?_⟩
    have s3 : Same H2 (upd H2 be (.lst [])) := (Same.refl H2).new nbe
    have ebe : (upd H2 be (.lst [])) be = some (.lst (([] : List Nat).map nV)) := upd_same
    generalize upd H2 be (.lst []) = H3 at s3 ebe ⊢
    have s03 := s2.trans s3
    refine ⟨_, rfl, _, rfl, _, rfl, be, pa, m, [], us, ps, rfl, SqL.of ebe, s03.seq hS, hP.same s03, hm, hl, fun tc H4 s4 ntc etc => ?_⟩
    have s24 := s3.trans s4
    have ela4 := s24 _ _ ela
    have rl4 := rl.same s24
    have s04 := s2.trans s24
    have nil_sub : [] ∈ subs n := by
      have := subs_has (fun _ => false) n
      unfold lot at this
      rwa [List.filter_eq_nil_iff.mpr (fun x _ => by simp)] at this
    refine ⟨_, rfl, la, rfl, ⟨_, SqL.of ela4⟩, for_list (K := K) (a := la) (xs := lv) (fun i σ H' => ∃ (v8 v9 : Option V) (ba ta : Addr) (b : List Nat), σ = [some (nV n), some (nV m), some (.ref pa), some (.ref la), v4, v5, some (.ref ba), some (.ref ta), v8, v9] ∧ Same H4 H' ∧ H' ba = some (.lst (b.map nV)) ∧ H' ta = some (.lst ((lot m (nb ps (mk b))).map nV)) ∧ b ∈ subs n ∧ ∀ l ∈ (subs n).take i, less m ps l b = false)
      ⟨none, none, be, tc, [], rfl, Same.refl H4, s4 _ _ ebe, etc, nil_sub, fun l hl => by rw [List.take_zero] at hl; cases hl⟩ (fun i σ H' _ ⟨_, _, _, _, _, _, sm, _⟩ => SqL.of (sm _ _ ela4)) ?_ ?_⟩
    · rintro i x σ H5 hx ⟨v8, v9, ba, ta, b, rfl, s5, eba, eta, hb, low⟩
      obtain ⟨l, hl1, a, rfl, ea⟩ := P_right rl4 hx
      have hls := List.mem_of_getElem? hl1
      have ea5 := s5 _ _ ea
      have s05 := s04.trans s5
      refine ⟨_, rfl, _, rfl, _, rfl, a, pa, m, l, us, ps, rfl, SqL.of ea5, s05.seq hS, hP.same s05, hm, hl, fun fo H6 s6 nfo efo => ?_⟩
      have ea6 := s6 _ _ ea5
      have eba6 := s6 _ _ eba
      have eta6 := s6 _ _ eta
      refine ⟨_, rfl, fo, _, rfl, .inl (SqL.of efo), _, rfl, a, _, rfl, .inl (SqL.of ea6), _, _, rfl, rfl, _, rfl, a, _, rfl, .inl (SqL.of ea6), sp2, fun t1 n1 => ?_⟩
      rw [List.length_map, List.length_map]
      have w1 : Same H6 (upd H6 t1 (.tup [.int (((lot m (nb ps (mk l))).length : Int) - (l.length : Int)), .int (l.length : Int)])) := (Same.refl H6).new n1
      have et1 : (upd H6 t1 (.tup [.int (((lot m (nb ps (mk l))).length : Int) - (l.length : Int)), .int (l.length : Int)])) t1 = some (.tup [.int (((lot m (nb ps (mk l))).length : Int) - (l.length : Int)), .int (l.length : Int)]) := upd_same
      generalize upd H6 t1 (.tup [.int (((lot m (nb ps (mk l))).length : Int) - (l.length : Int)), .int (l.length : Int)]) = H7 at w1 et1 ⊢
      refine ⟨_, rfl, ta, _, rfl, .inl (SqL.of (w1 _ _ eta6)), _, rfl, ba, _, rfl, .inl (SqL.of (w1 _ _ eba6)), _, _, rfl, rfl, _, rfl, ba, _, rfl, .inl (SqL.of (w1 _ _ eba6)), sp2, fun t2 n2 => ?_⟩
      rw [List.length_map, List.length_map]
      have w2 : Same H7 (upd H7 t2 (.tup [.int (((lot m (nb ps (mk b))).length : Int) - (b.length : Int)), .int (b.length : Int)])) := (Same.refl H7).new n2
      have et2 : (upd H7 t2 (.tup [.int (((lot m (nb ps (mk b))).length : Int) - (b.length : Int)), .int (b.length : Int)])) t2 = some (.tup [.int (((lot m (nb ps (mk b))).length : Int) - (b.length : Int)), .int (b.length : Int)]) := upd_same
      generalize upd H7 t2 (.tup [.int (((lot m (nb ps (mk b))).length : Int) - (b.length : Int)), .int (b.length : Int)]) = H8 at w2 et2 ⊢
      have w12 := w1.trans w2
      have s48 := (s5.trans s6).trans w12
      refine ⟨((((lot m (nb ps (mk l))).length : Int) - (l.length : Int), (l.length : Int)) : Int × Int), ((((lot m (nb ps (mk b))).length : Int) - (b.length : Int), (b.length : Int)) : Int × Int), .tup (SqT.of (w2 _ _ et1)) (.cons (.int _) (.cons (.int _) .nil)), .tup (SqT.of et2) (.cons (.int _) (.cons (.int _) .nil)), _, rfl, ?_⟩
      have elt : PySem.W.DatumOrd.lt ((((lot m (nb ps (mk l))).length : Int) - (l.length : Int), (l.length : Int)) : Int × Int) ((((lot m (nb ps (mk b))).length : Int) - (b.length : Int), (b.length : Int)) : Int × Int) = less m ps l b := by
        show (if ((lot m (nb ps (mk l))).length : Int) - (l.length : Int) = ((lot m (nb ps (mk b))).length : Int) - (b.length : Int) then decide ((l.length : Int) < (b.length : Int)) else decide (((lot m (nb ps (mk l))).length : Int) - (l.length : Int) < ((lot m (nb ps (mk b))).length : Int) - (b.length : Int))) = _
        unfold less kd
        split
        · exact decide_eq_decide.mpr (by omega)
        · rfl
      rw [elt]
      cases c : less m ps l b with
      | false =>
        refine iteF ⟨_, _, ba, ta, b, rfl, s48, w12 _ _ eba6, w12 _ _ eta6, hb, fun l' h' => ?_⟩
        rw [take_more hl1] at h'
        rcases List.mem_append.mp h' with h | h
        · exact low l' h
        · rw [List.mem_singleton.mp h]
          exact c
      | true =>
        refine iteT ⟨_, rfl, _, rfl, _, _, a, fo, l, rfl, s48, w12 _ _ ea6, w12 _ _ efo, hls, fun l' h' => ?_⟩
        rw [take_more hl1] at h'
        rcases List.mem_append.mp h' with h | h
        · exact less_no (low l' h) c
        · rw [List.mem_singleton.mp h]
          exact less_irr m ps l
    rintro σ H5 ⟨v8, v9, ba, ta, b, rfl, s5, eba, eta, hb, low⟩
    rw [P_len rl4, List.take_length] at low
    obtain ⟨bnd, blt⟩ := subs_wf n b hb
    have blen : b.length ≤ n := K02.nodup_len n b bnd blt
    have bl := lot_mk bnd blt
    -- the answer
    refine ⟨_, rfl, _, rfl, ba, _, rfl, .inl (SqL.of eba), _, _, rfl, rfl, _, rfl, ta, _, rfl, .inl (SqL.of eta), _, _, rfl, rfl, ?_⟩
    rw [List.length_map, List.length_map]
    dsimp only
    rw [show (n : Int) - (b.length : Int) + ((lot m (nb ps (mk b))).length : Int) = ((n - b.length + (lot m (nb ps (mk b))).length : Nat) : Int) by omega]
    refine ⟨_, rfl, _, rfl, (by omega), (by omega), ?_⟩
    rw [show ((n : Nat) : Int).toNat = n by omega]
    refine fun y ny => ?_
    refine lc_range (lo := 0) (n := n) (fun i H' => Same H5 H' ∧ H' y = some (.lst ((lot i fun x => !mk b x).map nV))) ⟨(Same.refl H5).new ny, upd_same⟩ ?_ ?_
    · rintro i H6 hi ⟨s6, ey⟩
      rw [show (0 : Int) + (i : Int) = (i : Int) by omega]
      refine ⟨rfl, _, rfl, _, rfl, ba, _, rfl, .inl (SqL.of (s6 _ _ eba)), rfl, flat_n _, _, rfl, ?_⟩
      rw [in_n]
      cases c : mk b i with
      | true =>
        have c' : b.contains i = true := c
        rw [c']
        refine iteF ⟨s6, ?_⟩
        rw [ey]
        unfold lot
        rw [List.range_succ, List.filter_append]
        simp only [List.filter_cons, c, Bool.not_true, Bool.false_eq_true, if_false, List.filter_nil, List.append_nil]
      | false =>
        have c' : b.contains i = false := c
        rw [c']
        refine iteT ⟨_, rfl, _, ey, ?_, s6.mut ny, ?_⟩
        · rw [List.length_map]
          exact szl (Nat.le_trans (List.length_filter_le _ _) (by rw [List.length_range]; omega))
        · rw [upd_same]
          unfold lot
          rw [List.range_succ, List.filter_append, List.map_append]
          simp only [List.filter_cons, c, Bool.not_false, if_true, List.filter_nil, List.map_cons, List.map_nil]
    rintro H6 ⟨s6, ey⟩
    refine ⟨_, rfl, (by show 3 ≤ sizeLine; decide), fun r nr => ?_⟩
    have s7 : Same H6 (upd H6 r (.tup [nV (n - b.length + (lot m (nb ps (mk b))).length), .ref y, .ref ta])) := (Same.refl H6).new nr
    refine q r y ta (mk b) _ _ (((s04.trans s5).trans s6).trans s7) ⟨upd_same, SqL.of (s7 _ _ ey), SqL.of (s7 _ _ (s6 _ _ eta)), ?_, due_of hw hb low⟩
    unfold cvR
    omega
end
end K26W

namespace K26W
open PySem PySem.Spec PyProof.Rows L2 KH KD KP K26
abbrev s_law_by_chains : Stmt := topS 22
theorem sc_law_by_chains : FnScope ["lefts", "rights", "pairs", "matching", "taken", "seen", "far", "step", "more", "outside", "pair", "left", "right"] ["lefts", "rights", "pairs", "matching"] (defScope s_law_by_chains) := ⟨rfl, rfl, rfl, by decide +kernel, rfl, by decide +kernel, by decide +kernel⟩

/-- what holds between two statements -/
theorem seqM {t u : TS} {D : Ends} {σ : L2.St} {H : Hp} (Mid : L2.St → Hp → Prop) (h : ∀ N : L2.St → Hp → Prop, (∀ σ' H', Mid σ' H' → N σ' H') → t { D with nx := N } σ H) (q : ∀ σ' H', Mid σ' H' → u D σ' H') : tSeq t u D σ H := h _ q
/-! ### by chains -/
def moreOf (ps : K02.PL) (S Fr : List Nat) : List Nat := (ps.filter fun q => mk S q.1 && !mk Fr q.2).map (·.2)
def farOf (m : Nat) (Fr mo : List Nat) : List Nat := lot m fun r => mk Fr r || mk mo r
def newOf (ms : K02.PL) (S mo : List Nat) : List Nat := (ms.filter fun q => mk mo q.2 && !mk S q.1).map (·.1)
theorem mem_more {ps : K02.PL} {S Fr : List Nat} {r : Nat} : r ∈ moreOf ps S Fr ↔ ∃ l, l ∈ S ∧ r ∉ Fr ∧ (l, r) ∈ ps := by
  unfold moreOf
  simp only [List.mem_map, List.mem_filter, Bool.and_eq_true, mk_iff, Bool.not_eq_true', ← Bool.not_eq_true]
  constructor
  · rintro ⟨⟨a, b⟩, ⟨h1, h2, h3⟩, rfl⟩
    exact ⟨a, h2, h3, h1⟩
  · rintro ⟨l, h1, h2, h3⟩
    exact ⟨(l, r), ⟨h3, h1, h2⟩, rfl⟩
theorem mem_new {ms : K02.PL} {S mo : List Nat} {l : Nat} : l ∈ newOf ms S mo ↔ ∃ r, r ∈ mo ∧ l ∉ S ∧ (l, r) ∈ ms := by
  unfold newOf
  simp only [List.mem_map, List.mem_filter, Bool.and_eq_true, mk_iff, Bool.not_eq_true', ← Bool.not_eq_true]
  constructor
  · rintro ⟨⟨a, b⟩, ⟨h1, h2, h3⟩, rfl⟩
    exact ⟨b, h2, h3, h1⟩
  · rintro ⟨r, h1, h2, h3⟩
    exact ⟨(l, r), ⟨h3, h1, h2⟩, rfl⟩
theorem mem_far {m : Nat} {Fr mo : List Nat} {r : Nat} : r ∈ farOf m Fr mo ↔ r < m ∧ (r ∈ Fr ∨ r ∈ mo) := by
  unfold farOf
  rw [mem_lot, Bool.or_eq_true, mk_iff, mk_iff]
theorem lot_fin (n : Nat) (p : Nat → Bool) : lot n p = lot n (mk (lot n p)) := by
  unfold lot
  refine List.filter_congr fun x hx => ?_
  rw [Bool.eq_iff_iff, mk_iff]
  show _ ↔ x ∈ lot n p
  rw [mem_lot]
  exact ⟨fun h => ⟨List.mem_range.mp hx, h⟩, fun h => h.2⟩
theorem uniq2 : ∀ {ms : K02.PL}, (ms.map (·.2)).Nodup → ∀ {a b r : Nat}, (a, r) ∈ ms → (b, r) ∈ ms → a = b
  | [], _, _, _, _, x, _ => by cases x
  | q :: t, nd, a, b, r, x, y => by
    obtain ⟨n1, n2⟩ := List.nodup_cons.mp nd
    rcases List.mem_cons.mp x with e1 | x <;> rcases List.mem_cons.mp y with e2 | y
    · rw [← e1] at e2
      exact (congrArg Prod.fst e2).symm
    · exact absurd (List.mem_map.mpr ⟨_, y, by rw [← e1]⟩) n1
    · exact absurd (List.mem_map.mpr ⟨_, x, by rw [← e2]⟩) n1
    · exact uniq2 n2 x y
theorem lot_more (i : Nat) (p : Nat → Bool) : lot (i + 1) p = lot i p ++ (if p i then [i] else []) := by
  unfold lot
  rw [List.range_succ, List.filter_append]
  congr 1
  cases c : p i <;> simp [List.filter_cons, c]
theorem lot_two : ∀ (n : Nat) (p : Nat → Bool), (lot n p).length + (lot n fun l => !p l).length = n
  | 0, _ => rfl
  | n + 1, p => by
    have ih := lot_two n p
    rw [lot_more, lot_more, List.length_append, List.length_append]
    cases p n <;> simp <;> omega
structure Cn (n m : Nat) (ps ms : K02.PL) (Z : Nat → Bool) (S Fr : List Nat) : Prop where
  nd : S.Nodup
  inZ : ∀ l ∈ S, Z l = true
  u : ∀ l ∈ unm n ms, l ∈ S
  far : ∀ r ∈ Fr, r < m ∧ ∃ l ∈ S, (l, r) ∈ ps
  part : ∀ l r, (l, r) ∈ ms → r ∈ Fr → l ∈ S
  fin : Fr = lot m (mk Fr)
section
variable {n m : Nat} {ps ms : K02.PL} {Z : Nat → Bool} {S Fr : List Nat}
theorem Cn.step (hw : In2 n m ps) (mt : Mat ps ms) (z : Zl n ps ms Z) (h : Cn n m ps ms Z S Fr) : Cn n m ps ms Z (S ++ newOf ms S (moreOf ps S Fr)) (farOf m Fr (moreOf ps S Fr)) := by
  refine ⟨List.nodup_append.mpr ⟨h.nd, mt.n1.sublist (List.Sublist.map _ List.filter_sublist), fun x hx y hy e => ?_⟩, fun l hl => ?_, fun l hl => List.mem_append_left _ (h.u l hl), fun r hr => ?_, fun l r hl hr => ?_, lot_fin _ _⟩
  · obtain ⟨r, _, no, _⟩ := mem_new.mp hy
    exact no (e ▸ hx)
  · rcases List.mem_append.mp hl with hl | hl
    · exact h.inZ l hl
    · obtain ⟨r, h1, _, h3⟩ := mem_new.mp hl
      obtain ⟨l1, a, _, c⟩ := mem_more.mp h1
      obtain ⟨l2, d, e⟩ := z.cl l1 r (h.inZ l1 a) c
      rw [uniq2 mt.n2 h3 d]
      exact e
  · obtain ⟨h1, h2⟩ := mem_far.mp hr
    refine ⟨h1, ?_⟩
    rcases h2 with h2 | h2
    · obtain ⟨_, l, a, b⟩ := h.far r h2
      exact ⟨l, List.mem_append_left _ a, b⟩
    · obtain ⟨l, a, _, c⟩ := mem_more.mp h2
      exact ⟨l, List.mem_append_left _ a, c⟩
  · obtain ⟨_, h2⟩ := mem_far.mp hr
    rcases h2 with h2 | h2
    · exact List.mem_append_left _ (h.part l r hl h2)
    · by_cases c : l ∈ S
      · exact List.mem_append_left _ c
      · exact List.mem_append_right _ (mem_new.mpr ⟨r, h2, c, hl⟩)
theorem Cn.more (hw : In2 n m ps) (h : Cn n m ps ms Z S Fr) (c : moreOf ps S Fr ≠ []) : Fr.length < (farOf m Fr (moreOf ps S Fr)).length := by
  obtain ⟨r, hr⟩ := List.exists_mem_of_ne_nil _ c
  obtain ⟨l, a, b, d⟩ := mem_more.mp hr
  have nd : Fr.Nodup := by rw [h.fin]; exact lot_nd _ _
  have := sub_length (r :: Fr) (farOf m Fr (moreOf ps S Fr)) (List.nodup_cons.mpr ⟨b, nd⟩) fun x hx => by
    rcases List.mem_cons.mp hx with e | hx
    · rw [e]
      exact mem_far.mpr ⟨(hw _ d).2, .inr hr⟩
    · exact mem_far.mpr ⟨(h.far x hx).1, .inl hx⟩
  rw [List.length_cons] at this
  omega
theorem Cn.done (hw : In2 n m ps) (z : Zl n ps ms Z) (h : Cn n m ps ms Z S Fr) (c : moreOf ps S Fr = []) : (∀ l, K26W.mk S l = Z l) ∧ Fr = lot m (nb ps Z) := by
  have no : ∀ l r, l ∈ S → (l, r) ∈ ps → r ∈ Fr := fun l r hl hr => Classical.byContradiction fun x => by
    have : r ∈ moreOf ps S Fr := mem_more.mpr ⟨l, hl, x, hr⟩
    rw [c] at this
    cases this
  have e : ∀ l, K26W.mk S l = Z l := fun l => by
    rw [Bool.eq_iff_iff, mk_iff]
    refine ⟨h.inZ l, fun hl => mk_iff.mp (z.least (K26W.mk S) (fun x hx => mk_iff.mpr (h.u x hx)) (fun a r ha hr => ?_) l hl)⟩
    have ha' := mk_iff.mp ha
    obtain ⟨l', d, _⟩ := z.cl a r (h.inZ a ha') hr
    exact ⟨l', d, mk_iff.mpr (h.part l' r d (no a r ha' hr))⟩
  refine ⟨e, ?_⟩
  rw [h.fin]
  unfold lot
  refine List.filter_congr fun r hr => ?_
  rw [Bool.eq_iff_iff, mk_iff, nb_iff]
  constructor
  · intro hr
    obtain ⟨_, l, a, b⟩ := h.far r hr
    exact ⟨l, h.inZ l a, b⟩
  · rintro ⟨l, a, b⟩
    exact no l r (mk_iff.mp (by rw [e]; exact a)) b
theorem Cn.len (hw : In2 n m ps) (z : Zl n ps ms Z) (h : Cn n m ps ms Z S Fr) : S.length ≤ n ∧ Fr.length ≤ m := by
  refine ⟨K02.nodup_len n S h.nd fun l hl => z.lt l (h.inZ l hl), ?_⟩
  rw [h.fin]
  unfold lot
  exact Nat.le_trans (List.length_filter_le _ _) (by rw [List.length_range]; exact Nat.le_refl _)
end
theorem fil_more {α : Type} {l : List α} {i : Nat} {x : α} (h : l[i]? = some x) (p : α → Bool) : (l.take (i + 1)).filter p = (l.take i).filter p ++ (if p x then [x] else []) := by
  rw [take_more h, List.filter_append]
  congr 1
  cases c : p x <;> simp [List.filter_cons, c]
theorem lot_le_len (n : Nat) (p : Nat → Bool) : (lot n p).length ≤ n := by
  unfold lot
  exact Nat.le_trans (List.length_filter_le _ _) (by rw [List.length_range]; exact Nat.le_refl _)
section
variable {P : Program} {w : World} {K : PySem.W.Frag} {mg : Str → Option Value} {base : Heap} {CN CB CD CT CU fI : Addr}
def sp_chains (K : PySem.W.Frag) : Sp := fun vs H Q _ => ∃ (n m : Nat) (pa ma : Addr) (us vs' : List V) (ps ms : K02.PL) (Z : Nat → Bool), vs = [nV n, nV m, .ref pa, .ref ma] ∧ SqL K H pa us ∧ PI K H us (upP ps) ∧ H ma = some (.lst vs') ∧ MP H vs' ms ∧ In2 n m ps ∧ n ≤ 100 ∧ m ≤ 100 ∧ ps.length ≤ 1000 ∧ Mat ps ms ∧ Zl n ps ms Z ∧
  ∀ r y z sz H', Same H H' → DueAt K H' n m ps Z sz y z r → Q (.ref r) H'
theorem ok_chains {f : Addr} {fd : FuncData} (F : Fun K "_law_by_chains" "_law_by_chains" s_law_by_chains f fd) (T : Txt mg) : FnOk P w K mg base CX0 1 f fd ["lefts", "rights", "pairs", "matching"] (sp_chains K) := by
  refine F.ok sc_law_by_chains (fun vs H Q E h => ?_) (fun cdv A outer s H vs Q E hr h => ?_)
  · obtain ⟨n, m, pa, ma, us, vs', ps, ms, Z, rfl, _⟩ := h
    rfl
  · obtain ⟨n, m, pa, ma, us, vs', ps, ms, Z, rfl, hS, hP, hM, hMP, hw, hn, hm, hl, mt, z, q⟩ := h
    refine ⟨_, (pss_cons (ps_set (i := 4) sc_law_by_chains.nd rfl (.inr rfl) (pe_lc (own := [("pair", 10)]) (g := gName 10) (tt := tYes) rfl sc_law_by_chains.nd (pi_list (pv 3)) (blkOk_by (N := ["lefts", "rights", "pairs", "matching", "taken", "seen", "far", "step", "more", "outside", "pair", "left", "right"]) (sc := defScope s_law_by_chains) (by decide +kernel)) (fun _ _ _ _ _ => (pg_name (i := 10) sc_law_by_chains.nd rfl (.inl rfl))) (fun _ _ _ _ _ => pts_nil) (fun _ _ _ _ _ => (pe_ix (r := rIxT K) ix_tup (pv 10) pe_int (fun _ _ => rfl)))))
 (pss_cons (ps_set (i := 5) sc_law_by_chains.nd rfl (.inr rfl) (pe_lc (own := [("left", 11)]) (g := gName 11) rfl sc_law_by_chains.nd (pi_range1 rfl T.range (pa_cons (pv 0) pa_nil)) (blkOk_by (N := ["lefts", "rights", "pairs", "matching", "taken", "seen", "far", "step", "more", "outside", "pair", "left", "right"]) (sc := defScope s_law_by_chains) (by decide +kernel)) (fun _ _ _ _ _ => (pg_name (i := 11) sc_law_by_chains.nd rfl (.inl rfl))) (fun _ _ _ _ _ => pts_one (pt_cmpR (r := rIn K true) op_notIn_seq (pv 11) (pv 4) (by rfl))) (fun _ _ _ _ _ => (pv 11))))
 (pss_cons (ps_set (i := 6) sc_law_by_chains.nd rfl (.inr rfl) (pe_lst pa_nil))
 (pss_cons (ps_for PassesOwn.never rfl (pi_range1 rfl T.range (pa_cons (pe_op op_add (pv 1) pe_int) pa_nil)) (pg_name (i := 7) sc_law_by_chains.nd rfl (.inl rfl))
 (pss_cons (ps_set (i := 8) sc_law_by_chains.nd rfl (.inr rfl) (pe_lc (own := [("pair", 10)]) (g := gName 10) rfl sc_law_by_chains.nd (pi_list (pv 2)) (blkOk_by (N := ["lefts", "rights", "pairs", "matching", "taken", "seen", "far", "step", "more", "outside", "pair", "left", "right"]) (sc := defScope s_law_by_chains) (by decide +kernel)) (fun _ _ _ _ _ => (pg_name (i := 10) sc_law_by_chains.nd rfl (.inl rfl))) (fun _ _ _ _ _ => pts_one (PW.pt (pw_and (pt_cmpR (r := rIn K false) op_in_seq (pe_ix (r := rIxT K) ix_tup (pv 10) pe_int (fun _ _ => rfl)) (pv 5) (by rfl)) (pw_and1 (pt_cmpR (r := rIn K true) op_notIn_seq (pe_ix (r := rIxT K) ix_tup (pv 10) pe_int (fun _ _ => rfl)) (pv 6) (by rfl)))))) (fun _ _ _ _ _ => (pe_ix (r := rIxT K) ix_tup (pv 10) pe_int (fun _ _ => rfl)))))
 (pss_cons (ps_if (pt_cmpR op_eq (pe_callB call_len_seq (by rfl) T.len (by decide +kernel) (pa_cons (pv 8) pa_nil)) pe_int (nomark _))
 (pss_one ps_break)
 pss_nil)
 (pss_cons (ps_set (i := 6) sc_law_by_chains.nd rfl (.inr rfl) (pe_lc (own := [("right", 12)]) (g := gName 12) rfl sc_law_by_chains.nd (pi_range1 rfl T.range (pa_cons (pv 1) pa_nil)) (blkOk_by (N := ["lefts", "rights", "pairs", "matching", "taken", "seen", "far", "step", "more", "outside", "pair", "left", "right"]) (sc := defScope s_law_by_chains) (by decide +kernel)) (fun _ _ _ _ _ => (pg_name (i := 12) sc_law_by_chains.nd rfl (.inl rfl))) (fun _ _ _ _ _ => pts_one (PW.pt (pw_or (pt_cmpR (r := rIn K false) op_in_seq (pv 12) (pv 6) (by rfl)) (pw_or1 (pt_cmpR (r := rIn K false) op_in_seq (pv 12) (pv 8) (by rfl)))))) (fun _ _ _ _ _ => (pv 12))))
 (pss_one (ps_set (i := 5) sc_law_by_chains.nd rfl (.inr rfl) (pe_op op_cat (pv 5) (pe_lc (own := [("pair", 10)]) (g := gName 10) rfl sc_law_by_chains.nd (pi_list (pv 3)) (blkOk_by (N := ["lefts", "rights", "pairs", "matching", "taken", "seen", "far", "step", "more", "outside", "pair", "left", "right"]) (sc := defScope s_law_by_chains) (by decide +kernel)) (fun _ _ _ _ _ => (pg_name (i := 10) sc_law_by_chains.nd rfl (.inl rfl))) (fun _ _ _ _ _ => pts_one (PW.pt (pw_and (pt_cmpR (r := rIn K false) op_in_seq (pe_ix (r := rIxT K) ix_tup (pv 10) pe_int (fun _ _ => rfl)) (pv 8) (by rfl)) (pw_and1 (pt_cmpR (r := rIn K true) op_notIn_seq (pe_ix (r := rIxT K) ix_tup (pv 10) pe_int (fun _ _ => rfl)) (pv 5) (by rfl)))))) (fun _ _ _ _ _ => (pe_ix (r := rIxT K) ix_tup (pv 10) pe_int (fun _ _ => rfl)))))))))))
 (pss_cons (ps_setLc (i := 9) (own := [("left", 11)]) (g := gName 11) rfl sc_law_by_chains.nd rfl rfl (sw_true rfl rfl rfl (by decide +kernel)) (pi_range1 rfl T.range (pa_cons (pv 0) pa_nil)) (blkOk_by (N := ["lefts", "rights", "pairs", "matching", "taken", "seen", "far", "step", "more", "outside", "pair", "left", "right"]) (sc := defScope s_law_by_chains) (by decide +kernel)) (fun _ _ _ _ _ => (pg_name (i := 11) sc_law_by_chains.nd rfl (.inl rfl))) (fun _ _ _ _ _ => pts_one (pt_cmpR (r := rIn K true) op_notIn_seq (pv 11) (pv 5) (by rfl))) (fun _ _ _ _ _ => (pv 11)))
 (pss_one (ps_ret (pe_tup (pa_cons (pe_op op_add (pe_callB call_len_seq (by rfl) T.len (by decide +kernel) (pa_cons (pv 9) pa_nil)) (pe_callB call_len_seq (by rfl) T.len (by decide +kernel) (pa_cons (pv 6) pa_nil))) (pa_cons (pv 9) (pa_cons (pv 6) pa_nil))))))))))), ?_⟩
    have hul : us.length = ps.length := by rw [hP.len, upP_len]
    have hvl : vs'.length = ms.length := P_len hMP
    have hml : ms.length ≤ n := by
      have := K02.nodup_len n (ms.map (·.1)) mt.n1 fun l hl => by
        obtain ⟨q, hq, rfl⟩ := List.mem_map.mp hl
        exact (hw q (mt.sub q hq)).1
      rwa [List.length_map] at this
    -- taken
    refine ⟨_, rfl, ma, rfl, ⟨_, SqL.of hM⟩, fun ta nta => ?_⟩
    refine lc_list (K := K) (a := ma) (xs := vs') (fun i H' => Same H H' ∧ H' ta = some (.lst (((ms.take i).map (·.1)).map nV))) ⟨(Same.refl H).new nta, upd_same⟩ (fun i H' _ ⟨sm, _⟩ => SqL.of (sm _ _ hM)) ?_ ?_
    · rintro i x H1 hx ⟨s1, eD⟩
      obtain ⟨q1, hq, t, rfl, et⟩ := P_right hMP hx
      have et1 : SqT K H1 t [nV q1.1, nV q1.2] := SqT.of (s1 _ _ et)
      refine ⟨rfl, _, rfl, t, _, 0, nV q1.1, rfl, rfl, et1, rfl, _, eD, ?_, s1.mut nta, ?_⟩
      · rw [List.length_map, List.length_map]
        exact szl (Nat.le_trans (List.length_take_le' _ _) (by omega))
      · rw [upd_same, take_more hq, List.map_append, List.map_append]
        rfl
    rintro H1 ⟨s1, eta⟩
    rw [hvl, List.take_length] at eta
    have htk : ∀ l, (ms.map (·.1)).contains l = mk (ms.map (·.1)) l := fun l => rfl
    -- seen
    refine ⟨_, rfl, _, rfl, (by omega), (by omega), ?_⟩
    rw [show ((n : Nat) : Int).toNat = n by omega]
    refine fun se nse => ?_
    refine lc_range (lo := 0) (n := n) (fun i H' => Same H1 H' ∧ H' se = some (.lst ((lot i fun l => !mk (ms.map (·.1)) l).map nV))) ⟨(Same.refl H1).new nse, upd_same⟩ ?_ ?_
    · rintro i H2 hi ⟨s2, ez⟩
      rw [show (0 : Int) + (i : Int) = (i : Int) by omega]
      refine ⟨rfl, _, rfl, _, rfl, ta, _, rfl, .inl (SqL.of (s2 _ _ eta)), rfl, flat_n _, _, rfl, ?_⟩
      rw [in_n, htk, lot_more]
      have hsz := lot_le_len i (fun l => !mk (ms.map (·.1)) l)
      cases c : mk (ms.map (·.1)) i with
      | true =>
        refine iteF ⟨s2, ?_⟩
        rw [ez]
        simp
      | false =>
        refine iteT ⟨_, rfl, _, ez, ?_, s2.mut nse, ?_⟩
        · rw [List.length_map]
          exact szl (by omega)
        · rw [upd_same]
          simp
    rintro H2 ⟨s2, ese⟩
    -- far
    refine nextS (asgN ⟨Nat.zero_le _, fun fa nfa σ' e => ?_⟩)
    obtain rfl : σ' = [some (nV n), some (nV m), some (.ref pa), some (.ref ma), some (.ref ta), some (.ref se), some (.ref fa), none, none, none, none, none, none] := e.symm
    clear e
    have s3 : Same H2 (upd H2 fa (.lst [])) := (Same.refl H2).new nfa
    have efa : (upd H2 fa (.lst [])) fa = some (.lst (([] : List Nat).map nV)) := upd_same
    generalize upd H2 fa (.lst []) = H3 at s3 efa ⊢
    have s03 := (s1.trans s2).trans s3
    have ese3 := s3 _ _ ese
    have c0 : Cn n m ps ms Z (lot n fun l => !mk (ms.map (·.1)) l) [] := by
      refine ⟨lot_nd _ _, fun l hl => ?_, fun l hl => ?_, fun r h => (by cases h), fun l r _ h => (by cases h), ?_⟩
      · obtain ⟨h1, h2⟩ := mem_lot.mp hl
        refine z.u l (mem_unm.mpr ⟨h1, fun x => ?_⟩)
        rw [mk_iff.mpr x] at h2
        cases h2
      · obtain ⟨h1, h2⟩ := mem_unm.mp hl
        refine mem_lot.mpr ⟨h1, ?_⟩
        have : mk (ms.map (·.1)) l ≠ true := fun x => h2 (mk_iff.mp x)
        simpa using this
      · unfold lot
        symm
        rw [List.filter_eq_nil_iff]
        intro x _
        unfold mk
        simp
    -- the steps
    refine seqM (fun σ H' => ∃ (v7 v8 : Option V) (se fa : Addr) (S Fr : List Nat), σ = [some (nV n), some (nV m), some (.ref pa), some (.ref ma), some (.ref ta), some (.ref se), some (.ref fa), v7, v8, none, none, none, none] ∧ Same H H' ∧ H' se = some (.lst (S.map nV)) ∧ H' fa = some (.lst (Fr.map nV)) ∧ (∀ l, mk S l = Z l) ∧ Fr = lot m (nb ps Z)) (fun N qN => ?_) ?_
    · refine ⟨_, rfl, _, _, rfl, rfl, ((m + 1 : Nat) : Int), rfl, (by omega), (by omega), ?_⟩
      rw [show (((m + 1 : Nat) : Int)).toNat = m + 1 by omega]
      refine for_range (lo := 0) (n := m + 1) (fun i σ H' => ∃ (v7 v8 : Option V) (se fa : Addr) (S Fr : List Nat), σ = [some (nV n), some (nV m), some (.ref pa), some (.ref ma), some (.ref ta), some (.ref se), some (.ref fa), v7, v8, none, none, none, none] ∧ Same H H' ∧ H' se = some (.lst (S.map nV)) ∧ H' fa = some (.lst (Fr.map nV)) ∧ Cn n m ps ms Z S Fr ∧ i ≤ Fr.length)
        ⟨none, none, se, fa, _, [], rfl, s03, ese3, efa, c0, Nat.zero_le _⟩ ?_ ?_
      · rintro i σ H4 hi ⟨v7, v8, se, fa, S, Fr, rfl, s4, ese, efa, cn, il⟩
        obtain ⟨lS, lF⟩ := cn.len hw z
        -- more
        refine asgN ⟨_, rfl, pa, rfl, ⟨_, s4.seq hS⟩, fun mo nmo => ?_⟩
        refine lc_list (K := K) (a := pa) (xs := us) (fun i H' => Same H4 H' ∧ H' mo = some (.lst ((moreOf (ps.take i) S Fr).map nV))) ⟨(Same.refl H4).new nmo, upd_same⟩ (fun i H' _ ⟨sm, _⟩ => (s4.trans sm).seq hS) ?_ ?_
        · rintro j x H5 hx ⟨s5, eD⟩
          obtain ⟨q1, hq, t, rfl, et⟩ := P_right hP hx
          obtain ⟨a, b, hab, rfl⟩ := upP_get hq
          have et5 := (s4.trans s5).seqT et
          have hsz : (moreOf (ps.take j) S Fr).length ≤ 1000 := by
            unfold moreOf
            rw [List.length_map]
            exact Nat.le_trans (List.length_filter_le _ _) (Nat.le_trans (List.length_take_le' _ _) hl)
          have em : moreOf (ps.take (j + 1)) S Fr = moreOf (ps.take j) S Fr ++ (if mk S a && !mk Fr b then [b] else []) := by
            unfold moreOf
            rw [fil_more hab, List.map_append]
            congr 1
            cases mk S a && !mk Fr b <;> rfl
          refine ⟨rfl, _, rfl, t, _, 0, nV a, rfl, rfl, et5, rfl, _, rfl, se, _, rfl, .inl (SqL.of (s5 _ _ ese)), rfl, flat_n _, _, rfl, ?_⟩
          rw [in_n, em]
          have hA : S.contains a = mk S a := rfl
          have hB : Fr.contains b = mk Fr b := rfl
          rw [hA]
          cases ca : mk S a with
          | false => exact iteF (iteF ⟨s5, by rw [eD]; simp⟩)
          | true =>
            refine iteT ⟨_, rfl, t, _, 1, nV b, rfl, rfl, et5, rfl, _, rfl, fa, _, rfl, .inl (SqL.of (s5 _ _ efa)), rfl, flat_n _, _, rfl, ?_⟩
            rw [in_n, hB]
            cases cb : mk Fr b with
            | true => exact iteF ⟨s5, by rw [eD]; simp⟩
            | false =>
              refine iteT ⟨_, rfl, t, _, 1, nV b, rfl, rfl, et5, rfl, _, eD, ?_, s5.mut nmo, ?_⟩
              · rw [List.length_map]
                exact szl (by omega)
              · rw [upd_same]
                simp
        rintro H5 ⟨s5, emo⟩ σ' e
        obtain rfl : σ' = [some (nV n), some (nV m), some (.ref pa), some (.ref ma), some (.ref ta), some (.ref se), some (.ref fa), some (nV i), some (.ref mo), none, none, none, none] := by
          have e0 : V.int ((0 : Int) + (i : Int)) = nV i := by rw [Int.zero_add]
          rw [← e, ← e0]
          rfl
        clear e
        rw [hul, List.take_length] at emo
        have hsz : (moreOf ps S Fr).length ≤ 1000 := by
          unfold moreOf
          rw [List.length_map]
          exact Nat.le_trans (List.length_filter_le _ _) hl
        refine ⟨_, rfl, mo, _, rfl, .inl (SqL.of emo), rfl, _, rfl, ?_⟩
        rw [List.length_map]
        by_cases c0 : moreOf ps S Fr = []
        · obtain ⟨d1, d2⟩ := cn.done hw z c0
          rw [decide_eq_true (show V.int ((moreOf ps S Fr).length : Int) = V.int 0 by rw [c0]; rfl)]
          exact iteT (qN _ _ ⟨_, _, se, fa, S, Fr, rfl, s4.trans s5, s5 _ _ ese, s5 _ _ efa, d1, d2⟩)
        rw [decide_eq_false (show ¬ V.int ((moreOf ps S Fr).length : Int) = V.int 0 from fun x => c0 (List.length_eq_zero_iff.mp (by have := V.int.inj x; omega)))]
        refine iteF (nextS (asgN ⟨_, rfl, _, rfl, (by omega), (by omega), ?_⟩))
        rw [show ((m : Nat) : Int).toNat = m by omega]
        refine fun fb nfb => ?_
        refine lc_range (lo := 0) (n := m) (fun i H' => Same H5 H' ∧ H' fb = some (.lst ((lot i fun r => mk Fr r || mk (moreOf ps S Fr) r).map nV))) ⟨(Same.refl H5).new nfb, upd_same⟩ ?_ ?_
        · rintro j H6 hj ⟨s6, eD⟩
          rw [show (0 : Int) + (j : Int) = (j : Int) by omega]
          have hsz2 := lot_le_len j (fun r => mk Fr r || mk (moreOf ps S Fr) r)
          have hA : Fr.contains j = mk Fr j := rfl
          have hB : (moreOf ps S Fr).contains j = mk (moreOf ps S Fr) j := rfl
          refine ⟨rfl, _, rfl, _, rfl, fa, _, rfl, .inl (SqL.of (s6 _ _ (s5 _ _ efa))), rfl, flat_n _, _, rfl, ?_⟩
          rw [in_n, hA, lot_more]
          have fin : ∀ H7, Same H6 H7 → H7 fb = some (.lst ((lot j fun r => mk Fr r || mk (moreOf ps S Fr) r).map nV)) → True := fun _ _ _ => trivial
          cases ca : mk Fr j with
          | true =>
            refine iteT (iteT ⟨_, rfl, _, eD, ?_, s6.mut nfb, ?_⟩)
            · rw [List.length_map]
              exact szl (by omega)
            · rw [upd_same]
              simp [ca]
          | false =>
            refine iteF ⟨_, rfl, _, rfl, mo, _, rfl, .inl (SqL.of (s6 _ _ emo)), rfl, flat_n _, _, rfl, ?_⟩
            rw [in_n, hB]
            cases cb : mk (moreOf ps S Fr) j with
            | false => exact iteF ⟨s6, by rw [eD]; simp [ca, cb]⟩
            | true =>
              refine iteT ⟨_, rfl, _, eD, ?_, s6.mut nfb, ?_⟩
              · rw [List.length_map]
                exact szl (by omega)
              · rw [upd_same]
                simp [ca, cb]
        rintro H6 ⟨s6, efb⟩ σ' e
        obtain rfl : σ' = [some (nV n), some (nV m), some (.ref pa), some (.ref ma), some (.ref ta), some (.ref se), some (.ref fb), some (nV i), some (.ref mo), none, none, none, none] := e.symm
        clear e
        have s56 := s5.trans s6
        refine ⟨_, rfl, _, rfl, ma, rfl, ⟨_, SqL.of ((s4.trans s56) _ _ hM)⟩, fun nw nnw => ?_⟩
        refine lc_list (K := K) (a := ma) (xs := vs') (fun i H' => Same H6 H' ∧ H' nw = some (.lst ((newOf (ms.take i) S (moreOf ps S Fr)).map nV))) ⟨(Same.refl H6).new nnw, upd_same⟩ (fun i H' _ ⟨sm, _⟩ => SqL.of (((s4.trans s56).trans sm) _ _ hM)) ?_ ?_
        · rintro j x H7 hx ⟨s7, eD⟩
          obtain ⟨q1, hq, t, rfl, et⟩ := P_right hMP hx
          have et7 : SqT K H7 t [nV q1.1, nV q1.2] := SqT.of (((s4.trans s56).trans s7) _ _ et)
          have hsz2 : (newOf (ms.take j) S (moreOf ps S Fr)).length ≤ 1000 := by
            unfold newOf
            rw [List.length_map]
            exact Nat.le_trans (List.length_filter_le _ _) (Nat.le_trans (List.length_take_le' _ _) (by omega))
          have em : newOf (ms.take (j + 1)) S (moreOf ps S Fr) = newOf (ms.take j) S (moreOf ps S Fr) ++ (if mk (moreOf ps S Fr) q1.2 && !mk S q1.1 then [q1.1] else []) := by
            unfold newOf
            rw [fil_more hq, List.map_append]
            congr 1
            cases mk _ q1.2 && !mk S q1.1 <;> rfl
          have hA : S.contains q1.1 = mk S q1.1 := rfl
          have hB : (moreOf ps S Fr).contains q1.2 = mk (moreOf ps S Fr) q1.2 := rfl
          refine ⟨rfl, _, rfl, t, _, 1, nV q1.2, rfl, rfl, et7, rfl, _, rfl, mo, _, rfl, .inl (SqL.of (s7 _ _ (s6 _ _ emo))), rfl, flat_n _, _, rfl, ?_⟩
          rw [in_n, em, hB]
          cases cb : mk (moreOf ps S Fr) q1.2 with
          | false => exact iteF (iteF ⟨s7, by rw [eD]; simp⟩)
          | true =>
            refine iteT ⟨_, rfl, t, _, 0, nV q1.1, rfl, rfl, et7, rfl, _, rfl, se, _, rfl, .inl (SqL.of (s7 _ _ (s56 _ _ ese))), rfl, flat_n _, _, rfl, ?_⟩
            rw [in_n, hA]
            cases ca : mk S q1.1 with
            | true => exact iteF ⟨s7, by rw [eD]; simp⟩
            | false =>
              refine iteT ⟨_, rfl, t, _, 0, nV q1.1, rfl, rfl, et7, rfl, _, eD, ?_, s7.mut nnw, ?_⟩
              · rw [List.length_map]
                exact szl (by omega)
              · rw [upd_same]
                simp
        rintro H7 ⟨s7, enw⟩
        rw [hvl, List.take_length] at enw
        have hnw : (newOf ms S (moreOf ps S Fr)).length ≤ 100 := by
          unfold newOf
          rw [List.length_map]
          exact Nat.le_trans (List.length_filter_le _ _) (by omega)
        refine ⟨se, nw, _, _, rfl, rfl, (s56.trans s7) _ _ ese, enw, ?_, fun sn nsn => ?_⟩
        · rw [List.length_map, List.length_map]
          exact szle (by omega)
        have s8 : Same H7 (upd H7 sn (.lst (S.map nV ++ (newOf ms S (moreOf ps S Fr)).map nV))) := (Same.refl H7).new nsn
        refine ⟨_, _, sn, fb, _, _, rfl, s4.trans ((s56.trans s7).trans s8), ?_, (s7.trans s8) _ _ efb, cn.step hw mt z, ?_⟩
        · rw [upd_same, List.map_append]
        · have := cn.more hw c0
          unfold farOf at this
          omega
      · rintro σ H4 ⟨v7, v8, se, fa, S, Fr, rfl, s4, ese, efa, cn, il⟩
        obtain ⟨lS, lF⟩ := cn.len hw z
        omega
    · rintro σ H4 ⟨v7, v8, se, fa, S, Fr, rfl, s4, ese, efa, d1, d2⟩
      refine ⟨_, rfl, _, rfl, (by omega), (by omega), ?_⟩
      rw [show ((n : Nat) : Int).toNat = n by omega]
      refine fun o no => ?_
      refine lc_range (lo := 0) (n := n) (fun i H' => Same H4 H' ∧ H' o = some (.lst ((lot i fun l => !Z l).map nV))) ⟨(Same.refl H4).new no, upd_same⟩ ?_ ?_
      · rintro j H5 hj ⟨s5, eD⟩
        rw [show (0 : Int) + (j : Int) = (j : Int) by omega]
        have hsz := lot_le_len j (fun l => !Z l)
        have hA : S.contains j = Z j := d1 j
        refine ⟨rfl, _, rfl, _, rfl, se, _, rfl, .inl (SqL.of (s5 _ _ ese)), rfl, flat_n _, _, rfl, ?_⟩
        rw [in_n, hA, lot_more]
        cases ca : Z j with
        | true => exact iteF ⟨s5, by rw [eD]; simp [ca]⟩
        | false =>
          refine iteT ⟨_, rfl, _, eD, ?_, s5.mut no, ?_⟩
          · rw [List.length_map]
            exact szl (by omega)
          · rw [upd_same]
            simp [ca]
      rintro H5 ⟨s5, eo⟩
      refine ⟨_, rfl, o, _, rfl, .inl (SqL.of eo), _, rfl, fa, _, rfl, .inl (SqL.of (s5 _ _ efa)), _, _, rfl, rfl, _, rfl, _, rfl, (by show 3 ≤ sizeLine; decide), ?_⟩
      rw [List.length_map, List.length_map]
      dsimp only
      rw [← Int.natCast_add]
      intro r nr
      have s6 : Same H5 (upd H5 r (.tup [nV ((lot n fun l => !Z l).length + Fr.length), .ref o, .ref fa])) := (Same.refl H5).new nr
      refine q r o fa _ _ ((s4.trans s5).trans s6) ⟨upd_same, SqL.of (s6 _ _ eo), SqL.of ?_, ?_, fun Z' z' => z'.uniq (z.zed hw mt)⟩
      · rw [s6 _ _ (s5 _ _ efa), d2]
        rfl
      · have := lot_two n Z
        rw [d2]
        unfold cvR
        omega
end
end K26W

/-! Things on a line: parts that begin and end with a left thing are what is reached from the unmatched. -/
namespace K26
open K02
/-- the part at the left thing k begins with a left thing -/
def fl (dn up : Nat → Bool) : Nat → Bool
  | 0 => true
  | k + 1 => if up k then dn k && fl dn up k else true
def enF (dn up : Nat → Bool) : Nat → Nat → Bool
  | 0, _ => false
  | f + 1, k => if dn k then (if up k then enF dn up f (k + 1) else false) else true
/-- .. ends with one -/
def en (dn up : Nat → Bool) (n k : Nat) : Bool := enF dn up (n - k) k
theorem en_step {dn up : Nat → Bool} {n k : Nat} (h : k < n) : en dn up n k = if dn k then (if up k then en dn up n (k + 1) else false) else true := by
  unfold en
  rw [show n - k = (n - (k + 1)) + 1 by omega]
  rfl
theorem en_end (dn up : Nat → Bool) (n : Nat) : en dn up n n = false := by
  unfold en
  rw [Nat.sub_self]
  rfl
def sn (dn up : Nat → Bool) (n k : Nat) : Bool := fl dn up k && en dn up n k
theorem sn_iff {dn up : Nat → Bool} {n k : Nat} : sn dn up n k = true ↔ fl dn up k = true ∧ en dn up n k = true := by
  unfold sn
  rw [Bool.and_eq_true]
/-- the lefts, the rights of such parts -/
def snL (dn up : Nat → Bool) (n : Nat) (L : Nat → Nat) (k : Nat) : List Nat := ((List.range k).filter (sn dn up n)).map L
def snR (dn up : Nat → Bool) (n : Nat) (R : Nat → Nat) (k : Nat) : List Nat := ((List.range k).filter fun j => sn dn up n j && dn j).map R
theorem fil_succ {α : Type} (p : Nat → Bool) (f : Nat → α) (k : Nat) : ((List.range (k + 1)).filter p).map f = ((List.range k).filter p).map f ++ (if p k then [f k] else []) := by
  rw [List.range_succ, List.filter_append, List.map_append]
  congr 1
  cases h : p k <;> simp [List.filter_cons, h]
theorem mem_snL {dn up : Nat → Bool} {n : Nat} {L : Nat → Nat} {k x : Nat} : x ∈ snL dn up n L k ↔ ∃ j, j < k ∧ sn dn up n j = true ∧ L j = x := by
  unfold snL
  rw [List.mem_map]
  constructor
  · rintro ⟨j, h, e⟩
    rw [List.mem_filter, List.mem_range] at h
    exact ⟨j, h.1, h.2, e⟩
  · rintro ⟨j, h1, h2, e⟩
    exact ⟨j, by rw [List.mem_filter, List.mem_range]; exact ⟨h1, h2⟩, e⟩
theorem mem_snR {dn up : Nat → Bool} {n : Nat} {R : Nat → Nat} {k x : Nat} : x ∈ snR dn up n R k ↔ ∃ j, j < k ∧ sn dn up n j = true ∧ dn j = true ∧ R j = x := by
  unfold snR
  rw [List.mem_map]
  constructor
  · rintro ⟨j, h, e⟩
    rw [List.mem_filter, List.mem_range, Bool.and_eq_true] at h
    exact ⟨j, h.1, h.2.1, h.2.2, e⟩
  · rintro ⟨j, h1, h2, h3, e⟩
    exact ⟨j, by rw [List.mem_filter, List.mem_range, Bool.and_eq_true]; exact ⟨h1, h2, h3⟩, e⟩
/-- the steps of the lists: cut where the part ends -/
theorem snL_cut {dn up : Nat → Bool} {n : Nat} {L : Nat → Nat} {k : Nat} {sl SL : List Nat} (hk : k < n) (h : sl ++ (if fl dn up k && en dn up n k then SL else []) = snL dn up n L k) (hd : dn k = false) : sl ++ (if fl dn up k then SL ++ [L k] else []) = snL dn up n L (k + 1) := by
  have e : en dn up n k = true := by rw [en_step hk, hd]; rfl
  unfold snL at h ⊢
  rw [fil_succ, ← h]
  unfold sn
  rw [e]
  cases fl dn up k <;> simp
theorem snR_cut {dn up : Nat → Bool} {n : Nat} {R : Nat → Nat} {k : Nat} {sl SL : List Nat} (hk : k < n) (h : sl ++ (if fl dn up k && en dn up n k then SL else []) = snR dn up n R k) (hd : dn k = false) : sl ++ (if fl dn up k then SL else []) = snR dn up n R (k + 1) := by
  have e : en dn up n k = true := by rw [en_step hk, hd]; rfl
  unfold snR at h ⊢
  rw [fil_succ, ← h]
  unfold sn
  rw [e, hd]
  cases fl dn up k <;> simp
theorem snL_go {dn up : Nat → Bool} {n : Nat} {L : Nat → Nat} {k : Nat} {sl SL : List Nat} (hk : k < n) (h : sl ++ (if fl dn up k && en dn up n k then SL else []) = snL dn up n L k) (hd : dn k = true) (hu : up k = true) : sl ++ (if fl dn up (k + 1) && en dn up n (k + 1) then SL ++ [L k] else []) = snL dn up n L (k + 1) := by
  have e : en dn up n k = en dn up n (k + 1) := by rw [en_step hk, hd, hu]; rfl
  have e2 : fl dn up (k + 1) = fl dn up k := by
    show (if up k then dn k && fl dn up k else true) = _
    rw [hu, hd]
    rfl
  unfold snL at h ⊢
  rw [fil_succ, ← h]
  unfold sn
  rw [e, e2]
  cases fl dn up k <;> cases en dn up n (k + 1) <;> simp
theorem snR_go {dn up : Nat → Bool} {n : Nat} {R : Nat → Nat} {k : Nat} {sl SL : List Nat} (hk : k < n) (h : sl ++ (if fl dn up k && en dn up n k then SL else []) = snR dn up n R k) (hd : dn k = true) (hu : up k = true) : sl ++ (if fl dn up (k + 1) && en dn up n (k + 1) then SL ++ [R k] else []) = snR dn up n R (k + 1) := by
  have e : en dn up n k = en dn up n (k + 1) := by rw [en_step hk, hd, hu]; rfl
  have e2 : fl dn up (k + 1) = fl dn up k := by
    show (if up k then dn k && fl dn up k else true) = _
    rw [hu, hd]
    rfl
  unfold snR at h ⊢
  rw [fil_succ, ← h]
  unfold sn
  rw [e, e2, hd]
  cases fl dn up k <;> cases en dn up n (k + 1) <;> simp
theorem snL_off {dn up : Nat → Bool} {n : Nat} {L : Nat → Nat} {k : Nat} {sl SL : List Nat} (hk : k < n) (h : sl ++ (if fl dn up k && en dn up n k then SL else []) = snL dn up n L k) (hd : dn k = true) (hu : up k = false) : sl = snL dn up n L (k + 1) := by
  have e : en dn up n k = false := by rw [en_step hk, hd, hu]; rfl
  unfold snL at h ⊢
  rw [fil_succ, ← h]
  unfold sn
  rw [e]
  cases fl dn up k <;> simp
theorem snR_off {dn up : Nat → Bool} {n : Nat} {R : Nat → Nat} {k : Nat} {sl SL : List Nat} (hk : k < n) (h : sl ++ (if fl dn up k && en dn up n k then SL else []) = snR dn up n R k) (hd : dn k = true) (hu : up k = false) : sl = snR dn up n R (k + 1) := by
  have e : en dn up n k = false := by rw [en_step hk, hd, hu]; rfl
  unfold snR at h ⊢
  rw [fil_succ, ← h]
  unfold sn
  rw [e]
  cases fl dn up k <;> simp
/-- things on a line, and pairs from what is not reached to what is -/
structure Ln (n m : Nat) (L R : Nat → Nat) (dn up : Nat → Bool) (mo ps : PL) : Prop where
  ln : ∀ k, k < n → L k < n
  li : ∀ i j, i < n → j < n → L i = L j → i = j
  ls : ∀ l, l < n → ∃ k, k < n ∧ L k = l
  rn : ∀ k, k < m → R k < m
  ri : ∀ i j, i < m → j < m → R i = R j → i = j
  d : ∀ k, dn k = true → k < n ∧ k < m
  u : ∀ k, up k = true → k + 1 < n ∧ k < m
  ps : ∀ l r, (l, r) ∈ ps ↔ (∃ k, dn k = true ∧ l = L k ∧ r = R k) ∨ (∃ k, up k = true ∧ l = L (k + 1) ∧ r = R k) ∨ (l, r) ∈ mo
  mo : ∀ l r, (l, r) ∈ mo → l < n ∧ l ∉ snL dn up n L n ∧ r ∈ snR dn up n R n
section
variable {n m : Nat} {L R : Nat → Nat} {dn up : Nat → Bool} {mo ps : PL}
/-- the matching: ups where the part began with a right, or is reached; downs else -/
def uq (dn up : Nat → Bool) (n k : Nat) : Bool := sn dn up n k || !fl dn up k
def lm (dn up : Nat → Bool) (n : Nat) (L R : Nat → Nat) (k : Nat) : Option (Nat × Nat) :=
  if uq dn up n k then (match k with | 0 => none | j + 1 => if up j then some (L (j + 1), R j) else none) else some (L k, R k)
def lms (dn up : Nat → Bool) (n : Nat) (L R : Nat → Nat) : PL := (List.range n).filterMap (lm dn up n L R)
theorem lm_inv {k : Nat} {q : Nat × Nat} (h : lm dn up n L R k = some q) : (uq dn up n k = true ∧ ∃ j, k = j + 1 ∧ up j = true ∧ q = (L k, R j)) ∨ (uq dn up n k = false ∧ q = (L k, R k)) := by
  unfold lm at h
  cases c : uq dn up n k with
  | false =>
    rw [c, if_neg Bool.false_ne_true] at h
    exact .inr ⟨rfl, (Option.some.inj h).symm⟩
  | true =>
    rw [c, if_pos rfl] at h
    cases k with
    | zero => cases h
    | succ j =>
      dsimp only at h
      cases cu : up j with
      | false => rw [cu] at h; cases h
      | true =>
        rw [cu, if_pos rfl] at h
        exact .inl ⟨rfl, j, rfl, cu, (Option.some.inj h).symm⟩
theorem lm_up {j : Nat} (h : uq dn up n (j + 1) = true) (hu : up j = true) : lm dn up n L R (j + 1) = some (L (j + 1), R j) := by
  unfold lm
  rw [h, if_pos rfl]
  dsimp only
  rw [hu]
  rfl
theorem lm_dn {k : Nat} (h : uq dn up n k = false) : lm dn up n L R k = some (L k, R k) := by
  unfold lm
  rw [h]
  rfl
theorem uq_no {k : Nat} (hk : k < n) (h : uq dn up n k = false) : fl dn up k = true ∧ dn k = true ∧ en dn up n k = false := by
  unfold uq sn at h
  rw [Bool.or_eq_false_iff] at h
  obtain ⟨h1, h2⟩ := h
  have f : fl dn up k = true := by simpa using h2
  rw [f, Bool.true_and] at h1
  refine ⟨f, ?_, h1⟩
  cases c : dn k with
  | true => rfl
  | false =>
    rw [en_step hk, c] at h1
    cases h1
theorem sn_uq {k : Nat} (h : sn dn up n k = true) : uq dn up n k = true := by
  unfold uq
  rw [h]
  rfl
/-- to the left within a part -/
theorem sn_back {j : Nat} (hj : j + 1 < n) (h : sn dn up n (j + 1) = true) (hu : up j = true) : sn dn up n j = true ∧ dn j = true := by
  obtain ⟨h1, h2⟩ := sn_iff.mp h
  have h1' : (if up j then dn j && fl dn up j else true) = true := h1
  rw [hu, if_pos rfl, Bool.and_eq_true] at h1'
  refine ⟨sn_iff.mpr ⟨h1'.2, ?_⟩, h1'.1⟩
  rw [en_step (by omega), h1'.1, hu]
  exact h2
/-- .. to the right -/
theorem sn_next {k : Nat} (hk : k < n) (h : sn dn up n k = true) (hd : dn k = true) : up k = true ∧ sn dn up n (k + 1) = true := by
  obtain ⟨h1, h2⟩ := sn_iff.mp h
  rw [en_step hk, hd, if_pos rfl] at h2
  cases c : up k with
  | false => rw [c] at h2; cases h2
  | true =>
    rw [c, if_pos rfl] at h2
    refine ⟨rfl, sn_iff.mpr ⟨?_, h2⟩⟩
    show (if up k then dn k && fl dn up k else true) = true
    rw [c, hd, h1]
    rfl
namespace Ln
variable (h : Ln n m L R dn up mo ps)
include h
theorem mem {q : Nat × Nat} : q ∈ lms dn up n L R ↔ ∃ k, k < n ∧ lm dn up n L R k = some q := by
  unfold lms
  rw [List.mem_filterMap]
  constructor
  · rintro ⟨k, hk, e⟩
    exact ⟨k, List.mem_range.mp hk, e⟩
  · rintro ⟨k, hk, e⟩
    exact ⟨k, List.mem_range.mpr hk, e⟩
theorem mat : Mat ps (lms dn up n L R) := by
  refine ⟨fun q hq => ?_, ?_, ?_⟩
  · obtain ⟨k, hk, e⟩ := h.mem.mp hq
    rcases lm_inv e with ⟨a, j, rfl, hu, rfl⟩ | ⟨a, rfl⟩
    · exact (h.ps _ _).mpr (.inr (.inl ⟨j, hu, rfl, rfl⟩))
    · exact (h.ps _ _).mpr (.inl ⟨k, (uq_no hk a).2.1, rfl, rfl⟩)
  · unfold lms
    rw [List.Nodup, List.pairwise_map]
    have pw : List.Pairwise (fun a b => a < b ∧ a < n ∧ b < n) (List.range n) := by
      refine List.Pairwise.imp_of_mem (fun ha hb hab => ⟨hab, List.mem_range.mp ha, List.mem_range.mp hb⟩) List.pairwise_lt_range
    refine List.Pairwise.filterMap (lm dn up n L R) (fun a a' hab b hb b' hb' => ?_) pw
    have e1 : b.1 = L a := by
      rcases lm_inv hb with ⟨_, j, rfl, _, rfl⟩ | ⟨_, rfl⟩ <;> rfl
    have e2 : b'.1 = L a' := by
      rcases lm_inv hb' with ⟨_, j, rfl, _, rfl⟩ | ⟨_, rfl⟩ <;> rfl
    rw [e1, e2]
    intro e
    have := h.li a a' hab.2.1 hab.2.2 e
    omega
  · unfold lms
    rw [List.Nodup, List.pairwise_map]
    have pw : List.Pairwise (fun a b => a < b ∧ a < n ∧ b < n) (List.range n) := by
      refine List.Pairwise.imp_of_mem (fun ha hb hab => ⟨hab, List.mem_range.mp ha, List.mem_range.mp hb⟩) List.pairwise_lt_range
    refine List.Pairwise.filterMap (lm dn up n L R) (fun a a' hab b hb b' hb' => ?_) pw
    obtain ⟨lt, ha, ha'⟩ := hab
    rcases lm_inv hb with ⟨u1, j, rfl, hu, rfl⟩ | ⟨u1, rfl⟩ <;> rcases lm_inv hb' with ⟨u2, j', rfl, hu', rfl⟩ | ⟨u2, rfl⟩ <;> dsimp only <;> intro e
    · have := h.ri j j' (h.u j hu).2 (h.u j' hu').2 e
      omega
    · have := h.ri j a' (h.u j hu).2 (h.d _ (uq_no ha' u2).2.1).2 e
      omega
    · obtain ⟨f1, d1, e1⟩ := uq_no ha u1
      have : a = j' := h.ri a j' (h.d _ d1).2 (h.u j' hu').2 e
      subst this
      have f2 : fl dn up (a + 1) = true := by
        show (if up a then dn a && fl dn up a else true) = true
        rw [hu', d1, f1]
        rfl
      have e2 : en dn up n (a + 1) = false := by
        rw [en_step ha, d1, hu'] at e1
        exact e1
      unfold uq sn at u2
      rw [f2, e2] at u2
      cases u2
    · have := h.ri a a' (h.d _ (uq_no ha u1).2.1).2 (h.d _ (uq_no ha' u2).2.1).2 e
      omega
/-- what is reached -/
theorem zl : Zl n ps (lms dn up n L R) (fun l => (snL dn up n L n).contains l) := by
  have mat := h.mat
  have free : ∀ k, k < n → (L k ∈ unm n (lms dn up n L R) ↔ lm dn up n L R k = none) := fun k hk => by
    rw [mem_unm]
    constructor
    · rintro ⟨_, h2⟩
      cases c : lm dn up n L R k with
      | none => rfl
      | some q =>
        refine absurd (List.mem_map.mpr ⟨q, h.mem.mpr ⟨k, hk, c⟩, ?_⟩) h2
        rcases lm_inv c with ⟨_, j, rfl, _, rfl⟩ | ⟨_, rfl⟩ <;> rfl
    · intro c
      refine ⟨h.ln k hk, fun z => ?_⟩
      obtain ⟨q, hq, e⟩ := List.mem_map.mp z
      obtain ⟨k', hk', c'⟩ := h.mem.mp hq
      have e1 : q.1 = L k' := by rcases lm_inv c' with ⟨_, j, rfl, _, rfl⟩ | ⟨_, rfl⟩ <;> rfl
      have := h.li k' k hk' hk (by rw [← e1, e])
      subst this
      rw [c] at c'
      cases c'
  have inA : ∀ l, (snL dn up n L n).contains l = true ↔ ∃ j, j < n ∧ sn dn up n j = true ∧ L j = l := fun l => by
    rw [← mem_snL]
    simp
  refine ⟨fun l hl => ?_, fun l r hl hr => ?_, fun l hl => ?_, fun S h1 h2 l hl => ?_⟩
  · obtain ⟨k, hk, rfl⟩ := h.ls l (mem_unm.mp hl).1
    have c := (free k hk).mp hl
    refine (inA _).mpr ⟨k, hk, ?_, rfl⟩
    cases cu : uq dn up n k with
    | false => rw [lm_dn cu] at c; cases c
    | true =>
      have f : fl dn up k = true := by
        cases k with
        | zero => rfl
        | succ j =>
          show (if up j then dn j && fl dn up j else true) = true
          cases c2 : up j with
          | false => rfl
          | true => rw [lm_up cu c2] at c; cases c
      unfold uq at cu
      rw [f] at cu
      simpa using cu
  · obtain ⟨k, hk, hs, rfl⟩ := (inA l).mp hl
    rcases (h.ps _ _).mp hr with ⟨k', hd, e, rfl⟩ | ⟨k', hu, e, rfl⟩ | hm
    · have := h.li k k' hk (h.d k' hd).1 e
      subst this
      obtain ⟨a, b⟩ := sn_next hk hs hd
      have k1 := (h.u k a).1
      exact ⟨L (k + 1), h.mem.mpr ⟨k + 1, k1, lm_up (sn_uq b) a⟩, (inA _).mpr ⟨k + 1, k1, b, rfl⟩⟩
    · have k1 := (h.u k' hu).1
      have := h.li k (k' + 1) hk k1 e
      subst this
      exact ⟨L (k' + 1), h.mem.mpr ⟨k' + 1, k1, lm_up (sn_uq hs) hu⟩, (inA _).mpr ⟨k' + 1, k1, hs, rfl⟩⟩
    · exact absurd (mem_snL.mpr ⟨k, hk, hs, rfl⟩) (h.mo _ _ hm).2.1
  · obtain ⟨k, hk, hs, rfl⟩ := (inA l).mp hl
    exact h.ln k hk
  · obtain ⟨k, hk, hs, rfl⟩ := (inA l).mp hl
    clear hl
    induction k with
    | zero => exact h1 _ ((free 0 hk).mpr (by unfold lm; rw [sn_uq hs]; rfl))
    | succ j ih =>
      cases c : up j with
      | false =>
        refine h1 _ ((free (j + 1) hk).mpr ?_)
        unfold lm
        rw [sn_uq hs, if_pos rfl]
        dsimp only
        rw [c]
        rfl
      | true =>
        obtain ⟨a, b⟩ := sn_back hk hs c
        have sj := ih (by omega) a
        obtain ⟨l', m1, s1⟩ := h2 _ _ sj ((h.ps _ _).mpr (.inl ⟨j, b, rfl, rfl⟩))
        have m2 : (L (j + 1), R j) ∈ lms dn up n L R := h.mem.mpr ⟨j + 1, hk, lm_up (sn_uq hs) c⟩
        have e : ∀ (ms : PL), (ms.map (·.2)).Nodup → (l', R j) ∈ ms → (L (j + 1), R j) ∈ ms → l' = L (j + 1) := fun ms => by
          induction ms with
          | nil => exact fun _ z => by cases z
          | cons q t iht =>
            intro nd x y
            obtain ⟨n1, n2⟩ := List.nodup_cons.mp nd
            rcases List.mem_cons.mp x with e1 | x <;> rcases List.mem_cons.mp y with e2 | y
            · rw [← e1] at e2
              exact (congrArg Prod.fst e2).symm
            · exact absurd (List.mem_map.mpr ⟨_, y, by rw [← e1]⟩) n1
            · exact absurd (List.mem_map.mpr ⟨_, x, by rw [← e2]⟩) n1
            · exact iht n2 x y
        rw [← e _ mat.n2 m1 m2]
        exact s1
theorem mem_nb (r : Nat) : r ∈ lot m (nb ps (fun l => (snL dn up n L n).contains l)) ↔ r ∈ snR dn up n R n := by
  rw [mem_lot, nb_iff, mem_snR]
  constructor
  · rintro ⟨hm, l, hl, hr⟩
    have hl' : l ∈ snL dn up n L n := by simpa using hl
    obtain ⟨k, hk, hs, rfl⟩ := mem_snL.mp hl'
    rcases (h.ps _ _).mp hr with ⟨k', hd, e, rfl⟩ | ⟨k', hu, e, rfl⟩ | hmo
    · have := h.li k k' hk (h.d k' hd).1 e
      subst this
      exact ⟨k, hk, hs, hd, rfl⟩
    · have k1 := (h.u k' hu).1
      have := h.li k (k' + 1) hk k1 e
      subst this
      obtain ⟨a, b⟩ := sn_back k1 hs hu
      exact ⟨k', by omega, a, b, rfl⟩
    · exact absurd hl' (h.mo _ _ hmo).2.1
  · rintro ⟨k, hk, hs, hd, rfl⟩
    refine ⟨h.rn k (h.d k hd).2, L k, ?_, (h.ps _ _).mpr (.inl ⟨k, hd, rfl, rfl⟩)⟩
    have : L k ∈ snL dn up n L n := mem_snL.mpr ⟨k, hk, hs, rfl⟩
    simpa using this
theorem snR_nd : (snR dn up n R n).Nodup := by
  unfold snR
  rw [List.Nodup, List.pairwise_map]
  refine List.Pairwise.imp_of_mem (fun {a b} ha hb hab e => ?_) (List.Pairwise.filter _ List.nodup_range)
  rw [List.mem_filter, Bool.and_eq_true] at ha hb
  exact hab (h.ri a b (h.d a ha.2.2).2 (h.d b hb.2.2).2 e)
theorem in2 : In2 n m ps := fun q hq => by
  rcases (h.ps q.1 q.2).mp hq with ⟨k, hd, e1, e2⟩ | ⟨k, hu, e1, e2⟩ | hm
  · rw [e1, e2]
    exact ⟨h.ln k (h.d k hd).1, h.rn k (h.d k hd).2⟩
  · rw [e1, e2]
    exact ⟨h.ln _ (h.u k hu).1, h.rn k (h.u k hu).2⟩
  · obtain ⟨a, _, c⟩ := h.mo _ _ hm
    obtain ⟨k, hk, hs, hd, e⟩ := mem_snR.mp c
    rw [← e]
    exact ⟨a, h.rn k (h.d k hd).2⟩
end Ln
end
end K26

namespace K26W
open PySem PySem.Spec PyProof.Rows L2 KH KD KP K26
abbrev s_law_line : Stmt := topS 19
theorem sc_law_line : FnScope ["lefts", "rights", "drawn", "whole", "downs", "ups", "seen_lefts", "seen_rights", "some_lefts", "some_rights", "from_left", "k"] ["lefts", "rights", "drawn", "whole"] (defScope s_law_line) := ⟨rfl, rfl, rfl, by decide +kernel, rfl, by decide +kernel, by decide +kernel⟩

/-- lists of one's own, over a heap that stays -/
structure Own (H0 H : Hp) (cs : List (Addr × List V)) : Prop where
  sm : Same H0 H
  nd : (cs.map (·.1)).Nodup
  fr : ∀ c ∈ cs, H0 c.1 = none
  at_ : ∀ c ∈ cs, H c.1 = some (.lst c.2)
theorem Own.get {H0 H : Hp} {cs : List (Addr × List V)} (h : Own H0 H cs) {a : Addr} {l : List V} (j : Nat) (e : cs[j]? = some (a, l)) : H a = some (.lst l) := h.at_ _ (List.mem_of_getElem? e)
theorem Own.same {H0 H H' : Hp} {cs : List (Addr × List V)} (h : Own H0 H cs) (s : Same H H') : Own H0 H' cs := ⟨h.sm.trans s, h.nd, h.fr, fun c hc => s _ _ (h.at_ c hc)⟩
theorem Own.nil (H : Hp) : Own H H [] := ⟨Same.refl H, List.nodup_nil, fun _ h => (by cases h), fun _ h => (by cases h)⟩
theorem Own.push {H0 H : Hp} {cs : List (Addr × List V)} (h : Own H0 H cs) {a : Addr} {l : List V} (na : H a = none) : Own H0 (upd H a (.lst l)) (cs ++ [(a, l)]) := by
  have off : ∀ c ∈ cs, c.1 ≠ a := fun c hc e => by
    have := h.at_ c hc
    rw [e, na] at this
    cases this
  refine ⟨h.sm.new na, ?_, fun c hc => ?_, fun c hc => ?_⟩
  · rw [List.map_append]
    refine List.nodup_append.mpr ⟨h.nd, by simp, fun x hx y hy e => ?_⟩
    obtain ⟨c, hc, rfl⟩ := List.mem_map.mp hx
    have : y = a := by simpa using hy
    exact off c hc (e.trans this)
  · rcases List.mem_append.mp hc with hc | hc
    · exact h.fr c hc
    · rw [List.mem_singleton.mp hc]
      exact h.sm.free na
  · rcases List.mem_append.mp hc with hc | hc
    · rw [upd_ne (off c hc)]
      exact h.at_ c hc
    · rw [List.mem_singleton.mp hc]
      exact upd_same
theorem Own.set {H0 H : Hp} {cs : List (Addr × List V)} (h : Own H0 H cs) {a : Addr} {l l' : List V} (j : Nat) (e : cs[j]? = some (a, l)) : Own H0 (upd H a (.lst l')) (cs.set j (a, l')) := by
  have fra := h.fr _ (List.mem_of_getElem? e)
  have key : ∀ {k c}, (cs.set j (a, l'))[k]? = some c → (k = j ∧ c = (a, l')) ∨ (k ≠ j ∧ cs[k]? = some c ∧ c.1 ≠ a) := fun {k c} hk => by
    rw [List.getElem?_set] at hk
    by_cases ek : j = k
    · subst ek
      rw [if_pos rfl, if_pos (List.getElem?_eq_some_iff.mp e).1] at hk
      exact .inl ⟨rfl, (Option.some.inj hk).symm⟩
    · rw [if_neg ek] at hk
      refine .inr ⟨fun z => ek z.symm, hk, fun z => ek ?_⟩
      have e1 : (cs.map (·.1))[j]? = some a := by rw [List.getElem?_map, e]; rfl
      have e2 : (cs.map (·.1))[k]? = some a := by rw [List.getElem?_map, hk, ← z]; rfl
      exact (List.getElem?_inj (by rw [List.length_map]; exact (List.getElem?_eq_some_iff.mp e).1) h.nd).mp (e1.trans e2.symm)
  refine ⟨h.sm.mut fra, ?_, fun c hc => ?_, fun c hc => ?_⟩
  · have : (cs.set j (a, l')).map (·.1) = cs.map (·.1) := by
      rw [List.map_set]
      apply List.ext_getElem?
      intro k
      rw [List.getElem?_set]
      split
      · rename_i ek
        subst ek
        rw [List.getElem?_map, e, List.length_map, if_pos (List.getElem?_eq_some_iff.mp e).1]
        rfl
      · rfl
    rw [this]
    exact h.nd
  · obtain ⟨k, hk⟩ := List.mem_iff_getElem?.mp hc
    rcases key hk with ⟨_, rfl⟩ | ⟨_, q, _⟩
    · exact fra
    · exact h.fr c (List.mem_of_getElem? q)
  · obtain ⟨k, hk⟩ := List.mem_iff_getElem?.mp hc
    rcases key hk with ⟨_, rfl⟩ | ⟨_, q, ne⟩
    · exact upd_same
    · rw [upd_ne ne]
      exact h.at_ c (List.mem_of_getElem? q)
/-- a new list in the place of one -/
theorem Own.new {H0 H : Hp} {cs : List (Addr × List V)} (h : Own H0 H cs) {a : Addr} {l : List V} (j : Nat) (na : H a = none) : Own H0 (upd H a (.lst l)) (cs.set j (a, l)) := by
  have off : ∀ c ∈ cs, c.1 ≠ a := fun c hc e => by
    have := h.at_ c hc
    rw [e, na] at this
    cases this
  refine ⟨h.sm.new na, ?_, fun c hc => ?_, fun c hc => ?_⟩
  · rw [List.map_set]
    refine nodup_set _ j h.nd fun z => ?_
    obtain ⟨c, hc, e⟩ := List.mem_map.mp z
    exact off c hc e
  · rcases List.mem_or_eq_of_mem_set hc with hc | rfl
    · exact h.fr c hc
    · exact h.sm.free na
  · rcases List.mem_or_eq_of_mem_set hc with hc | rfl
    · rw [upd_ne (off c hc)]
      exact h.at_ c hc
    · exact upd_same
where
  nodup_set {α : Type} {a : α} : ∀ (l : List α) (j : Nat), l.Nodup → a ∉ l → (l.set j a).Nodup
    | [], _, _, _ => List.nodup_nil
    | x :: l, 0, nd, h => List.nodup_cons.mpr ⟨fun z => h (List.mem_cons_of_mem _ z), (List.nodup_cons.mp nd).2⟩
    | x :: l, j + 1, nd, h => by
      obtain ⟨n1, n2⟩ := List.nodup_cons.mp nd
      refine List.nodup_cons.mpr ⟨fun z => ?_, nodup_set l j n2 fun z => h (List.mem_cons_of_mem _ z)⟩
      rcases List.mem_or_eq_of_mem_set z with z | z
      · exact n1 z
      · exact h (by rw [z]; exact List.mem_cons_self)
/-! ### the line -/
def dps (dn : Nat → Bool) (L R : Nat → Nat) (k : Nat) : K02.PL := ((List.range k).filter dn).map fun j => (L j, R j)
def ups (up : Nat → Bool) (L R : Nat → Nat) (k : Nat) : K02.PL := ((List.range k).filter up).map fun j => (L (j + 1), R j)
theorem fil_len {α : Type} (p : Nat → Bool) (f : Nat → α) (k : Nat) : (((List.range k).filter p).map f).length ≤ k := by
  rw [List.length_map]
  exact Nat.le_trans (List.length_filter_le _ _) (by rw [List.length_range]; exact Nat.le_refl _)
/-- a test that says b -/
def Dc (t : TT) (σ : L2.St) (H : Hp) (b : Bool) : Prop := ∀ Q : Bool → Hp → Prop, Q b H → t σ H Q
theorem Dc.and {t u : TT} {σ : L2.St} {H : Hp} {a b : Bool} (h : Dc t σ H a) (g : a = true → Dc u σ H b) : Dc (tAnd t u) σ H (a && b) := fun Q q => h _ (by
  cases a with
  | true => exact iteT (g rfl Q q)
  | false => exact iteF q)
theorem Dc.or {t u : TT} {σ : L2.St} {H : Hp} {a b : Bool} (h : Dc t σ H a) (g : a = false → Dc u σ H b) : Dc (tOr t u) σ H (a || b) := fun Q q => h _ (by
  cases a with
  | true => exact iteT q
  | false => exact iteF (g rfl Q q))
theorem Dc.ifS {c : TT} {t u : TS} {D : Ends} {σ : L2.St} {H : Hp} {b : Bool} (h : Dc c σ H b) (ht : b = true → t D σ H) (hu : b = false → u D σ H) : tIfS c t u D σ H := h _ (by
  cases b with
  | true => exact iteT (ht rfl)
  | false => exact iteF (hu rfl))
theorem dps_more (dn : Nat → Bool) (L R : Nat → Nat) (k : Nat) : dps dn L R (k + 1) = dps dn L R k ++ (if dn k then [(L k, R k)] else []) := fil_succ dn _ k
theorem ups_more (up : Nat → Bool) (L R : Nat → Nat) (k : Nat) : ups up L R (k + 1) = ups up L R k ++ (if up k then [(L (k + 1), R k)] else []) := fil_succ up _ k
theorem dps_len (dn : Nat → Bool) (L R : Nat → Nat) (k : Nat) : (dps dn L R k).length ≤ k := fil_len dn _ k
theorem ups_len (up : Nat → Bool) (L R : Nat → Nat) (k : Nat) : (ups up L R k).length ≤ k := fil_len up _ k
theorem tpos {x : Nat} : decide ((0 : Int) < (x : Int)) = decide (0 < x) := decide_eq_decide.mpr (by omega)
theorem fl_eq (dn up : Nat → Bool) (k : Nat) : fl dn up (k + 1) = if up k then dn k && fl dn up k else true := rfl
section
variable {P : Program} {w : World} {K : PySem.W.Frag} {mg : Str → Option Value} {base : Heap} {CN CB CD CT CU fI : Addr}
def sp_line (K : PySem.W.Frag) : Sp := fun vs H Q _ => ∃ (la ra da : Addr) (wh : Bool) (ls rs ds : List Nat), vs = [.ref la, .ref ra, .ref da, .bl wh] ∧ SqL K H la (ls.map nV) ∧ SqL K H ra (rs.map nV) ∧ SqL K H da (ds.map nV) ∧ ls.length ≤ 100 ∧ ds.length = 5 * ls.length ∧
  ∀ (dn up : Nat → Bool) (r d u sl sr : Addr) (us1 us2 : List V) H', (∀ k, dn k = true → k < ls.length ∧ k < rs.length) → (∀ k, up k = true → k + 1 < ls.length ∧ k < rs.length) → Same H H' → H' r = some (.tup [.ref d, .ref u, .ref sl, .ref sr]) → H' d = some (.lst us1) → H' u = some (.lst us2) → PI K H' us1 (upP (dps dn (fun k => ls.getD k 0) (fun k => rs.getD k 0) ls.length)) → PI K H' us2 (upP (ups up (fun k => ls.getD k 0) (fun k => rs.getD k 0) ls.length)) →
    H' sl = some (.lst ((snL dn up ls.length (fun k => ls.getD k 0) ls.length).map nV)) → H' sr = some (.lst ((snR dn up ls.length (fun k => rs.getD k 0) ls.length).map nV)) → Q (.ref r) H'
theorem ok_line {f : Addr} {fd : FuncData} (F : Fun K "_law_line" "_law_line" s_law_line f fd) (T : Txt mg) : FnOk P w K mg base CX0 1 f fd ["lefts", "rights", "drawn", "whole"] (sp_line K) := by
  refine F.ok sc_law_line (fun vs H Q E h => ?_) (fun cdv A outer s H vs Q E hr h => ?_)
  · obtain ⟨la, ra, da, wh, ls, rs, ds, rfl, _⟩ := h
    rfl
  · obtain ⟨la, ra, da, wh, ls, rs, ds, rfl, hL, hR, hD, hn, hds, q⟩ := h
    refine ⟨_, (pss_cons (ps_set (i := 4) sc_law_line.nd rfl (.inl rfl) (pe_lst pa_nil))
 (pss_cons (ps_set (i := 5) sc_law_line.nd rfl (.inl rfl) (pe_lst pa_nil))
 (pss_cons (ps_set (i := 6) sc_law_line.nd rfl (.inl rfl) (pe_lst pa_nil))
 (pss_cons (ps_set (i := 7) sc_law_line.nd rfl (.inl rfl) (pe_lst pa_nil))
 (pss_cons (ps_set (i := 8) sc_law_line.nd rfl (.inl rfl) (pe_lst pa_nil))
 (pss_cons (ps_set (i := 9) sc_law_line.nd rfl (.inl rfl) (pe_lst pa_nil))
 (pss_cons (ps_set (i := 10) sc_law_line.nd rfl (.inl rfl) pe_bl)
 (pss_cons (ps_for PassesOwn.never rfl (pi_range1 rfl T.range (pa_cons (pe_callB call_len_seq (by rfl) T.len (by decide +kernel) (pa_cons (pv 0) pa_nil)) pa_nil)) (pg_name (i := 11) sc_law_line.nd rfl (.inl rfl))
 (pss_cons (ps_expr (pe_bm PySem.F.plainAttrs_list PySem.F.slot_list_append PySem.F.type_list_append mt_append (pv 8) (pa_cons (pe_ix ix_list (pv 0) (pv 11) (fun _ _ => rfl)) pa_nil)))
 (pss_cons (ps_if (PW.pt (pw_and (pt_cmpR op_lt (pv 11) (pe_callB call_len_seq (by rfl) T.len (by decide +kernel) (pa_cons (pv 1) pa_nil)) (nomark _)) (pw_and1 (PW.pt (pw_or (pt_val (pv 3)) (pw_or1 (pt_cmpR op_gt (pe_ix ix_list (pv 2) (pe_op op_mul pe_int (pv 11)) (fun _ _ => rfl)) pe_int (nomark _))))))))
 (pss_one (ps_expr (pe_bm PySem.F.plainAttrs_list PySem.F.slot_list_append PySem.F.type_list_append mt_append (pv 4) (pa_cons (pe_tup (pa_cons (pe_ix ix_list (pv 0) (pv 11) (fun _ _ => rfl)) (pa_cons (pe_ix ix_list (pv 1) (pv 11) (fun _ _ => rfl)) pa_nil))) pa_nil))))
 (pss_cons (ps_if (pt_val (pv 10))
 (pss_cons (ps_expr (pe_bm PySem.F.plainAttrs_list PySem.F.slot_list_extend PySem.F.type_list_extend mt_extend (pv 6) (pa_cons (pv 8) pa_nil)))
 (pss_one (ps_expr (pe_bm PySem.F.plainAttrs_list PySem.F.slot_list_extend PySem.F.type_list_extend mt_extend (pv 7) (pa_cons (pv 9) pa_nil)))))
 pss_nil)
 (pss_cons (ps_set (i := 8) sc_law_line.nd rfl (.inl rfl) (pe_lst pa_nil))
 (pss_cons (ps_set (i := 9) sc_law_line.nd rfl (.inl rfl) (pe_lst pa_nil))
 (pss_one (ps_set (i := 10) sc_law_line.nd rfl (.inl rfl) pe_bl))))))
 (pss_cons (ps_if (pt_cmpR op_lt (pv 11) (pe_callB call_len_seq (by rfl) T.len (by decide +kernel) (pa_cons (pv 1) pa_nil)) (nomark _))
 (pss_one (ps_expr (pe_bm PySem.F.plainAttrs_list PySem.F.slot_list_append PySem.F.type_list_append mt_append (pv 9) (pa_cons (pe_ix ix_list (pv 1) (pv 11) (fun _ _ => rfl)) pa_nil))))
 pss_nil)
 (pss_one (ps_if (PW.pt (pw_and (pt_cmpR op_lt (pe_op op_add (pv 11) pe_int) (pe_callB call_len_seq (by rfl) T.len (by decide +kernel) (pa_cons (pv 0) pa_nil)) (nomark _)) (pw_and (pt_cmpR op_lt (pv 11) (pe_callB call_len_seq (by rfl) T.len (by decide +kernel) (pa_cons (pv 1) pa_nil)) (nomark _)) (pw_and1 (PW.pt (pw_or (pt_val (pv 3)) (pw_or1 (pt_cmpR op_gt (pe_ix ix_list (pv 2) (pe_op op_add (pe_op op_mul pe_int (pv 11)) pe_int) (fun _ _ => rfl)) pe_int (nomark _)))))))))
 (pss_one (ps_expr (pe_bm PySem.F.plainAttrs_list PySem.F.slot_list_append PySem.F.type_list_append mt_append (pv 5) (pa_cons (pe_tup (pa_cons (pe_ix ix_list (pv 0) (pe_op op_add (pv 11) pe_int) (fun _ _ => rfl)) (pa_cons (pe_ix ix_list (pv 1) (pv 11) (fun _ _ => rfl)) pa_nil))) pa_nil))))
 (pss_cons (ps_set (i := 8) sc_law_line.nd rfl (.inl rfl) (pe_lst pa_nil))
 (pss_cons (ps_set (i := 9) sc_law_line.nd rfl (.inl rfl) (pe_lst pa_nil))
 (pss_one (ps_set (i := 10) sc_law_line.nd rfl (.inl rfl) pe_bl))))))))))
 (pss_one (ps_ret (pe_tup (pa_cons (pv 4) (pa_cons (pv 5) (pa_cons (pv 6) (pa_cons (pv 7) pa_nil))))))))))))))), ?_⟩
    generalize eL : (fun k => ls.getD k 0) = L at q
    generalize eR : (fun k => rs.getD k 0) = R at q
    generalize en_ : ls.length = n at *
    generalize em_ : rs.length = m at *
    have gL : ∀ k, k < n → ls[k]? = some (L k) := fun k hk => by rw [← eL]; exact getD_at (by omega)
    have gR : ∀ k, k < m → rs[k]? = some (R k) := fun k hk => by rw [← eR]; exact getD_at (by omega)
    have gD : ∀ k, k < 5 * n → ds[k]? = some (ds.getD k 0) := fun k hk => getD_at (by omega)
    generalize edn : (fun k => decide (k < n) && (decide (k < m) && (wh || decide (0 < ds.getD (5 * k) 0)))) = dn
    generalize eup : (fun k => decide (k + 1 < n) && (decide (k < m) && (wh || decide (0 < ds.getD (5 * k + 1) 0)))) = up
    have idn : ∀ k, dn k = (decide (k < n) && (decide (k < m) && (wh || decide (0 < ds.getD (5 * k) 0)))) := fun k => by rw [← edn]
    have iup : ∀ k, up k = (decide (k + 1 < n) && (decide (k < m) && (wh || decide (0 < ds.getD (5 * k + 1) 0)))) := fun k => by rw [← eup]
    have q := q dn up
    have hdn : ∀ k, dn k = true → k < n ∧ k < m := fun k h => by
      rw [idn] at h
      simp only [Bool.and_eq_true, decide_eq_true_eq] at h
      exact ⟨h.1, h.2.1⟩
    have hup : ∀ k, up k = true → k + 1 < n ∧ k < m := fun k h => by
      rw [iup] at h
      simp only [Bool.and_eq_true, decide_eq_true_eq] at h
      exact ⟨h.1, h.2.1⟩
    refine ⟨Nat.zero_le _, fun d nd => ⟨Nat.zero_le _, fun u nu => ⟨Nat.zero_le _, fun sl nsl => ⟨Nat.zero_le _, fun sr nsr => ⟨Nat.zero_le _, fun so nso => ⟨Nat.zero_le _, fun sp nsp => ?_⟩⟩⟩⟩⟩⟩
    have own := ((((((Own.nil H).push (l := []) nd).push (l := []) nu).push (l := []) nsl).push (l := []) nsr).push (l := []) nso).push (l := []) nsp
    generalize upd (upd (upd (upd (upd (upd H d (.lst [])) u (.lst [])) sl (.lst [])) sr (.lst [])) so (.lst [])) sp (.lst []) = H0 at own ⊢
    have own : Own H H0 [(d, []), (u, []), (sl, []), (sr, []), (so, []), (sp, [])] := own
    refine ⟨_, rfl, la, _, rfl, .inl (own.sm.seq hL), _, rfl, (by omega), (by rw [List.length_map]; omega), ?_⟩
    rw [show (((ls.map nV).length : Nat) : Int).toNat = n by rw [List.length_map]; omega]
    refine for_range (lo := 0) (n := n) (fun i σ H' => ∃ (v11 : Option V) (so sp : Addr) (us1 us2 : List V) (sll srl SL SR : List Nat), σ = [some (.ref la), some (.ref ra), some (.ref da), some (.bl wh), some (.ref d), some (.ref u), some (.ref sl), some (.ref sr), some (.ref so), some (.ref sp), some (.bl (fl dn up i)), v11] ∧
        Own H H' [(d, us1), (u, us2), (sl, sll.map nV), (sr, srl.map nV), (so, SL.map nV), (sp, SR.map nV)] ∧ PI K H' us1 (upP (dps dn L R i)) ∧ PI K H' us2 (upP (ups up L R i)) ∧ sll.length + SL.length ≤ i ∧ srl.length + SR.length ≤ i ∧
        sll ++ (if fl dn up i && en dn up n i then SL else []) = snL dn up n L i ∧ srl ++ (if fl dn up i && en dn up n i then SR else []) = snR dn up n R i)
      ⟨none, so, sp, [], [], [], [], [], [], rfl, own, .nil, .nil, by decide, by decide, (by split <;> rfl), (by split <;> rfl)⟩ ?_ ?_
    · rintro i σ H1 hi ⟨v11, so, sp, us1, us2, sll, srl, SL, SR, rfl, own, p1, p2, l1, l2, eq1, eq2⟩
      have fe := fl_eq dn up i
      refine seqM (fun σ H' => σ = [some (.ref la), some (.ref ra), some (.ref da), some (.bl wh), some (.ref d), some (.ref u), some (.ref sl), some (.ref sr), some (.ref so), some (.ref sp), some (.bl (fl dn up i)), some (nV i)] ∧
        Own H H' [(d, us1), (u, us2), (sl, sll.map nV), (sr, srl.map nV), (so, (SL ++ [L i]).map nV), (sp, SR.map nV)] ∧ PI K H' us1 (upP (dps dn L R i)) ∧ PI K H' us2 (upP (ups up L R i))) (fun N qN => ?_) ?_
      · refine ⟨_, rfl, .inl ⟨rfl, _, SqL.of (own.get 4 rfl)⟩, _, rfl, _, rfl, la, _, _, nV (L i), rfl, rfl, own.sm.seq hL, (by rw [Int.zero_add]; exact at_n (getn (gL i hi))), so, _, _, rfl, rfl, own.get 4 rfl, ?_, ?_⟩
        · rw [List.length_map]
          exact szl (by omega)
        · refine qN _ _ ⟨by rw [Int.zero_add]; rfl, ?_, p1.mutL (own.get 4 rfl), p2.mutL (own.get 4 rfl)⟩
          rw [List.map_append]
          exact own.set 4 rfl
      rintro σ H2 ⟨rfl, own, p1, p2⟩
      have tlt : ∀ (x : Nat), decide ((x : Int) < (((rs.map nV).length : Nat) : Int)) = decide (x < m) := fun x => decide_eq_decide.mpr (by rw [List.length_map]; omega)
      have tlt2 : decide ((i : Int) + 1 < (((ls.map nV).length : Nat) : Int)) = decide (i + 1 < n) := decide_eq_decide.mpr (by rw [List.length_map]; omega)
      have fdn : dn i = (decide (i < m) && (wh || decide (0 < ds.getD (5 * i) 0))) := by rw [idn, decide_eq_true hi, Bool.true_and]
      refine seqM (fun σ H' => ∃ (so sp : Addr) (us1 : List V) (sll srl SL SR : List Nat), σ = [some (.ref la), some (.ref ra), some (.ref da), some (.bl wh), some (.ref d), some (.ref u), some (.ref sl), some (.ref sr), some (.ref so), some (.ref sp), some (.bl (dn i && fl dn up i)), some (nV i)] ∧
        Own H H' [(d, us1), (u, us2), (sl, sll.map nV), (sr, srl.map nV), (so, SL.map nV), (sp, SR.map nV)] ∧ PI K H' us1 (upP (dps dn L R (i + 1))) ∧ PI K H' us2 (upP (ups up L R i)) ∧ sll.length + SL.length ≤ i + 1 ∧ srl.length + SR.length ≤ i ∧
        (up i = true → sll ++ (if fl dn up (i + 1) && en dn up n (i + 1) then SL else []) = snL dn up n L (i + 1)) ∧ (up i = true → srl ++ (if fl dn up (i + 1) && en dn up n (i + 1) then SR ++ [R i] else []) = snR dn up n R (i + 1)) ∧ (up i = false → sll = snL dn up n L (i + 1) ∧ srl = snR dn up n R (i + 1))) (fun N qN => ?_) ?_
      · refine Dc.ifS (b := dn i) ?_ (fun hd => ?_) (fun hd => ?_)
        · rw [fdn]
          refine .and (fun Q q => ⟨_, rfl, _, rfl, ra, _, rfl, .inl (own.sm.seq hR), _, _, rfl, rfl, _, rfl, by rw [tlt]; exact q⟩) (fun him => .or (fun Q q => ⟨_, rfl, _, rfl, q⟩) fun _ Q q => ⟨_, rfl, _, rfl, _, _, rfl, rfl, .inl ⟨by decide, by decide⟩, da, _, _, nV (ds.getD (5 * i) 0), rfl, rfl, own.sm.seq hD, at_n (j := 5 * i) (getn (gD _ (by omega))), _, _, rfl, rfl, _, rfl, by rw [tpos]; exact q⟩)
        · have him := (hdn i hd).2
          refine ⟨_, rfl, .inl ⟨rfl, _, SqL.of (own.get 0 rfl)⟩, _, rfl, _, rfl, la, _, _, nV (L i), rfl, rfl, own.sm.seq hL, at_n (getn (gL i hi)), _, rfl, _, rfl, ra, _, _, nV (R i), rfl, rfl, own.sm.seq hR, at_n (getn (gR i him)), sp2, fun t nt => ?_⟩
          have st : Same H2 (upd H2 t (.tup [nV (L i), nV (R i)])) := (Same.refl H2).new nt
          have et : (upd H2 t (.tup [nV (L i), nV (R i)])) t = some (.tup [nV (L i), nV (R i)]) := upd_same
          generalize upd H2 t (.tup [nV (L i), nV (R i)]) = H3 at st et ⊢
          have p1l : us1.length = (dps dn L R i).length := by rw [p1.len, upP_len]
          have own := own.same st
          have p1 := (p1.same st).snoc (SqT.of et)
          have p2 := p2.same st
          refine ⟨d, _, _, rfl, rfl, own.get 0 rfl, ?_, qN _ _ ⟨so, sp, us1 ++ [.ref t], sll, srl, SL ++ [L i], SR, by rw [hd, Bool.true_and], own.set 0 rfl, ?_, p2.mutL (own.get 0 rfl), by rw [List.length_append, List.length_singleton]; omega, l2, fun hu => snL_go hi eq1 hd hu, fun hu => snR_go hi eq2 hd hu, fun hu => ⟨snL_off hi eq1 hd hu, snR_off hi eq2 hd hu⟩⟩⟩
          · rw [p1l]
            exact szl (by have := dps_len dn L R i; omega)
          · rw [dps_more, hd, if_pos rfl, ← upP_app]
            exact p1.mutL (own.get 0 rfl)
        · refine seqM (fun σ H' => ∃ (sll srl : List Nat), σ = [some (.ref la), some (.ref ra), some (.ref da), some (.bl wh), some (.ref d), some (.ref u), some (.ref sl), some (.ref sr), some (.ref so), some (.ref sp), some (.bl (fl dn up i)), some (nV i)] ∧
            Own H H' [(d, us1), (u, us2), (sl, sll.map nV), (sr, srl.map nV), (so, (SL ++ [L i]).map nV), (sp, SR.map nV)] ∧ PI K H' us1 (upP (dps dn L R i)) ∧ PI K H' us2 (upP (ups up L R i)) ∧ sll.length ≤ i + 1 ∧ srl.length ≤ i ∧ sll = snL dn up n L (i + 1) ∧ srl = snR dn up n R (i + 1)) (fun N2 qN2 => ?_) ?_
          · have c1 := snL_cut hi eq1 hd
            have c2 := snR_cut hi eq2 hd
            refine Dc.ifS (b := fl dn up i) (fun Q q => ⟨_, rfl, _, rfl, q⟩) (fun hf => ?_) (fun hf => ?_)
            · rw [hf, if_pos rfl] at c1 c2
              refine ⟨_, rfl, .inl ⟨rfl, _, SqL.of (own.get 2 rfl)⟩, _, rfl, sl, so, _, _, rfl, rfl, own.get 2 rfl, own.get 4 rfl, ?_, ?_⟩
              · rw [List.length_map, List.length_map, List.length_append, List.length_singleton]
                exact szle (by omega)
              have own2 : Own H _ [(d, us1), (u, us2), (sl, (sll ++ (SL ++ [L i])).map nV), (sr, srl.map nV), (so, (SL ++ [L i]).map nV), (sp, SR.map nV)] := own.set (l' := (sll ++ (SL ++ [L i])).map nV) 2 rfl
              have p1 := p1.mutL (x := .lst ((sll ++ (SL ++ [L i])).map nV)) (own.get 2 rfl)
              have p2 := p2.mutL (x := .lst ((sll ++ (SL ++ [L i])).map nV)) (own.get 2 rfl)
              rw [← List.map_append]
              generalize upd H2 sl (.lst ((sll ++ (SL ++ [L i])).map nV)) = H3 at own2 p1 p2 ⊢
              refine ⟨_, rfl, .inl ⟨rfl, _, SqL.of (own2.get 3 rfl)⟩, _, rfl, sr, sp, _, _, rfl, rfl, own2.get 3 rfl, own2.get 5 rfl, ?_, ?_⟩
              · rw [List.length_map, List.length_map]
                exact szle (by omega)
              rw [← List.map_append]
              exact qN2 _ _ ⟨_, _, rfl, own2.set 3 rfl, p1.mutL (own2.get 3 rfl), p2.mutL (own2.get 3 rfl), by rw [List.length_append, List.length_append, List.length_singleton]; omega, by rw [List.length_append]; omega, c1, c2⟩
            · rw [hf, if_neg Bool.false_ne_true, List.append_nil] at c1 c2
              exact qN2 _ _ ⟨_, _, rfl, own, p1, p2, by omega, by omega, c1, c2⟩
          rintro σ H3 ⟨sll, srl, rfl, own, p1, p2, l1, l2, c1, c2⟩
          refine ⟨Nat.zero_le _, fun so' nso => ⟨Nat.zero_le _, fun sp' nsp => qN _ _ ⟨so', sp', us1, sll, srl, [], [], by rw [hd]; rfl, (own.new 4 nso).new 5 nsp, ?_, ?_, l1, l2, fun hu => ?_, fun hu => ?_, fun hu => ⟨c1, c2⟩⟩⟩⟩
          · rw [dps_more, hd, if_neg Bool.false_ne_true, List.append_nil]
            exact p1.same (((Same.refl H3).new nso).new nsp)
          · exact p2.same (((Same.refl H3).new nso).new nsp)
          · rw [fe, hu, if_pos rfl, hd, c1]
            simp
          · rw [fe, hu, if_pos rfl, hd, c2]
            simp
      rintro σ H3 ⟨so, sp, us1, sll, srl, SL, SR, rfl, own, p1, p2, l1, l2, e1, e2, e3⟩
      refine seqM (fun σ H' => ∃ (SR : List Nat), σ = [some (.ref la), some (.ref ra), some (.ref da), some (.bl wh), some (.ref d), some (.ref u), some (.ref sl), some (.ref sr), some (.ref so), some (.ref sp), some (.bl (dn i && fl dn up i)), some (nV i)] ∧
        Own H H' [(d, us1), (u, us2), (sl, sll.map nV), (sr, srl.map nV), (so, SL.map nV), (sp, SR.map nV)] ∧ PI K H' us1 (upP (dps dn L R (i + 1))) ∧ PI K H' us2 (upP (ups up L R i)) ∧ srl.length + SR.length ≤ i + 1 ∧
        (up i = true → srl ++ (if fl dn up (i + 1) && en dn up n (i + 1) then SR else []) = snR dn up n R (i + 1))) (fun N qN => ?_) ?_
      · refine Dc.ifS (b := decide (i < m)) (fun Q q => ⟨_, rfl, _, rfl, ra, _, rfl, .inl (own.sm.seq hR), _, _, rfl, rfl, _, rfl, by rw [tlt]; exact q⟩) (fun him => ?_) (fun him => ?_)
        · have him := of_decide_eq_true him
          refine ⟨_, rfl, .inl ⟨rfl, _, SqL.of (own.get 5 rfl)⟩, _, rfl, _, rfl, ra, _, _, nV (R i), rfl, rfl, own.sm.seq hR, at_n (getn (gR i him)), sp, _, _, rfl, rfl, own.get 5 rfl, ?_, qN _ _ ⟨SR ++ [R i], rfl, ?_, p1.mutL (own.get 5 rfl), p2.mutL (own.get 5 rfl), by rw [List.length_append, List.length_singleton]; omega, e2⟩⟩
          · rw [List.length_map]
            exact szl (by omega)
          · rw [List.map_append]
            exact own.set 5 rfl
        · have him := of_decide_eq_false him
          exact qN _ _ ⟨SR, rfl, own, p1, p2, by omega, fun hu => absurd (hup i hu).2 him⟩
      rintro σ H4 ⟨SR, rfl, own, p1, p2, l2, e2⟩
      refine Dc.ifS (b := up i) ?_ (fun hu => ?_) (fun hu => ?_)
      · rw [iup]
        refine .and (fun Q q => ⟨_, rfl, _, _, rfl, rfl, _, rfl, la, _, rfl, .inl (own.sm.seq hL), _, _, rfl, rfl, _, rfl, by rw [tlt2]; exact q⟩) fun _ => .and (fun Q q => ⟨_, rfl, _, rfl, ra, _, rfl, .inl (own.sm.seq hR), _, _, rfl, rfl, _, rfl, by rw [tlt]; exact q⟩) (fun him => .or (fun Q q => ⟨_, rfl, _, rfl, q⟩) fun _ Q q => ⟨_, rfl, _, rfl, _, _, rfl, rfl, .inl ⟨by decide, by decide⟩, _, _, rfl, rfl, da, _, _, nV (ds.getD (5 * i + 1) 0), rfl, rfl, own.sm.seq hD, at_n (j := 5 * i + 1) (getn (gD _ (by omega))), _, _, rfl, rfl, _, rfl, by rw [tpos]; exact q⟩)
      · obtain ⟨hi1, him⟩ := hup i hu
        refine ⟨_, rfl, .inl ⟨rfl, _, SqL.of (own.get 1 rfl)⟩, _, rfl, _, rfl, _, _, rfl, rfl, la, _, _, nV (L (i + 1)), rfl, rfl, own.sm.seq hL, at_n (j := i + 1) (getn (gL _ hi1)), _, rfl, _, rfl, ra, _, _, nV (R i), rfl, rfl, own.sm.seq hR, at_n (getn (gR i him)), sp2, fun t nt => ?_⟩
        have st : Same H4 (upd H4 t (.tup [nV (L (i + 1)), nV (R i)])) := (Same.refl H4).new nt
        have et : (upd H4 t (.tup [nV (L (i + 1)), nV (R i)])) t = some (.tup [nV (L (i + 1)), nV (R i)]) := upd_same
        generalize upd H4 t (.tup [nV (L (i + 1)), nV (R i)]) = H5 at st et ⊢
        have p2l : us2.length = (ups up L R i).length := by rw [p2.len, upP_len]
        have own := own.same st
        have p1 := p1.same st
        have p2 := (p2.same st).snoc (SqT.of et)
        refine ⟨u, _, _, rfl, rfl, own.get 1 rfl, ?_, ⟨_, so, sp, us1, us2 ++ [.ref t], sll, srl, SL, SR, by rw [fe, hu, if_pos rfl], own.set 1 rfl, p1.mutL (own.get 1 rfl), ?_, l1, l2, e1 hu, e2 hu⟩⟩
        · rw [p2l]
          exact szl (by have := ups_len up L R i; omega)
        · rw [ups_more, hu, if_pos rfl, ← upP_app]
          exact p2.mutL (own.get 1 rfl)
      · obtain ⟨c1, c2⟩ := e3 hu
        refine ⟨Nat.zero_le _, fun so' nso => ⟨Nat.zero_le _, fun sp' nsp => ⟨_, so', sp', us1, us2, sll, srl, [], [], by rw [fe, hu, if_neg Bool.false_ne_true]; rfl, (own.new 4 nso).new 5 nsp, p1.same (((Same.refl H4).new nso).new nsp), ?_, ?_, ?_, ?_, ?_⟩⟩⟩
        · rw [ups_more, hu, if_neg Bool.false_ne_true, List.append_nil]
          exact p2.same (((Same.refl H4).new nso).new nsp)
        · show sll.length + 0 ≤ i + 1
          omega
        · show srl.length + 0 ≤ i + 1
          omega
        · rw [c1]
          simp
        · rw [c2]
          simp
    · rintro σ H1 ⟨v11, so, sp, us1, us2, sll, srl, SL, SR, rfl, own, p1, p2, l1, l2, eq1, eq2⟩
      rw [en_end, Bool.and_false, if_neg Bool.false_ne_true, List.append_nil] at eq1 eq2
      refine ⟨_, rfl, _, rfl, _, rfl, _, rfl, (by show 4 ≤ sizeLine; decide), fun r nr => ?_⟩
      have s2 : Same H1 (upd H1 r (.tup [.ref d, .ref u, .ref sl, .ref sr])) := (Same.refl H1).new nr
      refine q r d u sl sr us1 us2 _ hdn hup (own.sm.trans s2) upd_same (s2 _ _ (own.get 0 rfl)) (s2 _ _ (own.get 1 rfl)) (p1.same s2) (p2.same s2) ?_ ?_
      · rw [← eq1]
        exact s2 _ _ (own.get 2 rfl)
      · rw [← eq2]
        exact s2 _ _ (own.get 3 rfl)
end
end K26W

namespace K26W
open PySem PySem.Spec PyProof.Rows L2 KH KD KP K26
abbrev s_law_large : Stmt := topS 20
theorem sc_law_large : FnScope ["script", "shape", "count", "lefts", "rights", "sizes", "k", "drawn", "downs", "ups", "seen_lefts", "seen_rights", "more", "left", "pairs", "outside"] ["script"] (defScope s_law_large) := ⟨rfl, rfl, rfl, by decide +kernel, rfl, by decide +kernel, by decide +kernel⟩

theorem perm_at {os : List Nat} {n : Nat} (h : os.Perm (List.range n)) : os.length = n ∧ (∀ k, k < n → os.getD k 0 < n) ∧ (∀ i j, i < n → j < n → os.getD i 0 = os.getD j 0 → i = j) ∧ (∀ l, l < n → ∃ k, k < n ∧ os.getD k 0 = l) := by
  have hl : os.length = n := by rw [h.length_eq, List.length_range]
  have nd : os.Nodup := h.nodup_iff.mpr List.nodup_range
  refine ⟨hl, fun k hk => ?_, fun i j hi hj e => ?_, fun l hlt => ?_⟩
  · have := List.mem_of_getElem? (getD_at (v := os) (i := k) (by omega))
    exact List.mem_range.mp (h.mem_iff.mp this)
  · have a := getD_at (v := os) (i := i) (by omega)
    have b := getD_at (v := os) (i := j) (by omega)
    rw [e, ← b] at a
    exact (List.getElem?_inj (by omega) nd).mp a
  · obtain ⟨k, hk⟩ := List.mem_iff_getElem?.mp (h.mem_iff.mpr (List.mem_range.mpr hlt))
    have hk' := lt_get hk
    refine ⟨k, by omega, ?_⟩
    rw [getD_at hk'] at hk
    exact Option.some.inj hk
theorem rising_uniq : ∀ {l m : List Int}, l.Pairwise (· < ·) → m.Pairwise (· < ·) → (∀ x, x ∈ l ↔ x ∈ m) → l = m
  | [], [], _, _, _ => rfl
  | [], y :: m, _, _, h => absurd ((h y).mpr List.mem_cons_self) (by simp)
  | x :: l, [], _, _, h => absurd ((h x).mp List.mem_cons_self) (by simp)
  | x :: l, y :: m, hl, hm, h => by
    obtain ⟨l1, l2⟩ := List.pairwise_cons.mp hl
    obtain ⟨m1, m2⟩ := List.pairwise_cons.mp hm
    have e : x = y := by
      rcases List.mem_cons.mp ((h x).mp List.mem_cons_self) with e | hx
      · exact e
      · rcases List.mem_cons.mp ((h y).mpr List.mem_cons_self) with e | hy
        · exact e.symm
        · have := m1 x hx
          have := l1 y hy
          omega
    subst e
    refine congrArg _ (rising_uniq l2 m2 fun z => ⟨fun hz => ?_, fun hz => ?_⟩)
    · rcases List.mem_cons.mp ((h z).mp (List.mem_cons_of_mem _ hz)) with e | hz'
      · have := l1 z hz
        omega
      · exact hz'
    · rcases List.mem_cons.mp ((h z).mpr (List.mem_cons_of_mem _ hz)) with e | hz'
      · have := m1 z hz
        omega
      · exact hz'
theorem lot_lt (n : Nat) (p : Nat → Bool) : (lot n p).Pairwise (· < ·) := List.Pairwise.filter _ List.pairwise_lt_range
theorem sorted_cast {ns' : List Int} {l c : List Nat} (pm : ns'.Perm (castL l)) (pw : ns'.Pairwise (· ≤ ·)) (nd : l.Nodup) (_ : c.Nodup) (cp : c.Pairwise (· < ·)) (mem : ∀ x, x ∈ c ↔ x ∈ l) : ns' = castL c := by
  have ndi : (castL l).Nodup := by
    unfold castL
    rw [List.Nodup, List.pairwise_map]
    exact List.Pairwise.imp (fun h e => h (by omega)) nd
  have nd' : ns'.Nodup := pm.nodup_iff.mpr ndi
  refine rising_uniq ?_ ?_ fun x => ?_
  · have := List.pairwise_and_iff.mpr ⟨pw, nd'⟩
    exact List.Pairwise.imp (fun ⟨a, b⟩ => by omega) this
  · unfold castL
    rw [List.pairwise_map]
    exact List.Pairwise.imp (fun h => by omega) cp
  · rw [pm.mem_iff]
    unfold castL
    rw [List.mem_map, List.mem_map]
    exact ⟨fun ⟨a, h, e⟩ => ⟨a, (mem a).mpr h, e⟩, fun ⟨a, h, e⟩ => ⟨a, (mem a).mp h, e⟩⟩
def five (n : Nat) : List Nat := (List.replicate n [12, 12, 4, 40, 40]).flatten
theorem five_len (n : Nat) : (five n).length = 5 * n := by
  induction n with
  | zero => rfl
  | succ k ih =>
    unfold five at *
    rw [List.replicate_succ, List.flatten_cons, List.length_append, ih]
    show 5 + 5 * k = _
    omega
theorem five_succ (n : Nat) : five (n + 1) = five n ++ [12, 12, 4, 40, 40] := by
  unfold five
  rw [List.replicate_succ', List.flatten_append]
  rfl
theorem cat3 {σ : L2.St} {H : Hp} {Q : VK} {x y w : Addr} {ux uy uw : List V} {i j k : Nat} (hi : σ[i]? = some (some (.ref x))) (hj : σ[j]? = some (some (.ref y))) (hk : σ[k]? = some (some (.ref w))) (ex : H x = some (.lst ux)) (ey : H y = some (.lst uy)) (ew : H w = some (.lst uw)) (sz : ux.length + uy.length + uw.length ≤ 5000)
    (q : ∀ p H', Same H H' → H p = none → H' p = some (.lst (ux ++ uy ++ uw)) → Q (.ref p) H') : tOp rCat (tOp rCat (tVar i) (tVar j)) (tVar k) σ H Q := by
  refine ⟨_, hi, _, hj, x, y, _, _, rfl, rfl, ex, ey, szle (by omega), fun z nz => ⟨_, hk, z, w, ux ++ uy, uw, rfl, rfl, upd_same, ?_, szle (by rw [List.length_append]; omega), fun p np => ?_⟩⟩
  · rw [upd_ne (ne_of_none ew nz)]
    exact ew
  · have s1 : Same H (upd H z (.lst (ux ++ uy))) := (Same.refl H).new nz
    exact q p _ (s1.new np) (s1.free np) upd_same
section
variable {P : Program} {w : World} {K : PySem.W.Frag} {mg : Str → Option Value} {base : Heap} {CN CB CD CT CU fI : Addr}
def sp_large (K : PySem.W.Frag) : Sp := fun vs H Q _ => ∃ (a : Addr) (ns : List Int), vs = [.ref a] ∧ SqL K H a (ns.map V.int) ∧ ns.length ≤ 63 ∧
  ∀ t p us n m ps A sz y z r H', Same H H' → H' t = some (.tup [nV n, nV m, .ref p, .ref r]) → H' p = some (.lst us) → PI K H' us (upP ps) → In2 n m ps → n ≤ 40 → m ≤ 40 → ps.length ≤ 120 → DueAt K H' n m ps A sz y z r → Q (.ref t) H'
theorem ok_large {f f1 f2 f3 f4 : Addr} {fd fd1 fd2 fd3 fd4 : FuncData} (F : Fun K "_law_large" "_law_large" s_law_large f fd) (T : Txt mg) (C_law_draws : Cal P w K mg base 1 "_law_draws" ["cell", "sizes"] (sp_draws K) f1 fd1) (C_law_cell : Cal P w K mg base 1 "_law_cell" ["script", "k"] (sp_cell K) f2 fd2)
    (C_law_order : Cal P w K mg base 2 "_law_order" ["cell", "count", "kind"] sp_order f3 fd3) (C_law_line : Cal P w K mg base 1 "_law_line" ["lefts", "rights", "drawn", "whole"] (sp_line K) f4 fd4) : FnOk P w K mg base CX0 3 f fd ["script"] (sp_large K) := by
  refine F.ok sc_law_large (fun vs H Q E h => ?_) (fun cdv A outer s H vs Q E hr h => ?_)
  · obtain ⟨a, ns, rfl, _⟩ := h
    rfl
  · obtain ⟨a, ns, rfl, hS, hns, q⟩ := h
    refine ⟨_, (pss_cons (ps_set (i := 1) sc_law_large.nd rfl (.inl rfl) (pe_call C_law_draws.ok (hr.mono (by decide)) (by rfl) C_law_draws.mg C_law_draws.kp C_law_draws.b .nil pass0 (pa_cons (pe_call C_law_cell.ok (hr.mono (by decide)) (by rfl) C_law_cell.mg C_law_cell.kp C_law_cell.b .nil pass0 (pa_cons (pv 0) (pa_cons pe_int pa_nil))) (pa_cons (pe_lst (pa_cons pe_int (pa_cons pe_int (pa_cons pe_int (pa_cons pe_int (pa_cons pe_int (pa_cons pe_int pa_nil))))))) pa_nil))))
 (pss_cons (ps_set (i := 2) sc_law_large.nd rfl (.inl rfl) (pe_op op_add pe_int (pe_ix ix_list (pv 1) pe_int (fun _ _ => rfl))))
 (pss_cons (ps_set (i := 3) sc_law_large.nd rfl (.inl rfl) (pe_call C_law_order.ok (hr.mono (by decide)) (by rfl) C_law_order.mg C_law_order.kp C_law_order.b .nil pass0 (pa_cons (pe_call C_law_cell.ok (hr.mono (by decide)) (by rfl) C_law_cell.mg C_law_cell.kp C_law_cell.b .nil pass0 (pa_cons (pv 0) (pa_cons pe_int pa_nil))) (pa_cons (pv 2) (pa_cons (pe_ix ix_list (pv 1) pe_int (fun _ _ => rfl)) pa_nil)))))
 (pss_cons (ps_set (i := 4) sc_law_large.nd rfl (.inl rfl) (pe_call C_law_order.ok (hr.mono (by decide)) (by rfl) C_law_order.mg C_law_order.kp C_law_order.b .nil pass0 (pa_cons (pe_call C_law_cell.ok (hr.mono (by decide)) (by rfl) C_law_cell.mg C_law_cell.kp C_law_cell.b .nil pass0 (pa_cons (pv 0) (pa_cons pe_int pa_nil))) (pa_cons (pe_op op_sub (pv 2) (pe_ix ix_list (pv 1) pe_int (fun _ _ => rfl))) (pa_cons (pe_ix ix_list (pv 1) pe_int (fun _ _ => rfl)) pa_nil)))))
 (pss_cons (ps_set (i := 5) sc_law_large.nd rfl (.inl rfl) (pe_lst pa_nil))
 (pss_cons (ps_for PassesOwn.never rfl (pi_range1 rfl T.range (pa_cons (pv 2) pa_nil)) (pg_name (i := 6) sc_law_large.nd rfl (.inl rfl))
 (pss_one (ps_expr (pe_bm PySem.F.plainAttrs_list PySem.F.slot_list_extend PySem.F.type_list_extend mt_extend (pv 5) (pa_cons (pe_lst (pa_cons pe_int (pa_cons pe_int (pa_cons pe_int (pa_cons pe_int (pa_cons pe_int pa_nil)))))) pa_nil)))))
 (pss_cons (ps_set (i := 7) sc_law_large.nd rfl (.inl rfl) (pe_call C_law_draws.ok (hr.mono (by decide)) (by rfl) C_law_draws.mg C_law_draws.kp C_law_draws.b .nil pass0 (pa_cons (pe_call C_law_cell.ok (hr.mono (by decide)) (by rfl) C_law_cell.mg C_law_cell.kp C_law_cell.b .nil pass0 (pa_cons (pv 0) (pa_cons pe_int pa_nil))) (pa_cons (pv 5) pa_nil))))
 (pss_cons (ps_asg (pe_call C_law_line.ok (hr.mono (by decide)) (by rfl) C_law_line.mg C_law_line.kp C_law_line.b .nil pass0 (pa_cons (pv 3) (pa_cons (pv 4) (pa_cons (pv 7) (pa_cons (pe_cmpR op_eq (pe_ix ix_list (pv 1) pe_int (fun _ _ => rfl)) pe_int (nomark _)) pa_nil))))) (pg_tup rfl (pgs_cons (pg_name (i := 8) sc_law_large.nd rfl (.inl rfl)) (pgs_cons (pg_name (i := 9) sc_law_large.nd rfl (.inl rfl)) (pgs_cons (pg_name (i := 10) sc_law_large.nd rfl (.inr rfl)) (pgs_cons (pg_name (i := 11) sc_law_large.nd rfl (.inl rfl)) pgs_nil))))))
 (pss_cons (ps_set (i := 12) sc_law_large.nd rfl (.inl rfl) (pe_lst pa_nil))
 (pss_cons (ps_for PassesOwn.never rfl (pi_range1 rfl T.range (pa_cons (pv 2) pa_nil)) (pg_name (i := 6) sc_law_large.nd rfl (.inl rfl))
 (pss_cons (ps_set (i := 13) sc_law_large.nd rfl (.inl rfl) (pe_op op_modN (pe_callTy call_int1 (by rfl) T.int (by decide +kernel) (pa_cons (pe_ix ix_list (pv 7) (pe_op op_add (pe_op op_mul pe_int (pv 6)) pe_int) (fun _ _ => rfl)) pa_nil)) (pv 2)))
 (pss_one (ps_if (PW.pt (pw_and (pt_cmpR op_eq (pe_ix ix_list (pv 7) (pe_op op_add (pe_op op_mul pe_int (pv 6)) pe_int) (fun _ _ => rfl)) pe_int (nomark _)) (pw_and (pt_cmpR op_gt (pe_callB call_len_seq (by rfl) T.len (by decide +kernel) (pa_cons (pv 11) pa_nil)) pe_int (nomark _)) (pw_and1 (pt_cmpR op_notIn_seq (pv 13) (pv 10) (by rfl))))))
 (pss_one (ps_expr (pe_bm PySem.F.plainAttrs_list PySem.F.slot_list_append PySem.F.type_list_append mt_append (pv 12) (pa_cons (pe_tup (pa_cons (pv 13) (pa_cons (pe_ix ix_list (pv 11) (pe_op op_modN (pe_callTy call_int1 (by rfl) T.int (by decide +kernel) (pa_cons (pe_ix ix_list (pv 7) (pe_op op_add (pe_op op_mul pe_int (pv 6)) pe_int) (fun _ _ => rfl)) pa_nil)) (pe_callB call_len_seq (by rfl) T.len (by decide +kernel) (pa_cons (pv 11) pa_nil))) (fun _ _ => rfl)) pa_nil))) pa_nil))))
 pss_nil))))
 (pss_cons (ps_set (i := 14) sc_law_large.nd rfl (.inl rfl) (pe_op op_cat (pe_op op_cat (pv 8) (pv 9)) (pv 12)))
 (pss_cons (ps_if (pt_cmpR op_eq (pe_ix ix_list (pv 1) pe_int (fun _ _ => rfl)) pe_int (nomark _))
 (pss_one (ps_set (i := 14) sc_law_large.nd rfl (.inl rfl) (pe_op op_cat (pe_op op_cat (pv 9) (pv 12)) (pv 8))))
 pss_nil)
 (pss_cons (ps_if (pt_cmpR op_eq (pe_ix ix_list (pv 1) pe_int (fun _ _ => rfl)) pe_int (nomark _))
 (pss_one (ps_set (i := 14) sc_law_large.nd rfl (.inl rfl) (pe_lstRev rfl rfl T.list rfl T.reversed (pe_op op_cat (pe_op op_cat (pv 12) (pv 9)) (pv 8)))))
 pss_nil)
 (pss_cons (ps_setLc (i := 15) (own := [("left", 13)]) (g := gName 13) rfl sc_law_large.nd rfl rfl (sw_true rfl rfl rfl (by decide +kernel)) (pi_range1 rfl T.range (pa_cons (pv 2) pa_nil)) (blkOk_by (N := ["script", "shape", "count", "lefts", "rights", "sizes", "k", "drawn", "downs", "ups", "seen_lefts", "seen_rights", "more", "left", "pairs", "outside"]) (sc := defScope s_law_large) (by decide +kernel)) (fun _ _ _ _ _ => (pg_name (i := 13) sc_law_large.nd rfl (.inl rfl))) (fun _ _ _ _ _ => pts_one (pt_cmpR (r := rIn K true) op_notIn_seq (pv 13) (pv 10) (by rfl))) (fun _ _ _ _ _ => (pv 13)))
 (pss_one (ps_ret (pe_tup (pa_cons (pv 2) (pa_cons (pe_callB call_len_seq (by rfl) T.len (by decide +kernel) (pa_cons (pv 4) pa_nil)) (pa_cons (pv 14) (pa_cons (pe_tup (pa_cons (pe_op op_add (pe_callB call_len_seq (by rfl) T.len (by decide +kernel) (pa_cons (pv 15) pa_nil)) (pe_callB call_len_seq (by rfl) T.len (by decide +kernel) (pa_cons (pv 11) pa_nil))) (pa_cons (pv 15) (pa_cons (pe_callB cr_sortedI (by rfl) T.sorted (by decide +kernel) (pa_cons (pv 11) pa_nil)) pa_nil)))) pa_nil))))))))))))))))))))), ?_⟩
    refine asgN ⟨_, rfl, a, ns, 1, rfl, hS, hns, by decide, fun c0 H0 s0 => ⟨(by show 6 ≤ sizeLine; decide), fun z0 nz0 => ⟨z0, c0, [29, 2, 4, 4, 3, 3], rfl, SqL.of upd_same, by decide, by decide, fun dp ds H2 s2 ndp edp dr σ' e => ?_⟩⟩⟩
    obtain rfl : σ' = [some (.ref a), some (.ref dp), none, none, none, none, none, none, none, none, none, none, none, none, none, none] := e.symm
    clear e
    obtain ⟨z0', z1, z2, z3, z4, z5, rfl, b0, b1, b2, b3, b4, b5⟩ : ∃ z0 z1 z2 z3 z4 z5, ds = [z0, z1, z2, z3, z4, z5] ∧ z0 < 29 ∧ z1 < 2 ∧ z2 < 4 ∧ z3 < 4 ∧ z4 < 3 ∧ z5 < 3 := by
      cases dr with | cons h0 dr => cases dr with | cons h1 dr => cases dr with | cons h2 dr => cases dr with | cons h3 dr => cases dr with | cons h4 dr => cases dr with | cons h5 dr => cases dr with | nil => exact ⟨_, _, _, _, _, _, rfl, h0, h1, h2, h3, h4, h5⟩
    have t2 : Same H H2 := (s0.new nz0).trans s2
    have hG : SqL K H2 dp ([z0', z1, z2, z3, z4, z5].map nV) := SqL.of edp
    -- count
    refine asgN ⟨_, rfl, dp, _, 0, nV z0', rfl, rfl, hG, at_n (j := 0) rfl, _, _, rfl, rfl, fun σ' e => ?_⟩
    dsimp only at e
    obtain ⟨n, en_⟩ : ∃ n, 12 + z0' = n := ⟨_, rfl⟩
    rw [show V.int (12 + (z0' : Int)) = nV n by rw [← en_]; show V.int _ = V.int _; congr 1] at e
    obtain rfl : σ' = [some (.ref a), some (.ref dp), some (nV n), none, none, none, none, none, none, none, none, none, none, none, none, none] := e.symm
    clear e
    -- the two orders
    refine asgN ⟨_, rfl, a, ns, 2, rfl, t2.seq hS, hns, by decide, fun c1 H3 s3 => ⟨_, rfl, _, rfl, dp, _, 2, nV z2, rfl, rfl, s3.seq hG, at_n (j := 2) rfl, c1, n, z2, rfl, by omega, fun la ls H4 s4 nla ela pl σ' e => ?_⟩⟩
    obtain rfl : σ' = [some (.ref a), some (.ref dp), some (nV n), some (.ref la), none, none, none, none, none, none, none, none, none, none, none, none] := e.symm
    clear e
    have s24 := s3.trans s4
    obtain ⟨m, em_⟩ : ∃ m, n - z1 = m := ⟨_, rfl⟩
    refine asgN ⟨_, rfl, a, ns, 3, rfl, (t2.trans s24).seq hS, hns, by decide, fun c2 H5 s5 => ⟨_, rfl, _, rfl, dp, _, 1, nV z1, rfl, rfl, (s24.trans s5).seq hG, at_n (j := 1) rfl, _, _, rfl, rfl, _, rfl, dp, _, 3, nV z3, rfl, rfl, (s24.trans s5).seq hG, at_n (j := 3) rfl, c2, m, z3, (by show _ = [V.int c2, V.int (m : Int), nV z3]; rw [← em_, Int.ofNat_sub (by omega)]; rfl), by omega, fun ra rs H6 s6 nra era pr σ' e => ?_⟩⟩
    obtain rfl : σ' = [some (.ref a), some (.ref dp), some (nV n), some (.ref la), some (.ref ra), none, none, none, none, none, none, none, none, none, none, none] := e.symm
    clear e
    have s46 := s5.trans s6
    have s26 := s24.trans s46
    have t6 := t2.trans s26
    have hL := SqL.of (K := K) (s46 _ _ ela)
    have hR := SqL.of (K := K) era
    have hG6 := s26.seq hG
    -- sizes
    refine asgN ⟨Nat.zero_le _, fun z nz σ' e => ?_⟩
    obtain rfl : σ' = [some (.ref a), some (.ref dp), some (nV n), some (.ref la), some (.ref ra), some (.ref z), none, none, none, none, none, none, none, none, none, none] := e.symm
    clear e
    refine ⟨_, rfl, _, rfl, (by omega), (by omega), ?_⟩
    rw [show ((n : Nat) : Int).toNat = n by omega]
    refine for_range (lo := 0) (n := n) (fun i σ H' => ∃ (v6 : Option V), σ = [some (.ref a), some (.ref dp), some (nV n), some (.ref la), some (.ref ra), some (.ref z), v6, none, none, none, none, none, none, none, none, none] ∧ Same H6 H' ∧ H' z = some (.lst ((five i).map nV)))
      ⟨_, rfl, (Same.refl H6).new nz, upd_same⟩ ?_ ?_
    · rintro i σ H' hi ⟨v6, rfl, sm, e⟩
      refine ⟨_, rfl, .inl ⟨rfl, _, SqL.of e⟩, (by show 5 ≤ sizeLine; decide), fun t nt => ?_⟩
      have ezt : z ≠ t := ne_of_none e nt
      refine ⟨z, t, _, _, rfl, rfl, (by rw [upd_ne ezt]; exact e), upd_same, ?_, ?_⟩
      · rw [List.length_map, five_len]
        exact szle (by show 5 * i + 5 ≤ 10000; omega)
      · refine ⟨_, rfl, (sm.new nt).mut nz, ?_⟩
        rw [upd_same, five_succ, List.map_append]
        rfl
    rintro σ H7 ⟨v6, rfl, s7, ez⟩
    have t7 := t6.trans s7
    refine nextS (asgN ⟨_, rfl, a, ns, 4, rfl, t7.seq hS, hns, by decide, fun c3 H8 s8 => ⟨_, rfl, z, c3, five n, rfl, SqL.of (s8 _ _ ez), (by rw [five_len]; omega), ?_, fun dq ds H9 s9 ndq edq dr σ' e => ?_⟩⟩)
    · intro y hy
      obtain ⟨l, hl, hy⟩ := List.mem_flatten.mp hy
      rw [List.eq_of_mem_replicate hl] at hy
      simp only [List.mem_cons, List.not_mem_nil, or_false] at hy
      rcases hy with rfl | rfl | rfl | rfl | rfl <;> omega
    obtain rfl : σ' = [some (.ref a), some (.ref dp), some (nV n), some (.ref la), some (.ref ra), some (.ref z), v6, some (.ref dq), none, none, none, none, none, none, none, none] := e.symm
    clear e
    have s79 := s8.trans s9
    have s69 := s7.trans s79
    have t9 := t6.trans s69
    obtain ⟨ll, Ln_, Li, Ls⟩ := perm_at pl
    obtain ⟨rl, Rn_, Ri, Rs⟩ := perm_at pr
    have dl : ds.length = 5 * n := by rw [P_len dr, five_len]
    -- the line
    refine ⟨_, rfl, _, rfl, _, rfl, _, rfl, dp, _, 4, nV z4, rfl, rfl, s69.seq hG6, at_n (j := 4) rfl, rfl, la, ra, dq, decide (nV z4 = V.int 0), ls, rs, ds, rfl, s69.seq hL, s69.seq hR, SqL.of edq, by omega, by omega, fun dn up r d u sl sr us1 us2 H10 hdn hup s10 er ed eu p1 p2 esl esr => ?_⟩
    rw [ll] at hdn hup p1 p2 esl esr
    rw [rl] at hdn hup
    generalize eL : (fun k => ls.getD k 0) = L at p1 p2 esl
    generalize eR : (fun k => rs.getD k 0) = R at p1 p2 esr
    have gD : ∀ k, k < 5 * n → ds[k]? = some (ds.getD k 0) := fun k hk => getD_at (by omega)
    have hdd : ∀ k, dn k = true → k < n ∧ k < m := hdn
    have n0 : 0 < n := by omega
    have n40 : n ≤ 40 := by omega
    have m40 : m ≤ 40 := by omega
    have edq10 := s10 _ _ edq
    have hsl : (snL dn up n L n).length ≤ n := fil_len (sn dn up n) L n
    have hsr : (snR dn up n R n).length ≤ n := fil_len (fun j => sn dn up n j && dn j) R n
    refine ⟨r, _, rfl, SqT.of er, rfl, _, _, rfl, _, _, rfl, _, _, rfl, _, _, rfl, rfl, nextS (asgN ⟨Nat.zero_le _, fun mo nmo σ' e => ?_⟩)⟩
    obtain rfl : σ' = [some (.ref a), some (.ref dp), some (nV n), some (.ref la), some (.ref ra), some (.ref z), v6, some (.ref dq), some (.ref d), some (.ref u), some (.ref sl), some (.ref sr), some (.ref mo), none, none, none] := e.symm
    clear e
    have s11 : Same H10 (upd H10 mo (.lst [])) := (Same.refl H10).new nmo
    refine ⟨_, rfl, _, rfl, (by omega), (by omega), ?_⟩
    rw [show ((n : Nat) : Int).toNat = n by omega]
    refine for_range (lo := 0) (n := n) (fun i σ H' => ∃ (v6 v13 : Option V) (us3 : List V) (ps3 : K02.PL), σ = [some (.ref a), some (.ref dp), some (nV n), some (.ref la), some (.ref ra), some (.ref z), v6, some (.ref dq), some (.ref d), some (.ref u), some (.ref sl), some (.ref sr), some (.ref mo), v13, none, none] ∧ Same H10 H' ∧ H' mo = some (.lst us3) ∧ PI K H' us3 (upP ps3) ∧ ps3.length ≤ i ∧ ∀ l r, (l, r) ∈ ps3 → l < n ∧ l ∉ snL dn up n L n ∧ r ∈ snR dn up n R n)
        ⟨v6, none, [], [], rfl, s11, upd_same, .nil, Nat.zero_le _, fun _ _ h => (by cases h)⟩ ?_ ?_
    · rintro i σ H11 hi ⟨v6, v13, us3, ps3, rfl, s12, emo, p3, l3, w3⟩
      rw [show (0 : Int) + (i : Int) = (i : Int) by omega]
      obtain ⟨x, ex, hx⟩ := fmod_nat ((ds.getD (5 * i + 3) 0 : Nat) : Int) n0
      have hD := SqL.of (K := K) (s12 _ _ edq10)
      have esl1 := s12 _ _ esl
      have esr1 := s12 _ _ esr
      refine asgN ⟨_, rfl, _, rfl, _, _, rfl, rfl, .inl ⟨by decide, by decide⟩, _, _, rfl, rfl, dq, _, _, nV (ds.getD (5 * i + 3) 0), rfl, rfl, hD, at_n (j := 5 * i + 3) (getn (gD _ (by omega))), .inl ⟨_, rfl, _, rfl, _, _, rfl, rfl, (by omega), fun σ' e => ?_⟩⟩
      dsimp only at e
      rw [ex] at e
      obtain rfl : σ' = [some (.ref a), some (.ref dp), some (nV n), some (.ref la), some (.ref ra), some (.ref z), some (nV i), some (.ref dq), some (.ref d), some (.ref u), some (.ref sl), some (.ref sr), some (.ref mo), some (nV x), none, none] := e.symm
      clear e
      refine Dc.ifS (b := decide (ds.getD (5 * i + 2) 0 = 1) && (decide (0 < (snR dn up n R n).length) && !(snL dn up n L n).contains x)) ?_ (fun hb => ?_) (fun _ => ⟨_, _, us3, ps3, rfl, s12, emo, p3, by omega, w3⟩)
      · refine .and (fun Q q => ⟨_, rfl, _, rfl, _, _, rfl, rfl, .inl ⟨by decide, by decide⟩, _, _, rfl, rfl, dq, _, _, nV (ds.getD (5 * i + 2) 0), rfl, rfl, hD, at_n (j := 5 * i + 2) (getn (gD _ (by omega))), rfl, _, rfl, ?_⟩) fun _ => .and (fun Q q => ⟨_, rfl, sr, _, rfl, .inl (SqL.of esr1), _, _, rfl, rfl, _, rfl, ?_⟩) fun _ Q q => ⟨_, rfl, _, rfl, sl, _, rfl, .inl (SqL.of esl1), rfl, flat_n _, _, rfl, ?_⟩
        · rw [show decide (nV (ds.getD (5 * i + 2) 0) = V.int 1) = decide (ds.getD (5 * i + 2) 0 = 1) from decide_eq_decide.mpr ⟨fun z => by have := V.int.inj z; omega, fun z => by rw [z]; rfl⟩]
          exact q
        · rw [List.length_map, tpos]
          exact q
        · rw [in_n]
          exact q
      rw [Bool.and_eq_true, Bool.and_eq_true] at hb
      obtain ⟨_, hb1, hb2⟩ := hb
      have sr0 := of_decide_eq_true hb1
      have off : x ∉ snL dn up n L n := by simpa using hb2
      obtain ⟨y, ey, hy⟩ := fmod_nat ((ds.getD (5 * i + 4) 0 : Nat) : Int) sr0
      obtain ⟨rr, hrr⟩ := get_lt hy
      refine ⟨_, rfl, .inl ⟨rfl, _, SqL.of emo⟩, _, rfl, _, rfl, _, rfl, _, rfl, _, _, rfl, rfl, .inl ⟨by decide, by decide⟩, _, _, rfl, rfl, dq, _, _, nV (ds.getD (5 * i + 4) 0), rfl, rfl, hD, at_n (j := 5 * i + 4) (getn (gD _ (by omega))), .inl ⟨_, rfl, _, rfl, sr, _, rfl, .inl (SqL.of esr1), _, _, rfl, rfl, (by rw [List.length_map]; omega), ?_⟩⟩
      dsimp only
      rw [List.length_map, ey]
      refine ⟨sr, _, _, nV rr, rfl, rfl, SqL.of esr1, at_n (getn hrr), sp2, fun t nt => ?_⟩
      have st : Same H11 (upd H11 t (.tup [nV x, nV rr])) := (Same.refl H11).new nt
      have et : (upd H11 t (.tup [nV x, nV rr])) t = some (.tup [nV x, nV rr]) := upd_same
      generalize upd H11 t (.tup [nV x, nV rr]) = H12 at st et ⊢
      have p3l : us3.length = ps3.length := by rw [p3.len, upP_len]
      have p3 := (p3.same st).snoc (SqT.of et)
      refine ⟨mo, _, _, rfl, rfl, st _ _ emo, ?_, _, _, us3 ++ [.ref t], ps3 ++ [(x, rr)], rfl, (s12.trans st).mut nmo, upd_same, ?_, by rw [List.length_append, List.length_singleton]; omega, fun l' r' h => ?_⟩
      · rw [p3l]
        exact szl (by omega)
      · rw [← upP_app]
        exact p3.mutL (st _ _ emo)
      · rcases List.mem_append.mp h with h | h
        · exact w3 l' r' h
        · cases List.mem_singleton.mp h
          exact ⟨hx, off, List.mem_of_getElem? hrr⟩
    rintro σ H11 ⟨v6, v13, us3, ps3, rfl, s12, emo, p3, l3, w3⟩
    have p1 := p1.same s12
    have p2 := p2.same s12
    have ed := s12 _ _ ed
    have eu := s12 _ _ eu
    have esl := s12 _ _ esl
    have esr := s12 _ _ esr
    have t11 := (t9.trans s10).trans s12
    have hG11 := ((s69.trans s10).trans s12).seq hG6
    have hR11 := ((s69.trans s10).trans s12).seq hR
    have dL := dps_len dn L R n
    have uL := ups_len up L R n
    have k1 : us1.length ≤ n := by rw [p1.len, upP_len]; exact dL
    have k2 : us2.length ≤ n := by rw [p2.len, upP_len]; exact uL
    have k3 : us3.length ≤ n := by rw [p3.len, upP_len]; exact l3
    -- pairs
    let Pst : V → Hp → Prop := fun v H' => ∃ (p : Addr) (us : List V) (ps : K02.PL), v = .ref p ∧ Same H11 H' ∧ H' p = some (.lst us) ∧ PI K H' us (upP ps) ∧ (∀ q, q ∈ ps ↔ q ∈ dps dn L R n ∨ q ∈ ups up L R n ∨ q ∈ ps3) ∧ ps.length ≤ 120
    have ini : Pst = fun v H' => ∃ (p : Addr) (us : List V) (ps : K02.PL), v = .ref p ∧ Same H11 H' ∧ H' p = some (.lst us) ∧ PI K H' us (upP ps) ∧ (∀ q, q ∈ ps ↔ q ∈ dps dn L R n ∨ q ∈ ups up L R n ∨ q ∈ ps3) ∧ ps.length ≤ 120 := rfl
    clear_value Pst
    refine nextS (asgN (cat3 (x := d) (y := u) (w := mo) rfl rfl rfl ed eu emo (by omega) fun p H12 s13 np ep σ' e => ?_))
    obtain rfl : σ' = [some (.ref a), some (.ref dp), some (nV n), some (.ref la), some (.ref ra), some (.ref z), v6, some (.ref dq), some (.ref d), some (.ref u), some (.ref sl), some (.ref sr), some (.ref mo), v13, some (.ref p), none] := e.symm
    clear e
    refine ifsetQ (i1 := 14) Pst (fun Q q => ⟨_, rfl, dp, _, 5, nV z5, rfl, rfl, s13.seq hG11, at_n (j := 5) rfl, rfl, _, rfl, q _⟩) rfl (by
      rw [ini]
      refine ⟨p, _, dps dn L R n ++ ups up L R n ++ ps3, rfl, s13, ep, ?_, fun q => ?_, ?_⟩
      · rw [← upP_app, ← upP_app]
        exact P_append (P_append (p1.same s13) (p2.same s13)) (p3.same s13)
      · rw [List.mem_append, List.mem_append, or_assoc]
      · rw [List.length_append, List.length_append]
        omega) (fun Q q => cat3 (x := u) (y := mo) (w := d) rfl rfl rfl (s13 _ _ eu) (s13 _ _ emo) (s13 _ _ ed) (by omega) fun p H12' s13' np ep => q _ _ (by
      rw [ini]
      have sx := s13.trans s13'
      refine ⟨p, _, ups up L R n ++ ps3 ++ dps dn L R n, rfl, sx, ep, ?_, fun q => ?_, ?_⟩
      · rw [← upP_app, ← upP_app]
        exact P_append (P_append (p2.same sx) (p3.same sx)) (p1.same sx)
      · rw [List.mem_append, List.mem_append, or_assoc]
        constructor <;> intro h <;> rcases h with h | h | h <;> simp [h]
      · rw [List.length_append, List.length_append]
        omega)) (fun v14 H13 hv => ?_)
    rw [ini] at hv
    obtain ⟨p', us', ps', rfl, s14, ep', pp', mm', ll'⟩ := hv
    refine ifsetQ (i1 := 14) Pst (fun Q q => ⟨_, rfl, dp, _, 5, nV z5, rfl, rfl, s14.seq hG11, at_n (j := 5) rfl, rfl, _, rfl, q _⟩) rfl (by
      rw [ini]
      exact ⟨p', us', ps', rfl, s14, ep', pp', mm', ll'⟩) (fun Q q => cat3 (x := mo) (y := u) (w := d) rfl rfl rfl (s14 _ _ emo) (s14 _ _ eu) (s14 _ _ ed) (by omega) fun p H12' s13' np ep => ⟨p, _, rfl, SqL.of ep, fun p2' np2 => q _ _ (by
      rw [ini]
      have sx := (s14.trans s13').new (o := .lst (us3 ++ us2 ++ us1).reverse) np2
      refine ⟨p2', _, (ps3 ++ ups up L R n ++ dps dn L R n).reverse, rfl, sx, upd_same, ?_, fun q => ?_, ?_⟩
      · rw [← upP_rev, ← upP_app, ← upP_app]
        exact PI.rev (P_append (P_append (p3.same sx) (p2.same sx)) (p1.same sx))
      · rw [List.mem_reverse, List.mem_append, List.mem_append, or_assoc]
        constructor <;> intro h <;> rcases h with h | h | h <;> simp [h]
      · rw [List.length_reverse, List.length_append, List.length_append]
        omega)⟩) (fun v14 H14 hv => ?_)
    rw [ini] at hv
    obtain ⟨p'', us, ps, rfl, s15, ep'', pp, mm, lp⟩ := hv
    -- the line's word
    have ln : Ln n m L R dn up ps3 ps := by
      refine ⟨fun k hk => by rw [← eL]; exact Ln_ k hk, fun i j hi hj e => by rw [← eL] at e; exact Li i j hi hj e, fun l hl => by rw [← eL]; exact Ls l hl, fun k hk => by rw [← eR]; exact Rn_ k hk, fun i j hi hj e => by rw [← eR] at e; exact Ri i j hi hj e, hdn, hup, fun l r => ?_, w3⟩
      rw [mm]
      refine or_congr ?_ (or_congr ?_ Iff.rfl)
      · unfold dps
        rw [List.mem_map]
        constructor
        · rintro ⟨j, hj, e⟩
          cases e
          exact ⟨j, (List.mem_filter.mp hj).2, rfl, rfl⟩
        · rintro ⟨j, hj, rfl, rfl⟩
          exact ⟨j, List.mem_filter.mpr ⟨List.mem_range.mpr (hdn j hj).1, hj⟩, rfl⟩
      · unfold ups
        rw [List.mem_map]
        constructor
        · rintro ⟨j, hj, e⟩
          cases e
          exact ⟨j, (List.mem_filter.mp hj).2, rfl, rfl⟩
        · rintro ⟨j, hj, rfl, rfl⟩
          exact ⟨j, List.mem_filter.mpr ⟨List.mem_range.mpr (by have := (hup j hj).1; omega), hj⟩, rfl⟩
    have esl := s15 _ _ esl
    have esr := s15 _ _ esr
    obtain ⟨Z, eZ⟩ : ∃ Z : Nat → Bool, Z = fun l => (snL dn up n L n).contains l := ⟨_, rfl⟩
    have zl : Zl n ps (lms dn up n L R) Z := by rw [eZ]; exact ln.zl
    -- outside
    refine ⟨_, rfl, _, rfl, (by omega), (by omega), ?_⟩
    rw [show ((n : Nat) : Int).toNat = n by omega]
    refine fun o no => ?_
    refine lc_range (lo := 0) (n := n) (fun i H' => Same H14 H' ∧ H' o = some (.lst ((lot i fun l => !Z l).map nV))) ⟨(Same.refl H14).new no, upd_same⟩ ?_ ?_
    · rintro j H15 hj ⟨s16, eD⟩
      rw [show (0 : Int) + (j : Int) = (j : Int) by omega]
      have hsz := lot_le_len j (fun l => !Z l)
      have hA : (snL dn up n L n).contains j = Z j := by rw [eZ]
      refine ⟨rfl, _, rfl, _, rfl, sl, _, rfl, .inl (SqL.of (s16 _ _ esl)), rfl, flat_n _, _, rfl, ?_⟩
      rw [in_n, hA, lot_more]
      cases ca : Z j with
      | true => exact iteF ⟨s16, by rw [eD]; simp [ca]⟩
      | false =>
        refine iteT ⟨_, rfl, _, eD, ?_, s16.mut no, ?_⟩
        · rw [List.length_map]
          exact szl (by omega)
        · rw [upd_same]
          simp [ca]
    rintro H15 ⟨s16, eo⟩
    have s1116 := s15.trans s16
    have hRf := s1116.seq hR11
    have esr := s16 _ _ esr
    refine ⟨_, rfl, _, rfl, ra, _, rfl, .inl hRf, _, rfl, _, rfl, o, _, rfl, .inl (SqL.of eo), _, rfl, sr, _, rfl, .inl (SqL.of esr), _, _, rfl, rfl, _, rfl, _, rfl, sr, castL (snR dn up n R n), rfl, SqL.of (by rw [castL_V]; exact esr), fun ns' y pm pw ny => ⟨(by show 3 ≤ sizeLine; decide), ?_⟩⟩
    have cvm : ∀ x, x ∈ cvR m ps Z ↔ x ∈ snR dn up n R n := fun x => by
      rw [eZ]
      exact ln.mem_nb x
    have ens : ns' = castL (cvR m ps Z) := sorted_cast pm pw ln.snR_nd (lot_nd _ _) (lot_lt _ _) cvm
    have clen : (cvR m ps Z).length = (snR dn up n R n).length := by
      have := pm.length_eq
      rw [ens] at this
      unfold castL at this
      rwa [List.length_map, List.length_map] at this
    rw [ens, castL_V, List.length_map, List.length_map, List.length_map, rl]
    have sy : Same H15 (upd H15 y (.lst ((cvR m ps Z).map nV))) := (Same.refl H15).new ny
    have ey : (upd H15 y (.lst ((cvR m ps Z).map nV))) y = some (.lst ((cvR m ps Z).map nV)) := upd_same
    generalize upd H15 y (.lst ((cvR m ps Z).map nV)) = H16 at sy ey ⊢
    intro t1 nt1
    have st1 : Same H16 (upd H16 t1 (.tup [nV ((lot n fun l => !Z l).length + (snR dn up n R n).length), .ref o, .ref y])) := (Same.refl H16).new nt1
    have et1 : (upd H16 t1 (.tup [nV ((lot n fun l => !Z l).length + (snR dn up n R n).length), .ref o, .ref y])) t1 = some (.tup [nV ((lot n fun l => !Z l).length + (snR dn up n R n).length), .ref o, .ref y]) := upd_same
    refine ⟨(by show 4 ≤ sizeLine; decide), fun t2 nt2 => ?_⟩
    have e3 : (HO.tup [(fun i j => V.int (i + j)) (((lot n fun l => !Z l).length : Nat) : Int) (((snR dn up n R n).length : Nat) : Int), V.ref o, V.ref y]) = .tup [nV ((lot n fun l => !Z l).length + (snR dn up n R n).length), .ref o, .ref y] := rfl
    rw [e3] at nt2 ⊢
    generalize upd H16 t1 (.tup [nV ((lot n fun l => !Z l).length + (snR dn up n R n).length), .ref o, .ref y]) = H17 at st1 et1 nt2 ⊢
    have st2 : Same H17 (upd H17 t2 (.tup [nV n, nV m, .ref p'', .ref t1])) := (Same.refl H17).new nt2
    have f1 := (s16.trans sy).trans (st1.trans st2)
    have f2 := sy.trans (st1.trans st2)
    refine q t2 p'' us n m ps Z _ o y t1 _ ((t11.trans s15).trans f1) upd_same (f1 _ _ ep'') (pp.same f1) ln.in2 n40 m40 lp ⟨st2 _ _ et1, SqL.of (f2 _ _ eo), SqL.of ((st1.trans st2) _ _ ey), ?_, fun Z' z' => z'.uniq (zl.zed ln.in2 ln.mat)⟩
    have := lot_two n Z
    omega
end
end K26W

namespace K26W
open PySem PySem.Spec PyProof.Rows L2 KH KD KP K26
abbrev s_law_same : Stmt := topS 24
theorem sc_law_same : FnScope ["told", "due", "k"] ["told", "due"] (defScope s_law_same) := ⟨rfl, rfl, rfl, by decide +kernel, rfl, by decide +kernel, by decide +kernel⟩

abbrev s_law_is_matching : Stmt := topS 25
theorem sc_law_is_matching : FnScope ["told", "pairs", "size", "rights", "before", "pair"] ["told", "pairs", "size"] (defScope s_law_is_matching) := ⟨rfl, rfl, rfl, by decide +kernel, rfl, by decide +kernel, by decide +kernel⟩

abbrev s_law_right : Stmt := topS 26
theorem sc_law_right : FnScope ["told", "pairs", "due"] ["told", "pairs", "due"] (defScope s_law_right) := ⟨rfl, rfl, rfl, by decide +kernel, rfl, by decide +kernel, by decide +kernel⟩

section
variable {P : Program} {w : World} {K : PySem.W.Frag} {mg : Str → Option Value} {base : Heap} {CN CB CD CT CU fI : Addr}
def sp_same (K : PySem.W.Frag) : Sp := fun vs H Q _ => ∃ (a b : Addr) (l : List Nat), vs = [.ref a, .ref b] ∧ H a = some (.lst (l.map nV)) ∧ SqL K H b (l.map nV) ∧ l.length ≤ 1000 ∧ Q (.bl true) H
theorem ok_same {f f1 : Addr} {fd fd1 : FuncData} (F : Fun K "_law_same" "_law_same" s_law_same f fd) (T : Txt mg) (C_law_number : Cal P w K mg base 1 "_law_number" ["thing"] sp_number f1 fd1) : FnOk P w K mg base CX0 2 f fd ["told", "due"] (sp_same K) := by
  refine F.ok sc_law_same (fun vs H Q E h => ?_) (fun cdv A outer s H vs Q E hr h => ?_)
  · obtain ⟨a, b, l, rfl, _⟩ := h
    rfl
  · obtain ⟨a, b, l, rfl, hp, hb, hl, q⟩ := h
    refine ⟨_, (pss_cons (ps_if (PW.pt (pw_or (pt_not (pt_val (pe_callB call_isi (by rfl) T.isinstance (by decide +kernel) (pa_cons (pv 0) (pa_cons (pe_bltn (v := .ty "list") (by rfl) T.list (by decide +kernel) rfl) pa_nil))))) (pw_or1 (pt_cmpR op_ne (pe_callB call_len_seq (by rfl) T.len (by decide +kernel) (pa_cons (pv 0) pa_nil)) (pe_callB call_len_seq (by rfl) T.len (by decide +kernel) (pa_cons (pv 1) pa_nil)) (nomark _)))))
 (pss_one (ps_ret pe_bl))
 pss_nil)
 (pss_cons (ps_for PassesOwn.never rfl (pi_range1 rfl T.range (pa_cons (pe_callB call_len_seq (by rfl) T.len (by decide +kernel) (pa_cons (pv 1) pa_nil)) pa_nil)) (pg_name (i := 2) sc_law_same.nd rfl (.inl rfl))
 (pss_one (ps_if (PW.pt (pw_or (pt_not (pt_val (pe_call C_law_number.ok (hr.mono (by decide)) (by rfl) C_law_number.mg C_law_number.kp C_law_number.b .nil pass0 (pa_cons (pe_ix ix_list (pv 0) (pv 2) (fun _ _ => rfl)) pa_nil)))) (pw_or1 (pt_cmpR op_ne (pe_ix ix_list (pv 0) (pv 2) (fun _ _ => rfl)) (pe_ix ix_list (pv 1) (pv 2) (fun _ _ => rfl)) (nomark _)))))
 (pss_one (ps_ret pe_bl))
 pss_nil)))
 (pss_one (ps_ret pe_bl)))), ?_⟩
    refine ⟨_, rfl, _, _, _, _, true, rfl, .ty "list", .base (.lst hp), kit_ty (by decide +kernel), _, rfl, ?_⟩
    refine iteF ⟨_, rfl, a, _, rfl, .inl (SqL.of hp), _, rfl, b, _, rfl, .inl hb, rfl, _, rfl, ?_⟩
    rw [decide_eq_true rfl]
    refine iteF ?_
    refine ⟨_, rfl, b, _, rfl, .inl hb, _, rfl, (by omega), (by rw [List.length_map]; omega), ?_⟩
    rw [show (((l.map nV).length : Nat) : Int).toNat = l.length by rw [List.length_map]; omega]
    refine for_range (lo := 0) (n := l.length) (fun i σ H' => ∃ (v2 : Option V), σ = [some (.ref a), some (.ref b), v2] ∧ H' = H) ⟨_, rfl, rfl⟩ ?_ ?_
    · rintro i σ H' hi ⟨v2, rfl, rfl⟩
      rw [show (0 : Int) + (i : Int) = (i : Int) by omega]
      obtain ⟨x, hx⟩ := get_lt hi
      refine ⟨_, rfl, _, rfl, ixl (SqL.of hp) (at_n (getn hx)) ⟨_, rfl, _, rfl, ?_⟩⟩
      refine iteF ⟨_, rfl, _, rfl, ixl (SqL.of hp) (at_n (getn hx)) ⟨_, rfl, _, rfl, ixl hb (at_n (getn hx)) ⟨rfl, _, rfl, ?_⟩⟩⟩
      rw [decide_eq_true rfl]
      exact iteF ⟨_, rfl, rfl⟩
    · rintro σ H' ⟨v2, rfl, rfl⟩
      exact q
def sp_ismat (K : PySem.W.Frag) : Sp := fun vs H Q _ => ∃ (xa pa : Addr) (us us0 : List V) (ms ps0 : K02.PL), vs = [.ref xa, .ref pa, nV ms.length] ∧ H xa = some (.lst us) ∧ MP H us ms ∧ SqL K H pa us0 ∧ PI K H us0 (upP ps0) ∧ (∀ q ∈ ms, q ∈ ps0) ∧ (ms.map (·.1)).Pairwise (· < ·) ∧ (ms.map (·.2)).Nodup ∧ ms.length ≤ 1000 ∧ ∀ H', Same H H' → Q (.bl true) H'
theorem ok_ismat {f f1 : Addr} {fd fd1 : FuncData} (F : Fun K "_law_is_matching" "_law_is_matching" s_law_is_matching f fd) (T : Txt mg) (C_law_number : Cal P w K mg base 1 "_law_number" ["thing"] sp_number f1 fd1) : FnOk P w K mg base CX0 2 f fd ["told", "pairs", "size"] (sp_ismat K) := by
  refine F.ok sc_law_is_matching (fun vs H Q E h => ?_) (fun cdv A outer s H vs Q E hr h => ?_)
  · obtain ⟨xa, pa, us, us0, ms, ps0, rfl, _⟩ := h
    rfl
  · obtain ⟨xa, pa, us, us0, ms, ps0, rfl, hx, hM, hS, hP, sub, asc, nd2, hl, q⟩ := h
    refine ⟨_, (pss_cons (ps_if (PW.pt (pw_or (pt_not (pt_val (pe_callB call_isi (by rfl) T.isinstance (by decide +kernel) (pa_cons (pv 0) (pa_cons (pe_bltn (v := .ty "list") (by rfl) T.list (by decide +kernel) rfl) pa_nil))))) (pw_or1 (pt_cmpR op_ne (pe_callB call_len_seq (by rfl) T.len (by decide +kernel) (pa_cons (pv 0) pa_nil)) (pv 2) (nomark _)))))
 (pss_one (ps_ret pe_bl))
 pss_nil)
 (pss_cons (ps_set (i := 3) sc_law_is_matching.nd rfl (.inl rfl) (pe_lst pa_nil))
 (pss_cons (ps_set (i := 4) sc_law_is_matching.nd rfl (.inl rfl) (pe_un un_neg pe_int))
 (pss_cons (ps_for PassesOwn.never rfl (pi_list (pv 0)) (pg_name (i := 5) sc_law_is_matching.nd rfl (.inl rfl))
 (pss_cons (ps_if (PW.pt (pw_or (pt_not (pt_val (pe_callB call_isi (by rfl) T.isinstance (by decide +kernel) (pa_cons (pv 5) (pa_cons (pe_bltn (v := .ty "tuple") (by rfl) T.tuple (by decide +kernel) rfl) pa_nil))))) (pw_or1 (pt_cmpR op_ne (pe_callB call_len_seq (by rfl) T.len (by decide +kernel) (pa_cons (pv 5) pa_nil)) pe_int (nomark _)))))
 (pss_one (ps_ret pe_bl))
 pss_nil)
 (pss_cons (ps_if (PW.pt (pw_or (pt_not (pt_val (pe_call C_law_number.ok (hr.mono (by decide)) (by rfl) C_law_number.mg C_law_number.kp C_law_number.b .nil pass0 (pa_cons (pe_ix ix_tup (pv 5) pe_int (fun _ _ => rfl)) pa_nil)))) (pw_or1 (pt_not (pt_val (pe_call C_law_number.ok (hr.mono (by decide)) (by rfl) C_law_number.mg C_law_number.kp C_law_number.b .nil pass0 (pa_cons (pe_ix ix_tup (pv 5) pe_int (fun _ _ => rfl)) pa_nil)))))))
 (pss_one (ps_ret pe_bl))
 pss_nil)
 (pss_cons (ps_if (PW.pt (pw_or (pt_cmpR (op_notInD (u65 hr)) (pv 5) (pv 1) (by rfl)) (pw_or (pt_cmpR op_le (pe_ix ix_tup (pv 5) pe_int (fun _ _ => rfl)) (pv 4) (nomark _)) (pw_or1 (pt_cmpR op_in_seq (pe_ix ix_tup (pv 5) pe_int (fun _ _ => rfl)) (pv 3) (by rfl))))))
 (pss_one (ps_ret pe_bl))
 pss_nil)
 (pss_cons (ps_set (i := 4) sc_law_is_matching.nd rfl (.inl rfl) (pe_ix ix_tup (pv 5) pe_int (fun _ _ => rfl)))
 (pss_one (ps_expr (pe_bm PySem.F.plainAttrs_list PySem.F.slot_list_append PySem.F.type_list_append mt_append (pv 3) (pa_cons (pe_ix ix_tup (pv 5) pe_int (fun _ _ => rfl)) pa_nil)))))))))
 (pss_one (ps_ret pe_bl)))))), ?_⟩
    have ul : us.length = ms.length := P_len hM
    refine ⟨_, rfl, _, _, _, _, true, rfl, .ty "list", .base (.lst hx), kit_ty (by decide +kernel), _, rfl, ?_⟩
    refine iteF ⟨_, rfl, xa, _, rfl, .inl (SqL.of hx), _, rfl, rfl, _, rfl, ?_⟩
    rw [decide_eq_true (show V.int (us.length : Int) = nV ms.length by rw [ul])]
    refine iteF ?_
    refine ⟨Nat.zero_le _, fun ra nra => ?_⟩
    have s1 : Same H (upd H ra (.lst [])) := (Same.refl H).new nra
    have era : (upd H ra (.lst [])) ra = some (.lst (([] : List Nat).map nV)) := upd_same
    generalize upd H ra (.lst []) = H1 at s1 era ⊢
    refine ⟨_, rfl, ?_⟩
    refine ⟨_, rfl, xa, rfl, ⟨_, SqL.of (s1 _ _ hx)⟩, for_list (K := K) (a := xa) (xs := us) (fun i σ H' => ∃ (v5 : Option V) (bf : Int), σ = [some (.ref xa), some (.ref pa), some (nV ms.length), some (.ref ra), some (.int bf), v5] ∧ Same H H' ∧ H' ra = some (.lst (((ms.take i).map (·.2)).map nV)) ∧ ∀ q ∈ ms.drop i, bf < (q.1 : Int))
      ⟨none, -1, rfl, s1, era, fun q _ => by omega⟩ (fun i σ H' _ ⟨_, _, _, sm, _⟩ => SqL.of (sm _ _ hx)) ?_ ?_⟩
    · rintro i x σ H2 hxi ⟨v5, bf, rfl, s2, era2, hbf⟩
      obtain ⟨⟨a, b⟩, hq, t, rfl, et⟩ := P_right hM hxi
      have hmem := List.mem_of_getElem? hq
      have hil := lt_get hq
      have edrop : ms.drop i = (a, b) :: ms.drop (i + 1) := by rw [List.drop_eq_getElem_cons hil, (List.getElem?_eq_some_iff.mp hq).2]
      have et2 : SqT K H2 t [nV a, nV b] := SqT.of (s2 _ _ et)
      have lta : bf < (a : Int) := hbf (a, b) (by rw [edrop]; exact List.mem_cons_self)
      have notin : ((ms.take i).map (·.2)).contains b = false := by
        have e1 : ms.take (i + 1) = ms.take i ++ [(a, b)] := take_more hq
        have n1 : ((ms.take (i + 1)).map (·.2)).Nodup := nd2.sublist (List.Sublist.map _ (List.take_sublist _ _))
        rw [e1, List.map_append] at n1
        have := (List.nodup_append.mp n1).2.2
        cases c : ((ms.take i).map (·.2)).contains b with
        | false => rfl
        | true => exact absurd rfl (this b (by simpa using c) b (by simp))
      refine ⟨_, rfl, _, _, _, _, true, rfl, .ty "tuple", .base (.tup (s2 _ _ et)), kit_ty (by decide +kernel), _, rfl, iteF ⟨_, rfl, t, _, rfl, .inr et2, rfl, _, rfl, ?_⟩⟩
      rw [decide_eq_true (show V.int (([nV a, nV b] : List V).length : Int) = V.int 2 from rfl)]
      refine iteF ⟨_, rfl, t, _, 0, nV a, rfl, rfl, et2, rfl, _, rfl, _, rfl, iteF ⟨_, rfl, t, _, 1, nV b, rfl, rfl, et2, rfl, _, rfl, _, rfl, iteF ?_⟩⟩
      refine ⟨_, rfl, _, rfl, dP ((a : Int), (b : Int)), (upP ps0).map dP, .tup et2 (.cons (.int _) (.cons (.int _) .nil)), .lst (s2.seq hS) (hP.same s2).dp, shaped_dP _, shaped_l _, _, rfl, ?_⟩
      rw [any_dP, decide_eq_true (mem_upP.mpr (sub _ hmem))]
      refine iteF ⟨_, rfl, t, _, 0, nV a, rfl, rfl, et2, rfl, _, rfl, _, _, rfl, rfl, _, rfl, ?_⟩
      rw [decide_eq_false (show ¬ (a : Int) ≤ bf by omega)]
      refine iteF ⟨_, rfl, t, _, 1, nV b, rfl, rfl, et2, rfl, _, rfl, ra, _, rfl, .inl (SqL.of era2), rfl, flat_n _, _, rfl, ?_⟩
      rw [in_n, notin]
      refine iteF ⟨_, rfl, t, _, 0, nV a, rfl, rfl, et2, rfl, _, rfl, .inl ⟨rfl, _, SqL.of era2⟩, _, rfl, t, _, 1, nV b, rfl, rfl, et2, rfl, ra, _, _, rfl, rfl, era2, ?_, ⟨_, _, rfl, s2.mut nra, ?_, fun q hq2 => ?_⟩⟩
      · rw [List.length_map, List.length_map]
        exact szl (Nat.le_trans (List.length_take_le' _ _) (by omega))
      · rw [upd_same, take_more hq, List.map_append, List.map_append]
        rfl
      · have p1 : ((ms.drop i).map (·.1)).Pairwise (· < ·) := asc.sublist (List.Sublist.map _ (List.drop_sublist _ _))
        rw [edrop, List.map_cons, List.pairwise_cons] at p1
        have := p1.1 q.1 (List.mem_map.mpr ⟨q, hq2, rfl⟩)
        omega
    · rintro σ H2 ⟨v5, bf, rfl, s2, era2, hbf⟩
      exact q H2 s2
/-- what is told, and what is due -/
def sp_right (K : PySem.W.Frag) : Sp := fun vs H Q _ => ∃ (t pa du : Addr) (n m : Nat) (ps ps0 ms : K02.PL) (Z A : Nat → Bool) (x y z y' z' : Addr) (us us0 : List V) (sz : Nat), vs = [.ref t, .ref pa, .ref du] ∧ MAt H n m ps ms Z x y z us t ∧ Mtl n m ps ms Z ∧ In2 n m ps ∧ n ≤ 100 ∧ m ≤ 100 ∧ SqL K H pa us0 ∧ PI K H us0 (upP ps0) ∧ (∀ q ∈ ps, q ∈ ps0) ∧ DueAt K H n m ps A sz y' z' du ∧ ∀ H', Same H H' → Q (.bl true) H'
theorem ok_right {f f1 f2 : Addr} {fd fd1 fd2 : FuncData} (F : Fun K "_law_right" "_law_right" s_law_right f fd) (T : Txt mg) (C_law_is_matching : Cal P w K mg base 2 "_law_is_matching" ["told", "pairs", "size"] (sp_ismat K) f1 fd1) (C_law_same : Cal P w K mg base 2 "_law_same" ["told", "due"] (sp_same K) f2 fd2) : FnOk P w K mg base CX0 3 f fd ["told", "pairs", "due"] (sp_right K) := by
  refine F.ok sc_law_right (fun vs H Q E h => ?_) (fun cdv A outer s H vs Q E hr h => ?_)
  · obtain ⟨t, pa, du, n, m, ps, ps0, ms, Z, A, x, y, z, y', z', us, us0, sz, rfl, _⟩ := h
    rfl
  · obtain ⟨t, pa, du, n, m, ps, ps0, ms, Z, B, x, y, z, y', z', us, us0, sz, rfl, at_, tl, hw, hn, hm, hS, hP, sub, due, q⟩ := h
    refine ⟨_, (pss_cons (ps_if (PW.pt (pw_or (pt_not (pt_val (pe_callB call_isi (by rfl) T.isinstance (by decide +kernel) (pa_cons (pv 0) (pa_cons (pe_bltn (v := .ty "tuple") (by rfl) T.tuple (by decide +kernel) rfl) pa_nil))))) (pw_or1 (pt_cmpR op_ne (pe_callB call_len_seq (by rfl) T.len (by decide +kernel) (pa_cons (pv 0) pa_nil)) pe_int (nomark _)))))
 (pss_one (ps_ret pe_bl))
 pss_nil)
 (pss_cons (ps_if (pt_not (pt_val (pe_call C_law_is_matching.ok (hr.mono (by decide)) (by rfl) C_law_is_matching.mg C_law_is_matching.kp C_law_is_matching.b .nil pass0 (pa_cons (pe_ix ix_tup (pv 0) pe_int (fun _ _ => rfl)) (pa_cons (pv 1) (pa_cons (pe_ix ix_tup (pv 2) pe_int (fun _ _ => rfl)) pa_nil))))))
 (pss_one (ps_ret pe_bl))
 pss_nil)
 (pss_one (ps_ret (pe_and (pe_call C_law_same.ok (hr.mono (by decide)) (by rfl) C_law_same.mg C_law_same.kp C_law_same.b .nil pass0 (pa_cons (pe_ix ix_tup (pv 0) pe_int (fun _ _ => rfl)) (pa_cons (pe_ix ix_tup (pv 2) pe_int (fun _ _ => rfl)) pa_nil))) (pe_one (pe_call C_law_same.ok (hr.mono (by decide)) (by rfl) C_law_same.mg C_law_same.kp C_law_same.b .nil pass0 (pa_cons (pe_ix ix_tup (pv 0) pe_int (fun _ _ => rfl)) (pa_cons (pe_ix ix_tup (pv 2) pe_int (fun _ _ => rfl)) pa_nil))))))))), ?_⟩
    have eZ := due.due Z (tl.zl.zed hw tl.mat)
    subst eZ
    have size := tl.zl.size hw tl.mat
    have ds := due.s
    have es : sz = ms.length := by
      unfold cvR at ds
      omega
    subst es
    have mln : ms.length ≤ n := by
      have := lot_two n Z
      have := K02.nodup_len n (ms.map (·.1)) tl.mat.n1 fun l hl => by
        obtain ⟨q, hq, rfl⟩ := List.mem_map.mp hl
        exact (hw q (tl.mat.sub q hq)).1
      rwa [List.length_map] at this
    have et := at_.r
    have eu := due.r
    refine ⟨_, rfl, _, _, _, _, true, rfl, .ty "tuple", .base (.tup et), kit_ty (by decide +kernel), _, rfl, iteF ⟨_, rfl, t, _, rfl, .inr (SqT.of et), rfl, _, rfl, ?_⟩⟩
    rw [decide_eq_true (show V.int (([.ref x, .ref y, .ref z] : List V).length : Int) = V.int 3 from rfl)]
    refine iteF ?_
    refine ⟨_, rfl, t, _, 0, .ref x, rfl, rfl, SqT.of et, rfl, _, rfl, _, rfl, du, _, 0, nV ms.length, rfl, rfl, SqT.of eu, rfl, x, pa, us, us0, ms, ps0, rfl, at_.x, at_.p, hS, hP, fun q hq => sub q (tl.mat.sub q hq), tl.asc, tl.mat.n2, by omega, fun H1 s1 => ⟨_, rfl, iteF ?_⟩⟩
    have at1 := at_.same s1
    have due1 := due.same s1
    refine ⟨_, rfl, t, _, 1, .ref y, rfl, rfl, SqT.of at1.r, rfl, _, rfl, du, _, 1, .ref y', rfl, rfl, SqT.of due1.r, rfl, y, y', cvL n Z, rfl, at1.y, due1.y, ?_, _, rfl, iteT ?_⟩
    · have := lot_le_len n fun l => !Z l
      unfold cvL
      omega
    refine ⟨_, rfl, t, _, 2, .ref z, rfl, rfl, SqT.of at1.r, rfl, _, rfl, du, _, 2, .ref z', rfl, rfl, SqT.of due1.r, rfl, z, z', cvR m ps Z, rfl, at1.z, due1.z, ?_, q _ s1⟩
    have := lot_le_len m (nb ps Z)
    unfold cvR
    omega
end
end K26W

namespace K26W
open PySem PySem.Spec PyProof.Rows L2 KH KD KP K26
abbrev s_law_answered : Stmt := topS 27
theorem sc_law_answered : FnScope ["lefts", "rights", "pairs", "due", "passed", "told", "row", "turned"] ["lefts", "rights", "pairs", "due"] (defScope s_law_answered) := ⟨rfl, rfl, rfl, by decide +kernel, rfl, by decide +kernel, by decide +kernel⟩

theorem mid_upN {n m : Nat} {ps : K02.PL} (h : In2 n m ps) (hn : n ≤ 100) (hm : m ≤ 100) : MidP (upP ps) := fun q hq => by
  obtain ⟨j, hj⟩ := List.getElem?_of_mem hq
  obtain ⟨a, b, hab, rfl⟩ := upP_get hj
  have := h _ (List.mem_of_getElem? hab)
  have e16 : (10 : Nat) ^ 16 = 10000000000000000 := by decide
  unfold Mid
  rw [e16]
  dsimp only at this ⊢
  omega
theorem Flaw.no {n m : Nat} {ps : K02.PL} {wd : Str} {z : Int} (h : Flaw (n : Int) (m : Int) (upP ps) wd z) (w : In2 n m ps) : False := by
  have ok : ∀ {k : Nat} {q : P2}, (upP ps)[k]? = some q → In1 (n : Int) q.1 ∧ In1 (m : Int) q.2 := fun e => by
    obtain ⟨a, b, hab, rfl⟩ := upP_get e
    have := w _ (List.mem_of_getElem? hab)
    unfold In1
    dsimp only at this ⊢
    omega
  cases h with
  | left e no _ => exact no (ok e).1
  | right e _ no _ => exact no (ok e).2
theorem nb_mem {ps ps' : K02.PL} (h : ∀ q, q ∈ ps ↔ q ∈ ps') (A : Nat → Bool) : nb ps A = nb ps' A := by
  funext r
  rw [Bool.eq_iff_iff, nb_iff, nb_iff]
  exact ⟨fun ⟨l, a, b⟩ => ⟨l, a, (h _).mp b⟩, fun ⟨l, a, b⟩ => ⟨l, a, (h _).mpr b⟩⟩
theorem zed_congr {n m : Nat} {ps ps' : K02.PL} (h : ∀ q, q ∈ ps ↔ q ∈ ps') {A : Nat → Bool} (z : Zed n m ps A) : Zed n m ps' A := by
  have e : ∀ S, nb ps' S = nb ps S := fun S => (nb_mem h S).symm
  exact ⟨z.lt, fun S => by rw [e, e]; exact z.low S, fun S => by rw [e, e]; exact z.least S⟩
theorem DueAt.congr {K : PySem.W.Frag} {H : Hp} {n m : Nat} {ps ps' : K02.PL} (h : ∀ q, q ∈ ps ↔ q ∈ ps') {A : Nat → Bool} {s : Nat} {y z r : Addr} (d : DueAt K H n m ps A s y z r) : DueAt K H n m ps' A s y z r := by
  have e : cvR m ps' A = cvR m ps A := by
    unfold cvR
    rw [nb_mem h]
  exact ⟨d.r, d.y, by rw [e]; exact d.z, by rw [e]; exact d.s, fun Z z => d.due Z (zed_congr (fun q => (h q).symm) z)⟩
theorem due_none (n m : Nat) : DueQ n m [] (fun l => decide (l < n)) ∧ cvL n (fun l => decide (l < n)) = [] ∧ cvR m [] (fun l => decide (l < n)) = [] ∧ (lot n (fun l => decide (l < n))).length = n := by
  have c : ∀ Z, lot m (nb [] Z) = [] := fun Z => by
    unfold lot
    rw [List.filter_eq_nil_iff]
    intro x _
    unfold nb
    simp
  have l0 : lot n (fun l => !decide (l < n)) = [] := by
    unfold lot
    rw [List.filter_eq_nil_iff]
    intro x hx
    have := List.mem_range.mp hx
    simp [this]
  have l1 : (lot n (fun l => decide (l < n))).length = n := by
    have := lot_two n (fun l => decide (l < n))
    rw [l0] at this
    exact this
  refine ⟨fun Z z => ?_, l0, c _, l1⟩
  have lo := z.low (fun l => decide (l < n))
  rw [c, c, l1] at lo
  have l2 := lot_two n Z
  have l3 : lot n (fun l => !Z l) = [] := List.length_eq_zero_iff.mp (by have : ([] : List Nat).length = 0 := rfl; omega)
  funext l
  rw [Bool.eq_iff_iff, decide_eq_true_eq]
  refine ⟨z.lt l, fun hl => ?_⟩
  cases cz : Z l with
  | true => rfl
  | false =>
    have : l ∈ lot n (fun l => !Z l) := mem_lot.mpr ⟨hl, by rw [cz]; rfl⟩
    rw [l3] at this
    cases this
section
variable {P : Program} {w : World} {K : PySem.W.Frag} {mg : Str → Option Value} {base : Heap} {CN CB CD CT CU fI : Addr}
def sp_answered (K : PySem.W.Frag) : Sp := fun vs H Q _ => ∃ (n m : Nat) (pa du : Addr) (qv : List V) (ps : K02.PL) (B : Nat → Bool) (sz : Nat) (y z : Addr), vs = [nV n, nV m, .ref pa, .ref du] ∧ H pa = some (.lst qv) ∧ PI K H qv (upP ps) ∧ In2 n m ps ∧ n ≤ 100 ∧ m ≤ 100 ∧ ps.length ≤ 200 ∧ DueAt K H n m ps B sz y z du ∧ ∀ H', Same H H' → Q (.bl true) H'
theorem ok_answered {f f1 f2 : Addr} {fd fd1 fd2 : FuncData} (F : Fun K "_law_answered" "_law_answered" s_law_answered f fd) (T : Txt mg) (Cmatch_and_cover : CalX P w K mg base 4 "match_and_cover" ["lefts", "rights", "pairs"] (sp_match K CN) f1 fd1)
    (C_law_right : Cal P w K mg base 3 "_law_right" ["told", "pairs", "due"] (sp_right K) f2 fd2) : FnOkG P w K mg base 5 f fd ["lefts", "rights", "pairs", "due"] (sp_answered K) := by
  refine F.okG sc_law_answered (fun vs H Q E h => ?_) (fun cdv A outer s H vs Q E gA0 hr h => ?_)
  · obtain ⟨n, m, pa, du, qv, ps, B, sz, y, z, rfl, _⟩ := h
    rfl
  · obtain ⟨n, m, pa, du, qv, ps, B, sz, dy, dz, rfl, epa, hQP, wi, hn, hm, hpl, due, q⟩ := h
    have gA : (A.deeper (envOfC "_law_answered" (defScope s_law_answered) s.heap.objs.size f cdv)).guards = some [] := gA0
    have S2 := dPs_shows (mid_upN wi hn hm) (by rw [upP_len]; omega)
    have hql : qv.length = ps.length := by rw [hQP.len, upP_len]
    refine ⟨_, (pss_cons (ps_set (i := 4) sc_law_answered.nd rfl (.inl rfl) (pe_callTy call_list_of (by rfl) T.list (by decide +kernel) (pa_cons (pv 2) pa_nil)))
 (pss_cons (ps_set (i := 5) sc_law_answered.nd rfl (.inl rfl) (pe_call Cmatch_and_cover.ok (hr.mono (by decide)) (by rfl) Cmatch_and_cover.mg Cmatch_and_cover.kp Cmatch_and_cover.b .nil passL (pa_cons (pv 0) (pa_cons (pv 1) (pa_cons (pv 4) pa_nil)))))
 (pss_cons (ps_if (PW.pt (pw_or (pt_not (pt_val (pe_call C_law_right.ok (hr.mono (by decide)) (by rfl) C_law_right.mg C_law_right.kp C_law_right.b .nil pass0 (pa_cons (pv 5) (pa_cons (pv 2) (pa_cons (pv 3) pa_nil)))))) (pw_or1 (pt_cmpR op_ne (pe_callB (call_reprD gA hr.units) (by rfl) T.repr (by decide +kernel) (pa_cons (pv 4) pa_nil)) (pe_callB (call_reprD gA hr.units) (by rfl) T.repr (by decide +kernel) (pa_cons (pv 2) pa_nil)) (nomark _)))))
 (pss_one (ps_ret pe_bl))
 pss_nil)
 (pss_cons (ps_for PassesOwn.never rfl (pi_tup (pv 5)) (pg_name (i := 6) sc_law_answered.nd rfl (.inl rfl))
 (pss_one (ps_expr (pe_bm0 PySem.F.plainAttrs_list PySem.F.slot_list_clear PySem.F.type_list_clear mt_clear (pv 6)))))
 (pss_cons (ps_set (i := 5) sc_law_answered.nd rfl (.inl rfl) (pe_call Cmatch_and_cover.ok (hr.mono (by decide)) (by rfl) Cmatch_and_cover.mg Cmatch_and_cover.kp Cmatch_and_cover.b .nil passL (pa_cons (pv 0) (pa_cons (pv 1) (pa_cons (pv 4) pa_nil)))))
 (pss_cons (ps_if (pt_not (pt_val (pe_call C_law_right.ok (hr.mono (by decide)) (by rfl) C_law_right.mg C_law_right.kp C_law_right.b .nil pass0 (pa_cons (pv 5) (pa_cons (pv 2) (pa_cons (pv 3) pa_nil))))))
 (pss_one (ps_ret pe_bl))
 pss_nil)
 (pss_cons (ps_set (i := 7) sc_law_answered.nd rfl (.inl rfl) (pe_lstRev rfl rfl T.list rfl T.reversed (pv 2)))
 (pss_cons (ps_if (pt_not (pt_val (pe_call C_law_right.ok (hr.mono (by decide)) (by rfl) C_law_right.mg C_law_right.kp C_law_right.b .nil pass0 (pa_cons (pe_call Cmatch_and_cover.ok (hr.mono (by decide)) (by rfl) Cmatch_and_cover.mg Cmatch_and_cover.kp Cmatch_and_cover.b .nil passL (pa_cons (pv 0) (pa_cons (pv 1) (pa_cons (pe_callTy call_tuple_of (by rfl) T.tuple (by decide +kernel) (pa_cons (pv 7) pa_nil)) pa_nil)))) (pa_cons (pv 2) (pa_cons (pv 3) pa_nil))))))
 (pss_one (ps_ret pe_bl))
 pss_nil)
 (pss_cons (ps_if (pt_not (pt_val (pe_call C_law_right.ok (hr.mono (by decide)) (by rfl) C_law_right.mg C_law_right.kp C_law_right.b .nil pass0 (pa_cons (pe_call Cmatch_and_cover.ok (hr.mono (by decide)) (by rfl) Cmatch_and_cover.mg Cmatch_and_cover.kp Cmatch_and_cover.b .nil passL (pa_cons (pv 0) (pa_cons (pv 1) (pa_cons (pe_op op_cat (pv 2) (pv 7)) pa_nil)))) (pa_cons (pv 2) (pa_cons (pv 3) pa_nil))))))
 (pss_one (ps_ret pe_bl))
 pss_nil)
 (pss_cons (ps_expr (pe_bm0 PySem.F.plainAttrs_list PySem.F.slot_list_clear PySem.F.type_list_clear mt_clear (pv 4)))
 (pss_one (ps_ret (pe_call C_law_right.ok (hr.mono (by decide)) (by rfl) C_law_right.mg C_law_right.kp C_law_right.b .nil pass0 (pa_cons (pe_call Cmatch_and_cover.ok (hr.mono (by decide)) (by rfl) Cmatch_and_cover.mg Cmatch_and_cover.kp Cmatch_and_cover.b .nil passL (pa_cons (pv 0) (pa_cons (pv 1) (pa_cons (pv 4) pa_nil)))) (pa_cons (pv 2) (pa_cons (pe_tup (pa_cons pe_int (pa_cons (pe_lst pa_nil) (pa_cons (pe_lst pa_nil) pa_nil)))) pa_nil)))))))))))))))), ?_⟩
    -- passed
    refine ⟨_, rfl, pa, qv, rfl, .inl (SqL.of epa), fun pd npd => ?_⟩
    have s2 : Same H (upd H pd (.lst qv)) := (Same.refl H).new npd
    have epd : (upd H pd (.lst qv)) pd = some (.lst qv) := upd_same
    generalize upd H pd (.lst qv) = H2 at s2 epd ⊢
    -- told
    refine ⟨_, rfl, _, rfl, _, rfl, n, m, pd, qv, upP ps, rfl, Sq.of epd, PI.same hQP s2, hn, hm, by rw [upP_len]; omega, fun wd z f => (f.no wi).elim, fun ps' e wi' ms Z x y z us r1 H3 s3 nx ny nz nr1 at1 tl => ?_⟩
    obtain rfl := upP_inj e
    have t3 := s2.trans s3
    refine ⟨_, rfl, _, rfl, _, rfl, r1, pa, du, n, m, _, _, ms, Z, B, x, y, z, dy, dz, us, qv, sz, rfl, at1, tl, wi, hn, hm, SqL.of (t3 _ _ epa), hQP.same t3, fun q h => h, due.same t3, fun H4 s4 => ⟨_, rfl, iteF ?_⟩⟩
    have t4 := t3.trans s4
    have s24 := s3.trans s4
    refine ⟨_, rfl, pd, dPs (upP ps), rfl, dpPs (SqL.of (s24 _ _ epd)) (PI.same hQP t4), S2.sh, S2.nd, S2.dp, S2.sz, _, rfl, pa, dPs (upP ps), rfl, dpPs (SqL.of (t4 _ _ epa)) (PI.same hQP t4), S2.sh, S2.nd, S2.dp, S2.sz, rfl, _, rfl, ?_⟩
    rw [decide_eq_true rfl]
    refine iteF ?_
    -- for row in told
    have at4 := at1.same s4
    have er4 := at4.r
    refine ⟨_, rfl, r1, rfl, ⟨_, SqT.of er4⟩, for_tup (K := K) (a := r1) (xs := [.ref x, .ref y, .ref z]) (fun i σ H' => ∃ (v6 : Option V), σ = [some (nV n), some (nV m), some (.ref pa), some (.ref du), some (.ref pd), some (.ref r1), v6, none] ∧ Same H2 H' ∧ H' r1 = some (.tup [.ref x, .ref y, .ref z]) ∧ (∃ l, H' x = some (.lst l)) ∧ (∃ l, H' y = some (.lst l)) ∧ (∃ l, H' z = some (.lst l)))
      ⟨none, rfl, s24, er4, ⟨_, at4.x⟩, ⟨_, at4.y⟩, ⟨_, at4.z⟩⟩ (fun i σ H' _ ⟨_, _, _, e, _⟩ => SqT.of e) ?_ ?_⟩
    · rintro i v σ H5 hv ⟨v6, rfl, s5, er5, ex5, ey5, ez5⟩
      have key : ∃ a, v = .ref a ∧ H2 a = none ∧ ∃ l, H5 a = some (.lst l) := by
        have := List.mem_of_getElem? hv
        simp only [List.mem_cons, List.not_mem_nil, or_false] at this
        rcases this with rfl | rfl | rfl
        · exact ⟨x, rfl, nx, ex5⟩
        · exact ⟨y, rfl, ny, ey5⟩
        · exact ⟨z, rfl, nz, ez5⟩
      obtain ⟨a, rfl, na, l, ea⟩ := key
      have still : ∀ b, (∃ l, H5 b = some (.lst l)) → ∃ l, (upd H5 a (.lst [])) b = some (.lst l) := fun b ⟨l, e⟩ => by
        by_cases c : b = a
        · rw [c]
          exact ⟨_, upd_same⟩
        · exact ⟨l, by rw [upd_ne c]; exact e⟩
      refine ⟨_, rfl, .inl ⟨rfl, _, SqL.of ea⟩, a, _, rfl, rfl, ea, _, rfl, s5.mut na, ?_, still x ex5, still y ey5, still z ez5⟩
      rw [upd_ne (ne_of er5 ea (by intro z; cases z))]
      exact er5
    rintro σ H5 ⟨v6, rfl, s5, _, _, _, _⟩
    have t5 := s2.trans s5
    -- once more
    refine ⟨_, rfl, _, rfl, _, rfl, n, m, pd, qv, upP ps, rfl, Sq.of (s5 _ _ epd), PI.same hQP t5, hn, hm, by rw [upP_len]; omega, fun wd z f => (f.no wi).elim, fun ps' e wi' ms2 Z2 x2 y2 z2 us2 r2 H6 s6 _ _ _ _ at2 tl2 => ?_⟩
    obtain rfl := upP_inj e
    have t6 := t5.trans s6
    refine ⟨_, rfl, _, rfl, _, rfl, r2, pa, du, n, m, _, _, ms2, Z2, B, x2, y2, z2, dy, dz, us2, qv, sz, rfl, at2, tl2, wi, hn, hm, SqL.of (t6 _ _ epa), hQP.same t6, fun q h => h, due.same t6, fun H7 s7 => ⟨_, rfl, iteF ?_⟩⟩
    have t7 := t6.trans s7
    have s27 := (s5.trans s6).trans s7
    -- turned
    refine ⟨_, rfl, pa, qv, rfl, SqL.of (t7 _ _ epa), fun tu ntu => ?_⟩
    have s8 : Same H7 (upd H7 tu (.lst qv.reverse)) := (Same.refl H7).new ntu
    have etu : (upd H7 tu (.lst qv.reverse)) tu = some (.lst qv.reverse) := upd_same
    generalize upd H7 tu (.lst qv.reverse) = H8 at s8 etu ⊢
    have t8 := t7.trans s8
    have pr : PI K H8 qv.reverse (upP ps.reverse) := by
      have a := (PI.same hQP t8).rev
      rw [upP_rev] at a
      exact a
    have memr : ∀ q, q ∈ ps ↔ q ∈ ps.reverse := fun q => by rw [List.mem_reverse]
    have wir : In2 n m ps.reverse := fun q hq => wi q ((memr q).mpr hq)
    refine ⟨_, rfl, _, rfl, _, rfl, tu, _, rfl, .inl ⟨SqL.of etu, fun l1 nl1 => ?_⟩⟩
    have s9 : Same H8 (upd H8 l1 (.tup qv.reverse)) := (Same.refl H8).new nl1
    have el1 : (upd H8 l1 (.tup qv.reverse)) l1 = some (.tup qv.reverse) := upd_same
    generalize upd H8 l1 (.tup qv.reverse) = H9 at s9 el1 ⊢
    refine ⟨n, m, l1, _, _, rfl, .inr (SqT.of el1), pr.same s9, hn, hm, by rw [upP_len, List.length_reverse]; omega, fun wd z f => (f.no wir).elim, fun ps' e wi' ms3 Z3 x3 y3 z3 us3 r3 HA sA _ _ _ _ at3 tl3 => ?_⟩
    obtain rfl := upP_inj e
    have tA := (t8.trans s9).trans sA
    refine ⟨_, rfl, _, rfl, r3, pa, du, n, m, _, _, ms3, Z3, B, x3, y3, z3, dy, dz, us3, qv, sz, rfl, at3, tl3, wir, hn, hm, SqL.of (tA _ _ epa), hQP.same tA, fun q h => (memr q).mpr h, (due.same tA).congr memr, fun HB sB => ⟨_, rfl, iteF ?_⟩⟩
    have tB := tA.trans sB
    have s8B := (s9.trans sA).trans sB
    -- pairs + turned
    refine ⟨_, rfl, _, rfl, _, rfl, _, rfl, pa, tu, _, _, rfl, rfl, tB _ _ epa, s8B _ _ etu, ?_, fun l2 nl2 => ?_⟩
    · rw [List.length_reverse, hql]
      exact szle (by omega)
    have sC : Same HB (upd HB l2 (.lst (qv ++ qv.reverse))) := (Same.refl HB).new nl2
    have el2 : (upd HB l2 (.lst (qv ++ qv.reverse))) l2 = some (.lst (qv ++ qv.reverse)) := upd_same
    generalize upd HB l2 (.lst (qv ++ qv.reverse)) = HC at sC el2 ⊢
    have p2 : PI K HC (qv ++ qv.reverse) (upP (ps ++ ps.reverse)) := by
      rw [← upP_app]
      exact P_append (PI.same hQP (tB.trans sC)) (pr.same (s8B.trans sC))
    have mem2 : ∀ q, q ∈ ps ↔ q ∈ ps ++ ps.reverse := fun q => by simp
    have wi2 : In2 n m (ps ++ ps.reverse) := fun q hq => wi q ((mem2 q).mpr hq)
    refine ⟨n, m, l2, _, _, rfl, Sq.of el2, p2, hn, hm, by rw [upP_len, List.length_append, List.length_reverse]; omega, fun wd z f => (f.no wi2).elim, fun ps' e wi' ms4 Z4 x4 y4 z4 us4 r4 HD sD _ _ _ _ at4' tl4 => ?_⟩
    obtain rfl := upP_inj e
    have tD := (tB.trans sC).trans sD
    refine ⟨_, rfl, _, rfl, r4, pa, du, n, m, _, _, ms4, Z4, B, x4, y4, z4, dy, dz, us4, qv, sz, rfl, at4', tl4, wi2, hn, hm, SqL.of (tD _ _ epa), hQP.same tD, fun q h => (mem2 q).mpr h, (due.same tD).congr mem2, fun HE sE => ⟨_, rfl, iteF ?_⟩⟩
    have tE := tD.trans sE
    have s2E := ((((s27.trans s8).trans s8B).trans sC).trans sD).trans sE
    have epdE := s2E _ _ epd
    -- passed.clear()
    refine ⟨_, rfl, .inl ⟨rfl, _, SqL.of epdE⟩, pd, _, rfl, rfl, epdE, ?_⟩
    have tF : Same H (upd HE pd (.lst [])) := tE.mut npd
    have epdF : (upd HE pd (.lst [])) pd = some (.lst []) := upd_same
    generalize upd HE pd (.lst []) = HF at tF epdF ⊢
    have wi0 : In2 n m [] := fun q hq => by cases hq
    refine ⟨_, rfl, _, rfl, _, rfl, n, m, pd, [], upP [], rfl, Sq.of epdF, .nil, hn, hm, Nat.zero_le _, fun wd z f => (f.no wi0).elim, fun ps' e wi' ms5 Z5 x5 y5 z5 us5 r5 HG sG _ _ _ _ at5 tl5 => ?_⟩
    obtain rfl := upP_inj e
    have tG := tF.trans sG
    refine ⟨_, rfl, Nat.zero_le _, fun e1 ne1 => ⟨Nat.zero_le _, fun e2 ne2 => ⟨(by show 3 ≤ sizeLine; decide), fun e3 ne3 => ?_⟩⟩⟩
    have k1 : Same HG (upd HG e1 (.lst [])) := (Same.refl HG).new ne1
    have k2 : Same (upd HG e1 (.lst [])) (upd (upd HG e1 (.lst [])) e2 (.lst [])) := (Same.refl _).new ne2
    have k3 := (Same.refl (upd (upd HG e1 (.lst [])) e2 (.lst []))).new (o := .tup [V.int 0, .ref e1, .ref e2]) ne3
    have kk := k1.trans (k2.trans k3)
    obtain ⟨d0, d1, d2, d3⟩ := due_none n m
    refine ⟨r5, pa, e3, n, m, [], _, ms5, Z5, fun l => decide (l < n), x5, y5, z5, e1, e2, us5, qv, 0, rfl, at5.same kk, tl5, wi0, hn, hm, SqL.of (tG.trans kk _ _ epa), hQP.same (tG.trans kk), fun q h => (by cases h), ⟨upd_same, ?_, ?_, ?_, d0⟩, fun HH sH => q HH ((tG.trans kk).trans sH)⟩
    · rw [d1]
      exact SqL.of ((k2.trans k3) _ _ upd_same)
    · rw [d2]
      exact SqL.of (k3 _ _ upd_same)
    · rw [d2, d3]
      exact Nat.add_comm 0 n
end
end K26W

namespace K26W
open PySem PySem.Spec PyProof.Rows L2 KH KD KP K26
abbrev s_law_flawed : Stmt := topS 28
theorem sc_law_flawed : FnScope ["script", "lefts", "rights", "pairs", "drawn", "left", "right", "wrong", "rows"] ["script", "lefts", "rights", "pairs"] (defScope s_law_flawed) := ⟨rfl, rfl, rfl, by decide +kernel, rfl, by decide +kernel, by decide +kernel⟩

abbrev s_law_first_flaw : Stmt := topS 29
theorem sc_law_first_flaw : FnScope ["lefts", "rights", "rows", "left", "right"] ["lefts", "rights", "rows"] (defScope s_law_first_flaw) := ⟨rfl, rfl, rfl, by decide +kernel, rfl, by decide +kernel, by decide +kernel⟩

/-- a pair within the two sides -/
def Okq (n m : Int) (q : P2) : Prop := In1 n q.1 ∧ In1 m q.2
theorem bad_q {n m x1 x2 : Int} (h : (x1 < 0 ∨ n ≤ x1) ∨ (x2 < 0 ∨ m ≤ x2)) : ¬ Okq n m (x1, x2) := fun z => by
  obtain ⟨⟨a, b⟩, c, d⟩ := z
  dsimp only at a b c d
  omega
theorem max1 (k : Nat) : (if (k : Int) > 1 then (k : Int) else 1) = ((if k > 1 then k else 1 : Nat) : Int) := by
  by_cases h : k > 1
  · rw [if_pos h, if_pos (by omega)]
  · rw [if_neg h, if_neg (by omega)]
    rfl
section
variable {P : Program} {w : World} {K : PySem.W.Frag} {mg : Str → Option Value} {base : Heap} {CN CB CD CT CU fI : Addr}
def sp_flawed (K : PySem.W.Frag) : Sp := fun vs H Q _ => ∃ (a pa : Addr) (ns : List Int) (n m : Nat) (qv : List V) (ps : K02.PL), vs = [.ref a, nV n, nV m, .ref pa] ∧ SqL K H a (ns.map V.int) ∧ ns.length ≤ 63 ∧ H pa = some (.lst qv) ∧ PI K H qv (upP ps) ∧ In2 n m ps ∧ n ≤ 100 ∧ m ≤ 100 ∧ ps.length ≤ 200 ∧
  ∀ rx us qs H', Same H H' → H rx = none → H' rx = some (.lst us) → PI K H' us qs → MidP qs → qs.length ≤ 300 → (∃ q ∈ qs, ¬ Okq (n : Int) (m : Int) q) → Q (.ref rx) H'
theorem ok_flawed {f f1 f2 : Addr} {fd fd1 fd2 : FuncData} (F : Fun K "_law_flawed" "_law_flawed" s_law_flawed f fd) (T : Txt mg) (C_law_draws : Cal P w K mg base 1 "_law_draws" ["cell", "sizes"] (sp_draws K) f1 fd1) (C_law_cell : Cal P w K mg base 1 "_law_cell" ["script", "k"] (sp_cell K) f2 fd2) : FnOk P w K mg base CX0 2 f fd ["script", "lefts", "rights", "pairs"] (sp_flawed K) := by
  refine F.ok sc_law_flawed (fun vs H Q E h => ?_) (fun cdv A outer s H vs Q E hr h => ?_)
  · obtain ⟨a, pa, ns, n, m, qv, ps, rfl, _⟩ := h
    rfl
  · obtain ⟨a, pa, ns, n, m, qv, ps, rfl, hS, hns, epa, hQP, wi, hn, hm, hpl, q⟩ := h
    refine ⟨_, (pss_cons (ps_set (i := 4) sc_law_flawed.nd rfl (.inl rfl) (pe_call C_law_draws.ok (hr.mono (by decide)) (by rfl) C_law_draws.mg C_law_draws.kp C_law_draws.b .nil pass0 (pa_cons (pe_call C_law_cell.ok (hr.mono (by decide)) (by rfl) C_law_cell.mg C_law_cell.kp C_law_cell.b .nil pass0 (pa_cons (pv 0) (pa_cons pe_int pa_nil))) (pa_cons (pe_lst (pa_cons pe_int (pa_cons pe_int (pa_cons pe_int (pa_cons pe_int (pa_cons pe_int (pa_cons pe_int pa_nil))))))) pa_nil))))
 (pss_cons (ps_set (i := 5) sc_law_flawed.nd rfl (.inl rfl) (pe_op op_modN (pe_callTy call_int1 (by rfl) T.int (by decide +kernel) (pa_cons (pe_ix ix_list (pv 4) pe_int (fun _ _ => rfl)) pa_nil)) (pe_callB (call_max2 rfl) (by rfl) T.max (by decide +kernel) (pa_cons pe_int (pa_cons (pv 1) pa_nil)))))
 (pss_cons (ps_set (i := 6) sc_law_flawed.nd rfl (.inl rfl) (pe_op op_modN (pe_callTy call_int1 (by rfl) T.int (by decide +kernel) (pa_cons (pe_ix ix_list (pv 4) pe_int (fun _ _ => rfl)) pa_nil)) (pe_callB (call_max2 rfl) (by rfl) T.max (by decide +kernel) (pa_cons pe_int (pa_cons (pv 2) pa_nil)))))
 (pss_cons (ps_set (i := 7) sc_law_flawed.nd rfl (.inl rfl) (pe_tup (pa_cons (pe_op op_sub (pe_un un_neg pe_int) (pe_ix ix_list (pv 4) pe_int (fun _ _ => rfl))) (pa_cons (pv 6) pa_nil))))
 (pss_cons (ps_if (pt_cmpR op_eq (pe_ix ix_list (pv 4) pe_int (fun _ _ => rfl)) pe_int (nomark _))
 (pss_one (ps_set (i := 7) sc_law_flawed.nd rfl (.inl rfl) (pe_tup (pa_cons (pe_op op_add (pv 1) (pe_ix ix_list (pv 4) pe_int (fun _ _ => rfl))) (pa_cons (pv 6) pa_nil)))))
 pss_nil)
 (pss_cons (ps_if (pt_cmpR op_eq (pe_ix ix_list (pv 4) pe_int (fun _ _ => rfl)) pe_int (nomark _))
 (pss_one (ps_set (i := 7) sc_law_flawed.nd rfl (.inl rfl) (pe_tup (pa_cons (pv 5) (pa_cons (pe_op op_sub (pe_un un_neg pe_int) (pe_ix ix_list (pv 4) pe_int (fun _ _ => rfl))) pa_nil)))))
 pss_nil)
 (pss_cons (ps_if (pt_cmpR op_eq (pe_ix ix_list (pv 4) pe_int (fun _ _ => rfl)) pe_int (nomark _))
 (pss_one (ps_set (i := 7) sc_law_flawed.nd rfl (.inl rfl) (pe_tup (pa_cons (pv 5) (pa_cons (pe_op op_add (pv 2) (pe_ix ix_list (pv 4) pe_int (fun _ _ => rfl))) pa_nil)))))
 pss_nil)
 (pss_cons (ps_if (pt_cmpR op_eq (pe_ix ix_list (pv 4) pe_int (fun _ _ => rfl)) pe_int (nomark _))
 (pss_one (ps_set (i := 7) sc_law_flawed.nd rfl (.inl rfl) (pe_tup (pa_cons (pe_op op_add (pv 1) (pe_ix ix_list (pv 4) pe_int (fun _ _ => rfl))) (pa_cons (pe_op op_sub (pe_un un_neg pe_int) (pe_ix ix_list (pv 4) pe_int (fun _ _ => rfl))) pa_nil)))))
 pss_nil)
 (pss_cons (ps_set (i := 8) sc_law_flawed.nd rfl (.inl rfl) (pe_callTy call_list_of (by rfl) T.list (by decide +kernel) (pa_cons (pv 3) pa_nil)))
 (pss_cons (ps_expr (pe_bm PySem.F.plainAttrs_list PySem.F.slot_list_insert PySem.F.type_list_insert mt_insert (pv 8) (pa_cons (pe_op op_modN (pe_callTy call_int1 (by rfl) T.int (by decide +kernel) (pa_cons (pe_ix ix_list (pv 4) pe_int (fun _ _ => rfl)) pa_nil)) (pe_op op_add (pe_callB call_len_seq (by rfl) T.len (by decide +kernel) (pa_cons (pv 8) pa_nil)) pe_int)) (pa_cons (pv 7) pa_nil))))
 (pss_cons (ps_if (pt_cmpR op_gt (pe_ix ix_list (pv 4) pe_int (fun _ _ => rfl)) pe_int (nomark _))
 (pss_one (ps_expr (pe_bm PySem.F.plainAttrs_list PySem.F.slot_list_insert PySem.F.type_list_insert mt_insert (pv 8) (pa_cons (pe_op op_modN (pe_callTy call_int1 (by rfl) T.int (by decide +kernel) (pa_cons (pe_ix ix_list (pv 4) pe_int (fun _ _ => rfl)) pa_nil)) (pe_op op_add (pe_callB call_len_seq (by rfl) T.len (by decide +kernel) (pa_cons (pv 8) pa_nil)) pe_int)) (pa_cons (pe_tup (pa_cons (pv 5) (pa_cons (pv 2) pa_nil))) pa_nil)))))
 pss_nil)
 (pss_one (ps_ret (pv 8)))))))))))))), ?_⟩
    refine asgN ⟨_, rfl, a, ns, 5, rfl, hS, hns, by decide, fun c0 H1 s1 => ⟨(by show 6 ≤ sizeLine; decide), fun z nz => ⟨z, c0, [6, 130, 130, 40, 40, 3], rfl, SqL.of upd_same, by decide, by decide, fun dp ds H2 s2 ndp edp dr σ' e => ?_⟩⟩⟩
    obtain rfl : σ' = [some (.ref a), some (nV n), some (nV m), some (.ref pa), some (.ref dp), none, none, none, none] := e.symm
    clear e
    obtain ⟨d0, d1, d2, d3, d4, d5, rfl, b0, b1, b2, b3, b4, b5⟩ : ∃ d0 d1 d2 d3 d4 d5, ds = [d0, d1, d2, d3, d4, d5] ∧ d0 < 6 ∧ d1 < 130 ∧ d2 < 130 ∧ d3 < 40 ∧ d4 < 40 ∧ d5 < 3 := by
      cases dr with | cons h0 dr => cases dr with | cons h1 dr => cases dr with | cons h2 dr => cases dr with | cons h3 dr => cases dr with | cons h4 dr => cases dr with | cons h5 dr => cases dr with | nil => exact ⟨_, _, _, _, _, _, rfl, h0, h1, h2, h3, h4, h5⟩
    have t2 : Same H H2 := (s1.new nz).trans s2
    have hG : SqL K H2 dp ([d0, d1, d2, d3, d4, d5].map nV) := SqL.of edp
    -- left, right
    obtain ⟨g, eg, hg⟩ := fmod_nat (d3 : Int) (z := if n > 1 then n else 1) (by split <;> omega)
    have hg8 : g ≤ 100 := by
      have : g < if n > 1 then n else 1 := hg
      split at this <;> omega
    refine asgN ⟨_, rfl, dp, _, 3, nV d3, rfl, rfl, hG, at_n (j := 3) rfl, .inl ⟨_, rfl, _, rfl, 1, (n : Int), rfl, _, _, rfl, rfl, (by rw [max1]; split <;> omega), ?_⟩⟩
    dsimp only
    rw [max1, eg]
    refine fun σ' e => ?_
    obtain rfl : σ' = [some (.ref a), some (nV n), some (nV m), some (.ref pa), some (.ref dp), some (nV g), none, none, none] := e.symm
    clear e
    obtain ⟨g2, eg2, hg2⟩ := fmod_nat (d4 : Int) (z := if m > 1 then m else 1) (by split <;> omega)
    have hg28 : g2 ≤ 100 := by
      have : g2 < if m > 1 then m else 1 := hg2
      split at this <;> omega
    refine asgN ⟨_, rfl, dp, _, 4, nV d4, rfl, rfl, hG, at_n (j := 4) rfl, .inl ⟨_, rfl, _, rfl, 1, (m : Int), rfl, _, _, rfl, rfl, (by rw [max1]; split <;> omega), ?_⟩⟩
    dsimp only
    rw [max1, eg2]
    refine fun σ' e => ?_
    obtain rfl : σ' = [some (.ref a), some (nV n), some (nV m), some (.ref pa), some (.ref dp), some (nV g), some (nV g2), none, none] := e.symm
    clear e
    -- wrong
    refine asgN ⟨_, rfl, _, rfl, dp, _, 5, nV d5, rfl, rfl, hG, at_n (j := 5) rfl, _, _, rfl, rfl, _, rfl, sp2, fun t0 n0 σ' e => ?_⟩
    obtain rfl : σ' = [some (.ref a), some (nV n), some (nV m), some (.ref pa), some (.ref dp), some (nV g), some (nV g2), some (.ref t0), none] := e.symm
    clear e
    have s0 : Same H2 (upd H2 t0 (.tup [.int (-1 - (d5 : Int)), nV g2])) := (Same.refl H2).new n0
    have et0 : (upd H2 t0 (.tup [.int (-1 - (d5 : Int)), nV g2])) t0 = some (.tup [.int (-1 - (d5 : Int)), nV g2]) := upd_same
    generalize upd H2 t0 (.tup [.int (-1 - (d5 : Int)), nV g2]) = H3 at s0 et0 ⊢
    refine ifsetP (C := (d0 : Int) = 1) (fun u H' => ∃ (t : Addr) (x1 x2 : Int), u = .ref t ∧ Same H2 H' ∧ H' t = some (.tup [.int x1, .int x2]) ∧ x1.natAbs ≤ 200 ∧ x2.natAbs ≤ 200 ∧ ¬ Okq (n : Int) (m : Int) (x1, x2)) (fun Q' hq => ⟨_, rfl, dp, _, 0, nV d0, rfl, rfl, s0.seq hG, at_n (j := 0) rfl, rfl, _, rfl, testI (Q := Q') (H := H3) hq⟩) rfl (fun _ => ⟨t0, _, _, rfl, s0, et0, by omega, by omega, bad_q (by omega)⟩)
      (fun _ Q' hq => ⟨_, rfl, _, rfl, dp, _, 5, nV d5, rfl, rfl, s0.seq hG, at_n (j := 5) rfl, _, _, rfl, rfl, _, rfl, sp2, fun t nt => hq _ _ ⟨t, (n : Int) + (d5 : Int), (g2 : Int), rfl, s0.new nt, upd_same, by omega, by omega, bad_q (by omega)⟩⟩) ?_
    rintro u1 H4 ⟨t1, x1, y1, rfl, s1, et1, p1, p2, p3⟩
    refine ifsetP (C := (d0 : Int) = 2) (fun u H' => ∃ (t : Addr) (x1 x2 : Int), u = .ref t ∧ Same H2 H' ∧ H' t = some (.tup [.int x1, .int x2]) ∧ x1.natAbs ≤ 200 ∧ x2.natAbs ≤ 200 ∧ ¬ Okq (n : Int) (m : Int) (x1, x2)) (fun Q' hq => ⟨_, rfl, dp, _, 0, nV d0, rfl, rfl, s1.seq hG, at_n (j := 0) rfl, rfl, _, rfl, testI (Q := Q') (H := H4) hq⟩) rfl (fun _ => ⟨t1, _, _, rfl, s1, et1, p1, p2, p3⟩)
      (fun _ Q' hq => ⟨_, rfl, _, rfl, _, rfl, dp, _, 5, nV d5, rfl, rfl, s1.seq hG, at_n (j := 5) rfl, _, _, rfl, rfl, sp2, fun t nt => hq _ _ ⟨t, (g : Int), -1 - (d5 : Int), rfl, s1.new nt, upd_same, by omega, by omega, bad_q (by omega)⟩⟩) ?_
    clear p1 p2 p3
    rintro u1 H5 ⟨t2', x2, y2, rfl, s2', et2, p1, p2, p3⟩
    refine ifsetP (C := (d0 : Int) = 3) (fun u H' => ∃ (t : Addr) (x1 x2 : Int), u = .ref t ∧ Same H2 H' ∧ H' t = some (.tup [.int x1, .int x2]) ∧ x1.natAbs ≤ 200 ∧ x2.natAbs ≤ 200 ∧ ¬ Okq (n : Int) (m : Int) (x1, x2)) (fun Q' hq => ⟨_, rfl, dp, _, 0, nV d0, rfl, rfl, s2'.seq hG, at_n (j := 0) rfl, rfl, _, rfl, testI (Q := Q') (H := H5) hq⟩) rfl (fun _ => ⟨t2', _, _, rfl, s2', et2, p1, p2, p3⟩)
      (fun _ Q' hq => ⟨_, rfl, _, rfl, _, rfl, dp, _, 5, nV d5, rfl, rfl, s2'.seq hG, at_n (j := 5) rfl, _, _, rfl, rfl, sp2, fun t nt => hq _ _ ⟨t, (g : Int), (m : Int) + (d5 : Int), rfl, s2'.new nt, upd_same, by omega, by omega, bad_q (by omega)⟩⟩) ?_
    clear p1 p2 p3
    rintro u1 H6 ⟨t3, x3, y3, rfl, s3, et3, p1, p2, p3⟩
    refine ifsetP (C := (d0 : Int) = 4) (fun u H' => ∃ (t : Addr) (x1 x2 : Int), u = .ref t ∧ Same H2 H' ∧ H' t = some (.tup [.int x1, .int x2]) ∧ x1.natAbs ≤ 200 ∧ x2.natAbs ≤ 200 ∧ ¬ Okq (n : Int) (m : Int) (x1, x2)) (fun Q' hq => ⟨_, rfl, dp, _, 0, nV d0, rfl, rfl, s3.seq hG, at_n (j := 0) rfl, rfl, _, rfl, testI (Q := Q') (H := H6) hq⟩) rfl (fun _ => ⟨t3, _, _, rfl, s3, et3, p1, p2, p3⟩)
      (fun _ Q' hq => ⟨_, rfl, _, rfl, dp, _, 5, nV d5, rfl, rfl, s3.seq hG, at_n (j := 5) rfl, _, _, rfl, rfl, _, rfl, _, rfl, dp, _, 5, nV d5, rfl, rfl, s3.seq hG, at_n (j := 5) rfl, _, _, rfl, rfl, sp2, fun t nt => hq _ _ ⟨t, (n : Int) + (d5 : Int), -1 - (d5 : Int), rfl, s3.new nt, upd_same, by omega, by omega, bad_q (by omega)⟩⟩) ?_
    clear p1 p2 p3
    rintro u1 H7 ⟨t4, x4, y4, rfl, s4, et4, p1, p2, p3⟩
    have t7 := t2.trans s4
    -- rows = list(pairs)
    refine ⟨_, rfl, pa, qv, rfl, .inl (SqL.of (t7 _ _ epa)), fun rx nrx => ?_⟩
    have s8 : Same H7 (upd H7 rx (.lst qv)) := (Same.refl H7).new nrx
    have erx : (upd H7 rx (.lst qv)) rx = some (.lst qv) := upd_same
    generalize upd H7 rx (.lst qv) = H8 at s8 erx ⊢
    have t8 := t7.trans s8
    have nrx0 : H rx = none := t7.free nrx
    have et8 := s8 _ _ et4
    have s28 := s4.trans s8
    have hql : qv.length = ps.length := by rw [hQP.len, upP_len]
    obtain ⟨pi, epi, hpi⟩ := fmod_nat (d1 : Int) (z := qv.length + 1) (by omega)
    refine ⟨_, rfl, .inl ⟨rfl, _, SqL.of erx⟩, _, rfl, dp, _, 1, nV d1, rfl, rfl, s28.seq hG, at_n (j := 1) rfl, .inl ⟨_, rfl, _, rfl, rx, _, rfl, .inl (SqL.of erx), _, _, rfl, rfl, _, _, rfl, rfl, (by show ((qv.length : Nat) : Int) + 1 ≠ 0; omega), ?_⟩⟩
    dsimp only
    rw [show ((qv.length : Nat) : Int) + 1 = ((qv.length + 1 : Nat) : Int) by omega, epi]
    refine ⟨_, rfl, rx, _, (pi : Int), _, rfl, rfl, erx, by rw [hql]; exact szl (by omega), by omega, by omega, ?_⟩
    rw [show ((pi : Nat) : Int).toNat = pi by omega]
    have s9 : Same H (upd H8 rx (.lst (qv.take pi ++ [V.ref t4] ++ qv.drop pi))) := t8.mut nrx0
    have erx9 : (upd H8 rx (.lst (qv.take pi ++ [V.ref t4] ++ qv.drop pi))) rx = some (.lst (qv.take pi ++ [V.ref t4] ++ qv.drop pi)) := upd_same
    have hP9 : PI K (upd H8 rx (.lst (qv.take pi ++ [V.ref t4] ++ qv.drop pi))) (qv.take pi ++ [V.ref t4] ++ qv.drop pi) ((upP ps).take pi ++ [(x4, y4)] ++ (upP ps).drop pi) := by
      have a := (PI.same hQP t8).mutL (x := .lst (qv.take pi ++ [V.ref t4] ++ qv.drop pi)) erx
      exact P_append (P_append (P_take pi a) (.cons ⟨t4, rfl, sqT_mutL (SqT.of et8) erx⟩ .nil)) (P_drop pi a)
    have hG9 : SqL K (upd H8 rx (.lst (qv.take pi ++ [V.ref t4] ++ qv.drop pi))) dp ([d0, d1, d2, d3, d4, d5].map nV) := by
      have e := s28 _ _ edp
      have n : dp ≠ rx := ne_of_none (s4 _ _ edp) nrx
      exact SqL.of (by rw [upd_ne n]; exact e)
    have mid9 : MidP ((upP ps).take pi ++ [(x4, y4)] ++ (upP ps).drop pi) := fun y hy => by
      have hM := mid_upN wi hn hm
      rcases List.mem_append.mp hy with hy | hy
      · rcases List.mem_append.mp hy with hy | hy
        · exact hM y (List.mem_of_mem_take hy)
        · rw [List.mem_singleton.mp hy]
          exact ⟨Nat.le_trans p1 (by decide), Nat.le_trans p2 (by decide)⟩
      · exact hM y (List.mem_of_mem_drop hy)
    have len9 : ((upP ps).take pi ++ [(x4, y4)] ++ (upP ps).drop pi).length = ps.length + 1 := by
      rw [List.length_append, List.length_append, List.length_take, List.length_drop, List.length_singleton, upP_len]
      omega
    have bad9 : (x4, y4) ∈ (upP ps).take pi ++ [(x4, y4)] ++ (upP ps).drop pi := by simp
    generalize qv.take pi ++ [V.ref t4] ++ qv.drop pi = rv at s9 erx9 hP9 hG9
    generalize (upP ps).take pi ++ [(x4, y4)] ++ (upP ps).drop pi = qs at hP9 mid9 len9 bad9
    generalize upd H8 rx (.lst rv) = H9 at s9 erx9 hP9 hG9 ⊢
    have rvl : rv.length = ps.length + 1 := by rw [hP9.len, len9]
    -- if drawn[0] > 3
    refine ifLs (Pst := fun H' => ∃ us qs', Same H H' ∧ H' rx = some (.lst us) ∧ PI K H' us qs' ∧ MidP qs' ∧ qs'.length ≤ 300 ∧ (x4, y4) ∈ qs') ?_ ?_
    · intro Qb qf qt
      refine ⟨_, rfl, dp, _, 0, nV d0, rfl, rfl, hG9, at_n (j := 0) rfl, _, _, rfl, rfl, _, rfl, ?_⟩
      cases cc : decide ((3 : Int) < (d0 : Int)) with
      | false => exact qf H9 ⟨rv, qs, s9, erx9, hP9, mid9, by omega, bad9⟩
      | true =>
        refine qt H9 fun D' hd => ?_
        obtain ⟨pj, epj, hpj⟩ := fmod_nat (d2 : Int) (z := rv.length + 1) (by omega)
        refine ⟨_, rfl, .inl ⟨rfl, _, SqL.of erx9⟩, _, rfl, dp, _, 2, nV d2, rfl, rfl, hG9, at_n (j := 2) rfl, .inl ⟨_, rfl, _, rfl, rx, _, rfl, .inl (SqL.of erx9), _, _, rfl, rfl, _, _, rfl, rfl, (by show ((rv.length : Nat) : Int) + 1 ≠ 0; omega), ?_⟩⟩
        dsimp only
        rw [show ((rv.length : Nat) : Int) + 1 = ((rv.length + 1 : Nat) : Int) by omega, epj]
        refine ⟨_, rfl, _, rfl, sp2, fun t nt => ?_⟩
        have sA : Same H9 (upd H9 t (.tup [nV g, nV m])) := (Same.refl H9).new nt
        have etA : (upd H9 t (.tup [nV g, nV m])) t = some (.tup [nV g, nV m]) := upd_same
        generalize upd H9 t (.tup [nV g, nV m]) = HA at sA etA ⊢
        have erxA := sA _ _ erx9
        refine ⟨rx, _, (pj : Int), _, rfl, rfl, erxA, by rw [rvl]; exact szl (by omega), by omega, by omega, ?_⟩
        rw [show ((pj : Nat) : Int).toNat = pj by omega]
        refine hd _ ⟨_, qs.take pj ++ [((g : Int), (m : Int))] ++ qs.drop pj, (s9.trans sA).mut nrx0, upd_same, ?_, fun y hy => ?_, ?_, ?_⟩
        · have a := (PI.same hP9 sA).mutL (x := .lst (rv.take pj ++ [V.ref t] ++ rv.drop pj)) erxA
          exact P_append (P_append (P_take pj a) (.cons ⟨t, rfl, sqT_mutL (SqT.of etA) erxA⟩ .nil)) (P_drop pj a)
        · rcases List.mem_append.mp hy with hy | hy
          · rcases List.mem_append.mp hy with hy | hy
            · exact mid9 y (List.mem_of_mem_take hy)
            · rw [List.mem_singleton.mp hy]
              have e16 : (10 : Nat) ^ 16 = 10000000000000000 := by decide
              unfold Mid
              rw [e16]
              dsimp only
              omega
          · exact mid9 y (List.mem_of_mem_drop hy)
        · rw [List.length_append, List.length_append, List.length_take, List.length_drop, List.length_singleton]
          omega
        · have : (x4, y4) ∈ qs.take pj ++ qs.drop pj := by rw [List.take_append_drop]; exact bad9
          rcases List.mem_append.mp this with h | h
          · exact List.mem_append_left _ (List.mem_append_left _ h)
          · exact List.mem_append_right _ h
    · rintro HB ⟨us, qs', sB, erB, hPB, midB, lenB, badB⟩
      exact ⟨_, rfl, q rx us qs' HB sB nrx0 erB hPB midB lenB ⟨_, badB, p3⟩⟩
/-! ### the first pair out of range, by the law -/
def sp_flaw (K : PySem.W.Frag) : Sp := fun vs H Q _ => ∃ (a : Addr) (us : List V) (qs : List P2) (n m : Nat), vs = [nV n, nV m, .ref a] ∧ SqL K H a us ∧ PI K H us qs ∧ (∃ q ∈ qs, ¬ Okq (n : Int) (m : Int) q) ∧ ∀ wd z t H', Same H H' → H' t = some (.tup [.str wd, .int z]) → Flaw (n : Int) (m : Int) qs wd z → Q (.ref t) H'
theorem ok_flaw {f : Addr} {fd : FuncData} (F : Fun K "_law_first_flaw" "_law_first_flaw" s_law_first_flaw f fd) (T : Txt mg) : FnOk P w K mg base CX0 1 f fd ["lefts", "rights", "rows"] (sp_flaw K) := by
  refine F.ok sc_law_first_flaw (fun vs H Q E h => ?_) (fun cdv A outer s H vs Q E hr h => ?_)
  · obtain ⟨a, us, qs, n, m, rfl, _⟩ := h
    rfl
  · obtain ⟨a, us, qs, n, m, rfl, hS, hP, nf, q⟩ := h
    refine ⟨_, (pss_cons (ps_for PassesOwn.never rfl (pi_list (pv 2)) (pg_tup rfl (pgs_cons (pg_name (i := 3) sc_law_first_flaw.nd rfl (.inl rfl)) (pgs_cons (pg_name (i := 4) sc_law_first_flaw.nd rfl (.inl rfl)) pgs_nil)))
 (pss_cons (ps_if (pt_not (pt_chain op_le op_lt pe_int (pv 3) (pv 0)))
 (pss_one (ps_ret (pe_tup (pa_cons pe_str (pa_cons (pv 3) pa_nil)))))
 pss_nil)
 (pss_one (ps_if (pt_not (pt_chain op_le op_lt pe_int (pv 4) (pv 1)))
 (pss_one (ps_ret (pe_tup (pa_cons pe_str (pa_cons (pv 4) pa_nil)))))
 pss_nil))))
 (pss_one (ps_ret (pe_tup (pa_cons pe_str (pa_cons pe_int pa_nil)))))), ?_⟩
    refine ⟨_, rfl, a, rfl, ⟨_, hS⟩, for_list (K := K) (a := a) (xs := us) (fun i σ H' => ∃ v3 v4 : Option V, σ = [some (nV n), some (nV m), some (.ref a), v3, v4] ∧ H' = H ∧ ∀ (j : Nat) (y : P2), j < i → qs[j]? = some y → In1 (n : Int) y.1 ∧ In1 (m : Int) y.2) ⟨_, _, rfl, rfl, fun j y h => absurd h (Nat.not_lt_zero j)⟩ (fun i σ H' _ ⟨_, _, _, e, _⟩ => by rw [e]; exact hS) ?_ ?_⟩
    · rintro i x σ H0 hi ⟨v3, v4, rfl, rfl, fine⟩
      obtain ⟨y, hq, t, rfl, et⟩ := P_right hP hi
      have tell : ∀ {wd : Str} {z : Int} {t : Addr}, Flaw (n : Int) (m : Int) qs wd z → H0 t = none → Q (.ref t) (upd H0 t (.tup [.str wd, .int z])) := fun f nt => q _ _ _ _ ((Same.refl _).new nt) upd_same f
      refine ⟨t, _, rfl, et, rfl, _, _, rfl, _, _, rfl, rfl, ?_⟩
      refine ⟨_, rfl, _, _, rfl, rfl, _, rfl, ?_⟩
      by_cases c1' : ¬ ((0 : Int) ≤ y.1)
      · have c1 := c1'
        rw [decide_eq_false c1]
        exact iteF ⟨_, rfl, iteT ⟨_, rfl, sp2, fun t nt => tell (.left hq (fun z => c1 z.1) fine) nt⟩⟩
      have c1 := Decidable.not_not.mp c1'
      rw [decide_eq_true c1]
      refine iteT ⟨_, rfl, _, _, rfl, rfl, _, rfl, ?_⟩
      by_cases c2' : ¬ (y.1 < (n : Int))
      · have c2 := c2'
        rw [decide_eq_false c2]
        exact iteT ⟨_, rfl, sp2, fun t nt => tell (.left hq (fun z => c2 z.2) fine) nt⟩
      have c2 := Decidable.not_not.mp c2'
      rw [decide_eq_true c2]
      refine iteF ⟨_, rfl, _, _, rfl, rfl, _, rfl, ?_⟩
      by_cases c3' : ¬ ((0 : Int) ≤ y.2)
      · have c3 := c3'
        rw [decide_eq_false c3]
        exact iteF ⟨_, rfl, iteT ⟨_, rfl, sp2, fun t nt => tell (.right hq ⟨c1, c2⟩ (fun z => c3 z.1) fine) nt⟩⟩
      have c3 := Decidable.not_not.mp c3'
      rw [decide_eq_true c3]
      refine iteT ⟨_, rfl, _, _, rfl, rfl, _, rfl, ?_⟩
      by_cases c4' : ¬ (y.2 < (m : Int))
      · have c4 := c4'
        rw [decide_eq_false c4]
        exact iteT ⟨_, rfl, sp2, fun t nt => tell (.right hq ⟨c1, c2⟩ (fun z => c4 z.2) fine) nt⟩
      have c4 := Decidable.not_not.mp c4'
      rw [decide_eq_true c4]
      refine iteF ⟨_, _, rfl, rfl, fun j y' hj hy' => ?_⟩
      by_cases e : j = i
      · subst e
        rw [hq] at hy'
        cases hy'
        exact ⟨⟨c1, c2⟩, c3, c4⟩
      · exact fine j y' (by omega) hy'
    · rintro σ H0 ⟨v3, v4, rfl, rfl, fine⟩
      obtain ⟨y, hy, nok⟩ := nf
      obtain ⟨j, hj⟩ := List.getElem?_of_mem hy
      exact (nok (fine j y (by rw [hP.len]; exact lt_get hj) hj)).elim
end
end K26W

namespace K26W
open PySem PySem.Spec PyProof.Rows L2 KH KD KP K26
abbrev s_law_refused : Stmt := topS 30
theorem sc_law_refused : FnScope ["lefts", "rights", "rows", "word", "number", "passed", "e"] ["lefts", "rights", "rows"] (defScope s_law_refused) := ⟨rfl, rfl, rfl, by decide +kernel, rfl, by decide +kernel, by decide +kernel⟩

abbrev slaw : Stmt := topS 31
theorem sclaw : FnScope ["script", "kind", "lefts", "rights", "pairs", "due", "told"] ["script"] (defScope slaw) := ⟨rfl, rfl, rfl, by decide +kernel, rfl, by decide +kernel, by decide +kernel⟩

theorem Flaw.uniq {n m : Int} {ts : List P2} {wd wd' : Str} {z z' : Int} (f : Flaw n m ts wd z) (g : Flaw n m ts wd' z') : wd = wd' ∧ z = z' := by
  have same : ∀ {k k' : Nat} {q q' : P2}, ts[k]? = some q → ts[k']? = some q' → ¬ Okq n m q → ¬ Okq n m q' → (∀ (j : Nat) (y : P2), j < k → ts[j]? = some y → Okq n m y) → (∀ (j : Nat) (y : P2), j < k' → ts[j]? = some y → Okq n m y) → q = q' := by
    intro k k' q q' h h' b b' f f'
    rcases Nat.lt_trichotomy k k' with c | c | c
    · exact (b (f' k q c h)).elim
    · subst c
      rw [h] at h'
      exact Option.some.inj h'
    · exact (b' (f k' q' c h')).elim
  cases f with
  | left h b f =>
    cases g with
    | left h' b' f' =>
      have e := same h h' (fun z => b z.1) (fun z => b' z.1) f f'
      exact ⟨rfl, by rw [e]⟩
    | right h' o' b' f' =>
      have e := same h h' (fun z => b z.1) (fun z => b' z.2) f f'
      rw [e] at b
      exact (b o').elim
  | right h o b f =>
    cases g with
    | left h' b' f' =>
      have e := same h h' (fun z => b z.2) (fun z => b' z.1) f f'
      rw [← e] at b'
      exact (b' o).elim
    | right h' o' b' f' =>
      have e := same h h' (fun z => b z.2) (fun z => b' z.2) f f'
      exact ⟨rfl, by rw [e]⟩
theorem Flaw.bad {n m : Nat} {ps : K02.PL} (w : In2 n m ps) : ¬ ∃ q ∈ upP ps, ¬ Okq (n : Int) (m : Int) q := by
  rintro ⟨q, hq, b⟩
  obtain ⟨j, hj⟩ := List.getElem?_of_mem hq
  obtain ⟨x, y, hab, rfl⟩ := upP_get hj
  have := w _ (List.mem_of_getElem? hab)
  refine b ?_
  unfold Okq In1
  dsimp only at this ⊢
  omega
section
variable {P : Program} {w : World} {K : PySem.W.Frag} {mg : Str → Option Value} {base : Heap} {CN CB CD CT CU fI : Addr}
def sp_refused (K : PySem.W.Frag) : Sp := fun vs H Q _ => ∃ (a : Addr) (us : List V) (qs : List P2) (n m : Nat), vs = [nV n, nV m, .ref a] ∧ H a = some (.lst us) ∧ PI K H us qs ∧ qs.length ≤ 300 ∧ n ≤ 100 ∧ m ≤ 100 ∧ MidP qs ∧ (∃ q ∈ qs, ¬ Okq (n : Int) (m : Int) q) ∧ ∀ H', Same H H' → Q (.bl true) H'
theorem ok_refused {f f1 f2 f3 : Addr} {fd fd1 fd2 fd3 : FuncData} (F : Fun K "_law_refused" "_law_refused" s_law_refused f fd) (T : Txt mg) (XB : Exc P K mg CN CB CD CT CU fI) (Cmatch_and_cover : CalX P w K mg base 4 "match_and_cover" ["lefts", "rights", "pairs"] (sp_match K CN) f1 fd1)
    (C_law_first_flaw : Cal P w K mg base 1 "_law_first_flaw" ["lefts", "rights", "rows"] (sp_flaw K) f2 fd2) (C_law_number : CalQ P w K mg base 1 "_law_number" ["thing"] sp_number f3 fd3) : FnOkG P w K mg base 5 f fd ["lefts", "rights", "rows"] (sp_refused K) := by
  refine F.okG sc_law_refused (fun vs H Q E h => ?_) (fun cdv A outer s H vs Q E gA0 hr h => ?_)
  · obtain ⟨a, us, qs, n, m, rfl, _⟩ := h
    rfl
  · obtain ⟨a, us, qs, n, m, rfl, ha, hT, hl, hn, hm, hM, nf, q⟩ := h
    have gA : (A.deeper (envOfC "_law_refused" (defScope s_law_refused) s.heap.objs.size f cdv)).guards = some [] := gA0
    have S1 := dPs_shows hM (by omega)
    have nW : PySem.W.findIn K (.ref CN) "what" = some none := XB.own.noN "what" (by simp)
    have nV' : PySem.W.findIn K (.ref CN) "value" = some none := XB.own.noN "value" (by simp)
    refine ⟨_, (pss_cons (ps_asg (pe_call C_law_first_flaw.ok (hr.mono (by decide)) (by rfl) C_law_first_flaw.mg C_law_first_flaw.kp C_law_first_flaw.b .nil pass0 (pa_cons (pv 0) (pa_cons (pv 1) (pa_cons (pv 2) pa_nil)))) (pg_tup rfl (pgs_cons (pg_name (i := 3) sc_law_refused.nd rfl (.inl rfl)) (pgs_cons (pg_name (i := 4) sc_law_refused.nd rfl (.inl rfl)) pgs_nil))))
      (pss_cons (ps_set (i := 5) sc_law_refused.nd rfl (.inl rfl) (pe_callTy call_list_of (by rfl) T.list (by decide +kernel) (pa_cons (pv 2) pa_nil)))
      (pss_cons (ps_try_as (i := 6) (tb := fun W => tDrop (tCallS (sp_match K CN) (WE W) (tCons (tVar 0) (tCons (tVar 1) (tCons (tVar 5) tNil))))) (Wout := fun _ _ _ _ => False) rfl rfl sc_law_refused.nd rfl rfl ⟨rfl, by decide, Or.inl XB.gB⟩ takes0
          (fun W pn xe tk _ => pss_one (ps_expr (by exact (pe_callS Cmatch_and_cover.ok (hr.mono (by decide)) rfl Cmatch_and_cover.mg Cmatch_and_cover.kp Cmatch_and_cover.b (fun σ => passAt tk σ) (by exact (pa_cons (pv 0) (pa_cons (pv 1) (pa_cons (pv 5) pa_nil))))))))
          (fun a oe cls d pn hz hf => (pss_cons (ps_if (PW.pt (pw_or (pt_not (pt_val (pe_callB (r := rIsC K a cls d) (call_isC hz hf) (by rfl) T.isinstance (by decide +kernel) (pa_cons (pv 6) (pa_cons (pe_glob (v := .ref CN) rfl XB.gN rfl) pa_nil))))) (pw_or1 (pt_val (pe_callB (r := rIsCT K a cls d) (call_isCT hz hf) (by rfl) T.isinstance (by decide +kernel) (pa_cons (pv 6) (pa_cons (pe_tup (pa_cons (pe_glob (v := .ref CD) rfl XB.gD rfl) (pa_cons (pe_glob (v := .ref CT) rfl XB.gT rfl) (pa_cons (pe_glob (v := .ref CU) rfl XB.gU rfl) pa_nil)))) pa_nil)))))))
            (pss_one (ps_ret pe_bl)) pss_nil)
            (pss_cons (ps_if (PW.pt (pw_or (pt_not (pt_val (pe_callB (r := rIsi K) call_isi (by rfl) T.isinstance (by decide +kernel) (pa_cons (pe_xf XB.xf nW hz hf (pv 6)) (pa_cons (pe_bltn (v := .ty "str") (by rfl) T.str (by decide +kernel) rfl) pa_nil))))) (pw_or (pt_not (pt_val (pe_callQ C_law_number.ok ⟨(hr.mono (j := 1) (by decide)).dp, (hr.mono (j := 1) (by decide)).un⟩ (by rfl) C_law_number.mg C_law_number.kp C_law_number.b (pa_cons (pe_xf XB.xf nV' hz hf (pv 6)) pa_nil)))) (pw_or1 (pt_cmpR op_ne (pe_callB (r := rRepr K) (call_reprD gA hr.units) (by rfl) T.repr (by decide +kernel) (pa_cons (pv 5) pa_nil)) (pe_callB (r := rRepr K) (call_reprD gA hr.units) (by rfl) T.repr (by decide +kernel) (pa_cons (pv 2) pa_nil)) (nomark _))))))
            (pss_one (ps_ret pe_bl)) pss_nil)
            (pss_one (ps_ret (pe_and (pe_cmpR op_eq (pe_xf XB.xf nW hz hf (pv 6)) (pv 3) (nomark _)) (pe_one (pe_cmpR op_eq (pe_xf XB.xf nV' hz hf (pv 6)) (pv 4) (nomark _))))))))))
      (pss_one (ps_ret pe_bl))))), ?_⟩
    refine ⟨_, rfl, _, rfl, _, rfl, a, us, qs, n, m, rfl, SqL.of ha, hT, nf, fun wd z t H1 s1 et fl => ?_⟩
    refine ⟨t, _, rfl, SqT.of et, rfl, _, _, rfl, _, _, rfl, rfl, ?_⟩
    refine ⟨_, rfl, a, _, rfl, .inl (s1.seq (SqL.of ha)), fun pl npl => ?_⟩
    have s2 : Same H1 (upd H1 pl (.lst us)) := (Same.refl H1).new npl
    have epl : (upd H1 pl (.lst us)) pl = some (.lst us) := upd_same
    generalize upd H1 pl (.lst us) = H2 at s2 epl ⊢
    have t2 := s1.trans s2
    refine ⟨_, rfl, _, rfl, _, rfl, n, m, pl, us, qs, rfl, Sq.of epl, hT.same t2, hn, hm, by omega, fun wd' z' fl' d H3 s3 nd ed => ?_, fun ps e wi => by subst e; exact (Flaw.bad wi nf).elim⟩
    obtain ⟨e1, e2⟩ := fl'.uniq fl
    subst e1 e2
    have t3 := t2.trans s3
    refine ⟨true, XB.te, fun _ x nx => ?_, fun z => Bool.noConfusion z⟩
    refine ⟨_, rfl, CN, _, _, true, rfl, ⟨rfl, XB.ec, d, _, rfl, ed⟩, .own CN, XB.kN, _, rfl, iteF ?_⟩
    refine ⟨_, rfl, (by show 3 ≤ sizeLine; decide), fun tp ntp => ?_⟩
    have s4 : Same H3 (upd H3 tp (.tup [.ref CD, .ref CT, .ref CU])) := (Same.refl H3).new ntp
    have etp : (upd H3 tp (.tup [.ref CD, .ref CT, .ref CU])) tp = some (.tup [.ref CD, .ref CT, .ref CU]) := upd_same
    generalize upd H3 tp (.tup [.ref CD, .ref CT, .ref CU]) = H4 at s4 etp ⊢
    have ed4 := s4 _ _ ed
    have t4 := t3.trans s4
    refine ⟨CN, tp, _, _, false, rfl, ⟨rfl, XB.ec, d, _, rfl, ed4⟩, etp, .cons (.own CD) (.cons (.own CT) (.cons (.own CU) .nil)), XB.kO, _, rfl, iteF ?_⟩
    refine ⟨_, rfl, rfl, rfl, d, _, _, rfl, ed4, lk_what, _, _, _, _, true, rfl, .ty "str", .base (.str _), kit_ty (by decide +kernel), _, rfl, iteF ?_⟩
    refine ⟨_, rfl, rfl, rfl, d, _, _, rfl, ed4, lk_value, _, rfl, _, rfl, iteF ?_⟩
    refine ⟨_, rfl, pl, _, rfl, dpPs (SqL.of ((s3.trans s4) _ _ epl)) (hT.same t4), S1.sh, S1.nd, S1.dp, S1.sz, _, rfl, a, _, rfl, dpPs (SqL.of (t4 _ _ ha)) (hT.same t4), S1.sh, S1.nd, S1.dp, S1.sz, rfl, _, rfl, ?_⟩
    rw [decide_eq_true rfl]
    refine iteF ?_
    refine ⟨_, rfl, rfl, rfl, d, _, _, rfl, ed4, lk_what, _, rfl, rfl, _, rfl, ?_⟩
    rw [decide_eq_true rfl]
    refine iteT ⟨_, rfl, rfl, rfl, d, _, _, rfl, ed4, lk_value, _, rfl, rfl, ?_⟩
    rw [decide_eq_true rfl]
    exact q H4 t4
/-! ### the law -/
def sp_law (K : PySem.W.Frag) : Sp := fun vs H Q _ => ∃ (a : Addr) (ns : List Int), vs = [.ref a] ∧ SqL K H a (ns.map V.int) ∧ ns.length ≤ 63 ∧ ∀ H', Q (.bl true) H'
theorem eqK {k j : Nat} : decide (nV k = V.int (j : Int)) = decide (k = j) := decide_eq_decide.mpr ⟨fun z => by have := V.int.inj z; omega, fun z => by rw [z]⟩
theorem ok_law {f f1 f2 f3 f4 f5 f6 f7 f8 f9 fA fB fC fD : Addr} {fd fd1 fd2 fd3 fd4 fd5 fd6 fd7 fd8 fd9 fdA fdB fdC fdD : FuncData} (F : Fun K "law" "law" slaw f fd) (T : Txt mg) (C_law_draws : Cal P w K mg base 1 "_law_draws" ["cell", "sizes"] (sp_draws K) f1 fd1) (C_law_cell : Cal P w K mg base 1 "_law_cell" ["script", "k"] (sp_cell K) f2 fd2)
    (C_law_large : Cal P w K mg base 3 "_law_large" ["script"] (sp_large K) f3 fd3) (C_law_any_pairs : Cal P w K mg base 2 "_law_any_pairs" ["script"] (sp_psel K 40 60) f4 fd4) (C_law_small : Cal P w K mg base 2 "_law_small" ["script"] (sp_psel K 6 14) f5 fd5) (C_law_due : Cal P w K mg base 2 "_law_due" ["lefts", "rights", "pairs"] (sp_due K) f6 fd6)
    (C_law_is_matching : Cal P w K mg base 2 "_law_is_matching" ["told", "pairs", "size"] (sp_ismat K) f7 fd7) (C_law_by_chains : Cal P w K mg base 1 "_law_by_chains" ["lefts", "rights", "pairs", "matching"] (sp_chains K) f8 fd8) (C_law_right : Cal P w K mg base 3 "_law_right" ["told", "pairs", "due"] (sp_right K) f9 fd9)
    (C_law_answered : CalG P w K mg base 5 "_law_answered" ["lefts", "rights", "pairs", "due"] (sp_answered K) fA fdA) (C_law_flawed : Cal P w K mg base 2 "_law_flawed" ["script", "lefts", "rights", "pairs"] (sp_flawed K) fB fdB) (C_law_refused : CalG P w K mg base 5 "_law_refused" ["lefts", "rights", "rows"] (sp_refused K) fC fdC)
    (Cmatch_and_cover : CalX P w K mg base 4 "match_and_cover" ["lefts", "rights", "pairs"] (sp_match K CN) fD fdD) : FnOkG P w K mg base 6 f fd ["script"] (sp_law K) := by
  refine F.okG sclaw (fun vs H Q E h => ?_) (fun cdv A outer s H vs Q E gA0 hr h => ?_)
  · obtain ⟨a, ns, rfl, _⟩ := h
    rfl
  · obtain ⟨a, ns, rfl, hS, hns, q⟩ := h
    have gA : (A.deeper (envOfC "law" (defScope slaw) s.heap.objs.size f cdv)).guards = some [] := gA0
    refine ⟨_, (pss_cons (ps_set (i := 1) sclaw.nd rfl (.inl rfl) (pe_ix ix_list (pe_call C_law_draws.ok (hr.mono (by decide)) (by rfl) C_law_draws.mg C_law_draws.kp C_law_draws.b .nil pass0 (pa_cons (pe_call C_law_cell.ok (hr.mono (by decide)) (by rfl) C_law_cell.mg C_law_cell.kp C_law_cell.b .nil pass0 (pa_cons (pv 0) (pa_cons pe_int pa_nil))) (pa_cons (pe_lst (pa_cons pe_int pa_nil)) pa_nil))) pe_int (fun _ _ => rfl)))
 (pss_cons (ps_if (pt_cmpR op_eq (pv 1) pe_int (nomark _))
 (pss_one (ps_asg (pe_call C_law_large.ok (hr.mono (by decide)) (by rfl) C_law_large.mg C_law_large.kp C_law_large.b .nil pass0 (pa_cons (pv 0) pa_nil)) (pg_tup rfl (pgs_cons (pg_name (i := 2) sclaw.nd rfl (.inl rfl)) (pgs_cons (pg_name (i := 3) sclaw.nd rfl (.inl rfl)) (pgs_cons (pg_name (i := 4) sclaw.nd rfl (.inl rfl)) (pgs_cons (pg_name (i := 5) sclaw.nd rfl (.inl rfl)) pgs_nil)))))))
 (pss_one (ps_if (pt_cmpR op_eq (pv 1) pe_int (nomark _))
 (pss_cons (ps_asg (pe_call C_law_any_pairs.ok (hr.mono (by decide)) (by rfl) C_law_any_pairs.mg C_law_any_pairs.kp C_law_any_pairs.b .nil pass0 (pa_cons (pv 0) pa_nil)) (pg_tup rfl (pgs_cons (pg_name (i := 2) sclaw.nd rfl (.inl rfl)) (pgs_cons (pg_name (i := 3) sclaw.nd rfl (.inl rfl)) (pgs_cons (pg_name (i := 4) sclaw.nd rfl (.inl rfl)) pgs_nil)))))
 (pss_cons (ps_set (i := 6) sclaw.nd rfl (.inl rfl) (pe_call Cmatch_and_cover.ok (hr.mono (by decide)) (by rfl) Cmatch_and_cover.mg Cmatch_and_cover.kp Cmatch_and_cover.b .nil passL (pa_cons (pv 2) (pa_cons (pv 3) (pa_cons (pe_callTy call_list_of (by rfl) T.list (by decide +kernel) (pa_cons (pv 4) pa_nil)) pa_nil)))))
 (pss_cons (ps_if (PW.pt (pw_or (pt_not (pt_val (pe_callB call_isi (by rfl) T.isinstance (by decide +kernel) (pa_cons (pv 6) (pa_cons (pe_bltn (v := .ty "tuple") (by rfl) T.tuple (by decide +kernel) rfl) pa_nil))))) (pw_or (pt_cmpR op_ne (pe_callB call_len_seq (by rfl) T.len (by decide +kernel) (pa_cons (pv 6) pa_nil)) pe_int (nomark _)) (pw_or1 (pt_not (pt_val (pe_callB call_isi (by rfl) T.isinstance (by decide +kernel) (pa_cons (pe_ix ix_tup (pv 6) pe_int (fun _ _ => rfl)) (pa_cons (pe_bltn (v := .ty "list") (by rfl) T.list (by decide +kernel) rfl) pa_nil)))))))))
 (pss_one (ps_ret pe_bl))
 pss_nil)
 (pss_cons (ps_if (pt_not (pt_val (pe_call C_law_is_matching.ok (hr.mono (by decide)) (by rfl) C_law_is_matching.mg C_law_is_matching.kp C_law_is_matching.b .nil pass0 (pa_cons (pe_ix ix_tup (pv 6) pe_int (fun _ _ => rfl)) (pa_cons (pv 4) (pa_cons (pe_callB call_len_seq (by rfl) T.len (by decide +kernel) (pa_cons (pe_ix ix_tup (pv 6) pe_int (fun _ _ => rfl)) pa_nil)) pa_nil))))))
 (pss_one (ps_ret pe_bl))
 pss_nil)
 (pss_cons (ps_set (i := 5) sclaw.nd rfl (.inl rfl) (pe_call C_law_by_chains.ok (hr.mono (by decide)) (by rfl) C_law_by_chains.mg C_law_by_chains.kp C_law_by_chains.b .nil pass0 (pa_cons (pv 2) (pa_cons (pv 3) (pa_cons (pv 4) (pa_cons (pe_ix ix_tup (pv 6) pe_int (fun _ _ => rfl)) pa_nil))))))
 (pss_one (ps_if (pt_not (pt_val (pe_call C_law_right.ok (hr.mono (by decide)) (by rfl) C_law_right.mg C_law_right.kp C_law_right.b .nil pass0 (pa_cons (pv 6) (pa_cons (pv 4) (pa_cons (pv 5) pa_nil))))))
 (pss_one (ps_ret pe_bl))
 pss_nil)))))))
 (pss_cons (ps_asg (pe_call C_law_small.ok (hr.mono (by decide)) (by rfl) C_law_small.mg C_law_small.kp C_law_small.b .nil pass0 (pa_cons (pv 0) pa_nil)) (pg_tup rfl (pgs_cons (pg_name (i := 2) sclaw.nd rfl (.inl rfl)) (pgs_cons (pg_name (i := 3) sclaw.nd rfl (.inl rfl)) (pgs_cons (pg_name (i := 4) sclaw.nd rfl (.inl rfl)) pgs_nil)))))
 (pss_one (ps_set (i := 5) sclaw.nd rfl (.inl rfl) (pe_call C_law_due.ok (hr.mono (by decide)) (by rfl) C_law_due.mg C_law_due.kp C_law_due.b .nil pass0 (pa_cons (pv 2) (pa_cons (pv 3) (pa_cons (pv 4) pa_nil))))))))))
 (pss_cons (ps_if (pt_not (pt_val (pe_callG C_law_answered.ok gA (hr.mono (by decide)) (by rfl) C_law_answered.mg C_law_answered.kp C_law_answered.b (pa_cons (pv 2) (pa_cons (pv 3) (pa_cons (pv 4) (pa_cons (pv 5) pa_nil)))))))
 (pss_one (ps_ret pe_bl))
 pss_nil)
 (pss_cons (ps_if (pt_not (pt_val (pe_callG C_law_refused.ok gA (hr.mono (by decide)) (by rfl) C_law_refused.mg C_law_refused.kp C_law_refused.b (pa_cons (pv 2) (pa_cons (pv 3) (pa_cons (pe_call C_law_flawed.ok (hr.mono (by decide)) (by rfl) C_law_flawed.mg C_law_flawed.kp C_law_flawed.b .nil pass0 (pa_cons (pv 0) (pa_cons (pv 2) (pa_cons (pv 3) (pa_cons (pv 4) pa_nil))))) pa_nil))))))
 (pss_one (ps_ret pe_bl))
 pss_nil)
 (pss_one (ps_ret (pe_call C_law_right.ok (hr.mono (by decide)) (by rfl) C_law_right.mg C_law_right.kp C_law_right.b .nil pass0 (pa_cons (pe_call Cmatch_and_cover.ok (hr.mono (by decide)) (by rfl) Cmatch_and_cover.mg Cmatch_and_cover.kp Cmatch_and_cover.b .nil passL (pa_cons (pv 2) (pa_cons (pv 3) (pa_cons (pe_callTy call_list_of (by rfl) T.list (by decide +kernel) (pa_cons (pv 4) pa_nil)) pa_nil)))) (pa_cons (pv 4) (pa_cons (pv 5) pa_nil)))))))))), ?_⟩
    refine asgN ⟨_, rfl, a, ns, 0, rfl, hS, hns, by decide, fun c0 H0 s0 => ⟨(by show 1 ≤ sizeLine; decide), fun z0 nz0 => ⟨z0, c0, [8], rfl, SqL.of upd_same, by decide, by decide, fun dp ds H2 s2 ndp edp dr => ?_⟩⟩⟩
    obtain ⟨kd, rfl, b0⟩ : ∃ kd, ds = [kd] ∧ kd < 8 := by
      cases dr with | cons h0 dr => cases dr with | nil => exact ⟨_, rfl, h0⟩
    refine ⟨dp, _, 0, nV kd, rfl, rfl, SqL.of edp, at_n (j := 0) rfl, fun σ' e => ?_⟩
    obtain rfl : σ' = [some (.ref a), some (nV kd), none, none, none, none, none] := e.symm
    clear e
    have t2 : Same H H2 := (s0.new nz0).trans s2
    have hS2 := t2.seq hS
    refine seqM (fun σ H' => ∃ (v6 : Option V) (n m : Nat) (p r : Addr) (us : List V) (ps : K02.PL) (B : Nat → Bool) (sz : Nat) (y z : Addr), σ = [some (.ref a), some (nV kd), some (nV n), some (nV m), some (.ref p), some (.ref r), v6] ∧ Same H H' ∧ H' p = some (.lst us) ∧ PI K H' us (upP ps) ∧ In2 n m ps ∧ n ≤ 100 ∧ m ≤ 100 ∧ ps.length ≤ 200 ∧ DueAt K H' n m ps B sz y z r) (fun N qN => ?_) ?_
    · refine Dc.ifS (b := decide (kd = 1)) (fun Q q => ⟨_, rfl, rfl, _, rfl, by rw [show (1 : Int) = ((1 : Nat) : Int) from rfl, eqK]; exact q⟩) (fun _ => ?_) (fun _ => Dc.ifS (b := decide (kd = 3)) (fun Q q => ⟨_, rfl, rfl, _, rfl, by rw [show (3 : Int) = ((3 : Nat) : Int) from rfl, eqK]; exact q⟩) (fun _ => ?_) (fun _ => ?_))
      · refine ⟨_, rfl, a, ns, rfl, hS2, hns, fun t p us n m ps B sz y z r H3 s3 et ep hP wi hn hm hl due => ?_⟩
        exact ⟨t, _, rfl, SqT.of et, rfl, _, _, rfl, _, _, rfl, _, _, rfl, _, _, rfl, rfl, qN _ _ ⟨none, n, m, p, r, us, ps, B, sz, y, z, rfl, t2.trans s3, ep, hP, wi, by omega, by omega, by omega, due⟩⟩
      · refine ⟨_, rfl, a, ns, rfl, hS2, hns, fun t p us n m ps H3 s3 et _ ep hP wi hn hm hl => ?_⟩
        refine ⟨t, _, rfl, SqT.of et, rfl, _, _, rfl, _, _, rfl, _, _, rfl, rfl, ?_⟩
        refine ⟨_, rfl, _, rfl, _, rfl, p, us, rfl, .inl (SqL.of ep), fun l nl => ?_⟩
        have s4 : Same H3 (upd H3 l (.lst us)) := (Same.refl H3).new nl
        have el : (upd H3 l (.lst us)) l = some (.lst us) := upd_same
        generalize upd H3 l (.lst us) = H4 at s4 el ⊢
        refine ⟨n, m, l, us, upP ps, rfl, Sq.of el, hP.same s4, by omega, by omega, by rw [upP_len]; omega, fun wd z f => (f.no wi).elim, fun ps' e wi' ms Z x y z us2 r1 H5 s5 _ _ _ _ at5 tl => ?_⟩
        obtain rfl := upP_inj e
        have s35 := s4.trans s5
        have er := at5.r
        have mln : ms.length ≤ n := by
          have := K02.nodup_len n (ms.map (·.1)) tl.mat.n1 fun l hl => by
            obtain ⟨q, hq, rfl⟩ := List.mem_map.mp hl
            exact (wi q (tl.mat.sub q hq)).1
          rwa [List.length_map] at this
        refine ⟨_, rfl, _, _, _, _, true, rfl, .ty "tuple", .base (.tup er), kit_ty (by decide +kernel), _, rfl, iteF ⟨_, rfl, r1, _, rfl, .inr (SqT.of er), rfl, _, rfl, ?_⟩⟩
        rw [decide_eq_true (show V.int (([.ref x, .ref y, .ref z] : List V).length : Int) = V.int 3 from rfl)]
        refine iteF ⟨_, rfl, r1, _, 0, .ref x, rfl, rfl, SqT.of er, rfl, _, _, _, _, true, rfl, .ty "list", .base (.lst at5.x), kit_ty (by decide +kernel), _, rfl, iteF ?_⟩
        refine ⟨_, rfl, r1, _, 0, .ref x, rfl, rfl, SqT.of er, rfl, _, rfl, _, rfl, r1, _, 0, .ref x, rfl, rfl, SqT.of er, rfl, x, _, rfl, .inl (SqL.of at5.x), x, p, us2, us, ms, _, (by rw [P_len at5.p]; rfl), at5.x, at5.p, SqL.of (s35 _ _ ep), hP.same s35, fun q hq => tl.mat.sub q hq, tl.asc, tl.mat.n2, by omega, fun H6 s6 => ⟨_, rfl, iteF ?_⟩⟩
        have at6 := at5.same s6
        have s36 := s35.trans s6
        refine ⟨_, rfl, _, rfl, _, rfl, _, rfl, r1, _, 0, .ref x, rfl, rfl, SqT.of at6.r, rfl, n, m, p, x, us, us2, _, ms, Z, rfl, SqL.of (s36 _ _ ep), hP.same s36, at6.x, at6.p, wi, by omega, by omega, by omega, tl.mat, tl.zl, fun r y' z' sz H7 s7 due => ?_⟩
        have s37 := s36.trans s7
        refine ⟨_, rfl, _, rfl, _, rfl, r1, p, r, n, m, _, _, ms, Z, Z, x, y, z, y', z', us2, us, sz, rfl, at6.same s7, tl, wi, by omega, by omega, SqL.of (s37 _ _ ep), hP.same s37, fun q h => h, due, fun H8 s8 => ⟨_, rfl, iteF (qN _ _ ⟨_, n, m, p, r, us, _, Z, sz, y', z', rfl, (t2.trans s3).trans (s37.trans s8), (s37.trans s8) _ _ ep, hP.same (s37.trans s8), wi, by omega, by omega, by omega, due.same s8⟩)⟩⟩
      · refine ⟨_, rfl, a, ns, rfl, hS2, hns, fun t p us n m ps H3 s3 et _ ep hP wi hn hm hl => ?_⟩
        refine ⟨t, _, rfl, SqT.of et, rfl, _, _, rfl, _, _, rfl, _, _, rfl, rfl, ?_⟩
        exact ⟨_, rfl, _, rfl, _, rfl, n, m, p, us, ps, rfl, SqL.of ep, hP, wi, hn, by omega, by omega, fun r y z B sz H4 s4 due => qN _ _ ⟨none, n, m, p, r, us, ps, B, sz, y, z, rfl, (t2.trans s3).trans s4, s4 _ _ ep, hP.same s4, wi, by omega, by omega, by omega, due⟩⟩
    rintro σ H3 ⟨v6, n, m, p, r, us, ps, B, sz, y, z, rfl, t3, ep, hP, wi, hn, hm, hl, due⟩
    refine ⟨_, rfl, _, rfl, _, rfl, _, rfl, n, m, p, r, us, ps, B, sz, y, z, rfl, ep, hP, wi, hn, hm, hl, due, fun H4 s4 => ⟨_, rfl, iteF ?_⟩⟩
    refine ⟨_, rfl, _, rfl, _, rfl, _, rfl, _, rfl, _, rfl, a, p, ns, n, m, us, ps, rfl, (t3.trans s4).seq hS, hns, s4 _ _ ep, hP.same s4, wi, hn, hm, hl, fun rx us2 qs H5 s5 _ erx hPq mid len bad => ⟨rx, us2, qs, n, m, rfl, erx, hPq, len, hn, hm, mid, bad, fun H6 s6 => ⟨_, rfl, iteF ?_⟩⟩⟩
    have s36 := (s4.trans s5).trans s6
    refine ⟨_, rfl, _, rfl, _, rfl, p, us, rfl, .inl (SqL.of (s36 _ _ ep)), fun l nl => ?_⟩
    have s7 : Same H6 (upd H6 l (.lst us)) := (Same.refl H6).new nl
    have el : (upd H6 l (.lst us)) l = some (.lst us) := upd_same
    generalize upd H6 l (.lst us) = H7 at s7 el ⊢
    have s37 := s36.trans s7
    refine ⟨n, m, l, us, upP ps, rfl, Sq.of el, hP.same s37, hn, hm, by rw [upP_len]; omega, fun wd z f => (f.no wi).elim, fun ps' e wi' ms Z x y2 z2 us2 r1 H8 s8 _ _ _ _ at8 tl => ?_⟩
    obtain rfl := upP_inj e
    have s38 := s37.trans s8
    exact ⟨_, rfl, _, rfl, r1, p, r, n, m, _, _, ms, Z, B, x, y2, z2, y, z, us2, us, sz, rfl, at8, tl, wi, hn, hm, SqL.of (s38 _ _ ep), hP.same s38, fun q h => h, due.same s38, fun H9 s9 => q H9⟩
end
end K26W

namespace K26W
open PySem PySem.Spec PyProof.Rows L2 KH KD KP K26
theorem kit_self {K : PySem.W.Frag} {C : Addr} : PySem.W.kitOne K (.ref C) (.ref C) = some true := by
  unfold PySem.W.kitOne
  rw [if_pos (by simp)]
theorem kit_other {K : PySem.W.Frag} {C D : Addr} {b : Bool} (ne : C ≠ D) (h : PySem.W.subIn K (.ref D) (.type "BaseException") = some true) (e : PySem.W.exmOne K (.ref C) (.ref D) = some b) : PySem.W.kitOne K (.ref C) (.ref D) = some b := by
  unfold PySem.W.exmOne at e
  have e1 : (PySem.W.subIn K (.ref D) (.type "BaseException") == some true) = true := by rw [h] <;> rfl
  rw [if_pos e1] at e
  unfold PySem.W.kitOne
  rw [if_neg (by simp [ne])]
  exact e
theorem all_mk {l : PySem.W.OpenLaw} {w : World} {K : PySem.W.Frag} {h : Heap} {mg : Str → Option Value} {fa f0 f1 f2 f3 f4 f5 f6 f7 f8 f9 f10 f11 f12 f13 f14 f15 f16 f17 f18 f19 f20 f21 f22 f23 : Addr} (X : K.In h) (G : h.Ns mainGlobals mg) (hfa : mg "law" = some (.ref fa))
    {od0 an0 od1 an1 od2 an2 od3 an3 od4 an4 od5 an5 od6 an6 od7 an7 od8 an8 od9 an9 od10 an10 od11 an11 od12 an12 od13 an13 od14 an14 od15 an15 od16 an16 od17 an17 od18 an18 od19 an19 od20 an20 od21 an21 od22 an22 od23 an23 odI anI cddI cldI : Option Addr} {sl0 sl1 sl2 sl3 sl4 sl5 sl6 sl7 sl8 sl9 sl10 sl11 sl12 sl13 sl14 sl15 sl16 sl17 sl18 sl19 sl20 sl21 sl22 sl23 slI csI clsI : Array (Option Value)} {vsI : Array Value} {oc0 kV0 dc0 pm0 cd0 ct0 oc1 kV1 dc1 pm1 cd1 ct1 oc2 kV2 dc2 pm2 cd2 ct2 oc3 kV3 dc3 pm3 cd3 ct3 oc4 kV4 dc4 pm4 cd4 ct4 oc5 kV5 dc5 pm5 cd5 ct5 oc6 kV6 dc6 pm6 cd6 ct6 oc7 kV7 dc7 pm7 cd7 ct7 oc8 kV8 dc8 pm8 cd8 ct8 oc9 kV9 dc9 pm9 cd9 ct9 oc10 kV10 dc10 pm10 cd10 ct10 oc11 kV11 dc11 pm11 cd11 ct11 oc12 kV12 dc12 pm12 cd12 ct12 oc13 kV13 dc13 pm13 cd13 ct13 oc14 kV14 dc14 pm14 cd14 ct14 oc15 kV15 dc15 pm15 cd15 ct15 oc16 kV16 dc16 pm16 cd16 ct16 oc17 kV17 dc17 pm17 cd17 ct17 oc18 kV18 dc18 pm18 cd18 ct18 oc19 kV19 dc19 pm19 cd19 ct19 oc20 kV20 dc20 pm20 cd20 ct20 oc21 kV21 dc21 pm21 cd21 ct21 oc22 kV22 dc22 pm22 cd22 ct22 oc23 kV23 dc23 pm23 cd23 ct23 ocI kVI dcI pmI ctI cclI clI : Value} {tf : Tok} {file : Str}
    {CN CB CD CT CU fI cda cc N : Addr} {nm qn : Str} {bs sub : List Value} {sn : List Str} {ab : Bool} {col : Option Bool} {dd : Option Addr} {m0 m1 m2 m3 m5 : Option Value}
    (a0 : PySem.W.nsIn K mainGlobals "_law_cell" = some (some (.ref f0)))
    (l0 : K.lookup f0 = some ⟨oc0, od0, .func (PySem.W.fnOf "_law_cell" "_law_cell" (defArgs s_law_cell) (defBody s_law_cell) (defScope s_law_cell) .none kV0 dc0 pm0 an0 cd0 ct0), sl0⟩)
    (c0 : PySem.W.codeIn K cd0 "_law_cell" = true)
    (k0 : PySem.W.keepIn K (.ref f0) = true)
    (a1 : PySem.W.nsIn K mainGlobals "_law_draws" = some (some (.ref f1)))
    (l1 : K.lookup f1 = some ⟨oc1, od1, .func (PySem.W.fnOf "_law_draws" "_law_draws" (defArgs s_law_draws) (defBody s_law_draws) (defScope s_law_draws) .none kV1 dc1 pm1 an1 cd1 ct1), sl1⟩)
    (c1 : PySem.W.codeIn K cd1 "_law_draws" = true)
    (k1 : PySem.W.keepIn K (.ref f1) = true)
    (a2 : PySem.W.nsIn K mainGlobals "_neighbours" = some (some (.ref f2)))
    (l2 : K.lookup f2 = some ⟨oc2, od2, .func (PySem.W.fnOf "_neighbours" "_neighbours" (defArgs s_neighbours) (defBody s_neighbours) (defScope s_neighbours) .none kV2 dc2 pm2 an2 cd2 ct2), sl2⟩)
    (c2 : PySem.W.codeIn K cd2 "_neighbours" = true)
    (k2 : PySem.W.keepIn K (.ref f2) = true)
    (a3 : PySem.W.nsIn K mainGlobals "_exchange" = some (some (.ref f3)))
    (l3 : K.lookup f3 = some ⟨oc3, od3, .func (PySem.W.fnOf "_exchange" "_exchange" (defArgs s_exchange) (defBody s_exchange) (defScope s_exchange) .none kV3 dc3 pm3 an3 cd3 ct3), sl3⟩)
    (c3 : PySem.W.codeIn K cd3 "_exchange" = true)
    (k3 : PySem.W.keepIn K (.ref f3) = true)
    (a4 : PySem.W.nsIn K mainGlobals "_give_partner" = some (some (.ref f4)))
    (l4 : K.lookup f4 = some ⟨oc4, od4, .func (PySem.W.fnOf "_give_partner" "_give_partner" (defArgs s_give_partner) (defBody s_give_partner) (defScope s_give_partner) .none kV4 dc4 pm4 an4 cd4 ct4), sl4⟩)
    (c4 : PySem.W.codeIn K cd4 "_give_partner" = true)
    (k4 : PySem.W.keepIn K (.ref f4) = true)
    (a5 : PySem.W.nsIn K mainGlobals "_reached" = some (some (.ref f5)))
    (l5 : K.lookup f5 = some ⟨oc5, od5, .func (PySem.W.fnOf "_reached" "_reached" (defArgs s_reached) (defBody s_reached) (defScope s_reached) .none kV5 dc5 pm5 an5 cd5 ct5), sl5⟩)
    (c5 : PySem.W.codeIn K cd5 "_reached" = true)
    (k5 : PySem.W.keepIn K (.ref f5) = true)
    (a6 : PySem.W.nsIn K mainGlobals "match_and_cover" = some (some (.ref f6)))
    (l6 : K.lookup f6 = some ⟨oc6, od6, .func (PySem.W.fnOf "match_and_cover" "match_and_cover" (defArgs smatch_and_cover) (defBody smatch_and_cover) (defScope smatch_and_cover) .none kV6 dc6 pm6 an6 cd6 ct6), sl6⟩)
    (c6 : PySem.W.codeIn K cd6 "match_and_cover" = true)
    (k6 : PySem.W.keepIn K (.ref f6) = true)
    (a7 : PySem.W.nsIn K mainGlobals "_law_order" = some (some (.ref f7)))
    (l7 : K.lookup f7 = some ⟨oc7, od7, .func (PySem.W.fnOf "_law_order" "_law_order" (defArgs s_law_order) (defBody s_law_order) (defScope s_law_order) .none kV7 dc7 pm7 an7 cd7 ct7), sl7⟩)
    (c7 : PySem.W.codeIn K cd7 "_law_order" = true)
    (k7 : PySem.W.keepIn K (.ref f7) = true)
    (a8 : PySem.W.nsIn K mainGlobals "_law_small" = some (some (.ref f8)))
    (l8 : K.lookup f8 = some ⟨oc8, od8, .func (PySem.W.fnOf "_law_small" "_law_small" (defArgs s_law_small) (defBody s_law_small) (defScope s_law_small) .none kV8 dc8 pm8 an8 cd8 ct8), sl8⟩)
    (c8 : PySem.W.codeIn K cd8 "_law_small" = true)
    (k8 : PySem.W.keepIn K (.ref f8) = true)
    (a9 : PySem.W.nsIn K mainGlobals "_law_rights_of" = some (some (.ref f9)))
    (l9 : K.lookup f9 = some ⟨oc9, od9, .func (PySem.W.fnOf "_law_rights_of" "_law_rights_of" (defArgs s_law_rights_of) (defBody s_law_rights_of) (defScope s_law_rights_of) .none kV9 dc9 pm9 an9 cd9 ct9), sl9⟩)
    (c9 : PySem.W.codeIn K cd9 "_law_rights_of" = true)
    (k9 : PySem.W.keepIn K (.ref f9) = true)
    (a10 : PySem.W.nsIn K mainGlobals "_law_due" = some (some (.ref f10)))
    (l10 : K.lookup f10 = some ⟨oc10, od10, .func (PySem.W.fnOf "_law_due" "_law_due" (defArgs s_law_due) (defBody s_law_due) (defScope s_law_due) .none kV10 dc10 pm10 an10 cd10 ct10), sl10⟩)
    (c10 : PySem.W.codeIn K cd10 "_law_due" = true)
    (k10 : PySem.W.keepIn K (.ref f10) = true)
    (a11 : PySem.W.nsIn K mainGlobals "_law_line" = some (some (.ref f11)))
    (l11 : K.lookup f11 = some ⟨oc11, od11, .func (PySem.W.fnOf "_law_line" "_law_line" (defArgs s_law_line) (defBody s_law_line) (defScope s_law_line) .none kV11 dc11 pm11 an11 cd11 ct11), sl11⟩)
    (c11 : PySem.W.codeIn K cd11 "_law_line" = true)
    (k11 : PySem.W.keepIn K (.ref f11) = true)
    (a12 : PySem.W.nsIn K mainGlobals "_law_large" = some (some (.ref f12)))
    (l12 : K.lookup f12 = some ⟨oc12, od12, .func (PySem.W.fnOf "_law_large" "_law_large" (defArgs s_law_large) (defBody s_law_large) (defScope s_law_large) .none kV12 dc12 pm12 an12 cd12 ct12), sl12⟩)
    (c12 : PySem.W.codeIn K cd12 "_law_large" = true)
    (k12 : PySem.W.keepIn K (.ref f12) = true)
    (a13 : PySem.W.nsIn K mainGlobals "_law_any_pairs" = some (some (.ref f13)))
    (l13 : K.lookup f13 = some ⟨oc13, od13, .func (PySem.W.fnOf "_law_any_pairs" "_law_any_pairs" (defArgs s_law_any_pairs) (defBody s_law_any_pairs) (defScope s_law_any_pairs) .none kV13 dc13 pm13 an13 cd13 ct13), sl13⟩)
    (c13 : PySem.W.codeIn K cd13 "_law_any_pairs" = true)
    (k13 : PySem.W.keepIn K (.ref f13) = true)
    (a14 : PySem.W.nsIn K mainGlobals "_law_by_chains" = some (some (.ref f14)))
    (l14 : K.lookup f14 = some ⟨oc14, od14, .func (PySem.W.fnOf "_law_by_chains" "_law_by_chains" (defArgs s_law_by_chains) (defBody s_law_by_chains) (defScope s_law_by_chains) .none kV14 dc14 pm14 an14 cd14 ct14), sl14⟩)
    (c14 : PySem.W.codeIn K cd14 "_law_by_chains" = true)
    (k14 : PySem.W.keepIn K (.ref f14) = true)
    (a15 : PySem.W.nsIn K mainGlobals "_law_number" = some (some (.ref f15)))
    (l15 : K.lookup f15 = some ⟨oc15, od15, .func (PySem.W.fnOf "_law_number" "_law_number" (defArgs s_law_number) (defBody s_law_number) (defScope s_law_number) .none kV15 dc15 pm15 an15 cd15 ct15), sl15⟩)
    (c15 : PySem.W.codeIn K cd15 "_law_number" = true)
    (k15 : PySem.W.keepIn K (.ref f15) = true)
    (a16 : PySem.W.nsIn K mainGlobals "_law_same" = some (some (.ref f16)))
    (l16 : K.lookup f16 = some ⟨oc16, od16, .func (PySem.W.fnOf "_law_same" "_law_same" (defArgs s_law_same) (defBody s_law_same) (defScope s_law_same) .none kV16 dc16 pm16 an16 cd16 ct16), sl16⟩)
    (c16 : PySem.W.codeIn K cd16 "_law_same" = true)
    (k16 : PySem.W.keepIn K (.ref f16) = true)
    (a17 : PySem.W.nsIn K mainGlobals "_law_is_matching" = some (some (.ref f17)))
    (l17 : K.lookup f17 = some ⟨oc17, od17, .func (PySem.W.fnOf "_law_is_matching" "_law_is_matching" (defArgs s_law_is_matching) (defBody s_law_is_matching) (defScope s_law_is_matching) .none kV17 dc17 pm17 an17 cd17 ct17), sl17⟩)
    (c17 : PySem.W.codeIn K cd17 "_law_is_matching" = true)
    (k17 : PySem.W.keepIn K (.ref f17) = true)
    (a18 : PySem.W.nsIn K mainGlobals "_law_right" = some (some (.ref f18)))
    (l18 : K.lookup f18 = some ⟨oc18, od18, .func (PySem.W.fnOf "_law_right" "_law_right" (defArgs s_law_right) (defBody s_law_right) (defScope s_law_right) .none kV18 dc18 pm18 an18 cd18 ct18), sl18⟩)
    (c18 : PySem.W.codeIn K cd18 "_law_right" = true)
    (k18 : PySem.W.keepIn K (.ref f18) = true)
    (a19 : PySem.W.nsIn K mainGlobals "_law_answered" = some (some (.ref f19)))
    (l19 : K.lookup f19 = some ⟨oc19, od19, .func (PySem.W.fnOf "_law_answered" "_law_answered" (defArgs s_law_answered) (defBody s_law_answered) (defScope s_law_answered) .none kV19 dc19 pm19 an19 cd19 ct19), sl19⟩)
    (c19 : PySem.W.codeIn K cd19 "_law_answered" = true)
    (k19 : PySem.W.keepIn K (.ref f19) = true)
    (a20 : PySem.W.nsIn K mainGlobals "_law_flawed" = some (some (.ref f20)))
    (l20 : K.lookup f20 = some ⟨oc20, od20, .func (PySem.W.fnOf "_law_flawed" "_law_flawed" (defArgs s_law_flawed) (defBody s_law_flawed) (defScope s_law_flawed) .none kV20 dc20 pm20 an20 cd20 ct20), sl20⟩)
    (c20 : PySem.W.codeIn K cd20 "_law_flawed" = true)
    (k20 : PySem.W.keepIn K (.ref f20) = true)
    (a21 : PySem.W.nsIn K mainGlobals "_law_first_flaw" = some (some (.ref f21)))
    (l21 : K.lookup f21 = some ⟨oc21, od21, .func (PySem.W.fnOf "_law_first_flaw" "_law_first_flaw" (defArgs s_law_first_flaw) (defBody s_law_first_flaw) (defScope s_law_first_flaw) .none kV21 dc21 pm21 an21 cd21 ct21), sl21⟩)
    (c21 : PySem.W.codeIn K cd21 "_law_first_flaw" = true)
    (k21 : PySem.W.keepIn K (.ref f21) = true)
    (a22 : PySem.W.nsIn K mainGlobals "_law_refused" = some (some (.ref f22)))
    (l22 : K.lookup f22 = some ⟨oc22, od22, .func (PySem.W.fnOf "_law_refused" "_law_refused" (defArgs s_law_refused) (defBody s_law_refused) (defScope s_law_refused) .none kV22 dc22 pm22 an22 cd22 ct22), sl22⟩)
    (c22 : PySem.W.codeIn K cd22 "_law_refused" = true)
    (k22 : PySem.W.keepIn K (.ref f22) = true)
    (a23 : PySem.W.nsIn K mainGlobals "law" = some (some (.ref f23)))
    (l23 : K.lookup f23 = some ⟨oc23, od23, .func (PySem.W.fnOf "law" "law" (defArgs slaw) (defBody slaw) (defScope slaw) .none kV23 dc23 pm23 an23 cd23 ct23), sl23⟩)
    (c23 : PySem.W.codeIn K cd23 "law" = true)
    (k23 : PySem.W.keepIn K (.ref f23) = true)
    (z_len : PySem.W.nsIn K mainGlobals "len" = some none)
    (z_abs : PySem.W.nsIn K mainGlobals "abs" = some none)
    (z_int : PySem.W.nsIn K mainGlobals "int" = some none)
    (z_range : PySem.W.nsIn K mainGlobals "range" = some none)
    (z_list : PySem.W.nsIn K mainGlobals "list" = some none)
    (z_tuple : PySem.W.nsIn K mainGlobals "tuple" = some none)
    (z_max : PySem.W.nsIn K mainGlobals "max" = some none)
    (z_isinstance : PySem.W.nsIn K mainGlobals "isinstance" = some none)
    (z_bool : PySem.W.nsIn K mainGlobals "bool" = some none)
    (z_str : PySem.W.nsIn K mainGlobals "str" = some none)
    (z_repr : PySem.W.nsIn K mainGlobals "repr" = some none)
    (z_reversed : PySem.W.nsIn K mainGlobals "reversed" = some none)
    (z_sorted : PySem.W.nsIn K mainGlobals "sorted" = some none)
    (z_super : PySem.W.nsIn K mainGlobals "super" = some none)
    (aCN : PySem.W.nsIn K mainGlobals "BadNumber" = some (some (.ref CN)))
    (aCB : PySem.W.nsIn K mainGlobals "BusError" = some (some (.ref CB)))
    (aCD : PySem.W.nsIn K mainGlobals "Doubled" = some (some (.ref CD)))
    (aCT : PySem.W.nsIn K mainGlobals "TooMany" = some (some (.ref CT)))
    (aCU : PySem.W.nsIn K mainGlobals "Unknown" = some (some (.ref CU)))
    (xN : K.lookup CN = some (excClassObj nm qn CN N bs [.ref CB, .type "ValueError", .type "Exception", .type "BaseException", .type "object"] true sn sub ab col dd m0 m1 m2 m3 m5 "ValueError.__new__"))
    (sa : PySem.W.findIn K (.ref CN) "__setattr__" = some (some (.builtin "object.__setattr__")))
    (ga : PySem.W.findIn K (.ref CN) "__getattribute__" = some (some (.builtin "BaseException.__getattribute__")))
    (gg : PySem.W.findIn K (.ref CN) "__getattr__" = some none)
    (n1 : PySem.W.findIn K (.ref CN) "what" = some none)
    (n2 : PySem.W.findIn K (.ref CN) "value" = some none)
    (iC : PySem.W.findIn K (.ref CN) "__init__" = some (some (.ref fI)))
    (tI : PySem.W.typeIn K (.ref fI) = some (.type "function"))
    (kC : PySem.W.keepIn K (.ref CN) = true)
    (eCN : PySem.W.subIn K (.ref CN) (.type "BaseException") = some true)
    (tCN : PySem.W.typeIn K (.ref CN) = some (.type "type"))
    (hCN : PySem.W.hasDictIn K CN = true)
    (eCB : PySem.W.subIn K (.ref CB) (.type "BaseException") = some true)
    (tCB : PySem.W.typeIn K (.ref CB) = some (.type "type"))
    (hCB : PySem.W.hasDictIn K CB = true)
    (sCB : PySem.W.subIn K (.ref CN) (.ref CB) = some true)
    (eCD : PySem.W.subIn K (.ref CD) (.type "BaseException") = some true)
    (tCD : PySem.W.typeIn K (.ref CD) = some (.type "type"))
    (hCD : PySem.W.hasDictIn K CD = true)
    (sCD : PySem.W.subIn K (.ref CN) (.ref CD) = some false)
    (neCD : CN ≠ CD)
    (eCT : PySem.W.subIn K (.ref CT) (.type "BaseException") = some true)
    (tCT : PySem.W.typeIn K (.ref CT) = some (.type "type"))
    (hCT : PySem.W.hasDictIn K CT = true)
    (sCT : PySem.W.subIn K (.ref CN) (.ref CT) = some false)
    (neCT : CN ≠ CT)
    (eCU : PySem.W.subIn K (.ref CU) (.type "BaseException") = some true)
    (tCU : PySem.W.typeIn K (.ref CU) = some (.type "type"))
    (hCU : PySem.W.hasDictIn K CU = true)
    (sCU : PySem.W.subIn K (.ref CN) (.ref CU) = some false)
    (neCU : CN ≠ CU)
    (vC : PySem.W.subIn K (.ref CN) (.type "ValueError") = some true)
    (mC : PySem.W.mroIn K CN (.ref CN) = some true)
    (mO : PySem.W.mroIn K CN (.type "object") = some true)
    (suC : PySem.W.ks_superIn K CN CN "__init__" = some (some (.builtin "ValueError.__init__")))
    (noO : PySem.W.nsIn K cStatics "thirdparty.any" = some none)
    (top : (l.prog.main.scope.names.lookup ("super" : Str)).isSome = false)
    (lI : K.lookup fI = some ⟨ocI, odI, .func (PySem.W.ksFn "__init__" "BadNumber.__init__" (defArgs (inClass (topS 4) 0)) (defBody (inClass (topS 4) 0)) (defScope (inClass (topS 4) 0)) .none kVI dcI pmI anI (.ref cda) ctI cc), slI⟩)
    (cI : PySem.W.codeIn K (.ref cda) "BadNumber.__init__" = true)
    (lcd : K.lookup cda = some ⟨cclI, cddI, .fields vsI, csI⟩)
    (hvs : vsI[2]? = some (.str file tf))
    (hfi : ((l.prog.main.file : Str) == file) = true)
    (lcc : K.lookup cc = some ⟨clI, cldI, .cell (some (.ref CN)), clsI⟩)
    (hca : PySem.W.findIn K (.ref CN) "__class__" = some (some (.builtin "object.__class__")))
    (hsp : PySem.W.specialIn K (.builtin "object.__class__") "__get__" = some (some (.builtin "getset_descriptor.__get__")))
    (htk : PySem.W.takesIn K (.builtin "object.__class__") = some true)
    : ∃ fd : FuncData, (∀ (s : Shared) (v : Value), BindsTo s fd ⟨[v], []⟩ [("script", v)]) ∧ ∀ base : Heap, K.In base → base.Ns mainGlobals mg → FnOkG l.prog w K mg base 6 fa fd ["script"] (sp_law K) := by
  have e := hfa.symm.trans (PySem.W.mg_of X G a23)
  cases e
  have F0 := fun_mk (st := s_law_cell) l0 c0 k0
  have b0 := F0.binds (ps := ["script", "k"]) fun _ _ _ _ _ _ us hl => match us, hl with | [_, _], _ => rfl
  have F1 := fun_mk (st := s_law_draws) l1 c1 k1
  have b1 := F1.binds (ps := ["cell", "sizes"]) fun _ _ _ _ _ _ us hl => match us, hl with | [_, _], _ => rfl
  have F2 := fun_mk (st := s_neighbours) l2 c2 k2
  have b2 := F2.binds (ps := ["lefts", "rights", "pairs"]) fun _ _ _ _ _ _ us hl => match us, hl with | [_, _, _], _ => rfl
  have F3 := fun_mk (st := s_exchange) l3 c3 k3
  have b3 := F3.binds (ps := ["right", "came", "of_left", "of_right"]) fun _ _ _ _ _ _ us hl => match us, hl with | [_, _, _, _], _ => rfl
  have F4 := fun_mk (st := s_give_partner) l4 c4 k4
  have b4 := F4.binds (ps := ["start", "rows", "of_left", "of_right"]) fun _ _ _ _ _ _ us hl => match us, hl with | [_, _, _, _], _ => rfl
  have F5 := fun_mk (st := s_reached) l5 c5 k5
  have b5 := F5.binds (ps := ["rows", "of_left", "of_right"]) fun _ _ _ _ _ _ us hl => match us, hl with | [_, _, _], _ => rfl
  have F6 := fun_mk (st := smatch_and_cover) l6 c6 k6
  have b6 := F6.binds (ps := ["lefts", "rights", "pairs"]) fun _ _ _ _ _ _ us hl => match us, hl with | [_, _, _], _ => rfl
  have F7 := fun_mk (st := s_law_order) l7 c7 k7
  have b7 := F7.binds (ps := ["cell", "count", "kind"]) fun _ _ _ _ _ _ us hl => match us, hl with | [_, _, _], _ => rfl
  have F8 := fun_mk (st := s_law_small) l8 c8 k8
  have b8 := F8.binds (ps := ["script"]) fun _ _ _ _ _ _ us hl => match us, hl with | [_], _ => rfl
  have F9 := fun_mk (st := s_law_rights_of) l9 c9 k9
  have b9 := F9.binds (ps := ["lot", "rights", "pairs"]) fun _ _ _ _ _ _ us hl => match us, hl with | [_, _, _], _ => rfl
  have F10 := fun_mk (st := s_law_due) l10 c10 k10
  have b10 := F10.binds (ps := ["lefts", "rights", "pairs"]) fun _ _ _ _ _ _ us hl => match us, hl with | [_, _, _], _ => rfl
  have F11 := fun_mk (st := s_law_line) l11 c11 k11
  have b11 := F11.binds (ps := ["lefts", "rights", "drawn", "whole"]) fun _ _ _ _ _ _ us hl => match us, hl with | [_, _, _, _], _ => rfl
  have F12 := fun_mk (st := s_law_large) l12 c12 k12
  have b12 := F12.binds (ps := ["script"]) fun _ _ _ _ _ _ us hl => match us, hl with | [_], _ => rfl
  have F13 := fun_mk (st := s_law_any_pairs) l13 c13 k13
  have b13 := F13.binds (ps := ["script"]) fun _ _ _ _ _ _ us hl => match us, hl with | [_], _ => rfl
  have F14 := fun_mk (st := s_law_by_chains) l14 c14 k14
  have b14 := F14.binds (ps := ["lefts", "rights", "pairs", "matching"]) fun _ _ _ _ _ _ us hl => match us, hl with | [_, _, _, _], _ => rfl
  have F15 := fun_mk (st := s_law_number) l15 c15 k15
  have b15 := F15.binds (ps := ["thing"]) fun _ _ _ _ _ _ us hl => match us, hl with | [_], _ => rfl
  have F16 := fun_mk (st := s_law_same) l16 c16 k16
  have b16 := F16.binds (ps := ["told", "due"]) fun _ _ _ _ _ _ us hl => match us, hl with | [_, _], _ => rfl
  have F17 := fun_mk (st := s_law_is_matching) l17 c17 k17
  have b17 := F17.binds (ps := ["told", "pairs", "size"]) fun _ _ _ _ _ _ us hl => match us, hl with | [_, _, _], _ => rfl
  have F18 := fun_mk (st := s_law_right) l18 c18 k18
  have b18 := F18.binds (ps := ["told", "pairs", "due"]) fun _ _ _ _ _ _ us hl => match us, hl with | [_, _, _], _ => rfl
  have F19 := fun_mk (st := s_law_answered) l19 c19 k19
  have b19 := F19.binds (ps := ["lefts", "rights", "pairs", "due"]) fun _ _ _ _ _ _ us hl => match us, hl with | [_, _, _, _], _ => rfl
  have F20 := fun_mk (st := s_law_flawed) l20 c20 k20
  have b20 := F20.binds (ps := ["script", "lefts", "rights", "pairs"]) fun _ _ _ _ _ _ us hl => match us, hl with | [_, _, _, _], _ => rfl
  have F21 := fun_mk (st := s_law_first_flaw) l21 c21 k21
  have b21 := F21.binds (ps := ["lefts", "rights", "rows"]) fun _ _ _ _ _ _ us hl => match us, hl with | [_, _, _], _ => rfl
  have F22 := fun_mk (st := s_law_refused) l22 c22 k22
  have b22 := F22.binds (ps := ["lefts", "rights", "rows"]) fun _ _ _ _ _ _ us hl => match us, hl with | [_, _, _], _ => rfl
  have F23 := fun_mk (st := slaw) l23 c23 k23
  refine ⟨PySem.W.fnOf "law" "law" (defArgs slaw) (defBody slaw) (defScope slaw) .none kV23 dc23 pm23 an23 cd23 ct23, fun s v => .of_eq rfl, fun base _ _ => ?_⟩
  have T : Txt mg := ⟨PySem.W.mg_none_of X G z_len, PySem.W.mg_none_of X G z_abs, PySem.W.mg_none_of X G z_int, PySem.W.mg_none_of X G z_range, PySem.W.mg_none_of X G z_list, PySem.W.mg_none_of X G z_tuple, PySem.W.mg_none_of X G z_max, PySem.W.mg_none_of X G z_isinstance, PySem.W.mg_none_of X G z_bool, PySem.W.mg_none_of X G z_str, PySem.W.mg_none_of X G z_repr, PySem.W.mg_none_of X G z_reversed, PySem.W.mg_none_of X G z_sorted, PySem.W.mg_none_of X G z_super⟩
  have own : PySem.OwX.OwnTxt l.prog K CN fI ["what", "value"] :=
    { cls := ⟨nm, qn, N, bs, _, sn, sub, ab, col, dd, m0, m1, m2, m3, m5, xN, by first | rfl | decide +kernel⟩, sa := sa, ga := ga, gg := gg,
      noN := fun f hf => by
        simp only [List.mem_cons, List.not_mem_nil, or_false] at hf
        rcases hf with rfl | rfl
        · exact n1
        · exact n2
      iC := iC, tC := tI, kC := kC, exC := eCN, tyC := tCN, hdC := hCN, veC := vC, spC := mC, suC := suC, noO := noO, noS := z_super, top := top, few := by decide,
      fn := ⟨ocI, odI, "__init__", "BadNumber.__init__", _, _, _, .none, kVI, dcI, pmI, anI, cda, cc, ctI, slI, _, cclI, cddI, vsI, csI, file, tf, clI, cldI, clsI, lI, cI,
        .mk (by decide) (.cons (.cons .nil)), rfl, rfl, lcd, hvs, hfi, lcc, rfl, rfl, (fun y hy => by
          simp only [List.mem_cons, List.not_mem_nil, or_false] at hy
          rcases hy with rfl | rfl | rfl <;> rfl), (by decide), rfl, rfl, rfl, fun s us hu => match us, hu with | [_, _, _], _ => .of_eq rfl⟩ }
  have ec : ExcC K CN := ⟨ga, gg, eCN, hCN, hca, hsp, htk, mO⟩
  have XB : Exc l.prog K mg CN CB CD CT CU fI :=
    { own := own, gN := PySem.W.mg_of X G aCN, gB := PySem.W.mg_of X G aCB, gD := PySem.W.mg_of X G aCD, gT := PySem.W.mg_of X G aCT, gU := PySem.W.mg_of X G aCU, ec := ec, xf := ⟨ga, gg, eCN, hCN⟩,
      te := PySem.W.exm_ref eCB hCB tCB sCB, kN := kit_self, kO := kitAny_cons (kit_other neCD eCD (PySem.W.exm_ref eCD hCD tCD sCD)) (fun _ => kitAny_cons (kit_other neCT eCT (PySem.W.exm_ref eCT hCT tCT sCT)) (fun _ => kitAny_cons (kit_other neCU eCU (PySem.W.exm_ref eCU hCU tCU sCU)) (fun _ => rfl) (fun z => Bool.noConfusion z)) (fun z => Bool.noConfusion z)) (fun z => Bool.noConfusion z) }
  have C_law_cell : Cal l.prog w K mg base 1 "_law_cell" ["script", "k"] (sp_cell K) f0 _ := ⟨ok_cell F0 T  , PySem.W.mg_of X G a0, k0, b0⟩
  have C_law_draws : Cal l.prog w K mg base 1 "_law_draws" ["cell", "sizes"] (sp_draws K) f1 _ := ⟨ok_draws F1 T  , PySem.W.mg_of X G a1, k1, b1⟩
  have C_neighbours : CalX l.prog w K mg base 3 "_neighbours" ["lefts", "rights", "pairs"] (sp_neighbours K CN) f2 _ := ⟨ok_neighbours F2 T XB , PySem.W.mg_of X G a2, k2, b2⟩
  have C_exchange : Cal l.prog w K mg base 1 "_exchange" ["right", "came", "of_left", "of_right"] sp_exchange f3 _ := ⟨ok_exchange F3 T  , PySem.W.mg_of X G a3, k3, b3⟩
  have C_give_partner : Cal l.prog w K mg base 2 "_give_partner" ["start", "rows", "of_left", "of_right"] sp_give f4 _ := ⟨ok_give F4 T  C_exchange, PySem.W.mg_of X G a4, k4, b4⟩
  have C_reached : Cal l.prog w K mg base 1 "_reached" ["rows", "of_left", "of_right"] sp_reached f5 _ := ⟨ok_reached F5 T  , PySem.W.mg_of X G a5, k5, b5⟩
  have Cmatch_and_cover : CalX l.prog w K mg base 4 "match_and_cover" ["lefts", "rights", "pairs"] (sp_match K CN) f6 _ := ⟨ok_match F6 T  C_neighbours C_give_partner C_reached, PySem.W.mg_of X G a6, k6, b6⟩
  have C_law_order : Cal l.prog w K mg base 2 "_law_order" ["cell", "count", "kind"] sp_order f7 _ := ⟨ok_order F7 T  C_law_draws, PySem.W.mg_of X G a7, k7, b7⟩
  have C_law_small : Cal l.prog w K mg base 2 "_law_small" ["script"] (sp_psel K 6 14) f8 _ := ⟨ok_small F8 T  C_law_draws C_law_cell, PySem.W.mg_of X G a8, k8, b8⟩
  have C_law_rights_of : Cal l.prog w K mg base 1 "_law_rights_of" ["lot", "rights", "pairs"] (sp_rightsof K) f9 _ := ⟨ok_rightsof F9 T  , PySem.W.mg_of X G a9, k9, b9⟩
  have C_law_due : Cal l.prog w K mg base 2 "_law_due" ["lefts", "rights", "pairs"] (sp_due K) f10 _ := ⟨ok_due F10 T  C_law_rights_of, PySem.W.mg_of X G a10, k10, b10⟩
  have C_law_line : Cal l.prog w K mg base 1 "_law_line" ["lefts", "rights", "drawn", "whole"] (sp_line K) f11 _ := ⟨ok_line F11 T  , PySem.W.mg_of X G a11, k11, b11⟩
  have C_law_large : Cal l.prog w K mg base 3 "_law_large" ["script"] (sp_large K) f12 _ := ⟨ok_large F12 T  C_law_draws C_law_cell C_law_order C_law_line, PySem.W.mg_of X G a12, k12, b12⟩
  have C_law_any_pairs : Cal l.prog w K mg base 2 "_law_any_pairs" ["script"] (sp_psel K 40 60) f13 _ := ⟨ok_any F13 T  C_law_draws C_law_cell, PySem.W.mg_of X G a13, k13, b13⟩
  have C_law_by_chains : Cal l.prog w K mg base 1 "_law_by_chains" ["lefts", "rights", "pairs", "matching"] (sp_chains K) f14 _ := ⟨ok_chains F14 T  , PySem.W.mg_of X G a14, k14, b14⟩
  have C_law_number : Cal l.prog w K mg base 1 "_law_number" ["thing"] sp_number f15 _ := ⟨ok_number F15 T  , PySem.W.mg_of X G a15, k15, b15⟩
  have CQ_law_number : CalQ l.prog w K mg base 1 "_law_number" ["thing"] sp_number f15 _ := ⟨ok_numberQ F15 T, PySem.W.mg_of X G a15, k15, b15⟩
  have C_law_same : Cal l.prog w K mg base 2 "_law_same" ["told", "due"] (sp_same K) f16 _ := ⟨ok_same F16 T  C_law_number, PySem.W.mg_of X G a16, k16, b16⟩
  have C_law_is_matching : Cal l.prog w K mg base 2 "_law_is_matching" ["told", "pairs", "size"] (sp_ismat K) f17 _ := ⟨ok_ismat F17 T  C_law_number, PySem.W.mg_of X G a17, k17, b17⟩
  have C_law_right : Cal l.prog w K mg base 3 "_law_right" ["told", "pairs", "due"] (sp_right K) f18 _ := ⟨ok_right F18 T  C_law_is_matching C_law_same, PySem.W.mg_of X G a18, k18, b18⟩
  have C_law_answered : CalG l.prog w K mg base 5 "_law_answered" ["lefts", "rights", "pairs", "due"] (sp_answered K) f19 _ := ⟨ok_answered F19 T  Cmatch_and_cover C_law_right, PySem.W.mg_of X G a19, k19, b19⟩
  have C_law_flawed : Cal l.prog w K mg base 2 "_law_flawed" ["script", "lefts", "rights", "pairs"] (sp_flawed K) f20 _ := ⟨ok_flawed F20 T  C_law_draws C_law_cell, PySem.W.mg_of X G a20, k20, b20⟩
  have C_law_first_flaw : Cal l.prog w K mg base 1 "_law_first_flaw" ["lefts", "rights", "rows"] (sp_flaw K) f21 _ := ⟨ok_flaw F21 T  , PySem.W.mg_of X G a21, k21, b21⟩
  have C_law_refused : CalG l.prog w K mg base 5 "_law_refused" ["lefts", "rights", "rows"] (sp_refused K) f22 _ := ⟨ok_refused F22 T XB Cmatch_and_cover C_law_first_flaw CQ_law_number, PySem.W.mg_of X G a22, k22, b22⟩
  exact ok_law F23 T C_law_draws C_law_cell C_law_large C_law_any_pairs C_law_small C_law_due C_law_is_matching C_law_by_chains C_law_right C_law_answered C_law_flawed C_law_refused Cmatch_and_cover
end K26W
open PySem PySem.W PyProof.Rows
set_option maxHeartbeats 0 in
theorem PySem.Challenge.cw_changeskept_k26_matching_and_cover_holds : PySem.Challenge.rw_changeskept_k26_matching_and_cover.Holds := by
  w_on; o_law; k_head; (case hw => w_witness2)
  k_fill
  refine L2.walk_ofG (l := PySem.Challenge.rw_changeskept_k26_matching_and_cover) (n := 63) (k := 6) (x := "script") (sp := fun w => K26W.sp_law _) rfl (by decide) rfl ⟨rfl, by decide, by decide⟩ (fun w h Y => PySem.W.kIn_of Y) ?F (fun _ _ a ns hl _ hS => ⟨a, ns, rfl, hS, hl, fun _ => rfl⟩)
  case F =>
    intro w mg fa h KX G hmg
    refine' K26W.all_mk KX G hmg ?a0 ?l0 ?c0 ?k0 ?a1 ?l1 ?c1 ?k1 ?a2 ?l2 ?c2 ?k2 ?a3 ?l3 ?c3 ?k3 ?a4 ?l4 ?c4 ?k4 ?a5 ?l5 ?c5 ?k5 ?a6 ?l6 ?c6 ?k6 ?a7 ?l7 ?c7 ?k7 ?a8 ?l8 ?c8 ?k8 ?a9 ?l9 ?c9 ?k9 ?a10 ?l10 ?c10 ?k10 ?a11 ?l11 ?c11 ?k11 ?a12 ?l12 ?c12 ?k12 ?a13 ?l13 ?c13 ?k13 ?a14 ?l14 ?c14 ?k14 ?a15 ?l15 ?c15 ?k15 ?a16 ?l16 ?c16 ?k16 ?a17 ?l17 ?c17 ?k17 ?a18 ?l18 ?c18 ?k18 ?a19 ?l19 ?c19 ?k19 ?a20 ?l20 ?c20 ?k20 ?a21 ?l21 ?c21 ?k21 ?a22 ?l22 ?c22 ?k22 ?a23 ?l23 ?c23 ?k23 ?z_len ?z_abs ?z_int ?z_range ?z_list ?z_tuple ?z_max ?z_isinstance ?z_bool ?z_str ?z_repr ?z_reversed ?z_sorted ?z_super ?aCN ?aCB ?aCD ?aCT ?aCU ?xN ?sa ?ga ?gg ?n1 ?n2 ?iC ?tI ?kC ?eCN ?tCN ?hCN ?eCB ?tCB ?hCB ?sCB ?eCD ?tCD ?hCD ?sCD ?neCD ?eCT ?tCT ?hCT ?sCT ?neCT ?eCU ?tCU ?hCU ?sCU ?neCU ?vC ?mC ?mO ?suC ?noO ?top ?lI ?cI ?lcd ?hvs ?hfi ?lcc ?hca ?hsp ?htk
    (case a0 => k_is); (case l0 => k_is); (case c0 => k_is); (case k0 => k_is); (case a1 => k_is); (case l1 => k_is); (case c1 => k_is); (case k1 => k_is)
    (case a2 => k_is); (case l2 => k_is); (case c2 => k_is); (case k2 => k_is); (case a3 => k_is); (case l3 => k_is); (case c3 => k_is); (case k3 => k_is)
    (case a4 => k_is); (case l4 => k_is); (case c4 => k_is); (case k4 => k_is); (case a5 => k_is); (case l5 => k_is); (case c5 => k_is); (case k5 => k_is)
    (case a6 => k_is); (case l6 => k_is); (case c6 => k_is); (case k6 => k_is); (case a7 => k_is); (case l7 => k_is); (case c7 => k_is); (case k7 => k_is)
    (case a8 => k_is); (case l8 => k_is); (case c8 => k_is); (case k8 => k_is); (case a9 => k_is); (case l9 => k_is); (case c9 => k_is); (case k9 => k_is)
    (case a10 => k_is); (case l10 => k_is); (case c10 => k_is); (case k10 => k_is); (case a11 => k_is); (case l11 => k_is); (case c11 => k_is); (case k11 => k_is)
    (case a12 => k_is); (case l12 => k_is); (case c12 => k_is); (case k12 => k_is); (case a13 => k_is); (case l13 => k_is); (case c13 => k_is); (case k13 => k_is)
    (case a14 => k_is); (case l14 => k_is); (case c14 => k_is); (case k14 => k_is); (case a15 => k_is); (case l15 => k_is); (case c15 => k_is); (case k15 => k_is)
    (case a16 => k_is); (case l16 => k_is); (case c16 => k_is); (case k16 => k_is); (case a17 => k_is); (case l17 => k_is); (case c17 => k_is); (case k17 => k_is)
    (case a18 => k_is); (case l18 => k_is); (case c18 => k_is); (case k18 => k_is); (case a19 => k_is); (case l19 => k_is); (case c19 => k_is); (case k19 => k_is)
    (case a20 => k_is); (case l20 => k_is); (case c20 => k_is); (case k20 => k_is); (case a21 => k_is); (case l21 => k_is); (case c21 => k_is); (case k21 => k_is)
    (case a22 => k_is); (case l22 => k_is); (case c22 => k_is); (case k22 => k_is); (case a23 => k_is); (case l23 => k_is); (case c23 => k_is); (case k23 => k_is)
    (case z_len => k_is); (case z_abs => k_is); (case z_int => k_is); (case z_range => k_is); (case z_list => k_is); (case z_tuple => k_is); (case z_max => k_is); (case z_isinstance => k_is)
    (case z_bool => k_is); (case z_str => k_is); (case z_repr => k_is); (case z_reversed => k_is); (case z_sorted => k_is); (case z_super => k_is); (case aCN => k_is); (case aCB => k_is)
    (case aCD => k_is); (case aCT => k_is); (case aCU => k_is); (case xN => k_is); (case sa => k_is); (case ga => k_is); (case gg => k_is); (case n1 => k_is)
    (case n2 => k_is); (case iC => k_is); (case tI => k_is); (case kC => k_is); (case eCN => k_is); (case tCN => k_is); (case hCN => k_is); (case eCB => k_is)
    (case tCB => k_is); (case hCB => k_is); (case sCB => first | k_is | rfl); (case eCD => k_is); (case tCD => k_is); (case hCD => k_is); (case sCD => first | k_is | rfl); (case neCD => decide)
    (case eCT => k_is); (case tCT => k_is); (case hCT => k_is); (case sCT => first | k_is | rfl); (case neCT => decide); (case eCU => k_is); (case tCU => k_is); (case hCU => k_is)
    (case sCU => first | k_is | rfl); (case neCU => decide); (case vC => k_is); (case mC => first | k_is | rfl | kernel_rfl); (case mO => first | k_is | rfl | kernel_rfl); (case suC => first | ks_is | rfl | kernel_rfl); (case noO => k_is); (case top => first | rfl | decide +kernel)
    (case lI => k_is); (case cI => k_is); (case lcd => k_is); (case hvs => rfl); (case hfi => first | rfl | decide +kernel); (case lcc => k_is); (case hca => k_is); (case hsp => first | k_is | rfl | kernel_rfl)
    (case htk => first | k_is | rfl | kernel_rfl)


