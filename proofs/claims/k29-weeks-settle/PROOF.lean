import PyProof.Rows.All
import Wide.All
import OpenK.AllK
import Wide.FinOn
import HandS.ForMost
import HandS.RevRange
import HandS.Rev
import HandS.IsInst
import HandS.More
import HandS.Conv
import HandS.Wide
import KE.DatumOrd
import PyProof.EqAt
import PyProof.EqKinds
import PyProof.TupleCall
import KE.KExcSuper
import HandS.ForSpec
import HandS.ExcInit
import HandS.ExcSuper
import KE.KIsAll
import KE.KExcIs
import HandS.ExcField
import HandS.ExcIs
import PyProof.ReprLen
import PyProof.ReprRoom
import KE.RegKSuper
import PySem.Challenge.RW_changeskept_k29_weeks_settle
set_option Elab.async false
set_option linter.all false
set_option maxRecDepth 100000
set_option maxHeartbeats 4000000
/-! The mathematics of the law on the canonical order and the least ring: plain lists, no program in sight. -/
namespace K02
abbrev PL := List (Nat × Nat)
/-! ### lookups in lists of pairs -/
def look {β : Type} : List (Nat × β) → Nat → Option β
  | [], _ => none
  | p :: r, k => if p.1 = k then some p.2 else look r k
def put {β : Type} : List (Nat × β) → Nat → β → List (Nat × β)
  | [], k, v => [(k, v)]
  | p :: r, k, v => if p.1 = k then (p.1, v) :: r else p :: put r k v
theorem look_put {β : Type} (k : Nat) (v : β) : ∀ (l : List (Nat × β)) (j : Nat), look (put l k v) j = if k = j then some v else look l j
  | [], j => by
    show (if k = j then some v else none) = _
    rfl
  | p :: r, j => by
    unfold put
    by_cases h : p.1 = k
    · rw [if_pos h]
      show (if p.1 = j then some v else look r j) = if k = j then some v else (if p.1 = j then some p.2 else look r j)
      rw [h]
      by_cases e : k = j
      · rw [if_pos e, if_pos e]
      · rw [if_neg e, if_neg e, if_neg e]
    · rw [if_neg h]
      show (if p.1 = j then some p.2 else look (put r k v) j) = if k = j then some v else (if p.1 = j then some p.2 else look r j)
      rw [look_put k v r j]
      by_cases e : p.1 = j
      · have : ¬ k = j := fun z => h (e.trans z.symm)
        rw [if_pos e, if_neg this, if_pos e]
      · rw [if_neg e, if_neg e]
theorem look_mem {β : Type} : ∀ {l : List (Nat × β)} {k : Nat} {v : β}, look l k = some v → (k, v) ∈ l
  | [], _, _, h => by cases h
  | p :: r, k, v, h => by
    unfold look at h
    by_cases e : p.1 = k
    · rw [if_pos e] at h
      cases h
      rw [← e]
      exact List.mem_cons_self
    · rw [if_neg e] at h
      exact List.mem_cons_of_mem _ (look_mem h)
theorem look_snoc {β : Type} (k : Nat) (v : β) : ∀ (l : List (Nat × β)) (j : Nat), look l k = none → look (l ++ [(k, v)]) j = if k = j then some v else look l j
  | [], j, _ => by
    show (if k = j then some v else none) = _
    rfl
  | p :: r, j, h => by
    have h0 : ¬ p.1 = k := fun e => by
      unfold look at h
      rw [if_pos e] at h
      cases h
    have h1 : look r k = none := by
      unfold look at h
      rwa [if_neg h0] at h
    show (if p.1 = j then some p.2 else look (r ++ [(k, v)]) j) = if k = j then some v else (if p.1 = j then some p.2 else look r j)
    rw [look_snoc k v r j h1]
    by_cases e : p.1 = j
    · have : ¬ k = j := fun z => h0 (e.trans z.symm)
      rw [if_pos e, if_neg this, if_pos e]
    · rw [if_neg e, if_neg e]
theorem look_none_iff {β : Type} : ∀ {l : List (Nat × β)} {k : Nat}, look l k = none ↔ k ∉ l.map (·.1)
  | [], k => by simp [look]
  | p :: r, k => by
    unfold look
    by_cases e : p.1 = k
    · rw [if_pos e]
      simp [e]
    · rw [if_neg e, look_none_iff]
      simp only [List.map_cons, List.mem_cons, not_or]
      exact ⟨fun h => ⟨fun z => e z.symm, h⟩, fun h => h.2⟩
/-! ### pigeons -/
theorem nodup_len : ∀ (n : Nat) (l : List Nat), l.Nodup → (∀ x ∈ l, x < n) → l.length ≤ n
  | 0, [], _, _ => Nat.le_refl 0
  | 0, x :: r, _, h => absurd (h x List.mem_cons_self) (Nat.not_lt_zero _)
  | n + 1, l, hn, h => by
    have h1 : (l.erase n).Nodup := hn.erase n
    have h2 : ∀ x ∈ l.erase n, x < n := fun x hx => by
      have q := (hn.mem_erase_iff).mp hx
      have := h x q.2
      have := q.1
      omega
    have ih := nodup_len n (l.erase n) h1 h2
    have := List.le_length_erase (a := n) (l := l)
    omega
/-! ### pairs: what leads into a place, what leads out of it -/
def bef (ps : PL) (v : Nat) : List Nat := (ps.filter (fun p => p.2 == v)).map (·.1)
def aft (ps : PL) (v : Nat) : List Nat := (ps.filter (fun p => p.1 == v)).map (·.2)
theorem mem_bef {ps : PL} {u v : Nat} : u ∈ bef ps v ↔ (u, v) ∈ ps := by
  unfold bef
  rw [List.mem_map]
  constructor
  · rintro ⟨⟨a, b⟩, h, rfl⟩
    obtain ⟨h1, h2⟩ := List.mem_filter.mp h
    have e : b = v := by simpa using h2
    rw [← e]
    exact h1
  · intro h
    exact ⟨(u, v), List.mem_filter.mpr ⟨h, by simp⟩, rfl⟩
theorem mem_aft {ps : PL} {u v : Nat} : v ∈ aft ps u ↔ (u, v) ∈ ps := by
  unfold aft
  rw [List.mem_map]
  constructor
  · rintro ⟨⟨a, b⟩, h, rfl⟩
    obtain ⟨h1, h2⟩ := List.mem_filter.mp h
    have e : a = u := by simpa using h2
    rw [← e]
    exact h1
  · intro h
    exact ⟨(u, v), List.mem_filter.mpr ⟨h, by simp⟩, rfl⟩
/-! ### the canonical order -/
def freeP (ps : PL) (t : List Nat) (v : Nat) : Bool := !t.contains v && (bef ps v).all (fun b => t.contains b)
def nextP (m : Nat) (ps : PL) (t : List Nat) : Option Nat := (List.range m).find? (freeP ps t)
def growS (m : Nat) (ps : PL) (t : List Nat) : List Nat := match nextP m ps t with
  | none => t
  | some v => t ++ [v]
def grow (m : Nat) (ps : PL) : Nat → List Nat
  | 0 => []
  | k + 1 => growS m ps (grow m ps k)
def orderOf (m : Nat) (ps : PL) : Option (List Nat) := if (grow m ps m).length < m then none else some (grow m ps m)
theorem next_some {m : Nat} {ps : PL} {t : List Nat} {v : Nat} (h : nextP m ps t = some v) : v < m ∧ v ∉ t ∧ ∀ u, (u, v) ∈ ps → u ∈ t := by
  have h1 := List.find?_some h
  have h2 := List.mem_of_find?_eq_some h
  unfold freeP at h1
  rw [Bool.and_eq_true, List.all_eq_true] at h1
  refine ⟨List.mem_range.mp h2, by simpa using h1.1, fun u hu => ?_⟩
  simpa using h1.2 u (mem_bef.mpr hu)
theorem next_none {m : Nat} {ps : PL} {t : List Nat} (h : nextP m ps t = none) {v : Nat} (hv : v < m) (ht : v ∉ t) : ∃ u, (u, v) ∈ ps ∧ u ∉ t := by
  have h1 := List.find?_eq_none.mp h v (List.mem_range.mpr hv)
  have h2 : freeP ps t v = false := by simpa using h1
  unfold freeP at h2
  rw [Bool.and_eq_false_iff] at h2
  rcases h2 with h2 | h2
  · exact absurd (by simpa using h2) ht
  · rw [List.all_eq_false] at h2
    obtain ⟨u, hu, hc⟩ := h2
    exact ⟨u, mem_bef.mp hu, by simpa using hc⟩
theorem grow_len (m : Nat) (ps : PL) : ∀ k, (grow m ps k).length ≤ k
  | 0 => Nat.le_refl 0
  | k + 1 => by
    have ih := grow_len m ps k
    unfold grow growS
    cases nextP m ps (grow m ps k) with
    | none => exact Nat.le_succ_of_le ih
    | some v =>
      rw [List.length_append]
      exact Nat.succ_le_succ ih
theorem grow_stuck {m : Nat} {ps : PL} {k : Nat} (h : nextP m ps (grow m ps k) = none) : ∀ j, grow m ps (k + j) = grow m ps k
  | 0 => rfl
  | j + 1 => by
    have ih := grow_stuck h j
    show growS m ps (grow m ps (k + j)) = _
    rw [ih]
    unfold growS
    rw [h]
theorem grow_nodup (m : Nat) (ps : PL) : ∀ k, (grow m ps k).Nodup
  | 0 => List.nodup_nil
  | k + 1 => by
    have ih := grow_nodup m ps k
    unfold grow growS
    cases e : nextP m ps (grow m ps k) with
    | none => exact ih
    | some v =>
      refine List.nodup_append.mpr ⟨ih, by simp, ?_⟩
      intro a ha b hb
      have : b = v := by simpa using hb
      intro z
      rw [z, this] at ha
      exact (next_some e).2.1 ha
theorem grow_lt (m : Nat) (ps : PL) : ∀ k, ∀ x ∈ grow m ps k, x < m
  | 0, _, h => by cases h
  | k + 1, x, h => by
    have ih := grow_lt m ps k
    unfold grow growS at h
    cases e : nextP m ps (grow m ps k) with
    | none =>
      rw [e] at h
      exact ih x h
    | some v =>
      rw [e] at h
      rcases List.mem_append.mp h with q | q
      · exact ih x q
      · have : x = v := by simpa using q
        rw [this]
        exact (next_some e).1
/-- if each step found one, so many are taken -/
theorem grow_full {m : Nat} {ps : PL} : ∀ k, (∀ j, j < k → nextP m ps (grow m ps j) ≠ none) → (grow m ps k).length = k
  | 0, _ => rfl
  | k + 1, h => by
    have ih := grow_full k (fun j hj => h j (Nat.lt_succ_of_lt hj))
    unfold grow growS
    cases e : nextP m ps (grow m ps k) with
    | none => exact absurd e (h k (Nat.lt_succ_self k))
    | some v =>
      show (grow m ps k ++ [v]).length = k + 1
      rw [List.length_append, ih]
      rfl
theorem order_stuck {m : Nat} {ps : PL} {k : Nat} (hk : k < m) (h : nextP m ps (grow m ps k) = none) : orderOf m ps = none := by
  have e := grow_stuck h (m - k)
  rw [show k + (m - k) = m by omega] at e
  unfold orderOf
  rw [e, if_pos (Nat.lt_of_le_of_lt (grow_len m ps k) hk)]
theorem order_full {m : Nat} {ps : PL} (h : ∀ j, j < m → nextP m ps (grow m ps j) ≠ none) : orderOf m ps = some (grow m ps m) := by
  unfold orderOf
  rw [grow_full m h, if_neg (Nat.lt_irrefl _)]
/-- none: some step was stuck, with places left that lean on places left -/
theorem order_none {m : Nat} {ps : PL} (h : orderOf m ps = none) : ∃ t : List Nat, (∃ v, v < m ∧ v ∉ t) ∧ ∀ v, v < m → v ∉ t → ∃ u, (u, v) ∈ ps ∧ u ∉ t := by
  have hx : ∃ j, j < m ∧ nextP m ps (grow m ps j) = none := by
    apply Classical.byContradiction
    intro c
    have := order_full (m := m) (ps := ps) (fun j hj e => c ⟨j, hj, e⟩)
    rw [h] at this
    cases this
  obtain ⟨j, hj, e⟩ := hx
  refine ⟨grow m ps j, ?_, fun v hv ht => next_none e hv ht⟩
  apply Classical.byContradiction
  intro c
  have hall : ∀ v, v < m → v ∈ grow m ps j := fun v hv => Classical.byContradiction fun q => c ⟨v, hv, q⟩
  have h1 := nodup_len_ge (List.range m) (grow m ps j) List.nodup_range (fun x hx => hall x (List.mem_range.mp hx))
  rw [List.length_range] at h1
  have := grow_len m ps j
  omega
where
  nodup_len_ge : ∀ (a b : List Nat), a.Nodup → (∀ x ∈ a, x ∈ b) → a.length ≤ b.length
  | [], _, _, _ => Nat.zero_le _
  | x :: r, b, hn, h => by
    obtain ⟨h1, h2⟩ := List.nodup_cons.mp hn
    have ih := nodup_len_ge r (b.erase x) h2 (fun y hy => by
      have hyx : y ≠ x := fun z => h1 (z ▸ hy)
      exact (List.mem_erase_of_ne hyx).mpr (h y (List.mem_cons_of_mem _ hy)))
    have hx : x ∈ b := h x List.mem_cons_self
    have e := List.length_erase_of_mem hx
    have : 0 < b.length := List.length_pos_of_mem hx
    rw [List.length_cons]
    omega
/-! ### rings -/
/-- from u over the places of r, all beyond o, back to o -/
def Cl (ps : PL) (o : Nat) : Nat → List Nat → Prop
  | u, [] => (u, o) ∈ ps
  | u, v :: r => (u, v) ∈ ps ∧ o < v ∧ Cl ps o v r
def Len (ps : PL) (o u n : Nat) : Prop := ∃ r, Cl ps o u r ∧ r.length = n
/-- the first difference decides, else the shorter is the less -/
def lexLt : List Nat → List Nat → Bool
  | [], [] => false
  | [], _ :: _ => true
  | _ :: _, [] => false
  | x :: xs, y :: ys => if x = y then lexLt xs ys else decide (x < y)
theorem lex_irr : ∀ l : List Nat, lexLt l l = false
  | [] => rfl
  | x :: r => by
    unfold lexLt
    rw [if_pos rfl]
    exact lex_irr r
theorem lex_asym : ∀ {a b : List Nat}, lexLt a b = true → lexLt b a = false
  | [], [], h => by cases h
  | [], _ :: _, _ => rfl
  | _ :: _, [], h => by cases h
  | x :: xs, y :: ys, h => by
    unfold lexLt at h ⊢
    by_cases e : x = y
    · rw [if_pos e] at h
      rw [if_pos e.symm]
      exact lex_asym h
    · rw [if_neg e] at h
      rw [if_neg (fun z => e z.symm)]
      have := of_decide_eq_true h
      exact decide_eq_false (by omega)
theorem lex_anti : ∀ {a b : List Nat}, lexLt a b = false → lexLt b a = false → a = b
  | [], [], _, _ => rfl
  | [], _ :: _, h, _ => by cases h
  | _ :: _, [], _, h => by cases h
  | x :: xs, y :: ys, h, h' => by
    unfold lexLt at h h'
    by_cases e : x = y
    · rw [if_pos e] at h
      rw [if_pos e.symm] at h'
      rw [e, lex_anti h h']
    · rw [if_neg e] at h
      rw [if_neg (fun z => e z.symm)] at h'
      have := of_decide_eq_false h
      have := of_decide_eq_false h'
      omega
/-- not less goes on -/
theorem lex_le_trans : ∀ {a b c : List Nat}, lexLt b a = false → lexLt c b = false → lexLt c a = false
  | [], b, c, _, _ => by cases c <;> rfl
  | x :: xs, [], c, h, _ => by cases h
  | x :: xs, y :: ys, [], _, h => by cases h
  | x :: xs, y :: ys, z :: zs, h1, h2 => by
    unfold lexLt at h1 h2 ⊢
    by_cases e1 : y = x
    · rw [if_pos e1] at h1
      by_cases e2 : z = y
      · rw [if_pos e2] at h2
        rw [if_pos (e2.trans e1)]
        exact lex_le_trans h1 h2
      · rw [if_neg e2] at h2
        rw [if_neg (fun q => e2 (q.trans e1.symm))]
        have := of_decide_eq_false h2
        exact decide_eq_false (by omega)
    · rw [if_neg e1] at h1
      have g1 := of_decide_eq_false h1
      by_cases e2 : z = y
      · rw [if_neg (fun q => e1 (e2.symm.trans q))]
        exact decide_eq_false (by omega)
      · rw [if_neg e2] at h2
        have g2 := of_decide_eq_false h2
        rw [if_neg (by omega)]
        exact decide_eq_false (by omega)
theorem lex_app : ∀ {a b : List Nat} (x : List Nat), a.length = b.length → lexLt (a ++ x) (b ++ x) = lexLt a b
  | [], [], x, _ => lex_irr x
  | [], _ :: _, _, h => by simp at h
  | _ :: _, [], _, h => by simp at h
  | p :: a, q :: b, x, h => by
    show (if p = q then lexLt (a ++ x) (b ++ x) else decide (p < q)) = if p = q then lexLt a b else decide (p < q)
    rw [lex_app x (by simpa using h)]
/-- the least ring from o: the fewest places, then the first list -/
def LRing (ps : PL) (o : Nat) (l : List Nat) : Prop := ∃ r, l = o :: r ∧ Cl ps o o r ∧ ∀ r', Cl ps o o r' → r.length ≤ r'.length ∧ (r'.length = r.length → lexLt r' r = false)
theorem LRing.uniq {ps : PL} {o : Nat} {l m : List Nat} (a : LRing ps o l) (b : LRing ps o m) : l = m := by
  obtain ⟨r, rfl, c, h⟩ := a
  obtain ⟨t, rfl, d, k⟩ := b
  have h1 := h t d
  have k1 := k r c
  have e : r.length = t.length := Nat.le_antisymm h1.1 k1.1
  rw [lex_anti (k1.2 e) (h1.2 e.symm)]
open Classical in
noncomputable def ringOf (ps : PL) (o : Nat) : Option (List Nat) := if h : ∃ l, LRing ps o l then some (Classical.choose h) else none
theorem ringOf_some {ps : PL} {o : Nat} {l : List Nat} (h : LRing ps o l) : ringOf ps o = some l := by
  have hx : ∃ l, LRing ps o l := ⟨l, h⟩
  unfold ringOf
  rw [dif_pos hx, LRing.uniq (Classical.choose_spec hx) h]
theorem ringOf_none {ps : PL} {o : Nat} (h : ∀ r, ¬ Cl ps o o r) : ringOf ps o = none := by
  unfold ringOf
  rw [dif_neg]
  rintro ⟨l, r, _, c, _⟩
  exact h r c
theorem ringOf_is {ps : PL} {o : Nat} {l : List Nat} (h : ringOf ps o = some l) : LRing ps o l := by
  unfold ringOf at h
  by_cases hx : ∃ l, LRing ps o l
  · rw [dif_pos hx] at h
    cases h
    exact Classical.choose_spec hx
  · rw [dif_neg hx] at h
    cases h
def pick (b x : Option (List Nat)) : Option (List Nat) := match x, b with
  | none, _ => b
  | some l, none => some l
  | some l, some m => if l.length < m.length then some l else some m
noncomputable def best (ps : PL) : Nat → Option (List Nat)
  | 0 => none
  | o + 1 => pick (best ps o) (ringOf ps o)
/-! ### the program's way: steps backwards, then the least next place -/
/-- what the steps hold: o itself with 0; beyond o the fewest places of a way back to o, and one more -/
def IsSteps (ps : PL) (o : Nat) (S : Nat → Option Nat) : Prop := ∀ u n, S u = some n ↔ (u = o ∧ n = 0) ∨ (o < u ∧ ∃ k, n = k + 1 ∧ Len ps o u k ∧ ∀ j, j < k → ¬ Len ps o u j)
/-- row is built from u by the least next place -/
def Greedy (ps : PL) (S : Nat → Option Nat) : Nat → Nat → List Nat → Prop
  | _, 0, r => r = []
  | u, n + 1, r => ∃ v t, r = v :: t ∧ ((u, v) ∈ ps ∧ S v = some (n + 1)) ∧ (∀ w, (u, w) ∈ ps → S w = some (n + 1) → v ≤ w) ∧ Greedy ps S v n t
theorem greedy_len {ps : PL} {S : Nat → Option Nat} : ∀ {u n : Nat} {r : List Nat}, Greedy ps S u n r → r.length = n
  | _, 0, _, h => by
    have e : _ = _ := h
    rw [e]
    rfl
  | _, n + 1, _, ⟨v, t, e, _, _, h⟩ => by
    rw [e, List.length_cons, greedy_len h]
theorem greedy_least {ps : PL} {o : Nat} {S : Nat → Option Nat} (hS : IsSteps ps o S) : ∀ {n u : Nat} {r : List Nat}, Greedy ps S u n r → Len ps o u n → (∀ j, j < n → ¬ Len ps o u j) →
    Cl ps o u r ∧ ∀ r', Cl ps o u r' → r'.length = n → lexLt r' r = false
  | 0, u, r, h, hl, _ => by
    have e : r = [] := h
    obtain ⟨r0, c, z⟩ := hl
    have : r0 = [] := List.length_eq_zero_iff.mp z
    subst this
    subst e
    refine ⟨c, fun r' _ hz => ?_⟩
    rw [List.length_eq_zero_iff.mp hz]
    rfl
  | n + 1, u, r, ⟨v, t, e, ⟨huv, hv⟩, hmin, hg⟩, hl, hno => by
    subst e
    obtain ⟨q0, q1⟩ | ⟨hov, k, ek, hlv, hnv⟩ := (hS v (n + 1)).mp hv
    · cases q1
    · have ek' : k = n := by omega
      subst ek'
      obtain ⟨c, hm⟩ := greedy_least hS hg hlv hnv
      refine ⟨⟨huv, hov, c⟩, fun r' c' hz => ?_⟩
      cases r' with
      | nil => cases hz
      | cons w t' =>
        obtain ⟨huw, how, c2⟩ := c'
        have hz' : t'.length = k := by simpa using hz
        have hw : S w = some (k + 1) := (hS w (k + 1)).mpr (.inr ⟨how, k, rfl, ⟨t', c2, hz'⟩, fun j hj hL => by
          obtain ⟨r3, c3, z3⟩ := hL
          exact hno (j + 1) (by omega) ⟨w :: r3, ⟨huw, how, c3⟩, by rw [List.length_cons, z3]⟩⟩)
        have hle := hmin w huw hw
        unfold lexLt
        by_cases e : w = v
        · subst e
          rw [if_pos rfl]
          exact hm t' c2 hz'
        · rw [if_neg e]
          exact decide_eq_false (by omega)
theorem greedy_ring {ps : PL} {o : Nat} {S : Nat → Option Nat} (hS : IsSteps ps o S) {n : Nat} {r : List Nat} (h : Greedy ps S o n r) (hl : Len ps o o n) (hno : ∀ j, j < n → ¬ Len ps o o j) : LRing ps o (o :: r) := by
  obtain ⟨c, hm⟩ := greedy_least hS h hl hno
  have e := greedy_len h
  refine ⟨r, rfl, c, fun r' c' => ⟨?_, fun z => hm r' c' (z.trans e)⟩⟩
  rw [e]
  exact Nat.le_of_not_lt fun q => hno _ q ⟨r', c', rfl⟩
/-- a way with a next place: there is one that the greedy step may take -/
theorem greedy_next {ps : PL} {o : Nat} {S : Nat → Option Nat} (hS : IsSteps ps o S) {n u : Nat} (hl : Len ps o u (n + 1)) (hno : ∀ j, j < n + 1 → ¬ Len ps o u j) : ∃ v, (u, v) ∈ ps ∧ S v = some (n + 1) := by
  obtain ⟨r, c, z⟩ := hl
  cases r with
  | nil => cases z
  | cons w t =>
    obtain ⟨huw, how, c2⟩ := c
    have hz' : t.length = n := by simpa using z
    exact ⟨w, huw, (hS w (n + 1)).mpr (.inr ⟨how, n, rfl, ⟨t, c2, hz'⟩, fun j hj hL => by
      obtain ⟨r3, c3, z3⟩ := hL
      exact hno (j + 1) (by omega) ⟨w :: r3, ⟨huw, how, c3⟩, by rw [List.length_cons, z3]⟩⟩)⟩
theorem steps_beyond {ps : PL} {o : Nat} {S : Nat → Option Nat} (hS : IsSteps ps o S) {v n : Nat} (h : S v = some (n + 1)) : Len ps o v n ∧ ∀ j, j < n → ¬ Len ps o v j := by
  obtain ⟨_, q1⟩ | ⟨_, k, ek, hlv, hnv⟩ := (hS v (n + 1)).mp h
  · cases q1
  · have ek' : k = n := by omega
    subst ek'
    exact ⟨hlv, hnv⟩
/-- the lengths: the steps of the places behind o -/
theorem lens_some {ps : PL} {o : Nat} {S : Nat → Option Nat} (hS : IsSteps ps o S) {n : Nat} (hm : ∃ v, (o, v) ∈ ps ∧ S v = some n) (hle : ∀ v k, (o, v) ∈ ps → S v = some k → n ≤ k) : Len ps o o n ∧ ∀ j, j < n → ¬ Len ps o o j := by
  constructor
  · obtain ⟨v, hv, e⟩ := hm
    obtain ⟨rfl, rfl⟩ | ⟨hov, k, rfl, ⟨r, c, z⟩, _⟩ := (hS v n).mp e
    · exact ⟨[], hv, rfl⟩
    · exact ⟨v :: r, ⟨hv, hov, c⟩, by rw [List.length_cons, z]⟩
  · rintro j hj ⟨r, c, z⟩
    cases r with
    | nil =>
      have e : (o, o) ∈ ps := c
      have := hle o 0 e ((hS o 0).mpr (.inl ⟨rfl, rfl⟩))
      omega
    | cons v t =>
      obtain ⟨hov, hlt, c2⟩ := c
      -- the least way from v
      have hx : ∃ k, Len ps o v k ∧ ∀ i, i < k → ¬ Len ps o v i := least ⟨_, t, c2, rfl⟩
      obtain ⟨k, hk, hno⟩ := hx
      have hkt : k ≤ t.length := Nat.le_of_not_lt fun q => hno _ q ⟨t, c2, rfl⟩
      have := hle v (k + 1) hov ((hS v (k + 1)).mpr (.inr ⟨hlt, k, rfl, hk, hno⟩))
      rw [List.length_cons] at z
      omega
where
  least {P : Nat → Prop} (h : ∃ n, P n) : ∃ k, P k ∧ ∀ i, i < k → ¬ P i := by
    obtain ⟨n, hn⟩ := h
    induction n using Nat.strongRecOn with
    | ind n ih =>
      by_cases q : ∃ i, i < n ∧ P i
      · obtain ⟨i, hi, pi⟩ := q
        exact ih i hi pi
      · exact ⟨n, hn, fun i hi pi => q ⟨i, hi, pi⟩⟩
theorem lens_none {ps : PL} {o : Nat} {S : Nat → Option Nat} (hS : IsSteps ps o S) (h : ∀ v, (o, v) ∈ ps → S v = none) : ∀ r, ¬ Cl ps o o r := by
  intro r c
  cases r with
  | nil =>
    have := h o c
    rw [(hS o 0).mpr (.inl ⟨rfl, rfl⟩)] at this
    cases this
  | cons v t =>
    obtain ⟨hov, hlt, c2⟩ := c
    obtain ⟨k, hk, hno⟩ := lens_some.least (P := Len ps o v) ⟨_, t, c2, rfl⟩
    have := h v hov
    rw [(hS v (k + 1)).mpr (.inr ⟨hlt, k, rfl, hk, hno⟩)] at this
    cases this
/-- a ring from o has a least one -/
theorem greedy_is {ps : PL} {o : Nat} {S : Nat → Option Nat} (hS : IsSteps ps o S) : ∀ {n u : Nat}, Len ps o u n → (∀ j, j < n → ¬ Len ps o u j) → ∃ r, Greedy ps S u n r
  | 0, _, _, _ => ⟨[], rfl⟩
  | n + 1, u, hl, hno => by
    obtain ⟨v, ⟨huv, hv⟩, hmin⟩ := lens_some.least (P := fun v => (u, v) ∈ ps ∧ S v = some (n + 1)) (greedy_next hS hl hno)
    obtain ⟨h1, h2⟩ := steps_beyond hS hv
    obtain ⟨t, ht⟩ := greedy_is hS h1 h2
    exact ⟨v :: t, v, t, rfl, ⟨huv, hv⟩, fun w hw hs => Nat.le_of_not_lt fun q => hmin w q ⟨hw, hs⟩, ht⟩
open Classical in
noncomputable def trueSteps (ps : PL) (o u : Nat) : Option Nat := if u = o then some 0 else if h : o < u ∧ ∃ k, Len ps o u k then some (Classical.choose (lens_some.least h.2) + 1) else none
theorem trueSteps_is (ps : PL) (o : Nat) : IsSteps ps o (trueSteps ps o) := by
  intro u n
  unfold trueSteps
  by_cases e : u = o
  · rw [if_pos e]
    constructor
    · intro h
      cases h
      exact .inl ⟨e, rfl⟩
    · rintro (⟨_, rfl⟩ | ⟨h, _⟩)
      · rfl
      · omega
  · rw [if_neg e]
    by_cases h : o < u ∧ ∃ k, Len ps o u k
    · rw [dif_pos h]
      have q := Classical.choose_spec (lens_some.least h.2)
      constructor
      · intro z
        cases z
        exact .inr ⟨h.1, _, rfl, q.1, q.2⟩
      · rintro (⟨z, _⟩ | ⟨_, k, rfl, h1, h2⟩)
        · exact absurd z e
        · have a1 : ¬ k < Classical.choose (lens_some.least h.2) := fun z => q.2 _ z h1
          have a2 : ¬ Classical.choose (lens_some.least h.2) < k := fun z => h2 _ z q.1
          rw [show Classical.choose (lens_some.least h.2) = k by omega]
    · rw [dif_neg h]
      constructor
      · intro z
        cases z
      · rintro (⟨z, _⟩ | ⟨h1, k, _, h2, _⟩)
        · exact absurd z e
        · exact absurd ⟨h1, k, h2⟩ h
theorem ringOf_there {ps : PL} {o : Nat} {r : List Nat} (c : Cl ps o o r) : ∃ l, ringOf ps o = some l := by
  obtain ⟨n, h1, h2⟩ := lens_some.least (P := Len ps o o) ⟨_, r, c, rfl⟩
  obtain ⟨t, ht⟩ := greedy_is (trueSteps_is ps o) h1 h2
  exact ⟨_, ringOf_some (greedy_ring (trueSteps_is ps o) ht h1 h2)⟩
/-! ### the law's way: the least walk to each place, place by place longer -/
inductive Wk (ps : PL) (o : Nat) : List Nat → Nat → Prop
  | base : Wk ps o [o] o
  | step {l : List Nat} {u v : Nat} : Wk ps o l u → (u, v) ∈ ps → o < v → Wk ps o (l ++ [v]) v
theorem Wk.pos {ps : PL} {o : Nat} {l : List Nat} {v : Nat} (h : Wk ps o l v) : 0 < l.length := by
  cases h with
  | base => exact Nat.one_pos
  | step _ _ _ =>
    rw [List.length_append]
    exact Nat.succ_pos _
theorem wk_cl {ps : PL} {o : Nat} {l : List Nat} {u : Nat} (h : Wk ps o l u) : ∀ r, Cl ps o u r → ∃ t, l ++ r = o :: t ∧ Cl ps o o t := by
  induction h with
  | base => exact fun r c => ⟨r, rfl, c⟩
  | @step l u v _ huv hov ih =>
    intro r c
    obtain ⟨t, e, ct⟩ := ih (v :: r) ⟨huv, hov, c⟩
    exact ⟨t, by rw [List.append_assoc]; exact e, ct⟩
theorem cl_wk {ps : PL} {o : Nat} : ∀ {r l : List Nat} {u : Nat}, Wk ps o l u → Cl ps o u r → ∃ w, Wk ps o (l ++ r) w ∧ (w, o) ∈ ps
  | [], l, u, h, c => ⟨u, by rw [List.append_nil]; exact h, c⟩
  | v :: r, l, u, h, ⟨huv, hov, c⟩ => by
    obtain ⟨w, h1, h2⟩ := cl_wk (Wk.step h huv hov) c
    exact ⟨w, by rw [List.append_assoc] at h1; exact h1, h2⟩
/-- W holds the least walk of n + 1 places to each place -/
def IsWalks (ps : PL) (o n : Nat) (W : Nat → Option (List Nat)) : Prop :=
  (∀ v l, W v = some l → Wk ps o l v ∧ l.length = n + 1) ∧ ∀ v l', Wk ps o l' v → l'.length = n + 1 → ∃ l, W v = some l ∧ lexLt l' l = false
theorem walks_start (ps : PL) (o : Nat) : IsWalks ps o 0 (look [(o, [o])]) := by
  refine ⟨fun v l h => ?_, fun v l' h hl => ?_⟩
  · have h' : (if o = v then some [o] else none) = some l := h
    by_cases e : o = v
    · rw [if_pos e] at h'
      cases h'
      rw [← e]
      exact ⟨Wk.base, rfl⟩
    · rw [if_neg e] at h'
      cases h'
  · cases h with
    | base => exact ⟨[o], (show (if o = o then some [o] else none) = some [o] from if_pos rfl), lex_irr _⟩
    | step h1 _ _ =>
      have := h1.pos
      rw [List.length_append, List.length_singleton] at hl
      omega
def longerS (W : Nat → Option (List Nat)) (o : Nat) (lg : List (Nat × List Nat)) (p : Nat × Nat) : List (Nat × List Nat) :=
  if o < p.2 then
    match W p.1 with
    | none => lg
    | some l => match look lg p.2 with
      | none => put lg p.2 (l ++ [p.2])
      | some m => if lexLt (l ++ [p.2]) m then put lg p.2 (l ++ [p.2]) else lg
  else lg
def IsLonger (ps : PL) (W : Nat → Option (List Nat)) (o : Nat) (G : Nat → Option (List Nat)) : Prop :=
  (∀ v m, G v = some m → ∃ u l, (u, v) ∈ ps ∧ o < v ∧ W u = some l ∧ m = l ++ [v]) ∧ ∀ u v l, (u, v) ∈ ps → o < v → W u = some l → ∃ m, G v = some m ∧ lexLt (l ++ [v]) m = false
theorem longer_start (W : Nat → Option (List Nat)) (o : Nat) : IsLonger [] W o (look []) := ⟨fun _ _ h => (by cases h), fun _ _ _ h => (by cases h)⟩
theorem longer_stay {ps : PL} {W : Nat → Option (List Nat)} {o : Nat} {G : Nat → Option (List Nat)} {p : Nat × Nat} (h : IsLonger ps W o G) (hn : o < p.2 → ∀ l, W p.1 = some l → ∃ m, G p.2 = some m ∧ lexLt (l ++ [p.2]) m = false) : IsLonger (ps ++ [p]) W o G := by
  refine ⟨fun v m e => ?_, fun u v l hm hv hw => ?_⟩
  · obtain ⟨u, l, h1, h2, h3, h4⟩ := h.1 v m e
    exact ⟨u, l, List.mem_append_left _ h1, h2, h3, h4⟩
  · rcases List.mem_append.mp hm with q | q
    · exact h.2 u v l q hv hw
    · have e : (u, v) = p := by simpa using q
      subst e
      exact hn hv l hw
theorem longer_put {ps : PL} {W : Nat → Option (List Nat)} {o : Nat} {lg : List (Nat × List Nat)} {p : Nat × Nat} {l : List Nat} (h : IsLonger ps W o (look lg)) (ho : o < p.2) (hw : W p.1 = some l)
    (hle : ∀ m, look lg p.2 = some m → lexLt m (l ++ [p.2]) = false) : IsLonger (ps ++ [p]) W o (look (put lg p.2 (l ++ [p.2]))) := by
  refine ⟨fun v m e => ?_, fun u v l2 hm hv hw2 => ?_⟩
  · rw [look_put] at e
    by_cases q : p.2 = v
    · rw [if_pos q] at e
      cases e
      refine ⟨p.1, l, List.mem_append_right _ ?_, q ▸ ho, hw, by rw [q]⟩
      rw [← q]
      exact List.mem_singleton.mpr rfl
    · rw [if_neg q] at e
      obtain ⟨u, l, h1, h2, h3, h4⟩ := h.1 v m e
      exact ⟨u, l, List.mem_append_left _ h1, h2, h3, h4⟩
  · rw [look_put]
    rcases List.mem_append.mp hm with z | z
    · obtain ⟨m, hm1, hm2⟩ := h.2 u v l2 z hv hw2
      by_cases q : p.2 = v
      · rw [if_pos q]
        refine ⟨_, rfl, ?_⟩
        subst q
        exact lex_le_trans (hle m hm1) hm2
      · rw [if_neg q]
        exact ⟨m, hm1, hm2⟩
    · have e : (u, v) = p := by simpa using z
      subst e
      rw [if_pos rfl]
      have hw' : W u = some l := hw
      rw [hw'] at hw2
      cases hw2
      exact ⟨_, rfl, lex_irr _⟩
theorem longer_step {ps : PL} {W : Nat → Option (List Nat)} {o : Nat} {lg : List (Nat × List Nat)} {p : Nat × Nat} (h : IsLonger ps W o (look lg)) : IsLonger (ps ++ [p]) W o (look (longerS W o lg p)) := by
  unfold longerS
  by_cases ho : o < p.2
  · rw [if_pos ho]
    cases hw : W p.1 with
    | none => exact longer_stay h fun _ l q => by rw [hw] at q; cases q
    | some l =>
      cases hg : look lg p.2 with
      | none => exact longer_put h ho hw fun m q => by rw [hg] at q; cases q
      | some m =>
        show IsLonger (ps ++ [p]) W o (look (if lexLt (l ++ [p.2]) m = true then put lg p.2 (l ++ [p.2]) else lg))
        cases hc : lexLt (l ++ [p.2]) m with
        | true =>
          rw [if_pos rfl]
          exact longer_put h ho hw fun m2 q => by
            rw [hg] at q
            cases q
            exact lex_asym hc
        | false =>
          rw [if_neg Bool.false_ne_true]
          exact longer_stay h fun _ l2 q => by
            rw [hw] at q
            cases q
            exact ⟨m, hg, hc⟩
  · rw [if_neg ho]
    exact longer_stay h fun q => absurd q ho
theorem walks_longer {ps : PL} {o n : Nat} {W G : Nat → Option (List Nat)} (hW : IsWalks ps o n W) (hG : IsLonger ps W o G) : IsWalks ps o (n + 1) G := by
  refine ⟨fun v m e => ?_, fun v l' h hl => ?_⟩
  · obtain ⟨u, l, h1, h2, h3, rfl⟩ := hG.1 v m e
    obtain ⟨w1, w2⟩ := hW.1 u l h3
    exact ⟨Wk.step w1 h1 h2, by rw [List.length_append, w2]; rfl⟩
  · cases h with
    | base => exact absurd hl (by show ¬ 1 = n + 1 + 1; omega)
    | @step l u _ h1 h2 h3 =>
      have e : l.length = n + 1 := by
        rw [List.length_append, List.length_singleton] at hl
        omega
      obtain ⟨l0, q1, q2⟩ := hW.2 u l h1 e
      obtain ⟨m, r1, r2⟩ := hG.2 u v l0 h2 h3 q1
      refine ⟨m, r1, lex_le_trans r2 ?_⟩
      rw [lex_app [v] (e.trans (hW.1 u l0 q1).2.symm)]
      exact q2
/-- the rings that the walks close, in the order of the pairs -/
def ringsOf (ps : PL) (o : Nat) (W : Nat → Option (List Nat)) : List (List Nat) := ps.filterMap fun p => if p.2 = o then W p.1 else none
theorem rings_mem {ps : PL} {o n : Nat} {W : Nat → Option (List Nat)} (hW : IsWalks ps o n W) {l : List Nat} (h : l ∈ ringsOf ps o W) : ∃ t, l = o :: t ∧ Cl ps o o t ∧ t.length = n := by
  obtain ⟨p, hp, e⟩ := List.mem_filterMap.mp h
  by_cases q : p.2 = o
  · rw [if_pos q] at e
    obtain ⟨w1, w2⟩ := hW.1 _ _ e
    obtain ⟨t, e1, e2⟩ := wk_cl w1 [] (show (p.1, o) ∈ ps by rw [← q]; exact hp)
    rw [List.append_nil] at e1
    refine ⟨t, e1, e2, ?_⟩
    rw [e1, List.length_cons] at w2
    omega
  · rw [if_neg q] at e
    cases e
theorem rings_all {ps : PL} {o n : Nat} {W : Nat → Option (List Nat)} (hW : IsWalks ps o n W) {t : List Nat} (c : Cl ps o o t) (h : t.length = n) : ∃ l, l ∈ ringsOf ps o W ∧ lexLt (o :: t) l = false := by
  obtain ⟨w, h1, h2⟩ := cl_wk (Wk.base (ps := ps) (o := o)) c
  obtain ⟨l, q1, q2⟩ := hW.2 w ([o] ++ t) h1 (by show t.length + 1 = n + 1; rw [h])
  exact ⟨l, List.mem_filterMap.mpr ⟨(w, o), h2, by rw [if_pos rfl]; exact q1⟩, q2⟩
theorem law_none {ps : PL} {o n : Nat} {W : Nat → Option (List Nat)} (hW : IsWalks ps o n W) (h : ringsOf ps o W = []) (hno : ∀ r, Cl ps o o r → n ≤ r.length) : ∀ r, Cl ps o o r → n + 1 ≤ r.length := by
  intro r c
  have h1 := hno r c
  rcases Nat.lt_or_ge n r.length with q | q
  · exact q
  · obtain ⟨l, hl, _⟩ := rings_all hW c (Nat.le_antisymm q h1)
    rw [h] at hl
    cases hl
theorem law_ring {ps : PL} {o n : Nat} {W : Nat → Option (List Nat)} (hW : IsWalks ps o n W) (hno : ∀ r, Cl ps o o r → n ≤ r.length) {x : List Nat} (hx : x ∈ ringsOf ps o W) (hm : ∀ y, y ∈ ringsOf ps o W → lexLt y x = false) : LRing ps o x ∧ x.length = n + 1 := by
  obtain ⟨t, rfl, c, e⟩ := rings_mem hW hx
  refine ⟨⟨t, rfl, c, fun r' c' => ⟨by rw [e]; exact hno r' c', fun z => ?_⟩⟩, by rw [List.length_cons, e]⟩
  obtain ⟨l, hl, hle⟩ := rings_all hW c' (z.trans e)
  have h1 := lex_le_trans (hm l hl) hle
  unfold lexLt at h1
  rw [if_pos rfl] at h1
  exact h1
/-! ### the shortest rings fit in -/
def Within (m : Nat) (ps : PL) : Prop := ∀ p ∈ ps, p.1 < m ∧ p.2 < m
theorem cl_suffix {ps : PL} {o : Nat} : ∀ {a : List Nat} {u v : Nat} {c : List Nat}, Cl ps o u (a ++ v :: c) → Cl ps o v c
  | [], _, _, _, h => h.2.2
  | _ :: a, _, _, _, h => cl_suffix (a := a) h.2.2
theorem cl_nodup {ps : PL} {o : Nat} : ∀ {r : List Nat} {u : Nat}, Cl ps o u r → ∃ r', Cl ps o u r' ∧ r'.Nodup
  | [], _, h => ⟨[], h, List.nodup_nil⟩
  | v :: t, u, ⟨h1, h2, h3⟩ => by
    obtain ⟨t', c, hn⟩ := cl_nodup h3
    by_cases hv : v ∈ t'
    · obtain ⟨a, b, rfl⟩ := List.append_of_mem hv
      exact ⟨v :: b, ⟨h1, h2, cl_suffix c⟩, (List.nodup_append.mp hn).2.1⟩
    · exact ⟨v :: t', ⟨h1, h2, c⟩, List.nodup_cons.mpr ⟨hv, hn⟩⟩
theorem cl_within {m : Nat} {ps : PL} (hm : Within m ps) {o : Nat} : ∀ {r : List Nat} {u : Nat}, Cl ps o u r → u < m ∧ ∀ x ∈ r, o < x ∧ x < m
  | [], u, h => ⟨(hm _ h).1, fun _ q => by cases q⟩
  | v :: t, u, ⟨h1, h2, h3⟩ => by
    obtain ⟨q1, q2⟩ := cl_within hm h3
    refine ⟨(hm _ h1).1, fun x hx => ?_⟩
    rcases List.mem_cons.mp hx with e | e
    · subst e
      exact ⟨h2, q1⟩
    · exact q2 x e
theorem ring_fits {m : Nat} {ps : PL} (hm : Within m ps) {o : Nat} {r : List Nat} (c : Cl ps o o r) : ∃ r', Cl ps o o r' ∧ r'.length < m := by
  obtain ⟨r', c', hn⟩ := cl_nodup c
  obtain ⟨q1, q2⟩ := cl_within hm c'
  refine ⟨r', c', ?_⟩
  have := nodup_len m (o :: r') (List.nodup_cons.mpr ⟨fun z => Nat.lt_irrefl _ (q2 o z).1, hn⟩) (fun x hx => by
    rcases List.mem_cons.mp hx with e | e
    · rw [e]; exact q1
    · exact (q2 x e).2)
  exact this
/-! ### order or ring -/
theorem grow_mono (m : Nat) (ps : PL) {k : Nat} {x : Nat} (h : x ∈ grow m ps k) : x ∈ grow m ps (k + 1) := by
  unfold grow growS
  cases nextP m ps (grow m ps k) with
  | none => exact h
  | some v => exact List.mem_append_left _ h
theorem grow_new {m : Nat} {ps : PL} {k o : Nat} (h : o ∈ grow m ps (k + 1)) (h' : o ∉ grow m ps k) : ∀ w, (w, o) ∈ ps → w ∈ grow m ps k := by
  intro w hw
  unfold grow growS at h
  cases e : nextP m ps (grow m ps k) with
  | none =>
    rw [e] at h
    exact absurd h h'
  | some v =>
    rw [e] at h
    rcases List.mem_append.mp h with q | q
    · exact absurd q h'
    · have : o = v := by simpa using q
      subst this
      exact (next_some e).2.2 w hw
theorem grow_closed (m : Nat) (ps : PL) : ∀ (k : Nat) {a b : Nat}, (a, b) ∈ ps → b ∈ grow m ps k → a ∈ grow m ps k
  | 0, _, _, _, h => by cases h
  | k + 1, a, b, hab, h => by
    by_cases q : b ∈ grow m ps k
    · exact grow_mono m ps (grow_closed m ps k hab q)
    · exact grow_mono m ps (grow_new h q a hab)
theorem grow_back {m : Nat} {ps : PL} {k o : Nat} (h : ∀ w, (w, o) ∈ ps → w ∈ grow m ps k) : ∀ {r : List Nat} {u : Nat}, Cl ps o u r → u ∈ grow m ps k
  | [], u, c => h u c
  | _ :: _, _, ⟨h1, _, h3⟩ => grow_closed m ps k h1 (grow_back h h3)
theorem order_no_ring {m : Nat} {ps : PL} (hm : Within m ps) {t : List Nat} (h : orderOf m ps = some t) (o : Nat) : ∀ r, ¬ Cl ps o o r := by
  intro r c
  have hlen : m ≤ (grow m ps m).length := by
    unfold orderOf at h
    by_cases q : (grow m ps m).length < m
    · rw [if_pos q] at h
      cases h
    · exact Nat.le_of_not_lt q
  have ho : o < m := (cl_within hm c).1
  have hin : o ∈ grow m ps m := Classical.byContradiction fun q => by
    have := nodup_len m (o :: grow m ps m) (List.nodup_cons.mpr ⟨q, grow_nodup m ps m⟩) (fun x hx => by
      rcases List.mem_cons.mp hx with e | e
      · rw [e]; exact ho
      · exact grow_lt m ps m x e)
    rw [List.length_cons] at this
    omega
  obtain ⟨k, hk, hno⟩ := lens_some.least (P := fun k => o ∈ grow m ps k) ⟨m, hin⟩
  cases k with
  | zero => cases hk
  | succ k =>
    have q := hno k (Nat.lt_succ_self k)
    exact q (grow_back (grow_new hk q) c)
def backs (g : Nat → Nat) (s : Nat) : Nat → List Nat
  | 0 => []
  | j + 1 => g (s + j + 1) :: backs g s j
theorem backs_cl {ps : PL} {g : Nat → Nat} (hg : ∀ n, (g (n + 1), g n) ∈ ps) (s : Nat) : ∀ j, (∀ i, 1 ≤ i → i ≤ j → g s < g (s + i)) → Cl ps (g s) (g (s + j + 1)) (backs g s j)
  | 0, _ => hg s
  | j + 1, h => ⟨hg (s + j + 1), h (j + 1) (by omega) (Nat.le_refl _), backs_cl hg s j fun i h1 h2 => h i h1 (by omega)⟩
theorem pigeon (m : Nat) (g : Nat → Nat) (h : ∀ n, g n < m) : ∃ i j, i < j ∧ g i = g j := by
  apply Classical.byContradiction
  intro c
  have inj : ∀ i j, i < j → g i ≠ g j := fun i j hij e => c ⟨i, j, hij, e⟩
  have hn : ((List.range (m + 1)).map g).Nodup := by
    refine List.Pairwise.map g (R := fun i j => i < j) (fun i j hij => inj i j hij) ?_
    exact List.pairwise_lt_range
  have := nodup_len m _ hn (fun x hx => by
    obtain ⟨i, _, rfl⟩ := List.mem_map.mp hx
    exact h i)
  rw [List.length_map, List.length_range] at this
  omega
theorem seq_ring {m : Nat} {ps : PL} {g : Nat → Nat} (hg : ∀ n, (g (n + 1), g n) ∈ ps) (hm : ∀ n, g n < m) : ∃ o r, o < m ∧ Cl ps o o r := by
  obtain ⟨i, j, hij, e⟩ := pigeon m g hm
  -- the places seen from i on come again at j
  -- least place at or behind i, up to j
  obtain ⟨mu, ⟨s, h1, h2, rfl⟩, hmin⟩ := lens_some.least (P := fun x => ∃ s, i ≤ s ∧ s < j ∧ x = g s) ⟨g i, i, Nat.le_refl _, hij, rfl⟩
  -- the sequence s, s + 1, .., j = i, .., s: as a new sequence
  let g' : Nat → Nat := fun n => g (i + (s - i + n) % (j - i))
  have hp : 0 < j - i := by omega
  have hg' : ∀ n, (g' (n + 1), g' n) ∈ ps := by
    intro n
    show (g (i + (s - i + (n + 1)) % (j - i)), g (i + (s - i + n) % (j - i))) ∈ ps
    have hr := Nat.mod_lt (s - i + n) hp
    by_cases q : (s - i + n) % (j - i) + 1 = j - i
    · have e1 : (s - i + (n + 1)) % (j - i) = 0 := by
        rw [← Nat.add_assoc, ← Nat.mod_add_mod, q, Nat.mod_self]
      rw [e1, Nat.add_zero, e]
      have e2 : i + (s - i + n) % (j - i) = j - 1 := by omega
      rw [e2]
      have := hg (j - 1)
      rw [show j - 1 + 1 = j by omega] at this
      exact this
    · have e1 : (s - i + (n + 1)) % (j - i) = (s - i + n) % (j - i) + 1 := by
        rw [← Nat.add_assoc, ← Nat.mod_add_mod]
        exact Nat.mod_eq_of_lt (by omega)
      rw [e1]
      exact hg _
  have hle : ∀ n, g s ≤ g' n := by
    intro n
    have hr := Nat.mod_lt (s - i + n) hp
    exact Nat.le_of_not_lt fun q => hmin _ q ⟨i + (s - i + n) % (j - i), by omega, by omega, rfl⟩
  have h0 : g' 0 = g s := by
    show g (i + (s - i + 0) % (j - i)) = g s
    rw [Nat.add_zero, Nat.mod_eq_of_lt (by omega)]
    congr 1
    omega
  have hper : g' (j - i) = g s := by
    show g (i + (s - i + (j - i)) % (j - i)) = g s
    rw [Nat.add_mod_right, Nat.mod_eq_of_lt (by omega)]
    congr 1
    omega
  obtain ⟨q, ⟨hq1, hq2⟩, hno⟩ := lens_some.least (P := fun q => 1 ≤ q ∧ g' q = g s) ⟨j - i, by omega, hper⟩
  refine ⟨g s, backs g' 0 (q - 1), hm s, ?_⟩
  have := backs_cl hg' 0 (q - 1) (fun t t1 t2 => by
    rw [h0, Nat.zero_add]
    have a1 := hle t
    have a2 : g' t ≠ g s := fun z => hno t (by omega) ⟨t1, z⟩
    omega)
  rw [h0, show 0 + (q - 1) + 1 = q by omega, hq2] at this
  exact this
theorem order_or_ring {m : Nat} {ps : PL} (hm : Within m ps) (h : orderOf m ps = none) : ∃ o r, o < m ∧ Cl ps o o r := by
  obtain ⟨t, ⟨v, hv, hvt⟩, hall⟩ := order_none h
  have hch : ∀ x : {v : Nat // v < m ∧ v ∉ t}, ∃ y : {v : Nat // v < m ∧ v ∉ t}, (y.1, x.1) ∈ ps := fun x => by
    obtain ⟨u, hu1, hu2⟩ := hall x.1 x.2.1 x.2.2
    exact ⟨⟨u, (hm _ hu1).1, hu2⟩, hu1⟩
  let f : {v : Nat // v < m ∧ v ∉ t} → {v : Nat // v < m ∧ v ∉ t} := fun x => Classical.choose (hch x)
  let g : Nat → {v : Nat // v < m ∧ v ∉ t} := fun n => Nat.rec ⟨v, hv, hvt⟩ (fun _ x => f x) n
  exact seq_ring (m := m) (g := fun n => (g n).1) (fun n => Classical.choose_spec (hch (g n))) (fun n => (g n).2.1)
/-! ### the best ring -/
theorem pick_some {b : Option (List Nat)} {x : Option (List Nat)} {l : List Nat} (h : x = some l) : ∃ m, pick b x = some m := by
  subst h
  cases b with
  | none => exact ⟨_, rfl⟩
  | some k =>
    show ∃ m, (if l.length < k.length then some l else some k) = some m
    by_cases q : l.length < k.length
    · exact ⟨l, if_pos q⟩
    · exact ⟨k, if_neg q⟩
theorem best_keeps {ps : PL} {o : Nat} {l : List Nat} (h : best ps o = some l) : ∃ m, best ps (o + 1) = some m := by
  show ∃ m, pick (best ps o) (ringOf ps o) = some m
  rw [h]
  cases hx : ringOf ps o with
  | none => exact ⟨l, rfl⟩
  | some x => exact pick_some rfl
theorem best_there {ps : PL} {o : Nat} {r : List Nat} (c : Cl ps o o r) : ∀ j, ∃ l, best ps (o + 1 + j) = some l
  | 0 => by
    obtain ⟨l, hl⟩ := ringOf_there c
    exact pick_some hl
  | j + 1 => by
    obtain ⟨l, hl⟩ := best_there c j
    exact best_keeps hl
theorem best_none {ps : PL} (h : ∀ o r, ¬ Cl ps o o r) : ∀ m, best ps m = none
  | 0 => rfl
  | m + 1 => by
    show pick (best ps m) (ringOf ps m) = none
    rw [best_none h m, ringOf_none (h m)]
    rfl
theorem one_of_two {m : Nat} {ps : PL} (hm : Within m ps) : (orderOf m ps = none ↔ best ps m ≠ none) := by
  constructor
  · intro h
    obtain ⟨o, r, ho, c⟩ := order_or_ring hm h
    obtain ⟨l, hl⟩ := best_there c (m - (o + 1))
    rw [show o + 1 + (m - (o + 1)) = m by omega] at hl
    rw [hl]
    exact fun z => by cases z
  · intro h
    cases e : orderOf m ps with
    | none => rfl
    | some t => exact absurd (best_none (order_no_ring hm e) m) h
theorem pick_short {b : Option (List Nat)} {ps : PL} {o : Nat} {l : List Nat} (hb : b = some l) (h : ∀ r, Cl ps o o r → l.length ≤ r.length + 1) : pick b (ringOf ps o) = b := by
  subst hb
  cases hx : ringOf ps o with
  | none => rfl
  | some x =>
    obtain ⟨r, rfl, c, _⟩ := ringOf_is hx
    have := h r c
    show (if (o :: r).length < l.length then some (o :: r) else some l) = some l
    rw [if_neg (by rw [List.length_cons]; omega)]
theorem pick_no {b : Option (List Nat)} {ps : PL} {o : Nat} (h : ∀ r, ¬ Cl ps o o r) : pick b (ringOf ps o) = b := by
  rw [ringOf_none h]
  rfl
theorem pick_new {b : Option (List Nat)} {ps : PL} {o : Nat} {x : List Nat} (hx : LRing ps o x) (h : ∀ l, b = some l → x.length < l.length) : pick b (ringOf ps o) = some x := by
  rw [ringOf_some hx]
  cases b with
  | none => rfl
  | some l => exact if_pos (h l rfl)
end K02

/-! Rules of our own over the hand layer: a walk over a list or a tuple; the order of data; the least of a list of data; list(reversed(a list)). -/
namespace RT
open PySem PySem.Spec PyProof.Rows L2
section
variable {prog : Program} {w : World} {A : Around} {E : Value → Shared → Prop} {s : Shared}
theorem extend_rev {R : Result → Shared → Prop} {it l : Addr} {items : Array Value} (hh : A.handled = none) (S : Addr) (res : Value) (c₀ : Nat) (hS : s.heap.get? S = some { cls := .type "list", data := .seq #[] c₀ })
    (hit : s.heap.IsRevIter it l ((items.size : Int) - 1)) (hl : s.heap.IsList l items) (hne : l ≠ it) (hSi : S ≠ it) (hSl : S ≠ l) (hn : items.size ≤ sizeLine)
    (hR : ∀ h' tk acc' c', (∀ b o, b ≠ S → b ≠ it → s.heap.get? b = some o → h'.get? b = some o) → h'.get? S = some { cls := .type "list", dict := none, data := .seq acc' c', slots := #[] } →
      ItemsOf (fun i v => items[items.size - 1 - i]? = some v) acc' items.size → R (.ok (.ret res)) { s with heap := h', toks := tk }) :
    wpAny (model prog w) A.in1 (Builtin.List.listExtendWith (.ref S) (.ref it) res)
      (fun fin s' => match fin with | .done f => R (.ok f) s' | .again c' => c'.quiet = true ∧ codeAny (model prog w) A c' R s') (fun e s' => R (.error e) s') s := by
  have W := (Walks.listRev (prog := prog) (w := w) (A := A.in1) hh it l hne items).toS
  have hSf : S ∉ [it, l] := by simp only [List.mem_cons, List.not_mem_nil, or_false, not_or]; exact ⟨hSi, hSl⟩
  have hT : s.TypeIs (.ref it) "list_reverseiterator" := hit.typeIs
  have h1 : Builtin.List.listSameRef (.ref S) (.ref it) = false := by simp [Builtin.List.listSameRef, hSi]
  unfold Builtin.List.listExtendWith
  refine wpAny_bind (wpAny_typeOf hT ?_)
  rw [if_neg (by rw [h1]; decide)]
  refine wpAny_bind (wpAny_pyIter_revIter hit ?_)
  refine wpAny_bind (wpAny_holding ?_)
  unfold Builtin.List.listLengthHint
  refine wpAny_bind (wpAny_specialOf hT nolen_lri ?_)
  show wpAny _ A.in1 (specialOf (Value.ref it) (Str.ofString "__length_hint__") >>= _) _ _ _
  refine wpAny_bind (wpAny_specialOf hT hint_lri ?_)
  generalize hid : ("list_reverseiterator.__length_hint__" : String) = id0
  wp_delta
  rw [show splitId id0 = some ("list_reverseiterator", "__length_hint__") from by subst hid; decide +kernel]
  subst hid
  refine wpAny_bind (wpAny_isInstance (b := true) hT (by rw [isSubtype_type]; kernel_rfl) ?_)
  refine wpAny_pure ?_
  rw [if_neg (by decide)]
  have e0 : ((items.size : Nat) : Int) - 1 - ((0 : Nat) : Int) = (items.size : Int) - 1 := by omega
  refine wpAny_pure ⟨plainId_quiet F.plain_extend_loop _, codeAny_extend_loopS W hn _ hSf _ items.size 0 _ _ _ rfl (Nat.zero_le _) ⟨Nat.zero_le _, by rw [e0]; exact hit, hl⟩ hS (ItemsOf.nil _) fun s' acc' c' hm hS' hacc => ?_⟩
  rw [Moved.eq_with hm]
  refine hR s'.heap s'.toks acc' c' (fun b o hb hb2 e => hm.heap b o (fun hmem => ?_) e) hS' hacc
  rcases List.mem_cons.mp hmem with e' | hmem
  · exact hb e'
  · exact hb2 (List.mem_singleton.mp hmem)
theorem list_init_rev {R : Result → Shared → Prop} {it l : Addr} {items : Array Value} (hh : A.handled = none) (S : Addr) (hS : s.heap.get? S = some { cls := .type "list", data := .seq #[] })
    (hit : s.heap.IsRevIter it l ((items.size : Int) - 1)) (hl : s.heap.IsList l items) (hne : l ≠ it) (hSi : S ≠ it) (hSl : S ≠ l) (hn : items.size ≤ sizeLine)
    (hR : ∀ h' tk acc' c', (∀ b o, b ≠ S → b ≠ it → s.heap.get? b = some o → h'.get? b = some o) → h'.get? S = some { cls := .type "list", dict := none, data := .seq acc' c', slots := #[] } →
      ItemsOf (fun i v => items[items.size - 1 - i]? = some v) acc' items.size → R (.ok (.ret .none)) { s with heap := h', toks := tk }) :
    wpAny (model prog w) A.in1 (Builtin.«list.__init__» ⟨[.ref S, .ref it], []⟩)
      (fun fin s' => match fin with | .done f => R (.ok f) s' | .again c' => c'.quiet = true ∧ codeAny (model prog w) A c' R s') (fun e s' => R (.error e) s') s := by
  show wpAny _ _ (do let old ← Builtin.List.listItems (.ref S); Builtin.List.listUpdate (.ref S) (fun _ => #[]); letGo old.toList.reverse; Builtin.List.listExtendWith (.ref S) (.ref it) .none) _ _ s
  refine wpAny_bind ?_
  unfold Builtin.List.listItems
  refine wpAny_bind (wpAny_seqItems hS rfl (wpAny_pure ?_))
  show wpAny _ _ (updateSeq S (fun _ => #[]) >>= fun _ => letGo (#[] : Array Value).toList.reverse >>= fun _ => Builtin.List.listExtendWith (.ref S) (.ref it) .none) _ _ s
  refine wpAny_bind (wpAny_updateSeq hS rfl ?_)
  have hS₂ := Heap.get?_update_self (Obj.mapSeq (fun _ => (#[] : Array Value))) hS rfl
  have oth : ∀ b o, b ≠ S → s.heap.get? b = some o → (s.heap.update S (Obj.mapSeq (fun _ => (#[] : Array Value)))).get? b = some o :=
    fun b o hb e => (Heap.get?_update_other _ _ (Ne.symm hb)).trans e
  refine wpAny_bind (wpAny_letGo ?_)
  refine extend_rev hh S .none _ hS₂ (hit.at fun o e => oth _ _ (Ne.symm hSi) e) (hl.at fun o e => oth _ _ (Ne.symm hSl) e) hne hSi hSl hn fun h' tk acc' c' hk hS' hacc => ?_
  exact hR h' tk acc' c' (fun b o hb hb2 e => hk b o hb hb2 (oth b o hb e)) hS' hacc
theorem call_list_rev {it l : Addr} {items : Array Value} {Q : Value → Shared → Prop} (hh : A.handled = none) (hit : s.heap.IsRevIter it l ((items.size : Int) - 1)) (hl : s.heap.IsList l items) (hne : l ≠ it) (hn : items.size ≤ sizeLine)
    (hQ : ∀ h' tk acc' c', (∀ b o, b ≠ it → s.heap.get? b = some o → h'.get? b = some o) →
      h'.get? s.heap.objs.size = some { cls := .type "list", dict := none, data := .seq acc' c', slots := #[] } → ItemsOf (fun i v => items[items.size - 1 - i]? = some v) acc' items.size → Q (.ref s.heap.objs.size) { s with heap := h', toks := tk }) :
    wpAny (model prog w) A (call (.type "list") [.ref it]) Q E s := by
  obtain ⟨oi, hoi, _⟩ := id hit
  obtain ⟨ol, hol, _⟩ := id hl
  have hSi : s.heap.objs.size ≠ it := Nat.ne_of_gt (Heap.lt_size hoi)
  have hSl : s.heap.objs.size ≠ l := Nat.ne_of_gt (Heap.lt_size hol)
  refine callType_codes (Q₁ := fun obj s₁ => obj = .ref s.heap.objs.size ∧ s₁ = { s with heap := s.heap.push { cls := .type "list", data := .seq #[] } }) F.called_list (F.typeCall_list_1 _) F.entry_list_init
    (code_list_new _ ⟨rfl, rfl⟩) fun obj s₁ h₁ => ?_
  obtain ⟨rfl, rfl⟩ := h₁
  have hS : (s.heap.push { cls := .type "list", data := .seq #[] }).get? s.heap.objs.size = some { cls := .type "list", data := .seq #[] } := Heap.get?_push_size _ rfl
  refine ⟨⟨_, hS, rfl⟩, F.args_list_init_2 _ _, list_init_rev (A := A.in1) hh _ hS (hit.at fun o e => Heap.get?_push_of_some _ e) (hl.push _) hne hSi hSl hn fun h' tk acc' c' hk hS' hacc => ?_⟩
  exact ⟨rfl, hQ h' tk acc' c' (fun b o hb e => hk b o (Nat.ne_of_lt (Heap.lt_size e)) hb (Heap.get?_push_of_some _ e)) hS' hacc⟩
end
end RT
namespace L2
open PySem PySem.Spec PyProof.Rows
section
variable {X : Cx}
/-- list(reversed(x)), x a list: a new list -/
def tLstRev (K : PySem.W.Frag) (te : TE) : TE := fun σ H Q => te σ H fun v H1 => ∃ (a : Addr) (xs : List V), v = .ref a ∧ SqL K H1 a xs ∧ ∀ q, H1 q = none → Q (.ref q) (upd H1 q (.lst xs.reverse))
theorem pe_lstRev {e : Expr} {te : TE} {p p2 pos pos2 : Pos} (hc : X.calm = true) (hg : Gl X "list") (hm : X.mg "list" = none) (hg2 : Gl X "reversed") (hm2 : X.mg "reversed" = none) (he : PE X e te)
    (hs : starEach [e] X.env = (false, eval e X.env) :: starEach [] X.env := by rfl)
    (hs2 : starEach [.Call (.Name "reversed" p2) [e] [] pos2] X.env = (false, eval (.Call (.Name "reversed" p2) [e] [] pos2) X.env) :: starEach [] X.env := by rfl) :
    PE X (.Call (.Name "list" p) [.Call (.Name "reversed" p2) [e] [] pos2] [] pos) (tLstRev X.K te) := by
  refine ⟨fun pins s σ H Q I h => ?_⟩
  refine Call_ (ld_blt I hg hm boot_list (PyProof.Rows.callWith_type1 (args_cons ?_ hs2) hs2 rfl))
  refine Call_ (ld_blt I hg2 hm2 PyProof.Rows.boot_reversed (PyProof.Rows.callWith_type1 (args_cons ?_ hs) hs rfl))
  refine thn (he.run pins s σ H _ I h) fun u s1 ⟨v, H1, I1, r1, q1⟩ => args_nil ?_
  obtain ⟨a, xs, ev, hq, q⟩ := q1
  subst ev
  obtain rfl : u = Value.ref a := r1
  obtain ⟨its, rv, p', hz⟩ := I1.list hq
  refine call_reversed_list p'.isList (args_nil ?_)
  have k0 : ∀ b o, s1.heap.get? b = some o → (s1.heap.push (revObj a ((its.toArray.size : Int) - 1))).get? b = some o := fun b o e => Heap.get?_push_of_some _ e
  have I2 : Inv X pins σ H1 { s1 with heap := s1.heap.push (revObj a ((its.toArray.size : Int) - 1)) } := I1.kept (t' := s1.toks) k0
  obtain ⟨f0, f1, f2, f3, f4, f5⟩ := I1.fpOk (H' := H1) (b := s1.heap.objs.size) (Nat.le_refl _) (I1.hok.fresh (Nat.le_refl _))
  have hl := p'.isList
  obtain ⟨ol, hol, _⟩ := id hl
  have hne : a ≠ s1.heap.objs.size := Nat.ne_of_lt (Heap.lt_size hol)
  have hn : its.toArray.size ≤ sizeLine := by rw [List.size_toArray, ← rv.length]; exact hz
  refine RT.call_list_rev (s := { s1 with heap := s1.heap.push (revObj a ((its.toArray.size : Int) - 1)) }) (I1.ok.hd hc) ⟨_, Heap.get?_push_size _ rfl, rfl, rfl⟩ (hl.push _) hne hn fun h' tk acc c' hk hS' hi => ?_
  have ez : (s1.heap.push (revObj a ((its.toArray.size : Int) - 1))).objs.size = s1.heap.objs.size + 1 := Heap.size_push _ _
  have hS2 : h'.get? (s1.heap.objs.size + 1) = some { cls := .type "list", data := .seq acc c' } := by rw [← ez]; exact hS'
  show EP X pins σ Q (Value.ref (s1.heap.push (revObj a ((its.toArray.size : Int) - 1))).objs.size) _
  rw [ez]
  refine ⟨.ref (s1.heap.objs.size + 1), upd H1 (s1.heap.objs.size + 1) (.lst xs.reverse), I1.laid (t' := tk) (fun b o e => hk b o (Nat.ne_of_lt (Heap.lt_size e)) (k0 b o e)) (Nat.le_succ _) (show ObjOk X.prog X.w _ _ _ (.lst xs.reverse) from ⟨by rw [List.length_reverse]; exact hz, acc.toList, c', RT.vals_rev rv hi, ?_⟩), rfl, q _ (I1.hok.fresh (Nat.le_succ _))⟩
  rw [Array.toArray_toList]
  exact hS2
end
end L2
namespace L2
open PySem PySem.Spec PyProof.Rows PySem.W
section
variable {X : Cx}
/-- a list or a tuple, walked -/
def iSeq (K : PySem.W.Frag) (tl : TE) : TI := fun σ H R => tl σ H fun x H1 => ∃ a, x = .ref a ∧ (((∃ xs, SqL K H1 a xs) ∧ R (Itl K a) H1) ∨ ((∃ xs, SqT K H1 a xs) ∧ R (Itt K a) H1))
theorem pi_seq {tg l : Expr} {tl : TE} (hl : PE X l tl) : PI X tg l (iSeq X.K tl) := by
  refine ⟨fun pins s σ H R I h => ?_⟩
  refine thn (hl.run pins s σ H _ I h) fun v s1 ⟨x, H1, I1, r1, q1⟩ => ?_
  obtain ⟨a, e, ⟨⟨xs, hq⟩, q⟩ | ⟨⟨xs, hq⟩, q⟩⟩ := q1
  · subst e
    cases r1
    obtain ⟨its, rv, p, hz⟩ := I1.list hq
    refine wpAny_pyIter_list p.isList ?_
    refine ⟨s1.heap.objs.size, [s1.heap.objs.size], _, _, H1, rfl, I1.kept (t' := s1.toks) fun b o e => Heap.get?_push_of_some _ e, turn_list a _, ⟨_, Heap.get?_push_size _ rfl, rfl, rfl⟩, fun b hb => ?_, q⟩
    have e : b = s1.heap.objs.size := by simpa using hb
    subst e
    exact I1.fpOk (Nat.le_refl _) (I1.hok.fresh (Nat.le_refl _))
  · subst e
    cases r1
    obtain ⟨its, rv, p, hz⟩ := I1.tuple hq
    refine wpAny_pyIter_tuple (show s1.heap.IsTuple a its.toArray from p) ?_
    refine ⟨s1.heap.objs.size, [s1.heap.objs.size], _, _, H1, rfl, I1.kept (t' := s1.toks) fun b o e => Heap.get?_push_of_some _ e, turn_tuple a _, ⟨_, Heap.get?_push_size _ rfl, rfl, rfl⟩, fun b hb => ?_, q⟩
    have e : b = s1.heap.objs.size := by simpa using hb
    subst e
    exact I1.fpOk (Nat.le_refl _) (I1.hok.fresh (Nat.le_refl _))
/-- x < y of data with a Lean type -/
def rLtA (α : Type) [DecidableEq α] [DatumOrd α] (K : PySem.W.Frag) : R2 := fun x y H Q => ∃ (a b : α), Dp K H x (Datum.toD a) ∧ Dp K H y (Datum.toD b) ∧ Q (.bl (DatumOrd.lt a b)) H
theorem op_ltA (α : Type) [DecidableEq α] [DatumOrd α] (hu : X.A.units + 64 < cLine) (hd : Datum.depth α ≤ 60) : OpR X (compareOp .Lt) (rLtA α X.K) := by
  intro pins s σ H x y v u Q I rx ry h
  obtain ⟨a, b, ha, hb, q⟩ := h
  obtain ⟨as, r1⟩ := Dp.reads I _ x v ha rx
  obtain ⟨bs, r2⟩ := Dp.reads I _ y u hb ry
  exact lt_datum ⟨as, r1⟩ ⟨bs, r2⟩ (by omega) ⟨.bl _, H, I, rfl, q⟩
theorem DpAll.at {K : PySem.W.Frag} {H : Hp} : ∀ {vs : List V} {ds : List PyData}, DpAll K H vs ds → ∀ (i : Nat) (v : V), vs[i]? = some v → ∃ d, ds[i]? = some d ∧ Dp K H v d
  | _, _, .nil, i, v, h => by simp at h
  | _, _, .cons h1 h2, 0, v, h => by
    simp only [List.getElem?_cons_zero, Option.some.injEq] at h
    subst h
    exact ⟨_, rfl, h1⟩
  | _, _, .cons h1 h2, i + 1, v, h => DpAll.at h2 i v (by simpa using h)
theorem toD_inj {α : Type} [DecidableEq α] [Datum α] {a b : α} (h : Datum.toD a = Datum.toD b) : a = b := by
  have e := Datum.eqv a b
  rw [h, Datum.eqv b b, decide_eq_true rfl] at e
  exact of_decide_eq_true e.symm
/-- min(xs): the item that stands where the first least one stands -/
def rMinA (α : Type) [DecidableEq α] [DatumOrd α] (K : PySem.W.Frag) : List V → Hp → VK → Prop := fun us H Q => ∃ (a : Addr) (vs : List V) (x : α) (xs : List α), us = [V.ref a] ∧ SqL K H a vs ∧ DpAll K H vs ((x :: xs).map Datum.toD) ∧
  ∀ (i : Nat) (v : V), vs[i]? = some v → (x :: xs)[i]? = some (minOf x xs) → Q v H
theorem cr_minA (α : Type) [DecidableEq α] [DatumOrd α] (hc : X.calm = true) (hu : X.A.units + 64 < cLine) (hd : Datum.depth α ≤ 60) : CallR X (.builtin "min") (rMinA α X.K) := by
  intro pins s σ H vs us Q I r h
  obtain ⟨a, ws, x, xs, rfl, hs, hda, q⟩ := h
  obtain ⟨its, rv, hl, _⟩ := I.list hs
  rw [Vals.ref1 r]
  obtain ⟨as, hr⟩ := Dp.readsAll I _ _ its hda rv
  refine min_list_datum (x := x) (xs := xs) (I.ok.hd hc) hl.isList ⟨as, by simpa using hr⟩ (by omega) fun i v h' tk hi hv hk => ?_
  have hi' : its[i]? = some v := by simpa using hi
  -- the item's own V
  have hlt : i < its.length := (List.getElem?_eq_some_iff.mp hi').1
  have hlw : i < ws.length := by
    have := Vals.length rv
    omega
  have hw : ws[i]? = some ws[i] := List.getElem?_eq_getElem hlw
  obtain ⟨u, hu1, hu2⟩ := rv.get hw
  rw [hi'] at hu1
  cases hu1
  obtain ⟨d, hd1, hd2⟩ := hda.at i _ hw
  obtain ⟨y, hy1, hy2⟩ : ∃ y, (x :: xs)[i]? = some y ∧ Datum.toD y = d := by
    rw [List.getElem?_map] at hd1
    cases e : (x :: xs)[i]? with
    | none => rw [e] at hd1; cases hd1
    | some y => rw [e] at hd1; exact ⟨y, rfl, Option.some.inj hd1⟩
  subst hy2
  have I2 : Inv X pins σ H { s with heap := h', toks := tk } := I.kept hk
  obtain ⟨bs, r2⟩ := Dp.reads I2 _ _ v hd2 hu2
  obtain ⟨cs, r3⟩ := hv
  have e := toD_inj (alike_unique _ _ v bs cs (DatumOrd.alike y (minOf x xs)) r2 r3)
  exact ⟨_, H, I2, hu2, q i _ hw (by rw [hy1, e])⟩
end
end L2
namespace L2
open PySem PySem.Spec PyProof.Rows
def rLenQ (K : PySem.W.Frag) : List V → Hp → VK → Prop := fun xs H Q => ∃ p ys, xs = [.ref p] ∧ (SqL K H p ys ∨ SqT K H p ys) ∧ Q (.int ys.length) H
def rListOf (K : PySem.W.Frag) : List V → Hp → VK → Prop := fun xs H Q => ∃ p ys, xs = [.ref p] ∧ (SqL K H p ys ∨ SqT K H p ys) ∧ ∀ l, H l = none → Q (.ref l) (upd H l (.lst ys))
end L2

/-! Heaps in short: numbers, lists of lists, lists of pairs, dicts by numbers. -/
namespace KH
open PySem PySem.Spec PyProof.Rows L2 K02
abbrev nV (n : Nat) : V := .int (n : Int)
/-! ### lists -/
theorem getn {α β : Type} {f : α → β} {l : List α} {i : Nat} {x : α} (h : l[i]? = some x) : (l.map f)[i]? = some (f x) := by
  rw [List.getElem?_map, h]
  rfl
theorem getn_inv {α β : Type} {f : α → β} {l : List α} {i : Nat} {y : β} (h : (l.map f)[i]? = some y) : ∃ x, l[i]? = some x ∧ y = f x := by
  rw [List.getElem?_map] at h
  cases e : l[i]? with
  | none => rw [e] at h; cases h
  | some x => rw [e] at h; exact ⟨x, rfl, (Option.some.inj h).symm⟩
theorem get_lt {α : Type} {l : List α} {i : Nat} (h : i < l.length) : ∃ x, l[i]? = some x := ⟨l[i], List.getElem?_eq_getElem h⟩
theorem lt_get {α : Type} {l : List α} {i : Nat} {x : α} (h : l[i]? = some x) : i < l.length := (List.getElem?_eq_some_iff.mp h).1
theorem take_more {α : Type} {l : List α} {i : Nat} {x : α} (h : l[i]? = some x) : l.take (i + 1) = l.take i ++ [x] := by
  rw [List.take_add_one, h]
  rfl
theorem at_n {xs : List V} {j : Nat} {v : V} (h : xs[j]? = some v) : atI xs (j : Int) = some v := atI_nat h
theorem szl {n : Nat} (h : n ≤ 10000) : n < sizeLine := Nat.lt_of_le_of_lt h (by decide)
theorem szle {n : Nat} (h : n ≤ 10000) : n ≤ sizeLine := Nat.le_of_lt (szl h)
section
variable {α β : Type} {F G : α → β → Prop}
theorem P_len : ∀ {xs : List α} {ys : List β}, Paired F xs ys → xs.length = ys.length
  | _, _, .nil => rfl
  | _, _, .cons _ h => by rw [List.length_cons, List.length_cons, P_len h]
theorem P_get : ∀ {xs : List α} {ys : List β}, Paired F xs ys → ∀ {i : Nat} {x : α} {y : β}, xs[i]? = some x → ys[i]? = some y → F x y
  | _, _, .nil, i, x, _, h, _ => by simp at h
  | _, _, .cons f _, 0, x, y, h, h' => by
    simp at h h'
    subst h
    subst h'
    exact f
  | _, _, .cons _ r, i + 1, x, y, h, h' => P_get r (i := i) (by simpa using h) (by simpa using h')
theorem P_right {xs : List α} {ys : List β} (p : Paired F xs ys) {i : Nat} {x : α} (h : xs[i]? = some x) : ∃ y, ys[i]? = some y ∧ F x y := by
  have hl := lt_get h
  rw [P_len p] at hl
  obtain ⟨y, hy⟩ := get_lt hl
  exact ⟨y, hy, P_get p h hy⟩
theorem P_left {xs : List α} {ys : List β} (p : Paired F xs ys) {i : Nat} {y : β} (h : ys[i]? = some y) : ∃ x, xs[i]? = some x ∧ F x y := by
  have hl := lt_get h
  rw [← P_len p] at hl
  obtain ⟨x, hx⟩ := get_lt hl
  exact ⟨x, hx, P_get p hx h⟩
theorem P_mono (h : ∀ x y, F x y → G x y) : ∀ {xs : List α} {ys : List β}, Paired F xs ys → Paired G xs ys
  | _, _, .nil => .nil
  | _, _, .cons f r => .cons (h _ _ f) (P_mono h r)
theorem P_monoM : ∀ {xs : List α} {ys : List β}, (∀ x y, x ∈ xs → F x y → G x y) → Paired F xs ys → Paired G xs ys
  | _, _, _, .nil => .nil
  | _, _, h, .cons f r => .cons (h _ _ List.mem_cons_self f) (P_monoM (fun x y hx => h x y (List.mem_cons_of_mem _ hx)) r)
theorem P_set : ∀ {xs : List α} {ys : List β}, Paired F xs ys → ∀ {i : Nat} {x : α} {y : β}, F x y → Paired F (xs.set i x) (ys.set i y)
  | _, _, .nil, _, _, _, _ => .nil
  | _, _, .cons _ r, 0, _, _, f => .cons f r
  | _, _, .cons g r, i + 1, _, _, f => .cons g (P_set r f)
theorem P_setR {xs : List α} {ys : List β} (p : Paired F xs ys) {i : Nat} {x : α} {y : β} (hx : xs[i]? = some x) (f : F x y) : Paired F xs (ys.set i y) := by
  have := P_set p (i := i) f
  rwa [show xs.set i x = xs from List.set_getElem?_self hx] at this
where
  List.set_getElem?_self {l : List α} {i : Nat} {x : α} (h : l[i]? = some x) : l.set i x = l := by
    apply List.ext_getElem?
    intro j
    rw [List.getElem?_set]
    by_cases e : i = j
    · subst e
      rw [if_pos rfl, if_pos (lt_get h), h]
    · rw [if_neg e]
theorem P_append : ∀ {xs xs' : List α} {ys ys' : List β}, Paired F xs ys → Paired F xs' ys' → Paired F (xs ++ xs') (ys ++ ys')
  | _, _, _, _, .nil, h => h
  | _, _, _, _, .cons f r, h => .cons f (P_append r h)
end
/-! ### what stays -/
theorem _root_.L2.Same.seqT {K : PySem.W.Frag} {H H' : Hp} {a : Addr} {xs : List V} (e : Same H H') (h : SqT K H a xs) : SqT K H' a xs := by
  rcases h with (h | ⟨o, h⟩) | h
  · exact .inl (.inl (e _ _ h))
  · exact .inl (.inr ⟨o, e _ _ h⟩)
  · exact .inr h
theorem _root_.L2.Same.new {H H' : Hp} {p : Addr} {o : HO} (s : Same H H') (h : H' p = none) : Same H (upd H' p o) := fun b x e => by
  have e' := s b x e
  rw [upd_ne (ne_of_none e' h)]
  exact e'
theorem _root_.L2.Same.mut {H H' : Hp} {p : Addr} {o : HO} (s : Same H H') (h : H p = none) : Same H (upd H' p o) := fun b x e => by
  rw [upd_ne (ne_of_none e h)]
  exact s b x e
theorem new_free {H H' : Hp} {p : Addr} (s : Same H H') (h : H' p = none) : H p = none := s.free h
theorem ne_new {H : Hp} {a p : Addr} {o : HO} (h : H a = some o) (hp : H p = none) : a ≠ p := ne_of_none h hp
/-! ### a walk over a list or a tuple -/
def Sq (K : PySem.W.Frag) (H : Hp) (a : Addr) (xs : List V) : Prop := SqL K H a xs ∨ SqT K H a xs
theorem _root_.L2.Same.sq {K : PySem.W.Frag} {H H' : Hp} {a : Addr} {xs : List V} (e : Same H H') (h : Sq K H a xs) : Sq K H' a xs := h.imp (fun q => e.seq q) (fun q => e.seqT q)
theorem for_seq {K : PySem.W.Frag} {a : Addr} {xs : List V} {g : TG} {tb : TS} {D : Ends} {σ : L2.St} {H0 H : Hp} (hq : Sq K H0 a xs) (s0 : Same H0 H) (Pv : Nat → L2.St → Hp → Prop) (h0 : Pv 0 σ H) (hl : ∀ i σ' H', i ≤ xs.length → Pv i σ' H' → Same H0 H')
    (hs : ∀ i x σ H, xs[i]? = some x → Pv i σ H → g x σ H fun σ2 H2 => tb { D with nx := Pv (i + 1), ct := Pv (i + 1), bk := D.nx } σ2 H2) (hd : ∀ σ H, Pv xs.length σ H → D.nx σ H) :
    ∃ a', V.ref a = V.ref a' ∧ (((∃ xs, SqL K H a' xs) ∧ ∃ W : Nat → Nat → L2.St → Hp → Prop, (∃ m, W 0 m σ H) ∧ ∀ i m σ H, W i m σ H →
      ((Itl K a').stop i H ∧ D.nx σ H) ∨ ((Itl K a').go i H ∧ ∃ N : L2.St → Hp → Prop, (∀ σ' H', N σ' H' → ∃ m', m' < m ∧ W (i + 1) m' σ' H') ∧ ∀ x H', (Itl K a').yld i H x H' → g x σ H' fun σ2 H2 => tb { D with nx := N, ct := N, bk := D.nx } σ2 H2)) ∨
      ((∃ xs, SqT K H a' xs) ∧ ∃ W : Nat → Nat → L2.St → Hp → Prop, (∃ m, W 0 m σ H) ∧ ∀ i m σ H, W i m σ H →
      ((Itt K a').stop i H ∧ D.nx σ H) ∨ ((Itt K a').go i H ∧ ∃ N : L2.St → Hp → Prop, (∀ σ' H', N σ' H' → ∃ m', m' < m ∧ W (i + 1) m' σ' H') ∧ ∀ x H', (Itt K a').yld i H x H' → g x σ H' fun σ2 H2 => tb { D with nx := N, ct := N, bk := D.nx } σ2 H2))) := by
  rcases hq with hq | hq
  · exact ⟨a, rfl, .inl ⟨⟨_, s0.seq hq⟩, for_list (K := K) (a := a) (xs := xs) Pv h0 (fun i σ' H' hi p => (hl i σ' H' hi p).seq hq) hs hd⟩⟩
  · exact ⟨a, rfl, .inr ⟨⟨_, s0.seqT hq⟩, for_tup (K := K) (a := a) (xs := xs) Pv h0 (fun i σ' H' hi p => (hl i σ' H' hi p).seqT hq) hs hd⟩⟩
/-! ### dicts by numbers -/
def dkN {β : Type} (f : β → V) (l : List (Nat × β)) : List (Key × V) := l.map fun p => (Sum.inl (p.1 : Int), f p.2)
theorem key_eq {a b : Nat} : ((Sum.inl (a : Int) : Key) = Sum.inl (b : Int)) ↔ a = b := by
  constructor
  · intro h
    have := Sum.inl.inj h
    omega
  · intro h
    rw [h]
theorem val_dk {β : Type} (f : β → V) (k : Nat) : ∀ l : List (Nat × β), valV (dkN f l) (Sum.inl (k : Int)) = (look l k).map f
  | [] => rfl
  | p :: r => by
    show valV ((Sum.inl (p.1 : Int), f p.2) :: dkN f r) (Sum.inl (k : Int)) = (if p.1 = k then some p.2 else look r k).map f
    by_cases e : p.1 = k
    · rw [valV_pos (key_eq.mpr e), if_pos e]
      rfl
    · rw [valV_neg (fun z => e (key_eq.mp z)), if_neg e, val_dk f k r]
theorem put_dk {β : Type} (f : β → V) (k : Nat) (v : β) (l : List (Nat × β)) (hn : (l.map (·.1)).Nodup) : putK (dkN f l) (Sum.inl (k : Int)) (f v) = dkN f (put l k v) := by
  unfold putK
  rw [valV_any, val_dk]
  cases h : look l k with
  | none =>
    rw [if_neg (by simp)]
    rw [put_new l h]
    unfold dkN
    rw [List.map_append]
    rfl
  | some w =>
    rw [if_pos (by simp)]
    exact put_old l (by rw [h]; rfl) hn
where
  put_new : ∀ (l : List (Nat × β)), look l k = none → put l k v = l ++ [(k, v)]
    | [], _ => rfl
    | p :: r, h => by
      unfold look at h
      by_cases e : p.1 = k
      · rw [if_pos e] at h
        cases h
      · rw [if_neg e] at h
        show (if p.1 = k then (p.1, v) :: r else p :: put r k v) = _
        rw [if_neg e, put_new r h]
        rfl
  map_other : ∀ (l : List (Nat × β)), k ∉ l.map (·.1) → (dkN f l).map (fun kv => if kv.1 = Sum.inl (k : Int) then (kv.1, f v) else kv) = dkN f l
    | [], _ => rfl
    | p :: r, h => by
      rw [List.map_cons, List.mem_cons, not_or] at h
      show (if (Sum.inl (p.1 : Int) : Key) = Sum.inl (k : Int) then (Sum.inl (p.1 : Int), f v) else (Sum.inl (p.1 : Int), f p.2)) :: (dkN f r).map (fun kv => if kv.1 = Sum.inl (k : Int) then (kv.1, f v) else kv) = _
      rw [if_neg (fun z => h.1 (key_eq.mp z).symm), map_other r h.2]
      rfl
  put_old : ∀ (l : List (Nat × β)), (look l k).isSome = true → (l.map (·.1)).Nodup → (dkN f l).map (fun kv => if kv.1 = Sum.inl (k : Int) then (kv.1, f v) else kv) = dkN f (put l k v)
    | [], h, _ => by cases h
    | p :: r, h, hn => by
      rw [List.map_cons] at hn
      obtain ⟨h1, h2⟩ := List.nodup_cons.mp hn
      show (if (Sum.inl (p.1 : Int) : Key) = Sum.inl (k : Int) then (Sum.inl (p.1 : Int), f v) else (Sum.inl (p.1 : Int), f p.2)) :: (dkN f r).map (fun kv => if kv.1 = Sum.inl (k : Int) then (kv.1, f v) else kv) = dkN f (if p.1 = k then (p.1, v) :: r else p :: put r k v)
      by_cases e : p.1 = k
      · rw [if_pos (key_eq.mpr e), if_pos e, map_other r (by rw [← e]; exact h1)]
        rfl
      · rw [if_neg (fun z => e (key_eq.mp z)), if_neg e]
        unfold look at h
        rw [if_neg e] at h
        rw [put_old r h h2]
        rfl
theorem dk_len {β : Type} (f : β → V) (l : List (Nat × β)) : (dkN f l).length = l.length := by unfold dkN; rw [List.length_map]
theorem put_keys {β : Type} (k : Nat) (v : β) : ∀ (l : List (Nat × β)), (l.map (·.1)).Nodup → ((put l k v).map (·.1)).Nodup ∧ ∀ x, x ∈ (put l k v).map (·.1) → x = k ∨ x ∈ l.map (·.1)
  | [], _ => ⟨by simp [put], fun x h => .inl (by simpa [put] using h)⟩
  | p :: r, hn => by
    rw [List.map_cons] at hn
    obtain ⟨h1, h2⟩ := List.nodup_cons.mp hn
    unfold put
    by_cases e : p.1 = k
    · rw [if_pos e]
      exact ⟨hn, fun x h => .inr h⟩
    · rw [if_neg e]
      obtain ⟨i1, i2⟩ := put_keys k v r h2
      refine ⟨?_, fun x h => ?_⟩
      · rw [List.map_cons]
        refine List.nodup_cons.mpr ⟨fun z => ?_, i1⟩
        rcases i2 _ z with q | q
        · exact e q
        · exact h1 q
      · rw [List.map_cons, List.mem_cons] at h
        rcases h with q | q
        · rw [q, List.map_cons]
          exact .inr List.mem_cons_self
        · rcases i2 _ q with q | q
          · exact .inl q
          · rw [List.map_cons]
            exact .inr (List.mem_cons_of_mem _ q)
theorem dget_n {β : Type} {H : Hp} {a : Addr} {f : β → V} {l : List (Nat × β)} {k : Nat} (h : H a = some (.dK (dkN f l))) : DGet H a (nV k) ((look l k).map f) := by
  have := DGet.k (k := Sum.inl (k : Int)) h
  rw [val_dk] at this
  exact this
theorem dput_n {β : Type} {H : Hp} {a : Addr} {f : β → V} {l : List (Nat × β)} {k : Nat} {v : β} (h : H a = some (.dK (dkN f l))) (hl : l.length < sizeLine) (hn : (l.map (·.1)).Nodup) : DPut H a (nV k) (f v) (upd H a (.dK (dkN f (put l k v)))) := by
  have := DPut.k (k := Sum.inl (k : Int)) (v := f v) h (by rw [dk_len]; exact hl)
  rw [put_dk f k v l hn] at this
  exact this
/-! ### lists of lists of numbers, all new -/
/-- at a (new since H0) a list of lists, each new since H0, no two the same -/
structure LL (H0 H : Hp) (a : Addr) (bs : List (List Nat)) : Prop where
  new : H0 a = none
  ex : ∃ as : List Addr, H a = some (.lst (as.map V.ref)) ∧ as.Nodup ∧ (∀ x ∈ as, H0 x = none ∧ x ≠ a) ∧ Paired (fun x l => H x = some (.lst (l.map nV))) as bs
theorem LL.other {H0 H : Hp} {a p : Addr} {o : HO} {bs : List (List Nat)} (h : LL H0 H a bs) (hp : H p = none) : LL H0 (upd H p o) a bs := by
  obtain ⟨n, as, h1, h2, h3, h4⟩ := h
  refine ⟨n, as, by rw [upd_ne (ne_of_none h1 hp)]; exact h1, h2, h3, P_mono (fun x l e => ?_) h4⟩
  rw [upd_ne (ne_of_none e hp)]
  exact e
/-- what is not of it may change -/
theorem LL.apart {H0 H H' : Hp} {a : Addr} {bs : List (List Nat)} (h : LL H0 H a bs) (s : Same H H') : LL H0 H' a bs := by
  obtain ⟨n, as, h1, h2, h3, h4⟩ := h
  exact ⟨n, as, s _ _ h1, h2, h3, P_mono (fun x l e => s _ _ e) h4⟩
theorem LL.at {H0 H : Hp} {a : Addr} {bs : List (List Nat)} (h : LL H0 H a bs) {i : Nat} {l : List Nat} (hi : bs[i]? = some l) : ∃ (vs : List V) (x : Addr), H a = some (.lst vs) ∧ vs[i]? = some (V.ref x) ∧ H x = some (.lst (l.map nV)) ∧ H0 x = none ∧ x ≠ a := by
  obtain ⟨n, as, h1, h2, h3, h4⟩ := h
  obtain ⟨x, hx, hl⟩ := P_left h4 hi
  have hm : x ∈ as := List.mem_of_getElem? hx
  exact ⟨_, x, h1, getn hx, hl, (h3 x hm).1, (h3 x hm).2⟩
/-- the i-th list grows -/
theorem LL.grow {H0 H : Hp} {a : Addr} {bs : List (List Nat)} (h : LL H0 H a bs) {i : Nat} {l : List Nat} {vs : List V} {x : Addr} (hi : bs[i]? = some l) (hv : H a = some (.lst vs)) (hx : vs[i]? = some (V.ref x)) (m : List Nat) : LL H0 (upd H x (.lst (m.map nV))) a (bs.set i m) := by
  obtain ⟨n, as, h1, h2, h3, h4⟩ := h
  rw [h1] at hv
  cases hv
  obtain ⟨y, hy, e⟩ := getn_inv hx
  cases e
  have hm : x ∈ as := List.mem_of_getElem? hy
  refine ⟨n, as, ?_, h2, h3, ?_⟩
  · rw [upd_ne (Ne.symm (h3 x hm).2)]
    exact h1
  · have key : Paired (fun z l => (z = x → l = m) → (upd H x (.lst (m.map nV))) z = some (.lst (l.map nV))) as bs := P_mono (fun z l e q => by
      by_cases c : z = x
      · rw [c, upd_same, q c]
      · rw [upd_ne c]
        exact e) h4
    exact P_fix h2 key hy
where
  P_fix : ∀ {as : List Addr} {bs : List (List Nat)} {i : Nat}, as.Nodup → Paired (fun z l => (z = x → l = m) → (upd H x (.lst (m.map nV))) z = some (.lst (l.map nV))) as bs → as[i]? = some x →
      Paired (fun z l => (upd H x (.lst (m.map nV))) z = some (.lst (l.map nV))) as (bs.set i m)
    | _, _, _, _, .nil, h => by simp at h
    | _, _, 0, hn, .cons f r, h => by
      simp at h
      subst h
      obtain ⟨h1, h2⟩ := List.nodup_cons.mp hn
      refine .cons upd_same (P_monoM (fun z l hz e => e fun c => absurd (c ▸ hz) h1) r)
    | _, _, i + 1, hn, .cons f r, h => by
      obtain ⟨h1, h2⟩ := List.nodup_cons.mp hn
      have hx : _ := List.mem_of_getElem? (show _ from (by simpa using h : (_ : List Addr)[i]? = some x))
      refine .cons (f fun c => absurd (c ▸ hx) h1) (P_fix h2 r (by simpa using h))
/-! ### lists of pairs -/
/-- the refs of a list of pairs of numbers -/
def Prs (K : PySem.W.Frag) (H : Hp) (vs : List V) (ps : PL) : Prop := Paired (fun v q => ∃ t, v = V.ref t ∧ SqT K H t [nV q.1, nV q.2]) vs ps
theorem Prs.same {K : PySem.W.Frag} {H H' : Hp} {vs : List V} {ps : PL} (h : Prs K H vs ps) (s : Same H H') : Prs K H' vs ps := P_mono (fun _ _ ⟨t, e, q⟩ => ⟨t, e, s.seqT q⟩) h
end KH
namespace KH
open PySem PySem.Spec PyProof.Rows L2 K02
theorem Prs.len {K : PySem.W.Frag} {H : Hp} {vs : List V} {ps : PL} (h : Prs K H vs ps) : vs.length = ps.length := P_len h
theorem Prs.snoc {K : PySem.W.Frag} {H : Hp} {vs : List V} {ps : PL} {t : Addr} {a b : Nat} (h : Prs K H vs ps) (ht : SqT K H t [nV a, nV b]) : Prs K H (vs ++ [V.ref t]) (ps ++ [(a, b)]) := P_append h (.cons ⟨t, rfl, ht⟩ .nil)
theorem within_snoc {m : Nat} {ps : PL} {a b : Nat} (h : Within m ps) (ha : a < m) (hb : b < m) : Within m (ps ++ [(a, b)]) := fun p hp => by
  rcases List.mem_append.mp hp with q | q
  · exact h p q
  · rw [List.mem_singleton.mp q]
    exact ⟨ha, hb⟩
theorem within_app {m : Nat} {ps qs : PL} (h : Within m ps) (k : Within m qs) : Within m (ps ++ qs) := fun p hp => by
  rcases List.mem_append.mp hp with q | q
  · exact h p q
  · exact k p q
theorem within_nil {m : Nat} : Within m [] := fun _ h => by cases h
theorem sp2 : (2 : Nat) ≤ sizeLine := by decide
end KH
namespace KH
open PySem PySem.Spec PyProof.Rows L2 K02
/-- a tuple stands beside a list that changes -/
theorem sqT_mutL {K : PySem.W.Frag} {H : Hp} {t o : Addr} {xs us : List V} {x : HO} (h : SqT K H t xs) (e : H o = some (.lst us)) : SqT K (upd H o x) t xs := by
  rcases h with (h | ⟨ob, h⟩) | h
  · exact .inl (.inl (by rw [upd_ne (ne_of h e (by intro z; cases z))]; exact h))
  · exact .inl (.inr ⟨ob, by rw [upd_ne (ne_of h e (by intro z; cases z))]; exact h⟩)
  · exact .inr h
theorem Prs.mutL {K : PySem.W.Frag} {H : Hp} {o : Addr} {vs us : List V} {ps : PL} {x : HO} (h : Prs K H vs ps) (e : H o = some (.lst us)) : Prs K (upd H o x) vs ps := P_mono (fun _ _ ⟨t, et, q⟩ => ⟨t, et, sqT_mutL q e⟩) h
theorem sqT_new {K : PySem.W.Frag} {H : Hp} {t p : Addr} {xs : List V} {x : HO} (h : SqT K H t xs) (e : H p = none) : SqT K (upd H p x) t xs := ((Same.refl H).new e).seqT h
theorem Prs.new {K : PySem.W.Frag} {H : Hp} {p : Addr} {vs : List V} {ps : PL} {x : HO} (h : Prs K H vs ps) (e : H p = none) : Prs K (upd H p x) vs ps := h.same ((Same.refl H).new e)
end KH
namespace KH
open PySem PySem.Spec PyProof.Rows L2 K02
theorem LL.snoc {H0 H : Hp} {a p : Addr} {bs : List (List Nat)} {vs : List V} (h : LL H0 H a bs) (s : Same H0 H) (hp : H p = none) (hv : H a = some (.lst vs)) (l : List Nat) :
    LL H0 (upd (upd H p (.lst (l.map nV))) a (.lst (vs ++ [V.ref p]))) a (bs ++ [l]) := by
  obtain ⟨n, as, h1, h2, h3, h4⟩ := h
  rw [h1] at hv
  cases hv
  have hpa : p ≠ a := fun z => by rw [z, h1] at hp; cases hp
  have hpas : p ∉ as := fun z => by
    obtain ⟨i, hi⟩ := List.getElem?_of_mem z
    obtain ⟨l', _, e⟩ := P_right h4 hi
    rw [hp] at e
    cases e
  refine ⟨n, as ++ [p], ?_, ?_, ?_, ?_⟩
  · rw [upd_same, List.map_append]
    rfl
  · refine List.nodup_append.mpr ⟨h2, by simp, fun x hx y hy => ?_⟩
    rw [List.mem_singleton.mp hy]
    exact fun z => hpas (z ▸ hx)
  · intro x hx
    rcases List.mem_append.mp hx with q | q
    · exact h3 x q
    · rw [List.mem_singleton.mp q]
      exact ⟨s.free hp, hpa⟩
  · refine P_append (P_monoM (fun x l' hx e => ?_) h4) (.cons ?_ .nil)
    · rw [upd_ne (h3 x hx).2, upd_ne (ne_of_none e hp)]
      exact e
    · rw [upd_ne hpa, upd_same]
theorem LL.lst {H0 H : Hp} {a : Addr} {bs : List (List Nat)} (h : LL H0 H a bs) : ∃ vs, H a = some (.lst vs) ∧ vs.length = bs.length := by
  obtain ⟨n, as, h1, h2, h3, h4⟩ := h
  exact ⟨_, h1, by rw [List.length_map]; exact P_len h4⟩
theorem LL.nil {H : Hp} {a : Addr} (h : H a = none) : LL H (upd H a (.lst [])) a [] := ⟨h, [], upd_same, List.nodup_nil, fun x hx => (by cases hx), .nil⟩
/-- another new object that is none of its own changes -/
theorem LL.beside {H0 H : Hp} {a p : Addr} {o u : HO} {bs : List (List Nat)} (h : LL H0 H a bs) (hp : H p = some u) (hu : ∀ xs, u ≠ .lst xs) : LL H0 (upd H p o) a bs := by
  obtain ⟨n, as, h1, h2, h3, h4⟩ := h
  refine ⟨n, as, by rw [upd_ne (ne_of h1 hp (fun z => hu _ z.symm))]; exact h1, h2, h3, P_mono (fun x l e => ?_) h4⟩
  rw [upd_ne (ne_of e hp (fun z => hu _ z.symm))]
  exact e
/-! ### what the pairs give place by place -/
theorem bef_app (qs : PL) (a b v : Nat) : bef (qs ++ [(a, b)]) v = bef qs v ++ (if b = v then [a] else []) := by
  unfold bef
  rw [List.filter_append, List.map_append]
  by_cases h : b = v
  · rw [if_pos h]
    congr 1
    simp [h]
  · rw [if_neg h]
    congr 1
    simp [h]
theorem aft_app (qs : PL) (a b v : Nat) : aft (qs ++ [(a, b)]) v = aft qs v ++ (if a = v then [b] else []) := by
  unfold aft
  rw [List.filter_append, List.map_append]
  by_cases h : a = v
  · rw [if_pos h]
    congr 1
    simp [h]
  · rw [if_neg h]
    congr 1
    simp [h]
def befs (m : Nat) (ps : PL) : List (List Nat) := (List.range m).map (bef ps)
def afts (m : Nat) (ps : PL) : List (List Nat) := (List.range m).map (aft ps)
theorem befs_at {m v : Nat} (ps : PL) (h : v < m) : (befs m ps)[v]? = some (bef ps v) := by
  unfold befs
  rw [List.getElem?_map, List.getElem?_range h]
  rfl
theorem afts_at {m v : Nat} (ps : PL) (h : v < m) : (afts m ps)[v]? = some (aft ps v) := by
  unfold afts
  rw [List.getElem?_map, List.getElem?_range h]
  rfl
theorem set_map_range {m b : Nat} (f g : Nat → List Nat) (x : List Nat) (hx : g b = x) (hn : ∀ v, v < m → v ≠ b → g v = f v) : ((List.range m).map f).set b x = (List.range m).map g := by
  apply List.ext_getElem?
  intro j
  rw [List.getElem?_set, List.getElem?_map, List.getElem?_map, List.length_map, List.length_range]
  by_cases hj : j < m
  · rw [List.getElem?_range hj]
    by_cases e : b = j
    · subst e
      rw [if_pos rfl, if_pos hj]
      show some x = some (g b)
      rw [hx]
    · rw [if_neg e]
      show some (f j) = some (g j)
      rw [hn j hj (fun z => e z.symm)]
  · rw [List.getElem?_eq_none (by rw [List.length_range]; omega)]
    by_cases e : b = j
    · subst e
      rw [if_pos rfl, if_neg hj]
      rfl
    · rw [if_neg e]
      rfl
theorem befs_step {m a b i : Nat} {ps : PL} (h : ps[i]? = some (a, b)) : (befs m (ps.take i)).set b (bef (ps.take i) b ++ [a]) = befs m (ps.take (i + 1)) := by
  unfold befs
  refine set_map_range _ _ _ ?_ fun v hv hne => ?_
  · rw [take_more h, bef_app, if_pos rfl]
  · rw [take_more h, bef_app, if_neg (fun z => hne z.symm), List.append_nil]
theorem afts_step {m a b i : Nat} {ps : PL} (h : ps[i]? = some (a, b)) : (afts m (ps.take i)).set a (aft (ps.take i) a ++ [b]) = afts m (ps.take (i + 1)) := by
  unfold afts
  refine set_map_range _ _ _ ?_ fun v hv hne => ?_
  · rw [take_more h, aft_app, if_pos rfl]
  · rw [take_more h, aft_app, if_neg (fun z => hne z.symm), List.append_nil]
theorem befs_nil (m : Nat) : befs m [] = List.replicate m [] := by
  unfold befs
  apply List.ext_getElem?
  intro j
  rw [List.getElem?_map, List.getElem?_replicate]
  by_cases hj : j < m
  · rw [List.getElem?_range hj, if_pos hj]
    rfl
  · rw [List.getElem?_eq_none (by rw [List.length_range]; omega), if_neg hj]
    rfl
theorem afts_nil (m : Nat) : afts m [] = List.replicate m [] := by
  unfold afts
  apply List.ext_getElem?
  intro j
  rw [List.getElem?_map, List.getElem?_replicate]
  by_cases hj : j < m
  · rw [List.getElem?_range hj, if_pos hj]
    rfl
  · rw [List.getElem?_eq_none (by rw [List.length_range]; omega), if_neg hj]
    rfl
theorem bef_len (ps : PL) (v : Nat) : (bef ps v).length ≤ ps.length := by
  unfold bef
  rw [List.length_map]
  exact List.length_filter_le _ _
theorem aft_len (ps : PL) (v : Nat) : (aft ps v).length ≤ ps.length := by
  unfold aft
  rw [List.length_map]
  exact List.length_filter_le _ _
/-! ### the taken ones: a dict that holds True -/
def tk (t : List Nat) : List (Nat × Bool) := t.map fun x => (x, true)
theorem tk_keys (t : List Nat) : (tk t).map (·.1) = t := by
  unfold tk
  rw [List.map_map]
  exact List.map_id' t
theorem tk_len (t : List Nat) : (tk t).length = t.length := by unfold tk; rw [List.length_map]
theorem tk_look : ∀ (t : List Nat) (k : Nat), look (tk t) k = if t.contains k then some true else none
  | [], k => rfl
  | x :: r, k => by
    show (if x = k then some true else look (tk r) k) = _
    rw [tk_look r k, List.contains_cons]
    by_cases e : x = k
    · subst e
      simp
    · have : (k == x) = false := by simpa using fun z : k = x => e z.symm
      rw [if_neg e, this, Bool.false_or]
theorem tk_some (t : List Nat) (k : Nat) : ((look (tk t) k).map V.bl).isSome = t.contains k := by
  rw [tk_look]
  cases t.contains k <;> rfl
theorem tk_put {t : List Nat} {k : Nat} (h : k ∉ t) : put (tk t) k true = tk (t ++ [k]) := by
  rw [put_dk.put_new k true (tk t) (by rw [look_none_iff, tk_keys]; exact h)]
  unfold tk
  rw [List.map_append]
  rfl
/-- what a def hands back: None, or a new list -/
def OutL (H H' : Hp) (v : V) (r : Option (List Nat)) : Prop := match r with
  | none => v = .non
  | some l => ∃ p, v = .ref p ∧ H p = none ∧ H' p = some (.lst (l.map nV))
end KH
namespace KH
open PySem PySem.Spec PyProof.Rows L2 K02
/-! ### lists of lists that are read -/
def LR (H : Hp) (a : Addr) (bs : List (List Nat)) : Prop := ∃ as : List Addr, H a = some (.lst (as.map V.ref)) ∧ Paired (fun x l => H x = some (.lst (l.map nV))) as bs
theorem LR.same {H H' : Hp} {a : Addr} {bs : List (List Nat)} (h : LR H a bs) (s : Same H H') : LR H' a bs := by
  obtain ⟨as, h1, h2⟩ := h
  exact ⟨as, s _ _ h1, P_mono (fun _ _ e => s _ _ e) h2⟩
theorem LR.at {H : Hp} {a : Addr} {bs : List (List Nat)} (h : LR H a bs) {i : Nat} {l : List Nat} (hi : bs[i]? = some l) : ∃ (vs : List V) (x : Addr), H a = some (.lst vs) ∧ vs[i]? = some (V.ref x) ∧ H x = some (.lst (l.map nV)) := by
  obtain ⟨as, h1, h2⟩ := h
  obtain ⟨x, hx, hl⟩ := P_left h2 hi
  exact ⟨_, x, h1, getn hx, hl⟩
theorem LL.lr {H0 H : Hp} {a : Addr} {bs : List (List Nat)} (h : LL H0 H a bs) : LR H a bs := by
  obtain ⟨_, as, h1, _, _, h4⟩ := h
  exact ⟨as, h1, h4⟩
theorem OutL.same {H H1 H2 : Hp} {v : V} {r : Option (List Nat)} (h : OutL H H1 v r) (s : Same H1 H2) : OutL H H2 v r := by
  cases r with
  | none => exact h
  | some l =>
    obtain ⟨p, e, h0, hp⟩ := h
    exact ⟨p, e, h0, s _ _ hp⟩
/-- one of two, both new lists of lists: an own list of one changes -/
structure LX (H : Hp) (a : Addr) (as : List Addr) (bs : List (List Nat)) : Prop where
  top : H a = some (.lst (as.map V.ref))
  nd : as.Nodup
  na : a ∉ as
  ins : Paired (fun x l => H x = some (.lst (l.map nV))) as bs
theorem LL.lx {H0 H : Hp} {a : Addr} {bs : List (List Nat)} (h : LL H0 H a bs) : ∃ as, LX H a as bs ∧ (∀ x ∈ as, H0 x = none) := by
  obtain ⟨_, as, h1, h2, h3, h4⟩ := h
  exact ⟨as, ⟨h1, h2, fun z => (h3 a z).2 rfl, h4⟩, fun x hx => (h3 x hx).1⟩
theorem LX.same {H H' : Hp} {a : Addr} {as : List Addr} {bs : List (List Nat)} (h : LX H a as bs) (s : Same H H') : LX H' a as bs := ⟨s _ _ h.top, h.nd, h.na, P_mono (fun _ _ e => s _ _ e) h.ins⟩
theorem LX.frame {H : Hp} {a p : Addr} {o : HO} {as : List Addr} {bs : List (List Nat)} (h : LX H a as bs) (h1 : p ≠ a) (h2 : p ∉ as) : LX (upd H p o) a as bs :=
  ⟨by rw [upd_ne (Ne.symm h1)]; exact h.top, h.nd, h.na, P_monoM (fun x l hx e => by rw [upd_ne (show x ≠ p from fun z => h2 (z ▸ hx))]; exact e) h.ins⟩
theorem LX.lr {H : Hp} {a : Addr} {as : List Addr} {bs : List (List Nat)} (h : LX H a as bs) : LR H a bs := ⟨as, h.top, h.ins⟩
theorem LX.at {H : Hp} {a : Addr} {as : List Addr} {bs : List (List Nat)} (h : LX H a as bs) {i : Nat} {l : List Nat} (hi : bs[i]? = some l) : ∃ x : Addr, as[i]? = some x ∧ x ∈ as ∧ (as.map V.ref)[i]? = some (V.ref x) ∧ H x = some (.lst (l.map nV)) := by
  obtain ⟨x, hx, hl⟩ := P_left h.ins hi
  exact ⟨x, hx, List.mem_of_getElem? hx, getn hx, hl⟩
theorem P_fixA {H : Hp} {x : Addr} {m : List Nat} : ∀ {as : List Addr} {bs : List (List Nat)} {i : Nat}, as.Nodup → Paired (fun z l => (z = x → l = m) → (upd H x (.lst (m.map nV))) z = some (.lst (l.map nV))) as bs → as[i]? = some x →
      Paired (fun z l => (upd H x (.lst (m.map nV))) z = some (.lst (l.map nV))) as (bs.set i m)
    | _, _, _, _, .nil, h => by simp at h
    | _, _, 0, hn, .cons f r, h => by
      simp at h
      subst h
      obtain ⟨h1, h2⟩ := List.nodup_cons.mp hn
      refine .cons upd_same (P_monoM (fun z l hz e => e fun c => absurd (c ▸ hz) h1) r)
    | _, _, i + 1, hn, .cons f r, h => by
      obtain ⟨h1, h2⟩ := List.nodup_cons.mp hn
      have hx : _ := List.mem_of_getElem? (show _ from (by simpa using h : (_ : List Addr)[i]? = some x))
      refine .cons (f fun c => absurd (c ▸ hx) h1) (P_fixA h2 r (by simpa using h))
theorem LX.grow {H : Hp} {a x : Addr} {as : List Addr} {bs : List (List Nat)} (h : LX H a as bs) {i : Nat} (hx : as[i]? = some x) (m : List Nat) : LX (upd H x (.lst (m.map nV))) a as (bs.set i m) := by
  have hm : x ∈ as := List.mem_of_getElem? hx
  refine ⟨by rw [upd_ne (show a ≠ x from fun z => h.na (z ▸ hm))]; exact h.top, h.nd, h.na, ?_⟩
  have key : Paired (fun z l => (z = x → l = m) → (upd H x (.lst (m.map nV))) z = some (.lst (l.map nV))) as bs := P_mono (fun z l e q => by
    by_cases c : z = x
    · rw [c, upd_same, q c]
    · rw [upd_ne c]
      exact e) h.ins
  exact P_fixA h.nd key hx
end KH

set_option maxHeartbeats 2000000
/-! an own exception whose __init__ says super().__init__('text') and keeps its arguments as fields -/
namespace PySem
namespace OwX
open PySem.W PySem.Calls PyProof.Rows PySem.HandSPX
/-- the rows self.f = f -/
inductive Stores : List Stmt → List Str → Prop
  | nil : Stores [] []
  | cons {f : Str} {q1 q2 q3 q4 : Pos} {rest : List Stmt} {fs : List Str} : Stores rest fs → Stores (.Assign [.Attribute (.Name "self" q1) f q2] (.Name f q3) q4 :: rest) (f :: fs)
inductive Body : List Stmt → List Str → Prop
  | mk {text : Str} {k : Nat} {p1 p2 p3 p4 p5 p6 : Pos} {rest : List Stmt} {fs : List Str} : (p3.endLine == p5.line) = true → Stores rest fs →
      Body (.Expr (.Call (.Attribute (.Call (.Name "super" p1) [] [] p2) "__init__" p3) [.Constant (.str text) k p4] [] p5) p6 :: rest) fs
/-- what the written part says of the class at C and of its __init__, at fI -/
structure OwnTxt (P : Program) (K : Frag) (C fI : Addr) (fs : List Str) : Prop where
  cls : ∃ nm q N bs bm sn sub ab col dd k0 k1 k2 k3 k5, K.lookup C = some (excClassObj nm q C N bs bm true sn sub ab col dd k0 k1 k2 k3 k5 "ValueError.__new__") ∧ refsVE bm = true
  sa : findIn K (.ref C) "__setattr__" = some (some (.builtin "object.__setattr__"))
  ga : findIn K (.ref C) "__getattribute__" = some (some (.builtin "BaseException.__getattribute__"))
  gg : findIn K (.ref C) "__getattr__" = some none
  noN : ∀ f ∈ fs, findIn K (.ref C) f = some none
  iC : findIn K (.ref C) "__init__" = some (some (.ref fI))
  tC : typeIn K (.ref fI) = some (.type "function")
  kC : keepIn K (.ref C) = true
  exC : subIn K (.ref C) (.type "BaseException") = some true
  tyC : typeIn K (.ref C) = some (.type "type")
  hdC : hasDictIn K C = true
  veC : subIn K (.ref C) (.type "ValueError") = some true
  spC : mroIn K C (.ref C) = some true
  suC : ks_superIn K C C "__init__" = some (some (.builtin "ValueError.__init__"))
  noO : nsIn K cStatics "thirdparty.any" = some none
  noS : nsIn K mainGlobals "super" = some none
  top : (P.main.scope.names.lookup ("super" : Str)).isSome = false
  few : fs.length ≤ 900
  fn : ∃ (oc : Value) (od : Option Addr) (name qual : Str) (params : Arguments) (body : List Stmt) (scope : Scope) (dV kV doc pm : Value) (an : Option Addr) (cda cc : Addr) (ct : Value) (osl : Array (Option Value))
      (ar : Arg) (ccl : Value) (cdd : Option Addr) (vs : Array Value) (ccs : Array (Option Value)) (file : Str) (tf : Tok) (cl : Value) (cld : Option Addr) (csl : Array (Option Value)),
    K.lookup fI = some ⟨oc, od, .func (ksFn name qual params body scope dV kV doc pm an (.ref cda) ct cc), osl⟩ ∧ codeIn K (.ref cda) qual = true ∧ Body body fs ∧
    (params.posonlyargs ++ params.args).head? = some ar ∧ ar.arg = "self" ∧
    K.lookup cda = some ⟨ccl, cdd, .fields vs, ccs⟩ ∧ vs[2]? = some (.str file tf) ∧ ((P.main.file : Str) == file) = true ∧ K.lookup cc = some ⟨cl, cld, .cell (some (.ref C)), csl⟩ ∧
    scope.names.lookup ("super" : Str) = some .globalImplicit ∧ scope.names.lookup ("__class__" : Str) = some .free ∧ (∀ y ∈ ("self" : Str) :: fs, scope.names.lookup y = some .local) ∧
    (∀ x ∈ scope.names, x.2 ≠ .cell) ∧ scope.kind = .function ∧ scope.isCoroutine = false ∧ scope.isGenerator = false ∧
    ∀ (s : Shared) (us : List Value), us.length = fs.length + 1 → BindsTo s (ksFn name qual params body scope dV kV doc pm an (.ref cda) ct cc) ⟨us, []⟩ ((("self" : Str) :: fs).zip us)
abbrev excD (C : Addr) (dx : Option Addr) (t1 : Addr) : Obj := { cls := .ref C, dict := dx, data := .fields #[.ref t1, .none, .none, .none, .bool false, .none] }
/-- the fields, the last first -/
def fld (l : List (Str × Value)) : Str → Option Value := fun y => l.lookup y
theorem fld_cons {n : Str} {v : Value} {l : List (Str × Value)} : fld ((n, v) :: l) = fun y => if y = n then some v else fld l y := by
  funext y
  unfold fld
  by_cases e : y = n
  · subst e
    simp [List.lookup]
  · have e' : (y == n) = false := by simpa using e
    rw [if_neg e]
    simp [List.lookup, e']
theorem fld_nil : fld [] = fun _ => none := rfl
theorem fld_within (l : List (Str × Value)) : Within (fld l) (l.map (·.1)) := by
  induction l with
  | nil => exact Within.nil
  | cons a l ih =>
    obtain ⟨n, v⟩ := a
    rw [fld_cons]
    exact Within.cons n v ih
/-- what __init__ leaves of a fresh exception at x -/
structure InitEnd (h h' : Heap) (x C dx t1 : Addr) (l : List (Str × Value)) : Prop where
  keep : ∀ b o, b ≠ x → h.get? b = some o → h'.get? b = some o
  obj : h'.get? x = some (excD C (some dx) t1)
  dbig : h.objs.size ≤ dx
  dne : dx ≠ x
  ns : h'.Ns1 dx (fld l)
section
variable {prog : Program} {w : World} {A : Around} {E : Value → Shared → Prop} {R : Result → Shared → Prop} {s : Shared} {K : Frag} {mg mb : Str → Option Value} {C fI : Addr} {fs : List Str}
/-- ValueError.__init__ bound to the instance, called -/
theorem call_mw {h : Heap} {g : Array GenState} {d : Drawn} {t : Nat} {os : OsState} {nm q : Str} {N : Addr} {bs bm : List Value} {hdct : Bool} {sn : List Str} {sub : List Value} {ab : Bool} {col : Option Bool} {dd : Option Addr} {k0 k1 k2 k3 k5 : Option Value}
    {u e t0 : Addr} {rest : List Value} {Q : Value → Shared → Prop}
    (hC : h.get? C = some (excClassObj nm q C N bs bm hdct sn sub ab col dd k0 k1 k2 k3 k5 "ValueError.__new__")) (he : h.get? e = some (excD C none t0)) (hu : h.get? u = some (kxs_mw "ValueError.__init__" e)) (hrest : rest.length ≤ sizeLine)
    (hq : ∀ h' t1, (∀ b o, b ≠ e → h.get? b = some o → h'.get? b = some o) → h'.get? e = some (excD C none t1) → Q .none ⟨h', g, d, t, os⟩) :
    wpAny (model prog w) A (call (.ref u) rest) Q E ⟨h, g, d, t, os⟩ := by
  refine wpAny_call (codeAny_of_tree ?_)
  show wpAny _ A.in1 (callAny (.ref u) ⟨rest, []⟩) _ _ _
  simp only [callAny]
  refine wpAny_bind (wpAny_load hu ?_)
  simp only [kxs_mw, show (Value.type "method-wrapper" == Value.type "method" || Value.type "method-wrapper" == Value.type "builtin_function_or_method" || Value.type "method-wrapper" == Value.type "method-wrapper") = true by decide, if_true]
  refine KFB.if_so (by decide) ?_
  refine wpAny_bind (check_bound_init F.excBase_ValueError.toExcCallFacts hC he rfl ?_)
  refine wpAny_bind (wpAny_pure (wpAny_pure ?_))
  refine ⟨plainId_quiet F.excBase_ValueError.init.plain _, codeAny_builtin F.excBase_ValueError.initEntry ?_⟩
  exact exc_init_tree (cls := .ref C) (t0 := t0) (dv := none) (c2 := .none) (c3 := .none) (b4 := .bool false) he hrest fun h' k e' _ => hq h' _ k e'
theorem in_but {h h' : Heap} {x : Addr} (X : K.In h) (hx : K.lookup x = none) (k : ∀ b o, b ≠ x → h.get? b = some o → h'.get? b = some o) : K.In h' := fun a o e =>
  k a o (fun z => by rw [z, hx] at e; cases e) (X a o e)
theorem out_of {h : Heap} {a : Addr} (X : K.In h) (ha : h.objs.size ≤ a) : K.lookup a = none := by
  cases e : K.lookup a with
  | none => rfl
  | some o => exact absurd (Heap.lt_size (X _ _ e)) (Nat.not_lt.mpr ha)
theorem ns_but {h h' : Heap} {x L : Addr} {m : Str → Option Value} (n : h.Ns L m) (hx : L ≠ x) (k : ∀ b o, b ≠ x → h.get? b = some o → h'.get? b = some o) : h'.Ns L m := by
  obtain ⟨oL, es, ep, hL, r⟩ := n
  exact ⟨oL, es, ep, k _ _ hx hL, r⟩
theorem ldF {M : Model} {env : Env} {m : Str → Option Value} {x : Str} {pos : Pos} {v : Value} {Q : Value → Shared → Prop} (hk : env.scope.kind = .function) (hl : env.scope.names.lookup x = some .local) (hn : s.heap.Ns env.locals m) (hv : m x = some v) (h : Q v s)
    (hd : (x == ("__debug__" : Str)) = false) : wpAny M A (eval (.Name x pos) env) Q E s := wpAny_Name (wpAny_loadName_local hk hl hn hv h) hd
/-- the further stores -/
theorem stores_old {P : Program} (T : OwnTxt P K C fI fs) {env : Env} {m : Str → Option Value} {x dx t1 : Addr} {Q : Flow → Shared → Prop} (hk : env.scope.kind = .function) (hself : env.scope.names.lookup ("self" : Str) = some .local) (hms : m "self" = some (.ref x)) (hx : K.lookup x = none) (hdx : K.lookup dx = none) (hL : env.locals ≠ dx) (hxd : x ≠ dx) {body : List Stmt} {gs : List Str} (S : Stores body gs) :
    ∀ {s : Shared} {l : List (Str × Value)} {vs : List Value}, K.In s.heap → s.heap.Ns env.locals m → s.heap.get? x = some (excD C (some dx) t1) → s.heap.Ns1 dx (fld l) → l.length + gs.length ≤ 900 →
      gs.length = vs.length → (∀ p ∈ gs.zip vs, m p.1 = some p.2) → (∀ f ∈ gs, env.scope.names.lookup f = some .local ∧ findIn K (.ref C) f = some none ∧ (f == ("__debug__" : Str)) = false) →
      (∀ h' tk, (∀ b o, b ≠ dx → s.heap.get? b = some o → h'.get? b = some o) → h'.Ns1 dx (fld ((gs.zip vs).reverse ++ l)) → Q .next { s with heap := h', toks := tk }) →
      wpAny (model prog w) A (execs body env) Q E s := by
  induction S with
  | nil =>
    intro s l vs X hn ho hd hl hlen hm hf hq
    obtain ⟨hp, g, d, t, os⟩ := s
    exact wpAny_execs_nil (hq hp t (fun _ _ _ e => e) hd)
  | @cons f q1 q2 q3 q4 rest fs' S ih =>
    intro s l vs X hn ho hd hl hlen hm hf hq
    cases vs with
    | nil => simp at hlen
    | cons v vs =>
      obtain ⟨nm, q, N, bs, bm, sn, sub, ab, col, dd, k0, k1, k2, k3, k5, hC, hbm⟩ := T.cls
      have hcl : clsIn K C = some { name := nm, bases := bs, mro := .ref C :: bm, ns := N, qualname := q, hasDict := true, slotNames := sn, subclasses := sub, abstract := ab, collection := col, hasDel := false } := by unfold clsIn; rw [hC] <;> rfl
      obtain ⟨f1, f2, f3⟩ := hf f List.mem_cons_self
      refine wpAny_execs_cons (plainObj_wpAny_Assign_Attribute ?_)
      refine ldF (v := v) hk f1 hn (hm (f, v) (by simp)) (ldF (v := .ref x) hk hself hn hms ?_ (by decide)) f3
      obtain ⟨hp, g, d, t, os⟩ := s
      obtain ⟨oD, esD, epD, hoD, hdD⟩ : ∃ oD, ∃ _ : True, ∃ _ : True, hp.get? dx = some oD ∧ True := by
        obtain ⟨o, es, ep, e, r⟩ := hd
        exact ⟨o, trivial, trivial, e, trivial⟩
      refine set_plain X (ox := excD C (some dx) t1) (od := some oD) ⟨ho, rfl, rfl, hoD⟩ T.sa ?_
      refine OEX.osa_old X ho hd (fld_within l) (by rw [List.length_map]; omega) hcl (show refsVE (.ref C :: bm) = true from hbm) rfl f2 (fun h' tk' k hn' => ?_)
      rw [← fld_cons] at hn'
      refine ih (s := ⟨h', g, d, tk', os⟩) (l := (f, v) :: l) (vs := vs) (in_but X hdx k) (ns_but hn hL k) (k _ _ hxd ho) hn' (by simp at hl ⊢; omega) (by simpa using hlen) (fun p hp => hm p (by simp [hp])) (fun y hy => hf y (List.mem_cons_of_mem _ hy)) ?_
      intro h2 tk2 k2 hn2
      refine hq h2 tk2 (fun b o hb e => k2 b o hb (k b o hb e)) ?_
      have e : ((f :: fs').zip (v :: vs)).reverse ++ l = (fs'.zip vs).reverse ++ (f, v) :: l := by simp
      rw [e]
      exact hn2
/-- all the stores -/
theorem stores_new {P : Program} (T : OwnTxt P K C fI fs) {env : Env} {m : Str → Option Value} {x t1 : Addr} {Q : Flow → Shared → Prop} (hk : env.scope.kind = .function) (hself : env.scope.names.lookup ("self" : Str) = some .local) (hms : m "self" = some (.ref x)) (hx : K.lookup x = none) (hLx : env.locals ≠ x) {body : List Stmt} {gs : List Str} (S : Stores body gs)
    {s : Shared} {vs : List Value} (X : K.In s.heap) (hn : s.heap.Ns env.locals m) (ho : s.heap.get? x = some (excD C none t1)) (hl : gs.length ≤ 900) (h0 : gs ≠ [])
      (hlen : gs.length = vs.length) (hm : ∀ p ∈ gs.zip vs, m p.1 = some p.2) (hf : ∀ f ∈ gs, env.scope.names.lookup f = some .local ∧ findIn K (.ref C) f = some none ∧ (f == ("__debug__" : Str)) = false)
      (hq : ∀ h' tk dx, InitEnd s.heap h' x C dx t1 ((gs.zip vs).reverse) → Q .next { s with heap := h', toks := tk }) :
      wpAny (model prog w) A (execs body env) Q E s := by
  cases S with
  | nil => exact absurd rfl h0
  | @cons f q1 q2 q3 q4 rest fs' S =>
    cases vs with
    | nil => simp at hlen
    | cons v vs =>
      obtain ⟨nm, q, N, bs, bm, sn, sub, ab, col, dd, k0, k1, k2, k3, k5, hC, hbm⟩ := T.cls
      have hcl : clsIn K C = some { name := nm, bases := bs, mro := .ref C :: bm, ns := N, qualname := q, hasDict := true, slotNames := sn, subclasses := sub, abstract := ab, collection := col, hasDel := false } := by unfold clsIn; rw [hC] <;> rfl
      obtain ⟨f1, f2, f3⟩ := hf f List.mem_cons_self
      refine wpAny_execs_cons (plainObj_wpAny_Assign_Attribute ?_)
      refine ldF (v := v) hk f1 hn (hm (f, v) (by simp)) (ldF (v := .ref x) hk hself hn hms ?_ (by decide)) f3
      obtain ⟨hp, g, d, t, os⟩ := s
      refine set_plain X (ox := excD C none t1) (od := none) ⟨ho, rfl, rfl, trivial⟩ T.sa ?_
      refine exc_osa X ho hcl (show refsVE (.ref C :: bm) = true from hbm) rfl f2 (fun h₃ tk₃ dx k₃ dn dne hx₃ hn₃ => ?_)
      have hn' : h₃.Ns1 dx (fld [(f, v)]) := by
        rw [fld_cons, fld_nil]
        exact hn₃
      have hLd : env.locals ≠ dx := Nat.ne_of_lt (Nat.lt_of_lt_of_le hn.lt dn)
      refine stores_old T hk hself hms hx (out_of X dn) hLd (Ne.symm dne) S (s := ⟨h₃, g, d, tk₃, os⟩) (l := [(f, v)]) (vs := vs) (in_but X hx k₃) (ns_but hn hLx k₃) hx₃ hn' (by simp at hl ⊢; omega) (by simpa using hlen) (fun p hp => hm p (by simp [hp])) (fun y hy => hf y (List.mem_cons_of_mem _ hy)) ?_
      intro h2 tk2 k2 hn2
      refine hq h2 tk2 dx ⟨fun b o hb e => ?_, k2 _ _ (Ne.symm dne) hx₃, dn, dne, ?_⟩
      · exact k2 b o (fun z => absurd (Heap.lt_size e) (by rw [z]; exact Nat.not_lt.mpr dn)) (k₃ b o hb e)
      · have e : ((f :: fs').zip (v :: vs)).reverse = (fs'.zip vs).reverse ++ [(f, v)] := by simp
        rw [e]
        exact hn2
theorem zip_look {ks : List Str} {us : List Value} (hn : ks.Nodup) (hl : ks.length = us.length) : ∀ p ∈ ks.zip us, (ks.zip us).reverse.lookup p.1 = some p.2 := by
  have key : ∀ {l : List (Str × Value)}, (l.map (·.1)).Nodup → ∀ (k : Str) (v : Value), (k, v) ∈ l → l.lookup k = some v := by
    intro l
    induction l with
    | nil => intro _ k v hp; cases hp
    | cons a l ih =>
      intro hn k v hp
      rw [List.map_cons, List.nodup_cons] at hn
      obtain ⟨k', v'⟩ := a
      rcases List.mem_cons.mp hp with e | hp
      · cases e
        simp [List.lookup]
      · have ne : k ≠ k' := fun e => hn.1 (List.mem_map.mpr ⟨(k, v), hp, e⟩)
        have ne' : (k == k') = false := by simpa using ne
        simp only [List.lookup, ne']
        exact ih hn.2 k v hp
  intro p hp
  refine key ?_ p.1 p.2 (List.mem_reverse.mpr hp)
  rw [List.map_reverse]
  refine (List.reverse_perm _).nodup_iff.mpr ?_
  rw [List.map_fst_zip (by omega)]
  exact hn
theorem super_call {env : Env} {text : Str} {k : Nat} {p1 p2 p3 p4 p5 : Pos} (hp : (p3.endLine == p5.line) = true) :
    eval (.Call (.Attribute (.Call (.Name "super" p1) [] [] p2) "__init__" p3) [.Constant (.str text) k p4] [] p5) env = (do
      let ov ← attributeBase (.Call (.Name "super" p1) [] [] p2) "__init__" env (eval (.Call (.Name "super" p1) [] [] p2) env)
      standAt p3.atName
      let (f, first) ← holding [ov] (getMethod ov "__init__" (do return (← importBound (.Call (.Name "super" p1) [] [] p2) env).getD true))
      callWith p5 f first (backTo p5 (starEach [.Constant (.str text) k p4] env)) []) := by
  show (do
      let ov ← attributeBase (.Call (.Name "super" p1) [] [] p2) "__init__" env (eval (.Call (.Name "super" p1) [] [] p2) env)
      standAt p3.atName
      methodCall (.Call (.Name "super" p1) [] [] p2) "__init__" p3 p5 env ov 1 (backTo p5 (starEach [.Constant (.str text) k p4] env)) []) = _
  have few : methodCallForm 1 (backTo p5 (starEach [.Constant (.str text) k p4] env)) [] = true := rfl
  unfold methodCall methodCallPos calleeOf
  rw [few]
  simp only [hp, Bool.not_true, Bool.false_or, if_true, pure_bind]
/-- the whole __init__ -/
theorem own_init {P : Program} (T : OwnTxt P K C fI fs) (hp : prog = P) (hnd : (("self" : Str) :: fs).Nodup) (hdb : ∀ f ∈ fs, (f == ("__debug__" : Str)) = false) (h0 : fs ≠ []) {x t0 : Addr} {us : List Value} (hus : us.length = fs.length) (X : K.In s.heap) (hlim : s.heap.NoLimit) (hG : s.heap.Ns mainGlobals mg) (hgs : mg "super" = none)
    (hB : s.heap.Ns builtinsNs mb) (hbs : mb "super" = some (.type "super")) (hx : s.heap.get? x = some (excD C none t0)) (hnx : K.lookup x = none) (hroom : A.depth < recursionLimit)
    (hq : ∀ h' tk dx t1, InitEnd s.heap h' x C dx t1 ((fs.zip us).reverse) → R (.ok (.ret .none)) { s with heap := h', toks := tk }) :
    codeAny (model prog w) A (.call (.ref fI) ⟨.ref x :: us, []⟩) R s := by
  subst hp
  obtain ⟨oc, od, name, qual, params, body, scope, dV, kV, doc, pm, an, cda, cc, ct, osl, ar, ccl, cdd, vs, ccs, file, tf, cl, cld, csl, ho, hcd, hbody, har, hars, hcode, hvs, hfile, hcell, ksu, kcl, klo, hnc, hk, hco, hgen, hbind⟩ := T.fn
  obtain ⟨nm, q, N, bs, bm, sn, sub, ab, col, dd, k0, k1, k2, k3, k5, hC, hbm⟩ := T.cls
  have hcl : clsIn K C = some { name := nm, bases := bs, mro := .ref C :: bm, ns := N, qualname := q, hasDict := true, slotNames := sn, subclasses := sub, abstract := ab, collection := col, hasDel := false } := by unfold clsIn; rw [hC] <;> rfl
  have hzl : ∀ p ∈ (("self" : Str) :: fs).zip (Value.ref x :: us), ((("self" : Str) :: fs).zip (Value.ref x :: us)).reverse.lookup p.1 = some p.2 := zip_look hnd (by simp [hus])
  refine ks_codeAny_call_defAt (fd := ksFn name qual params body scope dV kV doc pm an (.ref cda) ct cc) (body := body) (binds := (("self" : Str) :: fs).zip (Value.ref x :: us)) hroom (X _ _ ho) rfl hlim (codeRec_of X hcd) rfl (hbind s _ (by simp [hus])) hnc
    (fun p hp => klo p.1 (List.of_mem_zip (a := p.1) (b := p.2) hp).1) (fun h₁ hn k => ?_) hco hgen hk
  obtain ⟨hp, g, d, t, os⟩ := s
  have hxL : hp.objs.size ≠ x := Nat.ne_of_gt (Heap.lt_size hx)
  have X₁ : K.In h₁ := X.keeps k
  have hx₁ := k _ _ hx
  cases hbody with
  | @mk text kk p1 p2 p3 p4 p5 p6 rest fs' hpos S =>
  have hE : callEnv (ksFn name qual params (.Expr (.Call (.Attribute (.Call (.Name "super" p1) [] [] p2) "__init__" p3) [.Constant (.str text) kk p4] [] p5) p6 :: rest) scope dV kV doc pm an (.ref cda) ct cc) hp.objs.size fI = ksEnv qual scope hp.objs.size fI (.ref cda) cc := rfl
  rw [hE]
  refine ks_wpAt_execs_cons (ks_wpAt_Expr_any (ks_wpAt_MethodCall ?_ (super_call hpos)) (by simp [interactive, ksEnv, envX, hk]))
  refine ks_wpAt_super_base (env := ksEnv qual scope hp.objs.size fI (.ref cda) cc) ksu kcl (by decide) rfl (X₁ _ _ ho) rfl har rfl (X₁ _ _ hcode) rfl hvs hfile T.top ?_
  refine ks_loadName_global hk ksu (loadGlobal_builtin (env := ksEnv qual scope hp.objs.size fI (.ref cda) cc) (hG.keeps k) hgs (hB.keeps k) hbs ⟨rfl, ?_⟩)
  refine wpAny_loadName_free hk kcl rfl ⟨_, X₁ _ _ hcell, rfl⟩ ?_
  rw [hars]
  refine wpAny_loadName_local hk (klo _ List.mem_cons_self) hn (v := .ref x) (hzl ("self", .ref x) (by simp)) ?_
  have hC₁ := X₁ _ _ hC
  have I₁ : InstAt h₁ x (excD C none t0) C none := ⟨hx₁, rfl, rfl, trivial⟩
  refine ks_wpAny_isType_cls hC₁ rfl ⟨rfl, ?_⟩
  refine ks_wpAny_call_super hC₁ rfl hx₁ rfl (fun c e => by cases e) (looks_mroIn X₁ T.spC) (fun h₂ e₂ k₂ => ?_)
  have X₂ : K.In h₂ := X₁.keeps k₂
  have hx₂ := k₂ _ _ hx₁
  have I₂ : InstAt h₂ x (excD C none t0) C none := ⟨hx₂, rfl, rfl, trivial⟩
  have hm : alongIn K "__init__" (((Value.ref C :: bm).dropWhile (· != .ref C)).drop 1) = some (some (.builtin "ValueError.__init__")) := by
    have := T.suC
    unfold ks_superIn at this
    rw [hcl] at this
    exact this
  refine kxs_getMethod (l₀ := .ref C :: bm) kxs_ValueError e₂ (looks_opaque X₂ T.noO) (fun A Q E s k q => wpAny_bind ((looks_clsIn X₂ hcl) A _ E s k (wpAny_pure q))) rfl X₂ hm (I₂.type.andThen (looks_subIn X₂ T.veC)) (ks_ne X₂ I₂ (by exact hcl)) (by decide) ?_
  have e₃ : (h₂.push (kxs_mw "ValueError.__init__" x)).get? h₂.objs.size = some (kxs_mw "ValueError.__init__" x) := Heap.get?_push_size _ rfl
  have k₃ : ∀ b o, h₂.get? b = some o → (h₂.push (kxs_mw "ValueError.__init__" x)).get? b = some o := fun b o e => Heap.get?_push_of_some _ e
  refine kxs_callWith (i := "ValueError.__init__") (x := x) rfl (evalArgs_plain (spliced_cons ?_))
  refine wpAny_Constant_str (k := kk) (pos := p4) (spliced_nil ⟨e₃, ?_⟩)
  refine call_mw (k₃ _ _ (X₂ _ _ hC)) (k₃ _ _ hx₂) e₃ (by rw [sizeLine_eq]; exact (by decide : 1 ≤ 16777216)) (fun h₄ t₁ k₄ hx₄ => ?_)
  have kk4 : ∀ b o, b ≠ x → h₁.get? b = some o → h₄.get? b = some o := fun b o hb e => k₄ b o hb (k₃ _ _ (k₂ _ _ e))
  show wpAt _ _ _ (execs rest (ksEnv qual scope hp.objs.size fI (.ref cda) cc)) _ _ _
  refine wpAt_of_wpAny ?_
  refine stores_new (s := ⟨h₄, _, _, _, _⟩) T (env := ksEnv qual scope hp.objs.size fI (.ref cda) cc) hk (klo _ List.mem_cons_self) (hzl ("self", .ref x) (by simp)) hnx hxL S (vs := us) (in_but X₁ hnx kk4) (ns_but hn hxL kk4) hx₄ T.few h0 hus.symm (fun p hp => hzl p (by simp [hp]))
    (fun f hf => ⟨klo f (List.mem_cons_of_mem _ hf), T.noN f hf, hdb f hf⟩) ?_
  intro h' tk dx E
  refine hq h' tk dx t₁ ⟨fun b o hb e => E.keep b o hb (kk4 b o hb (k b o e)), E.obj, ?_, E.dne, E.ns⟩
  have hL4 : hp.objs.size < h₄.objs.size := (ns_but hn hxL kk4).lt
  exact Nat.le_trans (Nat.le_of_lt hL4) E.dbig
/-- a made exception -/
structure OwnMade (h h' : Heap) (e C d : Addr) (l : List (Str × Value)) : Prop where
  keep : ∀ b o, h.get? b = some o → h'.get? b = some o
  new : h.objs.size ≤ e
  obj : ∃ oe vs, h'.get? e = some oe ∧ oe.cls = .ref C ∧ oe.dict = some d ∧ oe.data = .fields vs ∧ vs[1]? = some .none
  dbig : h.objs.size ≤ d
  dne : d ≠ e
  ns : h'.Ns1 d (fld l)
theorem own_made {P : Program} (T : OwnTxt P K C fI fs) (hp : prog = P) (hnd : (("self" : Str) :: fs).Nodup) (hdb : ∀ f ∈ fs, (f == ("__debug__" : Str)) = false) (h0 : fs ≠ []) {us : List Value} (hus : us.length = fs.length) (X : K.In s.heap) (hlim : s.heap.NoLimit) (hG : s.heap.Ns mainGlobals mg) (hgs : mg "super" = none)
    (hB : s.heap.Ns builtinsNs mb) (hbs : mb "super" = some (.type "super")) (hroom : A.depth + 1 < recursionLimit)
    (hq : ∀ h' tk e d, OwnMade s.heap h' e C d ((fs.zip us).reverse) → R (.ok (.ret (.ref e))) { s with heap := h', toks := tk }) :
    codeAny (model prog w) A (.call (.ref C) ⟨us, []⟩) R s := by
  obtain ⟨nm, q, N, bs, bm, sn, sub, ab, col, dd, k0, k1, k2, k3, k5, hC, hbm⟩ := T.cls
  obtain ⟨hp', g, dr, tk, os⟩ := s
  have hsz : us.length ≤ sizeLine := by
    have := T.few
    rw [sizeLine_eq]
    omega
  have k : ∀ b o, hp'.get? b = some o → ((hp'.push (kdv_tup us)).push (excO C hp'.objs.size)).get? b = some o := fun b o e => Heap.get?_push_of_some _ (Heap.get?_push_of_some _ e)
  have hget : ((hp'.push (kdv_tup us)).push (excO C hp'.objs.size)).get? (hp'.objs.size + 1) = some (excO C hp'.objs.size) := by heap_get
  have hnx : K.lookup (hp'.objs.size + 1) = none := out_of X (Nat.le_succ _)
  refine call_own F.excBase_ValueError (fun X => refsVE_contains X bm hbm) (X _ _ hC) (looks_findIn X T.iC) (fun self => bind_fn X self T.tC) hsz ?_
  refine own_init (s := ⟨(hp'.push (kdv_tup us)).push (excO C hp'.objs.size), g, dr, tk, os⟩) T hp hnd hdb h0 hus (X.keeps k) (hlim.keeps k) (hG.keeps k) hgs (hB.keeps k) hbs hget hnx ?_ fun h' tk' dx t1 ⟨k', hx, dn, dne, hns⟩ => ?_
  · show A.depth + 1 < recursionLimit
    exact hroom
  · have old : ∀ b o, hp'.get? b = some o → h'.get? b = some o := fun b o e => k' b o (Nat.ne_of_lt (Nat.lt_succ_of_lt (Heap.lt_size e))) (k b o e)
    have z : hp'.objs.size + 1 + 1 ≤ dx := by
      first
        | (simpa only [Heap.size_push] using dn)
        | exact dn
        | (have q := dn; rw [Heap.size_push, Heap.size_push] at q; exact q)
    exact ⟨rfl, hq h' tk' (hp'.objs.size + 1) dx ⟨old, Nat.le_succ _, ⟨_, _, hx, rfl, rfl, rfl, rfl⟩, Nat.le_trans (Nat.le_trans (Nat.le_succ _) (Nat.le_succ _)) z, dne, hns⟩⟩
end
end OwX
end PySem
namespace L2
open PySem PySem.Spec PyProof.Rows
theorem relO_fld : ∀ {fs : List Str} {vs : List V} {us : List Value}, Vals vs us → ∀ f, RelO (List.lookup f ((fs.zip vs).reverse)) (PySem.OwX.fld ((fs.zip us).reverse) f) := by
  have key : ∀ {l : List (Str × V)} {l' : List (Str × Value)}, Paired (fun a b => a.1 = b.1 ∧ RelV a.2 b.2) l l' → ∀ f, RelO (List.lookup f l) (PySem.OwX.fld l' f) := by
    intro l l' h f
    unfold PySem.OwX.fld
    induction h with
    | nil => trivial
    | @cons a b l l' r _ ih =>
      obtain ⟨n, v⟩ := a
      obtain ⟨n', v'⟩ := b
      obtain ⟨e, rv⟩ := r
      have e' : n = n' := e
      subst e'
      cases c : (f == n) with
      | true => simp only [List.lookup, c]; exact rv
      | false => simp only [List.lookup, c]; exact ih
  intro fs vs us h f
  refine key ?_ f
  have z : ∀ {fs : List Str} {vs : List V} {us : List Value}, Vals vs us → Paired (fun (a : Str × V) (b : Str × Value) => a.1 = b.1 ∧ RelV a.2 b.2) (fs.zip vs) (fs.zip us) := by
    intro fs vs us h
    induction h generalizing fs with
    | nil => cases fs <;> exact .nil
    | cons r _ ih =>
      cases fs with
      | nil => exact .nil
      | cons f fs => exact .cons ⟨rfl, r⟩ ih
  have rv : ∀ {l : List (Str × V)} {l' : List (Str × Value)}, Paired (fun (a : Str × V) (b : Str × Value) => a.1 = b.1 ∧ RelV a.2 b.2) l l' → ∀ {k k'}, Paired (fun (a : Str × V) (b : Str × Value) => a.1 = b.1 ∧ RelV a.2 b.2) k k' →
      Paired (fun (a : Str × V) (b : Str × Value) => a.1 = b.1 ∧ RelV a.2 b.2) (l.reverseAux k) (l'.reverseAux k') := by
    intro l l' h
    induction h with
    | nil => intro k k' hk; exact hk
    | cons r _ ih => intro k k' hk; exact ih (.cons r hk)
  exact rv (z h) .nil
section
variable {X : Cx} {C fI : Addr} {fs : List Str} {x : Str}
/-- C(e, ..): the exception's own dict d, new, holds the fields -/
def tMkOwnS (C : Addr) (fs : List Str) (ta : TA) : St → Hp → XK → Prop := fun σ H Q => ta σ H fun vs H1 => vs.length = fs.length ∧ ∀ d, H1 d = none → Q (.ref C) (some d) (upd H1 d (.xd ((fs.zip vs).reverse)))
theorem pmk_ownS {a : Expr} {as : List Expr} {ta : TA} {p pos : Pos} {k : Nat} (T : PySem.OwX.OwnTxt X.prog X.K C fI fs) (hm : X.mg x = some (.ref C)) (hs : X.mg "super" = none) (hnd : (("self" : Str) :: fs).Nodup) (hdb : ∀ f ∈ fs, (f == ("__debug__" : Str)) = false) (h0 : fs ≠ []) (hr : Room k X.A) (ha : PA X (a :: as) ta) (hg : Gl X x)
    (hdx : (x == ("__debug__" : Str)) = false := by decide) (he : starEach (a :: as) X.env = (false, eval a X.env) :: starEach as X.env := by rfl) (hpl : (backTo pos (starEach as X.env)).any (·.1) = false := by rfl) :
    PMk X (.Call (.Name x p) (a :: as) [] pos) (tMkOwnS C fs ta) := by
  intro pins s σ H Q I h
  refine wpAny_Call_Name_kw (ld_glob I hg hm ?_ hdx)
  refine PySem.W.callWith_K (h₀ := X.base) I.ok.mod.kin T.kC (thn (ha.run pos pins s σ H _ I h) fun us s1 hh => ?_) he hpl
  obtain ⟨vs, H1, I1, r1, el, q1⟩ := hh
  refine ⟨I1.kIn, ?_⟩
  show wpAny _ _ (call (.ref C) us) _ _ _
  have hlim := I1.nolimit
  obtain ⟨mb, b1, b2⟩ := I1.mod.blt
  have hG := I1.mod.glob.keeps I1.bk
  have hB := b1.keeps I1.bk
  have hus : us.length = fs.length := by rw [← el]; exact (Paired.length r1).symm
  obtain ⟨hp, g, dr, tk, os⟩ := s1
  refine wpAny_call (PySem.OwX.own_made T rfl hnd hdb h0 hus I1.kIn hlim hG hs hB ((b2 "super" (by decide)).trans (by first | rfl | decide +kernel | kernel_rfl)) (by have := hr.dp; omega) fun h' tk' e d M => ?_)
  show MkP X pins σ Q (.ref e) ⟨h', g, dr, tk', os⟩
  obtain ⟨oe, fv, hoe, hc, hd, hdat, h1⟩ := M.obj
  have hns := M.ns
  obtain ⟨G', g1, g2⟩ := restrict h' fun b => decide (b ≠ e)
  have gk : ∀ b, b ≠ e → G'.get? b = h'.get? b := fun b hb => g1 b (decide_eq_true hb)
  have ge : G'.get? e = none := g2 e (by simp)
  have old : ∀ b o, hp.get? b = some o → G'.get? b = some o := fun b o q => (gk b (Nat.ne_of_lt (Nat.lt_of_lt_of_le (Heap.lt_size q) M.new))).trans (M.keep b o q)
  have ob : ObjOk X.prog X.w (upd H1 d (.xd ((fs.zip vs).reverse))) G' d (.xd ((fs.zip vs).reverse)) :=
    ⟨_, hns.at (fun o q => (gk d M.dne).trans q), fun f => relO_fld r1 f⟩
  have J : Inv X pins σ (upd H1 d (.xd ((fs.zip vs).reverse))) ⟨G', g, dr, tk', os⟩ := I1.laid (t' := tk') old M.dbig ob
  refine ⟨e, oe, fv, ⟨G', g, dr, tk', os⟩, _, .ref C, some d, rfl, J, fun b o q => ?_, ge, hoe, ⟨hc, hd⟩, hdat, h1, ?_, rfl, I1.bare, raises_own T.exC T.tyC, q1 d (I1.hok.fresh M.dbig)⟩
  · by_cases hb : b = e
    · have q' : G'.get? b = some o := q
      rw [hb, ge] at q'; cases q'
    · exact (gk b hb).symm.trans q
  · rw [upd_ne (Ne.symm M.dne)]
    exact I1.hok.fresh M.new
/-- raise C(e, ..) -/
def tRaiseOwnS (C : Addr) (fs : List Str) (W : WX) (ta : TA) : TS := fun _ σ H => tMkOwnS C fs ta σ H fun cls d H' => W cls d σ H'
theorem ps_raiseOwnS {a : Expr} {as : List Expr} {ta : TA} {W : WX} {p pos pos2 : Pos} {k : Nat} (hc : X.calm = true) (T : PySem.OwX.OwnTxt X.prog X.K C fI fs) (hm : X.mg x = some (.ref C)) (hs : X.mg "super" = none) (hnd : (("self" : Str) :: fs).Nodup) (hdb : ∀ f ∈ fs, (f == ("__debug__" : Str)) = false) (h0 : fs ≠ []) (hr : Room k X.A) (tk : Takes X W) (ha : PA X (a :: as) ta) (hg : Gl X x)
    (hdx : (x == ("__debug__" : Str)) = false := by decide) (he : starEach (a :: as) X.env = (false, eval a X.env) :: starEach as X.env := by rfl) (hpl : (backTo pos (starEach as X.env)).any (·.1) = false := by rfl) :
    PS X (.Raise (some (.Call (.Name x p) (a :: as) [] pos)) none pos2) (tRaiseOwnS C fs W ta) := ps_raise hc tk (pmk_ownS T hm hs hnd hdb h0 hr ha hg hdx he hpl)
end
end L2

/-! repr of data: defs whose context is known to show nothing (guards), from the law down to the calls of repr -/
namespace L2
open PySem PySem.Spec PyProof.Rows
/-- as FnOk, for contexts in which no repr is under way -/
structure FnOkG (P : Program) (w : World) (K : PySem.W.Frag) (mg : Str → Option Value) (base : Heap) (k : Nat) (f : Addr) (fd : FuncData) (ps : List Str) (sp : Sp) : Prop where
  len : ∀ vs H Q E, sp vs H Q E → vs.length = ps.length
  run : ∀ (A : Around) (outer : List Env) (s : Shared) (H : Hp) (args : Args) (us : List Value) (vs : List V) (Q : VK) (E : XK), A.guards = some [] → Room k A →
    Env0 P w K mg base A outer s H → BindsTo s fd args (ps.zip us) → Vals vs us → sp vs H Q E → codeAny (model P w) A (.call (.ref f) args) (CR CX0 outer P w H s Q E) s
section
variable {P : Program} {w : World} {K : PySem.W.Frag} {mg : Str → Option Value} {base : Heap}
theorem Fun.okG {x qual : Str} {st : Stmt} {f : Addr} {fd : FuncData} {N ps : List Str} {k : Nat} {sp : Sp} (F : Fun K x qual st f fd) (S : FnScope N ps (defScope st)) (len : ∀ vs H Q E, sp vs H Q E → vs.length = ps.length)
    (body : ∀ (cdv : Value) (A : Around) (outer : List Env) (s : Shared) (H : Hp) (vs : List V) (Q : VK) (E : XK), A.guards = some [] → Room k (A.deeper (envOfC qual (defScope st) s.heap.objs.size f cdv)) → sp vs H Q E →
      ∃ t, PSs (cxOf CX0 P w K mg base N qual (defScope st) f cdv A outer s H E).nox (defBody st) t ∧ t { nx := fun _ H' => Q .non H', rt := Q } (start N vs) H) :
    FnOkG P w K mg base (k + 1) f fd ps sp where
  len := len
  run := by
    intro A outer s H args us vs Q E gA room e0 bind rel want
    obtain ⟨oc, od, kV, doc, pm, an, cdv, ct, osl, rfl, lk, code⟩ := F.ex
    have same := len _ _ _ _ want
    have up : ∀ b o, base.get? b = some o → s.heap.get? b = some o := fun b o e => (e0.bs b o e).1
    have inK := e0.mod.kin.keeps up
    have places : ∀ y ∈ ps.zip us, (defScope st).names.lookup y.1 = some .local ∨
        ((defScope st).names.lookup y.1 = some .cell ∧ ((cellsFrom (s.heap.objs.size + 1) (defScope st).names []).lookup y.1).isSome = true) := by
      rintro ⟨n, v⟩ hy
      cases S.par n (List.of_mem_zip hy).1 with
      | inl q => exact Or.inl q
      | inr q => exact Or.inr ⟨q, PySem.W.cellsFrom_some _ _ _ (.inl q)⟩
    refine codeAny_call_function room.depth (inK _ _ lk) rfl S.co S.gen rfl (PySem.W.codeRec_of inK code) (bind _ _ _ _ (wpAny_newFunctionEnv_cells S.kind places fun env same_env s1 made => ?_))
    subst same_env
    have nolim := e0.mod.nolimit.keeps up
    refine ⟨nolim.keeps made.toInCall.keep, codeAny_func ?_⟩
    obtain ⟨t, rule, reading⟩ := body cdv A outer s H vs Q E gA (room.deeper _) want
    have first := inv_start (CX := CX0) (E := E) S room.hd e0 same rel made
    refine wpAny_mono (rule.nox.run [] s1 (start N vs) H _ first reading) ?_ (fun _ _ z => z)
    intro fl s' out
    match fl, out with
    | .ret u, ⟨v, _, H', J, rv, q⟩ => exact ⟨v, H', J.os, J.bare, J.base, J.hok, rv, q⟩
    | .next, ⟨_, H', J, q⟩ => exact ⟨.non, H', J.os, J.bare, J.base, J.hok, rfl, q⟩
    | .brk, ⟨_, _, _, q⟩ => exact q.elim
    | .cont, ⟨_, _, _, q⟩ => exact q.elim
end
section
variable {X : Cx} {k : Nat} {f : Addr} {fd : FuncData} {ps : List Str} {sp : Sp} {x : Str} {p pos : Pos} {e : Expr} {es : List Expr} {t : TA}
/-- a call of such a def -/
theorem pe_callG (F : FnOkG X.prog X.w X.K X.mg X.base k f fd ps sp) (gA : X.A.guards = some []) (hr : Room k X.A) (hg : Gl X x) (hm : X.mg x = some (.ref f)) (hk : PySem.W.keepIn X.K (.ref f) = true) (hb : Binds X.K fd ps [])
    (ha : PA X (e :: es) t) (hdb : (x == ("__debug__" : Str)) = false := by decide) (he : starEach (e :: es) X.env = (false, eval e X.env) :: starEach es X.env := by rfl) (hpl : (backTo pos (starEach es X.env)).any (·.1) = false := by rfl) :
    PE X (.Call (.Name x p) (e :: es) [] pos) (tCall sp [] E0 t) := by
  constructor
  intro pins s σ H Q I h
  refine wpAny_Call_Name_kw (ld_glob I hg hm (PySem.W.callWith_K (h₀ := X.base) I.ok.mod.kin hk (thn (ha.run pos pins s σ H _ I h) ?_) he hpl) hdb)
  rintro us s1 ⟨vs, H1, J, rel, want⟩
  refine ⟨J.kIn, ?_⟩
  have n : us.length = ps.length := by rw [← rel.length, ← F.len _ _ _ _ want, List.append_nil]
  have want' : sp vs H1 Q E0 := by rw [← List.append_nil vs]; exact want
  have bnd := hb s1 us J.kIn (by rw [List.append_nil]; exact n)
  rw [List.append_nil] at bnd
  refine wpAny_call (codeAny_mono (F.run X.A X.stack s1 H1 ⟨us, []⟩ us vs Q E0 gA hr J.env0 bnd rel want') ?_)
  intro r s' out
  match r, out with
  | .error _, out => exact out.elim
  | .ok (.ret u), out => exact J.after out
  | .ok .next, out => exact out.elim
  | .ok .brk, out => exact out.elim
  | .ok .cont, out => exact out.elim
/-- repr of data without dicts -/
def rRepr (K : PySem.W.Frag) : List V → Hp → VK → Prop := fun xs H Q => ∃ (a : Addr) (d : PyData), xs = [.ref a] ∧ Dp K H (.ref a) d ∧ d.showable = true ∧ d.hasDict = false ∧ d.depth ≤ 60 ∧ d.shown.length ≤ sizeLine ∧ Q (.str d.shown) H
theorem call_reprD (gA : X.A.guards = some []) (hu : X.A.units + 64 < cLine) : CallR X (.builtin "repr") (rRepr X.K) := by
  intro pins s σ H xs us Q I r h
  obtain ⟨a, d, rfl, hd, sh, nd, dp, sz, q⟩ := h
  obtain ⟨u, rfl, ru⟩ := vals1 r
  obtain rfl : u = Value.ref a := ru
  obtain ⟨as, rd⟩ := Dp.reads I d _ _ hd rfl
  refine repr_of_reads' rd sh (PyData.noDict_hsm nd) gA (by omega) (fun _ _ e => e) (fun h' u tk kp => ?_) sz
  exact ⟨.str d.shown, H, I.kept (t' := tk) kp, ⟨u, rfl⟩, q⟩
end
/-- the law's promise at the heap behind the top, for such a def -/
theorem law_startG {P : Program} {w : World} {K : PySem.W.Frag} {mg mb : Str → Option Value} {k : Nat} {fa a : Addr} {fd : FuncData} {x : Str} {sp : Sp} {s : Shared} {vs : List Value}
    (KX : K.In s.heap) (hns : s.heap.Ns mainGlobals mg) (hb : s.heap.Ns builtinsNs mb) (hbb : ∀ x : Str, x ≠ "__name__" → mb x = bootBuiltins x) (hlim : s.heap.NoLimit) (hg : s.gens = #[])
    (ha : s.heap.get? a = some { cls := .type "list", data := .seq vs.toArray }) (room : Room k callerA) (F : ∀ base : Heap, K.In base → base.Ns mainGlobals mg → FnOkG P w K mg base k fa fd [x] sp)
    (bind : ∀ (s : Shared) (u : Value), BindsTo s fd ⟨[u], []⟩ [(x, u)]) (H : Hp) (only : Only H) (hok : HOk P w H s.heap) (one : ∀ b, H b ≠ none → b = a) (out : H a ≠ none → K.lookup a = none)
    (want : sp [.ref a] H (fun v _ => v = .bl true) fun _ _ _ => False) :
    codeAny (model P w) callerA (.call (.ref fa) ⟨[.ref a], []⟩) (fun r s' => r = .ok (.ret (.bool true)) ∧ OldK s.heap s'.heap ∧ s'.os = s.os ∧ AllBare s'.gens) s := by
  have free : ∀ {b : Addr}, (b = a → False) → H b = none := fun {b} hb => by
    cases q : H b with
    | none => rfl
    | some u => exact (hb (one b (by rw [q]; exact fun z => (by cases z)))).elim
  have dicts : ∀ {b : Addr} {m : Str → Option Value}, s.heap.Ns b m → (hidT s.heap H).Ns b m := by
    rintro b m ⟨o, es, ep, e, d, r⟩
    refine ⟨o, es, ep, hidT_get e (free fun eb => ?_), d, r⟩
    rw [eb, ha] at e
    cases e
    have d' : Data.seq vs.toArray _ = Data.dict es ep := d
    cases d'
  have kin : K.In (hidT s.heap H) := fun b o e => hidT_get (KX b o e) (by
    cases q : H b with
    | none => rfl
    | some u =>
      have eb := one b (by rw [q]; exact fun z => (by cases z))
      have := out (by rw [← eb, q]; exact fun z => (by cases z))
      rw [eb, this] at e
      cases e)
  obtain ⟨mc, lim1, lim2⟩ := hlim
  have md : Mod K mg (hidT s.heap H) := { kin := kin, glob := dicts hns, blt := ⟨mb, dicts hb, hbb⟩, nolimit := ⟨mc, dicts lim1, lim2⟩ }
  have e0 : Env0 P w K mg (hidT s.heap H) callerA [] s H :=
    { frames := rfl, mod := md, bs := fun b o e => of_hidT e, bsz := Nat.le_of_eq (hidT_size _ _), funs := trivial, frf := fun b hb => absurd (show b ∈ ([] : List Addr) from hb) (List.not_mem_nil), hok := hok, bare := .of_eq hg }
  refine codeAny_mono ((F _ kin (dicts hns)).run callerA [] s H ⟨[.ref a], []⟩ [.ref a] [.ref a] _ _ rfl room e0 (bind s (.ref a)) (.cons rfl .nil) want) ?_
  intro r s' res
  match r, res with
  | .error _, res => exact res.elim
  | .ok .next, res => exact res.elim
  | .ok .brk, res => exact res.elim
  | .ok .cont, res => exact res.elim
  | .ok (.ret u), ⟨v, H', os, bare, un, hok', rv, ev⟩ =>
    have ev' : v = .bl true := ev
    subst ev'
    obtain rfl : u = Value.bool true := rv
    refine ⟨rfl, OldK.of_keep ?_, os, bare⟩
    intro b o e
    rcases only b with z | ⟨ob, xs, z⟩
    · exact un.keep b o e z (fun m => absurd (show b ∈ ([] : List Addr) from m) List.not_mem_nil) List.not_mem_nil
    · have e1 := (hok b _ z).1
      have e2 := (hok' b _ (un.frzs b ob _ z)).1
      rw [e] at e1
      cases e1
      exact e2
theorem walk_ofG {l : PySem.W.OpenLaw} {n k : Nat} {q : Program} {loose : List Str} {XP : (Str → Option Value) → Heap → Prop} {YP : World → Heap → Prop} {d : DefRec} {K : Params → PySem.W.Frag} {sp : World → Sp} {x : Str}
    (hn : l.most = some n) (hn2 : n ≤ sizeLine) (hdf : d.params.defaults = []) (room : Room k callerA) (hY : ∀ (w : World) (h : Heap), YP w h → (K w.params).In h)
    (F : ∀ (w : World) (mg : Str → Option Value) (fa : Addr) (h : Heap), (K w.params).In h → h.Ns mainGlobals mg → mg d.name = some (.ref fa) →
      ∃ fd : FuncData, (∀ (s : Shared) (u : Value), BindsTo s fd ⟨[u], []⟩ [(x, u)]) ∧ ∀ base : Heap, (K w.params).In base → base.Ns mainGlobals mg → FnOkG l.prog w (K w.params) mg base k fa fd [x] (sp w))
    (hsp : ∀ (w : World) (H : Hp) (a : Addr) (ns : List Int), ns.length ≤ n → Only H → SqL (K w.params) H a (ns.map V.int) → sp w [.ref a] H (fun v _ => v = .bl true) fun _ _ _ => False) :
    PySem.W.WalkO q loose XP YP l.row.toRowW d [] (fun f vs => PySem.call f vs) := by
  refine Att.attach_call hn hdf ?_
  intro w s₀ s mg mb fa o pm cd doc a vs ns G Y ho hd hcd hmg hobj hints hlen hg
  have KX := hY w _ Y
  obtain ⟨fd, bind, hF⟩ := F w mg fa _ KX G.T.g hmg
  have size : ns.length ≤ sizeLine := Nat.le_trans hlen hn2
  have go := fun (H : Hp) => law_startG (w := w) (a := a) (vs := vs) KX G.T.g G.T.b G.T.builtins G.T.nolimit hg hobj room hF bind H
  cases hk : (K w.params).lookup a with
  | some o' =>
    have e := KX a o' hk
    rw [hobj] at e
    cases e
    have only : Only (fun _ => none) := fun _ => Or.inl rfl
    refine go (fun _ => none) only (fun b u z => by have z2 : (none : Option HO) = some u := z; cases z2) (fun b z => absurd rfl z) (fun z => absurd rfl z) (hsp w _ a ns hlen only (.inr ⟨_, vs.toArray, _, hk, rfl, rfl, rfl, ?_, ?_⟩))
    · rw [List.size_toArray, hints.length]
      exact size
    · exact vals_ints hints
  | none =>
    have at_a : ∀ {b u}, (if b = a then some (HO.frz { cls := .type "list", data := .seq vs.toArray } (.lst (ns.map V.int))) else none) = some u → b = a ∧ u = .frz { cls := .type "list", data := .seq vs.toArray } (.lst (ns.map V.int)) := by
      intro b u z
      by_cases hb : b = a
      · rw [if_pos hb] at z
        exact ⟨hb, (Option.some.inj z).symm⟩
      · rw [if_neg hb] at z
        cases z
    have only : Only (fun b => if b = a then some (HO.frz { cls := .type "list", data := .seq vs.toArray } (.lst (ns.map V.int))) else none) := by
      intro b
      by_cases hb : b = a
      · exact Or.inr ⟨_, _, if_pos hb⟩
      · exact Or.inl (if_neg hb)
    refine go _ only ?_ ?_ (fun _ => hk) (hsp w _ a ns hlen only (.inl (.inr ⟨{ cls := .type "list", data := .seq vs.toArray }, if_pos rfl⟩)))
    · intro b u z
      obtain ⟨rfl, rfl⟩ := at_a z
      exact ⟨hobj, by rw [List.length_map]; exact size, vs, _, vals_ints hints, hobj⟩
    · intro b z
      cases q : (if b = a then some (HO.frz { cls := .type "list", data := .seq vs.toArray } (.lst (ns.map V.int))) else none) with
      | none => exact absurd q z
      | some u => exact (at_a q).1
end L2

/-! isinstance of a caught error whose fields stand in a dict; a tuple of classes -/
namespace L2
open PySem PySem.Spec PyProof.Rows
section
variable {X : Cx} {a : Addr} {oe : Obj} {cls : Value} {d : Option Addr} {pn : List (Addr × Obj)}
/-- the error that the suite holds at a: its class D, its dict dd -/
def Caught (K : PySem.W.Frag) (H : Hp) (cls : Value) (d : Option Addr) (D : Addr) : Prop := cls = .ref D ∧ ExcC K D ∧ ∃ (dd : Addr) (fs : List (Str × V)), d = some dd ∧ H dd = some (.xd fs)
theorem caught_at {pins : List (Addr × Obj)} {σ : St} {H : Hp} {s : Shared} {D : Addr} (I : Inv (X.suite a ((a, oe) :: pn)) pins σ H s) (hz : Zc cls d oe) (hf : ∃ vs, oe.data = .fields vs) (c : Caught X.K H cls d D) : ∃ od, PySem.W.InstAt s.heap a oe D od := by
  obtain ⟨rfl, _, dd, fs, rfl, ea⟩ := c
  have here := (I.pin (a, oe) (List.mem_append_left _ List.mem_cons_self)).1
  obtain ⟨vs, hd⟩ := hf
  obtain ⟨mA, hns, _⟩ := (show ObjOk X.prog X.w H s.heap dd (.xd fs) from I.hok dd _ ea)
  obtain ⟨od, ho, _⟩ := lookIn_ns hns
  refine ⟨some od, here, hz.1, ?_, ?_⟩
  · unfold PySem.W.notCls
    rw [hd] <;> rfl
  · rw [hz.2]
    exact ho
theorem caught_kit {K : PySem.W.Frag} {D : Addr} {od : Option Obj} (C : ExcC K D) : PySem.W.KitX K (.ref a) (.ref D) (fun h => PySem.W.InstAt h a oe D od) := by
  have hc : (PySem.W.clsIn K D).isSome = true := by
    obtain ⟨cd, hc, _⟩ := PySem.W.any_some C.hd
    rw [hc]
    rfl
  exact PySem.W.kitx_exc hc C.hg C.hk C.hs C.ha C.hn C.ht C.hm
def rIsC (K : PySem.W.Frag) (a : Addr) (cls : Value) (d : Option Addr) : List V → Hp → VK → Prop := fun xs H Q => ∃ (D : Addr) (c : V) (cv : Value) (b : Bool), xs = [.ref a, c] ∧ Caught K H cls d D ∧ ClsV c cv ∧ PySem.W.kitOne K (.ref D) cv = some b ∧ Q (.bl b) H
def rIsCT (K : PySem.W.Frag) (a : Addr) (cls : Value) (d : Option Addr) : List V → Hp → VK → Prop := fun xs H Q => ∃ (D tp : Addr) (cs : List V) (us : List Value) (b : Bool), xs = [.ref a, .ref tp] ∧ Caught K H cls d D ∧ H tp = some (.tup cs) ∧ Paired ClsV cs us ∧ PySem.W.kitAny K (.ref D) us = some b ∧ Q (.bl b) H
theorem call_isC (hz : Zc cls d oe) (hf : ∃ vs, oe.data = .fields vs) : CallR (X.suite a ((a, oe) :: pn)) (.builtin "isinstance") (rIsC X.K a cls d) := by
  intro pins s σ H xs us Q I r h
  obtain ⟨D, c, cv, b, rfl, hc, k, e, q⟩ := h
  obtain ⟨u1, u2, rfl, r1, r2⟩ := vals2 r
  obtain rfl : u1 = Value.ref a := r1
  have e2 := k.eq r2
  subst e2
  obtain ⟨od, J⟩ := caught_at I hz hf hc
  exact PySem.W.kia_one (caught_kit hc.2.1) I.kIn J e (fun z => by cases z) fun tk => ⟨.bl b, H, I.tok tk, rfl, q⟩
theorem call_isCT (hz : Zc cls d oe) (hf : ∃ vs, oe.data = .fields vs) : CallR (X.suite a ((a, oe) :: pn)) (.builtin "isinstance") (rIsCT X.K a cls d) := by
  intro pins s σ H xs us Q I r h
  obtain ⟨D, tp, cs, ws, b, rfl, hc, hT, k, e, q⟩ := h
  obtain ⟨u1, u2, rfl, r1, r2⟩ := vals2 r
  obtain rfl : u1 = Value.ref a := r1
  obtain rfl : u2 = Value.ref tp := r2
  obtain ⟨od, J⟩ := caught_at I hz hf hc
  obtain ⟨_, its, rv, o, h1, h2, n, h3⟩ := (show ObjOk X.prog X.w H s.heap tp (.tup cs) from I.hok tp _ hT)
  have e3 := ClsV.all k rv
  subst e3
  obtain ⟨oc, od', dt, sl⟩ := o
  simp only at h2 h3
  subst h2 h3
  exact PySem.W.kia_tup (caught_kit hc.2.1) I.kIn J h1 e (fun z => by cases z) fun tk => ⟨.bl b, H, I.tok tk, rfl, q⟩
end
end L2

/-! lists of numbers, lists of such lists, as data that is shown -/
namespace KD
open PySem PySem.Spec PyProof.Rows L2
def dI (l : List Int) : PyData := .list (l.map .int)
def dW (W : List (List Int)) : PyData := .list (W.map dI)
structure Shows (d : PyData) : Prop where
  sh : d.showable = true
  nd : d.hasDict = false
  dp : d.depth ≤ 60
  sz : d.shown.length ≤ sizeLine
def Smalls (l : List Int) : Prop := ∀ z ∈ l, z.natAbs < 1000000
theorem small_log {z : Int} (h : z.natAbs < 1000000) : z.natAbs.log2 < 20 := by
  by_cases e : z.natAbs = 0
  · rw [e]
    decide
  · exact (Nat.log2_lt e).2 (Nat.lt_of_lt_of_le h (by decide))
theorem ints_show {l : List Int} (h : Smalls l) : PyData.showableAll (l.map PyData.int) = true := PyData.showableAll_ints l fun z hz => Nat.lt_trans (small_log (h z hz)) (by decide)
theorem ints_nodict : ∀ l : List Int, PyData.hasDictAll (l.map PyData.int) = false
  | [] => by simp only [List.map_nil, PyData.hasDictAll]
  | z :: l => by simp only [List.map_cons, PyData.hasDictAll, PyData.hasDict, ints_nodict l, Bool.or_self]
theorem ints_depth : ∀ l : List Int, PyData.depthAll (l.map PyData.int) = 0
  | [] => by simp only [List.map_nil, PyData.depthAll]
  | z :: l => by simp only [List.map_cons, PyData.depthAll, PyData.depth, ints_depth l, Nat.max_self]
theorem ints_leaves : ∀ {l : List Int}, Smalls l → PyData.leavesShortAll 13 (l.map PyData.int) = true
  | [], _ => by simp only [List.map_nil, PyData.leavesShortAll]
  | z :: l, h => by
    simp only [List.map_cons, PyData.leavesShortAll, PyData.leavesShort, Bool.and_eq_true, decide_eq_true_eq]
    exact ⟨PyData.shown_int_le (Nat.lt_trans (h z List.mem_cons_self) (by decide)), ints_leaves fun y hy => h y (List.mem_cons_of_mem _ hy)⟩
theorem ints_weight : ∀ {l : List Int}, Smalls l → PyData.weightAll (l.map PyData.int) ≤ 21 * l.length
  | [], _ => by simp only [List.map_nil, PyData.weightAll]; exact Nat.zero_le _
  | z :: l, h => by
    have := small_log (h z List.mem_cons_self)
    have ih := ints_weight (l := l) fun y hy => h y (List.mem_cons_of_mem _ hy)
    have w : PyData.weight (.int z) ≤ 20 := by
      simp only [PyData.weight]
      split <;> omega
    simp only [List.map_cons, PyData.weightAll, List.length_cons]
    omega
theorem dI_shows {l : List Int} (h : Smalls l) (hl : l.length ≤ 10000) : Shows (dI l) where
  sh := by simp only [dI, PyData.showable]; exact ints_show h
  nd := by simp only [dI, PyData.hasDict]; exact ints_nodict l
  dp := by simp only [dI, PyData.depth, ints_depth]; decide
  sz := PyData.shown_fits (B := 13) (by decide) (by decide) (by simp only [dI, PyData.leavesShort]; exact ints_leaves h) (by
    simp only [dI, PyData.weight]
    have := ints_weight h
    have e : (2 : Nat) ^ 20 = 1048576 := by decide
    omega)
theorem rows_show : ∀ {W : List (List Int)}, (∀ r ∈ W, Smalls r) → PyData.showableAll (W.map dI) = true
  | [], _ => by simp only [List.map_nil, PyData.showableAll]
  | r :: W, h => by
    simp only [List.map_cons, PyData.showableAll, Bool.and_eq_true]
    exact ⟨by simp only [dI, PyData.showable]; exact ints_show (h r List.mem_cons_self), rows_show fun y hy => h y (List.mem_cons_of_mem _ hy)⟩
theorem rows_nodict : ∀ W : List (List Int), PyData.hasDictAll (W.map dI) = false
  | [] => by simp only [List.map_nil, PyData.hasDictAll]
  | r :: W => by simp only [List.map_cons, PyData.hasDictAll, dI, PyData.hasDict, ints_nodict, Bool.false_or]; exact rows_nodict W
theorem rows_depth : ∀ W : List (List Int), PyData.depthAll (W.map dI) ≤ 1
  | [] => by simp only [List.map_nil, PyData.depthAll]; exact Nat.zero_le _
  | r :: W => by
    have := rows_depth W
    simp only [List.map_cons, PyData.depthAll, dI, PyData.depth, ints_depth]
    exact Nat.max_le.mpr ⟨Nat.le_refl _, this⟩
theorem rows_leaves : ∀ {W : List (List Int)}, (∀ r ∈ W, Smalls r) → PyData.leavesShortAll 13 (W.map dI) = true
  | [], _ => by simp only [List.map_nil, PyData.leavesShortAll]
  | r :: W, h => by
    simp only [List.map_cons, PyData.leavesShortAll, Bool.and_eq_true]
    exact ⟨by simp only [dI, PyData.leavesShort]; exact ints_leaves (h r List.mem_cons_self), rows_leaves fun y hy => h y (List.mem_cons_of_mem _ hy)⟩
theorem rows_weight {k : Nat} : ∀ {W : List (List Int)}, (∀ r ∈ W, Smalls r ∧ r.length ≤ k) → PyData.weightAll (W.map dI) ≤ (21 * k + 1) * W.length
  | [], _ => by simp only [List.map_nil, PyData.weightAll]; exact Nat.zero_le _
  | r :: W, h => by
    have h1 := h r List.mem_cons_self
    have w := ints_weight h1.1
    have ih := rows_weight (k := k) (W := W) fun y hy => h y (List.mem_cons_of_mem _ hy)
    have wd : PyData.weight (dI r) ≤ 21 * k := by
      simp only [dI, PyData.weight]
      have : 21 * r.length ≤ 21 * k := Nat.mul_le_mul_left 21 h1.2
      omega
    simp only [List.map_cons, PyData.weightAll, List.length_cons]
    rw [Nat.mul_succ]
    omega
theorem dW_shows {W : List (List Int)} (h : ∀ r ∈ W, Smalls r ∧ r.length ≤ 100) (hl : W.length ≤ 400) : Shows (dW W) where
  sh := by simp only [dW, PyData.showable]; exact rows_show fun r hr => (h r hr).1
  nd := by simp only [dW, PyData.hasDict]; exact rows_nodict W
  dp := by
    have := rows_depth W
    simp only [dW, PyData.depth]
    omega
  sz := PyData.shown_fits (B := 13) (by decide) (by decide) (by simp only [dW, PyData.leavesShort]; exact rows_leaves fun r hr => (h r hr).1) (by
    simp only [dW, PyData.weight]
    have := rows_weight h
    have e : (2 : Nat) ^ 20 = 1048576 := by decide
    have : (21 * 100 + 1) * W.length ≤ (21 * 100 + 1) * 400 := Nat.mul_le_mul_left _ hl
    omega)
theorem dpI {K : PySem.W.Frag} {H : Hp} {a : Addr} {l : List Int} (h : SqL K H a (l.map V.int)) : Dp K H (.ref a) (dI l) := by
  refine .lst h ?_
  clear h
  induction l with
  | nil => exact .nil
  | cons z l ih => exact .cons (.int z) ih
theorem dpW {K : PySem.W.Frag} {H : Hp} {a : Addr} {as : List Addr} {W : List (List Int)} (h : SqL K H a (as.map V.ref)) (p : Paired (fun x r => SqL K H x (r.map V.int)) as W) : Dp K H (.ref a) (dW W) := by
  refine .lst h ?_
  clear h
  induction p with
  | nil => exact .nil
  | cons f _ ih => exact .cons (dpI f) ih
/-- the reading of repr(x), x such data -/
theorem shown {K : PySem.W.Frag} {H : Hp} {a : Addr} {d : PyData} {Q : VK} (s : Shows d) (p : Dp K H (.ref a) d) (q : Q (.str d.shown) H) : rRepr K [.ref a] H Q := ⟨a, d, rfl, p, s.sh, s.nd, s.dp, s.sz, q⟩
def rTupOf (K : PySem.W.Frag) : List V → Hp → VK → Prop := fun xs H Q => ∃ p ys, xs = [.ref p] ∧ ((SqL K H p ys ∧ ∀ l, H l = none → Q (.ref l) (upd H l (.tup ys))) ∨ (SqT K H p ys ∧ Q (.ref p) H))
end KD

/-! defs that may be called while an error is handled: their bodies ask nothing of what is handled -/
namespace L2
open PySem PySem.Spec PyProof.Rows
structure RoomQ (k : Nat) (A : Around) : Prop where
  dp : A.depth + 3 * k + 5 < recursionLimit
  un : A.units + 16 * k + 200 < cLine
theorem RoomQ.of {k : Nat} {A : Around} (r : Room k A) : RoomQ k A := ⟨r.dp, r.un⟩
theorem RoomQ.mono {j k : Nat} {A : Around} (r : RoomQ k A) (h : j ≤ k) : RoomQ j A := by
  obtain ⟨a, b⟩ := r
  exact ⟨by omega, by omega⟩
theorem RoomQ.deeper {k : Nat} {A : Around} (r : RoomQ (k + 1) A) (env : Env) : RoomQ k (A.deeper env) := by
  obtain ⟨a, b⟩ := r
  refine ⟨?_, ?_⟩
  · show A.depth + 1 + 3 * k + 5 < _
    omega
  · show A.units + 3 + 16 * k + 200 < _
    omega
structure FnOkQ (P : Program) (w : World) (K : PySem.W.Frag) (mg : Str → Option Value) (base : Heap) (k : Nat) (f : Addr) (fd : FuncData) (ps : List Str) (sp : Sp) : Prop where
  len : ∀ vs H Q E, sp vs H Q E → vs.length = ps.length
  run : ∀ (A : Around) (outer : List Env) (s : Shared) (H : Hp) (args : Args) (us : List Value) (vs : List V) (Q : VK) (E : XK), RoomQ k A →
    Env0 P w K mg base A outer s H → BindsTo s fd args (ps.zip us) → Vals vs us → sp vs H Q E → codeAny (model P w) A (.call (.ref f) args) (CR CX0 outer P w H s Q E) s
/-- the body's context: nothing is known of what is handled -/
def cxQ (P : Program) (w : World) (K : PySem.W.Frag) (mg : Str → Option Value) (base : Heap) (N : List Str) (qual : Str) (scope : Scope) (f : Addr) (cd : Value) (A : Around) (outer : List Env) (s : Shared) (H : Hp) (E : XK) : Cx :=
  { cxOf CX0 P w K mg base N qual scope f cd A outer s H E with calm := false }
section
variable {P : Program} {w : World} {K : PySem.W.Frag} {mg : Str → Option Value} {base : Heap}
theorem Fun.okQ {x qual : Str} {st : Stmt} {f : Addr} {fd : FuncData} {N ps : List Str} {k : Nat} {sp : Sp} (F : Fun K x qual st f fd) (S : FnScope N ps (defScope st)) (len : ∀ vs H Q E, sp vs H Q E → vs.length = ps.length)
    (body : ∀ (cdv : Value) (A : Around) (outer : List Env) (s : Shared) (H : Hp) (vs : List V) (Q : VK) (E : XK), RoomQ k (A.deeper (envOfC qual (defScope st) s.heap.objs.size f cdv)) → sp vs H Q E →
      ∃ t, PSs (cxQ P w K mg base N qual (defScope st) f cdv A outer s H E).nox (defBody st) t ∧ t { nx := fun _ H' => Q .non H', rt := Q } (start N vs) H) :
    FnOkQ P w K mg base (k + 1) f fd ps sp where
  len := len
  run := by
    intro A outer s H args us vs Q E room e0 bind rel want
    obtain ⟨oc, od, kV, doc, pm, an, cdv, ct, osl, rfl, lk, code⟩ := F.ex
    have same := len _ _ _ _ want
    have up : ∀ b o, base.get? b = some o → s.heap.get? b = some o := fun b o e => (e0.bs b o e).1
    have inK := e0.mod.kin.keeps up
    have places : ∀ y ∈ ps.zip us, (defScope st).names.lookup y.1 = some .local ∨
        ((defScope st).names.lookup y.1 = some .cell ∧ ((cellsFrom (s.heap.objs.size + 1) (defScope st).names []).lookup y.1).isSome = true) := by
      rintro ⟨n, v⟩ hy
      cases S.par n (List.of_mem_zip hy).1 with
      | inl q => exact Or.inl q
      | inr q => exact Or.inr ⟨q, PySem.W.cellsFrom_some _ _ _ (.inl q)⟩
    have depth : A.depth < recursionLimit := by have := room.dp; omega
    refine codeAny_call_function depth (inK _ _ lk) rfl S.co S.gen rfl (PySem.W.codeRec_of inK code) (bind _ _ _ _ (wpAny_newFunctionEnv_cells S.kind places fun env same_env s1 made => ?_))
    subst same_env
    have nolim := e0.mod.nolimit.keeps up
    refine ⟨nolim.keeps made.toInCall.keep, codeAny_func ?_⟩
    obtain ⟨t, rule, reading⟩ := body cdv A outer s H vs Q E (room.deeper _) want
    have e0' : Env0 P w K mg base { A with handled := none } outer s H := { frames := e0.frames, mod := e0.mod, bs := e0.bs, bsz := e0.bsz, funs := e0.funs, frf := e0.frf, hok := e0.hok, bare := e0.bare }
    have I := inv_start (CX := CX0) (E := E) S (A := { A with handled := none }) rfl e0' same rel made
    have ok : (cxQ P w K mg base N qual (defScope st) f cdv A outer s H E).Ok :=
      { mod := I.ok.mod, kind := I.ok.kind, glob := I.ok.glob, blt := I.ok.blt, above := I.ok.above, inj := I.ok.inj, has := I.ok.has, cab := I.ok.cab,
        hd := fun z => Bool.noConfusion (show false = true from z), frames := Around.frames_deeper e0.frames, stk := I.ok.stk, exf := I.ok.exf, bs := I.ok.bs, bsz := I.ok.bsz, noex := I.ok.noex, exfs := I.ok.exfs, funs := I.ok.funs, frf := I.ok.frf }
    have first : Inv (cxQ P w K mg base N qual (defScope st) f cdv A outer s H E) [] (start N vs) H s1 :=
      { ok := ok, os := I.os, bare := I.bare, base := I.base, loc := I.loc, cell := I.cell, free := I.free, freeC := I.freeC, pin := I.pin, hok := I.hok, len := I.len }
    refine wpAny_mono (rule.nox.run [] s1 (start N vs) H _ first reading) ?_ (fun _ _ z => z)
    intro fl s' out
    match fl, out with
    | .ret u, ⟨v, _, H', J, rv, q⟩ => exact ⟨v, H', J.os, J.bare, J.base, J.hok, rv, q⟩
    | .next, ⟨_, H', J, q⟩ => exact ⟨.non, H', J.os, J.bare, J.base, J.hok, rfl, q⟩
    | .brk, ⟨_, _, _, q⟩ => exact q.elim
    | .cont, ⟨_, _, _, q⟩ => exact q.elim
end
section
variable {X : Cx} {k : Nat} {f : Addr} {fd : FuncData} {ps : List Str} {sp : Sp} {x : Str} {p pos : Pos} {e : Expr} {es : List Expr} {t : TA}
theorem pe_callQ (F : FnOkQ X.prog X.w X.K X.mg X.base k f fd ps sp) (hr : RoomQ k X.A) (hg : Gl X x) (hm : X.mg x = some (.ref f)) (hk : PySem.W.keepIn X.K (.ref f) = true) (hb : Binds X.K fd ps [])
    (ha : PA X (e :: es) t) (hdb : (x == ("__debug__" : Str)) = false := by decide) (he : starEach (e :: es) X.env = (false, eval e X.env) :: starEach es X.env := by rfl) (hpl : (backTo pos (starEach es X.env)).any (·.1) = false := by rfl) :
    PE X (.Call (.Name x p) (e :: es) [] pos) (tCall sp [] E0 t) := by
  constructor
  intro pins s σ H Q I h
  refine wpAny_Call_Name_kw (ld_glob I hg hm (PySem.W.callWith_K (h₀ := X.base) I.ok.mod.kin hk (thn (ha.run pos pins s σ H _ I h) ?_) he hpl) hdb)
  rintro us s1 ⟨vs, H1, J, rel, want⟩
  refine ⟨J.kIn, ?_⟩
  have n : us.length = ps.length := by rw [← rel.length, ← F.len _ _ _ _ want, List.append_nil]
  have want' : sp vs H1 Q E0 := by rw [← List.append_nil vs]; exact want
  have bnd := hb s1 us J.kIn (by rw [List.append_nil]; exact n)
  rw [List.append_nil] at bnd
  refine wpAny_call (codeAny_mono (F.run X.A X.stack s1 H1 ⟨us, []⟩ us vs Q E0 hr J.env0 bnd rel want') ?_)
  intro r s' out
  match r, out with
  | .error _, out => exact out.elim
  | .ok (.ret u), out => exact J.after out
  | .ok .next, out => exact out.elim
  | .ok .brk, out => exact out.elim
  | .ok .cont, out => exact out.elim
end
end L2

/-! the mathematics of the weeks: exchanges of two workers on a day, the squares that fall -/
namespace K29
abbrev Rows := List (List Int)
/-- the minutes of a shift, -1 is none -/
def mins (L : List Int) (s : Int) : Int := if s < 0 then 0 else L.getD s.toNat 0
def row (W : Rows) (d : Nat) : List Int := W.getD d []
def at_ (r : List Int) (k : Nat) : Int := r.getD k 0
def tot (L : List Int) (W : Rows) (k : Nat) : Int := (W.map fun r => mins L (at_ r k)).sum
def more (L : List Int) (W : Rows) (d i j : Nat) : Int := mins L (at_ (row W d) j) - mins L (at_ (row W d) i)
def Gain (L : List Int) (W : Rows) (d i j : Nat) : Prop := more L W d i j * (tot L W i - tot L W j + more L W d i j) < 0
instance (L : List Int) (W : Rows) (d i j : Nat) : Decidable (Gain L W d i j) := by unfold Gain; infer_instance
/-- (d', i', j') stands ahead of (d, i, j) -/
def Bef (d' i' j' d i j : Nat) : Prop := d' < d ∨ (d' = d ∧ (i' < i ∨ (i' = i ∧ j' < j)))
structure First (L : List Int) (n : Nat) (W : Rows) (d i j : Nat) : Prop where
  dlt : d < W.length
  ij : i < j
  jn : j < n
  gain : Gain L W d i j
  clean : ∀ d' i' j', Bef d' i' j' d i j → i' < j' → j' < n → ¬ Gain L W d' i' j'
def NoG (L : List Int) (n : Nat) (W : Rows) : Prop := ∀ d i j, d < W.length → i < j → j < n → ¬ Gain L W d i j
theorem First.no {L : List Int} {n : Nat} {W : Rows} {d i j : Nat} (f : First L n W d i j) (h : NoG L n W) : False := h d i j f.dlt f.ij f.jn f.gain
theorem First.uniq {L : List Int} {n : Nat} {W : Rows} {d i j d' i' j' : Nat} (f : First L n W d i j) (g : First L n W d' i' j') : d = d' ∧ i = i' ∧ j = j' := by
  have h1 : ¬ Bef d i j d' i' j' := fun b => g.clean d i j b f.ij f.jn f.gain
  have h2 : ¬ Bef d' i' j' d i j := fun b => f.clean d' i' j' b g.ij g.jn g.gain
  unfold Bef at h1 h2
  omega
def exch (W : Rows) (d i j : Nat) : Rows := W.set d (((row W d).set i (at_ (row W d) j)).set j (at_ (row W d) i))
structure Good (L : List Int) (n : Nat) (W : Rows) : Prop where
  len : ∀ r ∈ W, r.length = n
  ent : ∀ r ∈ W, ∀ s ∈ r, -1 ≤ s ∧ s < (L.length : Int)
inductive Settles (L : List Int) (n : Nat) : Rows → Rows → Prop
  | stop {W : Rows} : NoG L n W → Settles L n W W
  | step {W V : Rows} {d i j : Nat} : First L n W d i j → Settles L n (exch W d i j) V → Settles L n W V
theorem Settles.uniq {L : List Int} {n : Nat} {W V V' : Rows} (h : Settles L n W V) (k : Settles L n W V') : V = V' := by
  induction h with
  | stop no =>
    cases k with
    | stop _ => rfl
    | step f _ => exact (f.no no).elim
  | step f _ ih =>
    cases k with
    | stop no => exact (f.no no).elim
    | step g t =>
      obtain ⟨rfl, rfl, rfl⟩ := f.uniq g
      exact ih t
theorem row_mem {W : Rows} {d : Nat} (h : d < W.length) : row W d ∈ W := by
  unfold row
  rw [List.getD_eq_getElem?_getD, List.getElem?_eq_getElem h]
  exact List.getElem_mem h
theorem row_get {W : Rows} {d : Nat} (h : d < W.length) : W[d]? = some (row W d) := by
  unfold row
  rw [List.getD_eq_getElem?_getD, List.getElem?_eq_getElem h]
  rfl
theorem at_get {r : List Int} {k : Nat} (h : k < r.length) : r[k]? = some (at_ r k) := by
  unfold at_
  rw [List.getD_eq_getElem?_getD, List.getElem?_eq_getElem h]
  rfl
theorem at_mem {r : List Int} {k : Nat} (h : k < r.length) : at_ r k ∈ r := List.mem_of_getElem? (at_get h)
theorem at_of {r : List Int} {k : Nat} {x : Int} (h : r[k]? = some x) : at_ r k = x := by
  unfold at_
  rw [List.getD_eq_getElem?_getD, h]
  rfl
theorem row_of {W : Rows} {k : Nat} {x : List Int} (h : W[k]? = some x) : row W k = x := by
  unfold row
  rw [List.getD_eq_getElem?_getD, h]
  rfl
theorem at_set {r : List Int} {i k : Nat} {x : Int} (h : i < r.length) : at_ (r.set i x) k = if k = i then x else at_ r k := by
  unfold at_
  rw [List.getD_eq_getElem?_getD, List.getD_eq_getElem?_getD, List.getElem?_set]
  by_cases e : k = i
  · rw [if_pos e, if_pos e.symm, if_pos (e ▸ h)]
    rfl
  · rw [if_neg e, if_neg (Ne.symm e)]
theorem mem_set_of {α : Type} {l : List α} {i : Nat} {x y : α} (h : y ∈ l.set i x) : y = x ∨ y ∈ l := by
  rcases List.mem_or_eq_of_mem_set h with h | h
  · exact .inr h
  · exact .inl h
theorem Good.exch {L : List Int} {n : Nat} {W : Rows} {d i j : Nat} (g : Good L n W) (hd : d < W.length) (hi : i < n) (hj : j < n) : Good L n (exch W d i j) := by
  have hr := row_mem hd
  have hl := g.len _ hr
  constructor
  · intro r h
    rcases mem_set_of h with rfl | h
    · simp [hl]
    · exact g.len r h
  · intro r h s hs
    rcases mem_set_of h with rfl | h
    · rcases mem_set_of hs with rfl | hs
      · exact g.ent _ hr _ (at_mem (by omega))
      · rcases mem_set_of hs with rfl | hs
        · exact g.ent _ hr _ (at_mem (by omega))
        · exact g.ent _ hr _ hs
    · exact g.ent r h s hs
theorem sum_set : ∀ (l : List Int) (d : Nat) (x y : Int), l[d]? = some y → (l.set d x).sum = l.sum + (x - y)
  | [], d, x, y, h => by simp at h
  | a :: l, 0, x, y, h => by
    have e : a = y := Option.some.inj h
    subst e
    simp only [List.set_cons_zero, List.sum_cons]
    omega
  | a :: l, d + 1, x, y, h => by
    have := sum_set l d x y (by simpa using h)
    simp only [List.set_cons_succ, List.sum_cons]
    omega
theorem tot_exch {L : List Int} {n : Nat} {W : Rows} {d i j k : Nat} (g : Good L n W) (hd : d < W.length) (hij : i < j) (hj : j < n) :
    tot L (exch W d i j) k = if k = i then tot L W i + more L W d i j else if k = j then tot L W j - more L W d i j else tot L W k := by
  have hl := g.len _ (row_mem hd)
  have e : tot L (exch W d i j) k = tot L W k + (mins L (at_ (((row W d).set i (at_ (row W d) j)).set j (at_ (row W d) i)) k) - mins L (at_ (row W d) k)) := by
    unfold tot exch
    rw [List.map_set]
    refine sum_set _ _ _ _ ?_
    rw [List.getElem?_map, row_get hd]
    rfl
  rw [e, at_set (by rw [List.length_set]; omega), at_set (by omega)]
  unfold more
  by_cases h1 : k = i
  · subst h1
    rw [if_neg (by omega), if_pos rfl, if_pos rfl]
  · rw [if_neg h1]
    by_cases h2 : k = j
    · subst h2
      rw [if_pos rfl, if_pos rfl]
      omega
    · rw [if_neg h2, if_neg h2, if_neg h1]
      omega
def sq (L : List Int) (W : Rows) (n : Nat) : Int := ((List.range n).map fun k => tot L W k * tot L W k).sum
theorem sum_two {f g : Nat → Int} {i j : Nat} (hij : i < j) : ∀ n, (∀ k, k < n → k ≠ i → k ≠ j → f k = g k) →
    ((List.range n).map f).sum = ((List.range n).map g).sum + (if i < n then f i - g i else 0) + (if j < n then f j - g j else 0)
  | 0, _ => by simp
  | n + 1, h => by
    have ih := sum_two hij n (fun k hk => h k (by omega))
    rw [List.range_succ, List.map_append, List.map_append, List.sum_append, List.sum_append, ih]
    simp only [List.map_cons, List.map_nil, List.sum_cons, List.sum_nil]
    by_cases h1 : n = i
    · subst h1
      rw [if_neg (Nat.lt_irrefl n), if_pos (Nat.lt_succ_self n), if_neg (by omega), if_neg (by omega)]
      omega
    · by_cases h2 : n = j
      · subst h2
        simp only [if_pos hij, if_pos (show i < n + 1 by omega), if_neg (Nat.lt_irrefl n), if_pos (Nat.lt_succ_self n)]
        omega
      · have e := h n (Nat.lt_succ_self n) h1 h2
        have c1 : (i < n + 1) = (i < n) := by apply propext; omega
        have c2 : (j < n + 1) = (j < n) := by apply propext; omega
        simp only [c1, c2, e]
        omega
theorem sq_exch {L : List Int} {n : Nat} {W : Rows} {d i j : Nat} (g : Good L n W) (f : First L n W d i j) : sq L (exch W d i j) n < sq L W n := by
  have hij := f.ij
  have hj := f.jn
  have key := sum_two (f := fun k => tot L (exch W d i j) k * tot L (exch W d i j) k) (g := fun k => tot L W k * tot L W k) hij n (fun k _ h1 h2 => by
    show tot L (exch W d i j) k * tot L (exch W d i j) k = tot L W k * tot L W k
    rw [tot_exch g f.dlt hij hj, if_neg h1, if_neg h2])
  have ei : tot L (exch W d i j) i = tot L W i + more L W d i j := by rw [tot_exch g f.dlt hij hj, if_pos rfl]
  have ej : tot L (exch W d i j) j = tot L W j - more L W d i j := by rw [tot_exch g f.dlt hij hj, if_neg (by omega), if_pos rfl]
  unfold sq
  rw [key, if_pos (by omega), if_pos hj, ei, ej]
  have gn := f.gain
  unfold Gain at gn
  generalize more L W d i j = m at gn ⊢
  generalize tot L W i = a at gn ⊢
  generalize tot L W j = b at gn ⊢
  grind
theorem sq_nonneg (L : List Int) (W : Rows) (n : Nat) : 0 ≤ sq L W n := by
  unfold sq
  have h : ∀ l : List Nat, 0 ≤ (l.map fun k => tot L W k * tot L W k).sum := by
    intro l
    induction l with
    | nil => simp
    | cons a l ih =>
      rw [List.map_cons, List.sum_cons]
      have : 0 ≤ tot L W a * tot L W a := by
        rcases Int.le_total 0 (tot L W a) with h | h
        · exact Int.mul_nonneg h h
        · exact Int.mul_nonneg_of_nonpos_of_nonpos h h
      omega
  exact h _
/-- the sum of the squares falls exactly if.. -/
theorem gain_iff {m a b : Int} : ((a + m) * (a + m) + (b - m) * (b - m) < a * a + b * b) ↔ m * (a - b + m) < 0 := by grind
/-! ### bounds -/
def Loads (L : List Int) : Prop := ∀ x ∈ L, 0 ≤ x ∧ x ≤ 600
theorem mins_le {L : List Int} (h : Loads L) (s : Int) : 0 ≤ mins L s ∧ mins L s ≤ 600 := by
  unfold mins
  by_cases c : s < 0
  · rw [if_pos c]
    omega
  · rw [if_neg c, List.getD_eq_getElem?_getD]
    cases e : L[s.toNat]? with
    | none => simp
    | some x => exact h x (List.mem_of_getElem? e)
theorem tot_le {L : List Int} (h : Loads L) (W : Rows) (k : Nat) : 0 ≤ tot L W k ∧ tot L W k ≤ 600 * W.length := by
  unfold tot
  induction W with
  | nil => simp
  | cons r W ih =>
    have := mins_le h (at_ r k)
    rw [List.map_cons, List.sum_cons, List.length_cons]
    omega
theorem more_le {L : List Int} (h : Loads L) (W : Rows) (d i j : Nat) : -600 ≤ more L W d i j ∧ more L W d i j ≤ 600 := by
  unfold more
  have := mins_le h (at_ (row W d) j)
  have := mins_le h (at_ (row W d) i)
  omega
theorem sq_le {L : List Int} (h : Loads L) (W : Rows) (n : Nat) (hw : W.length ≤ 40) : sq L W n ≤ 576000000 * n := by
  unfold sq
  induction n with
  | zero => simp
  | succ n ih =>
    rw [List.range_succ, List.map_append, List.sum_append]
    simp only [List.map_cons, List.map_nil, List.sum_cons, List.sum_nil]
    have t := tot_le h W n
    have : tot L W n * tot L W n ≤ 24000 * 24000 := Int.mul_le_mul (by omega) (by omega) (by omega) (by omega)
    omega
/-! ### the first week, by turns -/
def turn1 (n d : Nat) (r : List Int) (s : Nat) : List Int := r.set ((s + d) % n) (s : Int)
/-- the row of day d of c shifts and n workers, the first k shifts given out -/
def turnRow (n d k : Nat) : List Int := (List.range k).foldl (turn1 n d) (List.replicate n (-1))
def turns (c n m : Nat) : Rows := (List.range m).map fun d => turnRow n d c
theorem turnRow_succ (n d k : Nat) : turnRow n d (k + 1) = (turnRow n d k).set ((k + d) % n) (k : Int) := by
  unfold turnRow
  rw [List.range_succ, List.foldl_append]
  rfl
theorem turnRow_len (n d k : Nat) : (turnRow n d k).length = n := by
  induction k with
  | zero => simp [turnRow]
  | succ k ih => rw [turnRow_succ, List.length_set, ih]
theorem turnRow_ent (n d k : Nat) : ∀ s ∈ turnRow n d k, -1 ≤ s ∧ s < (k : Int) := by
  induction k with
  | zero =>
    intro s h
    have : s = -1 := by
      unfold turnRow at h
      simp at h
      exact h.2
    omega
  | succ k ih =>
    intro s h
    rw [turnRow_succ] at h
    rcases mem_set_of h with rfl | h
    · omega
    · have := ih s h
      omega
theorem turns_good (L : List Int) (n m : Nat) : Good L n (turns L.length n m) := by
  constructor
  · intro r h
    obtain ⟨d, _, rfl⟩ := List.mem_map.mp h
    exact turnRow_len n d _
  · intro r h
    obtain ⟨d, _, rfl⟩ := List.mem_map.mp h
    exact turnRow_ent n d _
theorem turns_len (c n m : Nat) : (turns c n m).length = m := by unfold turns; simp
/-- no loads: nothing to gain -/
theorem nog_nil {n : Nat} (W : Rows) : NoG [] n W := by
  intro d i j _ _ _ h
  have hz : ∀ s, mins [] s = 0 := fun s => by unfold mins; split <;> simp
  have : more [] W d i j = 0 := by unfold more; rw [hz, hz]; rfl
  unfold Gain at h
  rw [this] at h
  simp at h
theorem Good.append {L : List Int} {n : Nat} {W V : Rows} (g : Good L n W) (h : Good L n V) : Good L n (W ++ V) :=
  ⟨fun r hr => (List.mem_append.mp hr).elim (g.len r) (h.len r), fun r hr => (List.mem_append.mp hr).elim (g.ent r) (h.ent r)⟩
theorem Settles.good {L : List Int} {n : Nat} {W V : Rows} (h : Settles L n W V) : Good L n W → Good L n V ∧ V.length = W.length := by
  induction h with
  | stop _ => exact fun g => ⟨g, rfl⟩
  | step f _ ih =>
    intro g
    have := ih (g.exch f.dlt (Nat.lt_trans f.ij f.jn) f.jn)
    exact ⟨this.1, by rw [this.2]; simp [K29.exch]⟩
end K29

local macro_rules | `(tactic| walk_at "nz") => `(tactic| (dsimp only; first | decide | omega))
namespace K29W
open PySem PySem.Spec PyProof.Rows L2 KH K29
def topS (i : Nat) : Stmt := PySem.Challenge.pw_changeskept_k29_weeks_settle.main.body.getD i (.Pass ⟨0, 0, 0, 0⟩)
abbrev s_law_cell : Stmt := topS 18
theorem sc_law_cell : FnScope ["script", "k", "spare", "cell"] ["script", "k"] (defScope s_law_cell) := ⟨rfl, rfl, rfl, by decide +kernel, rfl, by decide +kernel, by decide +kernel⟩

abbrev s_law_draws : Stmt := topS 19
theorem sc_law_draws : FnScope ["cell", "sizes", "whole", "found", "number", "size", "k", "mixed"] ["cell", "sizes"] (defScope s_law_draws) := ⟨rfl, rfl, rfl, by decide +kernel, rfl, by decide +kernel, by decide +kernel⟩

abbrev s_load : Stmt := topS 12
theorem sc_load : FnScope ["loads", "shift"] ["loads", "shift"] (defScope s_load) := ⟨rfl, rfl, rfl, by decide +kernel, rfl, by decide +kernel, by decide +kernel⟩

abbrev s_law_minutes : Stmt := topS 21
theorem sc_law_minutes : FnScope ["loads", "shift"] ["loads", "shift"] (defScope s_law_minutes) := ⟨rfl, rfl, rfl, by decide +kernel, rfl, by decide +kernel, by decide +kernel⟩

abbrev sweek_totals : Stmt := topS 13
theorem scweek_totals : FnScope ["loads", "week", "worker", "row"] ["loads", "week"] (defScope sweek_totals) := ⟨rfl, rfl, rfl, by decide +kernel, rfl, by decide +kernel, by decide +kernel⟩

abbrev s_law_totals : Stmt := topS 22
theorem sc_law_totals : FnScope ["loads", "week", "workers", "totals", "row", "k"] ["loads", "week", "workers"] (defScope s_law_totals) := ⟨rfl, rfl, rfl, by decide +kernel, rfl, by decide +kernel, by decide +kernel⟩

/-- the built-in names are what they are -/
structure Txt (mg : Str → Option Value) : Prop where
  len : mg "len" = none
  abs : mg "abs" = none
  int : mg "int" = none
  range : mg "range" = none
  list : mg "list" = none
  tuple : mg "tuple" = none
  sum : mg "sum" = none
  max : mg "max" = none
  isinstance : mg "isinstance" = none
  bool : mg "bool" = none
  str : mg "str" = none
  repr : mg "repr" = none
  super : mg "super" = none
/-- a def as its callers know it -/
structure Cal (P : Program) (w : World) (K : PySem.W.Frag) (mg : Str → Option Value) (base : Heap) (k : Nat) (x : Str) (ps : List Str) (sp : Sp) (f : Addr) (fd : FuncData) : Prop where
  ok : FnOk P w K mg base CX0 k f fd ps sp
  mg : mg x = some (.ref f)
  kp : PySem.W.keepIn K (.ref f) = true
  b : Binds K fd ps []
/-- .. one that may raise -/
structure CalX (P : Program) (w : World) (K : PySem.W.Frag) (mg : Str → Option Value) (base : Heap) (k : Nat) (x : Str) (ps : List Str) (sp : Sp) (f : Addr) (fd : FuncData) : Prop where
  ok : FnOk P w K mg base (L2.CX P w) k f fd ps sp
  mg : mg x = some (.ref f)
  kp : PySem.W.keepIn K (.ref f) = true
  b : Binds K fd ps []
/-- .. one that shows data -/
structure CalG (P : Program) (w : World) (K : PySem.W.Frag) (mg : Str → Option Value) (base : Heap) (k : Nat) (x : Str) (ps : List Str) (sp : Sp) (f : Addr) (fd : FuncData) : Prop where
  ok : FnOkG P w K mg base k f fd ps sp
  mg : mg x = some (.ref f)
  kp : PySem.W.keepIn K (.ref f) = true
  b : Binds K fd ps []
/-! ### numbers and rows in the heap -/
abbrev IL (L : List Int) : List V := L.map V.int
theorem Sq.of {K : PySem.W.Frag} {H : Hp} {a : Addr} {xs : List V} (h : H a = some (.lst xs)) : Sq K H a xs := .inl (SqL.of h)
def Wk (K : PySem.W.Frag) (H : Hp) (a : Addr) (W : Rows) : Prop := ∃ as : List Addr, Sq K H a (as.map V.ref) ∧ Paired (fun x r => Sq K H x (IL r)) as W
def WkL (K : PySem.W.Frag) (H : Hp) (a : Addr) (W : Rows) : Prop := ∃ as : List Addr, SqL K H a (as.map V.ref) ∧ Paired (fun x r => SqL K H x (IL r)) as W
theorem WkL.wk {K : PySem.W.Frag} {H : Hp} {a : Addr} {W : Rows} (h : WkL K H a W) : Wk K H a W := by
  obtain ⟨as, h1, h2⟩ := h
  exact ⟨as, .inl h1, P_mono (fun _ _ e => .inl e) h2⟩
theorem Wk.same {K : PySem.W.Frag} {H H' : Hp} {a : Addr} {W : Rows} (h : Wk K H a W) (s : Same H H') : Wk K H' a W := by
  obtain ⟨as, h1, h2⟩ := h
  exact ⟨as, s.sq h1, P_mono (fun _ _ e => s.sq e) h2⟩
theorem WkL.same {K : PySem.W.Frag} {H H' : Hp} {a : Addr} {W : Rows} (h : WkL K H a W) (s : Same H H') : WkL K H' a W := by
  obtain ⟨as, h1, h2⟩ := h
  exact ⟨as, s.seq h1, P_mono (fun _ _ e => s.seq e) h2⟩
/-- a week of the def's own: the rows stand apart, all is new since H0 -/
structure LI (H0 H : Hp) (a : Addr) (as : List Addr) (W : Rows) : Prop where
  top : H a = some (.lst (as.map V.ref))
  nd : as.Nodup
  na : a ∉ as
  ins : Paired (fun x r => H x = some (.lst (IL r))) as W
  new : H0 a = none
  news : ∀ x ∈ as, H0 x = none
theorem LI.wkl {K : PySem.W.Frag} {H0 H : Hp} {a : Addr} {as : List Addr} {W : Rows} (h : LI H0 H a as W) : WkL K H a W := ⟨as, SqL.of h.top, P_mono (fun _ _ e => SqL.of e) h.ins⟩
theorem LI.same {H0 H H' : Hp} {a : Addr} {as : List Addr} {W : Rows} (h : LI H0 H a as W) (s : Same H H') : LI H0 H' a as W := ⟨s _ _ h.top, h.nd, h.na, P_mono (fun _ _ e => s _ _ e) h.ins, h.new, h.news⟩
theorem LI.at {H0 H : Hp} {a : Addr} {as : List Addr} {W : Rows} (h : LI H0 H a as W) {d : Nat} (hd : d < W.length) : ∃ x : Addr, as[d]? = some x ∧ (as.map V.ref)[d]? = some (V.ref x) ∧ H x = some (.lst (IL (row W d))) ∧ H0 x = none ∧ x ≠ a := by
  obtain ⟨x, h1, h2⟩ := P_left h.ins (row_get hd)
  have hx := List.mem_of_getElem? h1
  exact ⟨x, h1, getn h1, h2, h.news x hx, fun e => h.na (e ▸ hx)⟩
theorem P_fixI {H : Hp} {x : Addr} {m : List Int} : ∀ {as : List Addr} {W : Rows} {i : Nat}, as.Nodup → Paired (fun z r => H z = some (.lst (IL r))) as W → as[i]? = some x → Paired (fun z r => (upd H x (.lst (IL m))) z = some (.lst (IL r))) as (W.set i m)
  | [], _, i, _, _, h => by simp at h
  | a :: as, _, 0, nd, .cons f p, h => by
    have e : a = x := Option.some.inj h
    subst e
    refine .cons upd_same (P_monoM (fun z r hz e => ?_) p)
    rw [upd_ne (fun q : z = a => (List.nodup_cons.mp nd).1 (q ▸ hz))]
    exact e
  | a :: as, _, i + 1, nd, .cons f p, h => by
    have hm : x ∈ as := List.mem_of_getElem? (show as[i]? = some x from h)
    refine .cons ?_ (P_fixI (List.nodup_cons.mp nd).2 p h)
    rw [upd_ne (fun q : a = x => (List.nodup_cons.mp nd).1 (q ▸ hm))]
    exact f
theorem LI.put {H0 H : Hp} {a x : Addr} {as : List Addr} {W : Rows} (h : LI H0 H a as W) {d : Nat} (hx : as[d]? = some x) (m : List Int) : LI H0 (upd H x (.lst (IL m))) a as (W.set d m) := by
  have hm := List.mem_of_getElem? hx
  refine ⟨?_, h.nd, h.na, P_fixI h.nd h.ins hx, h.new, h.news⟩
  rw [upd_ne (fun e : a = x => h.na (e ▸ hm))]
  exact h.top
theorem LI.len {H0 H : Hp} {a : Addr} {as : List Addr} {W : Rows} (h : LI H0 H a as W) : as.length = W.length := P_len h.ins
/-- a further row behind -/
theorem LI.snoc {H0 H : Hp} {a x : Addr} {as : List Addr} {W : Rows} {r : List Int} (h : LI H0 H a as W) (hx : H x = some (.lst (IL r))) (nx : H0 x = none) (ox : x ∉ as) (xa : x ≠ a) : LI H0 (upd H a (.lst (as.map V.ref ++ [V.ref x]))) a (as ++ [x]) (W ++ [r]) := by
  constructor
  · rw [upd_same, List.map_append]
    rfl
  · rw [List.nodup_append]
    refine ⟨h.nd, by simp, ?_⟩
    intro y hy z hz e
    have : z = x := by simpa using hz
    exact ox (this ▸ e ▸ hy)
  · intro hm
    rcases List.mem_append.mp hm with hm | hm
    · exact h.na hm
    · have e2 : a = x := by simpa using hm
      exact xa e2.symm
  · refine P_append (P_monoM (fun z r hz e => ?_) h.ins) (.cons ?_ .nil)
    · rw [upd_ne (fun q : z = a => h.na (q ▸ hz))]
      exact e
    · rw [upd_ne xa]
      exact hx
  · exact h.new
  · intro y hy
    rcases List.mem_append.mp hy with hy | hy
    · exact h.news y hy
    · have e2 : y = x := by simpa using hy
      rw [e2]
      exact nx
/-- a week of lists that are known one by one -/
def WkT (H : Hp) (a : Addr) (W : Rows) : Prop := ∃ as : List Addr, H a = some (.lst (as.map V.ref)) ∧ Paired (fun x r => H x = some (.lst (IL r))) as W
theorem LI.wkt {H0 H : Hp} {a : Addr} {as : List Addr} {W : Rows} (h : LI H0 H a as W) : WkT H a W := ⟨as, h.top, h.ins⟩
theorem WkT.wkl {K : PySem.W.Frag} {H : Hp} {a : Addr} {W : Rows} (h : WkT H a W) : WkL K H a W := by
  obtain ⟨as, h1, h2⟩ := h
  exact ⟨as, SqL.of h1, P_mono (fun _ _ e => SqL.of e) h2⟩
theorem WkT.same {H H' : Hp} {a : Addr} {W : Rows} (h : WkT H a W) (s : Same H H') : WkT H' a W := by
  obtain ⟨as, h1, h2⟩ := h
  exact ⟨as, s _ _ h1, P_mono (fun _ _ e => s _ _ e) h2⟩
theorem ixq {K : PySem.W.Frag} {H : Hp} {a : Addr} {xs : List V} {i : Int} {v : V} {Q : VK} (h : Sq K H a xs) (e : atI xs i = some v) (q : Q v H) : rIx K (.ref a) (.int i) H Q := by
  rcases h with h | h
  · exact .inl ⟨a, xs, i, v, rfl, rfl, h, e, q⟩
  · exact .inr (.inl ⟨a, xs, i, v, rfl, rfl, h, e, q⟩)
theorem ixl {K : PySem.W.Frag} {H : Hp} {a : Addr} {xs : List V} {i : Int} {v : V} {Q : VK} (h : SqL K H a xs) (e : atI xs i = some v) (q : Q v H) : rIxL K (.ref a) (.int i) H Q := ⟨a, xs, i, v, rfl, rfl, h, e, q⟩
theorem at_z {r : List Int} {k : Nat} {i : Int} (h : k < r.length) (e : i = (k : Int)) : atI (IL r) i = some (V.int (at_ r k)) := by
  subst e
  exact at_n (getn (at_get h))
theorem at_mins {L : List Int} {s : Int} (h0 : ¬ s < 0) (h1 : s < (L.length : Int)) : atI (IL L) s = some (V.int (mins L s)) := by
  have hs : s = (s.toNat : Int) := by omega
  have hl : s.toNat < L.length := by omega
  have : mins L s = at_ L s.toNat := by
    unfold mins at_
    rw [if_neg h0]
  rw [this]
  exact at_z hl hs
theorem lc_seq {K : PySem.W.Frag} {a : Addr} {xs : List V} {g : TG} {tt : TT} {te : TE} {vs : List Nat} {σ : L2.St} {H0 H : Hp} {Qd : Addr → Hp → Prop} (hq : Sq K H0 a xs) (s0 : Same H0 H) (Pv : Addr → Nat → Hp → Prop) (h0 : ∀ D, H D = none → Pv D 0 (upd H D (.lst []))) (hl : ∀ D i H', H D = none → i ≤ xs.length → Pv D i H' → Same H0 H')
    (hs : ∀ D i x H', H D = none → xs[i]? = some x → Pv D i H' → g x (wipe σ vs) H' fun σ2 H2 => wipe σ2 vs = wipe σ vs ∧ tt σ2 H2 fun b H3 => if b = true then te σ2 H3 fun y H4 => ∃ acc, H4 D = some (.lst acc) ∧ acc.length < sizeLine ∧ Pv D (i + 1) (upd H4 D (.lst (acc ++ [y]))) else Pv D (i + 1) H3)
    (hd : ∀ D H', H D = none → Pv D xs.length H' → Qd D H') :
    ∃ a', V.ref a = V.ref a' ∧ (((∃ xs, SqL K H a' xs) ∧ ∀ D, H D = none → ∃ W : Nat → Nat → Hp → Prop, (∃ m, W 0 m (upd H D (.lst []))) ∧ ∀ i m H, W i m H →
      ((Itl K a').stop i H ∧ Qd D H) ∨ ((Itl K a').go i H ∧ ∃ Nx : Hp → Prop, (∀ H', Nx H' → ∃ m', m' < m ∧ W (i + 1) m' H') ∧ ∀ x H', (Itl K a').yld i H x H' → g x (wipe σ vs) H' fun σ2 H2 => wipe σ2 vs = wipe σ vs ∧ tt σ2 H2 fun b H3 =>
        if b = true then te σ2 H3 fun y H4 => ∃ acc, H4 D = some (.lst acc) ∧ acc.length < sizeLine ∧ Nx (upd H4 D (.lst (acc ++ [y]))) else Nx H3)) ∨
      ((∃ xs, SqT K H a' xs) ∧ ∀ D, H D = none → ∃ W : Nat → Nat → Hp → Prop, (∃ m, W 0 m (upd H D (.lst []))) ∧ ∀ i m H, W i m H →
      ((Itt K a').stop i H ∧ Qd D H) ∨ ((Itt K a').go i H ∧ ∃ Nx : Hp → Prop, (∀ H', Nx H' → ∃ m', m' < m ∧ W (i + 1) m' H') ∧ ∀ x H', (Itt K a').yld i H x H' → g x (wipe σ vs) H' fun σ2 H2 => wipe σ2 vs = wipe σ vs ∧ tt σ2 H2 fun b H3 =>
        if b = true then te σ2 H3 fun y H4 => ∃ acc, H4 D = some (.lst acc) ∧ acc.length < sizeLine ∧ Nx (upd H4 D (.lst (acc ++ [y]))) else Nx H3))) := by
  rcases hq with hq | hq
  · exact ⟨a, rfl, .inl ⟨⟨_, s0.seq hq⟩, fun D nD => lc_list (K := K) (a := a) (xs := xs) (Pv D) (h0 D nD) (fun i H' hi p => (hl D i H' nD hi p).seq hq) (fun i x H' hx p => hs D i x H' nD hx p) (fun H' p => hd D H' nD p)⟩⟩
  · exact ⟨a, rfl, .inr ⟨⟨_, s0.seqT hq⟩, fun D nD => lc_tup (K := K) (a := a) (xs := xs) (Pv D) (h0 D nD) (fun i H' hi p => (hl D i H' nD hi p).seqT hq) (fun i x H' hx p => hs D i x H' nD hx p) (fun H' p => hd D H' nD p)⟩⟩
section
variable {P : Program} {w : World} {K : PySem.W.Frag} {mg : Str → Option Value} {base : Heap}
/-! ### a cell of the script -/
def sp_cell (K : PySem.W.Frag) : Sp := fun vs H Q _ => ∃ (a : Addr) (ns : List Int) (k : Nat), vs = [.ref a, nV k] ∧ SqL K H a (ns.map V.int) ∧ ns.length ≤ 63 ∧ k ≤ 1000 ∧ ∀ n H', Same H H' → Q (.int n) H'
theorem cut_ints (ns : List Int) (lo hi : Option Int) : ∃ ms : List Int, cutV (ns.map V.int) lo hi = ms.map V.int := by
  unfold cutV
  rw [← List.map_drop, ← List.map_take]
  exact ⟨_, rfl⟩
theorem ok_cell {f : Addr} {fd : FuncData} (F : Fun K "_law_cell" "_law_cell" s_law_cell f fd) (T : Txt mg) : FnOk P w K mg base CX0 1 f fd ["script", "k"] (sp_cell K) := by
  refine F.ok sc_law_cell (fun vs H Q E h => ?_) (fun cdv A outer s H vs Q E hr h => ?_)
  · obtain ⟨a, ns, k, rfl, _⟩ := h
    rfl
  · obtain ⟨a, ns, k, rfl, hS, hl, hk, q⟩ := h
    refine ⟨_, (pss_cons (ps_if (pt_cmpR op_lt (pv 1) (pe_callB call_len_seq (by rfl) T.len (by decide +kernel) (pa_cons (pv 0) pa_nil)) (nomark _))
 (pss_one (ps_ret (pe_ix ix_list (pv 0) (pv 1) (fun _ _ => rfl))))
 pss_nil)
 (pss_cons (ps_set (i := 2) sc_law_cell.nd rfl (.inl rfl) pe_int)
 (pss_cons (ps_for PassesOwn.never rfl (pi_list (pe_slice sl_list (pv 0) po_none (po_some pe_int))) (pg_name (i := 3) sc_law_cell.nd rfl (.inl rfl))
 (pss_one (ps_set (i := 2) sc_law_cell.nd rfl (.inl rfl) (pe_op op_add (pv 2) (pe_op op_modN (pe_callB call_abs (by rfl) T.abs (by decide +kernel) (pa_cons (pe_callTy call_int1 (by rfl) T.int (by decide +kernel) (pa_cons (pv 3) pa_nil)) pa_nil)) pe_int)))))
 (pss_one (ps_ret (pe_op op_add (pv 2) (pe_op op_mul pe_int (pv 1)))))))), ?_⟩
    refine ⟨_, rfl, _, rfl, a, _, rfl, .inl hS, _, _, rfl, rfl, _, rfl, ite2 (fun hlt => ?_) (fun _ => ?_)⟩
    · have hlt' : k < ns.length := by
        have := of_decide_eq_true hlt
        rw [List.length_map] at this
        omega
      obtain ⟨n, hn⟩ := get_lt hlt'
      exact ⟨_, rfl, _, rfl, a, _, _, _, rfl, rfl, hS, at_n (getn hn), q n H (Same.refl H)⟩
    · refine ⟨_, rfl, 3, rfl, a, _, rfl, hS, fun p np => ?_⟩
      obtain ⟨ms, em⟩ := cut_ints ns none (some 3)
      rw [em]
      refine ⟨p, rfl, ⟨_, SqL.of upd_same⟩, for_list (K := K) (a := p) (xs := ms.map V.int) (fun i σ H' => ∃ (z : Int) (v : Option V), σ = [some (.ref a), some (nV k), some (.int z), v] ∧ Same H H' ∧ H' p = some (.lst (ms.map V.int)))
        ⟨0, none, rfl, (Same.refl H).new np, upd_same⟩ (fun i σ H' _ ⟨_, _, _, _, e⟩ => SqL.of e) ?_ ?_⟩
      · rintro i y σ H' hi ⟨z, v, rfl, sm, e⟩
        obtain ⟨c, _, rfl⟩ := getn_inv hi
        refine ⟨_, rfl, _, rfl, .inl ⟨_, rfl, _, rfl, _, _, rfl, rfl, (by walk_at "nz"), _, _, rfl, rfl, ?_⟩⟩
        exact ⟨_, _, rfl, sm, e⟩
      · rintro σ H' ⟨z, v, rfl, sm, e⟩
        exact ⟨_, rfl, _, rfl, _, _, rfl, rfl, .inl ⟨by decide, by decide⟩, _, _, rfl, rfl, q _ _ sm⟩
/-! ### drawn numbers -/
/-- below the sizes -/
def Drawn (ds zs : List Nat) : Prop := Paired (fun d z => d < z) ds zs
def sp_draws (K : PySem.W.Frag) : Sp := fun vs H Q _ => ∃ (a : Addr) (c : Int) (zs : List Nat), vs = [.int c, .ref a] ∧ SqL K H a (zs.map nV) ∧ zs.length ≤ 1000 ∧ (∀ z ∈ zs, 0 < z ∧ z < 1073741824) ∧
  ∀ p ds H', Same H H' → H p = none → H' p = some (.lst (ds.map nV)) → Drawn ds zs → Q (.ref p) H'
theorem drawn_snoc {ds zs : List Nat} {i d z : Nat} (h : Drawn ds (zs.take i)) (hz : zs[i]? = some z) (hd : d < z) : Drawn (ds ++ [d]) (zs.take (i + 1)) := by
  rw [take_more hz]
  exact P_append h (.cons hd .nil)
theorem fmod_nat (x : Int) {z : Nat} (hz : 0 < z) : ∃ d : Nat, x.fmod (z : Int) = (d : Int) ∧ d < z := by
  have h1 : 0 ≤ x.fmod (z : Int) := Int.fmod_nonneg_of_pos x (by omega)
  have h2 : x.fmod (z : Int) < z := Int.fmod_lt_of_pos x (by omega)
  exact ⟨(x.fmod (z : Int)).toNat, by omega, by omega⟩
theorem ok_draws {f : Addr} {fd : FuncData} (F : Fun K "_law_draws" "_law_draws" s_law_draws f fd) (T : Txt mg) : FnOk P w K mg base CX0 1 f fd ["cell", "sizes"] (sp_draws K) := by
  refine F.ok sc_law_draws (fun vs H Q E h => ?_) (fun cdv A outer s H vs Q E hr h => ?_)
  · obtain ⟨a, c, zs, rfl, _⟩ := h
    rfl
  · obtain ⟨a, c, zs, rfl, hS, hl, hz, q⟩ := h
    refine ⟨_, (pss_cons (ps_set (i := 2) sc_law_draws.nd rfl (.inl rfl) (pe_callB call_abs (by rfl) T.abs (by decide +kernel) (pa_cons (pe_callTy call_int1 (by rfl) T.int (by decide +kernel) (pa_cons (pv 0) pa_nil)) pa_nil)))
 (pss_cons (ps_set (i := 3) sc_law_draws.nd rfl (.inl rfl) (pe_lst pa_nil))
 (pss_cons (ps_if (pt_cmpR op_ge (pv 2) (pe_op op_pow pe_int pe_int) (nomark _))
 (pss_cons (ps_set (i := 4) sc_law_draws.nd rfl (.inl rfl) (pe_op op_sub (pv 2) (pe_op op_pow pe_int pe_int)))
 (pss_cons (ps_for PassesOwn.never rfl (pi_list (pv 1)) (pg_name (i := 5) sc_law_draws.nd rfl (.inl rfl))
 (pss_cons (ps_expr (pe_bm PySem.F.plainAttrs_list PySem.F.slot_list_append PySem.F.type_list_append mt_append (pv 3) (pa_cons (pe_op op_modN (pe_callTy call_int1 (by rfl) T.int (by decide +kernel) (pa_cons (pv 4) pa_nil)) (pv 5)) pa_nil)))
 (pss_one (ps_set (i := 4) sc_law_draws.nd rfl (.inl rfl) (pe_op op_fdivN (pv 4) (pv 5))))))
 (pss_one (ps_ret (pv 3)))))
 pss_nil)
 (pss_cons (ps_for PassesOwn.never rfl (pi_range1 rfl T.range (pa_cons (pe_callB call_len_seq (by rfl) T.len (by decide +kernel) (pa_cons (pv 1) pa_nil)) pa_nil)) (pg_name (i := 6) sc_law_draws.nd rfl (.inl rfl))
 (pss_cons (ps_set (i := 7) sc_law_draws.nd rfl (.inl rfl) (pe_op op_modN (pe_callTy call_int1 (by rfl) T.int (by decide +kernel) (pa_cons (pe_op op_add (pe_op op_add (pv 2) (pe_op op_mul pe_int (pv 6))) pe_int) pa_nil)) pe_int))
 (pss_cons (ps_set (i := 7) sc_law_draws.nd rfl (.inl rfl) (pe_op op_modN (pe_callTy call_int1 (by rfl) T.int (by decide +kernel) (pa_cons (pe_op op_mul (pv 7) (pe_op op_add (pv 7) pe_int)) pa_nil)) pe_int))
 (pss_cons (ps_set (i := 7) sc_law_draws.nd rfl (.inl rfl) (pe_op op_modN (pe_callTy call_int1 (by rfl) T.int (by decide +kernel) (pa_cons (pe_op op_add (pe_op op_mul (pv 7) (pe_op op_add (pv 7) pe_int)) (pe_op op_mul pe_int (pv 6))) pa_nil)) pe_int))
 (pss_one (ps_expr (pe_bm PySem.F.plainAttrs_list PySem.F.slot_list_append PySem.F.type_list_append mt_append (pv 3) (pa_cons (pe_op op_modN (pe_callTy call_int1 (by rfl) T.int (by decide +kernel) (pa_cons (pe_op op_fdivN (pv 7) pe_int) pa_nil)) (pe_ix ix_list (pv 1) (pv 6) (fun _ _ => rfl))) pa_nil))))))))
 (pss_one (ps_ret (pv 3))))))), ?_⟩
    -- whole = abs(int(cell)); found = []
    refine ⟨_, rfl, .inl ⟨_, rfl, _, rfl, ?_⟩⟩
    refine ⟨Nat.zero_le _, fun p np => ?_⟩
    have s0 : Same H (upd H p (.lst [])) := (Same.refl H).new np
    -- if whole >= 10 ** 18
    refine ⟨_, rfl, _, _, rfl, rfl, ⟨by decide, by decide, by decide⟩, _, _, rfl, rfl, _, rfl, ite2 (fun _ => ?_) (fun hsm => ?_)⟩
    · refine ⟨_, rfl, _, _, rfl, rfl, ⟨by decide, by decide, by decide⟩, _, _, rfl, rfl, ?_⟩
      refine ⟨_, rfl, a, rfl, ⟨_, s0.seq hS⟩, for_list (K := K) (a := a) (xs := zs.map nV) (fun i σ H' => ∃ (w n : Int) (ds : List Nat) (v5 v6 v7 : Option V), σ = [some (.int c), some (.ref a), some (.int w), some (.ref p), some (.int n), v5, v6, v7] ∧ Same H H' ∧ H' p = some (.lst (ds.map nV)) ∧ Drawn ds (zs.take i))
        ⟨_, _, [], none, none, none, rfl, s0, upd_same, .nil⟩ (fun i σ H' _ ⟨_, _, _, _, _, _, _, sm, _⟩ => sm.seq hS) ?_ ?_⟩
      · rintro i y σ H' hi ⟨w', n, ds, v5, v6, v7, rfl, sm, e, dr⟩
        obtain ⟨z, hzi, rfl⟩ := getn_inv hi
        obtain ⟨hz0, hz1⟩ := hz z (List.mem_of_getElem? hzi)
        obtain ⟨d, ed, hd⟩ := fmod_nat n hz0
        refine ⟨_, rfl, .inl ⟨rfl, _, SqL.of e⟩, _, rfl, .inl ⟨_, rfl, _, rfl, _, _, rfl, rfl, (by walk_at "nz"), p, _, _, rfl, rfl, e, ?_, ?_⟩⟩
        · rw [List.length_map, P_len dr]
          exact szl (Nat.le_trans (List.length_take_le' _ _) (by omega))
        · refine ⟨_, rfl, _, rfl, _, _, rfl, rfl, ⟨by omega, by omega⟩, ?_⟩
          refine ⟨_, _, ds ++ [d], _, _, _, rfl, sm.mut np, ?_, drawn_snoc dr hzi hd⟩
          dsimp only
          rw [upd_same, ed, List.map_append]
          rfl
      · rintro σ H' ⟨w', n, ds, v5, v6, v7, rfl, sm, e, dr⟩
        rw [List.length_map, List.take_length] at dr
        exact ⟨_, rfl, q p ds H' sm np e dr⟩
    · -- the mixing
      have hwb : ∃ w : Nat, (if c < 0 then -c else c) = (w : Int) ∧ w < 10 ^ 18 := by
        have h1 : ¬ ((10 : Int) ^ (18 : Int).toNat ≤ if c < 0 then -c else c) := fun z => hsm (decide_eq_true z)
        have e18 : (10 : Int) ^ (18 : Int).toNat = 1000000000000000000 := by decide
        rw [e18] at h1
        refine ⟨(if c < 0 then -c else c).toNat, ?_, ?_⟩ <;> split at h1 <;> split <;> omega
      obtain ⟨wn, ew, hw⟩ := hwb
      rw [ew]
      refine ⟨_, rfl, a, _, rfl, .inl (s0.seq hS), _, rfl, (by omega), (by rw [List.length_map]; omega), ?_⟩
      have el : (((zs.map nV).length : Nat) : Int).toNat = zs.length := by rw [List.length_map]; omega
      rw [el]
      refine for_range (lo := 0) (n := zs.length) (fun i σ H' => ∃ (ds : List Nat) (v4 v5 v6 v7 : Option V), σ = [some (.int c), some (.ref a), some (nV wn), some (.ref p), v4, v5, v6, v7] ∧ Same H H' ∧ H' p = some (.lst (ds.map nV)) ∧ Drawn ds (zs.take i))
        ⟨[], none, none, none, none, rfl, s0, upd_same, .nil⟩ ?_ ?_
      · rintro i σ H' hi ⟨ds, v4, v5, v6, v7, rfl, sm, e, dr⟩
        obtain ⟨z, hzi⟩ := get_lt hi
        obtain ⟨hz0, hz1⟩ := hz z (List.mem_of_getElem? hzi)
        obtain ⟨m1, e1, b1⟩ := fmod_nat ((wn : Int) + 7919 * ((0 : Int) + (i : Int)) + 13) (z := 2147483647) (by decide)
        obtain ⟨m2, e2, b2⟩ := fmod_nat ((m1 : Int) * ((m1 : Int) + 48271)) (z := 2147483629) (by decide)
        obtain ⟨m3, e3, b3⟩ := fmod_nat ((m2 : Int) * ((m2 : Int) + 69621) + 31 * ((0 : Int) + (i : Int))) (z := 2147483647) (by decide)
        obtain ⟨d, ed, hd⟩ := fmod_nat ((m3 : Int).fdiv 9) hz0
        -- mixed = int(whole + 7919 * k + 13) % 2147483647
        refine ⟨_, rfl, _, rfl, _, _, rfl, rfl, .inl ⟨by decide, by decide⟩, _, _, rfl, rfl, _, _, rfl, rfl, .inl ⟨_, rfl, _, _, rfl, rfl, (by walk_at "nz"), ?_⟩⟩
        dsimp only
        rw [show ((2147483647 : Nat) : Int) = 2147483647 by rfl] at e1
        rw [e1]
        -- mixed = int(mixed * (mixed + 48271)) % 2147483629
        refine ⟨_, rfl, _, rfl, _, _, rfl, rfl, _, _, rfl, rfl, .inl ⟨by omega, by omega⟩, .inl ⟨_, rfl, _, _, rfl, rfl, (by walk_at "nz"), ?_⟩⟩
        dsimp only
        rw [show ((2147483629 : Nat) : Int) = 2147483629 by rfl] at e2
        rw [e2]
        refine ⟨_, rfl, _, rfl, _, _, rfl, rfl, _, _, rfl, rfl, .inl ⟨by omega, by omega⟩, _, rfl, _, _, rfl, rfl, .inl ⟨by decide, by decide⟩, _, _, rfl, rfl, .inl ⟨_, rfl, _, _, rfl, rfl, (by walk_at "nz"), ?_⟩⟩
        dsimp only
        rw [show ((2147483647 : Nat) : Int) = 2147483647 by rfl] at e3
        rw [e3]
        -- found.append(int(mixed // 9) % sizes[k])
        refine ⟨_, rfl, .inl ⟨rfl, _, SqL.of e⟩, _, rfl, _, _, rfl, rfl, ⟨by decide, by decide⟩, .inl ⟨_, rfl, _, rfl, _, rfl, a, _, _, nV z, rfl, rfl, sm.seq hS, ?_, _, _, rfl, rfl, (by walk_at "nz"), p, _, _, rfl, rfl, e, ?_, ?_⟩⟩
        · rw [show (0 : Int) + (i : Int) = (i : Int) by omega]
          exact at_n (getn hzi)
        · rw [List.length_map, P_len dr]
          exact szl (Nat.le_trans (List.length_take_le' _ _) (by omega))
        · refine ⟨ds ++ [d], _, _, _, _, rfl, sm.mut np, ?_, drawn_snoc dr hzi hd⟩
          dsimp only
          rw [upd_same, ed, List.map_append]
          rfl
      · rintro σ H' ⟨ds, v4, v5, v6, v7, rfl, sm, e, dr⟩
        rw [List.take_length] at dr
        exact ⟨_, rfl, q p ds H' sm np e dr⟩
/-! ### the minutes of a shift -/
def sp_load (K : PySem.W.Frag) : Sp := fun vs H Q _ => ∃ (a : Addr) (L : List Int) (s : Int), vs = [.ref a, .int s] ∧ Sq K H a (IL L) ∧ s < (L.length : Int) ∧ Q (.int (mins L s)) H
theorem mins_neg {L : List Int} {s : Int} (h : s < 0) : mins L s = 0 := if_pos h
theorem ok_load {f : Addr} {fd : FuncData} (F : Fun K "_load" "_load" s_load f fd) (T : Txt mg) : FnOk P w K mg base CX0 1 f fd ["loads", "shift"] (sp_load K) := by
  refine F.ok sc_load (fun vs H Q E h => ?_) (fun cdv A outer s H vs Q E hr h => ?_)
  · obtain ⟨a, L, s, rfl, _⟩ := h
    rfl
  · obtain ⟨a, L, s, rfl, hS, hl, q⟩ := h
    refine ⟨_, (pss_cons (ps_if (pt_cmpR op_lt (pv 1) pe_int (nomark _))
 (pss_one (ps_ret pe_int))
 pss_nil)
 (pss_one (ps_ret (pe_ix ix_seq (pv 0) (pv 1) (fun _ _ => rfl))))), ?_⟩
    refine ⟨_, rfl, _, _, rfl, rfl, _, rfl, ite2 (fun c => ?_) (fun c => ?_)⟩
    · rw [mins_neg (of_decide_eq_true c)] at q
      exact q
    · exact ⟨_, rfl, _, rfl, ixq hS (at_mins (fun z => c (decide_eq_true z)) hl) q⟩
theorem ok_minutes {f : Addr} {fd : FuncData} (F : Fun K "_law_minutes" "_law_minutes" s_law_minutes f fd) (T : Txt mg) : FnOk P w K mg base CX0 1 f fd ["loads", "shift"] (fun vs H Q E => ∃ (a : Addr) (L : List Int) (s : Int), vs = [.ref a, .int s] ∧ SqL K H a (IL L) ∧ s < (L.length : Int) ∧ Q (.int (mins L s)) H) := by
  refine F.ok sc_law_minutes (fun vs H Q E h => ?_) (fun cdv A outer s H vs Q E hr h => ?_)
  · obtain ⟨a, L, s, rfl, _⟩ := h
    rfl
  · obtain ⟨a, L, s, rfl, hS, hl, q⟩ := h
    refine ⟨_, (pss_cons (ps_if (pt_cmpR op_lt (pv 1) pe_int (nomark _))
 (pss_one (ps_ret pe_int))
 pss_nil)
 (pss_one (ps_ret (pe_ix ix_list (pv 0) (pv 1) (fun _ _ => rfl))))), ?_⟩
    refine ⟨_, rfl, _, _, rfl, rfl, _, rfl, ite2 (fun c => ?_) (fun c => ?_)⟩
    · rw [mins_neg (of_decide_eq_true c)] at q
      exact q
    · exact ⟨_, rfl, _, rfl, ixl hS (at_mins (fun z => c (decide_eq_true z)) hl) q⟩
/-! ### the totals -/
def tots (L : List Int) (W : Rows) (n : Nat) : List Int := (List.range n).map (tot L W)
theorem tots_len (L : List Int) (W : Rows) (n : Nat) : (tots L W n).length = n := by unfold tots; simp
theorem tots_succ (L : List Int) (W : Rows) (n : Nat) : tots L W (n + 1) = tots L W n ++ [tot L W n] := by
  unfold tots
  rw [List.range_succ, List.map_append]
  rfl
theorem IL_snoc (l : List Int) (x : Int) : IL (l ++ [x]) = IL l ++ [V.int x] := by
  unfold IL
  rw [List.map_append]
  rfl
def sp_totals (K : PySem.W.Frag) : Sp := fun vs H Q _ => ∃ (a b : Addr) (L : List Int) (n : Nat) (W : Rows), vs = [.ref a, .ref b] ∧ Sq K H a (IL L) ∧ Wk K H b W ∧ Good L n W ∧ 0 < W.length ∧ W.length ≤ 40 ∧ n ≤ 40 ∧
  ∀ p H', Same H H' → H p = none → H' p = some (.lst (IL (tots L W n))) → Q (.ref p) H'
theorem map_take_succ {α β : Type} (f : α → β) {l : List α} {i : Nat} {x : α} (h : l[i]? = some x) : (l.take (i + 1)).map f = (l.take i).map f ++ [f x] := by
  rw [take_more h, List.map_append]
  rfl
theorem ok_totals {f f1 : Addr} {fd fd1 : FuncData} (F : Fun K "week_totals" "week_totals" sweek_totals f fd) (T : Txt mg) (C_load : Cal P w K mg base 1 "_load" ["loads", "shift"] (sp_load K) f1 fd1) : FnOk P w K mg base CX0 2 f fd ["loads", "week"] (sp_totals K) := by
  refine F.ok scweek_totals (fun vs H Q E h => ?_) (fun cdv A outer s H vs Q E hr h => ?_)
  · obtain ⟨a, b, L, n, W, rfl, _⟩ := h
    rfl
  · obtain ⟨a, b, L, n, W, rfl, hL, ⟨as, hB, hR⟩, gd, h0, hw, hn, q⟩ := h
    have hal : as.length = W.length := P_len hR
    refine ⟨_, (pss_cons (ps_if (pt_cmpR op_eq (pe_callB call_len_seq (by rfl) T.len (by decide +kernel) (pa_cons (pv 1) pa_nil)) pe_int (nomark _))
 (pss_one (ps_ret (pe_lst pa_nil)))
 pss_nil)
 (pss_one (ps_ret (pe_lc (own := [("worker", 2)]) (g := gName 2) (tt := tYes) rfl scweek_totals.nd (pi_range1 rfl T.range (pa_cons (pe_callB call_len_seq (by rfl) T.len (by decide +kernel) (pa_cons (pe_ix ix_seq (pv 1) pe_int (fun _ _ => rfl)) pa_nil)) pa_nil)) (blkOk_by (N := ["loads", "week", "worker", "row"]) (sc := defScope sweek_totals) (by decide +kernel)) (fun _ _ _ _ _ => (pg_name (i := 2) scweek_totals.nd rfl (.inr rfl))) (fun _ _ _ _ _ => pts_nil) (fun _ _ _ _ _ => (pe_callB (r := rSum K) (cr_sum rfl) (by rfl) T.sum (by decide +kernel) (pa_cons (by exact (pe_lc (own := [("row", 3)]) (wi := iSeq K _) (g := gName 3) (tt := tYes) rfl scweek_totals.nd (pi_seq (pv 1)) (blkOk_by (N := ["loads", "week", "worker", "row"]) (by rfl)) (fun _ _ _ _ _ => (pg_name (i := 3) scweek_totals.nd rfl (.inl rfl))) (fun _ _ _ _ _ => pts_nil) (fun _ _ _ _ _ => (pe_call C_load.ok (hr.mono (by decide)) (by rfl) C_load.mg C_load.kp C_load.b .nil pass0 (pa_cons (pv 0) (pa_cons (pe_ix (r := rIx K) ix_seq (pv 3) (pv 2) (fun _ _ => rfl)) pa_nil)))))) pa_nil))))))), ?_⟩
    refine ⟨_, rfl, b, _, rfl, hB, rfl, _, rfl, ?_⟩
    rw [decide_eq_false (show ¬ V.int ((as.map V.ref).length : Int) = V.int 0 from fun z => by
      have := V.int.inj z
      rw [List.length_map] at this
      omega)]
    refine iteF ?_
    obtain ⟨x0, hx0, hr0⟩ := P_left hR (row_get h0)
    have hl0 : (row W 0).length = n := gd.len _ (row_mem h0)
    refine ⟨_, rfl, ixq (v := .ref x0) hB (at_n (j := 0) (getn hx0)) ⟨x0, _, rfl, hr0, _, rfl, (by omega), (by rw [List.length_map, hl0]; omega), ?_⟩⟩
    have el : (((IL (row W 0)).length : Nat) : Int).toNat = n := by rw [List.length_map, hl0]; omega
    rw [el]
    refine fun D nD => ?_
    refine lc_range (lo := 0) (n := n) (fun k H' => Same H H' ∧ H' D = some (.lst (IL (tots L W k)))) ⟨(Same.refl H).new nD, upd_same⟩ ?_ ?_
    · rintro k H1 hk ⟨s1, eD⟩
      rw [show (0 : Int) + (k : Int) = (k : Int) by omega]
      refine ⟨rfl, _, rfl, ?_⟩
      refine lc_seq (xs := as.map V.ref) hB s1 (fun D' i H' => Same H1 H' ∧ H' D' = some (.lst (IL ((W.take i).map fun r => mins L (at_ r k))))) (fun D' n' => ⟨(Same.refl H1).new n', upd_same⟩) (fun D' i H' n' _ ⟨s2, _⟩ => s1.trans s2) ?_ ?_
      · rintro D' i y H2 n' hi ⟨s2, eD'⟩
        obtain ⟨x, hx, rfl⟩ := getn_inv hi
        obtain ⟨r, hr1, hr2⟩ := P_right hR hx
        have hrm := List.mem_of_getElem? hr1
        have hrl := gd.len r hrm
        have hkl : k < r.length := by omega
        refine ⟨rfl, _, rfl, _, rfl, _, rfl, ixq ((s1.trans s2).sq hr2) (at_z hkl rfl) ?_⟩
        refine ⟨a, L, at_ r k, rfl, (s1.trans s2).sq hL, (gd.ent r hrm _ (at_mem hkl)).2, _, eD', ?_, s2.mut n', ?_⟩
        · rw [List.length_map, List.length_map]
          exact szl (Nat.le_trans (List.length_take_le' _ _) (by omega))
        · rw [upd_same, map_take_succ _ hr1, IL_snoc]
      · rintro D' H2 n' ⟨s2, eD'⟩
        rw [List.length_map, hal, List.take_length] at eD'
        refine ⟨D', _, rfl, SqL.of eD', _, s2 _ _ eD, ?_, (s1.trans s2).mut nD, ?_⟩
        · rw [List.length_map, tots_len]
          exact szl (by omega)
        · rw [upd_same, tots_succ, IL_snoc]
          rfl
    · rintro H1 ⟨s1, eD⟩
      exact q D H1 s1 nD eD
end
end K29W

namespace K29W
open PySem PySem.Spec PyProof.Rows L2 KH K29
abbrev s_first_swap : Stmt := topS 14
theorem sc_first_swap : FnScope ["loads", "week", "totals", "day", "minutes", "one", "two", "more", "shift"] ["loads", "week"] (defScope s_first_swap) := ⟨rfl, rfl, rfl, by decide +kernel, rfl, by decide +kernel, by decide +kernel⟩

abbrev sis_settled : Stmt := topS 16
theorem scis_settled : FnScope ["loads", "week"] ["loads", "week"] (defScope sis_settled) := ⟨rfl, rfl, rfl, by decide +kernel, rfl, by decide +kernel, by decide +kernel⟩

abbrev s_law_first_swap : Stmt := topS 23
theorem sc_law_first_swap : FnScope ["loads", "week", "workers", "totals", "morning", "minutes", "one", "two", "gain", "before", "after", "shift"] ["loads", "week", "workers"] (defScope s_law_first_swap) := ⟨rfl, rfl, rfl, by decide +kernel, rfl, by decide +kernel, by decide +kernel⟩

/-! ### the search -/
def Clean (L : List Int) (n : Nat) (W : Rows) (d i j : Nat) : Prop := ∀ d' i' j', Bef d' i' j' d i j → i' < j' → j' < n → ¬ Gain L W d' i' j'
theorem clean0 {L : List Int} {n : Nat} {W : Rows} : Clean L n W 0 0 0 := fun d' i' j' b => by unfold Bef at b; omega
theorem clean_row {L : List Int} {n : Nat} {W : Rows} {d i : Nat} (c : Clean L n W d i 0) : Clean L n W d i (i + 1) := fun d' i' j' b h1 h2 => c d' i' j' (by unfold Bef at *; omega) h1 h2
theorem clean_step {L : List Int} {n : Nat} {W : Rows} {d i j : Nat} (c : Clean L n W d i j) (h : ¬ Gain L W d i j) : Clean L n W d i (j + 1) := fun d' i' j' b h1 h2 => by
  by_cases e : d' = d ∧ i' = i ∧ j' = j
  · obtain ⟨rfl, rfl, rfl⟩ := e
    exact h
  · exact c d' i' j' (by unfold Bef at *; omega) h1 h2
theorem clean_one {L : List Int} {n : Nat} {W : Rows} {d i j : Nat} (c : Clean L n W d i j) (h : n ≤ j) : Clean L n W d (i + 1) 0 := fun d' i' j' b h1 h2 => c d' i' j' (by unfold Bef at *; omega) h1 h2
theorem clean_day {L : List Int} {n : Nat} {W : Rows} {d i j : Nat} (c : Clean L n W d i j) (h : n ≤ i) : Clean L n W (d + 1) 0 0 := fun d' i' j' b h1 h2 => c d' i' j' (by unfold Bef at *; omega) h1 h2
theorem clean_end {L : List Int} {n : Nat} {W : Rows} (c : Clean L n W W.length 0 0) : NoG L n W := fun d i j h1 h2 h3 => c d i j (.inl h1) h2 h3
/-- what the search gives -/
def Told (L : List Int) (n : Nat) (W : Rows) (H : Hp) (Q : VK) : Prop :=
  (NoG L n W → ∀ H', Same H H' → Q .non H') ∧ ∀ d i j, First L n W d i j → ∀ t H', Same H H' → H t = none → H' t = some (.tup [nV d, nV i, nV j]) → Q (.ref t) H'
def sp_first (K : PySem.W.Frag) : Sp := fun vs H Q _ => ∃ (a b : Addr) (L : List Int) (n : Nat) (W : Rows), vs = [.ref a, .ref b] ∧ Sq K H a (IL L) ∧ Wk K H b W ∧ Good L n W ∧ Loads L ∧ 0 < W.length ∧ W.length ≤ 40 ∧ n ≤ 40 ∧ Told L n W H Q
section
variable {P : Program} {w : World} {K : PySem.W.Frag} {mg : Str → Option Value} {base : Heap}
theorem rows_mins (L : List Int) (r : List Int) (k : Nat) (h : k < r.length) : (r.map (mins L))[k]? = some (mins L (at_ r k)) := by
  rw [List.getElem?_map, at_get h]
  rfl
theorem tots_at (L : List Int) (W : Rows) {n k : Nat} (h : k < n) : (tots L W n)[k]? = some (tot L W k) := by
  unfold tots
  rw [List.getElem?_map, List.getElem?_range h]
  rfl
theorem at_tots (L : List Int) (W : Rows) {n k : Nat} {i : Int} (h : k < n) (e : i = (k : Int)) : atI (IL (tots L W n)) i = some (V.int (tot L W k)) := by
  subst e
  exact at_n (getn (tots_at L W h))
theorem at_minsr (L : List Int) (r : List Int) {k : Nat} {i : Int} (h : k < r.length) (e : i = (k : Int)) : atI (IL (r.map (mins L))) i = some (V.int (mins L (at_ r k))) := by
  subst e
  exact at_n (getn (rows_mins L r k h))
theorem ok_first {f f1 f2 : Addr} {fd fd1 fd2 : FuncData} (F : Fun K "_first_swap" "_first_swap" s_first_swap f fd) (T : Txt mg) (C_load : Cal P w K mg base 1 "_load" ["loads", "shift"] (sp_load K) f1 fd1) (Cweek_totals : Cal P w K mg base 2 "week_totals" ["loads", "week"] (sp_totals K) f2 fd2) : FnOk P w K mg base CX0 3 f fd ["loads", "week"] (sp_first K) := by
  refine F.ok sc_first_swap (fun vs H Q E h => ?_) (fun cdv A outer s H vs Q E hr h => ?_)
  · obtain ⟨a, b, L, n, W, rfl, _⟩ := h
    rfl
  · obtain ⟨a, b, L, n, W, rfl, hL, hWk, gd, ld, h0, hw, hn, q0, q1⟩ := h
    refine ⟨_, (pss_cons (ps_set (i := 2) sc_first_swap.nd rfl (.inl rfl) (pe_call Cweek_totals.ok (hr.mono (by decide)) (by rfl) Cweek_totals.mg Cweek_totals.kp Cweek_totals.b .nil pass0 (pa_cons (pv 0) (pa_cons (pv 1) pa_nil))))
 (pss_cons (ps_for PassesOwn.never rfl (pi_range1 rfl T.range (pa_cons (pe_callB call_len_seq (by rfl) T.len (by decide +kernel) (pa_cons (pv 1) pa_nil)) pa_nil)) (pg_name (i := 3) sc_first_swap.nd rfl (.inl rfl))
 (pss_cons (ps_setLc (i := 4) (own := [("shift", 8)]) (g := gName 8) (tt := tYes) rfl sc_first_swap.nd rfl rfl (sw_true rfl rfl rfl (by decide +kernel)) (pi_seq (pe_ix ix_seq (pv 1) (pv 3) (fun _ _ => rfl))) (blkOk_by (N := ["loads", "week", "totals", "day", "minutes", "one", "two", "more", "shift"]) (sc := defScope s_first_swap) (by decide +kernel)) (fun _ _ _ _ _ => (pg_name (i := 8) sc_first_swap.nd rfl (.inl rfl))) (fun _ _ _ _ _ => pts_nil) (fun _ _ _ _ _ => (pe_call C_load.ok (hr.mono (by decide)) (by rfl) C_load.mg C_load.kp C_load.b .nil pass0 (pa_cons (pv 0) (pa_cons (pv 8) pa_nil)))))
 (pss_one (ps_for PassesOwn.never rfl (pi_range1 rfl T.range (pa_cons (pe_callB call_len_seq (by rfl) T.len (by decide +kernel) (pa_cons (pv 2) pa_nil)) pa_nil)) (pg_name (i := 5) sc_first_swap.nd rfl (.inl rfl))
 (pss_one (ps_for PassesOwn.never rfl (pi_range2 rfl T.range (pa_cons (pe_op op_add (pv 5) pe_int) (pa_cons (pe_callB call_len_seq (by rfl) T.len (by decide +kernel) (pa_cons (pv 2) pa_nil)) pa_nil))) (pg_name (i := 6) sc_first_swap.nd rfl (.inl rfl))
 (pss_cons (ps_set (i := 7) sc_first_swap.nd rfl (.inl rfl) (pe_op op_sub (pe_ix ix_list (pv 4) (pv 6) (fun _ _ => rfl)) (pe_ix ix_list (pv 4) (pv 5) (fun _ _ => rfl))))
 (pss_one (ps_if (pt_cmpR op_lt (pe_op op_mul (pv 7) (pe_op op_add (pe_op op_sub (pe_ix ix_list (pv 2) (pv 5) (fun _ _ => rfl)) (pe_ix ix_list (pv 2) (pv 6) (fun _ _ => rfl))) (pv 7))) pe_int (nomark _))
 (pss_one (ps_ret (pe_tup (pa_cons (pv 3) (pa_cons (pv 5) (pa_cons (pv 6) pa_nil))))))
 pss_nil)))))))))
 (pss_one (ps_ret pe_non)))), ?_⟩
    refine ⟨_, rfl, _, rfl, a, b, L, n, W, rfl, hL, hWk, gd, h0, hw, hn, fun p H1 s1 np ep => ?_⟩
    obtain ⟨as, hB, hR⟩ := hWk
    have hal : as.length = W.length := P_len hR
    refine ⟨_, rfl, b, _, rfl, s1.sq hB, _, rfl, (by omega), (by rw [List.length_map, hal]; omega), ?_⟩
    rw [show (((as.map V.ref).length : Nat) : Int).toNat = W.length by rw [List.length_map, hal]; omega]
    refine for_range (lo := 0) (n := W.length) (fun d σ H' => ∃ v3 v4 v5 v6 v7 : Option V, σ = [some (.ref a), some (.ref b), some (.ref p), v3, v4, v5, v6, v7, none] ∧ Same H1 H' ∧ Clean L n W d 0 0) ⟨_, _, _, _, _, rfl, Same.refl _, clean0⟩ ?_ ?_
    · rintro d σ H2 hd ⟨v3, v4, v5, v6, v7, rfl, s2, cl⟩
      rw [show (0 : Int) + (d : Int) = (d : Int) by omega]
      obtain ⟨x, hx, hxr⟩ := P_left hR (row_get hd)
      have hrm := row_mem hd
      have hrl : (row W d).length = n := gd.len _ hrm
      have t2 : Same H H2 := s1.trans s2
      refine ⟨_, rfl, _, rfl, ixq (v := .ref x) (t2.sq hB) (at_n (getn hx)) ?_⟩
      refine lc_seq (xs := IL (row W d)) hxr t2 (fun D i H' => Same H2 H' ∧ H' D = some (.lst (IL (((row W d).take i).map (mins L))))) (fun D nD => ⟨(Same.refl H2).new nD, upd_same⟩) (fun D i H' nD _ ⟨s3, _⟩ => t2.trans s3) ?_ ?_
      · rintro D i y H3 nD hi ⟨s3, eD⟩
        obtain ⟨z, hz, rfl⟩ := getn_inv hi
        have hzm := List.mem_of_getElem? hz
        refine ⟨rfl, _, rfl, _, rfl, a, L, z, rfl, (t2.trans s3).sq hL, (gd.ent _ hrm z hzm).2, _, eD, ?_, s3.mut nD, ?_⟩
        · rw [List.length_map, List.length_map]
          exact szl (Nat.le_trans (List.length_take_le' _ _) (by omega))
        · rw [upd_same, map_take_succ _ hz, IL_snoc]
      rintro D H3 nD ⟨s3, eD⟩
      rw [List.length_map, List.take_length] at eD
      have t3 : Same H1 H3 := s2.trans s3
      have ep3 := t3 _ _ ep
      refine ⟨_, rfl, p, _, rfl, .inl (SqL.of ep3), _, rfl, (by omega), (by rw [List.length_map, tots_len]; omega), ?_⟩
      rw [show (((IL (tots L W n)).length : Nat) : Int).toNat = n by rw [List.length_map, tots_len]; omega]
      refine for_range (lo := 0) (n := n) (fun i σ H' => ∃ v5 v6 v7 : Option V, σ = [some (.ref a), some (.ref b), some (.ref p), some (nV d), some (.ref D), v5, v6, v7, none] ∧ Same H3 H' ∧ Clean L n W d i 0) ⟨_, _, _, rfl, Same.refl _, cl⟩ ?_ ?_
      · rintro i σ H4 hi ⟨v5, v6, v7, rfl, s4, cl⟩
        rw [show (0 : Int) + (i : Int) = (i : Int) by omega]
        have ep4 := s4 _ _ ep3
        refine ⟨_, rfl, _, _, rfl, rfl, _, rfl, p, _, rfl, .inl (SqL.of ep4), _, _, rfl, ⟨by omega, by omega, by omega, by rw [List.length_map, tots_len]; omega⟩, ?_⟩
        rw [show (((IL (tots L W n)).length : Nat) : Int) - ((i : Int) + 1) = ((n - (i + 1) : Nat) : Int) by rw [List.length_map, tots_len]; omega]
        rw [show ((n - (i + 1) : Nat) : Int).toNat = n - (i + 1) by omega]
        refine for_range (lo := (i : Int) + 1) (n := n - (i + 1)) (fun k σ H' => ∃ v6 v7 : Option V, σ = [some (.ref a), some (.ref b), some (.ref p), some (nV d), some (.ref D), some (nV i), v6, v7, none] ∧ Same H3 H' ∧ Clean L n W d i (i + 1 + k)) ⟨_, _, rfl, s4, clean_row cl⟩ ?_ ?_
        · rintro k σ H5 hk ⟨v6, v7, rfl, s5, cl⟩
          rw [show (i : Int) + 1 + (k : Int) = ((i + 1 + k : Nat) : Int) by omega]
          have hj : i + 1 + k < n := by omega
          have eD5 := s5 _ _ eD
          have ep5 := s5 _ _ ep3
          generalize hjj : i + 1 + k = j at hj cl ⊢
          refine ⟨_, rfl, _, rfl, ixl (SqL.of eD5) (at_minsr L _ (by omega) rfl) ⟨_, rfl, _, rfl, ixl (SqL.of eD5) (at_minsr L _ (by omega) rfl) ⟨_, _, rfl, rfl, ?_⟩⟩⟩
          have mb : -600 ≤ mins L (at_ (row W d) j) - mins L (at_ (row W d) i) ∧ mins L (at_ (row W d) j) - mins L (at_ (row W d) i) ≤ 600 := more_le ld W d i j
          refine ⟨_, rfl, _, rfl, _, rfl, ixl (SqL.of ep5) (at_tots L W hi rfl) ⟨_, rfl, _, rfl, ixl (SqL.of ep5) (at_tots L W hj rfl) ⟨_, _, rfl, rfl, _, rfl, _, _, rfl, rfl, _, _, rfl, rfl, .inl ⟨by omega, by omega⟩, _, _, rfl, rfl, _, rfl, ite2 (fun c => ?_) (fun c => ?_)⟩⟩⟩
          · refine ⟨_, rfl, _, rfl, _, rfl, (by show 3 ≤ sizeLine; decide), fun t nt => ?_⟩
            have t5 : Same H H5 := s1.trans (t3.trans s5)
            exact q1 d i j ⟨hd, by omega, hj, of_decide_eq_true c, cl⟩ t _ (t5.new nt) (t5.free nt) upd_same
          · exact ⟨_, _, rfl, s5, by
              have := clean_step cl (fun g => c (decide_eq_true g))
              rw [← hjj] at this
              exact this⟩
        · rintro σ H5 ⟨v6, v7, rfl, s5, cl⟩
          exact ⟨_, _, _, rfl, s5, clean_one cl (by omega)⟩
      · rintro σ H4 ⟨v5, v6, v7, rfl, s4, cl⟩
        exact ⟨_, _, _, _, _, rfl, t3.trans s4, clean_day cl (Nat.le_refl _)⟩
    · rintro σ H2 ⟨v3, v4, v5, v6, v7, rfl, s2, cl⟩
      exact q0 (clean_end cl) H2 (s1.trans s2)
/-- is it settled? -/
def ToldB (L : List Int) (n : Nat) (W : Rows) (H : Hp) (Q : VK) : Prop := (NoG L n W → ∀ H', Same H H' → Q (.bl true) H') ∧ (¬ NoG L n W → ∀ H', Same H H' → Q (.bl false) H')
def sp_settled (K : PySem.W.Frag) : Sp := fun vs H Q _ => ∃ (a b : Addr) (L : List Int) (n : Nat) (W : Rows), vs = [.ref a, .ref b] ∧ Sq K H a (IL L) ∧ Wk K H b W ∧ Good L n W ∧ Loads L ∧ 0 < W.length ∧ W.length ≤ 40 ∧ n ≤ 40 ∧ ToldB L n W H Q
theorem ok_settled {f f1 : Addr} {fd fd1 : FuncData} (F : Fun K "is_settled" "is_settled" sis_settled f fd) (T : Txt mg) (C_first_swap : Cal P w K mg base 3 "_first_swap" ["loads", "week"] (sp_first K) f1 fd1) : FnOk P w K mg base CX0 4 f fd ["loads", "week"] (sp_settled K) := by
  refine F.ok scis_settled (fun vs H Q E h => ?_) (fun cdv A outer s H vs Q E hr h => ?_)
  · obtain ⟨a, b, L, n, W, rfl, _⟩ := h
    rfl
  · obtain ⟨a, b, L, n, W, rfl, hL, hWk, gd, ld, h0, hw, hn, q0, q1⟩ := h
    refine ⟨_, (pss_one (ps_ret (pe_cmpR op_isN (pe_call C_first_swap.ok (hr.mono (by decide)) (by rfl) C_first_swap.mg C_first_swap.kp C_first_swap.b .nil pass0 (pa_cons (pv 0) (pa_cons (pv 1) pa_nil))) pe_non (nomark _)))), ?_⟩
    refine ⟨_, rfl, _, rfl, a, b, L, n, W, rfl, hL, hWk, gd, ld, h0, hw, hn, fun no H' s1 => ⟨rfl, q0 no H' s1⟩, fun d i j f t H' s1 nt et => ⟨rfl, q1 (fun no => f.no no) H' s1⟩⟩
/-! ### the law's totals -/
def part (L : List Int) (W : Rows) (i k n : Nat) : List Int := (List.range n).map fun j => if j < k then tot L (W.take (i + 1)) j else tot L (W.take i) j
theorem part_len (L : List Int) (W : Rows) (i k n : Nat) : (part L W i k n).length = n := by unfold part; simp
theorem part_zero (L : List Int) (W : Rows) (i n : Nat) : part L W i 0 n = tots L (W.take i) n := by
  unfold part tots
  refine List.map_congr_left (fun j _ => ?_)
  rw [if_neg (Nat.not_lt_zero j)]
theorem part_end (L : List Int) (W : Rows) (i n : Nat) : part L W i n n = tots L (W.take (i + 1)) n := by
  unfold part tots
  refine List.map_congr_left (fun j hj => ?_)
  rw [if_pos (List.mem_range.mp hj)]
theorem part_at (L : List Int) (W : Rows) {i k n : Nat} (h : k < n) : (part L W i k n)[k]? = some (tot L (W.take i) k) := by
  unfold part
  rw [List.getElem?_map, List.getElem?_range h]
  show some (if k < k then _ else _) = _
  rw [if_neg (Nat.lt_irrefl k)]
theorem tot_take (L : List Int) {W : Rows} {i k : Nat} {r : List Int} (h : W[i]? = some r) : tot L (W.take (i + 1)) k = tot L (W.take i) k + mins L (at_ r k) := by
  unfold tot
  rw [map_take_succ _ h, List.sum_append]
  simp
theorem part_set (L : List Int) (W : Rows) {i k n : Nat} (h : k < n) : (part L W i k n).set k (tot L (W.take (i + 1)) k) = part L W i (k + 1) n := by
  apply List.ext_getElem?
  intro j
  rw [List.getElem?_set]
  unfold part
  by_cases e : k = j
  · subst e
    rw [if_pos rfl, List.length_map, List.length_range, if_pos h, List.getElem?_map, List.getElem?_range h]
    show _ = some (if k < k + 1 then _ else _)
    rw [if_pos (Nat.lt_succ_self k)]
  · rw [if_neg e, List.getElem?_map, List.getElem?_map]
    cases q : (List.range n)[j]? with
    | none => rfl
    | some y =>
      have ey : y = j := by
        obtain ⟨_, q⟩ := List.getElem?_eq_some_iff.mp q
        simpa using q.symm
      subst ey
      show some (if y < k then _ else _) = some (if y < k + 1 then _ else _)
      by_cases c : y < k
      · rw [if_pos c, if_pos (by omega)]
      · rw [if_neg c, if_neg (by omega)]
theorem tots_nil (L : List Int) (n : Nat) : tots L [] n = List.replicate n 0 := by
  unfold tots
  refine List.eq_replicate_iff.mpr ⟨by simp, fun b hb => ?_⟩
  obtain ⟨k, _, rfl⟩ := List.mem_map.mp hb
  rfl
theorem ixN_nat {n k : Nat} (h : k < n) : ixN n (k : Int) = some k := by
  unfold ixN
  rw [if_pos (by omega), if_pos (by omega)]
  rfl
theorem set_IL (l : List Int) (k : Nat) (x : Int) : (IL l).set k (V.int x) = IL (l.set k x) := by
  unfold IL
  rw [List.map_set]
def sp_ltotals (K : PySem.W.Frag) : Sp := fun vs H Q _ => ∃ (a b : Addr) (L : List Int) (n : Nat) (W : Rows), vs = [.ref a, .ref b, nV n] ∧ SqL K H a (IL L) ∧ WkL K H b W ∧ Good L n W ∧ W.length ≤ 40 ∧ n ≤ 40 ∧
  ∀ p H', Same H H' → H p = none → H' p = some (.lst (IL (tots L W n))) → Q (.ref p) H'
abbrev sp_minutes (K : PySem.W.Frag) : Sp := fun vs H Q E => ∃ (a : Addr) (L : List Int) (s : Int), vs = [.ref a, .int s] ∧ SqL K H a (IL L) ∧ s < (L.length : Int) ∧ Q (.int (mins L s)) H
theorem ok_ltotals {f f1 : Addr} {fd fd1 : FuncData} (F : Fun K "_law_totals" "_law_totals" s_law_totals f fd) (T : Txt mg) (C_law_minutes : Cal P w K mg base 1 "_law_minutes" ["loads", "shift"] (sp_minutes K) f1 fd1) : FnOk P w K mg base CX0 2 f fd ["loads", "week", "workers"] (sp_ltotals K) := by
  refine F.ok sc_law_totals (fun vs H Q E h => ?_) (fun cdv A outer s H vs Q E hr h => ?_)
  · obtain ⟨a, b, L, n, W, rfl, _⟩ := h
    rfl
  · obtain ⟨a, b, L, n, W, rfl, hL, ⟨as, hB, hR⟩, gd, hw, hn, q⟩ := h
    have hal : as.length = W.length := P_len hR
    refine ⟨_, (pss_cons (ps_setLc (i := 3) (own := [("k", 5)]) (g := gName 5) (tt := tYes) rfl sc_law_totals.nd rfl rfl (sw_true rfl rfl rfl (by decide +kernel)) (pi_range1 rfl T.range (pa_cons (pv 2) pa_nil)) (blkOk_by (N := ["loads", "week", "workers", "totals", "row", "k"]) (sc := defScope s_law_totals) (by decide +kernel)) (fun _ _ _ _ _ => (pg_name (i := 5) sc_law_totals.nd rfl (.inl rfl))) (fun _ _ _ _ _ => pts_nil) (fun _ _ _ _ _ => pe_int))
 (pss_cons (ps_for PassesOwn.never rfl (pi_list (pv 1)) (pg_name (i := 4) sc_law_totals.nd rfl (.inl rfl))
 (pss_one (ps_for PassesOwn.never rfl (pi_range1 rfl T.range (pa_cons (pv 2) pa_nil)) (pg_name (i := 5) sc_law_totals.nd rfl (.inl rfl))
 (pss_one (ps_asg (pe_op op_add (pe_ix ix_list (pv 3) (pv 5) (fun _ _ => rfl)) (pe_call C_law_minutes.ok (hr.mono (by decide)) (by rfl) C_law_minutes.mg C_law_minutes.kp C_law_minutes.b .nil pass0 (pa_cons (pv 0) (pa_cons (pe_ix ix_list (pv 4) (pv 5) (fun _ _ => rfl)) pa_nil)))) (pg_sub (pv 3) (pv 5) set_list))))))
 (pss_one (ps_ret (pv 3))))), ?_⟩
    refine ⟨_, rfl, _, rfl, (by omega), (by omega), ?_⟩
    rw [show ((n : Nat) : Int).toNat = n by omega]
    refine fun D nD => ?_
    refine lc_range (lo := 0) (n := n) (fun k H' => Same H H' ∧ H' D = some (.lst (IL (List.replicate k 0)))) ⟨(Same.refl H).new nD, upd_same⟩ ?_ ?_
    · rintro k H1 hk ⟨s1, eD⟩
      refine ⟨rfl, _, eD, ?_, s1.mut nD, ?_⟩
      · rw [List.length_map, List.length_replicate]
        exact szl (by omega)
      · rw [upd_same, List.replicate_succ', IL_snoc]
    rintro H1 ⟨s1, eD⟩
    refine ⟨_, rfl, b, rfl, ⟨_, s1.seq hB⟩, for_list (K := K) (a := b) (xs := as.map V.ref) (fun i σ H' => ∃ v4 v5 : Option V, σ = [some (.ref a), some (.ref b), some (nV n), some (.ref D), v4, v5] ∧ Same H H' ∧ H' D = some (.lst (IL (tots L (W.take i) n))))
      ⟨_, _, rfl, s1, ?_⟩ (fun i σ H' _ ⟨_, _, _, s2, _⟩ => s2.seq hB) ?_ ?_⟩
    · rw [List.take_zero, tots_nil]
      exact eD
    · rintro i y σ H2 hi ⟨v4, v5, rfl, s2, e2⟩
      obtain ⟨x, hx, rfl⟩ := getn_inv hi
      obtain ⟨r, hr1, hr2⟩ := P_right hR hx
      have hrm := List.mem_of_getElem? hr1
      have hrl := gd.len r hrm
      refine ⟨_, rfl, _, rfl, (by omega), (by omega), ?_⟩
      rw [show ((n : Nat) : Int).toNat = n by omega]
      refine for_range (lo := 0) (n := n) (fun k σ H' => ∃ v5 : Option V, σ = [some (.ref a), some (.ref b), some (nV n), some (.ref D), some (.ref x), v5] ∧ Same H H' ∧ H' D = some (.lst (IL (part L W i k n)))) ⟨_, rfl, s2, by rw [part_zero]; exact e2⟩ ?_ ?_
      · rintro k σ H3 hk ⟨v5, rfl, s3, e3⟩
        rw [show (0 : Int) + (k : Int) = (k : Int) by omega]
        refine ⟨_, rfl, _, rfl, ixl (SqL.of e3) (at_n (getn (part_at L W hk))) ⟨_, rfl, _, rfl, _, rfl, ixl (s3.seq hr2) (at_z (by omega) rfl) ⟨a, L, at_ r k, rfl, s3.seq hL, (gd.ent r hrm _ (at_mem (by omega))).2, _, _, rfl, rfl, ?_⟩⟩⟩
        refine ⟨_, rfl, _, rfl, D, _, _, k, rfl, rfl, e3, ?_, ?_⟩
        · rw [List.length_map, part_len]
          exact ixN_nat hk
        · refine ⟨_, rfl, s3.mut nD, ?_⟩
          rw [upd_same, ← part_set L W hk, ← set_IL, tot_take L hr1]
      · rintro σ H3 ⟨v5, rfl, s3, e3⟩
        rw [part_end] at e3
        exact ⟨_, _, rfl, s3, e3⟩
    · rintro σ H2 ⟨v4, v5, rfl, s2, e2⟩
      rw [List.length_map, hal, List.take_length] at e2
      exact ⟨_, rfl, q D H2 s2 nD e2⟩
end
end K29W

namespace K29W
open PySem PySem.Spec PyProof.Rows L2 KH K29
abbrev s_law_exchanged : Stmt := topS 24
theorem sc_law_exchanged : FnScope ["week", "morning", "one", "two", "rows", "row"] ["week", "morning", "one", "two"] (defScope s_law_exchanged) := ⟨rfl, rfl, rfl, by decide +kernel, rfl, by decide +kernel, by decide +kernel⟩

abbrev s_law_settled : Stmt := topS 25
theorem sc_law_settled : FnScope ["loads", "week", "workers", "squares", "rows", "step", "swap", "total", "row"] ["loads", "week", "workers"] (defScope s_law_settled) := ⟨rfl, rfl, rfl, by decide +kernel, rfl, by decide +kernel, by decide +kernel⟩

section
variable {P : Program} {w : World} {K : PySem.W.Frag} {mg : Str → Option Value} {base : Heap}
def sp_lfirst (K : PySem.W.Frag) : Sp := fun vs H Q _ => ∃ (a b : Addr) (L : List Int) (n : Nat) (W : Rows), vs = [.ref a, .ref b, nV n] ∧ SqL K H a (IL L) ∧ WkL K H b W ∧ Good L n W ∧ Loads L ∧ W.length ≤ 40 ∧ n ≤ 40 ∧ Told L n W H Q
theorem ok_lfirst {f f1 f2 : Addr} {fd fd1 fd2 : FuncData} (F : Fun K "_law_first_swap" "_law_first_swap" s_law_first_swap f fd) (T : Txt mg) (C_law_minutes : Cal P w K mg base 1 "_law_minutes" ["loads", "shift"] (sp_minutes K) f1 fd1) (C_law_totals : Cal P w K mg base 2 "_law_totals" ["loads", "week", "workers"] (sp_ltotals K) f2 fd2) : FnOk P w K mg base CX0 3 f fd ["loads", "week", "workers"] (sp_lfirst K) := by
  refine F.ok sc_law_first_swap (fun vs H Q E h => ?_) (fun cdv A outer s H vs Q E hr h => ?_)
  · obtain ⟨a, b, L, n, W, rfl, _⟩ := h
    rfl
  · obtain ⟨a, b, L, n, W, rfl, hL, hWk, gd, ld, hw, hn, q0, q1⟩ := h
    refine ⟨_, (pss_cons (ps_set (i := 3) sc_law_first_swap.nd rfl (.inl rfl) (pe_call C_law_totals.ok (hr.mono (by decide)) (by rfl) C_law_totals.mg C_law_totals.kp C_law_totals.b .nil pass0 (pa_cons (pv 0) (pa_cons (pv 1) (pa_cons (pv 2) pa_nil)))))
 (pss_cons (ps_for PassesOwn.never rfl (pi_range1 rfl T.range (pa_cons (pe_callB call_len_seq (by rfl) T.len (by decide +kernel) (pa_cons (pv 1) pa_nil)) pa_nil)) (pg_name (i := 4) sc_law_first_swap.nd rfl (.inl rfl))
 (pss_cons (ps_setLc (i := 5) (own := [("shift", 11)]) (g := gName 11) (tt := tYes) rfl sc_law_first_swap.nd rfl rfl (sw_true rfl rfl rfl (by decide +kernel)) (pi_list (pe_ix ix_list (pv 1) (pv 4) (fun _ _ => rfl))) (blkOk_by (N := ["loads", "week", "workers", "totals", "morning", "minutes", "one", "two", "gain", "before", "after", "shift"]) (sc := defScope s_law_first_swap) (by decide +kernel)) (fun _ _ _ _ _ => (pg_name (i := 11) sc_law_first_swap.nd rfl (.inl rfl))) (fun _ _ _ _ _ => pts_nil) (fun _ _ _ _ _ => (pe_call C_law_minutes.ok (hr.mono (by decide)) (by rfl) C_law_minutes.mg C_law_minutes.kp C_law_minutes.b .nil pass0 (pa_cons (pv 0) (pa_cons (pv 11) pa_nil)))))
 (pss_one (ps_for PassesOwn.never rfl (pi_range1 rfl T.range (pa_cons (pv 2) pa_nil)) (pg_name (i := 6) sc_law_first_swap.nd rfl (.inl rfl))
 (pss_one (ps_for PassesOwn.never rfl (pi_range2 rfl T.range (pa_cons (pe_op op_add (pv 6) pe_int) (pa_cons (pv 2) pa_nil))) (pg_name (i := 7) sc_law_first_swap.nd rfl (.inl rfl))
 (pss_cons (ps_set (i := 8) sc_law_first_swap.nd rfl (.inl rfl) (pe_op op_sub (pe_ix ix_list (pv 5) (pv 7) (fun _ _ => rfl)) (pe_ix ix_list (pv 5) (pv 6) (fun _ _ => rfl))))
 (pss_cons (ps_set (i := 9) sc_law_first_swap.nd rfl (.inl rfl) (pe_op op_add (pe_op op_mul (pe_ix ix_list (pv 3) (pv 6) (fun _ _ => rfl)) (pe_ix ix_list (pv 3) (pv 6) (fun _ _ => rfl))) (pe_op op_mul (pe_ix ix_list (pv 3) (pv 7) (fun _ _ => rfl)) (pe_ix ix_list (pv 3) (pv 7) (fun _ _ => rfl)))))
 (pss_cons (ps_set (i := 10) sc_law_first_swap.nd rfl (.inl rfl) (pe_op op_add (pe_op op_mul (pe_op op_add (pe_ix ix_list (pv 3) (pv 6) (fun _ _ => rfl)) (pv 8)) (pe_op op_add (pe_ix ix_list (pv 3) (pv 6) (fun _ _ => rfl)) (pv 8))) (pe_op op_mul (pe_op op_sub (pe_ix ix_list (pv 3) (pv 7) (fun _ _ => rfl)) (pv 8)) (pe_op op_sub (pe_ix ix_list (pv 3) (pv 7) (fun _ _ => rfl)) (pv 8)))))
 (pss_one (ps_if (pt_cmpR op_lt (pv 10) (pv 9) (nomark _))
 (pss_one (ps_ret (pe_tup (pa_cons (pv 4) (pa_cons (pv 6) (pa_cons (pv 7) pa_nil))))))
 pss_nil)))))))))))
 (pss_one (ps_ret pe_non)))), ?_⟩
    refine ⟨_, rfl, _, rfl, _, rfl, a, b, L, n, W, rfl, hL, hWk, gd, hw, hn, fun p H1 s1 np ep => ?_⟩
    obtain ⟨as, hB, hR⟩ := hWk
    have hal : as.length = W.length := P_len hR
    refine ⟨_, rfl, b, _, rfl, .inl (s1.seq hB), _, rfl, (by omega), (by rw [List.length_map, hal]; omega), ?_⟩
    rw [show (((as.map V.ref).length : Nat) : Int).toNat = W.length by rw [List.length_map, hal]; omega]
    refine for_range (lo := 0) (n := W.length) (fun d σ H' => ∃ v3 v4 v5 v6 v7 v8 v9 : Option V, σ = [some (.ref a), some (.ref b), some (nV n), some (.ref p), v3, v4, v5, v6, v7, v8, v9, none] ∧ Same H1 H' ∧ Clean L n W d 0 0) ⟨_, _, _, _, _, _, _, rfl, Same.refl _, clean0⟩ ?_ ?_
    · rintro d σ H2 hd ⟨v3, v4, v5, v6, v7, v8, v9, rfl, s2, cl⟩
      rw [show (0 : Int) + (d : Int) = (d : Int) by omega]
      obtain ⟨x, hx, hxr⟩ := P_left hR (row_get hd)
      have hrm := row_mem hd
      have hrl : (row W d).length = n := gd.len _ hrm
      have t2 : Same H H2 := s1.trans s2
      refine ⟨_, rfl, _, rfl, ixl (v := .ref x) (t2.seq hB) (at_n (getn hx)) ⟨x, rfl, ⟨_, t2.seq hxr⟩, fun D nD => ?_⟩⟩
      refine lc_list (K := K) (a := x) (xs := IL (row W d)) (fun i H' => Same H2 H' ∧ H' D = some (.lst (IL (((row W d).take i).map (mins L))))) ⟨(Same.refl H2).new nD, upd_same⟩ (fun i H' _ ⟨s3, _⟩ => (t2.trans s3).seq hxr) ?_ ?_
      · rintro i y H3 hi ⟨s3, eD⟩
        obtain ⟨z, hz, rfl⟩ := getn_inv hi
        have hzm := List.mem_of_getElem? hz
        refine ⟨rfl, _, rfl, _, rfl, a, L, z, rfl, (t2.trans s3).seq hL, (gd.ent _ hrm z hzm).2, _, eD, ?_, s3.mut nD, ?_⟩
        · rw [List.length_map, List.length_map]
          exact szl (Nat.le_trans (List.length_take_le' _ _) (by omega))
        · rw [upd_same, map_take_succ _ hz, IL_snoc]
      rintro H3 ⟨s3, eD⟩
      rw [List.length_map, List.take_length] at eD
      have t3 : Same H1 H3 := s2.trans s3
      have ep3 := t3 _ _ ep
      refine ⟨_, rfl, _, rfl, (by omega), (by omega), ?_⟩
      rw [show ((n : Nat) : Int).toNat = n by omega]
      refine for_range (lo := 0) (n := n) (fun i σ H' => ∃ v5 v6 v7 v8 v9 : Option V, σ = [some (.ref a), some (.ref b), some (nV n), some (.ref p), some (nV d), some (.ref D), v5, v6, v7, v8, v9, none] ∧ Same H3 H' ∧ Clean L n W d i 0) ⟨_, _, _, _, _, rfl, Same.refl _, cl⟩ ?_ ?_
      · rintro i σ H4 hi ⟨v5, v6, v7, v8, v9, rfl, s4, cl⟩
        rw [show (0 : Int) + (i : Int) = (i : Int) by omega]
        refine ⟨_, rfl, _, _, rfl, rfl, _, rfl, _, _, rfl, ⟨by omega, by omega, by omega, by omega⟩, ?_⟩
        rw [show ((n : Nat) : Int) - ((i : Int) + 1) = ((n - (i + 1) : Nat) : Int) by omega]
        rw [show ((n - (i + 1) : Nat) : Int).toNat = n - (i + 1) by omega]
        refine for_range (lo := (i : Int) + 1) (n := n - (i + 1)) (fun k σ H' => ∃ v6 v7 v8 v9 : Option V, σ = [some (.ref a), some (.ref b), some (nV n), some (.ref p), some (nV d), some (.ref D), some (nV i), v6, v7, v8, v9, none] ∧ Same H3 H' ∧ Clean L n W d i (i + 1 + k)) ⟨_, _, _, _, rfl, s4, clean_row cl⟩ ?_ ?_
        · rintro k σ H5 hk ⟨v6, v7, v8, v9, rfl, s5, cl⟩
          rw [show (i : Int) + 1 + (k : Int) = ((i + 1 + k : Nat) : Int) by omega]
          have hj : i + 1 + k < n := by omega
          have eD5 := s5 _ _ eD
          have ep5 := s5 _ _ ep3
          generalize hjj : i + 1 + k = j at hj cl ⊢
          refine ⟨_, rfl, _, rfl, ixl (SqL.of eD5) (at_minsr L _ (by omega) rfl) ⟨_, rfl, _, rfl, ixl (SqL.of eD5) (at_minsr L _ (by omega) rfl) ⟨_, _, rfl, rfl, ?_⟩⟩⟩
          have mb : -600 ≤ mins L (at_ (row W d) j) - mins L (at_ (row W d) i) ∧ mins L (at_ (row W d) j) - mins L (at_ (row W d) i) ≤ 600 := more_le ld W d i j
          have b1 := tot_le ld W i
          have b2 := tot_le ld W j
          have TI : ∀ {Q : VK}, Q (.int (tot L W i)) H5 → rIxL K (.ref p) (nV i) H5 Q := fun q => ixl (SqL.of ep5) (at_tots L W hi rfl) q
          have TJ : ∀ {Q : VK}, Q (.int (tot L W j)) H5 → rIxL K (.ref p) (nV j) H5 Q := fun q => ixl (SqL.of ep5) (at_tots L W hj rfl) q
          refine ⟨_, rfl, _, rfl, TI ⟨_, rfl, _, rfl, TI ⟨_, _, rfl, rfl, .inl ⟨by omega, by omega⟩, ?_⟩⟩⟩
          refine ⟨_, rfl, _, rfl, TJ ⟨_, rfl, _, rfl, TJ ⟨_, _, rfl, rfl, .inl ⟨by omega, by omega⟩, _, _, rfl, rfl, ?_⟩⟩⟩
          refine ⟨_, rfl, _, rfl, TI ⟨_, rfl, _, _, rfl, rfl, _, rfl, _, rfl, TI ⟨_, rfl, _, _, rfl, rfl, _, _, rfl, rfl, .inl ⟨by omega, by omega⟩, ?_⟩⟩⟩
          refine ⟨_, rfl, _, rfl, TJ ⟨_, rfl, _, _, rfl, rfl, _, rfl, _, rfl, TJ ⟨_, rfl, _, _, rfl, rfl, _, _, rfl, rfl, .inl ⟨by omega, by omega⟩, _, _, rfl, rfl, ?_⟩⟩⟩
          refine ⟨_, rfl, _, rfl, _, _, rfl, rfl, _, rfl, ite2 (fun c => ?_) (fun c => ?_)⟩
          · refine ⟨_, rfl, _, rfl, _, rfl, (by show 3 ≤ sizeLine; decide), fun t nt => ?_⟩
            have t5 : Same H H5 := s1.trans (t3.trans s5)
            exact q1 d i j ⟨hd, by omega, hj, gain_iff.mp (of_decide_eq_true c), cl⟩ t _ (t5.new nt) (t5.free nt) upd_same
          · exact ⟨_, _, _, _, rfl, s5, by
              have := clean_step cl (fun g => c (decide_eq_true (gain_iff.mpr g)))
              rw [← hjj] at this
              exact this⟩
        · rintro σ H5 ⟨v6, v7, v8, v9, rfl, s5, cl⟩
          exact ⟨_, _, _, _, _, rfl, s5, clean_one cl (by omega)⟩
      · rintro σ H4 ⟨v5, v6, v7, v8, v9, rfl, s4, cl⟩
        exact ⟨_, _, _, _, _, _, _, rfl, t3.trans s4, clean_day cl (Nat.le_refl _)⟩
    · rintro σ H2 ⟨v3, v4, v5, v6, v7, v8, v9, rfl, s2, cl⟩
      exact q0 (clean_end cl) H2 (s1.trans s2)
/-! ### a week copied, two of a day exchanged -/
theorem LI.nil {H : Hp} {a : Addr} (h : H a = none) : LI H (upd H a (.lst [])) a [] [] := ⟨upd_same, List.nodup_nil, List.not_mem_nil, .nil, h, fun x hx => by cases hx⟩
theorem LI.alive {H0 H : Hp} {a x : Addr} {as : List Addr} {W : Rows} (h : LI H0 H a as W) (hx : H x = none) : x ∉ as ∧ x ≠ a := by
  refine ⟨fun hm => ?_, fun e => ?_⟩
  · obtain ⟨i, hi⟩ := List.getElem?_of_mem hm
    obtain ⟨r, _, e⟩ := P_right h.ins hi
    rw [hx] at e
    cases e
  · have := h.top
    rw [← e, hx] at this
    cases this
theorem LI.copy {H0 H : Hp} {a l : Addr} {as : List Addr} {W : Rows} (h : LI H0 H a as W) (s : Same H0 H) (hl : H l = none) (r : List Int) : LI H0 (upd (upd H l (.lst (IL r))) a (.lst (as.map V.ref ++ [V.ref l]))) a (as ++ [l]) (W ++ [r]) := by
  obtain ⟨h1, h2⟩ := h.alive hl
  exact (h.same ((Same.refl H).new hl)).snoc upd_same (s.free hl) h1 h2
def sp_exch (K : PySem.W.Frag) : Sp := fun vs H Q _ => ∃ (b : Addr) (L : List Int) (n : Nat) (W : Rows) (d i j : Nat), vs = [.ref b, nV d, nV i, nV j] ∧ WkL K H b W ∧ Good L n W ∧ W.length ≤ 40 ∧ d < W.length ∧ i < n ∧ j < n ∧
  ∀ p as H', Same H H' → LI H H' p as (exch W d i j) → Q (.ref p) H'
theorem row_set {W : Rows} {d : Nat} (h : d < W.length) (m : List Int) : row (W.set d m) d = m := row_of (by rw [List.getElem?_set_self h])
theorem ok_exch {f : Addr} {fd : FuncData} (F : Fun K "_law_exchanged" "_law_exchanged" s_law_exchanged f fd) (T : Txt mg) : FnOk P w K mg base CX0 1 f fd ["week", "morning", "one", "two"] (sp_exch K) := by
  refine F.ok sc_law_exchanged (fun vs H Q E h => ?_) (fun cdv A outer s H vs Q E hr h => ?_)
  · obtain ⟨b, L, n, W, d, i, j, rfl, _⟩ := h
    rfl
  · obtain ⟨b, L, n, W, d, i, j, rfl, ⟨as, hB, hR⟩, gd, hw, hd, hi, hj, q⟩ := h
    have hal : as.length = W.length := P_len hR
    have hS : Same H H := Same.refl H
    have hrl : (row W d).length = n := gd.len _ (row_mem hd)
    obtain ⟨x, hx, hxr⟩ := P_left hR (row_get hd)
    refine ⟨_, (pss_cons (ps_setLc (i := 4) (own := [("row", 5)]) (g := gName 5) (tt := tYes) rfl sc_law_exchanged.nd rfl rfl (sw_true rfl rfl rfl (by decide +kernel)) (pi_list (pv 0)) (blkOk_by (N := ["week", "morning", "one", "two", "rows", "row"]) (sc := defScope s_law_exchanged) (by decide +kernel)) (fun _ _ _ _ _ => (pg_name (i := 5) sc_law_exchanged.nd rfl (.inl rfl))) (fun _ _ _ _ _ => pts_nil) (fun _ _ _ _ _ => (pe_callTy (r := rListOf K) call_list_of (by rfl) T.list (by decide +kernel) (pa_cons (pv 5) pa_nil))))
 (pss_cons (ps_asg (pe_ix ix_list (pe_ix ix_list (pv 0) (pv 1) (fun _ _ => rfl)) (pv 3) (fun _ _ => rfl)) (pg_sub (pe_ix ix_list (pv 4) (pv 1) (fun _ _ => rfl)) (pv 2) set_list))
 (pss_cons (ps_asg (pe_ix ix_list (pe_ix ix_list (pv 0) (pv 1) (fun _ _ => rfl)) (pv 2) (fun _ _ => rfl)) (pg_sub (pe_ix ix_list (pv 4) (pv 1) (fun _ _ => rfl)) (pv 3) set_list))
 (pss_one (ps_ret (pv 4)))))), ?_⟩
    refine ⟨_, rfl, b, rfl, ⟨_, hB⟩, fun D nD => ?_⟩
    refine lc_list (K := K) (a := b) (xs := as.map V.ref) (fun i H' => ∃ as', Same H H' ∧ LI H H' D as' (W.take i)) ⟨[], (Same.refl H).new nD, LI.nil nD⟩ (fun i H' _ ⟨_, s2, _⟩ => (hS.trans s2).seq hB) ?_ ?_
    · rintro i y H2 hi ⟨as', s2, li⟩
      obtain ⟨x, hx, rfl⟩ := getn_inv hi
      obtain ⟨r, hr1, hr2⟩ := P_right hR hx
      refine ⟨rfl, _, rfl, x, _, rfl, .inl ((hS.trans s2).seq hr2), fun l nl => ⟨_, ((Same.refl H2).new nl) _ _ li.top, ?_, as' ++ [l], (s2.new nl).mut nD, ?_⟩⟩
      · rw [List.length_map, li.len]
        exact szl (Nat.le_trans (List.length_take_le' _ _) (by omega))
      · rw [take_more hr1]
        exact li.copy s2 nl r
    rintro H1 ⟨as', s1, li⟩
    rw [List.length_map, hal, List.take_length] at li
    obtain ⟨y, hy1, hy2, hy3, _, _⟩ := li.at hd
    refine ⟨_, rfl, _, rfl, ixl (v := .ref x) (s1.seq hB) (at_n (getn hx)) ⟨_, rfl, ixl (s1.seq hxr) (at_z (k := j) (by omega) rfl) ⟨_, rfl, _, rfl, ixl (v := .ref y) (SqL.of li.top) (at_n hy2) ⟨_, rfl, y, _, _, i, rfl, rfl, hy3, ?_, ?_⟩⟩⟩⟩
    · rw [List.length_map]
      exact ixN_nat (by omega)
    rw [set_IL]
    have ny : H y = none := li.news _ (List.mem_of_getElem? hy1)
    have li2 := li.put hy1 ((row W d).set i (at_ (row W d) j))
    have s2 := s1.mut (o := .lst (IL ((row W d).set i (at_ (row W d) j)))) ny
    generalize upd H1 y (.lst (IL ((row W d).set i (at_ (row W d) j)))) = H2 at li2 s2 ⊢
    obtain ⟨y', hy1', hy2', hy3', _, _⟩ := li2.at (d := d) (by rw [List.length_set]; exact hd)
    rw [row_set hd] at hy3'
    refine ⟨_, rfl, _, rfl, ixl (v := .ref x) (s2.seq hB) (at_n (getn hx)) ⟨_, rfl, ixl (s2.seq hxr) (at_z (k := i) (by omega) rfl) ⟨_, rfl, _, rfl, ixl (v := .ref y') (SqL.of li2.top) (at_n hy2') ⟨_, rfl, y', _, _, j, rfl, rfl, hy3', ?_, ?_⟩⟩⟩⟩
    · rw [List.length_map, List.length_set]
      exact ixN_nat (by omega)
    rw [set_IL]
    have li3 := li2.put hy1' (((row W d).set i (at_ (row W d) j)).set j (at_ (row W d) i))
    rw [List.set_set] at li3
    exact ⟨_, rfl, q D as' _ (s2.mut (li2.news _ (List.mem_of_getElem? hy1'))) li3⟩
/-! ### the week settled, by the law -/
def sp_lsettled (K : PySem.W.Frag) : Sp := fun vs H Q _ => ∃ (a b : Addr) (L : List Int) (n : Nat) (W : Rows), vs = [.ref a, .ref b, nV n] ∧ SqL K H a (IL L) ∧ WkL K H b W ∧ Good L n W ∧ Loads L ∧ W.length ≤ 40 ∧ n ≤ 40 ∧
  ∀ V p H', Settles L n W V → Same H H' → WkT H' p V → Q (.ref p) H'
theorem sq_tots (L : List Int) (W : Rows) (n : Nat) : ((tots L W n).map fun t => t * t).sum = sq L W n := by
  unfold tots sq
  rw [List.map_map]
  rfl
theorem ok_lsettled {f f1 f2 f3 : Addr} {fd fd1 fd2 fd3 : FuncData} (F : Fun K "_law_settled" "_law_settled" s_law_settled f fd) (T : Txt mg) (C_law_totals : Cal P w K mg base 2 "_law_totals" ["loads", "week", "workers"] (sp_ltotals K) f1 fd1)
    (C_law_first_swap : Cal P w K mg base 3 "_law_first_swap" ["loads", "week", "workers"] (sp_lfirst K) f2 fd2) (C_law_exchanged : Cal P w K mg base 1 "_law_exchanged" ["week", "morning", "one", "two"] (sp_exch K) f3 fd3) : FnOk P w K mg base CX0 4 f fd ["loads", "week", "workers"] (sp_lsettled K) := by
  refine F.ok sc_law_settled (fun vs H Q E h => ?_) (fun cdv A outer s H vs Q E hr h => ?_)
  · obtain ⟨a, b, L, n, W, rfl, _⟩ := h
    rfl
  · obtain ⟨a, b, L, n, W, rfl, hL, hWk, gd, ld, hw, hn, q⟩ := h
    have sb := sq_le ld W n hw
    have sn := sq_nonneg L W n
    refine ⟨_, (pss_cons (ps_set (i := 3) sc_law_settled.nd rfl (.inl rfl) (pe_callB (cr_sum rfl) (by rfl) T.sum (by decide +kernel) (pa_cons (pe_lc (own := [("total", 7)]) (g := gName 7) (tt := tYes) rfl sc_law_settled.nd (pi_list (pe_call C_law_totals.ok (hr.mono (by decide)) (by rfl) C_law_totals.mg C_law_totals.kp C_law_totals.b .nil pass0 (pa_cons (pv 0) (pa_cons (pv 1) (pa_cons (pv 2) pa_nil))))) (blkOk_by (N := ["loads", "week", "workers", "squares", "rows", "step", "swap", "total", "row"]) (sc := defScope s_law_settled) (by decide +kernel)) (fun _ _ _ _ _ => (pg_name (i := 7) sc_law_settled.nd rfl (.inl rfl))) (fun _ _ _ _ _ => pts_nil) (fun _ _ _ _ _ => (pe_op op_mul (pv 7) (pv 7)))) pa_nil)))
 (pss_cons (ps_setLc (i := 4) (own := [("row", 8)]) (g := gName 8) (tt := tYes) rfl sc_law_settled.nd rfl rfl (sw_true rfl rfl rfl (by decide +kernel)) (pi_list (pv 1)) (blkOk_by (N := ["loads", "week", "workers", "squares", "rows", "step", "swap", "total", "row"]) (sc := defScope s_law_settled) (by decide +kernel)) (fun _ _ _ _ _ => (pg_name (i := 8) sc_law_settled.nd rfl (.inl rfl))) (fun _ _ _ _ _ => pts_nil) (fun _ _ _ _ _ => (pe_callTy (r := rListOf K) call_list_of (by rfl) T.list (by decide +kernel) (pa_cons (pv 8) pa_nil))))
 (pss_cons (ps_for PassesOwn.never rfl (pi_range1 rfl T.range (pa_cons (pe_op op_add pe_int (pv 3)) pa_nil)) (pg_name (i := 5) sc_law_settled.nd rfl (.inl rfl))
 (pss_cons (ps_set (i := 6) sc_law_settled.nd rfl (.inl rfl) (pe_call C_law_first_swap.ok (hr.mono (by decide)) (by rfl) C_law_first_swap.mg C_law_first_swap.kp C_law_first_swap.b .nil pass0 (pa_cons (pv 0) (pa_cons (pv 4) (pa_cons (pv 2) pa_nil)))))
 (pss_cons (ps_if (pt_cmpR op_isN (pv 6) pe_non (nomark _))
 (pss_one ps_break)
 pss_nil)
 (pss_one (ps_set (i := 4) sc_law_settled.nd rfl (.inl rfl) (pe_call C_law_exchanged.ok (hr.mono (by decide)) (by rfl) C_law_exchanged.mg C_law_exchanged.kp C_law_exchanged.b .nil pass0 (pa_cons (pv 4) (pa_cons (pe_ix ix_tup (pv 6) pe_int (fun _ _ => rfl)) (pa_cons (pe_ix ix_tup (pv 6) pe_int (fun _ _ => rfl)) (pa_cons (pe_ix ix_tup (pv 6) pe_int (fun _ _ => rfl)) pa_nil))))))))))
 (pss_one (ps_ret (pv 4)))))), ?_⟩
    refine ⟨_, rfl, _, rfl, _, rfl, a, b, L, n, W, rfl, hL, hWk, gd, hw, hn, fun p H1 s1 np ep => ⟨p, rfl, ⟨_, SqL.of ep⟩, fun D nD => ?_⟩⟩
    refine lc_list (K := K) (a := p) (xs := IL (tots L W n)) (fun i H' => Same H1 H' ∧ H' D = some (.lst (IL (((tots L W n).take i).map fun t => t * t)))) ⟨(Same.refl H1).new nD, upd_same⟩ (fun i H' _ ⟨s2, _⟩ => s2.seq (SqL.of ep)) ?_ ?_
    · rintro i y H2 hi ⟨s2, eD⟩
      obtain ⟨z, hz, rfl⟩ := getn_inv hi
      have hzb : 0 ≤ z ∧ z ≤ 24000 := by
        obtain ⟨k, _, rfl⟩ := List.mem_map.mp (List.mem_of_getElem? hz)
        have := tot_le ld W k
        omega
      refine ⟨rfl, _, rfl, _, rfl, _, _, rfl, rfl, .inl ⟨by omega, by omega⟩, _, eD, ?_, s2.mut nD, ?_⟩
      · rw [List.length_map, List.length_map]
        exact szl (Nat.le_trans (List.length_take_le' _ _) (by rw [tots_len]; omega))
      · rw [upd_same, map_take_succ _ hz, IL_snoc]
    rintro H2 ⟨s2, eD⟩
    rw [List.length_map, List.take_length] at eD
    refine ⟨D, _, rfl, SqL.of eD, ?_⟩
    rw [sq_tots]
    obtain ⟨as, hB, hR⟩ := hWk
    have hal : as.length = W.length := P_len hR
    have hS : Same H H2 := s1.trans s2
    refine ⟨_, rfl, b, rfl, ⟨_, hS.seq hB⟩, fun D2 nD => ?_⟩
    refine lc_list (K := K) (a := b) (xs := as.map V.ref) (fun i H' => ∃ as', Same H2 H' ∧ LI H2 H' D2 as' (W.take i)) ⟨[], (Same.refl H2).new nD, LI.nil nD⟩ (fun i H' _ ⟨_, s2, _⟩ => (hS.trans s2).seq hB) ?_ ?_
    · rintro i y H2 hi ⟨as', s2, li⟩
      obtain ⟨x, hx, rfl⟩ := getn_inv hi
      obtain ⟨r, hr1, hr2⟩ := P_right hR hx
      refine ⟨rfl, _, rfl, x, _, rfl, .inl ((hS.trans s2).seq hr2), fun l nl => ⟨_, ((Same.refl H2).new nl) _ _ li.top, ?_, as' ++ [l], (s2.new nl).mut nD, ?_⟩⟩
      · rw [List.length_map, li.len]
        exact szl (Nat.le_trans (List.length_take_le' _ _) (by omega))
      · rw [take_more hr1]
        exact li.copy s2 nl r
    rintro H3 ⟨as', s3, li⟩
    rw [List.length_map, hal, List.take_length] at li
    refine ⟨_, rfl, _, _, rfl, rfl, _, rfl, (by omega), (by omega), ?_⟩
    refine for_range (lo := 0) (n := (1 + sq L W n).toNat) (fun k σ H' => ∃ (rp : Addr) (Y : Rows) (v5 v6 : Option V), σ = [some (.ref a), some (.ref b), some (nV n), some (.int (sq L W n)), some (.ref rp), v5, v6, none, none] ∧ Same H H' ∧ WkT H' rp Y ∧ Good L n Y ∧ Y.length = W.length ∧ (∀ U, Settles L n Y U → Settles L n W U) ∧ (k : Int) + sq L Y n ≤ sq L W n)
      ⟨D2, W, _, _, rfl, hS.trans s3, li.wkt, gd, rfl, fun _ h => h, by omega⟩ ?_ ?_
    · rintro k σ H4 hk ⟨rp, Y, v5, v6, rfl, s4, hV, gV, lV, go, le⟩
      refine ⟨_, rfl, _, rfl, _, rfl, a, rp, L, n, Y, rfl, s4.seq hL, hV.wkl, gV, ld, by omega, hn, fun no H5 s5 => ?_, fun d i j f t H5 s5 nt et => ?_⟩
      · refine ⟨_, rfl, rfl, _, rfl, iteT ?_⟩
        exact ⟨_, rfl, q Y rp H5 (go Y (.stop no)) (s4.trans s5) (hV.same s5)⟩
      · refine ⟨_, rfl, rfl, _, rfl, iteF ?_⟩
        have ht : SqT K H5 t [nV d, nV i, nV j] := SqT.of et
        refine ⟨_, rfl, _, rfl, t, _, 0, nV d, rfl, rfl, ht, at_n (j := 0) rfl, _, rfl, t, _, 1, nV i, rfl, rfl, ht, at_n (j := 1) rfl, _, rfl, t, _, 2, nV j, rfl, rfl, ht, at_n (j := 2) rfl, ?_⟩
        refine ⟨rp, L, n, Y, d, i, j, rfl, (hV.same s5).wkl, gV, by omega, f.dlt, Nat.lt_trans f.ij f.jn, f.jn, fun p' as6 H6 s6 li6 => ?_⟩
        have fall := sq_exch gV f
        refine ⟨p', exch Y d i j, _, _, rfl, s4.trans (s5.trans s6), li6.wkt, gV.exch f.dlt (Nat.lt_trans f.ij f.jn) f.jn, ?_, fun U h => go U (.step f h), by omega⟩
        unfold exch
        rw [List.length_set, lV]
    · rintro σ H4 ⟨rp, Y, v5, v6, rfl, s4, hV, gV, lV, go, le⟩
      have := sq_nonneg L Y n
      exfalso
      omega
end
end K29W

namespace K29W
open PySem PySem.Spec PyProof.Rows L2 KH K29
abbrev scheck_number : Stmt := topS 7
theorem sccheck_number : FnScope ["what", "value", "least", "most"] ["what", "value", "least", "most"] (defScope scheck_number) := ⟨rfl, rfl, rfl, by decide +kernel, rfl, by decide +kernel, by decide +kernel⟩

abbrev sfair_week : Stmt := topS 15
theorem scfair_week : FnScope ["loads", "workers", "days", "load", "week", "day", "shift", "swap", "one", "two", "worker"] ["loads", "workers", "days"] (defScope sfair_week) := ⟨rfl, rfl, rfl, by decide +kernel, rfl, by decide +kernel, by decide +kernel⟩

/-- the errors' classes, as the written part has them -/
structure Exc (P : Program) (K : PySem.W.Frag) (mg : Str → Option Value) (CN CB CD CT CU fI : Addr) : Prop where
  own : PySem.OwX.OwnTxt P K CN fI ["what", "value"]
  gN : mg "BadNumber" = some (.ref CN)
  gB : mg "BusError" = some (.ref CB)
  gD : mg "Doubled" = some (.ref CD)
  gT : mg "TooMany" = some (.ref CT)
  gU : mg "Unknown" = some (.ref CU)
  ec : ExcC K CN
  xf : XfC K CN
  te : PySem.W.exmOne K (.ref CN) (.ref CB) = some true
  kN : PySem.W.kitOne K (.ref CN) (.ref CN) = some true
  kO : PySem.W.kitAny K (.ref CN) [.ref CD, .ref CT, .ref CU] = some false
section
variable {P : Program} {w : World} {K : PySem.W.Frag} {mg : Str → Option Value} {base : Heap} {CN CB CD CT CU fI : Addr}
def sp_check (CN : Addr) : Sp := fun vs H Q E => ∃ (wd : Str) (v lo hi : Int), vs = [.str wd, .int v, .int lo, .int hi] ∧ (¬ (lo ≤ v ∧ v ≤ hi) → ∀ d, H d = none → E (.ref CN) (some d) (upd H d (.xd [("value", .int v), ("what", .str wd)]))) ∧ ((lo ≤ v ∧ v ≤ hi) → Q .non H)
theorem ok_check {f : Addr} {fd : FuncData} (F : Fun K "check_number" "check_number" scheck_number f fd) (T : Txt mg) (XBadNumber : Exc P K mg CN CB CD CT CU fI) : FnOk P w K mg base (L2.CX P w) 3 f fd ["what", "value", "least", "most"] (sp_check CN) := by
  refine F.okX sccheck_number (fun vs H Q E h => ?_) (fun cdv A outer s H vs Q E hr h => ?_)
  · obtain ⟨wd, v, lo, hi, rfl, _⟩ := h
    rfl
  · obtain ⟨wd, v, lo, hi, rfl, qe, qn⟩ := h
    refine ⟨_, (pss_one (ps_if (pt_not (pt_chain op_le op_le (pv 2) (pv 1) (pv 3)))
 (pss_one (ps_raiseOwnS rfl XBadNumber.own XBadNumber.gN T.super (by decide) (by decide) (by simp) hr (takes_of rfl rfl rfl rfl) (by exact (pa_cons (pv 0) (pa_cons (pv 1) pa_nil))) rfl))
 pss_nil)), ?_⟩
    refine ⟨_, rfl, _, rfl, _, _, rfl, rfl, _, rfl, ite2 (fun c1 => ?_) (fun c1 => ?_)⟩
    · refine ⟨_, rfl, _, _, rfl, rfl, _, rfl, ?_⟩
      by_cases c2 : v ≤ hi
      · rw [decide_eq_true c2]
        exact iteF (qn ⟨of_decide_eq_true c1, c2⟩)
      · rw [decide_eq_false c2]
        exact iteT ⟨_, rfl, _, rfl, rfl, fun d nd => qe (fun z => c2 z.2) d nd⟩
    · refine ⟨_, rfl, iteT ⟨_, rfl, _, rfl, rfl, fun d nd => qe (fun z => c1 (decide_eq_true z.1)) d nd⟩⟩
/-! ### the first wrong argument -/
def Fine (L : List Int) (w m : Int) : Prop := Loads L ∧ (max 1 (L.length : Int) ≤ w ∧ w ≤ 8) ∧ (1 ≤ m ∧ m ≤ 7)
inductive Flaw (L : List Int) (w m : Int) : Str → Int → Prop
  | load {i : Nat} {z : Int} : L[i]? = some z → ¬ (0 ≤ z ∧ z ≤ 600) → (∀ (j : Nat) (y : Int), j < i → L[j]? = some y → 0 ≤ y ∧ y ≤ 600) → Flaw L w m "load" z
  | work : Loads L → ¬ (max 1 (L.length : Int) ≤ w ∧ w ≤ 8) → Flaw L w m "workers" w
  | days : Loads L → (max 1 (L.length : Int) ≤ w ∧ w ≤ 8) → ¬ (1 ≤ m ∧ m ≤ 7) → Flaw L w m "days" m
/-- the error with its fields -/
def Err (CN : Addr) (wd : Str) (z : Int) (H : Hp) (E : XK) : Prop := ∀ d H', Same H H' → H d = none → H' d = some (.xd [("value", .int z), ("what", .str wd)]) → E (.ref CN) (some d) H'
def sp_fair (K : PySem.W.Frag) (CN : Addr) : Sp := fun vs H Q E => ∃ (a : Addr) (L : List Int) (wk m : Int), vs = [.ref a, .int wk, .int m] ∧ Sq K H a (IL L) ∧ L.length ≤ 40 ∧ (∀ wd z, Flaw L wk m wd z → Err CN wd z H E) ∧
  (Fine L wk m → ∀ V p as H', Settles L wk.toNat (turns L.length wk.toNat m.toNat) V → Same H H' → LI H H' p as V → Q (.ref p) H')
/-! ### the week by turns, while it is made -/
def wk (c n m d k : Nat) : Rows := (List.range m).map fun r => if r < d then turnRow n r c else if r = d then turnRow n r k else turnRow n r 0
theorem wk_len (c n m d k : Nat) : (wk c n m d k).length = m := by unfold wk; simp
theorem wk_get {c n m d k : Nat} (h : d < m) : row (wk c n m d k) d = turnRow n d k := by
  refine row_of ?_
  unfold wk
  rw [List.getElem?_map, List.getElem?_range h]
  show some (if d < d then _ else if d = d then _ else _) = _
  rw [if_neg (Nat.lt_irrefl d), if_pos rfl]
theorem wk_more {c n m d k : Nat} (h : d < m) : (wk c n m d k).set d (turnRow n d (k + 1)) = wk c n m d (k + 1) := by
  apply List.ext_getElem?
  intro j
  rw [List.getElem?_set, wk_len]
  unfold wk
  by_cases e : d = j
  · subst e
    rw [if_pos rfl, if_pos h, List.getElem?_map, List.getElem?_range h]
    show _ = some (if d < d then _ else if d = d then _ else _)
    rw [if_neg (Nat.lt_irrefl d), if_pos rfl]
  · rw [if_neg e, List.getElem?_map, List.getElem?_map]
    cases q : (List.range m)[j]? with
    | none => rfl
    | some y =>
      have ey : y = j := by
        obtain ⟨_, q⟩ := List.getElem?_eq_some_iff.mp q
        simpa using q.symm
      subst ey
      show some (if y < d then _ else if y = d then _ else _) = some (if y < d then _ else if y = d then _ else _)
      rw [if_neg (show ¬ y = d from fun z => e z.symm), if_neg (show ¬ y = d from fun z => e z.symm)]
theorem wk_next {c n m d : Nat} : wk c n m d c = wk c n m (d + 1) 0 := by
  unfold wk
  refine List.map_congr_left (fun r _ => ?_)
  by_cases h1 : r < d
  · rw [if_pos h1, if_pos (by omega)]
  · rw [if_neg h1]
    by_cases h2 : r = d
    · rw [if_pos h2, if_pos (by omega)]
    · rw [if_neg h2, if_neg (by omega)]
      by_cases h3 : r = d + 1
      · rw [if_pos h3]
      · rw [if_neg h3]
theorem wk_start {c n m : Nat} : wk c n m 0 0 = List.replicate m (List.replicate n (-1)) := by
  refine List.eq_replicate_iff.mpr ⟨wk_len _ _ _ _ _, fun b hb => ?_⟩
  obtain ⟨r, _, rfl⟩ := List.mem_map.mp hb
  have t0 : turnRow n r 0 = List.replicate n (-1) := rfl
  show (if r < 0 then _ else if r = 0 then _ else _) = _
  rw [if_neg (Nat.not_lt_zero r)]
  by_cases e : r = 0
  · rw [if_pos e, t0]
  · rw [if_neg e, t0]
theorem wk_end {c n m : Nat} : wk c n m m 0 = turns c n m := by
  unfold wk turns
  refine List.map_congr_left (fun r hr => ?_)
  rw [if_pos (List.mem_range.mp hr)]
theorem fmod_n (a n : Nat) : Int.fmod (a : Int) (n : Int) = ((a % n : Nat) : Int) := by
  rw [Int.fmod_eq_emod_of_nonneg _ (by omega)]
  rfl
/-- what swap holds -/
def SwapIs (L : List Int) (n : Nat) (Y : Rows) (v : V) (H : Hp) : Prop := (v = .non ∧ NoG L n Y) ∨ ∃ d i j t, v = .ref t ∧ First L n Y d i j ∧ H t = some (.tup [nV d, nV i, nV j])
theorem told_of {L : List Int} {n : Nat} {W : Rows} {H : Hp} {Q : VK} (h : ∀ v H', Same H H' → SwapIs L n W v H' → Q v H') : Told L n W H Q :=
  ⟨fun no H' s => h _ H' s (.inl ⟨rfl, no⟩), fun d i j f t H' s _ et => h _ H' s (.inr ⟨d, i, j, t, rfl, f, et⟩)⟩
theorem ok_fair {f f1 f2 : Addr} {fd fd1 fd2 : FuncData} (F : Fun K "fair_week" "fair_week" sfair_week f fd) (T : Txt mg) (c600 : ∃ t, mg "_MOST_LOAD" = some (.int 600 t)) (c8 : ∃ t, mg "_MOST_WORKERS" = some (.int 8 t)) (c7 : ∃ t, mg "_MOST_DAYS" = some (.int 7 t))
    (Ccheck_number : CalX P w K mg base 3 "check_number" ["what", "value", "least", "most"] (sp_check CN) f1 fd1) (C_first_swap : Cal P w K mg base 3 "_first_swap" ["loads", "week"] (sp_first K) f2 fd2) : FnOk P w K mg base (L2.CX P w) 4 f fd ["loads", "workers", "days"] (sp_fair K CN) := by
  obtain ⟨t600, h600⟩ := c600
  obtain ⟨t8, h8⟩ := c8
  obtain ⟨t7, h7⟩ := c7
  refine F.okX scfair_week (fun vs H Q E h => ?_) (fun cdv A outer s H vs Q E hr h => ?_)
  · obtain ⟨a, L, wi, mi, rfl, _⟩ := h
    rfl
  · obtain ⟨a, L, wi, mi, rfl, hL, hl, qe, qn⟩ := h
    have err : ∀ {wd z}, Flaw L wi mi wd z → ∀ d, H d = none → E (.ref CN) (some d) (upd H d (.xd [("value", .int z), ("what", .str wd)])) := fun f d nd => qe _ _ f d _ ((Same.refl H).new nd) nd upd_same
    refine ⟨_, (pss_cons (ps_for (passes_of rfl) rfl (pi_seq (pv 0)) (pg_name (i := 3) scfair_week.nd rfl (.inl rfl))
 (pss_one (ps_expr (pe_callS Ccheck_number.ok (hr.mono (by decide)) (by rfl) Ccheck_number.mg Ccheck_number.kp Ccheck_number.b (fun σ => passAt (takes_of rfl rfl rfl rfl) σ) (by exact (pa_cons pe_str (pa_cons (pv 3) (pa_cons pe_int (pa_cons (pe_glob (v := .int 600) rfl h600 ⟨_, rfl⟩) pa_nil)))))))))
 (pss_cons (ps_expr (pe_callS Ccheck_number.ok (hr.mono (by decide)) (by rfl) Ccheck_number.mg Ccheck_number.kp Ccheck_number.b (fun σ => passAt (takes_of rfl rfl rfl rfl) σ) (by exact (pa_cons pe_str (pa_cons (pv 1) (pa_cons (pe_callB (call_max2 rfl) (by rfl) T.max (by decide +kernel) (pa_cons pe_int (pa_cons (pe_callB call_len_seq (by rfl) T.len (by decide +kernel) (pa_cons (pv 0) pa_nil)) pa_nil))) (pa_cons (pe_glob (v := .int 8) rfl h8 ⟨_, rfl⟩) pa_nil)))))))
 (pss_cons (ps_expr (pe_callS Ccheck_number.ok (hr.mono (by decide)) (by rfl) Ccheck_number.mg Ccheck_number.kp Ccheck_number.b (fun σ => passAt (takes_of rfl rfl rfl rfl) σ) (by exact (pa_cons pe_str (pa_cons (pv 2) (pa_cons pe_int (pa_cons (pe_glob (v := .int 7) rfl h7 ⟨_, rfl⟩) pa_nil)))))))
 (pss_cons (ps_setLc (i := 4) (own := [("day", 5)]) (g := gName 5) (tt := tYes) rfl scfair_week.nd rfl rfl (sw_true rfl rfl rfl (by decide +kernel)) (pi_range1 rfl T.range (pa_cons (pv 2) pa_nil)) (blkOk_by (N := ["loads", "workers", "days", "load", "week", "day", "shift", "swap", "one", "two", "worker"]) (sc := defScope sfair_week) (by decide +kernel)) (fun _ _ _ _ _ => (pg_name (i := 5) scfair_week.nd rfl (.inl rfl))) (fun _ _ _ _ _ => pts_nil) (fun _ _ _ _ _ => (by exact (pe_lc (own := [("worker", 10)]) (g := gName 10) (tt := tYes) rfl scfair_week.nd (pi_range1 rfl T.range (pa_cons (pv 1) pa_nil)) (blkOk_by (N := ["loads", "workers", "days", "load", "week", "day", "shift", "swap", "one", "two", "worker"]) (by rfl)) (fun _ _ _ _ _ => (pg_name (i := 10) scfair_week.nd rfl (.inl rfl))) (fun _ _ _ _ _ => pts_nil) (fun _ _ _ _ _ => (pe_un un_neg pe_int))))))
 (pss_cons (ps_for (passes_of rfl) rfl (pi_range1 rfl T.range (pa_cons (pv 2) pa_nil)) (pg_name (i := 5) scfair_week.nd rfl (.inl rfl))
 (pss_one (ps_for (passes_of rfl) rfl (pi_range1 rfl T.range (pa_cons (pe_callB call_len_seq (by rfl) T.len (by decide +kernel) (pa_cons (pv 0) pa_nil)) pa_nil)) (pg_name (i := 6) scfair_week.nd rfl (.inl rfl))
 (pss_one (ps_asg (pv 6) (pg_sub (pe_ix ix_list (pv 4) (pv 5) (fun _ _ => rfl)) (pe_op op_modN (pe_op op_add (pv 6) (pv 5)) (pv 1)) set_list))))))
 (pss_cons (ps_set (i := 7) scfair_week.nd rfl (.inl rfl) (pe_call C_first_swap.ok (hr.mono (by decide)) (by rfl) C_first_swap.mg C_first_swap.kp C_first_swap.b .nil pass0 (pa_cons (pv 0) (pa_cons (pv 4) pa_nil))))
 (pss_cons (ps_while (passes_of rfl) (pt_cmpR op_notN (pv 7) pe_non (nomark _))
 (pss_cons (ps_asg (pv 7) (pg_tup rfl (pgs_cons (pg_name (i := 5) scfair_week.nd rfl (.inl rfl)) (pgs_cons (pg_name (i := 8) scfair_week.nd rfl (.inl rfl)) (pgs_cons (pg_name (i := 9) scfair_week.nd rfl (.inl rfl)) pgs_nil)))))
 (pss_cons (ps_asg (pe_tup (pa_cons (pe_ix ix_list (pe_ix ix_list (pv 4) (pv 5) (fun _ _ => rfl)) (pv 9) (fun _ _ => rfl)) (pa_cons (pe_ix ix_list (pe_ix ix_list (pv 4) (pv 5) (fun _ _ => rfl)) (pv 8) (fun _ _ => rfl)) pa_nil))) (pg_tup rfl (pgs_cons (pg_sub (pe_ix ix_list (pv 4) (pv 5) (fun _ _ => rfl)) (pv 8) set_list) (pgs_cons (pg_sub (pe_ix ix_list (pv 4) (pv 5) (fun _ _ => rfl)) (pv 9) set_list) pgs_nil))))
 (pss_one (ps_set (i := 7) scfair_week.nd rfl (.inl rfl) (pe_call C_first_swap.ok (hr.mono (by decide)) (by rfl) C_first_swap.mg C_first_swap.kp C_first_swap.b .nil pass0 (pa_cons (pv 0) (pa_cons (pv 4) pa_nil))))))))
 (pss_one (ps_ret (pv 4)))))))))), ?_⟩
    -- for load in loads
    refine ⟨_, rfl, for_seq (xs := IL L) hL (Same.refl H) (fun i σ H' => ∃ v3 : Option V, σ = [some (.ref a), some (.int wi), some (.int mi), v3, none, none, none, none, none, none, none] ∧ H' = H ∧ ∀ (j : Nat) (y : Int), j < i → L[j]? = some y → 0 ≤ y ∧ y ≤ 600) ⟨_, rfl, rfl, fun j y h => absurd h (Nat.not_lt_zero j)⟩ (fun i σ H' _ ⟨_, _, e, _⟩ => by rw [e]; exact Same.refl H) ?_ ?_⟩
    · rintro i x σ H' hi ⟨v3, rfl, rfl, fine⟩
      obtain ⟨z, hz, rfl⟩ := getn_inv hi
      refine ⟨_, rfl, _, _, _, _, rfl, fun bad d nd => err (.load hz bad fine) d nd, fun ok => ⟨_, rfl, rfl, fun j y hj hy => ?_⟩⟩
      by_cases e : j = i
      · subst e
        rw [hz] at hy
        cases hy
        exact ok
      · exact fine j y (by omega) hy
    rintro σ Hx ⟨v3, rfl, e0, fine⟩
    subst Hx
    have ld : Loads L := fun x hx => by
      obtain ⟨j, hj⟩ := List.getElem?_of_mem hx
      exact fine j x (by rw [List.length_map]; exact lt_get hj) hj
    -- workers, days
    have emax : (if ((IL L).length : Int) > 1 then ((IL L).length : Int) else 1) = max 1 (L.length : Int) := by
      rw [List.length_map]
      split <;> omega
    refine ⟨_, rfl, _, rfl, a, _, rfl, hL, _, _, rfl, ?_⟩
    refine ⟨_, _, _, _, rfl, fun bad d nd => err (.work ld (by rw [← emax]; exact bad)) d nd, fun ok1 => ?_⟩
    rw [emax] at ok1
    refine ⟨_, rfl, _, _, _, _, rfl, fun bad d nd => err (.days ld ok1 bad) d nd, fun ok2 => ?_⟩
    have q := qn ⟨ld, ok1, ok2⟩
    clear qn qe err
    obtain ⟨n, rfl⟩ : ∃ n : Nat, wi = n := ⟨wi.toNat, by omega⟩
    obtain ⟨m, rfl⟩ : ∃ m : Nat, mi = m := ⟨mi.toNat, by omega⟩
    rw [show ((n : Nat) : Int).toNat = n by omega, show ((m : Nat) : Int).toNat = m by omega] at q
    have hn : 1 ≤ n ∧ n ≤ 8 := by omega
    have hm : 1 ≤ m ∧ m ≤ 7 := by omega
    have hln : L.length ≤ n := by omega
    have gd := turns_good L n m
    -- week = [[-1 ..] ..]
    refine ⟨_, rfl, _, rfl, (by omega), (by omega), ?_⟩
    rw [show ((m : Nat) : Int).toNat = m by omega]
    refine fun D nD => ?_
    refine lc_range (lo := 0) (n := m) (fun i H' => ∃ as', Same H H' ∧ LI H H' D as' (List.replicate i (List.replicate n (-1)))) ⟨[], (Same.refl _).new nD, LI.nil nD⟩ ?_ ?_
    · rintro i H1 hi ⟨as', s1, li⟩
      refine ⟨rfl, _, rfl, _, rfl, (by omega), (by omega), ?_⟩
      rw [show ((n : Nat) : Int).toNat = n by omega]
      refine fun D' nD' => ?_
      refine lc_range (lo := 0) (n := n) (fun k H' => Same H1 H' ∧ H' D' = some (.lst (IL (List.replicate k (-1))))) ⟨(Same.refl H1).new nD', upd_same⟩ ?_ ?_
      · rintro k H2 hk ⟨s2, e2⟩
        refine ⟨rfl, _, rfl, _, e2, ?_, s2.mut nD', ?_⟩
        · rw [List.length_map, List.length_replicate]
          exact szl (by omega)
        · rw [upd_same, List.replicate_succ', IL_snoc]
      · rintro H2 ⟨s2, e2⟩
        obtain ⟨x1, x2⟩ := li.alive nD'
        have li2 := (li.same s2).snoc e2 (s1.free nD') x1 x2
        refine ⟨_, (li.same s2).top, ?_, as' ++ [D'], (s1.trans s2).mut nD, ?_⟩
        · rw [List.length_map, li.len, List.length_replicate]
          exact szl (by omega)
        · rw [List.replicate_succ']
          exact li2
    rintro H1 ⟨as', s1, li⟩
    rw [← wk_start (c := L.length)] at li
    -- the shifts by turns
    refine ⟨_, rfl, _, rfl, (by omega), (by omega), ?_⟩
    rw [show ((m : Nat) : Int).toNat = m by omega]
    refine for_range (lo := 0) (n := m) (fun d σ H' => ∃ v5 v6 : Option V, σ = [some (.ref a), some (nV n), some (nV m), v3, some (.ref D), v5, v6, none, none, none, none] ∧ Same H H' ∧ LI H H' D as' (wk L.length n m d 0)) ⟨_, _, rfl, s1, li⟩ ?_ ?_
    · rintro d σ H2 hd ⟨v5, v6, rfl, s2, li⟩
      rw [show (0 : Int) + (d : Int) = (d : Int) by omega]
      refine ⟨_, rfl, a, _, rfl, s2.sq hL, _, rfl, (by omega), (by rw [List.length_map]; omega), ?_⟩
      rw [show (((IL L).length : Nat) : Int).toNat = L.length by rw [List.length_map]; omega]
      refine for_range (lo := 0) (n := L.length) (fun k σ H' => ∃ v6 : Option V, σ = [some (.ref a), some (nV n), some (nV m), v3, some (.ref D), some (nV d), v6, none, none, none, none] ∧ Same H H' ∧ LI H H' D as' (wk L.length n m d k)) ⟨_, rfl, s2, li⟩ ?_ ?_
      · rintro k σ H3 hk ⟨v6, rfl, s3, li⟩
        rw [show (0 : Int) + (k : Int) = (k : Int) by omega]
        obtain ⟨y, y1, y2, y3, y4, y5⟩ := li.at (d := d) (by rw [wk_len]; exact hd)
        rw [wk_get hd] at y3
        refine ⟨_, rfl, _, rfl, _, rfl, ixl (v := .ref y) (SqL.of li.top) (at_n y2) ⟨_, rfl, _, rfl, _, _, rfl, rfl, _, rfl, _, _, rfl, rfl, (by walk_at "nz"), y, _, (((k + d) % n : Nat) : Int), (k + d) % n, rfl, ?_, y3, ?_, ?_⟩⟩
        · show V.int (((k : Int) + (d : Int)).fmod (n : Int)) = V.int _
          rw [show (k : Int) + (d : Int) = ((k + d : Nat) : Int) by omega, fmod_n]
        · rw [List.length_map, turnRow_len]
          exact ixN_nat (Nat.mod_lt _ (by omega))
        · refine ⟨_, rfl, s3.mut y4, ?_⟩
          rw [set_IL, ← turnRow_succ, ← wk_more hd]
          exact li.put y1 _
      · rintro σ H3 ⟨v6, rfl, s3, li⟩
        rw [wk_next] at li
        exact ⟨_, _, rfl, s3, li⟩
    rintro σ H2 ⟨v5, v6, rfl, s2, li⟩
    rw [wk_end] at li
    have hbig : 0 < (turns L.length n m).length ∧ (turns L.length n m).length ≤ 40 := by rw [turns_len]; omega
    -- swap = _first_swap(loads, week)
    refine ⟨_, rfl, _, rfl, a, D, L, n, _, rfl, s2.sq hL, li.wkl.wk, gd, ld, hbig.1, hbig.2, (by omega), told_of fun sv H3 s3 sw => ?_⟩
    refine ⟨fun c σ H' => ∃ (Y : Rows) (sv : V) (v5 v8 v9 : Option V), σ = [some (.ref a), some (nV n), some (nV m), v3, some (.ref D), v5, v6, some sv, v8, v9, none] ∧ Same H H' ∧ LI H H' D as' Y ∧ Good L n Y ∧ Y.length = m ∧ (∀ U, Settles L n Y U → Settles L n (turns L.length n m) U) ∧ SwapIs L n Y sv H' ∧ c = (sq L Y n).toNat,
      ⟨_, _, sv, _, _, _, rfl, s2.trans s3, li.same s3, gd, turns_len _ _ _, fun _ h => h, sw, rfl⟩, ?_⟩
    rintro c σ H4 ⟨Y, sv, v5, v8, v9, rfl, s4, li, gY, lY, go, sw, ec⟩
    rcases sw with ⟨rfl, no⟩ | ⟨d, i, j, t, rfl, f, et⟩
    · refine ⟨_, rfl, rfl, _, rfl, iteF ?_⟩
      exact ⟨_, rfl, q Y D as' H4 (go Y (.stop no)) s4 li⟩
    · refine ⟨_, rfl, rfl, _, rfl, iteT ?_⟩
      have hd := f.dlt
      have hij := f.ij
      have hj := f.jn
      have hrl : (row Y d).length = n := gY.len _ (row_mem hd)
      have fall := sq_exch gY f
      have nng := sq_nonneg L (exch Y d i j) n
      refine ⟨fun σ H' => ∃ (v5 v8 v9 : Option V) (sv : V), σ = [some (.ref a), some (nV n), some (nV m), v3, some (.ref D), v5, v6, some sv, v8, v9, none] ∧ Same H H' ∧ LI H H' D as' (exch Y d i j) ∧ SwapIs L n (exch Y d i j) sv H', ?_, ?_⟩
      · rintro σ' H' ⟨v5, v8, v9, sv, rfl, s5, li5, sw5⟩
        refine ⟨_, ?_, exch Y d i j, sv, v5, v8, v9, rfl, s5, li5, gY.exch hd (by omega) hj, ?_, fun U h => go U (.step f h), sw5, rfl⟩
        · omega
        · unfold exch
          rw [List.length_set, lY]
      -- day, one, two = swap
      refine ⟨_, rfl, t, _, rfl, SqT.of et, rfl, _, _, rfl, _, _, rfl, _, _, rfl, rfl, ?_⟩
      obtain ⟨y, y1, y2, y3, y4, y5⟩ := li.at hd
      -- the two shifts
      refine ⟨_, rfl, _, rfl, ixl (v := .ref y) (SqL.of li.top) (at_n y2) ⟨_, rfl, ixl (SqL.of y3) (at_z (k := j) (by omega) rfl) ?_⟩⟩
      refine ⟨_, rfl, _, rfl, ixl (v := .ref y) (SqL.of li.top) (at_n y2) ⟨_, rfl, ixl (SqL.of y3) (at_z (k := i) (by omega) rfl) ?_⟩⟩
      refine ⟨(by show 2 ≤ sizeLine; decide), fun tt ntt => ⟨tt, _, rfl, SqT.of upd_same, rfl, _, _, rfl, ?_⟩⟩
      have li6 := li.same ((Same.refl H4).new (o := .tup [V.int (at_ (row Y d) j), V.int (at_ (row Y d) i)]) ntt)
      have s6 := s4.new (o := .tup [V.int (at_ (row Y d) j), V.int (at_ (row Y d) i)]) ntt
      have y36 := ((Same.refl H4).new (o := .tup [V.int (at_ (row Y d) j), V.int (at_ (row Y d) i)]) ntt) _ _ y3
      generalize upd H4 tt (.tup [V.int (at_ (row Y d) j), V.int (at_ (row Y d) i)]) = H5 at li6 s6 y36 ⊢
      refine ⟨_, rfl, _, rfl, ixl (v := .ref y) (SqL.of li6.top) (at_n y2) ⟨_, rfl, y, _, _, i, rfl, rfl, y36, ?_, ?_⟩⟩
      · rw [List.length_map]
        exact ixN_nat (by omega)
      rw [set_IL]
      have li7 := li6.put y1 ((row Y d).set i (at_ (row Y d) j))
      have s7 := s6.mut (o := .lst (IL ((row Y d).set i (at_ (row Y d) j)))) y4
      have y37 : (upd H5 y (.lst (IL ((row Y d).set i (at_ (row Y d) j))))) y = some (.lst (IL ((row Y d).set i (at_ (row Y d) j)))) := upd_same
      generalize upd H5 y (.lst (IL ((row Y d).set i (at_ (row Y d) j)))) = H6 at li7 s7 y37 ⊢
      refine ⟨_, _, rfl, _, rfl, _, rfl, ixl (v := .ref y) (SqL.of li7.top) (at_n y2) ⟨_, rfl, y, _, _, j, rfl, rfl, y37, ?_, ?_⟩⟩
      · rw [List.length_map, List.length_set]
        exact ixN_nat (by omega)
      rw [set_IL]
      have li8 := li7.put y1 (((row Y d).set i (at_ (row Y d) j)).set j (at_ (row Y d) i))
      rw [List.set_set] at li8
      have s8 := s7.mut (o := .lst (IL (((row Y d).set i (at_ (row Y d) j)).set j (at_ (row Y d) i)))) y4
      generalize upd H6 y (.lst (IL (((row Y d).set i (at_ (row Y d) j)).set j (at_ (row Y d) i)))) = H7 at li8 s8 ⊢
      have lx : (exch Y d i j).length = m := by unfold exch; rw [List.length_set, lY]
      refine ⟨rfl, _, rfl, _, rfl, a, D, L, n, exch Y d i j, rfl, s8.sq hL, li8.wkl.wk, gY.exch hd (by omega) hj, ld, by omega, by omega, (by omega), told_of fun sv H8 s9 sw => ?_⟩
      exact ⟨_, _, _, sv, rfl, s8.trans s9, li8.same s9, sw⟩
end
end K29W

namespace K29W
open PySem PySem.Spec PyProof.Rows L2 KH K29
abbrev s_law_by_turns : Stmt := topS 20
theorem sc_law_by_turns : FnScope ["count", "workers", "mornings", "week", "morning", "row", "shift", "k"] ["count", "workers", "mornings"] (defScope s_law_by_turns) := ⟨rfl, rfl, rfl, by decide +kernel, rfl, by decide +kernel, by decide +kernel⟩

abbrev s_law_number : Stmt := topS 27
theorem sc_law_number : FnScope ["thing"] ["thing"] (defScope s_law_number) := ⟨rfl, rfl, rfl, by decide +kernel, rfl, by decide +kernel, by decide +kernel⟩

abbrev s_law_same : Stmt := topS 28
theorem sc_law_same : FnScope ["told", "due", "k"] ["told", "due"] (defScope s_law_same) := ⟨rfl, rfl, rfl, by decide +kernel, rfl, by decide +kernel, by decide +kernel⟩

abbrev s_law_same_week : Stmt := topS 29
theorem sc_law_same_week : FnScope ["told", "due", "k"] ["told", "due"] (defScope s_law_same_week) := ⟨rfl, rfl, rfl, by decide +kernel, rfl, by decide +kernel, by decide +kernel⟩

abbrev s_law_drawn_week : Stmt := topS 26
theorem sc_law_drawn_week : FnScope ["cell", "count", "workers", "mornings", "sizes", "morning", "drawn", "week", "left", "row", "k"] ["cell", "count", "workers", "mornings"] (defScope s_law_drawn_week) := ⟨rfl, rfl, rfl, by decide +kernel, rfl, by decide +kernel, by decide +kernel⟩

section
variable {P : Program} {w : World} {K : PySem.W.Frag} {mg : Str → Option Value} {base : Heap}
/-! ### the week by turns, by the law -/
def sp_turns (K : PySem.W.Frag) : Sp := fun vs H Q _ => ∃ (c n m : Nat), vs = [nV c, nV n, nV m] ∧ 1 ≤ n ∧ n ≤ 40 ∧ c ≤ 40 ∧ m ≤ 40 ∧ ∀ p H', Same H H' → WkL K H' p (turns c n m) → Q (.ref p) H'
theorem turns_succ (c n d : Nat) : turns c n (d + 1) = turns c n d ++ [turnRow n d c] := by
  unfold turns
  rw [List.range_succ, List.map_append]
  rfl
theorem ok_turns {f : Addr} {fd : FuncData} (F : Fun K "_law_by_turns" "_law_by_turns" s_law_by_turns f fd) (T : Txt mg) : FnOk P w K mg base CX0 1 f fd ["count", "workers", "mornings"] (sp_turns K) := by
  refine F.ok sc_law_by_turns (fun vs H Q E h => ?_) (fun cdv A outer s H vs Q E hr h => ?_)
  · obtain ⟨c, n, m, rfl, _⟩ := h
    rfl
  · obtain ⟨c, n, m, rfl, hn1, hn, hc, hm, q⟩ := h
    refine ⟨_, (pss_cons (ps_set (i := 3) sc_law_by_turns.nd rfl (.inl rfl) (pe_lst pa_nil))
 (pss_cons (ps_for PassesOwn.never rfl (pi_range1 rfl T.range (pa_cons (pv 2) pa_nil)) (pg_name (i := 4) sc_law_by_turns.nd rfl (.inl rfl))
 (pss_cons (ps_setLc (i := 5) (own := [("k", 7)]) (g := gName 7) (tt := tYes) rfl sc_law_by_turns.nd rfl rfl (sw_true rfl rfl rfl (by decide +kernel)) (pi_range1 rfl T.range (pa_cons (pv 1) pa_nil)) (blkOk_by (N := ["count", "workers", "mornings", "week", "morning", "row", "shift", "k"]) (sc := defScope s_law_by_turns) (by decide +kernel)) (fun _ _ _ _ _ => (pg_name (i := 7) sc_law_by_turns.nd rfl (.inl rfl))) (fun _ _ _ _ _ => pts_nil) (fun _ _ _ _ _ => (pe_un un_neg pe_int)))
 (pss_cons (ps_for PassesOwn.never rfl (pi_range1 rfl T.range (pa_cons (pv 0) pa_nil)) (pg_name (i := 6) sc_law_by_turns.nd rfl (.inl rfl))
 (pss_one (ps_asg (pv 6) (pg_sub (pv 5) (pe_op op_modN (pe_callTy call_int1 (by rfl) T.int (by decide +kernel) (pa_cons (pe_op op_add (pv 6) (pv 4)) pa_nil)) (pv 1)) set_list))))
 (pss_one (ps_expr (pe_bm PySem.F.plainAttrs_list PySem.F.slot_list_append PySem.F.type_list_append mt_append (pv 3) (pa_cons (pv 5) pa_nil)))))))
 (pss_one (ps_ret (pv 3))))), ?_⟩
    refine ⟨Nat.zero_le _, fun p np => ?_⟩
    refine ⟨_, rfl, _, rfl, (by omega), (by omega), ?_⟩
    rw [show ((m : Nat) : Int).toNat = m by omega]
    refine for_range (lo := 0) (n := m) (fun d σ H' => ∃ (as : List Addr) (v4 v5 v6 : Option V), σ = [some (nV c), some (nV n), some (nV m), some (.ref p), v4, v5, v6, none] ∧ Same H H' ∧ LI H H' p as (turns c n d)) ⟨[], _, _, _, rfl, (Same.refl H).new np, LI.nil np⟩ ?_ ?_
    · rintro d σ H1 hd ⟨as, v4, v5, v6, rfl, s1, li⟩
      rw [show (0 : Int) + (d : Int) = (d : Int) by omega]
      refine ⟨_, rfl, _, rfl, (by omega), (by omega), ?_⟩
      rw [show ((n : Nat) : Int).toNat = n by omega]
      refine fun D nD => ?_
      refine lc_range (lo := 0) (n := n) (fun k H' => Same H1 H' ∧ H' D = some (.lst (IL (List.replicate k (-1))))) ⟨(Same.refl H1).new nD, upd_same⟩ ?_ ?_
      · rintro k H2 hk ⟨s2, e2⟩
        refine ⟨rfl, _, rfl, _, e2, ?_, s2.mut nD, ?_⟩
        · rw [List.length_map, List.length_replicate]
          exact szl (by omega)
        · rw [upd_same, List.replicate_succ', IL_snoc]
      rintro H2 ⟨s2, e2⟩
      refine ⟨_, rfl, _, rfl, (by omega), (by omega), ?_⟩
      rw [show ((c : Nat) : Int).toNat = c by omega]
      refine for_range (lo := 0) (n := c) (fun k σ H' => ∃ (v6 : Option V), σ = [some (nV c), some (nV n), some (nV m), some (.ref p), some (nV d), some (.ref D), v6, none] ∧ Same H1 H' ∧ H' D = some (.lst (IL (turnRow n d k)))) ⟨_, rfl, s2, e2⟩ ?_ ?_
      · rintro k σ H3 hk ⟨v6, rfl, s3, e3⟩
        rw [show (0 : Int) + (k : Int) = (k : Int) by omega]
        refine ⟨_, rfl, _, rfl, _, rfl, _, rfl, _, _, rfl, rfl, .inl ⟨_, rfl, _, rfl, _, _, rfl, rfl, (by walk_at "nz"), D, _, (((k + d) % n : Nat) : Int), (k + d) % n, rfl, ?_, e3, ?_, ?_⟩⟩
        · show V.int (((k : Int) + (d : Int)).fmod (n : Int)) = V.int _
          rw [show (k : Int) + (d : Int) = ((k + d : Nat) : Int) by omega, fmod_n]
        · rw [List.length_map, turnRow_len]
          exact ixN_nat (Nat.mod_lt _ (by omega))
        · refine ⟨_, rfl, s3.mut nD, ?_⟩
          rw [upd_same, set_IL, ← turnRow_succ]
      · rintro σ H3 ⟨v6, rfl, s3, e3⟩
        obtain ⟨x1, x2⟩ := li.alive nD
        have li3 := li.same s3
        refine ⟨_, rfl, .inl ⟨rfl, _, SqL.of li3.top⟩, _, rfl, p, _, _, rfl, rfl, li3.top, ?_, ?_⟩
        · rw [List.length_map, li.len, turns_len]
          exact szl (by omega)
        · refine ⟨as ++ [D], _, _, _, rfl, (s1.trans s3).mut np, ?_⟩
          rw [turns_succ]
          exact li3.snoc e3 (s1.free nD) x1 x2
    · rintro σ H1 ⟨as, v4, v5, v6, rfl, s1, li⟩
      exact ⟨_, rfl, q p H1 s1 li.wkl⟩
/-! ### is it the list, the week that is due? -/
def sp_number : Sp := fun vs H Q _ => ∃ z : Int, vs = [.int z] ∧ Q (.bl true) H
theorem ok_number {f : Addr} {fd : FuncData} (F : Fun K "_law_number" "_law_number" s_law_number f fd) (T : Txt mg) : FnOk P w K mg base CX0 1 f fd ["thing"] sp_number := by
  refine F.ok sc_law_number (fun vs H Q E h => ?_) (fun cdv A outer s H vs Q E hr h => ?_)
  · obtain ⟨z, rfl, _⟩ := h
    rfl
  · obtain ⟨z, rfl, q⟩ := h
    refine ⟨_, (pss_one (ps_ret (pe_and (pe_callB call_isi (by rfl) T.isinstance (by decide +kernel) (pa_cons (pv 0) (pa_cons (pe_bltn (v := .ty "int") (by rfl) T.int (by decide +kernel) rfl) pa_nil))) (pe_one (pe_not (pe_callB call_isi (by rfl) T.isinstance (by decide +kernel) (pa_cons (pv 0) (pa_cons (pe_bltn (v := .ty "bool") (by rfl) T.bool (by decide +kernel) rfl) pa_nil)))))))), ?_⟩
    refine ⟨_, rfl, _, _, _, _, true, rfl, .ty "int", .base (.int _), kit_ty (by decide +kernel), _, rfl, iteT ?_⟩
    exact ⟨_, rfl, _, _, _, _, false, rfl, .ty "bool", .base (.int _), kit_ty (by decide +kernel), _, rfl, q⟩
def sp_same (K : PySem.W.Frag) : Sp := fun vs H Q _ => ∃ (a b : Addr) (l : List Int), vs = [.ref a, .ref b] ∧ H a = some (.lst (IL l)) ∧ SqL K H b (IL l) ∧ l.length ≤ 1000 ∧ Q (.bl true) H
theorem ok_same {f f1 : Addr} {fd fd1 : FuncData} (F : Fun K "_law_same" "_law_same" s_law_same f fd) (T : Txt mg) (C_law_number : Cal P w K mg base 1 "_law_number" ["thing"] sp_number f1 fd1) : FnOk P w K mg base CX0 2 f fd ["told", "due"] (sp_same K) := by
  refine F.ok sc_law_same (fun vs H Q E h => ?_) (fun cdv A outer s H vs Q E hr h => ?_)
  · obtain ⟨a, b, l, rfl, _⟩ := h
    rfl
  · obtain ⟨a, b, l, rfl, hp, hb, hl, q⟩ := h
    refine ⟨_, (pss_cons (ps_if (PW.pt (pw_or (pt_not (pt_val (pe_callB call_isi (by rfl) T.isinstance (by decide +kernel) (pa_cons (pv 0) (pa_cons (pe_bltn (v := .ty "list") (by rfl) T.list (by decide +kernel) rfl) pa_nil))))) (pw_or1 (pt_cmpR op_ne (pe_callB call_len_seq (by rfl) T.len (by decide +kernel) (pa_cons (pv 0) pa_nil)) (pe_callB call_len_seq (by rfl) T.len (by decide +kernel) (pa_cons (pv 1) pa_nil)) (nomark _)))))
 (pss_one (ps_ret pe_bl))
 pss_nil)
 (pss_cons (ps_for PassesOwn.never rfl (pi_range1 rfl T.range (pa_cons (pe_callB call_len_seq (by rfl) T.len (by decide +kernel) (pa_cons (pv 1) pa_nil)) pa_nil)) (pg_name (i := 2) sc_law_same.nd rfl (.inl rfl))
 (pss_one (ps_if (PW.pt (pw_or (pt_not (pt_val (pe_call C_law_number.ok (hr.mono (by decide)) (by rfl) C_law_number.mg C_law_number.kp C_law_number.b .nil pass0 (pa_cons (pe_ix ix_list (pv 0) (pv 2) (fun _ _ => rfl)) pa_nil)))) (pw_or1 (pt_cmpR op_ne (pe_ix ix_list (pv 0) (pv 2) (fun _ _ => rfl)) (pe_ix ix_list (pv 1) (pv 2) (fun _ _ => rfl)) (nomark _)))))
 (pss_one (ps_ret pe_bl))
 pss_nil)))
 (pss_one (ps_ret pe_bl)))), ?_⟩
    refine ⟨_, rfl, _, _, _, _, true, rfl, .ty "list", .base (.lst hp), kit_ty (by decide +kernel), _, rfl, ?_⟩
    refine iteF ⟨_, rfl, a, _, rfl, .inl (SqL.of hp), _, rfl, b, _, rfl, .inl hb, rfl, _, rfl, ?_⟩
    rw [decide_eq_true rfl]
    refine iteF ?_
    refine ⟨_, rfl, b, _, rfl, .inl hb, _, rfl, (by omega), (by rw [List.length_map]; omega), ?_⟩
    rw [show (((IL l).length : Nat) : Int).toNat = l.length by rw [List.length_map]; omega]
    refine for_range (lo := 0) (n := l.length) (fun i σ H' => ∃ (v2 : Option V), σ = [some (.ref a), some (.ref b), v2] ∧ H' = H) ⟨_, rfl, rfl⟩ ?_ ?_
    · rintro i σ H' hi ⟨v2, rfl, rfl⟩
      rw [show (0 : Int) + (i : Int) = (i : Int) by omega]
      refine ⟨_, rfl, _, rfl, ixl (SqL.of hp) (at_z hi rfl) ⟨_, rfl, _, rfl, ?_⟩⟩
      refine iteF ⟨_, rfl, _, rfl, ixl (SqL.of hp) (at_z hi rfl) ⟨_, rfl, _, rfl, ixl hb (at_z hi rfl) ⟨rfl, _, rfl, ?_⟩⟩⟩
      rw [decide_eq_true rfl]
      exact iteF ⟨_, rfl, rfl⟩
    · rintro σ H' ⟨v2, rfl, rfl⟩
      exact q
def sp_samew (K : PySem.W.Frag) : Sp := fun vs H Q _ => ∃ (a b : Addr) (n : Nat) (W : Rows), vs = [.ref a, .ref b] ∧ WkT H a W ∧ WkL K H b W ∧ W.length ≤ 1000 ∧ (∀ r ∈ W, r.length = n) ∧ n ≤ 1000 ∧ Q (.bl true) H
theorem ok_samew {f f1 : Addr} {fd fd1 : FuncData} (F : Fun K "_law_same_week" "_law_same_week" s_law_same_week f fd) (T : Txt mg) (C_law_same : Cal P w K mg base 2 "_law_same" ["told", "due"] (sp_same K) f1 fd1) : FnOk P w K mg base CX0 3 f fd ["told", "due"] (sp_samew K) := by
  refine F.ok sc_law_same_week (fun vs H Q E h => ?_) (fun cdv A outer s H vs Q E hr h => ?_)
  · obtain ⟨a, b, n, W, rfl, _⟩ := h
    rfl
  · obtain ⟨a, b, n, W, rfl, ⟨as, hp, hR⟩, ⟨bs, hb, hS⟩, hw, hlen, hn, q⟩ := h
    have hal : as.length = W.length := P_len hR
    have hbl : bs.length = W.length := P_len hS
    refine ⟨_, (pss_cons (ps_if (PW.pt (pw_or (pt_not (pt_val (pe_callB call_isi (by rfl) T.isinstance (by decide +kernel) (pa_cons (pv 0) (pa_cons (pe_bltn (v := .ty "list") (by rfl) T.list (by decide +kernel) rfl) pa_nil))))) (pw_or1 (pt_cmpR op_ne (pe_callB call_len_seq (by rfl) T.len (by decide +kernel) (pa_cons (pv 0) pa_nil)) (pe_callB call_len_seq (by rfl) T.len (by decide +kernel) (pa_cons (pv 1) pa_nil)) (nomark _)))))
 (pss_one (ps_ret pe_bl))
 pss_nil)
 (pss_cons (ps_for PassesOwn.never rfl (pi_range1 rfl T.range (pa_cons (pe_callB call_len_seq (by rfl) T.len (by decide +kernel) (pa_cons (pv 1) pa_nil)) pa_nil)) (pg_name (i := 2) sc_law_same_week.nd rfl (.inl rfl))
 (pss_one (ps_if (pt_not (pt_val (pe_call C_law_same.ok (hr.mono (by decide)) (by rfl) C_law_same.mg C_law_same.kp C_law_same.b .nil pass0 (pa_cons (pe_ix ix_list (pv 0) (pv 2) (fun _ _ => rfl)) (pa_cons (pe_ix ix_list (pv 1) (pv 2) (fun _ _ => rfl)) pa_nil)))))
 (pss_one (ps_ret pe_bl))
 pss_nil)))
 (pss_one (ps_ret pe_bl)))), ?_⟩
    refine ⟨_, rfl, _, _, _, _, true, rfl, .ty "list", .base (.lst hp), kit_ty (by decide +kernel), _, rfl, ?_⟩
    refine iteF ⟨_, rfl, a, _, rfl, .inl (SqL.of hp), _, rfl, b, _, rfl, .inl hb, rfl, _, rfl, ?_⟩
    rw [decide_eq_true (show V.int ((as.map V.ref).length : Int) = V.int ((bs.map V.ref).length : Int) by rw [List.length_map, List.length_map, hal, hbl])]
    refine iteF ?_
    refine ⟨_, rfl, b, _, rfl, .inl hb, _, rfl, (by omega), (by rw [List.length_map, hbl]; omega), ?_⟩
    rw [show (((bs.map V.ref).length : Nat) : Int).toNat = W.length by rw [List.length_map, hbl]; omega]
    refine for_range (lo := 0) (n := W.length) (fun i σ H' => ∃ (v2 : Option V), σ = [some (.ref a), some (.ref b), v2] ∧ H' = H) ⟨_, rfl, rfl⟩ ?_ ?_
    · rintro i σ H' hi ⟨v2, rfl, rfl⟩
      rw [show (0 : Int) + (i : Int) = (i : Int) by omega]
      obtain ⟨x, x1, x2⟩ := P_left hR (row_get hi)
      obtain ⟨y, y1, y2⟩ := P_left hS (row_get hi)
      refine ⟨_, rfl, _, rfl, ixl (v := .ref x) (SqL.of hp) (at_n (getn x1)) ⟨_, rfl, _, rfl, ixl (v := .ref y) hb (at_n (getn y1)) ⟨x, y, row W i, rfl, x2, y2, ?_, ?_⟩⟩⟩
      · rw [hlen _ (row_mem hi)]
        exact hn
      · exact ⟨_, rfl, iteF ⟨_, rfl, rfl⟩⟩
    · rintro σ H' ⟨v2, rfl, rfl⟩
      exact q
/-! ### a drawn week -/
def szs (n : Nat) : Nat → List Nat
  | 0 => []
  | i + 1 => szs n i ++ (List.range n).map fun k => n - k
theorem szs_len (n : Nat) : ∀ i, (szs n i).length = n * i
  | 0 => rfl
  | i + 1 => by
    show (szs n i ++ (List.range n).map fun k => n - k).length = _
    rw [List.length_append, szs_len n i, List.length_map, List.length_range, Nat.mul_succ]
theorem szs_pos {n : Nat} : ∀ {i z : Nat}, z ∈ szs n i → 0 < z ∧ z ≤ n
  | 0, z, h => by cases h
  | i + 1, z, h => by
    rcases List.mem_append.mp h with h | h
    · exact szs_pos h
    · obtain ⟨k, hk, rfl⟩ := List.mem_map.mp h
      have := List.mem_range.mp hk
      omega
theorem szs_at {n k : Nat} (hk : k < n) : ∀ {m d : Nat}, d < m → (szs n m)[n * d + k]? = some (n - k)
  | 0, d, h => absurd h (Nat.not_lt_zero d)
  | m + 1, d, h => by
    show (szs n m ++ (List.range n).map fun k => n - k)[n * d + k]? = _
    by_cases e : d < m
    · have hlt : n * d + k < (szs n m).length := by
        rw [szs_len]
        have h1 : n * (d + 1) ≤ n * m := Nat.mul_le_mul_left n e
        rw [Nat.mul_succ] at h1
        omega
      rw [List.getElem?_append_left hlt]
      exact szs_at hk e
    · have ed : d = m := by omega
      subst ed
      rw [List.getElem?_append_right (by rw [szs_len]; omega), szs_len, Nat.add_sub_cancel_left, List.getElem?_map, List.getElem?_range hk]
      rfl
def left0 (c n : Nat) : List Int := (List.range c).map (fun i : Nat => (i : Int)) ++ List.replicate (n - c) (-1)
theorem left0_len {c n : Nat} (h : c ≤ n) : (left0 c n).length = n := by
  unfold left0
  rw [List.length_append, List.length_map, List.length_range, List.length_replicate]
  omega
theorem left0_ent {c n : Nat} : ∀ s ∈ left0 c n, -1 ≤ s ∧ s < (c : Int) := by
  intro s h
  rcases List.mem_append.mp h with h | h
  · obtain ⟨i, hi, rfl⟩ := List.mem_map.mp h
    have := List.mem_range.mp hi
    omega
  · rw [(List.mem_replicate.mp h).2]
    omega
theorem rg_IL (c : Nat) : rgV 0 (c : Int) = IL ((List.range c).map fun i : Nat => (i : Int)) := by
  unfold rgV IL
  rw [List.map_map, show ((c : Int) - 0).toNat = c by omega]
  refine List.map_congr_left (fun i _ => ?_)
  show V.int (0 + (i : Int)) = V.int (i : Int)
  rw [Int.zero_add]
theorem IL_app (l m : List Int) : IL l ++ IL m = IL (l ++ m) := by
  unfold IL
  rw [List.map_append]
theorem seqI {n k : Nat} (h : k < n) : seqIndex? (k : Int) n = some k := by
  have := (ixN_seq (ixN_nat h)).1
  exact this
theorem IL_erase (l : List Int) (k : Nat) : (IL l).eraseIdx k = IL (l.eraseIdx k) := by
  induction l generalizing k with
  | nil => rfl
  | cons a l ih =>
    cases k with
    | zero => rfl
    | succ k =>
      show V.int a :: (IL l).eraseIdx k = V.int a :: IL (l.eraseIdx k)
      rw [ih]
theorem LI.nil2 {H0 H : Hp} {a : Addr} (h : H0 a = none) : LI H0 (upd H a (.lst [])) a [] [] := ⟨upd_same, List.nodup_nil, List.not_mem_nil, .nil, h, fun x hx => by cases hx⟩
def sp_drawnw (K : PySem.W.Frag) : Sp := fun vs H Q _ => ∃ (cl : Int) (c n m : Nat), vs = [.int cl, nV c, nV n, nV m] ∧ c ≤ n ∧ n ≤ 20 ∧ m ≤ 20 ∧ ∀ p W H', (∀ L : List Int, L.length = c → Good L n W) → W.length = m → Same H H' → WkT H' p W → Q (.ref p) H'
theorem ok_drawnw {f f1 : Addr} {fd fd1 : FuncData} (F : Fun K "_law_drawn_week" "_law_drawn_week" s_law_drawn_week f fd) (T : Txt mg) (C_law_draws : Cal P w K mg base 1 "_law_draws" ["cell", "sizes"] (sp_draws K) f1 fd1) : FnOk P w K mg base CX0 2 f fd ["cell", "count", "workers", "mornings"] (sp_drawnw K) := by
  refine F.ok sc_law_drawn_week (fun vs H Q E h => ?_) (fun cdv A outer s H vs Q E hr h => ?_)
  · obtain ⟨cl, c, n, m, rfl, _⟩ := h
    rfl
  · obtain ⟨cl, c, n, m, rfl, hcn, hn, hm, q⟩ := h
    have hnm : n * m ≤ 400 := Nat.mul_le_mul hn hm
    refine ⟨_, (pss_cons (ps_set (i := 4) sc_law_drawn_week.nd rfl (.inl rfl) (pe_lst pa_nil))
 (pss_cons (ps_for PassesOwn.never rfl (pi_range1 rfl T.range (pa_cons (pv 3) pa_nil)) (pg_name (i := 5) sc_law_drawn_week.nd rfl (.inl rfl))
 (pss_one (ps_expr (pe_bm PySem.F.plainAttrs_list PySem.F.slot_list_extend PySem.F.type_list_extend mt_extend (pv 4) (pa_cons (pe_lc (own := [("k", 10)]) (g := gName 10) (tt := tYes) rfl sc_law_drawn_week.nd (pi_range1 rfl T.range (pa_cons (pv 2) pa_nil)) (blkOk_by (N := ["cell", "count", "workers", "mornings", "sizes", "morning", "drawn", "week", "left", "row", "k"]) (sc := defScope s_law_drawn_week) (by decide +kernel)) (fun _ _ _ _ _ => (pg_name (i := 10) sc_law_drawn_week.nd rfl (.inl rfl))) (fun _ _ _ _ _ => pts_nil) (fun _ _ _ _ _ => (pe_op op_sub (pv 2) (pv 10)))) pa_nil)))))
 (pss_cons (ps_set (i := 6) sc_law_drawn_week.nd rfl (.inl rfl) (pe_call C_law_draws.ok (hr.mono (by decide)) (by rfl) C_law_draws.mg C_law_draws.kp C_law_draws.b .nil pass0 (pa_cons (pv 0) (pa_cons (pv 4) pa_nil))))
 (pss_cons (ps_set (i := 7) sc_law_drawn_week.nd rfl (.inl rfl) (pe_lst pa_nil))
 (pss_cons (ps_for PassesOwn.never rfl (pi_range1 rfl T.range (pa_cons (pv 3) pa_nil)) (pg_name (i := 5) sc_law_drawn_week.nd rfl (.inl rfl))
 (pss_cons (ps_set (i := 8) sc_law_drawn_week.nd rfl (.inl rfl) (pe_op op_cat (pe_listRg rfl rfl T.list (prg_1 rfl T.range (pv 1))) (pe_lc (own := [("k", 10)]) (g := gName 10) (tt := tYes) rfl sc_law_drawn_week.nd (pi_range1 rfl T.range (pa_cons (pe_op op_sub (pv 2) (pv 1)) pa_nil)) (blkOk_by (N := ["cell", "count", "workers", "mornings", "sizes", "morning", "drawn", "week", "left", "row", "k"]) (sc := defScope s_law_drawn_week) (by decide +kernel)) (fun _ _ _ _ _ => (pg_name (i := 10) sc_law_drawn_week.nd rfl (.inl rfl))) (fun _ _ _ _ _ => pts_nil) (fun _ _ _ _ _ => (pe_un un_neg pe_int)))))
 (pss_cons (ps_set (i := 9) sc_law_drawn_week.nd rfl (.inl rfl) (pe_lst pa_nil))
 (pss_cons (ps_for PassesOwn.never rfl (pi_range1 rfl T.range (pa_cons (pv 2) pa_nil)) (pg_name (i := 10) sc_law_drawn_week.nd rfl (.inl rfl))
 (pss_one (ps_expr (pe_bm PySem.F.plainAttrs_list PySem.F.slot_list_append PySem.F.type_list_append mt_append (pv 9) (pa_cons (pe_bm PySem.F.plainAttrs_list PySem.F.slot_list_pop PySem.F.type_list_pop mt_popAt (pv 8) (pa_cons (pe_ix ix_list (pv 6) (pe_op op_add (pe_op op_mul (pv 2) (pv 5)) (pv 10)) (fun _ _ => rfl)) pa_nil)) pa_nil)))))
 (pss_one (ps_expr (pe_bm PySem.F.plainAttrs_list PySem.F.slot_list_append PySem.F.type_list_append mt_append (pv 7) (pa_cons (pv 9) pa_nil))))))))
 (pss_one (ps_ret (pv 7)))))))), ?_⟩
    refine ⟨Nat.zero_le _, fun sz nsz => ?_⟩
    refine ⟨_, rfl, _, rfl, (by omega), (by omega), ?_⟩
    rw [show ((m : Nat) : Int).toNat = m by omega]
    refine for_range (lo := 0) (n := m) (fun d σ H' => ∃ (v5 : Option V), σ = [some (.int cl), some (nV c), some (nV n), some (nV m), some (.ref sz), v5, none, none, none, none, none] ∧ Same H H' ∧ H' sz = some (.lst ((szs n d).map nV))) ⟨_, rfl, (Same.refl H).new nsz, upd_same⟩ ?_ ?_
    · rintro d σ H1 hd ⟨v5, rfl, s1, e1⟩
      rw [show (0 : Int) + (d : Int) = (d : Int) by omega]
      refine ⟨_, rfl, .inl ⟨rfl, _, SqL.of e1⟩, _, rfl, _, rfl, (by omega), (by omega), ?_⟩
      rw [show ((n : Nat) : Int).toNat = n by omega]
      refine fun D nD => ?_
      refine lc_range (lo := 0) (n := n) (fun k H' => Same H1 H' ∧ H' D = some (.lst (((List.range k).map fun k => n - k).map nV))) ⟨(Same.refl H1).new nD, upd_same⟩ ?_ ?_
      · rintro k H2 hk ⟨s2, e2⟩
        rw [show (0 : Int) + (k : Int) = (k : Int) by omega]
        refine ⟨rfl, _, rfl, _, rfl, _, _, rfl, rfl, _, e2, ?_, s2.mut nD, ?_⟩
        · rw [List.length_map, List.length_map, List.length_range]
          exact szl (by omega)
        · rw [upd_same, List.range_succ, List.map_append, List.map_append]
          show some (HO.lst (_ ++ [V.int ((n : Int) - (k : Int))])) = some (HO.lst (_ ++ [nV (n - k)]))
          rw [show ((n : Int) - (k : Int)) = ((n - k : Nat) : Int) by omega]
      rintro H2 ⟨s2, e2⟩
      have e12 := s2 _ _ e1
      refine ⟨sz, D, _, _, rfl, rfl, e12, e2, ?_, _, rfl, (s1.trans s2).mut nsz, ?_⟩
      · rw [List.length_map, List.length_map, List.length_map, List.length_range, szs_len]
        have : n * d ≤ n * m := Nat.mul_le_mul_left n (by omega)
        exact szle (by omega)
      · rw [upd_same, ← List.map_append]
        rfl
    rintro σ H1 ⟨v5, rfl, s1, e1⟩
    -- drawn = _law_draws(cell, sizes)
    refine ⟨_, rfl, _, rfl, sz, cl, szs n m, rfl, SqL.of e1, (by rw [szs_len]; omega), (fun z hz => by have := szs_pos hz; omega), fun dp ds H2 s2 ndp edp drw => ?_⟩
    have t2 : Same H H2 := s1.trans s2
    refine ⟨Nat.zero_le _, fun p np => ?_⟩
    have np0 : H p = none := t2.free np
    refine ⟨_, rfl, _, rfl, (by omega), (by omega), ?_⟩
    rw [show ((m : Nat) : Int).toNat = m by omega]
    refine for_range (lo := 0) (n := m) (fun d σ H' => ∃ (as : List Addr) (W : Rows) (v5 v8 v9 v10 : Option V), σ = [some (.int cl), some (nV c), some (nV n), some (nV m), some (.ref sz), v5, some (.ref dp), some (.ref p), v8, v9, v10] ∧ Same H H' ∧ H' dp = some (.lst (ds.map nV)) ∧ LI H H' p as W ∧ W.length = d ∧ (∀ r ∈ W, r.length = n ∧ ∀ s ∈ r, -1 ≤ s ∧ s < (c : Int))) ⟨[], [], _, _, _, _, rfl, t2.new np, ?_, LI.nil2 np0, rfl, fun r hr => by cases hr⟩ ?_ ?_
    · rw [upd_ne (ne_of_none edp np)]
      exact edp
    · rintro d σ H3 hd ⟨as, W, v5, v8, v9, v10, rfl, s3, e3, li, lW, gW⟩
      rw [show (0 : Int) + (d : Int) = (d : Int) by omega]
      refine ⟨_, rfl, _, rfl, RgOk.of_le (by omega) (by omega) (by omega) (by omega), fun q1 nq1 => ?_⟩
      rw [rg_IL]
      refine ⟨_, rfl, _, rfl, _, _, rfl, rfl, _, rfl, (by omega), (by omega), ?_⟩
      rw [show ((n : Int) - (c : Int)).toNat = n - c by omega]
      refine fun D nD => ?_
      have sA : Same H3 (upd H3 q1 (.lst (IL ((List.range c).map fun i : Nat => (i : Int))))) := (Same.refl H3).new nq1
      have eA : (upd H3 q1 (.lst (IL ((List.range c).map fun i : Nat => (i : Int))))) q1 = some (.lst (IL ((List.range c).map fun i : Nat => (i : Int)))) := upd_same
      generalize upd H3 q1 (.lst (IL ((List.range c).map fun i : Nat => (i : Int)))) = HA at sA eA nD ⊢
      refine lc_range (lo := 0) (n := n - c) (fun k H' => Same HA H' ∧ H' D = some (.lst (IL (List.replicate k (-1))))) ⟨(Same.refl HA).new nD, upd_same⟩ ?_ ?_
      · rintro k H4 hk ⟨s4, e4⟩
        refine ⟨rfl, _, rfl, _, e4, ?_, s4.mut nD, ?_⟩
        · rw [List.length_map, List.length_replicate]
          exact szl (by omega)
        · rw [upd_same, List.replicate_succ', IL_snoc]
      rintro H4 ⟨s4, e4⟩
      refine ⟨q1, D, _, _, rfl, rfl, s4 _ _ eA, e4, ?_, fun lp nlp => ?_⟩
      · rw [List.length_map, List.length_map, List.length_map, List.length_range, List.length_replicate]
        exact szle (by omega)
      rw [IL_app]
      refine ⟨Nat.zero_le _, fun rp nrp => ?_⟩
      have s5 : Same H3 H4 := sA.trans s4
      have nlp3 : H3 lp = none := s5.free nlp
      have nrp3 : H3 rp = none := (s5.new nlp).free nrp
      have hrl : rp ≠ lp := fun z => by rw [z, upd_same] at nrp; cases nrp
      refine ⟨_, rfl, _, rfl, (by omega), (by omega), ?_⟩
      rw [show ((n : Nat) : Int).toNat = n by omega]
      refine for_range (lo := 0) (n := n) (fun k σ H' => ∃ (lf rw : List Int) (v10 : Option V), σ = [some (.int cl), some (nV c), some (nV n), some (nV m), some (.ref sz), some (nV d), some (.ref dp), some (.ref p), some (.ref lp), some (.ref rp), v10] ∧ Same H3 H' ∧ H' lp = some (.lst (IL lf)) ∧ H' rp = some (.lst (IL rw)) ∧ lf.length = n - k ∧ rw.length = k ∧ (∀ s ∈ lf, -1 ≤ s ∧ s < (c : Int)) ∧ (∀ s ∈ rw, -1 ≤ s ∧ s < (c : Int)))
        ⟨left0 c n, [], _, rfl, (s5.new nlp).new nrp, by rw [upd_ne (Ne.symm hrl)]; exact upd_same, upd_same, left0_len hcn, rfl, left0_ent, fun s hs => by cases hs⟩ ?_ ?_
      · rintro k σ H5 hk ⟨lf, rw', v10, rfl, s6, el, er, ll, lr, gl, gr⟩
        rw [show (0 : Int) + (k : Int) = (k : Int) by omega]
        have nd : n * d ≤ n * m := Nat.mul_le_mul_left n (by omega)
        have hz := szs_at hk hd
        obtain ⟨x, hx, hxl⟩ := P_left drw hz
        have hxl' : x < n - k := hxl
        have hxlf : x < lf.length := by omega
        have em : ((n : Int) * (d : Int) + (k : Int)) = ((n * d + k : Nat) : Int) := by rw [Int.natCast_add, Int.natCast_mul]
        refine ⟨_, rfl, .inl ⟨rfl, _, SqL.of er⟩, _, rfl, .inl ⟨rfl, _, SqL.of el⟩, _, rfl, _, rfl, _, rfl, _, _, rfl, rfl, .inl ⟨by omega, by omega⟩, _, rfl, _, _, rfl, rfl, ixl (v := nV x) (SqL.of (s6 _ _ e3)) ?_ ⟨lp, _, _, x, V.int (at_ lf x), rfl, rfl, el, by omega, by omega, ?_, getn (at_get hxlf), rp, IL rw', _, rfl, rfl, ?_, ?_, ?_⟩⟩
        · show atI (ds.map nV) ((n : Int) * (d : Int) + (k : Int)) = _
          rw [em]
          exact at_n (getn hx)
        · rw [List.length_map]
          exact seqI hxlf
        · rw [upd_ne hrl]
          exact er
        · rw [List.length_map, lr]
          exact szl (by omega)
        · rw [IL_erase]
          refine ⟨lf.eraseIdx x, rw' ++ [at_ lf x], _, rfl, (s6.mut nlp3).mut nrp3, ?_, ?_, ?_, ?_, fun s hs => gl s (List.mem_of_mem_eraseIdx hs), fun s hs => ?_⟩
          · rw [upd_ne (Ne.symm hrl)]
            exact upd_same
          · rw [upd_same, IL_snoc]
          · rw [List.length_eraseIdx_of_lt hxlf, ll]
            omega
          · rw [List.length_append, lr]
            rfl
          · rcases List.mem_append.mp hs with hs | hs
            · exact gr s hs
            · rw [List.mem_singleton.mp hs]
              exact gl _ (at_mem hxlf)
      · rintro σ H5 ⟨lf, rw', v10, rfl, s6, el, er, ll, lr, gl, gr⟩
        have li5 := li.same s6
        obtain ⟨x1, x2⟩ := li.alive nrp3
        refine ⟨_, rfl, .inl ⟨rfl, _, SqL.of li5.top⟩, _, rfl, p, _, _, rfl, rfl, li5.top, ?_, ?_⟩
        · rw [List.length_map, li5.len, lW]
          exact szl (by omega)
        · refine ⟨as ++ [rp], W ++ [rw'], _, _, _, _, rfl, (s3.trans s6).mut np0, ?_, li5.snoc er (s3.free nrp3) x1 x2, by rw [List.length_append, lW]; rfl, fun r hr => ?_⟩
          · rw [upd_ne (ne_of_none edp np)]
            exact s6 _ _ e3
          · rcases List.mem_append.mp hr with hr | hr
            · exact gW r hr
            · rw [List.mem_singleton.mp hr]
              exact ⟨lr, gr⟩
    · rintro σ H3 ⟨as, W, v5, v8, v9, v10, rfl, s3, e3, li, lW, gW⟩
      exact ⟨_, rfl, q p W H3 (fun L hL => ⟨fun r hr => (gW r hr).1, fun r hr s hs => by rw [hL]; exact (gW r hr).2 s hs⟩) lW s3 li.wkt⟩
end
end K29W

namespace K29W
open PySem PySem.Spec PyProof.Rows L2 KH K29 KD
abbrev s_law_judged : Stmt := topS 30
theorem sc_law_judged : FnScope ["loads", "week", "workers", "totals", "settled", "passed_loads", "passed", "told", "word", "handed", "row"] ["loads", "week", "workers"] (defScope s_law_judged) := ⟨rfl, rfl, rfl, by decide +kernel, rfl, by decide +kernel, by decide +kernel⟩

section
variable {P : Program} {w : World} {K : PySem.W.Frag} {mg : Str → Option Value} {base : Heap}
theorem settled_of {L : List Int} {n : Nat} {W : Rows} {H : Hp} {Q : VK} (h : ∀ b H', Same H H' → (b = true ↔ NoG L n W) → Q (.bl b) H') : ToldB L n W H Q :=
  ⟨fun no H' s => h true H' s ⟨fun _ => no, fun _ => rfl⟩, fun no H' s => h false H' s ⟨fun z => Bool.noConfusion z, fun z => (no z).elim⟩⟩
theorem swap_none {L : List Int} {n : Nat} {W : Rows} {v : V} {H : Hp} (s : SwapIs L n W v H) : (decide (v = V.non) = true ↔ NoG L n W) := by
  rcases s with ⟨rfl, no⟩ | ⟨d, i, j, t, rfl, f, _⟩
  · exact ⟨fun _ => no, fun _ => decide_eq_true rfl⟩
  · exact ⟨fun z => (by cases of_decide_eq_true z), fun no => (f.no no).elim⟩
theorem loads_small {L : List Int} (h : Loads L) : Smalls L := fun z hz => by have := h z hz; omega
theorem good_small {L : List Int} {n : Nat} {W : Rows} (g : Good L n W) (hl : L.length ≤ 40) (hn : n ≤ 40) : ∀ r ∈ W, Smalls r ∧ r.length ≤ 100 := fun r hr => ⟨fun z hz => by have := g.ent r hr z hz; omega, by rw [g.len r hr]; omega⟩
def sp_judged (K : PySem.W.Frag) : Sp := fun vs H Q _ => ∃ (a b : Addr) (L : List Int) (n : Nat) (W : Rows), vs = [.ref a, .ref b, nV n] ∧ H a = some (.lst (IL L)) ∧ WkL K H b W ∧ Good L n W ∧ Loads L ∧ L.length ≤ 40 ∧ 0 < W.length ∧ W.length ≤ 40 ∧ n ≤ 40 ∧ ∀ H', Same H H' → Q (.bl true) H'
theorem ok_judged {f f1 f2 f3 f4 f5 : Addr} {fd fd1 fd2 fd3 fd4 fd5 : FuncData} (F : Fun K "_law_judged" "_law_judged" s_law_judged f fd) (T : Txt mg) (C_law_totals : Cal P w K mg base 2 "_law_totals" ["loads", "week", "workers"] (sp_ltotals K) f1 fd1) (C_law_first_swap : Cal P w K mg base 3 "_law_first_swap" ["loads", "week", "workers"] (sp_lfirst K) f2 fd2)
    (Cweek_totals : Cal P w K mg base 2 "week_totals" ["loads", "week"] (sp_totals K) f3 fd3) (Cis_settled : Cal P w K mg base 4 "is_settled" ["loads", "week"] (sp_settled K) f4 fd4) (C_law_same : Cal P w K mg base 2 "_law_same" ["told", "due"] (sp_same K) f5 fd5) : FnOkG P w K mg base 5 f fd ["loads", "week", "workers"] (sp_judged K) := by
  refine F.okG sc_law_judged (fun vs H Q E h => ?_) (fun cdv A outer s H vs Q E gA0 hr h => ?_)
  · obtain ⟨a, b, L, n, W, rfl, _⟩ := h
    rfl
  · obtain ⟨a, b, L, n, W, rfl, ha, hWk, gd, ld, hl, h0, hw, hn, q⟩ := h
    have gA : (A.deeper (envOfC "_law_judged" (defScope s_law_judged) s.heap.objs.size f cdv)).guards = some [] := gA0
    have stl : (tots L W n).length ≤ 1000 := by rw [tots_len]; omega
    refine ⟨_, (pss_cons (ps_set (i := 3) sc_law_judged.nd rfl (.inl rfl) (pe_call C_law_totals.ok (hr.mono (by decide)) (by rfl) C_law_totals.mg C_law_totals.kp C_law_totals.b .nil pass0 (pa_cons (pv 0) (pa_cons (pv 1) (pa_cons (pv 2) pa_nil)))))
 (pss_cons (ps_set (i := 4) sc_law_judged.nd rfl (.inl rfl) (pe_cmpR op_isN (pe_call C_law_first_swap.ok (hr.mono (by decide)) (by rfl) C_law_first_swap.mg C_law_first_swap.kp C_law_first_swap.b .nil pass0 (pa_cons (pv 0) (pa_cons (pv 1) (pa_cons (pv 2) pa_nil)))) pe_non (nomark _)))
 (pss_cons (ps_set (i := 5) sc_law_judged.nd rfl (.inl rfl) (pe_callTy call_list_of (by rfl) T.list (by decide +kernel) (pa_cons (pv 0) pa_nil)))
 (pss_cons (ps_setLc (i := 6) (own := [("row", 10)]) (g := gName 10) (tt := tYes) rfl sc_law_judged.nd rfl rfl (sw_true rfl rfl rfl (by decide +kernel)) (pi_list (pv 1)) (blkOk_by (N := ["loads", "week", "workers", "totals", "settled", "passed_loads", "passed", "told", "word", "handed", "row"]) (sc := defScope s_law_judged) (by decide +kernel)) (fun _ _ _ _ _ => (pg_name (i := 10) sc_law_judged.nd rfl (.inl rfl))) (fun _ _ _ _ _ => pts_nil) (fun _ _ _ _ _ => (pe_callTy (r := rListOf K) call_list_of (by rfl) T.list (by decide +kernel) (pa_cons (pv 10) pa_nil))))
 (pss_cons (ps_set (i := 7) sc_law_judged.nd rfl (.inl rfl) (pe_call Cweek_totals.ok (hr.mono (by decide)) (by rfl) Cweek_totals.mg Cweek_totals.kp Cweek_totals.b .nil pass0 (pa_cons (pv 5) (pa_cons (pv 6) pa_nil))))
 (pss_cons (ps_if (pt_not (pt_val (pe_call C_law_same.ok (hr.mono (by decide)) (by rfl) C_law_same.mg C_law_same.kp C_law_same.b .nil pass0 (pa_cons (pv 7) (pa_cons (pv 3) pa_nil)))))
 (pss_one (ps_ret pe_bl))
 pss_nil)
 (pss_cons (ps_expr (pe_bm PySem.F.plainAttrs_list PySem.F.slot_list_append PySem.F.type_list_append mt_append (pv 7) (pa_cons pe_int pa_nil)))
 (pss_cons (ps_if (pt_not (pt_val (pe_call C_law_same.ok (hr.mono (by decide)) (by rfl) C_law_same.mg C_law_same.kp C_law_same.b .nil pass0 (pa_cons (pe_call Cweek_totals.ok (hr.mono (by decide)) (by rfl) Cweek_totals.mg Cweek_totals.kp Cweek_totals.b .nil pass0 (pa_cons (pv 5) (pa_cons (pv 6) pa_nil))) (pa_cons (pv 3) pa_nil)))))
 (pss_one (ps_ret pe_bl))
 pss_nil)
 (pss_cons (ps_set (i := 8) sc_law_judged.nd rfl (.inl rfl) (pe_call Cis_settled.ok (hr.mono (by decide)) (by rfl) Cis_settled.mg Cis_settled.kp Cis_settled.b .nil pass0 (pa_cons (pv 5) (pa_cons (pv 6) pa_nil))))
 (pss_cons (ps_if (PW.pt (pw_or (pt_not (pt_val (pe_callB call_isi (by rfl) T.isinstance (by decide +kernel) (pa_cons (pv 8) (pa_cons (pe_bltn (v := .ty "bool") (by rfl) T.bool (by decide +kernel) rfl) pa_nil))))) (pw_or1 (pt_cmpR op_ne (pv 8) (pv 4) (nomark _)))))
 (pss_one (ps_ret pe_bl))
 pss_nil)
 (pss_cons (ps_if (PW.pt (pw_or (pt_cmpR op_ne (pe_callB (call_reprD gA hr.units) (by rfl) T.repr (by decide +kernel) (pa_cons (pv 5) pa_nil)) (pe_callB (call_reprD gA hr.units) (by rfl) T.repr (by decide +kernel) (pa_cons (pv 0) pa_nil)) (nomark _)) (pw_or1 (pt_cmpR op_ne (pe_callB (call_reprD gA hr.units) (by rfl) T.repr (by decide +kernel) (pa_cons (pv 6) pa_nil)) (pe_callB (call_reprD gA hr.units) (by rfl) T.repr (by decide +kernel) (pa_cons (pv 1) pa_nil)) (nomark _)))))
 (pss_one (ps_ret pe_bl))
 pss_nil)
 (pss_cons (ps_set (i := 9) sc_law_judged.nd rfl (.inl rfl) (pe_callTy call_tuple_of (by rfl) T.tuple (by decide +kernel) (pa_cons (pe_lc (own := [("row", 10)]) (g := gName 10) (tt := tYes) rfl sc_law_judged.nd (pi_list (pv 1)) (blkOk_by (N := ["loads", "week", "workers", "totals", "settled", "passed_loads", "passed", "told", "word", "handed", "row"]) (sc := defScope s_law_judged) (by decide +kernel)) (fun _ _ _ _ _ => (pg_name (i := 10) sc_law_judged.nd rfl (.inl rfl))) (fun _ _ _ _ _ => pts_nil) (fun _ _ _ _ _ => (pe_callTy (r := rTupOf K) call_tuple_of (by rfl) T.tuple (by decide +kernel) (pa_cons (pv 10) pa_nil)))) pa_nil)))
 (pss_cons (ps_if (pt_not (pt_val (pe_call C_law_same.ok (hr.mono (by decide)) (by rfl) C_law_same.mg C_law_same.kp C_law_same.b .nil pass0 (pa_cons (pe_call Cweek_totals.ok (hr.mono (by decide)) (by rfl) Cweek_totals.mg Cweek_totals.kp Cweek_totals.b .nil pass0 (pa_cons (pe_callTy call_tuple_of (by rfl) T.tuple (by decide +kernel) (pa_cons (pv 0) pa_nil)) (pa_cons (pv 9) pa_nil))) (pa_cons (pv 3) pa_nil)))))
 (pss_one (ps_ret pe_bl))
 pss_nil)
 (pss_cons (ps_set (i := 8) sc_law_judged.nd rfl (.inl rfl) (pe_call Cis_settled.ok (hr.mono (by decide)) (by rfl) Cis_settled.mg Cis_settled.kp Cis_settled.b .nil pass0 (pa_cons (pe_callTy call_tuple_of (by rfl) T.tuple (by decide +kernel) (pa_cons (pv 0) pa_nil)) (pa_cons (pv 9) pa_nil))))
 (pss_one (ps_ret (pe_and (pe_callB call_isi (by rfl) T.isinstance (by decide +kernel) (pa_cons (pv 8) (pa_cons (pe_bltn (v := .ty "bool") (by rfl) T.bool (by decide +kernel) rfl) pa_nil))) (pe_one (pe_cmpR op_eq (pv 8) (pv 4) (nomark _)))))))))))))))))))), ?_⟩
    refine ⟨_, rfl, _, rfl, _, rfl, a, b, L, n, W, rfl, SqL.of ha, hWk, gd, hw, hn, fun p1 H1 s1 np1 ep1 => ?_⟩
    refine ⟨_, rfl, _, rfl, _, rfl, a, b, L, n, W, rfl, s1.seq (SqL.of ha), hWk.same s1, gd, ld, hw, hn, told_of fun sv H2 s2 sw => ⟨rfl, ?_⟩⟩
    have hset := swap_none sw
    generalize decide (sv = V.non) = bs at hset ⊢
    have t2 : Same H H2 := s1.trans s2
    refine ⟨_, rfl, a, _, rfl, .inl (t2.seq (SqL.of ha)), fun pl npl => ?_⟩
    have s3 : Same H2 (upd H2 pl (.lst (IL L))) := (Same.refl H2).new npl
    have epl : (upd H2 pl (.lst (IL L))) pl = some (.lst (IL L)) := upd_same
    generalize upd H2 pl (.lst (IL L)) = H3 at s3 epl ⊢
    have hS : Same H H3 := t2.trans s3
    obtain ⟨as, hB, hR⟩ := hWk
    have hal : as.length = W.length := P_len hR
    refine ⟨_, rfl, b, rfl, ⟨_, hS.seq hB⟩, fun D nD => ?_⟩
    refine lc_list (K := K) (a := b) (xs := as.map V.ref) (fun i H' => ∃ as', Same H3 H' ∧ LI H3 H' D as' (W.take i)) ⟨[], (Same.refl H3).new nD, LI.nil nD⟩ (fun i H' _ ⟨_, s2, _⟩ => (hS.trans s2).seq hB) ?_ ?_
    · rintro i y H2 hi ⟨as', s2, li⟩
      obtain ⟨x, hx, rfl⟩ := getn_inv hi
      obtain ⟨r, hr1, hr2⟩ := P_right hR hx
      refine ⟨rfl, _, rfl, x, _, rfl, .inl ((hS.trans s2).seq hr2), fun l nl => ⟨_, ((Same.refl H2).new nl) _ _ li.top, ?_, as' ++ [l], (s2.new nl).mut nD, ?_⟩⟩
      · rw [List.length_map, li.len]
        exact szl (Nat.le_trans (List.length_take_le' _ _) (by omega))
      · rw [take_more hr1]
        exact li.copy s2 nl r
    rintro H4 ⟨as', s4, li⟩
    rw [List.length_map, hal, List.take_length] at li
    have t4 : Same H H4 := hS.trans s4
    have e14 : H4 p1 = some (.lst (IL (tots L W n))) := s4 _ _ (s3 _ _ (s2 _ _ ep1))
    have epl4 := s4 _ _ epl
    -- told
    refine ⟨_, rfl, _, rfl, pl, D, L, n, W, rfl, Sq.of epl4, li.wkl.wk, gd, h0, hw, hn, fun p5 H5 s5 np5 ep5 => ?_⟩
    refine ⟨_, rfl, _, rfl, p5, p1, _, rfl, ep5, SqL.of (s5 _ _ e14), stl, _, rfl, iteF ?_⟩
    refine ⟨_, rfl, .inl ⟨rfl, _, SqL.of ep5⟩, p5, _, _, rfl, rfl, ep5, (by rw [List.length_map]; exact szl (by omega)), ?_⟩
    have s6 : Same H4 (upd H5 p5 (.lst (IL (tots L W n) ++ [V.int 7]))) := s5.mut np5
    generalize upd H5 p5 (.lst (IL (tots L W n) ++ [V.int 7])) = H6 at s6 ⊢
    -- once more
    refine ⟨_, rfl, _, rfl, pl, D, L, n, W, rfl, Sq.of (s6 _ _ epl4), (li.same s6).wkl.wk, gd, h0, hw, hn, fun p7 H7 s7 np7 ep7 => ?_⟩
    have u7 := s6.trans s7
    refine ⟨_, rfl, p7, p1, _, rfl, ep7, SqL.of (u7 _ _ e14), stl, _, rfl, iteF ?_⟩
    refine ⟨_, rfl, _, rfl, pl, D, L, n, W, rfl, Sq.of (u7 _ _ epl4), (li.same u7).wkl.wk, gd, ld, h0, hw, hn, settled_of fun b8 H8 s8 hb8 => ?_⟩
    have ebs : b8 = bs := Bool.eq_iff_iff.mpr (hb8.trans hset.symm)
    subst ebs
    have u8 := u7.trans s8
    refine ⟨_, rfl, _, _, _, _, true, rfl, .ty "bool", .base (.bl _), kit_ty (by decide +kernel), _, rfl, ?_⟩
    refine iteF ⟨_, rfl, _, rfl, rfl, _, rfl, ?_⟩
    rw [decide_eq_true rfl]
    refine iteF ?_
    -- what was passed is as it was
    have S1 := dI_shows (loads_small ld) (l := L) (by omega)
    have S2 := dW_shows (good_small gd hl hn) (by omega)
    have t8 := t4.trans u8
    have dp1 : Dp K H8 (.ref D) (dW W) := dpW (SqL.of (li.same u8).top) (P_mono (fun _ _ e => SqL.of e) (li.same u8).ins)
    have dp2 : Dp K H8 (.ref b) (dW W) := dpW (t8.seq hB) (P_mono (fun _ _ e => t8.seq e) hR)
    refine ⟨_, rfl, pl, _, rfl, dpI (SqL.of (u8 _ _ epl4)), S1.sh, S1.nd, S1.dp, S1.sz, _, rfl, a, _, rfl, dpI (t8.seq (SqL.of ha)), S1.sh, S1.nd, S1.dp, S1.sz, rfl, _, rfl, ?_⟩
    rw [decide_eq_true rfl]
    refine iteF ⟨_, rfl, D, _, rfl, dp1, S2.sh, S2.nd, S2.dp, S2.sz, _, rfl, b, _, rfl, dp2, S2.sh, S2.nd, S2.dp, S2.sz, rfl, _, rfl, ?_⟩
    rw [decide_eq_true rfl]
    refine iteF ?_
    -- the tuples
    refine ⟨_, rfl, b, rfl, ⟨_, t8.seq hB⟩, fun D2 nD2 => ?_⟩
    refine lc_list (K := K) (a := b) (xs := as.map V.ref) (fun i H' => ∃ ts : List Addr, Same H8 H' ∧ H' D2 = some (.lst (ts.map V.ref)) ∧ Paired (fun x r => SqT K H' x (IL r)) ts (W.take i)) ⟨[], (Same.refl H8).new nD2, upd_same, .nil⟩ (fun i H' _ ⟨_, s9, _⟩ => (t8.trans s9).seq hB) ?_ ?_
    · rintro i y H9 hi ⟨ts, s9, eD2, pt⟩
      obtain ⟨x, hx, rfl⟩ := getn_inv hi
      obtain ⟨r, hr1, hr2⟩ := P_right hR hx
      have tl : ts.length ≤ 40 := by
        rw [P_len pt]
        exact Nat.le_trans (List.length_take_le' _ _) hw
      refine ⟨rfl, _, rfl, x, _, rfl, .inl ⟨(t8.trans s9).seq hr2, fun l nl => ⟨_, ((Same.refl H9).new nl) _ _ eD2, ?_, ts ++ [l], (s9.new nl).mut nD2, ?_, ?_⟩⟩⟩
      · rw [List.length_map]
        exact szl (by omega)
      · rw [upd_same, List.map_append]
        rfl
      · rw [take_more hr1]
        have nx : ∀ {z : Addr} {zs : List V}, SqT K (upd H9 l (.tup (IL r))) z zs → SqT K (upd (upd H9 l (.tup (IL r))) D2 (.lst (ts.map V.ref ++ [V.ref l]))) z zs := fun h => sqT_mutL h (((Same.refl H9).new nl) _ _ eD2)
        refine P_append (P_mono (fun _ _ e => nx (sqT_new e nl)) pt) (.cons (nx (SqT.of upd_same)) .nil)
    rintro H9 ⟨ts, s9, eD2, pt⟩
    rw [List.length_map, hal, List.take_length] at pt
    refine ⟨D2, _, rfl, .inl ⟨SqL.of eD2, fun hd nhd => ?_⟩⟩
    have hWT : Wk K (upd H9 hd (.tup (ts.map V.ref))) hd W := ⟨ts, .inr (SqT.of upd_same), P_mono (fun _ _ e => .inr (sqT_new e nhd)) pt⟩
    have sA : Same H4 (upd H9 hd (.tup (ts.map V.ref))) := (u8.trans s9).new nhd
    generalize upd H9 hd (.tup (ts.map V.ref)) = HA at hWT sA ⊢
    have tA := t4.trans sA
    refine ⟨_, rfl, a, _, rfl, .inl ⟨tA.seq (SqL.of ha), fun tl ntl => ?_⟩⟩
    have sB : Same HA (upd HA tl (.tup (IL L))) := (Same.refl HA).new ntl
    have etl : Sq K (upd HA tl (.tup (IL L))) tl (IL L) := .inr (SqT.of upd_same)
    generalize upd HA tl (.tup (IL L)) = HB at sB etl ⊢
    refine ⟨_, rfl, tl, hd, L, n, W, rfl, etl, hWT.same sB, gd, h0, hw, hn, fun pC HC sC npC epC => ?_⟩
    have uC := (sA.trans sB).trans sC
    refine ⟨_, rfl, pC, p1, _, rfl, epC, SqL.of (uC _ _ e14), stl, _, rfl, iteF ?_⟩
    have tC := t4.trans uC
    refine ⟨_, rfl, a, _, rfl, .inl ⟨tC.seq (SqL.of ha), fun tl2 ntl2 => ?_⟩⟩
    have sD : Same HC (upd HC tl2 (.tup (IL L))) := (Same.refl HC).new ntl2
    have etl2 : Sq K (upd HC tl2 (.tup (IL L))) tl2 (IL L) := .inr (SqT.of upd_same)
    generalize upd HC tl2 (.tup (IL L)) = HD at sD etl2 ⊢
    refine ⟨_, rfl, tl2, hd, L, n, W, rfl, etl2, hWT.same ((sB.trans sC).trans sD), gd, ld, h0, hw, hn, settled_of fun bE HE sE hbE => ?_⟩
    have ebs : bE = b8 := Bool.eq_iff_iff.mpr (hbE.trans hset.symm)
    subst ebs
    refine ⟨_, rfl, _, _, _, _, true, rfl, .ty "bool", .base (.bl _), kit_ty (by decide +kernel), _, rfl, iteT ⟨_, rfl, _, rfl, rfl, ?_⟩⟩
    rw [decide_eq_true rfl]
    exact q HE ((tC.trans sD).trans sE)
end
end K29W

namespace K29W
open PySem PySem.Spec PyProof.Rows L2 KH K29 KD
abbrev s_law_answered : Stmt := topS 31
theorem sc_law_answered : FnScope ["loads", "workers", "mornings", "due", "passed", "told", "row"] ["loads", "workers", "mornings", "due"] (defScope s_law_answered) := ⟨rfl, rfl, rfl, by decide +kernel, rfl, by decide +kernel, by decide +kernel⟩

abbrev s_law_first_flaw : Stmt := topS 32
theorem sc_law_first_flaw : FnScope ["loads", "workers", "mornings", "load"] ["loads", "workers", "mornings"] (defScope s_law_first_flaw) := ⟨rfl, rfl, rfl, by decide +kernel, rfl, by decide +kernel, by decide +kernel⟩

abbrev s_law_refused : Stmt := topS 33
theorem sc_law_refused : FnScope ["loads", "workers", "mornings", "word", "number", "passed", "e"] ["loads", "workers", "mornings"] (defScope s_law_refused) := ⟨rfl, rfl, rfl, by decide +kernel, rfl, by decide +kernel, by decide +kernel⟩

section
variable {P : Program} {w : World} {K : PySem.W.Frag} {mg : Str → Option Value} {base : Heap} {CN CB CD CT CU fI : Addr}
theorem Flaw.no {L : List Int} {w m : Int} {wd : Str} {z : Int} (f : Flaw L w m wd z) (h : Fine L w m) : False := by
  cases f with
  | load hi bad _ => exact bad (h.1 z (List.mem_of_getElem? hi))
  | work _ bad => exact bad h.2.1
  | days _ _ bad => exact bad h.2.2
theorem fine_nat {n : Nat} : ((n : Nat) : Int).toNat = n := by omega
def sp_answered (K : PySem.W.Frag) : Sp := fun vs H Q _ => ∃ (a b : Addr) (L : List Int) (n m : Nat) (V : Rows), vs = [.ref a, nV n, nV m, .ref b] ∧ H a = some (.lst (IL L)) ∧ WkL K H b V ∧ Settles L n (turns L.length n m) V ∧ Fine L n m ∧ L.length ≤ 40 ∧ ∀ H', Same H H' → Q (.bl true) H'
theorem ok_answered {f f1 f2 f3 : Addr} {fd fd1 fd2 fd3 : FuncData} (F : Fun K "_law_answered" "_law_answered" s_law_answered f fd) (T : Txt mg) (Cfair_week : CalX P w K mg base 4 "fair_week" ["loads", "workers", "days"] (sp_fair K CN) f1 fd1)
    (C_law_same_week : Cal P w K mg base 3 "_law_same_week" ["told", "due"] (sp_samew K) f2 fd2) (C_law_by_turns : Cal P w K mg base 1 "_law_by_turns" ["count", "workers", "mornings"] (sp_turns K) f3 fd3) : FnOkG P w K mg base 5 f fd ["loads", "workers", "mornings", "due"] (sp_answered K) := by
  refine F.okG sc_law_answered (fun vs H Q E h => ?_) (fun cdv A outer s H vs Q E gA0 hr h => ?_)
  · obtain ⟨a, b, L, n, m, V, rfl, _⟩ := h
    rfl
  · obtain ⟨a, b, L, n, m, V, rfl, ha, hV, st, fine, hl, q⟩ := h
    have gA : (A.deeper (envOfC "_law_answered" (defScope s_law_answered) s.heap.objs.size f cdv)).guards = some [] := gA0
    obtain ⟨gV, lV⟩ := st.good (turns_good L n m)
    rw [turns_len] at lV
    have fn := fine.2.1
    have fm := fine.2.2
    have hlen : ∀ r ∈ V, r.length = n := gV.len
    have S1 := dI_shows (loads_small fine.1) (l := L) (by omega)
    refine ⟨_, (pss_cons (ps_set (i := 4) sc_law_answered.nd rfl (.inl rfl) (pe_callTy call_list_of (by rfl) T.list (by decide +kernel) (pa_cons (pv 0) pa_nil)))
 (pss_cons (ps_set (i := 5) sc_law_answered.nd rfl (.inl rfl) (pe_call Cfair_week.ok (hr.mono (by decide)) (by rfl) Cfair_week.mg Cfair_week.kp Cfair_week.b .nil passL (pa_cons (pv 4) (pa_cons (pv 1) (pa_cons (pv 2) pa_nil)))))
 (pss_cons (ps_if (PW.pt (pw_or (pt_not (pt_val (pe_call C_law_same_week.ok (hr.mono (by decide)) (by rfl) C_law_same_week.mg C_law_same_week.kp C_law_same_week.b .nil pass0 (pa_cons (pv 5) (pa_cons (pv 3) pa_nil))))) (pw_or1 (pt_cmpR op_ne (pe_callB (call_reprD gA hr.units) (by rfl) T.repr (by decide +kernel) (pa_cons (pv 4) pa_nil)) (pe_callB (call_reprD gA hr.units) (by rfl) T.repr (by decide +kernel) (pa_cons (pv 0) pa_nil)) (nomark _)))))
 (pss_one (ps_ret pe_bl))
 pss_nil)
 (pss_cons (ps_for PassesOwn.never rfl (pi_list (pv 5)) (pg_name (i := 6) sc_law_answered.nd rfl (.inl rfl))
 (pss_one (ps_expr (pe_bm0 PySem.F.plainAttrs_list PySem.F.slot_list_clear PySem.F.type_list_clear mt_clear (pv 6)))))
 (pss_cons (ps_expr (pe_bm0 PySem.F.plainAttrs_list PySem.F.slot_list_clear PySem.F.type_list_clear mt_clear (pv 5)))
 (pss_cons (ps_if (pt_not (pt_val (pe_call C_law_same_week.ok (hr.mono (by decide)) (by rfl) C_law_same_week.mg C_law_same_week.kp C_law_same_week.b .nil pass0 (pa_cons (pe_call Cfair_week.ok (hr.mono (by decide)) (by rfl) Cfair_week.mg Cfair_week.kp Cfair_week.b .nil passL (pa_cons (pv 4) (pa_cons (pv 1) (pa_cons (pv 2) pa_nil)))) (pa_cons (pv 3) pa_nil)))))
 (pss_one (ps_ret pe_bl))
 pss_nil)
 (pss_cons (ps_expr (pe_bm0 PySem.F.plainAttrs_list PySem.F.slot_list_clear PySem.F.type_list_clear mt_clear (pv 4)))
 (pss_one (ps_ret (pe_call C_law_same_week.ok (hr.mono (by decide)) (by rfl) C_law_same_week.mg C_law_same_week.kp C_law_same_week.b .nil pass0 (pa_cons (pe_call Cfair_week.ok (hr.mono (by decide)) (by rfl) Cfair_week.mg Cfair_week.kp Cfair_week.b .nil passL (pa_cons (pv 4) (pa_cons (pv 1) (pa_cons (pv 2) pa_nil)))) (pa_cons (pe_call C_law_by_turns.ok (hr.mono (by decide)) (by rfl) C_law_by_turns.mg C_law_by_turns.kp C_law_by_turns.b .nil pass0 (pa_cons pe_int (pa_cons (pv 1) (pa_cons (pv 2) pa_nil)))) pa_nil)))))))))))), ?_⟩
    refine ⟨_, rfl, a, _, rfl, .inl (SqL.of ha), fun pl npl => ?_⟩
    have s1 : Same H (upd H pl (.lst (IL L))) := (Same.refl H).new npl
    have epl : (upd H pl (.lst (IL L))) pl = some (.lst (IL L)) := upd_same
    generalize upd H pl (.lst (IL L)) = H1 at s1 epl ⊢
    refine ⟨_, rfl, _, rfl, _, rfl, pl, L, n, m, rfl, Sq.of epl, hl, fun wd z f => (f.no fine).elim, fun _ V' p as H2 st' s2 li => ?_⟩
    rw [fine_nat, fine_nat] at st'
    have ev := st'.uniq st
    subst ev
    refine ⟨_, rfl, _, rfl, p, b, n, V', rfl, li.wkt, hV.same (s1.trans s2), by omega, hlen, by omega, _, rfl, iteF ?_⟩
    refine ⟨_, rfl, pl, _, rfl, dpI (SqL.of (s2 _ _ epl)), S1.sh, S1.nd, S1.dp, S1.sz, _, rfl, a, _, rfl, dpI (SqL.of ((s1.trans s2) _ _ ha)), S1.sh, S1.nd, S1.dp, S1.sz, rfl, _, rfl, ?_⟩
    rw [decide_eq_true rfl]
    refine iteF ?_
    -- the rows are emptied
    refine ⟨_, rfl, p, rfl, ⟨_, SqL.of li.top⟩, for_list (K := K) (a := p) (xs := as.map V.ref) (fun i σ H' => ∃ v6 : Option V, σ = [some (.ref a), some (nV n), some (nV m), some (.ref b), some (.ref pl), some (.ref p), v6] ∧ Same H1 H' ∧ H' p = some (.lst (as.map V.ref)) ∧ ∀ x ∈ as, ∃ l, H' x = some (.lst l))
      ⟨_, rfl, s2, li.top, fun x hx => ?_⟩ (fun i σ H' _ ⟨_, _, _, e, _⟩ => SqL.of e) ?_ ?_⟩
    · obtain ⟨i, hi⟩ := List.getElem?_of_mem hx
      obtain ⟨r, _, e⟩ := P_right li.ins hi
      exact ⟨_, e⟩
    · rintro i y σ H3 hi ⟨v6, rfl, s3, e3, all3⟩
      obtain ⟨x, hx, rfl⟩ := getn_inv hi
      have hxm := List.mem_of_getElem? hx
      obtain ⟨l, el⟩ := all3 x hxm
      refine ⟨_, rfl, .inl ⟨rfl, _, SqL.of el⟩, x, _, rfl, rfl, el, _, rfl, s3.mut (li.news x hxm), ?_, fun z hz => ?_⟩
      · rw [upd_ne (fun e : p = x => li.na (e ▸ hxm))]
        exact e3
      · by_cases e : z = x
        · subst e
          exact ⟨_, upd_same⟩
        · obtain ⟨l', e'⟩ := all3 z hz
          exact ⟨l', by rw [upd_ne e]; exact e'⟩
    rintro σ H3 ⟨v6, rfl, s3, e3, _⟩
    refine ⟨_, rfl, .inl ⟨rfl, _, SqL.of e3⟩, p, _, rfl, rfl, e3, ?_⟩
    have s4 : Same H1 (upd H3 p (.lst [])) := s3.mut li.new
    generalize upd H3 p (.lst []) = H4 at s4 ⊢
    -- asked again
    refine ⟨_, rfl, _, rfl, _, rfl, pl, L, n, m, rfl, Sq.of (s4 _ _ epl), hl, fun wd z f => (f.no fine).elim, fun _ V2 p5 as5 H5 st2 s5 li5 => ?_⟩
    rw [fine_nat, fine_nat] at st2
    have ev := st2.uniq st
    subst ev
    have u5 := s4.trans s5
    refine ⟨_, rfl, p5, b, n, V2, rfl, li5.wkt, hV.same (s1.trans u5), by omega, hlen, by omega, _, rfl, iteF ?_⟩
    -- passed.clear()
    refine ⟨_, rfl, .inl ⟨rfl, _, SqL.of (u5 _ _ epl)⟩, pl, _, rfl, rfl, u5 _ _ epl, ?_⟩
    have s6 : Same H (upd H5 pl (.lst [])) := (s1.trans u5).mut npl
    have e6 : (upd H5 pl (.lst [])) pl = some (.lst (IL [])) := upd_same
    generalize upd H5 pl (.lst []) = H6 at s6 e6 ⊢
    have fine0 : Fine [] n m := ⟨fun x hx => (by cases hx), ⟨(by show max 1 ((0 : Nat) : Int) ≤ (n : Int); omega), fn.2⟩, fm⟩
    refine ⟨_, rfl, _, rfl, _, rfl, pl, [], n, m, rfl, Sq.of e6, by decide, fun wd z f => (f.no fine0).elim, fun _ V3 p7 as7 H7 st3 s7 li7 => ?_⟩
    rw [fine_nat, fine_nat] at st3
    have ev := st3.uniq (.stop (nog_nil _))
    subst ev
    refine ⟨_, rfl, _, rfl, 0, n, m, rfl, by omega, by omega, by omega, by omega, fun p8 H8 s8 hW => ?_⟩
    have hg : Good [] n (turns 0 n m) := turns_good [] n m
    exact ⟨p7, p8, n, _, rfl, (li7.same s8).wkt, hW, by rw [show (turns ([] : List Int).length n m).length = m from turns_len _ _ _]; omega, hg.len, by omega, q H8 ((s6.trans s7).trans s8)⟩
/-! ### the first wrong argument, by the law -/
theorem notfine {L : List Int} {wk m : Int} (nf : ¬ Fine L wk m) (ld : Loads L) (h : max 1 (L.length : Int) ≤ wk ∧ wk ≤ 8) : ¬ (1 ≤ m ∧ m ≤ 7) := fun z => nf ⟨ld, h, z⟩
def sp_flaw (K : PySem.W.Frag) : Sp := fun vs H Q _ => ∃ (a : Addr) (L : List Int) (wk m : Int), vs = [.ref a, .int wk, .int m] ∧ SqL K H a (IL L) ∧ L.length ≤ 40 ∧ ¬ Fine L wk m ∧ ∀ wd z, Flaw L wk m wd z → ∀ t H', Same H H' → H' t = some (.tup [.str wd, .int z]) → Q (.ref t) H'
theorem ok_flaw {f : Addr} {fd : FuncData} (F : Fun K "_law_first_flaw" "_law_first_flaw" s_law_first_flaw f fd) (T : Txt mg) : FnOk P w K mg base CX0 1 f fd ["loads", "workers", "mornings"] (sp_flaw K) := by
  refine F.ok sc_law_first_flaw (fun vs H Q E h => ?_) (fun cdv A outer s H vs Q E hr h => ?_)
  · obtain ⟨a, L, wk, m, rfl, _⟩ := h
    rfl
  · obtain ⟨a, L, wk, m, rfl, hS, hl, nf, q⟩ := h
    have ret : ∀ {wd z}, Flaw L wk m wd z → ∀ t, H t = none → Q (.ref t) (upd H t (.tup [.str wd, .int z])) := fun f t nt => q _ _ f t _ ((Same.refl H).new nt) upd_same
    refine ⟨_, (pss_cons (ps_for PassesOwn.never rfl (pi_list (pv 0)) (pg_name (i := 3) sc_law_first_flaw.nd rfl (.inl rfl))
 (pss_one (ps_if (pt_not (pt_chain op_le op_le pe_int (pv 3) pe_int))
 (pss_one (ps_ret (pe_tup (pa_cons pe_str (pa_cons (pv 3) pa_nil)))))
 pss_nil)))
 (pss_cons (ps_if (PW.pt (pw_or (pt_cmpR op_lt (pv 1) (pe_callB call_len_seq (by rfl) T.len (by decide +kernel) (pa_cons (pv 0) pa_nil)) (nomark _)) (pw_or (pt_cmpR op_lt (pv 1) pe_int (nomark _)) (pw_or1 (pt_cmpR op_gt (pv 1) pe_int (nomark _))))))
 (pss_one (ps_ret (pe_tup (pa_cons pe_str (pa_cons (pv 1) pa_nil)))))
 pss_nil)
 (pss_one (ps_ret (pe_tup (pa_cons pe_str (pa_cons (pv 2) pa_nil))))))), ?_⟩
    refine ⟨_, rfl, a, rfl, ⟨_, hS⟩, for_list (K := K) (a := a) (xs := IL L) (fun i σ H' => ∃ v3 : Option V, σ = [some (.ref a), some (.int wk), some (.int m), v3] ∧ H' = H ∧ ∀ (j : Nat) (y : Int), j < i → L[j]? = some y → 0 ≤ y ∧ y ≤ 600) ⟨_, rfl, rfl, fun j y h => absurd h (Nat.not_lt_zero j)⟩ (fun i σ H' _ ⟨_, _, e, _⟩ => by rw [e]; exact hS) ?_ ?_⟩
    · rintro i x σ H' hi ⟨v3, rfl, e0, fine⟩
      subst H'
      obtain ⟨z, hz, rfl⟩ := getn_inv hi
      have bad : ¬ (0 ≤ z ∧ z ≤ 600) → _ := fun b => ret (.load hz b fine)
      refine ⟨_, rfl, _, _, rfl, rfl, _, rfl, ite2 (fun c1 => ?_) (fun c1 => ?_)⟩
      · refine ⟨_, _, rfl, rfl, _, rfl, ?_⟩
        by_cases c2 : z ≤ 600
        · rw [decide_eq_true c2]
          refine iteF ⟨_, rfl, rfl, fun j y hj hy => ?_⟩
          by_cases e : j = i
          · subst e
            rw [hz] at hy
            cases hy
            exact ⟨of_decide_eq_true c1, c2⟩
          · exact fine j y (by omega) hy
        · rw [decide_eq_false c2]
          exact iteT ⟨_, rfl, (by show 2 ≤ sizeLine; decide), fun t nt => bad (fun y => c2 y.2) t nt⟩
      · exact ⟨_, rfl, iteT ⟨_, rfl, (by show 2 ≤ sizeLine; decide), fun t nt => bad (fun y => c1 (decide_eq_true y.1)) t nt⟩⟩
    · rintro σ H' ⟨v3, rfl, e0, fine⟩
      subst H'
      have ld : Loads L := fun x hx => by
        obtain ⟨j, hj⟩ := List.getElem?_of_mem hx
        exact fine j x (by rw [List.length_map]; exact lt_get hj) hj
      have wbad : ¬ (max 1 (L.length : Int) ≤ wk ∧ wk ≤ 8) → ∀ t, H t = none → Q (.ref t) (upd H t (.tup [.str "workers", .int wk])) := fun b => ret (.work ld b)
      refine ⟨_, rfl, _, rfl, a, _, rfl, .inl hS, _, _, rfl, rfl, _, rfl, ?_⟩
      rw [show (((IL L).length : Nat) : Int) = (L.length : Int) by rw [List.length_map]]
      by_cases c1 : wk < (L.length : Int)
      · rw [decide_eq_true c1]
        exact iteT ⟨_, rfl, (by show 2 ≤ sizeLine; decide), fun t nt => wbad (by omega) t nt⟩
      rw [decide_eq_false c1]
      refine iteF ⟨_, rfl, _, _, rfl, rfl, _, rfl, ?_⟩
      by_cases c2 : wk < 1
      · rw [decide_eq_true c2]
        exact iteT ⟨_, rfl, (by show 2 ≤ sizeLine; decide), fun t nt => wbad (by omega) t nt⟩
      rw [decide_eq_false c2]
      refine iteF ⟨_, rfl, _, _, rfl, rfl, _, rfl, ?_⟩
      by_cases c3 : 8 < wk
      · rw [decide_eq_true (show wk > 8 from c3)]
        exact iteT ⟨_, rfl, (by show 2 ≤ sizeLine; decide), fun t nt => wbad (by omega) t nt⟩
      rw [decide_eq_false (show ¬ wk > 8 from c3)]
      refine iteF ⟨_, rfl, (by show 2 ≤ sizeLine; decide), fun t nt => ret (.days ld (by omega) (notfine nf ld (by omega))) t nt⟩
end
end K29W

namespace K29W
open PySem PySem.Spec PyProof.Rows L2 KH K29 KD
/-- a def that may be called in an except suite, as its callers know it -/
structure CalQ (P : Program) (w : World) (K : PySem.W.Frag) (mg : Str → Option Value) (base : Heap) (k : Nat) (x : Str) (ps : List Str) (sp : Sp) (f : Addr) (fd : FuncData) : Prop where
  ok : FnOkQ P w K mg base k f fd ps sp
  mg : mg x = some (.ref f)
  kp : PySem.W.keepIn K (.ref f) = true
  b : Binds K fd ps []
section
variable {P : Program} {w : World} {K : PySem.W.Frag} {mg : Str → Option Value} {base : Heap} {CN CB CD CT CU fI : Addr}
theorem ok_numberQ {f : Addr} {fd : FuncData} (F : Fun K "_law_number" "_law_number" s_law_number f fd) (T : Txt mg) : FnOkQ P w K mg base 1 f fd ["thing"] sp_number := by
  refine F.okQ sc_law_number (fun vs H Q E h => ?_) (fun cdv A outer s H vs Q E hr h => ?_)
  · obtain ⟨z, rfl, _⟩ := h
    rfl
  · obtain ⟨z, rfl, q⟩ := h
    refine ⟨_, (pss_one (ps_ret (pe_and (pe_callB call_isi (by rfl) T.isinstance (by decide +kernel) (pa_cons (pv 0) (pa_cons (pe_bltn (v := .ty "int") (by rfl) T.int (by decide +kernel) rfl) pa_nil))) (pe_one (pe_not (pe_callB call_isi (by rfl) T.isinstance (by decide +kernel) (pa_cons (pv 0) (pa_cons (pe_bltn (v := .ty "bool") (by rfl) T.bool (by decide +kernel) rfl) pa_nil)))))))), ?_⟩
    refine ⟨_, rfl, _, _, _, _, true, rfl, .ty "int", .base (.int _), kit_ty (by decide +kernel), _, rfl, iteT ?_⟩
    exact ⟨_, rfl, _, _, _, _, false, rfl, .ty "bool", .base (.int _), kit_ty (by decide +kernel), _, rfl, q⟩
theorem Flaw.uniq {L : List Int} {wk m : Int} {wd wd' : Str} {z z' : Int} (f : Flaw L wk m wd z) (g : Flaw L wk m wd' z') : wd = wd' ∧ z = z' := by
  have ldno : ∀ {i : Nat} {z : Int}, Loads L → L[i]? = some z → ¬ (0 ≤ z ∧ z ≤ 600) → False := fun ld hi bad => bad (ld _ (List.mem_of_getElem? hi))
  cases f with
  | @load i z hi bad fine =>
    cases g with
    | @load i' z' hi' bad' fine' =>
      have e : i = i' := by
        rcases Nat.lt_trichotomy i i' with h | h | h
        · exact (bad (fine' i z h hi)).elim
        · exact h
        · exact (bad' (fine i' z' h hi')).elim
      subst e
      rw [hi] at hi'
      cases hi'
      exact ⟨rfl, rfl⟩
    | work ld _ => exact (ldno ld hi bad).elim
    | days ld _ _ => exact (ldno ld hi bad).elim
  | work ld bad =>
    cases g with
    | load hi bad' _ => exact (ldno ld hi bad').elim
    | work _ _ => exact ⟨rfl, rfl⟩
    | days _ ok _ => exact (bad ok).elim
  | days ld ok bad =>
    cases g with
    | load hi bad' _ => exact (ldno ld hi bad').elim
    | work _ bad' => exact (bad' ok).elim
    | days _ _ _ => exact ⟨rfl, rfl⟩
theorem lk_what {x y : V} : List.lookup ("what" : Str) [(("value" : Str), x), (("what" : Str), y)] = some y := by
  have e : (("what" : Str) == ("value" : Str)) = false := by decide
  simp [List.lookup, e]
theorem lk_value {x y : V} : List.lookup ("value" : Str) [(("value" : Str), x), (("what" : Str), y)] = some x := by simp [List.lookup]
def sp_refused (K : PySem.W.Frag) : Sp := fun vs H Q _ => ∃ (a : Addr) (L : List Int) (wk m : Int), vs = [.ref a, .int wk, .int m] ∧ H a = some (.lst (IL L)) ∧ L.length ≤ 40 ∧ Smalls L ∧ ¬ Fine L wk m ∧ ∀ H', Same H H' → Q (.bl true) H'
theorem ok_refused {f f1 f2 f3 : Addr} {fd fd1 fd2 fd3 : FuncData} (F : Fun K "_law_refused" "_law_refused" s_law_refused f fd) (T : Txt mg) (XB : Exc P K mg CN CB CD CT CU fI) (Cfair_week : CalX P w K mg base 4 "fair_week" ["loads", "workers", "days"] (sp_fair K CN) f1 fd1)
    (C_law_first_flaw : Cal P w K mg base 1 "_law_first_flaw" ["loads", "workers", "mornings"] (sp_flaw K) f2 fd2) (C_law_number : CalQ P w K mg base 1 "_law_number" ["thing"] sp_number f3 fd3) : FnOkG P w K mg base 5 f fd ["loads", "workers", "mornings"] (sp_refused K) := by
  refine F.okG sc_law_refused (fun vs H Q E h => ?_) (fun cdv A outer s H vs Q E gA0 hr h => ?_)
  · obtain ⟨a, L, wk, m, rfl, _⟩ := h
    rfl
  · obtain ⟨a, L, wk, m, rfl, ha, hl, sm, nf, q⟩ := h
    have gA : (A.deeper (envOfC "_law_refused" (defScope s_law_refused) s.heap.objs.size f cdv)).guards = some [] := gA0
    have S1 := dI_shows sm (by omega)
    have nW : PySem.W.findIn K (.ref CN) "what" = some none := XB.own.noN "what" (by simp)
    have nV' : PySem.W.findIn K (.ref CN) "value" = some none := XB.own.noN "value" (by simp)
    refine ⟨_, (pss_cons (ps_asg (pe_call C_law_first_flaw.ok (hr.mono (by decide)) (by rfl) C_law_first_flaw.mg C_law_first_flaw.kp C_law_first_flaw.b .nil pass0 (pa_cons (pv 0) (pa_cons (pv 1) (pa_cons (pv 2) pa_nil)))) (pg_tup rfl (pgs_cons (pg_name (i := 3) sc_law_refused.nd rfl (.inl rfl)) (pgs_cons (pg_name (i := 4) sc_law_refused.nd rfl (.inl rfl)) pgs_nil))))
      (pss_cons (ps_set (i := 5) sc_law_refused.nd rfl (.inl rfl) (pe_callTy call_list_of (by rfl) T.list (by decide +kernel) (pa_cons (pv 0) pa_nil)))
      (pss_cons (ps_try_as (i := 6) (tb := fun W => tDrop (tCallS (sp_fair K CN) (WE W) (tCons (tVar 5) (tCons (tVar 1) (tCons (tVar 2) tNil))))) (Wout := fun _ _ _ _ => False) rfl rfl sc_law_refused.nd rfl rfl ⟨rfl, by decide, Or.inl XB.gB⟩ takes0
          (fun W pn xe tk _ => pss_one (ps_expr (by exact (pe_callS Cfair_week.ok hr rfl Cfair_week.mg Cfair_week.kp Cfair_week.b (fun σ => passAt tk σ) (by exact (pa_cons (pv 5) (pa_cons (pv 1) (pa_cons (pv 2) pa_nil))))))))
          (fun a oe cls d pn hz hf => (pss_cons (ps_if (PW.pt (pw_or (pt_not (pt_val (pe_callB (r := rIsC K a cls d) (call_isC hz hf) (by rfl) T.isinstance (by decide +kernel) (pa_cons (pv 6) (pa_cons (pe_glob (v := .ref CN) rfl XB.gN rfl) pa_nil))))) (pw_or1 (pt_val (pe_callB (r := rIsCT K a cls d) (call_isCT hz hf) (by rfl) T.isinstance (by decide +kernel) (pa_cons (pv 6) (pa_cons (pe_tup (pa_cons (pe_glob (v := .ref CD) rfl XB.gD rfl) (pa_cons (pe_glob (v := .ref CT) rfl XB.gT rfl) (pa_cons (pe_glob (v := .ref CU) rfl XB.gU rfl) pa_nil)))) pa_nil)))))))
            (pss_one (ps_ret pe_bl)) pss_nil)
            (pss_cons (ps_if (PW.pt (pw_or (pt_not (pt_val (pe_callB (r := rIsi K) call_isi (by rfl) T.isinstance (by decide +kernel) (pa_cons (pe_xf XB.xf nW hz hf (pv 6)) (pa_cons (pe_bltn (v := .ty "str") (by rfl) T.str (by decide +kernel) rfl) pa_nil))))) (pw_or (pt_not (pt_val (pe_callQ C_law_number.ok ⟨(hr.mono (j := 1) (by decide)).dp, (hr.mono (j := 1) (by decide)).un⟩ (by rfl) C_law_number.mg C_law_number.kp C_law_number.b (pa_cons (pe_xf XB.xf nV' hz hf (pv 6)) pa_nil)))) (pw_or1 (pt_cmpR op_ne (pe_callB (r := rRepr K) (call_reprD gA hr.units) (by rfl) T.repr (by decide +kernel) (pa_cons (pv 5) pa_nil)) (pe_callB (r := rRepr K) (call_reprD gA hr.units) (by rfl) T.repr (by decide +kernel) (pa_cons (pv 0) pa_nil)) (nomark _))))))
            (pss_one (ps_ret pe_bl)) pss_nil)
            (pss_one (ps_ret (pe_and (pe_cmpR op_eq (pe_xf XB.xf nW hz hf (pv 6)) (pv 3) (nomark _)) (pe_one (pe_cmpR op_eq (pe_xf XB.xf nV' hz hf (pv 6)) (pv 4) (nomark _))))))))))
      (pss_one (ps_ret pe_bl))))), ?_⟩
    refine ⟨_, rfl, _, rfl, _, rfl, a, L, wk, m, rfl, SqL.of ha, hl, nf, fun wd z fl t H1 s1 et => ?_⟩
    refine ⟨t, _, rfl, SqT.of et, rfl, _, _, rfl, _, _, rfl, rfl, ?_⟩
    refine ⟨_, rfl, a, _, rfl, .inl (s1.seq (SqL.of ha)), fun pl npl => ?_⟩
    have s2 : Same H1 (upd H1 pl (.lst (IL L))) := (Same.refl H1).new npl
    have epl : (upd H1 pl (.lst (IL L))) pl = some (.lst (IL L)) := upd_same
    generalize upd H1 pl (.lst (IL L)) = H2 at s2 epl ⊢
    have t2 := s1.trans s2
    refine ⟨_, rfl, _, rfl, _, rfl, pl, L, wk, m, rfl, Sq.of epl, hl, fun wd' z' fl' d H3 s3 nd ed => ?_, fun fine => (nf fine).elim⟩
    obtain ⟨e1, e2⟩ := fl'.uniq fl
    subst e1 e2
    have t3 := t2.trans s3
    refine ⟨true, XB.te, fun _ x nx => ?_, fun z => Bool.noConfusion z⟩
    refine ⟨_, rfl, CN, _, _, true, rfl, ⟨rfl, XB.ec, d, _, rfl, ed⟩, .own CN, XB.kN, _, rfl, iteF ?_⟩
    refine ⟨_, rfl, (by show 3 ≤ sizeLine; decide), fun tp ntp => ?_⟩
    have s4 : Same H3 (upd H3 tp (.tup [.ref CD, .ref CT, .ref CU])) := (Same.refl H3).new ntp
    have etp : (upd H3 tp (.tup [.ref CD, .ref CT, .ref CU])) tp = some (.tup [.ref CD, .ref CT, .ref CU]) := upd_same
    generalize upd H3 tp (.tup [.ref CD, .ref CT, .ref CU]) = H4 at s4 etp ⊢
    have ed4 := s4 _ _ ed
    have t4 := t3.trans s4
    refine ⟨CN, tp, _, _, false, rfl, ⟨rfl, XB.ec, d, _, rfl, ed4⟩, etp, .cons (.own CD) (.cons (.own CT) (.cons (.own CU) .nil)), XB.kO, _, rfl, iteF ?_⟩
    refine ⟨_, rfl, rfl, rfl, d, _, _, rfl, ed4, lk_what, _, _, _, _, true, rfl, .ty "str", .base (.str _), kit_ty (by decide +kernel), _, rfl, iteF ?_⟩
    refine ⟨_, rfl, rfl, rfl, d, _, _, rfl, ed4, lk_value, _, rfl, _, rfl, iteF ?_⟩
    refine ⟨_, rfl, pl, _, rfl, dpI (SqL.of ((s3.trans s4) _ _ epl)), S1.sh, S1.nd, S1.dp, S1.sz, _, rfl, a, _, rfl, dpI (SqL.of (t4 _ _ ha)), S1.sh, S1.nd, S1.dp, S1.sz, rfl, _, rfl, ?_⟩
    rw [decide_eq_true rfl]
    refine iteF ?_
    refine ⟨_, rfl, rfl, rfl, d, _, _, rfl, ed4, lk_what, _, rfl, rfl, _, rfl, ?_⟩
    rw [decide_eq_true rfl]
    refine iteT ⟨_, rfl, rfl, rfl, d, _, _, rfl, ed4, lk_value, _, rfl, rfl, ?_⟩
    rw [decide_eq_true rfl]
    exact q H4 t4
end
end K29W

namespace K29W
open PySem PySem.Spec PyProof.Rows L2 KH K29 KD
abbrev s_law_flaws_refused : Stmt := topS 34
theorem sc_law_flaws_refused : FnScope ["cell", "loads", "workers", "mornings", "drawn", "kind", "rows", "wrong", "crew", "length", "k"] ["cell", "loads", "workers", "mornings"] (defScope s_law_flaws_refused) := ⟨rfl, rfl, rfl, by decide +kernel, rfl, by decide +kernel, by decide +kernel⟩

/-! ### tests of one number against written ones -/
theorem eqT {i : Nat} {z : Nat} {c : Int} {σ : L2.St} {H : Hp} {Q : Bool → Hp → Prop} (h : σ[i]? = some (some (nV z))) (q : Q (decide ((z : Int) = c)) H) : tTest (tOp rEq (tVar i) (tC (.int c))) σ H Q := by
  refine ⟨_, h, rfl, _, rfl, ?_⟩
  rw [dec_int]
  have : ((z : Int) == c) = decide ((z : Int) = c) := by
    by_cases e : (z : Int) = c
    · rw [decide_eq_true e, e]
      simp
    · rw [decide_eq_false e]
      simpa using e
  rw [this]
  exact q
theorem or2T {i : Nat} {z : Nat} {c d : Int} {σ : L2.St} {H : Hp} {Q : Bool → Hp → Prop} (h : σ[i]? = some (some (nV z))) (q : ∀ b, (b = true ↔ ((z : Int) = c ∨ (z : Int) = d)) → Q b H) :
    tOr (tTest (tOp rEq (tVar i) (tC (.int c)))) (tTest (tOp rEq (tVar i) (tC (.int d)))) σ H Q := by
  refine eqT h ?_
  by_cases e : (z : Int) = c
  · rw [decide_eq_true e, if_pos rfl]
    exact q true ⟨fun _ => .inl e, fun _ => rfl⟩
  · rw [decide_eq_false e, if_neg Bool.false_ne_true]
    refine eqT h (q _ ?_)
    rw [decide_eq_true_iff]
    exact ⟨.inr, fun y => y.resolve_left e⟩
theorem or3T {i : Nat} {z : Nat} {c d f : Int} {σ : L2.St} {H : Hp} {Q : Bool → Hp → Prop} (h : σ[i]? = some (some (nV z))) (q : ∀ b, (b = true ↔ ((z : Int) = c ∨ (z : Int) = d ∨ (z : Int) = f)) → Q b H) :
    tOr (tTest (tOp rEq (tVar i) (tC (.int c)))) (tOr (tTest (tOp rEq (tVar i) (tC (.int d)))) (tTest (tOp rEq (tVar i) (tC (.int f))))) σ H Q := by
  refine eqT h ?_
  by_cases e : (z : Int) = c
  · rw [decide_eq_true e, if_pos rfl]
    exact q true ⟨fun _ => .inl e, fun _ => rfl⟩
  · rw [decide_eq_false e, if_neg Bool.false_ne_true]
    refine or2T h fun b hb => q b ?_
    rw [hb]
    exact ⟨.inr, fun y => y.resolve_left e⟩
theorem atS {T : TS} {D : Ends} {σ σ' : L2.St} {H : Hp} (e : σ = σ') (q : T D σ' H) : T D σ H := by
  rw [e]
  exact q
/-- if k == c or k == d: x = e -/
theorem ifset2 {i j : Nat} {z : Nat} {c d : Int} {te : TE} {rest : TS} {D : Ends} {σ : L2.St} {H : Hp} {v w' : V} (h : σ[i]? = some (some (nV z))) (hj : σ[j]? = some (some w')) (ev : ∀ Q : VK, Q v H → te σ H Q)
    (q : ∀ u, ((z : Int) = c ∨ (z : Int) = d → u = v) → (¬ ((z : Int) = c ∨ (z : Int) = d) → u = w') → rest D (σ.set j (some u)) H) :
    tSeq (tIfS (tOr (tTest (tOp rEq (tVar i) (tC (.int c)))) (tTest (tOp rEq (tVar i) (tC (.int d))))) (tAsg te (gName j)) tNext) rest D σ H := by
  refine or2T h fun b hb => ?_
  cases b with
  | true =>
    rw [if_pos rfl]
    have hc := hb.mp rfl
    exact ev _ (q v (fun _ => rfl) (fun n => (n hc).elim))
  | false =>
    rw [if_neg Bool.false_ne_true]
    have e : σ.set j (some w') = σ := by
      apply List.ext_getElem?
      intro k
      rw [List.getElem?_set]
      by_cases ek : j = k
      · subst ek
        rw [if_pos rfl, if_pos (List.getElem?_eq_some_iff.mp hj).1, hj]
      · rw [if_neg ek]
    have := q w' (fun y => Bool.noConfusion (hb.mpr y)) (fun _ => rfl)
    rw [e] at this
    exact this
/-! ### a number put into a list -/
def ins (R : List Int) (i : Nat) (y : Int) : List Int := R.take i ++ [y] ++ R.drop i
theorem ins_len {R : List Int} {i : Nat} {y : Int} (h : i ≤ R.length) : (ins R i y).length = R.length + 1 := by
  unfold ins
  rw [List.length_append, List.length_append, List.length_take, List.length_drop]
  simp
  omega
theorem ins_mem {R : List Int} {i : Nat} {y x : Int} (h : x ∈ ins R i y) : x = y ∨ x ∈ R := by
  unfold ins at h
  rcases List.mem_append.mp h with h | h
  · rcases List.mem_append.mp h with h | h
    · exact .inr (List.mem_of_mem_take h)
    · exact .inl (List.mem_singleton.mp h)
  · exact .inr (List.mem_of_mem_drop h)
theorem ins_new {R : List Int} {i : Nat} {y : Int} : y ∈ ins R i y := by
  unfold ins
  simp
theorem ins_old {R : List Int} {i : Nat} {y x : Int} (h : x ∈ R) : x ∈ ins R i y := by
  unfold ins
  rw [← List.take_append_drop i R] at h
  rcases List.mem_append.mp h with h | h
  · simp [h]
  · simp [h]
theorem ins_IL (R : List Int) (i : Nat) (y : Int) : (IL R).take i ++ [V.int y] ++ (IL R).drop i = IL (ins R i y) := by
  unfold ins IL
  rw [List.map_append, List.map_append, List.map_take, List.map_drop]
  rfl
/-- a list that holds a wrong load -/
def Wrong (R : List Int) : Prop := ∃ y ∈ R, ¬ (0 ≤ y ∧ y ≤ 600)
theorem Wrong.no {R : List Int} (h : Wrong R) (l : Loads R) : False := by
  obtain ⟨y, hy, b⟩ := h
  exact b (l y hy)
section
variable {P : Program} {w : World} {K : PySem.W.Frag} {mg : Str → Option Value} {base : Heap} {CN CB CD CT CU fI : Addr}
def sp_flaws (K : PySem.W.Frag) : Sp := fun vs H Q _ => ∃ (cl : Int) (a : Addr) (L : List Int) (n m : Nat), vs = [.int cl, .ref a, nV n, nV m] ∧ H a = some (.lst (IL L)) ∧ Loads L ∧ L.length ≤ 8 ∧ 1 ≤ n ∧ n ≤ 8 ∧ 1 ≤ m ∧ m ≤ 7 ∧ ∀ H', Same H H' → Q (.bl true) H'
theorem ok_flaws {f f1 f2 : Addr} {fd fd1 fd2 : FuncData} (F : Fun K "_law_flaws_refused" "_law_flaws_refused" s_law_flaws_refused f fd) (T : Txt mg) (C_law_draws : Cal P w K mg base 1 "_law_draws" ["cell", "sizes"] (sp_draws K) f1 fd1) (C_law_refused : CalG P w K mg base 5 "_law_refused" ["loads", "workers", "mornings"] (sp_refused K) f2 fd2) : FnOkG P w K mg base 6 f fd ["cell", "loads", "workers", "mornings"] (sp_flaws K) := by
  refine F.okG sc_law_flaws_refused (fun vs H Q E h => ?_) (fun cdv A outer s H vs Q E gA0 hr h => ?_)
  · obtain ⟨cl, a, L, n, m, rfl, _⟩ := h
    rfl
  · obtain ⟨cl, a, L, n, m, rfl, ha, ld, hl, hn1, hn, hm1, hm, q⟩ := h
    have gA : (A.deeper (envOfC "_law_flaws_refused" (defScope s_law_flaws_refused) s.heap.objs.size f cdv)).guards = some [] := gA0
    refine ⟨_, (pss_cons (ps_set (i := 4) sc_law_flaws_refused.nd rfl (.inl rfl) (pe_call C_law_draws.ok (hr.mono (by decide)) (by rfl) C_law_draws.mg C_law_draws.kp C_law_draws.b .nil pass0 (pa_cons (pv 0) (pa_cons (pe_lst (pa_cons pe_int (pa_cons pe_int (pa_cons pe_int (pa_cons pe_int (pa_cons pe_int (pa_cons pe_int pa_nil))))))) pa_nil))))
 (pss_cons (ps_set (i := 5) sc_law_flaws_refused.nd rfl (.inl rfl) (pe_ix ix_list (pv 4) pe_int (fun _ _ => rfl)))
 (pss_cons (ps_set (i := 6) sc_law_flaws_refused.nd rfl (.inl rfl) (pe_callTy call_list_of (by rfl) T.list (by decide +kernel) (pa_cons (pv 1) pa_nil)))
 (pss_cons (ps_if (PW.pt (pw_or (pt_cmpR op_eq (pv 5) pe_int (nomark _)) (pw_or (pt_cmpR op_eq (pv 5) pe_int (nomark _)) (pw_or1 (pt_cmpR op_eq (pv 5) pe_int (nomark _))))))
 (pss_cons (ps_set (i := 7) sc_law_flaws_refused.nd rfl (.inl rfl) (pe_lst (pa_cons (pe_op op_sub (pe_un un_neg pe_int) (pe_ix ix_list (pv 4) pe_int (fun _ _ => rfl))) (pa_cons (pe_op op_add pe_int (pe_ix ix_list (pv 4) pe_int (fun _ _ => rfl))) pa_nil))))
 (pss_cons (ps_expr (pe_bm PySem.F.plainAttrs_list PySem.F.slot_list_insert PySem.F.type_list_insert mt_insert (pv 6) (pa_cons (pe_op op_modN (pe_callTy call_int1 (by rfl) T.int (by decide +kernel) (pa_cons (pe_ix ix_list (pv 4) pe_int (fun _ _ => rfl)) pa_nil)) (pe_op op_add (pe_callB call_len_seq (by rfl) T.len (by decide +kernel) (pa_cons (pv 6) pa_nil)) pe_int)) (pa_cons (pe_ix ix_list (pv 7) (pe_ix ix_list (pv 4) pe_int (fun _ _ => rfl)) (fun _ _ => rfl)) pa_nil))))
 (pss_one (ps_if (pt_cmpR op_eq (pv 5) pe_int (nomark _))
 (pss_one (ps_expr (pe_bm PySem.F.plainAttrs_list PySem.F.slot_list_insert PySem.F.type_list_insert mt_insert (pv 6) (pa_cons (pe_op op_modN (pe_callTy call_int1 (by rfl) T.int (by decide +kernel) (pa_cons (pe_ix ix_list (pv 4) pe_int (fun _ _ => rfl)) pa_nil)) (pe_op op_add (pe_callB call_len_seq (by rfl) T.len (by decide +kernel) (pa_cons (pv 6) pa_nil)) pe_int)) (pa_cons (pe_ix ix_list (pv 7) (pe_op op_sub pe_int (pe_ix ix_list (pv 4) pe_int (fun _ _ => rfl))) (fun _ _ => rfl)) pa_nil)))))
 pss_nil))))
 pss_nil)
 (pss_cons (ps_set (i := 8) sc_law_flaws_refused.nd rfl (.inl rfl) (pv 2))
 (pss_cons (ps_if (PW.pt (pw_or (pt_cmpR op_eq (pv 5) pe_int (nomark _)) (pw_or1 (pt_cmpR op_eq (pv 5) pe_int (nomark _)))))
 (pss_one (ps_set (i := 8) sc_law_flaws_refused.nd rfl (.inl rfl) (pe_op op_sub (pe_op op_sub (pe_callB (call_max2 rfl) (by rfl) T.max (by decide +kernel) (pa_cons pe_int (pa_cons (pe_callB call_len_seq (by rfl) T.len (by decide +kernel) (pa_cons (pv 1) pa_nil)) pa_nil))) pe_int) (pe_ix ix_list (pv 4) pe_int (fun _ _ => rfl)))))
 pss_nil)
 (pss_cons (ps_if (PW.pt (pw_or (pt_cmpR op_eq (pv 5) pe_int (nomark _)) (pw_or1 (pt_cmpR op_eq (pv 5) pe_int (nomark _)))))
 (pss_one (ps_set (i := 8) sc_law_flaws_refused.nd rfl (.inl rfl) (pe_op op_add pe_int (pe_ix ix_list (pv 4) pe_int (fun _ _ => rfl)))))
 pss_nil)
 (pss_cons (ps_set (i := 9) sc_law_flaws_refused.nd rfl (.inl rfl) (pv 3))
 (pss_cons (ps_if (PW.pt (pw_or (pt_cmpR op_eq (pv 5) pe_int (nomark _)) (pw_or1 (pt_cmpR op_eq (pv 5) pe_int (nomark _)))))
 (pss_one (ps_set (i := 9) sc_law_flaws_refused.nd rfl (.inl rfl) (pe_op op_sub pe_int (pe_ix ix_list (pv 4) pe_int (fun _ _ => rfl)))))
 pss_nil)
 (pss_cons (ps_if (PW.pt (pw_or (pt_cmpR op_eq (pv 5) pe_int (nomark _)) (pw_or1 (pt_cmpR op_eq (pv 5) pe_int (nomark _)))))
 (pss_one (ps_set (i := 9) sc_law_flaws_refused.nd rfl (.inl rfl) (pe_op op_add pe_int (pe_ix ix_list (pv 4) pe_int (fun _ _ => rfl)))))
 pss_nil)
 (pss_cons (ps_if (pt_not (pt_val (pe_callG C_law_refused.ok gA (hr.mono (by decide)) (by rfl) C_law_refused.mg C_law_refused.kp C_law_refused.b (pa_cons (pv 6) (pa_cons (pv 8) (pa_cons (pv 9) pa_nil))))))
 (pss_one (ps_ret pe_bl))
 pss_nil)
 (pss_one (ps_ret (pe_callG C_law_refused.ok gA (hr.mono (by decide)) (by rfl) C_law_refused.mg C_law_refused.kp C_law_refused.b (pa_cons (pe_op op_cat (pv 1) (pe_lc (own := [("k", 10)]) (g := gName 10) (tt := tYes) rfl sc_law_flaws_refused.nd (pi_range1 rfl T.range (pa_cons (pe_op op_sub pe_int (pe_callB call_len_seq (by rfl) T.len (by decide +kernel) (pa_cons (pv 1) pa_nil))) pa_nil)) (blkOk_by (N := ["cell", "loads", "workers", "mornings", "drawn", "kind", "rows", "wrong", "crew", "length", "k"]) (sc := defScope s_law_flaws_refused) (by decide +kernel)) (fun _ _ _ _ _ => (pg_name (i := 10) sc_law_flaws_refused.nd rfl (.inl rfl))) (fun _ _ _ _ _ => pts_nil) (fun _ _ _ _ _ => pe_int))) (pa_cons (pe_op op_add pe_int (pe_ix ix_list (pv 4) pe_int (fun _ _ => rfl))) (pa_cons (pv 3) pa_nil))))))))))))))))), ?_⟩
    refine ⟨_, rfl, (by show 6 ≤ sizeLine; decide), fun z nz => ?_⟩
    refine ⟨z, cl, [8, 9, 9, 3, 2, 3], rfl, SqL.of upd_same, by decide, by decide, fun b ss H2 s2 nb eb dr => ?_⟩
    have t2 : Same H H2 := ((Same.refl H).new nz).trans s2
    obtain ⟨z0, z1, z2, z3, z4, z5, rfl, b0, b1, b2, b3, b4, b5⟩ : ∃ s0 s1 s2 s3 s4 s5, ss = [s0, s1, s2, s3, s4, s5] ∧ s0 < 8 ∧ s1 < 9 ∧ s2 < 9 ∧ s3 < 3 ∧ s4 < 2 ∧ s5 < 3 := by
      cases dr with | cons h0 dr => cases dr with | cons h1 dr => cases dr with | cons h2 dr => cases dr with | cons h3 dr => cases dr with | cons h4 dr => cases dr with | cons h5 dr => cases dr with | nil => exact ⟨_, _, _, _, _, _, rfl, h0, h1, h2, h3, h4, h5⟩
    have hB : SqL K H2 b ([z0, z1, z2, z3, z4, z5].map nV) := SqL.of eb
    refine ⟨_, rfl, b, _, 0, nV z0, rfl, rfl, hB, at_n (j := 0) rfl, ?_⟩
    refine ⟨_, rfl, a, _, rfl, .inl (t2.seq (SqL.of ha)), fun rp nrp => ?_⟩
    have s3 : Same H2 (upd H2 rp (.lst (IL L))) := (Same.refl H2).new nrp
    have erp : (upd H2 rp (.lst (IL L))) rp = some (.lst (IL L)) := upd_same
    have nrp0 : H rp = none := t2.free nrp
    generalize upd H2 rp (.lst (IL L)) = H3 at s3 erp ⊢
    have t3 := t2.trans s3
    have hB3 := s3.seq hB
    refine or3T rfl fun bb hbb => ?_
    cases bb with
    | false =>
      have kw : ¬ (z0 = 0 ∨ z0 = 5 ∨ z0 = 7) := fun y => Bool.noConfusion (hbb.mpr (by omega))
      refine iteF ?_
      have ha5 := t3 _ _ ha
      have hB5 := hB3
      have s5 := t3
      have er5 := erp
      have smR := loads_small ld
      have hW : (z0 = 0 ∨ z0 = 5 ∨ z0 = 7) → Wrong L := fun y => (kw y).elim
      generalize hRR : L = R at er5 smR hW
      have hR : ¬ (z0 = 0 ∨ z0 = 5 ∨ z0 = 7) → R = L := fun _ => hRR.symm
      have hRl : R.length ≤ 40 := by rw [← hRR]; omega
      clear hRR
      -- crew, length
      refine ⟨_, rfl, ?_⟩
      refine atS (σ' := [some (.int cl), some (.ref a), some (nV n), some (nV m), some (.ref b), some (nV z0), some (.ref rp), none, some (nV n), none, none]) rfl ?_
      refine ifset2 (v := .int (max 1 (L.length : Int) - 1 - (z5 : Int))) rfl rfl (fun Q q => ?_) (fun u1 hu1 hu1' => ?_)
      rotate_left
      refine atS (σ' := [some (.int cl), some (.ref a), some (nV n), some (nV m), some (.ref b), some (nV z0), some (.ref rp), none, some u1, none, none]) rfl ?_
      rotate_left
      · refine ⟨_, rfl, a, _, rfl, .inl (SqL.of ha5), _, _, rfl, ?_⟩
        rw [show (if ((IL L).length : Int) > 1 then ((IL L).length : Int) else 1) = max 1 (L.length : Int) by rw [List.length_map]; split <;> omega]
        exact ⟨_, _, rfl, rfl, _, rfl, b, _, 5, nV z5, rfl, rfl, hB5, at_n (j := 5) rfl, _, _, rfl, rfl, q⟩
      refine ifset2 (v := .int (9 + (z5 : Int))) rfl rfl (fun Q q => ⟨_, rfl, b, _, 5, nV z5, rfl, rfl, hB5, at_n (j := 5) rfl, _, _, rfl, rfl, q⟩) (fun u2 hu2 hu2' => ?_)
      refine ⟨_, rfl, ?_⟩
      refine atS (σ' := [some (.int cl), some (.ref a), some (nV n), some (nV m), some (.ref b), some (nV z0), some (.ref rp), none, some u2, some (nV m), none]) rfl ?_
      refine ifset2 (v := .int (0 - (z3 : Int))) rfl rfl (fun Q q => ⟨_, rfl, b, _, 3, nV z3, rfl, rfl, hB5, at_n (j := 3) rfl, _, _, rfl, rfl, q⟩) (fun u3 hu3 hu3' => ?_)
      refine ifset2 (v := .int (8 + (z3 : Int))) rfl rfl (fun Q q => ⟨_, rfl, b, _, 3, nV z3, rfl, rfl, hB5, at_n (j := 3) rfl, _, _, rfl, rfl, q⟩) (fun u4 hu4 hu4' => ?_)
      refine atS (σ' := [some (.int cl), some (.ref a), some (nV n), some (nV m), some (.ref b), some (nV z0), some (.ref rp), none, some u2, some u4, none]) rfl ?_
      obtain ⟨crew, ec, hc1, hc2, hc3⟩ : ∃ c : Int, u2 = .int c ∧ ((z0 = 1 ∨ z0 = 5) → c = max 1 (L.length : Int) - 1 - (z5 : Int)) ∧ ((z0 = 2 ∨ z0 = 6) → c = 9 + (z5 : Int)) ∧ (¬ (z0 = 1 ∨ z0 = 5) → ¬ (z0 = 2 ∨ z0 = 6) → c = (n : Int)) := by
        by_cases k2 : z0 = 2 ∨ z0 = 6
        · exact ⟨_, hu2 (by omega), fun z => by omega, fun _ => rfl, fun _ z => (z k2).elim⟩
        · by_cases k1 : z0 = 1 ∨ z0 = 5
          · exact ⟨_, (hu2' (by omega)).trans (hu1 (by omega)), fun _ => rfl, fun z => (k2 z).elim, fun z => (z k1).elim⟩
          · exact ⟨_, (hu2' (by omega)).trans (hu1' (by omega)), fun z => (k1 z).elim, fun z => (k2 z).elim, fun _ _ => rfl⟩
      obtain ⟨long, el, hl1, hl2⟩ : ∃ c : Int, u4 = .int c ∧ ((z0 = 3 ∨ z0 = 7) → c = 0 - (z3 : Int)) ∧ ((z0 = 4 ∨ z0 = 6) → c = 8 + (z3 : Int)) := by
        by_cases k2 : z0 = 4 ∨ z0 = 6
        · exact ⟨_, hu4 (by omega), fun z => by omega, fun _ => rfl⟩
        · by_cases k1 : z0 = 3 ∨ z0 = 7
          · exact ⟨_, (hu4' (by omega)).trans (hu3 (by omega)), fun _ => rfl, fun z => (k2 z).elim⟩
          · exact ⟨_, (hu4' (by omega)).trans (hu3' (by omega)), fun z => (k1 z).elim, fun z => (k2 z).elim⟩
      subst ec el
      refine ⟨_, rfl, _, rfl, _, rfl, rp, R, crew, long, rfl, er5, by omega, smR, fun fine => ?_, fun H6 s6 => ⟨_, rfl, iteF ?_⟩⟩
      · by_cases kw : z0 = 0 ∨ z0 = 5 ∨ z0 = 7
        · exact (hW kw).no fine.1
        · have e := hR kw
          subst e
          have f1 := fine.2.1
          have f2 := fine.2.2
          omega
      -- nine loads
      have ha6 := s6 _ _ ha5
      have hB6 := s6.seq hB5
      refine ⟨_, rfl, _, rfl, a, _, rfl, .inl (SqL.of ha6), _, _, rfl, rfl, _, rfl, (by rw [List.length_map]; omega), (by rw [List.length_map]; omega), ?_⟩
      rw [show ((9 : Int) - (((IL L).length : Nat) : Int)).toNat = 9 - L.length by rw [List.length_map]; omega]
      refine fun D nD => ?_
      refine lc_range (lo := 0) (n := 9 - L.length) (fun k H' => Same H6 H' ∧ H' D = some (.lst (IL (List.replicate k 0)))) ⟨(Same.refl H6).new nD, upd_same⟩ ?_ ?_
      · rintro k H7 hk ⟨s7, e7⟩
        refine ⟨rfl, _, e7, ?_, s7.mut nD, ?_⟩
        · rw [List.length_map, List.length_replicate]
          exact szl (by omega)
        · rw [upd_same, List.replicate_succ', IL_snoc]
      rintro H7 ⟨s7, e7⟩
      refine ⟨a, D, _, _, rfl, rfl, s7 _ _ ha6, e7, ?_, fun np nnp => ?_⟩
      · rw [List.length_map, List.length_map, List.length_replicate]
        exact szle (by omega)
      rw [IL_app]
      have s8 := s7.new (o := .lst (IL (L ++ List.replicate (9 - L.length) 0))) nnp
      have enp : (upd H7 np (.lst (IL (L ++ List.replicate (9 - L.length) 0)))) np = some (.lst (IL (L ++ List.replicate (9 - L.length) 0))) := upd_same
      generalize upd H7 np (.lst (IL (L ++ List.replicate (9 - L.length) 0))) = H8 at s8 enp ⊢
      have l9 : (L ++ List.replicate (9 - L.length) 0).length = 9 := by rw [List.length_append, List.length_replicate]; omega
      refine ⟨_, rfl, b, _, 4, nV z4, rfl, rfl, s8.seq hB6, at_n (j := 4) rfl, _, _, rfl, rfl, _, rfl, np, _, _, _, rfl, enp, by omega, ?_, fun fine => ?_, fun H9 s9 => q H9 ((s5.trans s6).trans (s8.trans s9))⟩
      · intro z hz
        rcases List.mem_append.mp hz with hz | hz
        · exact loads_small ld z hz
        · rw [(List.mem_replicate.mp hz).2]
          decide
      · have f1 := fine.2.1
        omega
    | true =>
      have kw : z0 = 0 ∨ z0 = 5 ∨ z0 = 7 := by have := hbb.mp rfl; omega
      refine iteT ?_
      -- wrong = [..]
      refine ⟨_, rfl, _, rfl, b, _, 3, nV z3, rfl, rfl, hB3, at_n (j := 3) rfl, _, _, rfl, rfl, _, rfl, b, _, 3, nV z3, rfl, rfl, hB3, at_n (j := 3) rfl, _, _, rfl, rfl, (by show 2 ≤ sizeLine; decide), fun wp nwp => ?_⟩
      have s4 : Same H3 (upd H3 wp (.lst [V.int (-1 - (z3 : Int)), V.int (601 + (z3 : Int))])) := (Same.refl H3).new nwp
      have ewp : (upd H3 wp (.lst [V.int (-1 - (z3 : Int)), V.int (601 + (z3 : Int))])) wp = some (.lst (IL [-1 - (z3 : Int), 601 + (z3 : Int)])) := upd_same
      generalize upd H3 wp (.lst [V.int (-1 - (z3 : Int)), V.int (601 + (z3 : Int))]) = H4 at s4 ewp ⊢
      have hB4 := s4.seq hB3
      have er4 := s4 _ _ erp
      have nwp0 : H wp = none := t3.free nwp
      have bad : ∀ j, j < 2 → ∃ y, ([-1 - (z3 : Int), 601 + (z3 : Int)] : List Int)[j]? = some y ∧ ¬ (0 ≤ y ∧ y ≤ 600) ∧ y.natAbs < 1000000 := by
        intro j hj
        have : j = 0 ∨ j = 1 := by omega
        rcases this with rfl | rfl
        · exact ⟨_, rfl, by omega, by omega⟩
        · exact ⟨_, rfl, by omega, by omega⟩
      obtain ⟨y1, hy1, by1, sy1⟩ := bad z4 b4
      obtain ⟨i1, ei1, hi1⟩ := fmod_nat ((z1 : Nat) : Int) (z := L.length + 1) (by omega)
      have eL : (((IL L).length : Nat) : Int) + 1 = ((L.length + 1 : Nat) : Int) := by rw [List.length_map]; omega
      refine ⟨_, rfl, .inl ⟨rfl, _, SqL.of er4⟩, _, rfl, b, _, 1, nV z1, rfl, rfl, hB4, at_n (j := 1) rfl, .inl ⟨_, rfl, _, rfl, rp, _, rfl, .inl (SqL.of er4), _, _, rfl, rfl, _, _, rfl, rfl, (by walk_at "nz"), _, rfl, _, rfl, b, _, 4, nV z4, rfl, rfl, hB4, at_n (j := 4) rfl, wp, _, _, V.int y1, rfl, rfl, SqL.of ewp, at_n (getn hy1), rp, IL L, (i1 : Int), V.int y1, rfl, ?_, er4, ?_, by omega, by omega, ?_⟩⟩
      · dsimp only
        rw [eL, ei1]
      · rw [List.length_map]
        exact szl (by omega)
      rw [show ((i1 : Int)).toNat = i1 by omega, ins_IL]
      have t5 : Same H (upd H4 rp (.lst (IL (ins L i1 y1)))) := (t3.trans s4).mut nrp0
      have er5a : (upd H4 rp (.lst (IL (ins L i1 y1)))) rp = some (.lst (IL (ins L i1 y1))) := upd_same
      have hrb : b ≠ rp := fun e => by rw [e] at eb; rw [eb] at nrp; cases nrp
      have hrw : wp ≠ rp := fun e => by rw [e, erp] at nwp; cases nwp
      have eb4 := s4 _ _ (s3 _ _ eb)
      have eb5 : (upd H4 rp (.lst (IL (ins L i1 y1)))) b = some (.lst ([z0, z1, z2, z3, z4, z5].map nV)) := by rw [upd_ne hrb]; exact eb4
      have ew5 : (upd H4 rp (.lst (IL (ins L i1 y1)))) wp = some (.lst (IL [-1 - (z3 : Int), 601 + (z3 : Int)])) := by rw [upd_ne hrw]; exact ewp
      generalize upd H4 rp (.lst (IL (ins L i1 y1))) = H5 at t5 er5a eb5 ew5 ⊢
      have l1 : (ins L i1 y1).length = L.length + 1 := ins_len (by omega)
      have sm1 : Smalls (ins L i1 y1) := fun x hx => by
        rcases ins_mem hx with rfl | hx
        · exact sy1
        · exact loads_small ld x hx
      have wr1 : Wrong (ins L i1 y1) := ⟨y1, ins_new, by1⟩
      refine eqT rfl ?_
      by_cases k7 : (z0 : Int) = 7
      · rw [decide_eq_true k7]
        refine iteT ?_
        obtain ⟨y2, hy2, by2, sy2⟩ := bad (1 - z4) (by omega)
        obtain ⟨i2, ei2, hi2⟩ := fmod_nat ((z2 : Nat) : Int) (z := (ins L i1 y1).length + 1) (by omega)
        have eL2 : (((IL (ins L i1 y1)).length : Nat) : Int) + 1 = (((ins L i1 y1).length + 1 : Nat) : Int) := by rw [List.length_map]; omega
        refine ⟨_, rfl, .inl ⟨rfl, _, SqL.of er5a⟩, _, rfl, b, _, 2, nV z2, rfl, rfl, SqL.of eb5, at_n (j := 2) rfl, .inl ⟨_, rfl, _, rfl, rp, _, rfl, .inl (SqL.of er5a), _, _, rfl, rfl, _, _, rfl, rfl, (by walk_at "nz"), _, rfl, _, rfl, b, _, 4, nV z4, rfl, rfl, SqL.of eb5, at_n (j := 4) rfl, _, _, rfl, rfl, wp, _, ((1 - z4 : Nat) : Int), V.int y2, rfl, ?_, SqL.of ew5, at_n (getn hy2), rp, IL (ins L i1 y1), (i2 : Int), V.int y2, rfl, ?_, er5a, ?_, by omega, by omega, ?_⟩⟩
        · show V.int ((1 : Int) - (z4 : Int)) = _
          rw [show (1 : Int) - (z4 : Int) = ((1 - z4 : Nat) : Int) by omega]
        · dsimp only
          rw [eL2, ei2]
        · rw [List.length_map]
          exact szl (by omega)
        rw [show ((i2 : Int)).toNat = i2 by omega, ins_IL]
        have s5 : Same H (upd H5 rp (.lst (IL (ins (ins L i1 y1) i2 y2)))) := t5.mut nrp0
        have er5 : (upd H5 rp (.lst (IL (ins (ins L i1 y1) i2 y2)))) rp = some (.lst (IL (ins (ins L i1 y1) i2 y2))) := upd_same
        have eb6 : (upd H5 rp (.lst (IL (ins (ins L i1 y1) i2 y2)))) b = some (.lst ([z0, z1, z2, z3, z4, z5].map nV)) := by rw [upd_ne hrb]; exact eb5
        generalize upd H5 rp (.lst (IL (ins (ins L i1 y1) i2 y2))) = H6' at s5 er5 eb6 ⊢
        have hB5 : SqL K H6' b ([z0, z1, z2, z3, z4, z5].map nV) := SqL.of eb6
        have ha5 := s5 _ _ ha
        have hRl : (ins (ins L i1 y1) i2 y2).length ≤ 40 := by rw [ins_len (by omega)]; omega
        have smR : Smalls (ins (ins L i1 y1) i2 y2) := fun x hx => by
          rcases ins_mem hx with rfl | hx
          · exact sy2
          · exact sm1 x hx
        have hW : (z0 = 0 ∨ z0 = 5 ∨ z0 = 7) → Wrong (ins (ins L i1 y1) i2 y2) := fun _ => ⟨y2, ins_new, by2⟩
        have hR : ¬ (z0 = 0 ∨ z0 = 5 ∨ z0 = 7) → ins (ins L i1 y1) i2 y2 = L := fun y => (y kw).elim
        generalize ins (ins L i1 y1) i2 y2 = R at er5 hRl smR hW hR
        -- crew, length
        refine ⟨_, rfl, ?_⟩
        refine atS (σ' := [some (.int cl), some (.ref a), some (nV n), some (nV m), some (.ref b), some (nV z0), some (.ref rp), some (.ref wp), some (nV n), none, none]) rfl ?_
        refine ifset2 (v := .int (max 1 (L.length : Int) - 1 - (z5 : Int))) rfl rfl (fun Q q => ?_) (fun u1 hu1 hu1' => ?_)
        rotate_left
        refine atS (σ' := [some (.int cl), some (.ref a), some (nV n), some (nV m), some (.ref b), some (nV z0), some (.ref rp), some (.ref wp), some u1, none, none]) rfl ?_
        rotate_left
        · refine ⟨_, rfl, a, _, rfl, .inl (SqL.of ha5), _, _, rfl, ?_⟩
          rw [show (if ((IL L).length : Int) > 1 then ((IL L).length : Int) else 1) = max 1 (L.length : Int) by rw [List.length_map]; split <;> omega]
          exact ⟨_, _, rfl, rfl, _, rfl, b, _, 5, nV z5, rfl, rfl, hB5, at_n (j := 5) rfl, _, _, rfl, rfl, q⟩
        refine ifset2 (v := .int (9 + (z5 : Int))) rfl rfl (fun Q q => ⟨_, rfl, b, _, 5, nV z5, rfl, rfl, hB5, at_n (j := 5) rfl, _, _, rfl, rfl, q⟩) (fun u2 hu2 hu2' => ?_)
        refine ⟨_, rfl, ?_⟩
        refine atS (σ' := [some (.int cl), some (.ref a), some (nV n), some (nV m), some (.ref b), some (nV z0), some (.ref rp), some (.ref wp), some u2, some (nV m), none]) rfl ?_
        refine ifset2 (v := .int (0 - (z3 : Int))) rfl rfl (fun Q q => ⟨_, rfl, b, _, 3, nV z3, rfl, rfl, hB5, at_n (j := 3) rfl, _, _, rfl, rfl, q⟩) (fun u3 hu3 hu3' => ?_)
        refine ifset2 (v := .int (8 + (z3 : Int))) rfl rfl (fun Q q => ⟨_, rfl, b, _, 3, nV z3, rfl, rfl, hB5, at_n (j := 3) rfl, _, _, rfl, rfl, q⟩) (fun u4 hu4 hu4' => ?_)
        refine atS (σ' := [some (.int cl), some (.ref a), some (nV n), some (nV m), some (.ref b), some (nV z0), some (.ref rp), some (.ref wp), some u2, some u4, none]) rfl ?_
        obtain ⟨crew, ec, hc1, hc2, hc3⟩ : ∃ c : Int, u2 = .int c ∧ ((z0 = 1 ∨ z0 = 5) → c = max 1 (L.length : Int) - 1 - (z5 : Int)) ∧ ((z0 = 2 ∨ z0 = 6) → c = 9 + (z5 : Int)) ∧ (¬ (z0 = 1 ∨ z0 = 5) → ¬ (z0 = 2 ∨ z0 = 6) → c = (n : Int)) := by
          by_cases k2 : z0 = 2 ∨ z0 = 6
          · exact ⟨_, hu2 (by omega), fun z => by omega, fun _ => rfl, fun _ z => (z k2).elim⟩
          · by_cases k1 : z0 = 1 ∨ z0 = 5
            · exact ⟨_, (hu2' (by omega)).trans (hu1 (by omega)), fun _ => rfl, fun z => (k2 z).elim, fun z => (z k1).elim⟩
            · exact ⟨_, (hu2' (by omega)).trans (hu1' (by omega)), fun z => (k1 z).elim, fun z => (k2 z).elim, fun _ _ => rfl⟩
        obtain ⟨long, el, hl1, hl2⟩ : ∃ c : Int, u4 = .int c ∧ ((z0 = 3 ∨ z0 = 7) → c = 0 - (z3 : Int)) ∧ ((z0 = 4 ∨ z0 = 6) → c = 8 + (z3 : Int)) := by
          by_cases k2 : z0 = 4 ∨ z0 = 6
          · exact ⟨_, hu4 (by omega), fun z => by omega, fun _ => rfl⟩
          · by_cases k1 : z0 = 3 ∨ z0 = 7
            · exact ⟨_, (hu4' (by omega)).trans (hu3 (by omega)), fun _ => rfl, fun z => (k2 z).elim⟩
            · exact ⟨_, (hu4' (by omega)).trans (hu3' (by omega)), fun z => (k1 z).elim, fun z => (k2 z).elim⟩
        subst ec el
        refine ⟨_, rfl, _, rfl, _, rfl, rp, R, crew, long, rfl, er5, by omega, smR, fun fine => ?_, fun H6 s6 => ⟨_, rfl, iteF ?_⟩⟩
        · by_cases kw : z0 = 0 ∨ z0 = 5 ∨ z0 = 7
          · exact (hW kw).no fine.1
          · have e := hR kw
            subst e
            have f1 := fine.2.1
            have f2 := fine.2.2
            omega
        -- nine loads
        have ha6 := s6 _ _ ha5
        have hB6 := s6.seq hB5
        refine ⟨_, rfl, _, rfl, a, _, rfl, .inl (SqL.of ha6), _, _, rfl, rfl, _, rfl, (by rw [List.length_map]; omega), (by rw [List.length_map]; omega), ?_⟩
        rw [show ((9 : Int) - (((IL L).length : Nat) : Int)).toNat = 9 - L.length by rw [List.length_map]; omega]
        refine fun D nD => ?_
        refine lc_range (lo := 0) (n := 9 - L.length) (fun k H' => Same H6 H' ∧ H' D = some (.lst (IL (List.replicate k 0)))) ⟨(Same.refl H6).new nD, upd_same⟩ ?_ ?_
        · rintro k H7 hk ⟨s7, e7⟩
          refine ⟨rfl, _, e7, ?_, s7.mut nD, ?_⟩
          · rw [List.length_map, List.length_replicate]
            exact szl (by omega)
          · rw [upd_same, List.replicate_succ', IL_snoc]
        rintro H7 ⟨s7, e7⟩
        refine ⟨a, D, _, _, rfl, rfl, s7 _ _ ha6, e7, ?_, fun np nnp => ?_⟩
        · rw [List.length_map, List.length_map, List.length_replicate]
          exact szle (by omega)
        rw [IL_app]
        have s8 := s7.new (o := .lst (IL (L ++ List.replicate (9 - L.length) 0))) nnp
        have enp : (upd H7 np (.lst (IL (L ++ List.replicate (9 - L.length) 0)))) np = some (.lst (IL (L ++ List.replicate (9 - L.length) 0))) := upd_same
        generalize upd H7 np (.lst (IL (L ++ List.replicate (9 - L.length) 0))) = H8 at s8 enp ⊢
        have l9 : (L ++ List.replicate (9 - L.length) 0).length = 9 := by rw [List.length_append, List.length_replicate]; omega
        refine ⟨_, rfl, b, _, 4, nV z4, rfl, rfl, s8.seq hB6, at_n (j := 4) rfl, _, _, rfl, rfl, _, rfl, np, _, _, _, rfl, enp, by omega, ?_, fun fine => ?_, fun H9 s9 => q H9 ((s5.trans s6).trans (s8.trans s9))⟩
        · intro z hz
          rcases List.mem_append.mp hz with hz | hz
          · exact loads_small ld z hz
          · rw [(List.mem_replicate.mp hz).2]
            decide
        · have f1 := fine.2.1
          omega
      · rw [decide_eq_false k7]
        refine iteF ?_
        have s5 := t5
        have er5 := er5a
        have hB5 : SqL K H5 b ([z0, z1, z2, z3, z4, z5].map nV) := SqL.of eb5
        have ha5 := s5 _ _ ha
        have hRl : (ins L i1 y1).length ≤ 40 := by omega
        have smR := sm1
        have hW : (z0 = 0 ∨ z0 = 5 ∨ z0 = 7) → Wrong (ins L i1 y1) := fun _ => wr1
        have hR : ¬ (z0 = 0 ∨ z0 = 5 ∨ z0 = 7) → ins L i1 y1 = L := fun y => (y kw).elim
        generalize ins L i1 y1 = R at er5 hRl smR hW hR
        -- crew, length
        refine ⟨_, rfl, ?_⟩
        refine atS (σ' := [some (.int cl), some (.ref a), some (nV n), some (nV m), some (.ref b), some (nV z0), some (.ref rp), some (.ref wp), some (nV n), none, none]) rfl ?_
        refine ifset2 (v := .int (max 1 (L.length : Int) - 1 - (z5 : Int))) rfl rfl (fun Q q => ?_) (fun u1 hu1 hu1' => ?_)
        rotate_left
        refine atS (σ' := [some (.int cl), some (.ref a), some (nV n), some (nV m), some (.ref b), some (nV z0), some (.ref rp), some (.ref wp), some u1, none, none]) rfl ?_
        rotate_left
        · refine ⟨_, rfl, a, _, rfl, .inl (SqL.of ha5), _, _, rfl, ?_⟩
          rw [show (if ((IL L).length : Int) > 1 then ((IL L).length : Int) else 1) = max 1 (L.length : Int) by rw [List.length_map]; split <;> omega]
          exact ⟨_, _, rfl, rfl, _, rfl, b, _, 5, nV z5, rfl, rfl, hB5, at_n (j := 5) rfl, _, _, rfl, rfl, q⟩
        refine ifset2 (v := .int (9 + (z5 : Int))) rfl rfl (fun Q q => ⟨_, rfl, b, _, 5, nV z5, rfl, rfl, hB5, at_n (j := 5) rfl, _, _, rfl, rfl, q⟩) (fun u2 hu2 hu2' => ?_)
        refine ⟨_, rfl, ?_⟩
        refine atS (σ' := [some (.int cl), some (.ref a), some (nV n), some (nV m), some (.ref b), some (nV z0), some (.ref rp), some (.ref wp), some u2, some (nV m), none]) rfl ?_
        refine ifset2 (v := .int (0 - (z3 : Int))) rfl rfl (fun Q q => ⟨_, rfl, b, _, 3, nV z3, rfl, rfl, hB5, at_n (j := 3) rfl, _, _, rfl, rfl, q⟩) (fun u3 hu3 hu3' => ?_)
        refine ifset2 (v := .int (8 + (z3 : Int))) rfl rfl (fun Q q => ⟨_, rfl, b, _, 3, nV z3, rfl, rfl, hB5, at_n (j := 3) rfl, _, _, rfl, rfl, q⟩) (fun u4 hu4 hu4' => ?_)
        refine atS (σ' := [some (.int cl), some (.ref a), some (nV n), some (nV m), some (.ref b), some (nV z0), some (.ref rp), some (.ref wp), some u2, some u4, none]) rfl ?_
        obtain ⟨crew, ec, hc1, hc2, hc3⟩ : ∃ c : Int, u2 = .int c ∧ ((z0 = 1 ∨ z0 = 5) → c = max 1 (L.length : Int) - 1 - (z5 : Int)) ∧ ((z0 = 2 ∨ z0 = 6) → c = 9 + (z5 : Int)) ∧ (¬ (z0 = 1 ∨ z0 = 5) → ¬ (z0 = 2 ∨ z0 = 6) → c = (n : Int)) := by
          by_cases k2 : z0 = 2 ∨ z0 = 6
          · exact ⟨_, hu2 (by omega), fun z => by omega, fun _ => rfl, fun _ z => (z k2).elim⟩
          · by_cases k1 : z0 = 1 ∨ z0 = 5
            · exact ⟨_, (hu2' (by omega)).trans (hu1 (by omega)), fun _ => rfl, fun z => (k2 z).elim, fun z => (z k1).elim⟩
            · exact ⟨_, (hu2' (by omega)).trans (hu1' (by omega)), fun z => (k1 z).elim, fun z => (k2 z).elim, fun _ _ => rfl⟩
        obtain ⟨long, el, hl1, hl2⟩ : ∃ c : Int, u4 = .int c ∧ ((z0 = 3 ∨ z0 = 7) → c = 0 - (z3 : Int)) ∧ ((z0 = 4 ∨ z0 = 6) → c = 8 + (z3 : Int)) := by
          by_cases k2 : z0 = 4 ∨ z0 = 6
          · exact ⟨_, hu4 (by omega), fun z => by omega, fun _ => rfl⟩
          · by_cases k1 : z0 = 3 ∨ z0 = 7
            · exact ⟨_, (hu4' (by omega)).trans (hu3 (by omega)), fun _ => rfl, fun z => (k2 z).elim⟩
            · exact ⟨_, (hu4' (by omega)).trans (hu3' (by omega)), fun z => (k1 z).elim, fun z => (k2 z).elim⟩
        subst ec el
        refine ⟨_, rfl, _, rfl, _, rfl, rp, R, crew, long, rfl, er5, by omega, smR, fun fine => ?_, fun H6 s6 => ⟨_, rfl, iteF ?_⟩⟩
        · by_cases kw : z0 = 0 ∨ z0 = 5 ∨ z0 = 7
          · exact (hW kw).no fine.1
          · have e := hR kw
            subst e
            have f1 := fine.2.1
            have f2 := fine.2.2
            omega
        -- nine loads
        have ha6 := s6 _ _ ha5
        have hB6 := s6.seq hB5
        refine ⟨_, rfl, _, rfl, a, _, rfl, .inl (SqL.of ha6), _, _, rfl, rfl, _, rfl, (by rw [List.length_map]; omega), (by rw [List.length_map]; omega), ?_⟩
        rw [show ((9 : Int) - (((IL L).length : Nat) : Int)).toNat = 9 - L.length by rw [List.length_map]; omega]
        refine fun D nD => ?_
        refine lc_range (lo := 0) (n := 9 - L.length) (fun k H' => Same H6 H' ∧ H' D = some (.lst (IL (List.replicate k 0)))) ⟨(Same.refl H6).new nD, upd_same⟩ ?_ ?_
        · rintro k H7 hk ⟨s7, e7⟩
          refine ⟨rfl, _, e7, ?_, s7.mut nD, ?_⟩
          · rw [List.length_map, List.length_replicate]
            exact szl (by omega)
          · rw [upd_same, List.replicate_succ', IL_snoc]
        rintro H7 ⟨s7, e7⟩
        refine ⟨a, D, _, _, rfl, rfl, s7 _ _ ha6, e7, ?_, fun np nnp => ?_⟩
        · rw [List.length_map, List.length_map, List.length_replicate]
          exact szle (by omega)
        rw [IL_app]
        have s8 := s7.new (o := .lst (IL (L ++ List.replicate (9 - L.length) 0))) nnp
        have enp : (upd H7 np (.lst (IL (L ++ List.replicate (9 - L.length) 0)))) np = some (.lst (IL (L ++ List.replicate (9 - L.length) 0))) := upd_same
        generalize upd H7 np (.lst (IL (L ++ List.replicate (9 - L.length) 0))) = H8 at s8 enp ⊢
        have l9 : (L ++ List.replicate (9 - L.length) 0).length = 9 := by rw [List.length_append, List.length_replicate]; omega
        refine ⟨_, rfl, b, _, 4, nV z4, rfl, rfl, s8.seq hB6, at_n (j := 4) rfl, _, _, rfl, rfl, _, rfl, np, _, _, _, rfl, enp, by omega, ?_, fun fine => ?_, fun H9 s9 => q H9 ((s5.trans s6).trans (s8.trans s9))⟩
        · intro z hz
          rcases List.mem_append.mp hz with hz | hz
          · exact loads_small ld z hz
          · rw [(List.mem_replicate.mp hz).2]
            decide
        · have f1 := fine.2.1
          omega
end
end K29W

namespace K29W
open PySem PySem.Spec PyProof.Rows L2 KH K29 KD
abbrev slaw : Stmt := topS 35
theorem sclaw : FnScope ["script", "shape", "count", "mornings", "crew", "workers", "size", "loads", "first", "due", "morning", "one", "two", "drawn", "week", "wide", "k", "row"] ["script"] (defScope slaw) := ⟨rfl, rfl, rfl, by decide +kernel, rfl, by decide +kernel, by decide +kernel⟩

/-! ### ways that join again -/
theorem set_self {σ : L2.St} {j : Nat} {x : V} (h : σ[j]? = some (some x)) : σ.set j (some x) = σ := by
  apply List.ext_getElem?
  intro k
  rw [List.getElem?_set]
  by_cases ek : j = k
  · subst ek
    rw [if_pos rfl, if_pos (List.getElem?_eq_some_iff.mp h).1, h]
  · rw [if_neg ek]
theorem asgN {te : TE} {i : Nat} {rest : TS} {D : Ends} {σ : L2.St} {H : Hp} (q : te σ H (fun x H1 => ∀ σ' : L2.St, σ.set i (some x) = σ' → rest D σ' H1)) : tSeq (tAsg te (gName i)) rest D σ H := by
  have e : (fun (x : V) (H1 : Hp) => ∀ σ' : L2.St, σ.set i (some x) = σ' → rest D σ' H1) = (fun x H1 => rest D (σ.set i (some x)) H1) := by
    funext x H1
    exact propext ⟨fun h => h _ rfl, fun h σ' e => by rw [← e]; exact h⟩
  rw [e] at q
  exact q
theorem nextS {u : TS} {D : Ends} {σ : L2.St} {H : Hp} (q : u D σ H) : tNext { D with nx := u D } σ H := q
abbrev sg (a b : Addr) (c m cr n sz lp fp dp mo o1 o2 dw wk wd : Option V) : L2.St := [some (.ref a), some (.ref b), c, m, cr, n, sz, lp, fp, dp, mo, o1, o2, dw, wk, wd, none, none]
theorem seqC {v : V} {i : Nat} {rest : TS} {D : Ends} {σ : L2.St} {H : Hp} (q : rest D (σ.set i (some v)) H) : tSeq (tAsg (tC v) (gName i)) rest D σ H := q
theorem ifset1 {t : TT} {e1 : TE} {i1 : Nat} {rest : TS} {D : Ends} {σ : L2.St} {H : Hp} {v1 w1 : V} (ht : ∀ Q : Bool → Hp → Prop, (∀ b, Q b H) → t σ H Q) (h1 : σ[i1]? = some (some w1)) (ev1 : ∀ Q : VK, Q v1 H → e1 σ H Q)
    (q : ∀ u1, u1 = v1 ∨ u1 = w1 → rest D (σ.set i1 (some u1)) H) : tSeq (tIfS t (tAsg e1 (gName i1)) tNext) rest D σ H := by
  refine ht _ fun b => ?_
  cases b with
  | true =>
    rw [if_pos rfl]
    exact ev1 _ (q v1 (.inl rfl))
  | false =>
    rw [if_neg Bool.false_ne_true]
    have := q w1 (.inr rfl)
    rw [set_self h1] at this
    exact this
theorem ifset3 {t : TT} {e1 e2 e3 : TE} {i1 i2 i3 : Nat} {rest : TS} {D : Ends} {σ : L2.St} {H : Hp} {v1 v2 v3 w1 w2 w3 : V} (ht : ∀ Q : Bool → Hp → Prop, (∀ b, Q b H) → t σ H Q)
    (h1 : σ[i1]? = some (some w1)) (h2 : σ[i2]? = some (some w2)) (h3 : σ[i3]? = some (some w3)) (ev1 : ∀ Q : VK, Q v1 H → e1 σ H Q) (ev2 : ∀ Q : VK, Q v2 H → e2 (σ.set i1 (some v1)) H Q) (ev3 : ∀ Q : VK, Q v3 H → e3 ((σ.set i1 (some v1)).set i2 (some v2)) H Q)
    (q : ∀ u1 u2 u3, (u1 = v1 ∧ u2 = v2 ∧ u3 = v3) ∨ (u1 = w1 ∧ u2 = w2 ∧ u3 = w3) → rest D (((σ.set i1 (some u1)).set i2 (some u2)).set i3 (some u3)) H) :
    tSeq (tIfS t (tSeq (tAsg e1 (gName i1)) (tSeq (tAsg e2 (gName i2)) (tAsg e3 (gName i3)))) tNext) rest D σ H := by
  refine ht _ fun b => ?_
  cases b with
  | true =>
    rw [if_pos rfl]
    exact ev1 _ (ev2 _ (ev3 _ (q _ _ _ (.inl ⟨rfl, rfl, rfl⟩))))
  | false =>
    rw [if_neg Bool.false_ne_true]
    have := q _ _ _ (.inr ⟨rfl, rfl, rfl⟩)
    rw [set_self h1, set_self h2, set_self h3] at this
    exact this
theorem ifheap {t : TT} {body rest : TS} {D : Ends} {σ : L2.St} {H : Hp} {C : Prop} (Pst : Hp → Prop) (ht : ∀ Q : Bool → Hp → Prop, (∀ b, (b = true → C) → Q b H) → t σ H Q) (h0 : Pst H) (hb : C → ∀ D' : Ends, (∀ H', Pst H' → D'.nx σ H') → body D' σ H)
    (q : ∀ H', Pst H' → rest D σ H') : tSeq (tIfS t body tNext) rest D σ H := by
  refine ht _ fun b hbC => ?_
  cases b with
  | true =>
    rw [if_pos rfl]
    exact hb (hbC rfl) _ q
  | false =>
    rw [if_neg Bool.false_ne_true]
    exact q H h0
/-- a week for eleven workers -/
def wider (n : Nat) (r : List Int) : List Int := r ++ List.replicate (11 - n) (-1)
theorem wider_good {L : List Int} {n : Nat} {W : Rows} (g : Good L n W) (hn : n ≤ 8) : Good L 11 (W.map (wider n)) := by
  constructor
  · intro r hr
    obtain ⟨x, hx, rfl⟩ := List.mem_map.mp hr
    unfold wider
    rw [List.length_append, g.len x hx, List.length_replicate]
    omega
  · intro r hr s hs
    obtain ⟨x, hx, rfl⟩ := List.mem_map.mp hr
    rcases List.mem_append.mp hs with hs | hs
    · exact g.ent x hx s hs
    · rw [(List.mem_replicate.mp hs).2]
      omega
section
variable {P : Program} {w : World} {K : PySem.W.Frag} {mg : Str → Option Value} {base : Heap} {CN CB CD CT CU fI : Addr}
def sp_law (K : PySem.W.Frag) : Sp := fun vs H Q _ => ∃ (a : Addr) (ns : List Int), vs = [.ref a] ∧ SqL K H a (ns.map V.int) ∧ ns.length ≤ 63 ∧ ∀ H', Q (.bl true) H'
theorem ok_law {f f1 f2 f3 f4 f5 f6 f7 f8 f9 f10 f11 : Addr} {fd fd1 fd2 fd3 fd4 fd5 fd6 fd7 fd8 fd9 fd10 fd11 : FuncData} (F : Fun K "law" "law" slaw f fd) (T : Txt mg)
    (C_law_draws : Cal P w K mg base 1 "_law_draws" ["cell", "sizes"] (sp_draws K) f1 fd1) (C_law_cell : Cal P w K mg base 1 "_law_cell" ["script", "k"] (sp_cell K) f2 fd2)
    (C_law_by_turns : Cal P w K mg base 1 "_law_by_turns" ["count", "workers", "mornings"] (sp_turns K) f3 fd3) (C_law_settled : Cal P w K mg base 4 "_law_settled" ["loads", "week", "workers"] (sp_lsettled K) f4 fd4)
    (C_law_answered : CalG P w K mg base 5 "_law_answered" ["loads", "workers", "mornings", "due"] (sp_answered K) f5 fd5) (C_law_drawn_week : Cal P w K mg base 2 "_law_drawn_week" ["cell", "count", "workers", "mornings"] (sp_drawnw K) f6 fd6)
    (C_law_exchanged : Cal P w K mg base 1 "_law_exchanged" ["week", "morning", "one", "two"] (sp_exch K) f7 fd7) (C_law_judged : CalG P w K mg base 5 "_law_judged" ["loads", "week", "workers"] (sp_judged K) f8 fd8)
    (C_law_flaws_refused : CalG P w K mg base 6 "_law_flaws_refused" ["cell", "loads", "workers", "mornings"] (sp_flaws K) f9 fd9) (C_law_same_week : Cal P w K mg base 3 "_law_same_week" ["told", "due"] (sp_samew K) f10 fd10)
    (Cfair_week : CalX P w K mg base 4 "fair_week" ["loads", "workers", "days"] (sp_fair K CN) f11 fd11) : FnOkG P w K mg base 7 f fd ["script"] (sp_law K) := by
  refine F.okG sclaw (fun vs H Q E h => ?_) (fun cdv A outer s H vs Q E gA0 hr h => ?_)
  · obtain ⟨a, ns, rfl, _⟩ := h
    rfl
  · obtain ⟨a, ns, rfl, hS, hn, q⟩ := h
    have gA : (A.deeper (envOfC "law" (defScope slaw) s.heap.objs.size f cdv)).guards = some [] := gA0
    refine ⟨_, (pss_cons (ps_set (i := 1) sclaw.nd rfl (.inl rfl) (pe_call C_law_draws.ok (hr.mono (by decide)) (by rfl) C_law_draws.mg C_law_draws.kp C_law_draws.b .nil pass0 (pa_cons (pe_call C_law_cell.ok (hr.mono (by decide)) (by rfl) C_law_cell.mg C_law_cell.kp C_law_cell.b .nil pass0 (pa_cons (pv 0) (pa_cons pe_int pa_nil))) (pa_cons (pe_lst (pa_cons pe_int (pa_cons pe_int (pa_cons pe_int (pa_cons pe_int (pa_cons pe_int (pa_cons pe_int (pa_cons pe_int (pa_cons pe_int (pa_cons pe_int (pa_cons pe_int pa_nil))))))))))) pa_nil))))
 (pss_cons (ps_set (i := 2) sclaw.nd rfl (.inl rfl) (pe_ix ix_list (pv 1) pe_int (fun _ _ => rfl)))
 (pss_cons (ps_set (i := 3) sclaw.nd rfl (.inl rfl) (pe_op op_add pe_int (pe_op op_modN (pe_callTy call_int1 (by rfl) T.int (by decide +kernel) (pa_cons (pe_ix ix_list (pv 1) pe_int (fun _ _ => rfl)) pa_nil)) pe_int)))
 (pss_cons (ps_set (i := 4) sclaw.nd rfl (.inl rfl) pe_int)
 (pss_cons (ps_if (pt_cmpR op_eq (pe_ix ix_list (pv 1) pe_int (fun _ _ => rfl)) pe_int (nomark _))
 (pss_cons (ps_set (i := 2) sclaw.nd rfl (.inl rfl) (pe_op op_add pe_int (pe_ix ix_list (pv 1) pe_int (fun _ _ => rfl))))
 (pss_cons (ps_set (i := 3) sclaw.nd rfl (.inl rfl) (pe_op op_add pe_int (pe_ix ix_list (pv 1) pe_int (fun _ _ => rfl))))
 (pss_one (ps_set (i := 4) sclaw.nd rfl (.inl rfl) pe_int))))
 pss_nil)
 (pss_cons (ps_set (i := 5) sclaw.nd rfl (.inr rfl) (pe_op op_add (pe_callB (call_max2 rfl) (by rfl) T.max (by decide +kernel) (pa_cons pe_int (pa_cons (pv 2) pa_nil))) (pe_op op_modN (pe_callTy call_int1 (by rfl) T.int (by decide +kernel) (pa_cons (pe_ix ix_list (pv 1) pe_int (fun _ _ => rfl)) pa_nil)) (pe_op op_sub (pv 4) (pe_callB (call_max2 rfl) (by rfl) T.max (by decide +kernel) (pa_cons pe_int (pa_cons (pv 2) pa_nil)))))))
 (pss_cons (ps_set (i := 6) sclaw.nd rfl (.inr rfl) pe_int)
 (pss_cons (ps_if (pt_cmpR op_eq (pe_ix ix_list (pv 1) pe_int (fun _ _ => rfl)) pe_int (nomark _))
 (pss_one (ps_set (i := 6) sclaw.nd rfl (.inr rfl) pe_int))
 pss_nil)
 (pss_cons (ps_set (i := 7) sclaw.nd rfl (.inl rfl) (pe_call C_law_draws.ok (hr.mono (by decide)) (by rfl) C_law_draws.mg C_law_draws.kp C_law_draws.b .nil pass0 (pa_cons (pe_call C_law_cell.ok (hr.mono (by decide)) (by rfl) C_law_cell.mg C_law_cell.kp C_law_cell.b .nil pass0 (pa_cons (pv 0) (pa_cons pe_int pa_nil))) (pa_cons (pe_lc (own := [("k", 16)]) (g := gName 16) (tt := tYes) rfl sclaw.nd (pi_range1 rfl T.range (pa_cons (pv 2) pa_nil)) (blkOk_by (N := ["script", "shape", "count", "mornings", "crew", "workers", "size", "loads", "first", "due", "morning", "one", "two", "drawn", "week", "wide", "k", "row"]) (sc := defScope slaw) (by decide +kernel)) (fun _ _ _ _ _ => (pg_name (i := 16) sclaw.nd rfl (.inl rfl))) (fun _ _ _ _ _ => pts_nil) (fun _ _ _ _ _ => (pv 6))) pa_nil))))
 (pss_cons (ps_if (PW.pt (pw_and (pt_cmpR op_eq (pe_ix ix_list (pv 1) pe_int (fun _ _ => rfl)) pe_int (nomark _)) (pw_and (pt_cmpR op_eq (pe_ix ix_list (pv 1) pe_int (fun _ _ => rfl)) pe_int (nomark _)) (pw_and1 (pt_cmpR op_gt (pv 2) pe_int (nomark _))))))
 (pss_one (ps_asg pe_int (pg_sub (pv 7) pe_int set_list)))
 pss_nil)
 (pss_cons (ps_set (i := 8) sclaw.nd rfl (.inl rfl) (pe_call C_law_by_turns.ok (hr.mono (by decide)) (by rfl) C_law_by_turns.mg C_law_by_turns.kp C_law_by_turns.b .nil pass0 (pa_cons (pv 2) (pa_cons (pv 5) (pa_cons (pv 3) pa_nil)))))
 (pss_cons (ps_set (i := 9) sclaw.nd rfl (.inl rfl) (pe_call C_law_settled.ok (hr.mono (by decide)) (by rfl) C_law_settled.mg C_law_settled.kp C_law_settled.b .nil pass0 (pa_cons (pv 7) (pa_cons (pv 8) (pa_cons (pv 5) pa_nil)))))
 (pss_cons (ps_if (pt_not (pt_val (pe_callG C_law_answered.ok gA (hr.mono (by decide)) (by rfl) C_law_answered.mg C_law_answered.kp C_law_answered.b (pa_cons (pv 7) (pa_cons (pv 5) (pa_cons (pv 3) (pa_cons (pv 9) pa_nil)))))))
 (pss_one (ps_ret pe_bl))
 pss_nil)
 (pss_cons (ps_set (i := 10) sclaw.nd rfl (.inl rfl) (pe_op op_modN (pe_callTy call_int1 (by rfl) T.int (by decide +kernel) (pa_cons (pe_ix ix_list (pv 1) pe_int (fun _ _ => rfl)) pa_nil)) (pv 3)))
 (pss_cons (ps_set (i := 11) sclaw.nd rfl (.inl rfl) (pe_op op_modN (pe_callTy call_int1 (by rfl) T.int (by decide +kernel) (pa_cons (pe_ix ix_list (pv 1) pe_int (fun _ _ => rfl)) pa_nil)) (pv 5)))
 (pss_cons (ps_set (i := 12) sclaw.nd rfl (.inl rfl) (pe_op op_modN (pe_callTy call_int1 (by rfl) T.int (by decide +kernel) (pa_cons (pe_ix ix_list (pv 1) pe_int (fun _ _ => rfl)) pa_nil)) (pv 5)))
 (pss_cons (ps_set (i := 13) sclaw.nd rfl (.inl rfl) (pe_call C_law_drawn_week.ok (hr.mono (by decide)) (by rfl) C_law_drawn_week.mg C_law_drawn_week.kp C_law_drawn_week.b .nil pass0 (pa_cons (pe_call C_law_cell.ok (hr.mono (by decide)) (by rfl) C_law_cell.mg C_law_cell.kp C_law_cell.b .nil pass0 (pa_cons (pv 0) (pa_cons pe_int pa_nil))) (pa_cons (pv 2) (pa_cons (pv 5) (pa_cons (pv 3) pa_nil))))))
 (pss_cons (ps_for PassesOwn.never rfl (pi_list (pe_lst (pa_cons (pv 8) (pa_cons (pv 9) (pa_cons (pe_call C_law_exchanged.ok (hr.mono (by decide)) (by rfl) C_law_exchanged.mg C_law_exchanged.kp C_law_exchanged.b .nil pass0 (pa_cons (pv 9) (pa_cons (pv 10) (pa_cons (pv 11) (pa_cons (pv 12) pa_nil))))) (pa_cons (pv 13) (pa_cons (pe_op op_cat (pe_op op_cat (pv 13) (pv 9)) (pv 13)) pa_nil))))))) (pg_name (i := 14) sclaw.nd rfl (.inl rfl))
 (pss_one (ps_if (pt_not (pt_val (pe_callG C_law_judged.ok gA (hr.mono (by decide)) (by rfl) C_law_judged.mg C_law_judged.kp C_law_judged.b (pa_cons (pv 7) (pa_cons (pv 14) (pa_cons (pv 5) pa_nil))))))
 (pss_one (ps_ret pe_bl))
 pss_nil)))
 (pss_cons (ps_setLc (i := 15) (own := [("row", 17)]) (g := gName 17) (tt := tYes) rfl sclaw.nd rfl rfl (sw_true rfl rfl rfl (by decide +kernel)) (pi_list (pv 13)) (blkOk_by (N := ["script", "shape", "count", "mornings", "crew", "workers", "size", "loads", "first", "due", "morning", "one", "two", "drawn", "week", "wide", "k", "row"]) (sc := defScope slaw) (by decide +kernel)) (fun _ _ _ _ _ => (pg_name (i := 17) sclaw.nd rfl (.inl rfl))) (fun _ _ _ _ _ => pts_nil) (fun _ _ _ _ _ => (pe_op op_cat (pv 17) (by exact (pe_lc (own := [("k", 16)]) (g := gName 16) (tt := tYes) rfl sclaw.nd (pi_range1 rfl T.range (pa_cons (pe_op op_sub pe_int (pv 5)) pa_nil)) (blkOk_by (N := ["script", "shape", "count", "mornings", "crew", "workers", "size", "loads", "first", "due", "morning", "one", "two", "drawn", "week", "wide", "k", "row"]) (by rfl)) (fun _ _ _ _ _ => (pg_name (i := 16) sclaw.nd rfl (.inl rfl))) (fun _ _ _ _ _ => pts_nil) (fun _ _ _ _ _ => (pe_un un_neg pe_int)))))))
 (pss_cons (ps_if (pt_not (pt_val (pe_callG C_law_judged.ok gA (hr.mono (by decide)) (by rfl) C_law_judged.mg C_law_judged.kp C_law_judged.b (pa_cons (pv 7) (pa_cons (pv 15) (pa_cons pe_int pa_nil))))))
 (pss_one (ps_ret pe_bl))
 pss_nil)
 (pss_cons (ps_if (pt_not (pt_val (pe_callG C_law_flaws_refused.ok gA (hr.mono (by decide)) (by rfl) C_law_flaws_refused.mg C_law_flaws_refused.kp C_law_flaws_refused.b (pa_cons (pe_call C_law_cell.ok (hr.mono (by decide)) (by rfl) C_law_cell.mg C_law_cell.kp C_law_cell.b .nil pass0 (pa_cons (pv 0) (pa_cons pe_int pa_nil))) (pa_cons (pv 7) (pa_cons (pv 5) (pa_cons (pv 3) pa_nil)))))))
 (pss_one (ps_ret pe_bl))
 pss_nil)
 (pss_cons (ps_if (pt_not (pt_val (pe_call C_law_same_week.ok (hr.mono (by decide)) (by rfl) C_law_same_week.mg C_law_same_week.kp C_law_same_week.b .nil pass0 (pa_cons (pe_call Cfair_week.ok (hr.mono (by decide)) (by rfl) Cfair_week.mg Cfair_week.kp Cfair_week.b .nil passL (pa_cons (pe_callTy call_tuple_of (by rfl) T.tuple (by decide +kernel) (pa_cons (pv 7) pa_nil)) (pa_cons (pv 5) (pa_cons (pv 3) pa_nil)))) (pa_cons (pv 9) pa_nil)))))
 (pss_one (ps_ret pe_bl))
 pss_nil)
 (pss_one (ps_ret (pe_call C_law_same_week.ok (hr.mono (by decide)) (by rfl) C_law_same_week.mg C_law_same_week.kp C_law_same_week.b .nil pass0 (pa_cons (pe_call Cfair_week.ok (hr.mono (by decide)) (by rfl) Cfair_week.mg Cfair_week.kp Cfair_week.b .nil passL (pa_cons (pe_callTy call_list_of (by rfl) T.list (by decide +kernel) (pa_cons (pv 7) pa_nil)) (pa_cons (pv 5) (pa_cons (pv 3) pa_nil)))) (pa_cons (pv 9) pa_nil))))))))))))))))))))))))))), ?_⟩
    -- shape
    refine asgN ⟨_, rfl, a, ns, 0, rfl, hS, hn, by decide, fun c0 H1 s1 => ?_⟩
    refine ⟨by show 10 ≤ sizeLine; decide, fun z nz => ?_⟩
    refine ⟨z, c0, [24, 5, 8, 4, 7, 3, 2, 7, 8, 8], rfl, SqL.of upd_same, by decide, by decide, fun b ss H2 s2 nb eb dr => ?_⟩
    have t2 : Same H H2 := (s1.new nz).trans s2
    obtain ⟨z0, z1, z2, z3, z4, z5, z6, z7, z8, z9, rfl, b0, b1, b2, b3, b4, b5, b6, b7, b8, b9⟩ : ∃ s0 s1 s2 s3 s4 s5 s6 s7 s8 s9, ss = [s0, s1, s2, s3, s4, s5, s6, s7, s8, s9] ∧ s0 < 24 ∧ s1 < 5 ∧ s2 < 8 ∧ s3 < 4 ∧ s4 < 7 ∧ s5 < 3 ∧ s6 < 2 ∧ s7 < 7 ∧ s8 < 8 ∧ s9 < 8 := by
      cases dr with | cons h0 dr => cases dr with | cons h1 dr => cases dr with | cons h2 dr => cases dr with | cons h3 dr => cases dr with | cons h4 dr => cases dr with | cons h5 dr => cases dr with | cons h6 dr => cases dr with | cons h7 dr => cases dr with | cons h8 dr => cases dr with | cons h9 dr => cases dr with | nil => exact ⟨_, _, _, _, _, _, _, _, _, _, rfl, h0, h1, h2, h3, h4, h5, h6, h7, h8, h9⟩
    have hB : SqL K H2 b ([z0, z1, z2, z3, z4, z5, z6, z7, z8, z9].map nV) := SqL.of eb
    generalize hBB : ([z0, z1, z2, z3, z4, z5, z6, z7, z8, z9].map nV) = BL at hB
    have g0 : atI BL 0 = some (nV z0) := by rw [← hBB]; exact at_n (j := 0) rfl
    have g1 : atI BL 1 = some (nV z1) := by rw [← hBB]; exact at_n (j := 1) rfl
    have g2 : atI BL 2 = some (nV z2) := by rw [← hBB]; exact at_n (j := 2) rfl
    have g3 : atI BL 3 = some (nV z3) := by rw [← hBB]; exact at_n (j := 3) rfl
    have g4 : atI BL 4 = some (nV z4) := by rw [← hBB]; exact at_n (j := 4) rfl
    have g5 : atI BL 5 = some (nV z5) := by rw [← hBB]; exact at_n (j := 5) rfl
    have g6 : atI BL 6 = some (nV z6) := by rw [← hBB]; exact at_n (j := 6) rfl
    have g7 : atI BL 7 = some (nV z7) := by rw [← hBB]; exact at_n (j := 7) rfl
    have g8 : atI BL 8 = some (nV z8) := by rw [← hBB]; exact at_n (j := 8) rfl
    have g9 : atI BL 9 = some (nV z9) := by rw [← hBB]; exact at_n (j := 9) rfl
    clear hBB
    -- count, mornings, crew
    obtain ⟨m4, em4, bm4⟩ := fmod_nat ((z4 : Nat) : Int) (z := 4) (by decide)
    intro σ e
    obtain rfl : σ = sg a b none none none none none none none none none none none none none none := e.symm
    clear e
    refine asgN ⟨_, rfl, b, _, 1, nV z1, rfl, rfl, hB, g1, ?_⟩
    intro σ e
    obtain rfl : σ = sg a b (some (nV z1)) none none none none none none none none none none none none none := e.symm
    clear e
    refine asgN ⟨_, rfl, b, _, 4, nV z4, rfl, rfl, hB, g4, .inl ⟨_, rfl, _, _, rfl, rfl, (by walk_at "nz"), _, _, rfl, rfl, ?_⟩⟩
    intro σ e
    obtain rfl : σ = sg a b (some (nV z1)) (some (.int (1 + ((z4 : Nat) : Int).fmod 4))) none none none none none none none none none none none none := e.symm
    clear e
    refine asgN ?_
    intro σ e
    obtain rfl : σ = sg a b (some (nV z1)) (some (.int (1 + ((z4 : Nat) : Int).fmod 4))) (some (.int 6)) none none none none none none none none none none none := e.symm
    clear e
    refine ifset3 (v1 := nV (5 + z3)) (v2 := nV (1 + z4)) (v3 := nV 9) (fun Q q => ⟨_, rfl, b, _, 0, nV z0, rfl, rfl, hB, g0, rfl, _, rfl, q _⟩) rfl rfl rfl (fun Q q => ⟨_, rfl, b, _, 3, nV z3, rfl, rfl, hB, g3, _, _, rfl, rfl, ?_⟩) (fun Q q => ⟨_, rfl, b, _, 4, nV z4, rfl, rfl, hB, g4, _, _, rfl, rfl, ?_⟩) (fun Q q => q) (fun u1 u2 u3 hu => ?_)
    · have e : (5 : Int) + (z3 : Int) = ((5 + z3 : Nat) : Int) := by omega
      show Q (V.int ((5 : Int) + (z3 : Int))) H2
      rw [e]
      exact q
    · have e : (1 : Int) + (z4 : Int) = ((1 + z4 : Nat) : Int) := by omega
      show Q (V.int ((1 : Int) + (z4 : Int))) H2
      rw [e]
      exact q
    obtain ⟨c, m, cr, rfl, rfl, rfl, hcm⟩ : ∃ c m cr : Nat, u1 = nV c ∧ u2 = nV m ∧ u3 = nV cr ∧ ((cr = 6 ∧ c ≤ 4) ∨ (cr = 9 ∧ c ≤ 8)) ∧ 1 ≤ m ∧ m ≤ 7 := by
      rcases hu with ⟨e1, e2, e3⟩ | ⟨e1, e2, e3⟩
      · exact ⟨_, _, _, e1, e2, e3, by omega⟩
      · refine ⟨z1, 1 + m4, 6, e1, ?_, e3, by omega⟩
        rw [e2]
        show V.int ((1 : Int) + ((z4 : Nat) : Int).fmod 4) = V.int ((1 + m4 : Nat) : Int)
        have : ((4 : Nat) : Int) = 4 := rfl
        rw [this] at em4
        rw [em4]
        congr 1
    refine atS (σ' := sg a b (some (nV c)) (some (nV m)) (some (nV cr)) none none none none none none none none none none none) rfl ?_
    obtain ⟨hcr, hm1, hm⟩ := hcm
    -- workers
    obtain ⟨mc, emc, hmc⟩ : ∃ mc : Nat, (if ((c : Nat) : Int) > 1 then ((c : Nat) : Int) else 1) = (mc : Int) ∧ mc = max 1 c := ⟨max 1 c, by split <;> omega, rfl⟩
    obtain ⟨d2, ed2, hd2⟩ := fmod_nat ((z2 : Nat) : Int) (z := cr - mc) (by omega)
    have ecr : ((cr : Nat) : Int) - ((mc : Nat) : Int) = ((cr - mc : Nat) : Int) := by omega
    refine asgN ⟨_, rfl, _, _, rfl, _, rfl, b, _, 2, nV z2, rfl, rfl, hB, g2, .inl ⟨_, rfl, _, rfl, _, rfl, _, _, rfl, _, _, rfl, rfl, _, _, rfl, rfl, (by dsimp only; rw [emc]; omega), _, _, rfl, rfl, ?_⟩⟩
    intro σ e
    obtain rfl : σ = sg a b (some (nV c)) (some (nV m)) (some (nV cr)) (some (.int ((if ((c : Nat) : Int) > 1 then ((c : Nat) : Int) else 1) + ((z2 : Nat) : Int).fmod (((cr : Nat) : Int) - (if ((c : Nat) : Int) > 1 then ((c : Nat) : Int) else 1))))) none none none none none none none none none none := e.symm
    clear e
    have ev : (if ((c : Nat) : Int) > 1 then ((c : Nat) : Int) else 1) + ((z2 : Nat) : Int).fmod (((cr : Nat) : Int) - (if ((c : Nat) : Int) > 1 then ((c : Nat) : Int) else 1)) = ((mc + d2 : Nat) : Int) := by
      rw [emc, ecr, ed2]
      omega
    rw [ev]
    obtain ⟨n, hnn⟩ : ∃ n, n = mc + d2 := ⟨_, rfl⟩
    rw [← hnn]
    have hn1 : 1 ≤ n := by omega
    have hn8 : n ≤ 8 := by omega
    have hcn : max 1 c ≤ n := by omega
    clear ev ecr emc ed2 hd2
    -- size
    refine asgN ?_
    intro σ e
    obtain rfl : σ = sg a b (some (nV c)) (some (nV m)) (some (nV cr)) (some (nV n)) (some (.int 13)) none none none none none none none none none := e.symm
    clear e
    refine ifset1 (v1 := nV 601) (w1 := nV 13) (fun Q q => ⟨_, rfl, b, _, 5, nV z5, rfl, rfl, hB, g5, rfl, _, rfl, q _⟩) rfl (fun Q q => q) (fun u hu => ?_)
    obtain ⟨sz, rfl, hsz⟩ : ∃ sz : Nat, u = nV sz ∧ (sz = 13 ∨ sz = 601) := by
      rcases hu with rfl | rfl
      · exact ⟨_, rfl, .inr rfl⟩
      · exact ⟨_, rfl, .inl rfl⟩
    refine atS (σ' := sg a b (some (nV c)) (some (nV m)) (some (nV cr)) (some (nV n)) (some (nV sz)) none none none none none none none none none) rfl ?_
    -- loads
    refine asgN ⟨_, rfl, a, ns, 1, rfl, t2.seq hS, hn, by decide, fun c1 H3 s3 => ?_⟩
    refine ⟨_, rfl, _, rfl, (by omega), (by omega), ?_⟩
    rw [show ((c : Nat) : Int).toNat = c by omega]
    refine fun D nD => ?_
    refine lc_range (lo := 0) (n := c) (fun k H' => Same H3 H' ∧ H' D = some (.lst ((List.replicate k sz).map nV))) ⟨(Same.refl H3).new nD, upd_same⟩ ?_ ?_
    · rintro k H4 hk ⟨s4, e4⟩
      refine ⟨rfl, _, rfl, _, e4, ?_, s4.mut nD, ?_⟩
      · rw [List.length_map, List.length_replicate]
        exact szl (by omega)
      · rw [upd_same, List.replicate_succ', List.map_append]
        rfl
    rintro H4 ⟨s4, e4⟩
    refine ⟨D, c1, List.replicate c sz, rfl, SqL.of e4, by rw [List.length_replicate]; omega, (fun y hy => by rw [(List.mem_replicate.mp hy).2]; omega), fun lp ds H5 s5 nlp elp dr2 => ?_⟩
    intro σ e
    obtain rfl : σ = sg a b (some (nV c)) (some (nV m)) (some (nV cr)) (some (nV n)) (some (nV sz)) (some (.ref lp)) none none none none none none none none := e.symm
    clear e
    have t4 : Same H H4 := t2.trans (s3.trans s4)
    have eIL : ds.map nV = IL (ds.map fun d : Nat => (d : Int)) := by
      unfold IL
      rw [List.map_map]
      rfl
    rw [eIL] at elp
    have dlen : ds.length = c := by rw [P_len dr2, List.length_replicate]
    have hB5 : SqL K H5 b BL := (s3.trans (s4.trans s5)).seq hB
    have nlp0 : H lp = none := t4.free nlp
    have s45 : Same H4 H5 := s5
    have ld0 : Loads (ds.map fun d : Nat => (d : Int)) := fun x hx => by
      obtain ⟨d, hd, rfl⟩ := List.mem_map.mp hx
      obtain ⟨i, hi⟩ := List.getElem?_of_mem hd
      obtain ⟨y, hy, hlt⟩ := P_right dr2 hi
      have := (List.mem_replicate.mp (List.mem_of_getElem? hy)).2
      omega
    refine ifheap (C := 0 < c) (fun H' => Same H4 H' ∧ ∃ L : List Int, H' lp = some (.lst (IL L)) ∧ Loads L ∧ L.length = c) (fun Q q => ?_) ⟨s45, _, elp, ld0, by rw [List.length_map, dlen]⟩ (fun hc D' q => ?_) ?_
    · refine ⟨_, rfl, b, _, 5, nV z5, rfl, rfl, hB5, g5, rfl, _, rfl, ite2 (fun _ => ?_) (fun _ => q _ (fun z => Bool.noConfusion z))⟩
      refine ⟨_, rfl, b, _, 6, nV z6, rfl, rfl, hB5, g6, rfl, _, rfl, ite2 (fun _ => ?_) (fun _ => q _ (fun z => Bool.noConfusion z))⟩
      exact ⟨_, rfl, _, _, rfl, rfl, _, rfl, q _ (fun z => by have := of_decide_eq_true z; omega)⟩
    · refine ⟨_, rfl, lp, _, 0, 0, rfl, rfl, elp, ixN_nat (k := 0) (by rw [List.length_map, List.length_map, dlen]; exact hc), ?_⟩
      refine q _ ⟨s45.mut nlp, (ds.map fun d : Nat => (d : Int)).set 0 600, ?_, fun x hx => ?_, by rw [List.length_set, List.length_map, dlen]⟩
      · rw [upd_same, set_IL]
      · rcases mem_set_of hx with rfl | hx
        · omega
        · exact ld0 x hx
    rintro H6 ⟨s46, L, elp6, ld, hLc⟩
    have t6 : Same H H6 := t4.trans s46
    have s26 : Same H2 H6 := (s3.trans s4).trans s46
    have hB6 := s26.seq hB
    have fine : Fine L n m := ⟨ld, ⟨by omega, by omega⟩, by omega⟩
    have gd : Good L n (turns c n m) := by
      have := turns_good L n m
      rw [hLc] at this
      exact this
    -- first, due
    refine asgN ⟨_, rfl, _, rfl, _, rfl, c, n, m, rfl, hn1, by omega, by omega, by omega, fun fp H7 s7 hF => ?_⟩
    intro σ e
    obtain rfl : σ = sg a b (some (nV c)) (some (nV m)) (some (nV cr)) (some (nV n)) (some (nV sz)) (some (.ref lp)) (some (.ref fp)) none none none none none none none := e.symm
    clear e
    refine asgN ⟨_, rfl, _, rfl, _, rfl, lp, fp, L, n, turns c n m, rfl, SqL.of (s7 _ _ elp6), hF, gd, ld, by rw [turns_len]; omega, by omega, fun Z dp H8 st s8 hV => ?_⟩
    intro σ e
    obtain rfl : σ = sg a b (some (nV c)) (some (nV m)) (some (nV cr)) (some (nV n)) (some (nV sz)) (some (.ref lp)) (some (.ref fp)) (some (.ref dp)) none none none none none none := e.symm
    clear e
    obtain ⟨gV, lV⟩ := st.good gd
    rw [turns_len] at lV
    have stL : Settles L n (turns L.length n m) Z := by rw [hLc]; exact st
    have u8 := s7.trans s8
    refine ⟨_, rfl, _, rfl, _, rfl, _, rfl, lp, dp, L, n, m, Z, rfl, u8 _ _ elp6, hV.wkl, stL, fine, by omega, fun H9 s9 => ⟨_, rfl, iteF (nextS ?_)⟩⟩
    have u9 := u8.trans s9
    have hB9 := u9.seq hB6
    have el9 := u9 _ _ elp6
    have hF9 := hF.same (s8.trans s9)
    have hV9 := hV.same s9
    have t9 := t6.trans u9
    -- morning, one, two
    obtain ⟨mo, emo, hmo⟩ := fmod_nat ((z7 : Nat) : Int) (z := m) (by omega)
    obtain ⟨o1, eo1, ho1⟩ := fmod_nat ((z8 : Nat) : Int) (z := n) (by omega)
    obtain ⟨o2, eo2, ho2⟩ := fmod_nat ((z9 : Nat) : Int) (z := n) (by omega)
    refine asgN ⟨_, rfl, b, _, 7, nV z7, rfl, rfl, hB9, g7, .inl ⟨_, rfl, _, rfl, _, _, rfl, rfl, (by walk_at "nz"), ?_⟩⟩
    intro σ e
    obtain rfl : σ = sg a b (some (nV c)) (some (nV m)) (some (nV cr)) (some (nV n)) (some (nV sz)) (some (.ref lp)) (some (.ref fp)) (some (.ref dp)) (some (.int (((z7 : Nat) : Int).fmod (m : Int)))) none none none none none := e.symm
    clear e
    rw [emo]
    refine asgN ⟨_, rfl, b, _, 8, nV z8, rfl, rfl, hB9, g8, .inl ⟨_, rfl, _, rfl, _, _, rfl, rfl, (by walk_at "nz"), ?_⟩⟩
    intro σ e
    obtain rfl : σ = sg a b (some (nV c)) (some (nV m)) (some (nV cr)) (some (nV n)) (some (nV sz)) (some (.ref lp)) (some (.ref fp)) (some (.ref dp)) (some (.int (mo : Int))) (some (.int (((z8 : Nat) : Int).fmod (n : Int)))) none none none none := e.symm
    clear e
    rw [eo1]
    refine asgN ⟨_, rfl, b, _, 9, nV z9, rfl, rfl, hB9, g9, .inl ⟨_, rfl, _, rfl, _, _, rfl, rfl, (by walk_at "nz"), ?_⟩⟩
    intro σ e
    obtain rfl : σ = sg a b (some (nV c)) (some (nV m)) (some (nV cr)) (some (nV n)) (some (nV sz)) (some (.ref lp)) (some (.ref fp)) (some (.ref dp)) (some (nV mo)) (some (nV o1)) (some (.int (((z9 : Nat) : Int).fmod (n : Int)))) none none none := e.symm
    clear e
    rw [eo2]
    -- drawn
    refine asgN ⟨_, rfl, a, ns, 2, rfl, t9.seq hS, hn, by decide, fun c2 HA sA => ?_⟩
    refine ⟨_, rfl, _, rfl, _, rfl, c2, c, n, m, rfl, by omega, by omega, by omega, fun wp W HB gW lW sB hW => ?_⟩
    intro σ e
    obtain rfl : σ = sg a b (some (nV c)) (some (nV m)) (some (nV cr)) (some (nV n)) (some (nV sz)) (some (.ref lp)) (some (.ref fp)) (some (.ref dp)) (some (nV mo)) (some (nV o1)) (some (nV o2)) (some (.ref wp)) none none := e.symm
    clear e
    have gW := gW L hLc
    have uB := sA.trans sB
    have tB := t9.trans uB
    have elB := uB _ _ el9
    have hFB := hF9.same uB
    have hVB := hV9.same uB
    -- the five weeks
    refine ⟨_, rfl, _, rfl, _, rfl, _, rfl, _, rfl, _, rfl, dp, L, n, Z, mo, o1, o2, rfl, hVB.wkl, gV, by omega, by omega, by omega, by omega, fun ep eas HC sC li => ?_⟩
    obtain ⟨was, ew, pw⟩ := hW.same sC
    obtain ⟨das, ed, pd⟩ := hVB.same sC
    have wl : was.length = m := by rw [P_len pw, lW]
    have dl : das.length = m := by rw [P_len pd, lV]
    refine ⟨_, rfl, _, rfl, _, rfl, wp, dp, _, _, rfl, rfl, ew, ed, (by rw [List.length_map, List.length_map]; exact szle (by omega)), fun q1 nq1 => ?_⟩
    have s1' : Same HC (upd HC q1 (.lst (was.map V.ref ++ das.map V.ref))) := (Same.refl HC).new nq1
    refine ⟨_, rfl, q1, wp, _, _, rfl, rfl, upd_same, s1' _ _ ew, (by rw [List.length_append, List.length_map, List.length_map]; exact szle (by omega)), fun q2 nq2 => ?_⟩
    have s2' := s1'.new (o := .lst ((was.map V.ref ++ das.map V.ref) ++ was.map V.ref)) nq2
    have e2' : (upd (upd HC q1 (.lst (was.map V.ref ++ das.map V.ref))) q2 (.lst ((was.map V.ref ++ das.map V.ref) ++ was.map V.ref))) q2 = some (.lst (((was ++ das) ++ was).map V.ref)) := by rw [upd_same, List.map_append, List.map_append]
    generalize upd (upd HC q1 (.lst (was.map V.ref ++ das.map V.ref))) q2 (.lst ((was.map V.ref ++ das.map V.ref) ++ was.map V.ref)) = HD at s2' e2' ⊢
    refine ⟨(by show 5 ≤ sizeLine; decide), fun ql nql => ?_⟩
    have s3' := s2'.new (o := .lst [.ref fp, .ref dp, .ref ep, .ref wp, .ref q2]) nql
    have e3' : (upd HD ql (.lst [.ref fp, .ref dp, .ref ep, .ref wp, .ref q2])) ql = some (.lst [.ref fp, .ref dp, .ref ep, .ref wp, .ref q2]) := upd_same
    have e4' := ((Same.refl HD).new (o := .lst [.ref fp, .ref dp, .ref ep, .ref wp, .ref q2]) nql) _ _ e2'
    generalize upd HD ql (.lst [.ref fp, .ref dp, .ref ep, .ref wp, .ref q2]) = HE at s3' e3' e4' ⊢
    have sE : Same HB HE := sC.trans s3'
    have lE := sE _ _ elB
    have lx : (exch Z mo o1 o2).length = m := by unfold exch; rw [List.length_set, lV]
    have all : ∀ y ∈ [V.ref fp, V.ref dp, V.ref ep, V.ref wp, V.ref q2], ∃ x Y, y = V.ref x ∧ WkL K HE x Y ∧ Good L n Y ∧ 0 < Y.length ∧ Y.length ≤ 40 := by
      intro y hy
      simp only [List.mem_cons, List.not_mem_nil, or_false] at hy
      rcases hy with rfl | rfl | rfl | rfl | rfl
      · exact ⟨_, _, rfl, hFB.same sE, gd, by rw [turns_len]; omega, by rw [turns_len]; omega⟩
      · exact ⟨_, _, rfl, (hVB.same sE).wkl, gV, by omega, by omega⟩
      · exact ⟨_, _, rfl, (li.same s3').wkl, gV.exch (by omega) (by omega) (by omega), by omega, by omega⟩
      · exact ⟨_, _, rfl, (hW.same sE).wkl, gW, by omega, by omega⟩
      · refine ⟨_, (W ++ Z) ++ W, rfl, ⟨_, SqL.of e4', P_append (P_append (P_mono (fun _ _ e => SqL.of (s3' _ _ e)) pw) (P_mono (fun _ _ e => SqL.of (s3' _ _ e)) pd)) (P_mono (fun _ _ e => SqL.of (s3' _ _ e)) pw)⟩, (gW.append gV).append gW, ?_, ?_⟩
        · rw [List.length_append, List.length_append]; omega
        · rw [List.length_append, List.length_append]; omega
    refine ⟨ql, rfl, ⟨_, SqL.of e3'⟩, for_list (K := K) (a := ql) (xs := [V.ref fp, V.ref dp, V.ref ep, V.ref wp, V.ref q2]) (fun i σ H' => ∃ v14 : Option V, σ = sg a b (some (nV c)) (some (nV m)) (some (nV cr)) (some (nV n)) (some (nV sz)) (some (.ref lp)) (some (.ref fp)) (some (.ref dp)) (some (nV mo)) (some (nV o1)) (some (nV o2)) (some (.ref wp)) v14 none ∧ Same HE H')
      ⟨_, rfl, Same.refl HE⟩ (fun i σ H' _ ⟨_, _, s⟩ => s.seq (SqL.of e3')) ?_ ?_⟩
    · rintro i y σ H' hi ⟨v14, rfl, sF⟩
      obtain ⟨x, Y, rfl, hY, gY, y0, y40⟩ := all y (List.mem_of_getElem? hi)
      exact ⟨_, rfl, _, rfl, _, rfl, lp, x, L, n, Y, rfl, sF _ _ lE, hY.same sF, gY, ld, by omega, y0, y40, by omega, fun H'' s'' => ⟨_, rfl, iteF ⟨_, rfl, sF.trans s''⟩⟩⟩
    rintro σ HF ⟨v14, rfl, sF⟩
    have lF := sF _ _ lE
    have tF := tB.trans (sE.trans sF)
    have sCF : Same HC HF := s3'.trans sF
    have ewF := sCF _ _ ew
    have pwF := P_mono (fun x r (e : HC x = some (.lst (IL r))) => sCF _ _ e) pw
    have hVF := hVB.same (sE.trans sF)
    -- wide
    refine ⟨_, rfl, wp, rfl, ⟨_, SqL.of ewF⟩, fun D3 nD3 => ?_⟩
    refine lc_list (K := K) (a := wp) (xs := was.map V.ref) (fun i H' => ∃ as', Same HF H' ∧ LI HF H' D3 as' ((W.take i).map (wider n))) ⟨[], (Same.refl HF).new nD3, LI.nil nD3⟩ (fun i H' _ ⟨_, s, _⟩ => s.seq (SqL.of ewF)) ?_ ?_
    · rintro i y HG hi ⟨as', sG, liG⟩
      obtain ⟨x, hx, rfl⟩ := getn_inv hi
      obtain ⟨r, hr1, hr2⟩ := P_right pwF hx
      have hrl : r.length = n := gW.len r (List.mem_of_getElem? hr1)
      refine ⟨rfl, _, rfl, _, rfl, _, _, rfl, rfl, _, rfl, (by omega), (by omega), ?_⟩
      rw [show ((11 : Int) - ((n : Nat) : Int)).toNat = 11 - n by omega]
      refine fun D4 nD4 => ?_
      refine lc_range (lo := 0) (n := 11 - n) (fun k H' => Same HG H' ∧ H' D4 = some (.lst (IL (List.replicate k (-1))))) ⟨(Same.refl HG).new nD4, upd_same⟩ ?_ ?_
      · rintro k H' hk ⟨s', e'⟩
        refine ⟨rfl, _, rfl, _, e', ?_, s'.mut nD4, ?_⟩
        · rw [List.length_map, List.length_replicate]
          exact szl (by omega)
        · rw [upd_same, List.replicate_succ', IL_snoc]
      rintro HH ⟨sH, eH⟩
      have liH := liG.same sH
      refine ⟨x, D4, _, _, rfl, rfl, (sG.trans sH) _ _ hr2, eH, ?_, fun np nnp => ?_⟩
      · rw [List.length_map, List.length_map, List.length_replicate]
        exact szle (by omega)
      rw [IL_app]
      refine ⟨_, ((Same.refl HH).new nnp) _ _ liH.top, ?_, as' ++ [np], ((sG.trans sH).new nnp).mut nD3, ?_⟩
      · rw [List.length_map, liH.len, List.length_map]
        exact szl (Nat.le_trans (List.length_take_le' _ _) (by omega))
      · rw [map_take_succ _ hr1]
        exact liH.copy (sG.trans sH) nnp (wider n r)
    rintro HG ⟨as', sG, liG⟩
    rw [List.length_map, wl, ← lW, List.take_length] at liG
    have lG := sG _ _ lF
    refine ⟨_, rfl, _, rfl, lp, D3, L, 11, W.map (wider n), rfl, lG, liG.wkl, wider_good gW hn8, ld, by omega, by rw [List.length_map]; omega, by rw [List.length_map]; omega, by omega, fun HH sH => ⟨_, rfl, iteF ?_⟩⟩
    have uH := sG.trans sH
    have tH := tF.trans uH
    have lH := uH _ _ lF
    -- flaws
    refine ⟨_, rfl, a, ns, 3, rfl, tH.seq hS, hn, by decide, fun c3 HI sI => ?_⟩
    refine ⟨_, rfl, _, rfl, _, rfl, c3, lp, L, n, m, rfl, sI _ _ lH, ld, by omega, hn1, hn8, hm1, hm, fun HJ sJ => ⟨_, rfl, iteF ?_⟩⟩
    have uJ := sI.trans sJ
    have lJ := uJ _ _ lH
    have hVJ := hVF.same (uH.trans uJ)
    have hlenZ : ∀ r ∈ Z, r.length = n := gV.len
    -- tuples
    refine ⟨_, rfl, lp, _, rfl, .inl ⟨SqL.of lJ, fun tl ntl => ?_⟩⟩
    have sK : Same HJ (upd HJ tl (.tup (IL L))) := (Same.refl HJ).new ntl
    have etl : Sq K (upd HJ tl (.tup (IL L))) tl (IL L) := .inr (SqT.of upd_same)
    generalize upd HJ tl (.tup (IL L)) = HK at sK etl ⊢
    refine ⟨_, rfl, _, rfl, tl, L, n, m, rfl, etl, by omega, fun wd z f => (f.no fine).elim, fun _ Z2 p2 as2 HL st2 sL li2 => ?_⟩
    rw [fine_nat, fine_nat] at st2
    have ez := st2.uniq stL
    subst ez
    have uL := sK.trans sL
    refine ⟨_, rfl, p2, dp, n, Z2, rfl, li2.wkt, (hVJ.same uL).wkl, by omega, hlenZ, by omega, _, rfl, iteF ?_⟩
    refine ⟨_, rfl, lp, _, rfl, .inl (SqL.of (uL _ _ lJ)), fun nl nnl => ?_⟩
    have sM : Same HL (upd HL nl (.lst (IL L))) := (Same.refl HL).new nnl
    have enl : Sq K (upd HL nl (.lst (IL L))) nl (IL L) := Sq.of upd_same
    generalize upd HL nl (.lst (IL L)) = HM at sM enl ⊢
    refine ⟨_, rfl, _, rfl, nl, L, n, m, rfl, enl, by omega, fun wd z f => (f.no fine).elim, fun _ Z3 p3 as3 HN st3 sN li3 => ?_⟩
    rw [fine_nat, fine_nat] at st3
    have ez := st3.uniq stL
    subst ez
    exact ⟨_, rfl, p3, dp, n, Z3, rfl, li3.wkt, (hVJ.same (uL.trans (sM.trans sN))).wkl, by omega, hlenZ, by omega, q HN⟩
end
end K29W

namespace K29W
open PySem PySem.Spec PyProof.Rows L2 KH K29 KD
theorem kit_self {K : PySem.W.Frag} {C : Addr} : PySem.W.kitOne K (.ref C) (.ref C) = some true := by
  unfold PySem.W.kitOne
  rw [if_pos (by simp)]
theorem kit_other {K : PySem.W.Frag} {C D : Addr} {b : Bool} (ne : C ≠ D) (h : PySem.W.subIn K (.ref D) (.type "BaseException") = some true) (e : PySem.W.exmOne K (.ref C) (.ref D) = some b) : PySem.W.kitOne K (.ref C) (.ref D) = some b := by
  unfold PySem.W.exmOne at e
  have e1 : (PySem.W.subIn K (.ref D) (.type "BaseException") == some true) = true := by rw [h] <;> rfl
  rw [if_pos e1] at e
  unfold PySem.W.kitOne
  rw [if_neg (by simp [ne])]
  exact e
theorem all_mk {l : PySem.W.OpenLaw} {w : World} {K : PySem.W.Frag} {h : Heap} {mg : Str → Option Value} {fa f0 f1 f2 f3 f4 f5 f6 f7 f8 f9 f10 f11 f12 f13 f14 f15 f16 f17 f18 f19 f20 f21 f22 f23 : Addr} (X : K.In h) (G : h.Ns mainGlobals mg) (hfa : mg "law" = some (.ref fa))
    {od0 an0 od1 an1 od2 an2 od3 an3 od4 an4 od5 an5 od6 an6 od7 an7 od8 an8 od9 an9 od10 an10 od11 an11 od12 an12 od13 an13 od14 an14 od15 an15 od16 an16 od17 an17 od18 an18 od19 an19 od20 an20 od21 an21 od22 an22 od23 an23 odI anI cddI cldI : Option Addr} {sl0 sl1 sl2 sl3 sl4 sl5 sl6 sl7 sl8 sl9 sl10 sl11 sl12 sl13 sl14 sl15 sl16 sl17 sl18 sl19 sl20 sl21 sl22 sl23 slI csI clsI : Array (Option Value)} {vsI : Array Value} {oc0 kV0 dc0 pm0 cd0 ct0 oc1 kV1 dc1 pm1 cd1 ct1 oc2 kV2 dc2 pm2 cd2 ct2 oc3 kV3 dc3 pm3 cd3 ct3 oc4 kV4 dc4 pm4 cd4 ct4 oc5 kV5 dc5 pm5 cd5 ct5 oc6 kV6 dc6 pm6 cd6 ct6 oc7 kV7 dc7 pm7 cd7 ct7 oc8 kV8 dc8 pm8 cd8 ct8 oc9 kV9 dc9 pm9 cd9 ct9 oc10 kV10 dc10 pm10 cd10 ct10 oc11 kV11 dc11 pm11 cd11 ct11 oc12 kV12 dc12 pm12 cd12 ct12 oc13 kV13 dc13 pm13 cd13 ct13 oc14 kV14 dc14 pm14 cd14 ct14 oc15 kV15 dc15 pm15 cd15 ct15 oc16 kV16 dc16 pm16 cd16 ct16 oc17 kV17 dc17 pm17 cd17 ct17 oc18 kV18 dc18 pm18 cd18 ct18 oc19 kV19 dc19 pm19 cd19 ct19 oc20 kV20 dc20 pm20 cd20 ct20 oc21 kV21 dc21 pm21 cd21 ct21 oc22 kV22 dc22 pm22 cd22 ct22 oc23 kV23 dc23 pm23 cd23 ct23 ocI kVI dcI pmI ctI cclI clI : Value} {t6 t8 t7 tf : Tok} {file : Str}
    {CN CB CD CT CU fI cda cc N : Addr} {nm qn : Str} {bs sub : List Value} {sn : List Str} {ab : Bool} {col : Option Bool} {dd : Option Addr} {m0 m1 m2 m3 m5 : Option Value}
    (a0 : PySem.W.nsIn K mainGlobals "_law_cell" = some (some (.ref f0)))
    (l0 : K.lookup f0 = some ⟨oc0, od0, .func (PySem.W.fnOf "_law_cell" "_law_cell" (defArgs s_law_cell) (defBody s_law_cell) (defScope s_law_cell) .none kV0 dc0 pm0 an0 cd0 ct0), sl0⟩)
    (c0 : PySem.W.codeIn K cd0 "_law_cell" = true)
    (k0 : PySem.W.keepIn K (.ref f0) = true)
    (a1 : PySem.W.nsIn K mainGlobals "_law_draws" = some (some (.ref f1)))
    (l1 : K.lookup f1 = some ⟨oc1, od1, .func (PySem.W.fnOf "_law_draws" "_law_draws" (defArgs s_law_draws) (defBody s_law_draws) (defScope s_law_draws) .none kV1 dc1 pm1 an1 cd1 ct1), sl1⟩)
    (c1 : PySem.W.codeIn K cd1 "_law_draws" = true)
    (k1 : PySem.W.keepIn K (.ref f1) = true)
    (a2 : PySem.W.nsIn K mainGlobals "_load" = some (some (.ref f2)))
    (l2 : K.lookup f2 = some ⟨oc2, od2, .func (PySem.W.fnOf "_load" "_load" (defArgs s_load) (defBody s_load) (defScope s_load) .none kV2 dc2 pm2 an2 cd2 ct2), sl2⟩)
    (c2 : PySem.W.codeIn K cd2 "_load" = true)
    (k2 : PySem.W.keepIn K (.ref f2) = true)
    (a3 : PySem.W.nsIn K mainGlobals "_law_minutes" = some (some (.ref f3)))
    (l3 : K.lookup f3 = some ⟨oc3, od3, .func (PySem.W.fnOf "_law_minutes" "_law_minutes" (defArgs s_law_minutes) (defBody s_law_minutes) (defScope s_law_minutes) .none kV3 dc3 pm3 an3 cd3 ct3), sl3⟩)
    (c3 : PySem.W.codeIn K cd3 "_law_minutes" = true)
    (k3 : PySem.W.keepIn K (.ref f3) = true)
    (a4 : PySem.W.nsIn K mainGlobals "week_totals" = some (some (.ref f4)))
    (l4 : K.lookup f4 = some ⟨oc4, od4, .func (PySem.W.fnOf "week_totals" "week_totals" (defArgs sweek_totals) (defBody sweek_totals) (defScope sweek_totals) .none kV4 dc4 pm4 an4 cd4 ct4), sl4⟩)
    (c4 : PySem.W.codeIn K cd4 "week_totals" = true)
    (k4 : PySem.W.keepIn K (.ref f4) = true)
    (a5 : PySem.W.nsIn K mainGlobals "_first_swap" = some (some (.ref f5)))
    (l5 : K.lookup f5 = some ⟨oc5, od5, .func (PySem.W.fnOf "_first_swap" "_first_swap" (defArgs s_first_swap) (defBody s_first_swap) (defScope s_first_swap) .none kV5 dc5 pm5 an5 cd5 ct5), sl5⟩)
    (c5 : PySem.W.codeIn K cd5 "_first_swap" = true)
    (k5 : PySem.W.keepIn K (.ref f5) = true)
    (a6 : PySem.W.nsIn K mainGlobals "is_settled" = some (some (.ref f6)))
    (l6 : K.lookup f6 = some ⟨oc6, od6, .func (PySem.W.fnOf "is_settled" "is_settled" (defArgs sis_settled) (defBody sis_settled) (defScope sis_settled) .none kV6 dc6 pm6 an6 cd6 ct6), sl6⟩)
    (c6 : PySem.W.codeIn K cd6 "is_settled" = true)
    (k6 : PySem.W.keepIn K (.ref f6) = true)
    (a7 : PySem.W.nsIn K mainGlobals "_law_totals" = some (some (.ref f7)))
    (l7 : K.lookup f7 = some ⟨oc7, od7, .func (PySem.W.fnOf "_law_totals" "_law_totals" (defArgs s_law_totals) (defBody s_law_totals) (defScope s_law_totals) .none kV7 dc7 pm7 an7 cd7 ct7), sl7⟩)
    (c7 : PySem.W.codeIn K cd7 "_law_totals" = true)
    (k7 : PySem.W.keepIn K (.ref f7) = true)
    (a8 : PySem.W.nsIn K mainGlobals "_law_first_swap" = some (some (.ref f8)))
    (l8 : K.lookup f8 = some ⟨oc8, od8, .func (PySem.W.fnOf "_law_first_swap" "_law_first_swap" (defArgs s_law_first_swap) (defBody s_law_first_swap) (defScope s_law_first_swap) .none kV8 dc8 pm8 an8 cd8 ct8), sl8⟩)
    (c8 : PySem.W.codeIn K cd8 "_law_first_swap" = true)
    (k8 : PySem.W.keepIn K (.ref f8) = true)
    (a9 : PySem.W.nsIn K mainGlobals "_law_exchanged" = some (some (.ref f9)))
    (l9 : K.lookup f9 = some ⟨oc9, od9, .func (PySem.W.fnOf "_law_exchanged" "_law_exchanged" (defArgs s_law_exchanged) (defBody s_law_exchanged) (defScope s_law_exchanged) .none kV9 dc9 pm9 an9 cd9 ct9), sl9⟩)
    (c9 : PySem.W.codeIn K cd9 "_law_exchanged" = true)
    (k9 : PySem.W.keepIn K (.ref f9) = true)
    (a10 : PySem.W.nsIn K mainGlobals "_law_settled" = some (some (.ref f10)))
    (l10 : K.lookup f10 = some ⟨oc10, od10, .func (PySem.W.fnOf "_law_settled" "_law_settled" (defArgs s_law_settled) (defBody s_law_settled) (defScope s_law_settled) .none kV10 dc10 pm10 an10 cd10 ct10), sl10⟩)
    (c10 : PySem.W.codeIn K cd10 "_law_settled" = true)
    (k10 : PySem.W.keepIn K (.ref f10) = true)
    (a11 : PySem.W.nsIn K mainGlobals "check_number" = some (some (.ref f11)))
    (l11 : K.lookup f11 = some ⟨oc11, od11, .func (PySem.W.fnOf "check_number" "check_number" (defArgs scheck_number) (defBody scheck_number) (defScope scheck_number) .none kV11 dc11 pm11 an11 cd11 ct11), sl11⟩)
    (c11 : PySem.W.codeIn K cd11 "check_number" = true)
    (k11 : PySem.W.keepIn K (.ref f11) = true)
    (a12 : PySem.W.nsIn K mainGlobals "fair_week" = some (some (.ref f12)))
    (l12 : K.lookup f12 = some ⟨oc12, od12, .func (PySem.W.fnOf "fair_week" "fair_week" (defArgs sfair_week) (defBody sfair_week) (defScope sfair_week) .none kV12 dc12 pm12 an12 cd12 ct12), sl12⟩)
    (c12 : PySem.W.codeIn K cd12 "fair_week" = true)
    (k12 : PySem.W.keepIn K (.ref f12) = true)
    (a13 : PySem.W.nsIn K mainGlobals "_law_by_turns" = some (some (.ref f13)))
    (l13 : K.lookup f13 = some ⟨oc13, od13, .func (PySem.W.fnOf "_law_by_turns" "_law_by_turns" (defArgs s_law_by_turns) (defBody s_law_by_turns) (defScope s_law_by_turns) .none kV13 dc13 pm13 an13 cd13 ct13), sl13⟩)
    (c13 : PySem.W.codeIn K cd13 "_law_by_turns" = true)
    (k13 : PySem.W.keepIn K (.ref f13) = true)
    (a14 : PySem.W.nsIn K mainGlobals "_law_number" = some (some (.ref f14)))
    (l14 : K.lookup f14 = some ⟨oc14, od14, .func (PySem.W.fnOf "_law_number" "_law_number" (defArgs s_law_number) (defBody s_law_number) (defScope s_law_number) .none kV14 dc14 pm14 an14 cd14 ct14), sl14⟩)
    (c14 : PySem.W.codeIn K cd14 "_law_number" = true)
    (k14 : PySem.W.keepIn K (.ref f14) = true)
    (a15 : PySem.W.nsIn K mainGlobals "_law_same" = some (some (.ref f15)))
    (l15 : K.lookup f15 = some ⟨oc15, od15, .func (PySem.W.fnOf "_law_same" "_law_same" (defArgs s_law_same) (defBody s_law_same) (defScope s_law_same) .none kV15 dc15 pm15 an15 cd15 ct15), sl15⟩)
    (c15 : PySem.W.codeIn K cd15 "_law_same" = true)
    (k15 : PySem.W.keepIn K (.ref f15) = true)
    (a16 : PySem.W.nsIn K mainGlobals "_law_same_week" = some (some (.ref f16)))
    (l16 : K.lookup f16 = some ⟨oc16, od16, .func (PySem.W.fnOf "_law_same_week" "_law_same_week" (defArgs s_law_same_week) (defBody s_law_same_week) (defScope s_law_same_week) .none kV16 dc16 pm16 an16 cd16 ct16), sl16⟩)
    (c16 : PySem.W.codeIn K cd16 "_law_same_week" = true)
    (k16 : PySem.W.keepIn K (.ref f16) = true)
    (a17 : PySem.W.nsIn K mainGlobals "_law_drawn_week" = some (some (.ref f17)))
    (l17 : K.lookup f17 = some ⟨oc17, od17, .func (PySem.W.fnOf "_law_drawn_week" "_law_drawn_week" (defArgs s_law_drawn_week) (defBody s_law_drawn_week) (defScope s_law_drawn_week) .none kV17 dc17 pm17 an17 cd17 ct17), sl17⟩)
    (c17 : PySem.W.codeIn K cd17 "_law_drawn_week" = true)
    (k17 : PySem.W.keepIn K (.ref f17) = true)
    (a18 : PySem.W.nsIn K mainGlobals "_law_judged" = some (some (.ref f18)))
    (l18 : K.lookup f18 = some ⟨oc18, od18, .func (PySem.W.fnOf "_law_judged" "_law_judged" (defArgs s_law_judged) (defBody s_law_judged) (defScope s_law_judged) .none kV18 dc18 pm18 an18 cd18 ct18), sl18⟩)
    (c18 : PySem.W.codeIn K cd18 "_law_judged" = true)
    (k18 : PySem.W.keepIn K (.ref f18) = true)
    (a19 : PySem.W.nsIn K mainGlobals "_law_answered" = some (some (.ref f19)))
    (l19 : K.lookup f19 = some ⟨oc19, od19, .func (PySem.W.fnOf "_law_answered" "_law_answered" (defArgs s_law_answered) (defBody s_law_answered) (defScope s_law_answered) .none kV19 dc19 pm19 an19 cd19 ct19), sl19⟩)
    (c19 : PySem.W.codeIn K cd19 "_law_answered" = true)
    (k19 : PySem.W.keepIn K (.ref f19) = true)
    (a20 : PySem.W.nsIn K mainGlobals "_law_first_flaw" = some (some (.ref f20)))
    (l20 : K.lookup f20 = some ⟨oc20, od20, .func (PySem.W.fnOf "_law_first_flaw" "_law_first_flaw" (defArgs s_law_first_flaw) (defBody s_law_first_flaw) (defScope s_law_first_flaw) .none kV20 dc20 pm20 an20 cd20 ct20), sl20⟩)
    (c20 : PySem.W.codeIn K cd20 "_law_first_flaw" = true)
    (k20 : PySem.W.keepIn K (.ref f20) = true)
    (a21 : PySem.W.nsIn K mainGlobals "_law_refused" = some (some (.ref f21)))
    (l21 : K.lookup f21 = some ⟨oc21, od21, .func (PySem.W.fnOf "_law_refused" "_law_refused" (defArgs s_law_refused) (defBody s_law_refused) (defScope s_law_refused) .none kV21 dc21 pm21 an21 cd21 ct21), sl21⟩)
    (c21 : PySem.W.codeIn K cd21 "_law_refused" = true)
    (k21 : PySem.W.keepIn K (.ref f21) = true)
    (a22 : PySem.W.nsIn K mainGlobals "_law_flaws_refused" = some (some (.ref f22)))
    (l22 : K.lookup f22 = some ⟨oc22, od22, .func (PySem.W.fnOf "_law_flaws_refused" "_law_flaws_refused" (defArgs s_law_flaws_refused) (defBody s_law_flaws_refused) (defScope s_law_flaws_refused) .none kV22 dc22 pm22 an22 cd22 ct22), sl22⟩)
    (c22 : PySem.W.codeIn K cd22 "_law_flaws_refused" = true)
    (k22 : PySem.W.keepIn K (.ref f22) = true)
    (a23 : PySem.W.nsIn K mainGlobals "law" = some (some (.ref f23)))
    (l23 : K.lookup f23 = some ⟨oc23, od23, .func (PySem.W.fnOf "law" "law" (defArgs slaw) (defBody slaw) (defScope slaw) .none kV23 dc23 pm23 an23 cd23 ct23), sl23⟩)
    (c23 : PySem.W.codeIn K cd23 "law" = true)
    (k23 : PySem.W.keepIn K (.ref f23) = true)
    (z_len : PySem.W.nsIn K mainGlobals "len" = some none)
    (z_abs : PySem.W.nsIn K mainGlobals "abs" = some none)
    (z_int : PySem.W.nsIn K mainGlobals "int" = some none)
    (z_range : PySem.W.nsIn K mainGlobals "range" = some none)
    (z_list : PySem.W.nsIn K mainGlobals "list" = some none)
    (z_tuple : PySem.W.nsIn K mainGlobals "tuple" = some none)
    (z_sum : PySem.W.nsIn K mainGlobals "sum" = some none)
    (z_max : PySem.W.nsIn K mainGlobals "max" = some none)
    (z_isinstance : PySem.W.nsIn K mainGlobals "isinstance" = some none)
    (z_bool : PySem.W.nsIn K mainGlobals "bool" = some none)
    (z_str : PySem.W.nsIn K mainGlobals "str" = some none)
    (z_repr : PySem.W.nsIn K mainGlobals "repr" = some none)
    (z_super : PySem.W.nsIn K mainGlobals "super" = some none)
    (m600 : PySem.W.nsIn K mainGlobals "_MOST_LOAD" = some (some (.int 600 t6)))
    (m8 : PySem.W.nsIn K mainGlobals "_MOST_WORKERS" = some (some (.int 8 t8)))
    (m7 : PySem.W.nsIn K mainGlobals "_MOST_DAYS" = some (some (.int 7 t7)))
    (aCN : PySem.W.nsIn K mainGlobals "BadNumber" = some (some (.ref CN)))
    (aCB : PySem.W.nsIn K mainGlobals "BusError" = some (some (.ref CB)))
    (aCD : PySem.W.nsIn K mainGlobals "Doubled" = some (some (.ref CD)))
    (aCT : PySem.W.nsIn K mainGlobals "TooMany" = some (some (.ref CT)))
    (aCU : PySem.W.nsIn K mainGlobals "Unknown" = some (some (.ref CU)))
    (xN : K.lookup CN = some (excClassObj nm qn CN N bs [.ref CB, .type "ValueError", .type "Exception", .type "BaseException", .type "object"] true sn sub ab col dd m0 m1 m2 m3 m5 "ValueError.__new__"))
    (sa : PySem.W.findIn K (.ref CN) "__setattr__" = some (some (.builtin "object.__setattr__")))
    (ga : PySem.W.findIn K (.ref CN) "__getattribute__" = some (some (.builtin "BaseException.__getattribute__")))
    (gg : PySem.W.findIn K (.ref CN) "__getattr__" = some none)
    (n1 : PySem.W.findIn K (.ref CN) "what" = some none)
    (n2 : PySem.W.findIn K (.ref CN) "value" = some none)
    (iC : PySem.W.findIn K (.ref CN) "__init__" = some (some (.ref fI)))
    (tI : PySem.W.typeIn K (.ref fI) = some (.type "function"))
    (kC : PySem.W.keepIn K (.ref CN) = true)
    (eCN : PySem.W.subIn K (.ref CN) (.type "BaseException") = some true)
    (tCN : PySem.W.typeIn K (.ref CN) = some (.type "type"))
    (hCN : PySem.W.hasDictIn K CN = true)
    (eCB : PySem.W.subIn K (.ref CB) (.type "BaseException") = some true)
    (tCB : PySem.W.typeIn K (.ref CB) = some (.type "type"))
    (hCB : PySem.W.hasDictIn K CB = true)
    (sCB : PySem.W.subIn K (.ref CN) (.ref CB) = some true)
    (eCD : PySem.W.subIn K (.ref CD) (.type "BaseException") = some true)
    (tCD : PySem.W.typeIn K (.ref CD) = some (.type "type"))
    (hCD : PySem.W.hasDictIn K CD = true)
    (sCD : PySem.W.subIn K (.ref CN) (.ref CD) = some false)
    (neCD : CN ≠ CD)
    (eCT : PySem.W.subIn K (.ref CT) (.type "BaseException") = some true)
    (tCT : PySem.W.typeIn K (.ref CT) = some (.type "type"))
    (hCT : PySem.W.hasDictIn K CT = true)
    (sCT : PySem.W.subIn K (.ref CN) (.ref CT) = some false)
    (neCT : CN ≠ CT)
    (eCU : PySem.W.subIn K (.ref CU) (.type "BaseException") = some true)
    (tCU : PySem.W.typeIn K (.ref CU) = some (.type "type"))
    (hCU : PySem.W.hasDictIn K CU = true)
    (sCU : PySem.W.subIn K (.ref CN) (.ref CU) = some false)
    (neCU : CN ≠ CU)
    (vC : PySem.W.subIn K (.ref CN) (.type "ValueError") = some true)
    (mC : PySem.W.mroIn K CN (.ref CN) = some true)
    (mO : PySem.W.mroIn K CN (.type "object") = some true)
    (suC : PySem.W.ks_superIn K CN CN "__init__" = some (some (.builtin "ValueError.__init__")))
    (noO : PySem.W.nsIn K cStatics "thirdparty.any" = some none)
    (top : (l.prog.main.scope.names.lookup ("super" : Str)).isSome = false)
    (lI : K.lookup fI = some ⟨ocI, odI, .func (PySem.W.ksFn "__init__" "BadNumber.__init__" (defArgs (inClass (topS 4) 0)) (defBody (inClass (topS 4) 0)) (defScope (inClass (topS 4) 0)) .none kVI dcI pmI anI (.ref cda) ctI cc), slI⟩)
    (cI : PySem.W.codeIn K (.ref cda) "BadNumber.__init__" = true)
    (lcd : K.lookup cda = some ⟨cclI, cddI, .fields vsI, csI⟩)
    (hvs : vsI[2]? = some (.str file tf))
    (hfi : ((l.prog.main.file : Str) == file) = true)
    (lcc : K.lookup cc = some ⟨clI, cldI, .cell (some (.ref CN)), clsI⟩)
    (hca : PySem.W.findIn K (.ref CN) "__class__" = some (some (.builtin "object.__class__")))
    (hsp : PySem.W.specialIn K (.builtin "object.__class__") "__get__" = some (some (.builtin "getset_descriptor.__get__")))
    (htk : PySem.W.takesIn K (.builtin "object.__class__") = some true)
    : ∃ fd : FuncData, (∀ (s : Shared) (v : Value), BindsTo s fd ⟨[v], []⟩ [("script", v)]) ∧ ∀ base : Heap, K.In base → base.Ns mainGlobals mg → FnOkG l.prog w K mg base 7 fa fd ["script"] (sp_law K) := by
  have e := hfa.symm.trans (PySem.W.mg_of X G a23)
  cases e
  have F0 := fun_mk (st := s_law_cell) l0 c0 k0
  have b0 := F0.binds (ps := ["script", "k"]) fun _ _ _ _ _ _ us hl => match us, hl with | [_, _], _ => rfl
  have F1 := fun_mk (st := s_law_draws) l1 c1 k1
  have b1 := F1.binds (ps := ["cell", "sizes"]) fun _ _ _ _ _ _ us hl => match us, hl with | [_, _], _ => rfl
  have F2 := fun_mk (st := s_load) l2 c2 k2
  have b2 := F2.binds (ps := ["loads", "shift"]) fun _ _ _ _ _ _ us hl => match us, hl with | [_, _], _ => rfl
  have F3 := fun_mk (st := s_law_minutes) l3 c3 k3
  have b3 := F3.binds (ps := ["loads", "shift"]) fun _ _ _ _ _ _ us hl => match us, hl with | [_, _], _ => rfl
  have F4 := fun_mk (st := sweek_totals) l4 c4 k4
  have b4 := F4.binds (ps := ["loads", "week"]) fun _ _ _ _ _ _ us hl => match us, hl with | [_, _], _ => rfl
  have F5 := fun_mk (st := s_first_swap) l5 c5 k5
  have b5 := F5.binds (ps := ["loads", "week"]) fun _ _ _ _ _ _ us hl => match us, hl with | [_, _], _ => rfl
  have F6 := fun_mk (st := sis_settled) l6 c6 k6
  have b6 := F6.binds (ps := ["loads", "week"]) fun _ _ _ _ _ _ us hl => match us, hl with | [_, _], _ => rfl
  have F7 := fun_mk (st := s_law_totals) l7 c7 k7
  have b7 := F7.binds (ps := ["loads", "week", "workers"]) fun _ _ _ _ _ _ us hl => match us, hl with | [_, _, _], _ => rfl
  have F8 := fun_mk (st := s_law_first_swap) l8 c8 k8
  have b8 := F8.binds (ps := ["loads", "week", "workers"]) fun _ _ _ _ _ _ us hl => match us, hl with | [_, _, _], _ => rfl
  have F9 := fun_mk (st := s_law_exchanged) l9 c9 k9
  have b9 := F9.binds (ps := ["week", "morning", "one", "two"]) fun _ _ _ _ _ _ us hl => match us, hl with | [_, _, _, _], _ => rfl
  have F10 := fun_mk (st := s_law_settled) l10 c10 k10
  have b10 := F10.binds (ps := ["loads", "week", "workers"]) fun _ _ _ _ _ _ us hl => match us, hl with | [_, _, _], _ => rfl
  have F11 := fun_mk (st := scheck_number) l11 c11 k11
  have b11 := F11.binds (ps := ["what", "value", "least", "most"]) fun _ _ _ _ _ _ us hl => match us, hl with | [_, _, _, _], _ => rfl
  have F12 := fun_mk (st := sfair_week) l12 c12 k12
  have b12 := F12.binds (ps := ["loads", "workers", "days"]) fun _ _ _ _ _ _ us hl => match us, hl with | [_, _, _], _ => rfl
  have F13 := fun_mk (st := s_law_by_turns) l13 c13 k13
  have b13 := F13.binds (ps := ["count", "workers", "mornings"]) fun _ _ _ _ _ _ us hl => match us, hl with | [_, _, _], _ => rfl
  have F14 := fun_mk (st := s_law_number) l14 c14 k14
  have b14 := F14.binds (ps := ["thing"]) fun _ _ _ _ _ _ us hl => match us, hl with | [_], _ => rfl
  have F15 := fun_mk (st := s_law_same) l15 c15 k15
  have b15 := F15.binds (ps := ["told", "due"]) fun _ _ _ _ _ _ us hl => match us, hl with | [_, _], _ => rfl
  have F16 := fun_mk (st := s_law_same_week) l16 c16 k16
  have b16 := F16.binds (ps := ["told", "due"]) fun _ _ _ _ _ _ us hl => match us, hl with | [_, _], _ => rfl
  have F17 := fun_mk (st := s_law_drawn_week) l17 c17 k17
  have b17 := F17.binds (ps := ["cell", "count", "workers", "mornings"]) fun _ _ _ _ _ _ us hl => match us, hl with | [_, _, _, _], _ => rfl
  have F18 := fun_mk (st := s_law_judged) l18 c18 k18
  have b18 := F18.binds (ps := ["loads", "week", "workers"]) fun _ _ _ _ _ _ us hl => match us, hl with | [_, _, _], _ => rfl
  have F19 := fun_mk (st := s_law_answered) l19 c19 k19
  have b19 := F19.binds (ps := ["loads", "workers", "mornings", "due"]) fun _ _ _ _ _ _ us hl => match us, hl with | [_, _, _, _], _ => rfl
  have F20 := fun_mk (st := s_law_first_flaw) l20 c20 k20
  have b20 := F20.binds (ps := ["loads", "workers", "mornings"]) fun _ _ _ _ _ _ us hl => match us, hl with | [_, _, _], _ => rfl
  have F21 := fun_mk (st := s_law_refused) l21 c21 k21
  have b21 := F21.binds (ps := ["loads", "workers", "mornings"]) fun _ _ _ _ _ _ us hl => match us, hl with | [_, _, _], _ => rfl
  have F22 := fun_mk (st := s_law_flaws_refused) l22 c22 k22
  have b22 := F22.binds (ps := ["cell", "loads", "workers", "mornings"]) fun _ _ _ _ _ _ us hl => match us, hl with | [_, _, _, _], _ => rfl
  have F23 := fun_mk (st := slaw) l23 c23 k23
  refine ⟨PySem.W.fnOf "law" "law" (defArgs slaw) (defBody slaw) (defScope slaw) .none kV23 dc23 pm23 an23 cd23 ct23, fun s v => .of_eq rfl, fun base _ _ => ?_⟩
  have T : Txt mg := ⟨PySem.W.mg_none_of X G z_len, PySem.W.mg_none_of X G z_abs, PySem.W.mg_none_of X G z_int, PySem.W.mg_none_of X G z_range, PySem.W.mg_none_of X G z_list, PySem.W.mg_none_of X G z_tuple, PySem.W.mg_none_of X G z_sum, PySem.W.mg_none_of X G z_max, PySem.W.mg_none_of X G z_isinstance, PySem.W.mg_none_of X G z_bool, PySem.W.mg_none_of X G z_str, PySem.W.mg_none_of X G z_repr, PySem.W.mg_none_of X G z_super⟩
  have c600 : ∃ t, mg "_MOST_LOAD" = some (.int 600 t) := ⟨_, PySem.W.mg_of X G m600⟩
  have c8 : ∃ t, mg "_MOST_WORKERS" = some (.int 8 t) := ⟨_, PySem.W.mg_of X G m8⟩
  have c7 : ∃ t, mg "_MOST_DAYS" = some (.int 7 t) := ⟨_, PySem.W.mg_of X G m7⟩
  have own : PySem.OwX.OwnTxt l.prog K CN fI ["what", "value"] :=
    { cls := ⟨nm, qn, N, bs, _, sn, sub, ab, col, dd, m0, m1, m2, m3, m5, xN, by first | rfl | decide +kernel⟩, sa := sa, ga := ga, gg := gg,
      noN := fun f hf => by
        simp only [List.mem_cons, List.not_mem_nil, or_false] at hf
        rcases hf with rfl | rfl
        · exact n1
        · exact n2
      iC := iC, tC := tI, kC := kC, exC := eCN, tyC := tCN, hdC := hCN, veC := vC, spC := mC, suC := suC, noO := noO, noS := z_super, top := top, few := by decide,
      fn := ⟨ocI, odI, "__init__", "BadNumber.__init__", _, _, _, .none, kVI, dcI, pmI, anI, cda, cc, ctI, slI, _, cclI, cddI, vsI, csI, file, tf, clI, cldI, clsI, lI, cI,
        .mk (by decide) (.cons (.cons .nil)), rfl, rfl, lcd, hvs, hfi, lcc, rfl, rfl, (fun y hy => by
          simp only [List.mem_cons, List.not_mem_nil, or_false] at hy
          rcases hy with rfl | rfl | rfl <;> rfl), (by decide), rfl, rfl, rfl, fun s us hu => match us, hu with | [_, _, _], _ => .of_eq rfl⟩ }
  have ec : ExcC K CN := ⟨ga, gg, eCN, hCN, hca, hsp, htk, mO⟩
  have XB : Exc l.prog K mg CN CB CD CT CU fI :=
    { own := own, gN := PySem.W.mg_of X G aCN, gB := PySem.W.mg_of X G aCB, gD := PySem.W.mg_of X G aCD, gT := PySem.W.mg_of X G aCT, gU := PySem.W.mg_of X G aCU, ec := ec, xf := ⟨ga, gg, eCN, hCN⟩,
      te := PySem.W.exm_ref eCB hCB tCB sCB, kN := kit_self, kO := kitAny_cons (kit_other neCD eCD (PySem.W.exm_ref eCD hCD tCD sCD)) (fun _ => kitAny_cons (kit_other neCT eCT (PySem.W.exm_ref eCT hCT tCT sCT)) (fun _ => kitAny_cons (kit_other neCU eCU (PySem.W.exm_ref eCU hCU tCU sCU)) (fun _ => rfl) (fun z => Bool.noConfusion z)) (fun z => Bool.noConfusion z)) (fun z => Bool.noConfusion z) }
  have C_law_cell : Cal l.prog w K mg base 1 "_law_cell" ["script", "k"] (sp_cell K) f0 _ := ⟨ok_cell F0 T  , PySem.W.mg_of X G a0, k0, b0⟩
  have C_law_draws : Cal l.prog w K mg base 1 "_law_draws" ["cell", "sizes"] (sp_draws K) f1 _ := ⟨ok_draws F1 T  , PySem.W.mg_of X G a1, k1, b1⟩
  have C_load : Cal l.prog w K mg base 1 "_load" ["loads", "shift"] (sp_load K) f2 _ := ⟨ok_load F2 T  , PySem.W.mg_of X G a2, k2, b2⟩
  have C_law_minutes : Cal l.prog w K mg base 1 "_law_minutes" ["loads", "shift"] (sp_minutes K) f3 _ := ⟨ok_minutes F3 T  , PySem.W.mg_of X G a3, k3, b3⟩
  have Cweek_totals : Cal l.prog w K mg base 2 "week_totals" ["loads", "week"] (sp_totals K) f4 _ := ⟨ok_totals F4 T  C_load, PySem.W.mg_of X G a4, k4, b4⟩
  have C_first_swap : Cal l.prog w K mg base 3 "_first_swap" ["loads", "week"] (sp_first K) f5 _ := ⟨ok_first F5 T  C_load Cweek_totals, PySem.W.mg_of X G a5, k5, b5⟩
  have Cis_settled : Cal l.prog w K mg base 4 "is_settled" ["loads", "week"] (sp_settled K) f6 _ := ⟨ok_settled F6 T  C_first_swap, PySem.W.mg_of X G a6, k6, b6⟩
  have C_law_totals : Cal l.prog w K mg base 2 "_law_totals" ["loads", "week", "workers"] (sp_ltotals K) f7 _ := ⟨ok_ltotals F7 T  C_law_minutes, PySem.W.mg_of X G a7, k7, b7⟩
  have C_law_first_swap : Cal l.prog w K mg base 3 "_law_first_swap" ["loads", "week", "workers"] (sp_lfirst K) f8 _ := ⟨ok_lfirst F8 T  C_law_minutes C_law_totals, PySem.W.mg_of X G a8, k8, b8⟩
  have C_law_exchanged : Cal l.prog w K mg base 1 "_law_exchanged" ["week", "morning", "one", "two"] (sp_exch K) f9 _ := ⟨ok_exch F9 T  , PySem.W.mg_of X G a9, k9, b9⟩
  have C_law_settled : Cal l.prog w K mg base 4 "_law_settled" ["loads", "week", "workers"] (sp_lsettled K) f10 _ := ⟨ok_lsettled F10 T  C_law_totals C_law_first_swap C_law_exchanged, PySem.W.mg_of X G a10, k10, b10⟩
  have Ccheck_number : CalX l.prog w K mg base 3 "check_number" ["what", "value", "least", "most"] (sp_check CN) f11 _ := ⟨ok_check F11 T XB , PySem.W.mg_of X G a11, k11, b11⟩
  have Cfair_week : CalX l.prog w K mg base 4 "fair_week" ["loads", "workers", "days"] (sp_fair K CN) f12 _ := ⟨ok_fair F12 T c600 c8 c7 Ccheck_number C_first_swap, PySem.W.mg_of X G a12, k12, b12⟩
  have C_law_by_turns : Cal l.prog w K mg base 1 "_law_by_turns" ["count", "workers", "mornings"] (sp_turns K) f13 _ := ⟨ok_turns F13 T  , PySem.W.mg_of X G a13, k13, b13⟩
  have C_law_number : Cal l.prog w K mg base 1 "_law_number" ["thing"] sp_number f14 _ := ⟨ok_number F14 T  , PySem.W.mg_of X G a14, k14, b14⟩
  have CQ_law_number : CalQ l.prog w K mg base 1 "_law_number" ["thing"] sp_number f14 _ := ⟨ok_numberQ F14 T, PySem.W.mg_of X G a14, k14, b14⟩
  have C_law_same : Cal l.prog w K mg base 2 "_law_same" ["told", "due"] (sp_same K) f15 _ := ⟨ok_same F15 T  C_law_number, PySem.W.mg_of X G a15, k15, b15⟩
  have C_law_same_week : Cal l.prog w K mg base 3 "_law_same_week" ["told", "due"] (sp_samew K) f16 _ := ⟨ok_samew F16 T  C_law_same, PySem.W.mg_of X G a16, k16, b16⟩
  have C_law_drawn_week : Cal l.prog w K mg base 2 "_law_drawn_week" ["cell", "count", "workers", "mornings"] (sp_drawnw K) f17 _ := ⟨ok_drawnw F17 T  C_law_draws, PySem.W.mg_of X G a17, k17, b17⟩
  have C_law_judged : CalG l.prog w K mg base 5 "_law_judged" ["loads", "week", "workers"] (sp_judged K) f18 _ := ⟨ok_judged F18 T  C_law_totals C_law_first_swap Cweek_totals Cis_settled C_law_same, PySem.W.mg_of X G a18, k18, b18⟩
  have C_law_answered : CalG l.prog w K mg base 5 "_law_answered" ["loads", "workers", "mornings", "due"] (sp_answered K) f19 _ := ⟨ok_answered F19 T  Cfair_week C_law_same_week C_law_by_turns, PySem.W.mg_of X G a19, k19, b19⟩
  have C_law_first_flaw : Cal l.prog w K mg base 1 "_law_first_flaw" ["loads", "workers", "mornings"] (sp_flaw K) f20 _ := ⟨ok_flaw F20 T  , PySem.W.mg_of X G a20, k20, b20⟩
  have C_law_refused : CalG l.prog w K mg base 5 "_law_refused" ["loads", "workers", "mornings"] (sp_refused K) f21 _ := ⟨ok_refused F21 T XB Cfair_week C_law_first_flaw CQ_law_number, PySem.W.mg_of X G a21, k21, b21⟩
  have C_law_flaws_refused : CalG l.prog w K mg base 6 "_law_flaws_refused" ["cell", "loads", "workers", "mornings"] (sp_flaws K) f22 _ := ⟨ok_flaws F22 T  C_law_draws C_law_refused, PySem.W.mg_of X G a22, k22, b22⟩
  exact ok_law F23 T C_law_draws C_law_cell C_law_by_turns C_law_settled C_law_answered C_law_drawn_week C_law_exchanged C_law_judged C_law_flaws_refused C_law_same_week Cfair_week
end K29W
open PySem PySem.W PyProof.Rows
set_option maxHeartbeats 0 in
theorem PySem.Challenge.cw_changeskept_k29_weeks_settle_holds : PySem.Challenge.rw_changeskept_k29_weeks_settle.Holds := by
  w_on; o_law; k_head; (case hw => w_witness2)
  k_fill
  refine L2.walk_ofG (l := PySem.Challenge.rw_changeskept_k29_weeks_settle) (n := 63) (k := 7) (x := "script") (sp := fun w => K29W.sp_law _) rfl (by decide) rfl ⟨rfl, by decide, by decide⟩ (fun w h Y => PySem.W.kIn_of Y) ?F (fun _ _ a ns hl _ hS => ⟨a, ns, rfl, hS, hl, fun _ => rfl⟩)
  case F =>
    intro w mg fa h KX G hmg
    refine' K29W.all_mk KX G hmg ?a0 ?l0 ?c0 ?k0 ?a1 ?l1 ?c1 ?k1 ?a2 ?l2 ?c2 ?k2 ?a3 ?l3 ?c3 ?k3 ?a4 ?l4 ?c4 ?k4 ?a5 ?l5 ?c5 ?k5 ?a6 ?l6 ?c6 ?k6 ?a7 ?l7 ?c7 ?k7 ?a8 ?l8 ?c8 ?k8 ?a9 ?l9 ?c9 ?k9 ?a10 ?l10 ?c10 ?k10 ?a11 ?l11 ?c11 ?k11 ?a12 ?l12 ?c12 ?k12 ?a13 ?l13 ?c13 ?k13 ?a14 ?l14 ?c14 ?k14 ?a15 ?l15 ?c15 ?k15 ?a16 ?l16 ?c16 ?k16 ?a17 ?l17 ?c17 ?k17 ?a18 ?l18 ?c18 ?k18 ?a19 ?l19 ?c19 ?k19 ?a20 ?l20 ?c20 ?k20 ?a21 ?l21 ?c21 ?k21 ?a22 ?l22 ?c22 ?k22 ?a23 ?l23 ?c23 ?k23 ?z_len ?z_abs ?z_int ?z_range ?z_list ?z_tuple ?z_sum ?z_max ?z_isinstance ?z_bool ?z_str ?z_repr ?z_super ?m600 ?m8 ?m7 ?aCN ?aCB ?aCD ?aCT ?aCU ?xN ?sa ?ga ?gg ?n1 ?n2 ?iC ?tI ?kC ?eCN ?tCN ?hCN ?eCB ?tCB ?hCB ?sCB ?eCD ?tCD ?hCD ?sCD ?neCD ?eCT ?tCT ?hCT ?sCT ?neCT ?eCU ?tCU ?hCU ?sCU ?neCU ?vC ?mC ?mO ?suC ?noO ?top ?lI ?cI ?lcd ?hvs ?hfi ?lcc ?hca ?hsp ?htk
    (case a0 => k_is); (case l0 => k_is); (case c0 => k_is); (case k0 => k_is); (case a1 => k_is); (case l1 => k_is); (case c1 => k_is); (case k1 => k_is)
    (case a2 => k_is); (case l2 => k_is); (case c2 => k_is); (case k2 => k_is); (case a3 => k_is); (case l3 => k_is); (case c3 => k_is); (case k3 => k_is)
    (case a4 => k_is); (case l4 => k_is); (case c4 => k_is); (case k4 => k_is); (case a5 => k_is); (case l5 => k_is); (case c5 => k_is); (case k5 => k_is)
    (case a6 => k_is); (case l6 => k_is); (case c6 => k_is); (case k6 => k_is); (case a7 => k_is); (case l7 => k_is); (case c7 => k_is); (case k7 => k_is)
    (case a8 => k_is); (case l8 => k_is); (case c8 => k_is); (case k8 => k_is); (case a9 => k_is); (case l9 => k_is); (case c9 => k_is); (case k9 => k_is)
    (case a10 => k_is); (case l10 => k_is); (case c10 => k_is); (case k10 => k_is); (case a11 => k_is); (case l11 => k_is); (case c11 => k_is); (case k11 => k_is)
    (case a12 => k_is); (case l12 => k_is); (case c12 => k_is); (case k12 => k_is); (case a13 => k_is); (case l13 => k_is); (case c13 => k_is); (case k13 => k_is)
    (case a14 => k_is); (case l14 => k_is); (case c14 => k_is); (case k14 => k_is); (case a15 => k_is); (case l15 => k_is); (case c15 => k_is); (case k15 => k_is)
    (case a16 => k_is); (case l16 => k_is); (case c16 => k_is); (case k16 => k_is); (case a17 => k_is); (case l17 => k_is); (case c17 => k_is); (case k17 => k_is)
    (case a18 => k_is); (case l18 => k_is); (case c18 => k_is); (case k18 => k_is); (case a19 => k_is); (case l19 => k_is); (case c19 => k_is); (case k19 => k_is)
    (case a20 => k_is); (case l20 => k_is); (case c20 => k_is); (case k20 => k_is); (case a21 => k_is); (case l21 => k_is); (case c21 => k_is); (case k21 => k_is)
    (case a22 => k_is); (case l22 => k_is); (case c22 => k_is); (case k22 => k_is); (case a23 => k_is); (case l23 => k_is); (case c23 => k_is); (case k23 => k_is)
    (case z_len => k_is); (case z_abs => k_is); (case z_int => k_is); (case z_range => k_is); (case z_list => k_is); (case z_tuple => k_is); (case z_sum => k_is); (case z_max => k_is)
    (case z_isinstance => k_is); (case z_bool => k_is); (case z_str => k_is); (case z_repr => k_is); (case z_super => k_is); (case m600 => k_is); (case m8 => k_is); (case m7 => k_is)
    (case aCN => k_is); (case aCB => k_is); (case aCD => k_is); (case aCT => k_is); (case aCU => k_is); (case xN => k_is); (case sa => k_is); (case ga => k_is)
    (case gg => k_is); (case n1 => k_is); (case n2 => k_is); (case iC => k_is); (case tI => k_is); (case kC => k_is); (case eCN => k_is); (case tCN => k_is)
    (case hCN => k_is); (case eCB => k_is); (case tCB => k_is); (case hCB => k_is); (case sCB => first | k_is | rfl); (case eCD => k_is); (case tCD => k_is); (case hCD => k_is)
    (case sCD => first | k_is | rfl); (case neCD => decide); (case eCT => k_is); (case tCT => k_is); (case hCT => k_is); (case sCT => first | k_is | rfl); (case neCT => decide); (case eCU => k_is)
    (case tCU => k_is); (case hCU => k_is); (case sCU => first | k_is | rfl); (case neCU => decide); (case vC => k_is); (case mC => first | k_is | rfl | kernel_rfl); (case mO => first | k_is | rfl | kernel_rfl); (case suC => first | ks_is | rfl | kernel_rfl)
    (case noO => k_is); (case top => first | rfl | decide +kernel); (case lI => k_is); (case cI => k_is); (case lcd => k_is); (case hvs => rfl); (case hfi => first | rfl | decide +kernel); (case lcc => k_is)
    (case hca => k_is); (case hsp => first | k_is | rfl | kernel_rfl); (case htk => first | k_is | rfl | kernel_rfl)


