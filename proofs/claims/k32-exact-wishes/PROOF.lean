import PyProof.Rows.All
import Wide.All
import OpenK.AllK
import Wide.FinOn
import HandS.ForMost
import HandS.RevRange
import HandS.Rev
import HandS.IsInst
import HandS.More
import HandS.Conv
import HandS.Wide
import KE.DatumOrd
import PyProof.Rows.All
import Wide.All
import OpenK.AllK
import Wide.FinOn
import PyProof.EqAt
import PyProof.EqKinds
import PyProof.TupleCall
import KE.KExcSuper
import HandS.ForSpec
import HandS.ExcInit
import HandS.ExcSuper
import KE.KIsAll
import KE.KExcIs
import HandS.ExcField
import HandS.ExcIs
import PyProof.ReprLen
import PyProof.ReprRoom
import HandS.Walk
import KE.GoesMore
import HandS.Deep
import HandS.SetFor
import KE.RegKSuper
import PySem.Challenge.RW_changeskept_k32_exact_wishes
set_option Elab.async false
set_option linter.all false
set_option maxRecDepth 100000
set_option maxHeartbeats 4000000
/-! The mathematics of the law on the canonical order and the least ring: plain lists, no program in sight. -/
namespace K02
abbrev PL := List (Nat × Nat)
/-! ### lookups in lists of pairs -/
def look {β : Type} : List (Nat × β) → Nat → Option β
  | [], _ => none
  | p :: r, k => if p.1 = k then some p.2 else look r k
def put {β : Type} : List (Nat × β) → Nat → β → List (Nat × β)
  | [], k, v => [(k, v)]
  | p :: r, k, v => if p.1 = k then (p.1, v) :: r else p :: put r k v
theorem look_put {β : Type} (k : Nat) (v : β) : ∀ (l : List (Nat × β)) (j : Nat), look (put l k v) j = if k = j then some v else look l j
  | [], j => by
    show (if k = j then some v else none) = _
    rfl
  | p :: r, j => by
    unfold put
    by_cases h : p.1 = k
    · rw [if_pos h]
      show (if p.1 = j then some v else look r j) = if k = j then some v else (if p.1 = j then some p.2 else look r j)
      rw [h]
      by_cases e : k = j
      · rw [if_pos e, if_pos e]
      · rw [if_neg e, if_neg e, if_neg e]
    · rw [if_neg h]
      show (if p.1 = j then some p.2 else look (put r k v) j) = if k = j then some v else (if p.1 = j then some p.2 else look r j)
      rw [look_put k v r j]
      by_cases e : p.1 = j
      · have : ¬ k = j := fun z => h (e.trans z.symm)
        rw [if_pos e, if_neg this, if_pos e]
      · rw [if_neg e, if_neg e]
theorem look_mem {β : Type} : ∀ {l : List (Nat × β)} {k : Nat} {v : β}, look l k = some v → (k, v) ∈ l
  | [], _, _, h => by cases h
  | p :: r, k, v, h => by
    unfold look at h
    by_cases e : p.1 = k
    · rw [if_pos e] at h
      cases h
      rw [← e]
      exact List.mem_cons_self
    · rw [if_neg e] at h
      exact List.mem_cons_of_mem _ (look_mem h)
theorem look_snoc {β : Type} (k : Nat) (v : β) : ∀ (l : List (Nat × β)) (j : Nat), look l k = none → look (l ++ [(k, v)]) j = if k = j then some v else look l j
  | [], j, _ => by
    show (if k = j then some v else none) = _
    rfl
  | p :: r, j, h => by
    have h0 : ¬ p.1 = k := fun e => by
      unfold look at h
      rw [if_pos e] at h
      cases h
    have h1 : look r k = none := by
      unfold look at h
      rwa [if_neg h0] at h
    show (if p.1 = j then some p.2 else look (r ++ [(k, v)]) j) = if k = j then some v else (if p.1 = j then some p.2 else look r j)
    rw [look_snoc k v r j h1]
    by_cases e : p.1 = j
    · have : ¬ k = j := fun z => h0 (e.trans z.symm)
      rw [if_pos e, if_neg this, if_pos e]
    · rw [if_neg e, if_neg e]
theorem look_none_iff {β : Type} : ∀ {l : List (Nat × β)} {k : Nat}, look l k = none ↔ k ∉ l.map (·.1)
  | [], k => by simp [look]
  | p :: r, k => by
    unfold look
    by_cases e : p.1 = k
    · rw [if_pos e]
      simp [e]
    · rw [if_neg e, look_none_iff]
      simp only [List.map_cons, List.mem_cons, not_or]
      exact ⟨fun h => ⟨fun z => e z.symm, h⟩, fun h => h.2⟩
/-! ### pigeons -/
theorem nodup_len : ∀ (n : Nat) (l : List Nat), l.Nodup → (∀ x ∈ l, x < n) → l.length ≤ n
  | 0, [], _, _ => Nat.le_refl 0
  | 0, x :: r, _, h => absurd (h x List.mem_cons_self) (Nat.not_lt_zero _)
  | n + 1, l, hn, h => by
    have h1 : (l.erase n).Nodup := hn.erase n
    have h2 : ∀ x ∈ l.erase n, x < n := fun x hx => by
      have q := (hn.mem_erase_iff).mp hx
      have := h x q.2
      have := q.1
      omega
    have ih := nodup_len n (l.erase n) h1 h2
    have := List.le_length_erase (a := n) (l := l)
    omega
/-! ### pairs: what leads into a place, what leads out of it -/
def bef (ps : PL) (v : Nat) : List Nat := (ps.filter (fun p => p.2 == v)).map (·.1)
def aft (ps : PL) (v : Nat) : List Nat := (ps.filter (fun p => p.1 == v)).map (·.2)
theorem mem_bef {ps : PL} {u v : Nat} : u ∈ bef ps v ↔ (u, v) ∈ ps := by
  unfold bef
  rw [List.mem_map]
  constructor
  · rintro ⟨⟨a, b⟩, h, rfl⟩
    obtain ⟨h1, h2⟩ := List.mem_filter.mp h
    have e : b = v := by simpa using h2
    rw [← e]
    exact h1
  · intro h
    exact ⟨(u, v), List.mem_filter.mpr ⟨h, by simp⟩, rfl⟩
theorem mem_aft {ps : PL} {u v : Nat} : v ∈ aft ps u ↔ (u, v) ∈ ps := by
  unfold aft
  rw [List.mem_map]
  constructor
  · rintro ⟨⟨a, b⟩, h, rfl⟩
    obtain ⟨h1, h2⟩ := List.mem_filter.mp h
    have e : a = u := by simpa using h2
    rw [← e]
    exact h1
  · intro h
    exact ⟨(u, v), List.mem_filter.mpr ⟨h, by simp⟩, rfl⟩
/-! ### the canonical order -/
def freeP (ps : PL) (t : List Nat) (v : Nat) : Bool := !t.contains v && (bef ps v).all (fun b => t.contains b)
def nextP (m : Nat) (ps : PL) (t : List Nat) : Option Nat := (List.range m).find? (freeP ps t)
def growS (m : Nat) (ps : PL) (t : List Nat) : List Nat := match nextP m ps t with
  | none => t
  | some v => t ++ [v]
def grow (m : Nat) (ps : PL) : Nat → List Nat
  | 0 => []
  | k + 1 => growS m ps (grow m ps k)
def orderOf (m : Nat) (ps : PL) : Option (List Nat) := if (grow m ps m).length < m then none else some (grow m ps m)
theorem next_some {m : Nat} {ps : PL} {t : List Nat} {v : Nat} (h : nextP m ps t = some v) : v < m ∧ v ∉ t ∧ ∀ u, (u, v) ∈ ps → u ∈ t := by
  have h1 := List.find?_some h
  have h2 := List.mem_of_find?_eq_some h
  unfold freeP at h1
  rw [Bool.and_eq_true, List.all_eq_true] at h1
  refine ⟨List.mem_range.mp h2, by simpa using h1.1, fun u hu => ?_⟩
  simpa using h1.2 u (mem_bef.mpr hu)
theorem next_none {m : Nat} {ps : PL} {t : List Nat} (h : nextP m ps t = none) {v : Nat} (hv : v < m) (ht : v ∉ t) : ∃ u, (u, v) ∈ ps ∧ u ∉ t := by
  have h1 := List.find?_eq_none.mp h v (List.mem_range.mpr hv)
  have h2 : freeP ps t v = false := by simpa using h1
  unfold freeP at h2
  rw [Bool.and_eq_false_iff] at h2
  rcases h2 with h2 | h2
  · exact absurd (by simpa using h2) ht
  · rw [List.all_eq_false] at h2
    obtain ⟨u, hu, hc⟩ := h2
    exact ⟨u, mem_bef.mp hu, by simpa using hc⟩
theorem grow_len (m : Nat) (ps : PL) : ∀ k, (grow m ps k).length ≤ k
  | 0 => Nat.le_refl 0
  | k + 1 => by
    have ih := grow_len m ps k
    unfold grow growS
    cases nextP m ps (grow m ps k) with
    | none => exact Nat.le_succ_of_le ih
    | some v =>
      rw [List.length_append]
      exact Nat.succ_le_succ ih
theorem grow_stuck {m : Nat} {ps : PL} {k : Nat} (h : nextP m ps (grow m ps k) = none) : ∀ j, grow m ps (k + j) = grow m ps k
  | 0 => rfl
  | j + 1 => by
    have ih := grow_stuck h j
    show growS m ps (grow m ps (k + j)) = _
    rw [ih]
    unfold growS
    rw [h]
theorem grow_nodup (m : Nat) (ps : PL) : ∀ k, (grow m ps k).Nodup
  | 0 => List.nodup_nil
  | k + 1 => by
    have ih := grow_nodup m ps k
    unfold grow growS
    cases e : nextP m ps (grow m ps k) with
    | none => exact ih
    | some v =>
      refine List.nodup_append.mpr ⟨ih, by simp, ?_⟩
      intro a ha b hb
      have : b = v := by simpa using hb
      intro z
      rw [z, this] at ha
      exact (next_some e).2.1 ha
theorem grow_lt (m : Nat) (ps : PL) : ∀ k, ∀ x ∈ grow m ps k, x < m
  | 0, _, h => by cases h
  | k + 1, x, h => by
    have ih := grow_lt m ps k
    unfold grow growS at h
    cases e : nextP m ps (grow m ps k) with
    | none =>
      rw [e] at h
      exact ih x h
    | some v =>
      rw [e] at h
      rcases List.mem_append.mp h with q | q
      · exact ih x q
      · have : x = v := by simpa using q
        rw [this]
        exact (next_some e).1
/-- if each step found one, so many are taken -/
theorem grow_full {m : Nat} {ps : PL} : ∀ k, (∀ j, j < k → nextP m ps (grow m ps j) ≠ none) → (grow m ps k).length = k
  | 0, _ => rfl
  | k + 1, h => by
    have ih := grow_full k (fun j hj => h j (Nat.lt_succ_of_lt hj))
    unfold grow growS
    cases e : nextP m ps (grow m ps k) with
    | none => exact absurd e (h k (Nat.lt_succ_self k))
    | some v =>
      show (grow m ps k ++ [v]).length = k + 1
      rw [List.length_append, ih]
      rfl
theorem order_stuck {m : Nat} {ps : PL} {k : Nat} (hk : k < m) (h : nextP m ps (grow m ps k) = none) : orderOf m ps = none := by
  have e := grow_stuck h (m - k)
  rw [show k + (m - k) = m by omega] at e
  unfold orderOf
  rw [e, if_pos (Nat.lt_of_le_of_lt (grow_len m ps k) hk)]
theorem order_full {m : Nat} {ps : PL} (h : ∀ j, j < m → nextP m ps (grow m ps j) ≠ none) : orderOf m ps = some (grow m ps m) := by
  unfold orderOf
  rw [grow_full m h, if_neg (Nat.lt_irrefl _)]
/-- none: some step was stuck, with places left that lean on places left -/
theorem order_none {m : Nat} {ps : PL} (h : orderOf m ps = none) : ∃ t : List Nat, (∃ v, v < m ∧ v ∉ t) ∧ ∀ v, v < m → v ∉ t → ∃ u, (u, v) ∈ ps ∧ u ∉ t := by
  have hx : ∃ j, j < m ∧ nextP m ps (grow m ps j) = none := by
    apply Classical.byContradiction
    intro c
    have := order_full (m := m) (ps := ps) (fun j hj e => c ⟨j, hj, e⟩)
    rw [h] at this
    cases this
  obtain ⟨j, hj, e⟩ := hx
  refine ⟨grow m ps j, ?_, fun v hv ht => next_none e hv ht⟩
  apply Classical.byContradiction
  intro c
  have hall : ∀ v, v < m → v ∈ grow m ps j := fun v hv => Classical.byContradiction fun q => c ⟨v, hv, q⟩
  have h1 := nodup_len_ge (List.range m) (grow m ps j) List.nodup_range (fun x hx => hall x (List.mem_range.mp hx))
  rw [List.length_range] at h1
  have := grow_len m ps j
  omega
where
  nodup_len_ge : ∀ (a b : List Nat), a.Nodup → (∀ x ∈ a, x ∈ b) → a.length ≤ b.length
  | [], _, _, _ => Nat.zero_le _
  | x :: r, b, hn, h => by
    obtain ⟨h1, h2⟩ := List.nodup_cons.mp hn
    have ih := nodup_len_ge r (b.erase x) h2 (fun y hy => by
      have hyx : y ≠ x := fun z => h1 (z ▸ hy)
      exact (List.mem_erase_of_ne hyx).mpr (h y (List.mem_cons_of_mem _ hy)))
    have hx : x ∈ b := h x List.mem_cons_self
    have e := List.length_erase_of_mem hx
    have : 0 < b.length := List.length_pos_of_mem hx
    rw [List.length_cons]
    omega
/-! ### rings -/
/-- from u over the places of r, all beyond o, back to o -/
def Cl (ps : PL) (o : Nat) : Nat → List Nat → Prop
  | u, [] => (u, o) ∈ ps
  | u, v :: r => (u, v) ∈ ps ∧ o < v ∧ Cl ps o v r
def Len (ps : PL) (o u n : Nat) : Prop := ∃ r, Cl ps o u r ∧ r.length = n
/-- the first difference decides, else the shorter is the less -/
def lexLt : List Nat → List Nat → Bool
  | [], [] => false
  | [], _ :: _ => true
  | _ :: _, [] => false
  | x :: xs, y :: ys => if x = y then lexLt xs ys else decide (x < y)
theorem lex_irr : ∀ l : List Nat, lexLt l l = false
  | [] => rfl
  | x :: r => by
    unfold lexLt
    rw [if_pos rfl]
    exact lex_irr r
theorem lex_asym : ∀ {a b : List Nat}, lexLt a b = true → lexLt b a = false
  | [], [], h => by cases h
  | [], _ :: _, _ => rfl
  | _ :: _, [], h => by cases h
  | x :: xs, y :: ys, h => by
    unfold lexLt at h ⊢
    by_cases e : x = y
    · rw [if_pos e] at h
      rw [if_pos e.symm]
      exact lex_asym h
    · rw [if_neg e] at h
      rw [if_neg (fun z => e z.symm)]
      have := of_decide_eq_true h
      exact decide_eq_false (by omega)
theorem lex_anti : ∀ {a b : List Nat}, lexLt a b = false → lexLt b a = false → a = b
  | [], [], _, _ => rfl
  | [], _ :: _, h, _ => by cases h
  | _ :: _, [], _, h => by cases h
  | x :: xs, y :: ys, h, h' => by
    unfold lexLt at h h'
    by_cases e : x = y
    · rw [if_pos e] at h
      rw [if_pos e.symm] at h'
      rw [e, lex_anti h h']
    · rw [if_neg e] at h
      rw [if_neg (fun z => e z.symm)] at h'
      have := of_decide_eq_false h
      have := of_decide_eq_false h'
      omega
/-- not less goes on -/
theorem lex_le_trans : ∀ {a b c : List Nat}, lexLt b a = false → lexLt c b = false → lexLt c a = false
  | [], b, c, _, _ => by cases c <;> rfl
  | x :: xs, [], c, h, _ => by cases h
  | x :: xs, y :: ys, [], _, h => by cases h
  | x :: xs, y :: ys, z :: zs, h1, h2 => by
    unfold lexLt at h1 h2 ⊢
    by_cases e1 : y = x
    · rw [if_pos e1] at h1
      by_cases e2 : z = y
      · rw [if_pos e2] at h2
        rw [if_pos (e2.trans e1)]
        exact lex_le_trans h1 h2
      · rw [if_neg e2] at h2
        rw [if_neg (fun q => e2 (q.trans e1.symm))]
        have := of_decide_eq_false h2
        exact decide_eq_false (by omega)
    · rw [if_neg e1] at h1
      have g1 := of_decide_eq_false h1
      by_cases e2 : z = y
      · rw [if_neg (fun q => e1 (e2.symm.trans q))]
        exact decide_eq_false (by omega)
      · rw [if_neg e2] at h2
        have g2 := of_decide_eq_false h2
        rw [if_neg (by omega)]
        exact decide_eq_false (by omega)
theorem lex_app : ∀ {a b : List Nat} (x : List Nat), a.length = b.length → lexLt (a ++ x) (b ++ x) = lexLt a b
  | [], [], x, _ => lex_irr x
  | [], _ :: _, _, h => by simp at h
  | _ :: _, [], _, h => by simp at h
  | p :: a, q :: b, x, h => by
    show (if p = q then lexLt (a ++ x) (b ++ x) else decide (p < q)) = if p = q then lexLt a b else decide (p < q)
    rw [lex_app x (by simpa using h)]
/-- the least ring from o: the fewest places, then the first list -/
def LRing (ps : PL) (o : Nat) (l : List Nat) : Prop := ∃ r, l = o :: r ∧ Cl ps o o r ∧ ∀ r', Cl ps o o r' → r.length ≤ r'.length ∧ (r'.length = r.length → lexLt r' r = false)
theorem LRing.uniq {ps : PL} {o : Nat} {l m : List Nat} (a : LRing ps o l) (b : LRing ps o m) : l = m := by
  obtain ⟨r, rfl, c, h⟩ := a
  obtain ⟨t, rfl, d, k⟩ := b
  have h1 := h t d
  have k1 := k r c
  have e : r.length = t.length := Nat.le_antisymm h1.1 k1.1
  rw [lex_anti (k1.2 e) (h1.2 e.symm)]
open Classical in
noncomputable def ringOf (ps : PL) (o : Nat) : Option (List Nat) := if h : ∃ l, LRing ps o l then some (Classical.choose h) else none
theorem ringOf_some {ps : PL} {o : Nat} {l : List Nat} (h : LRing ps o l) : ringOf ps o = some l := by
  have hx : ∃ l, LRing ps o l := ⟨l, h⟩
  unfold ringOf
  rw [dif_pos hx, LRing.uniq (Classical.choose_spec hx) h]
theorem ringOf_none {ps : PL} {o : Nat} (h : ∀ r, ¬ Cl ps o o r) : ringOf ps o = none := by
  unfold ringOf
  rw [dif_neg]
  rintro ⟨l, r, _, c, _⟩
  exact h r c
theorem ringOf_is {ps : PL} {o : Nat} {l : List Nat} (h : ringOf ps o = some l) : LRing ps o l := by
  unfold ringOf at h
  by_cases hx : ∃ l, LRing ps o l
  · rw [dif_pos hx] at h
    cases h
    exact Classical.choose_spec hx
  · rw [dif_neg hx] at h
    cases h
def pick (b x : Option (List Nat)) : Option (List Nat) := match x, b with
  | none, _ => b
  | some l, none => some l
  | some l, some m => if l.length < m.length then some l else some m
noncomputable def best (ps : PL) : Nat → Option (List Nat)
  | 0 => none
  | o + 1 => pick (best ps o) (ringOf ps o)
/-! ### the program's way: steps backwards, then the least next place -/
/-- what the steps hold: o itself with 0; beyond o the fewest places of a way back to o, and one more -/
def IsSteps (ps : PL) (o : Nat) (S : Nat → Option Nat) : Prop := ∀ u n, S u = some n ↔ (u = o ∧ n = 0) ∨ (o < u ∧ ∃ k, n = k + 1 ∧ Len ps o u k ∧ ∀ j, j < k → ¬ Len ps o u j)
/-- row is built from u by the least next place -/
def Greedy (ps : PL) (S : Nat → Option Nat) : Nat → Nat → List Nat → Prop
  | _, 0, r => r = []
  | u, n + 1, r => ∃ v t, r = v :: t ∧ ((u, v) ∈ ps ∧ S v = some (n + 1)) ∧ (∀ w, (u, w) ∈ ps → S w = some (n + 1) → v ≤ w) ∧ Greedy ps S v n t
theorem greedy_len {ps : PL} {S : Nat → Option Nat} : ∀ {u n : Nat} {r : List Nat}, Greedy ps S u n r → r.length = n
  | _, 0, _, h => by
    have e : _ = _ := h
    rw [e]
    rfl
  | _, n + 1, _, ⟨v, t, e, _, _, h⟩ => by
    rw [e, List.length_cons, greedy_len h]
theorem greedy_least {ps : PL} {o : Nat} {S : Nat → Option Nat} (hS : IsSteps ps o S) : ∀ {n u : Nat} {r : List Nat}, Greedy ps S u n r → Len ps o u n → (∀ j, j < n → ¬ Len ps o u j) →
    Cl ps o u r ∧ ∀ r', Cl ps o u r' → r'.length = n → lexLt r' r = false
  | 0, u, r, h, hl, _ => by
    have e : r = [] := h
    obtain ⟨r0, c, z⟩ := hl
    have : r0 = [] := List.length_eq_zero_iff.mp z
    subst this
    subst e
    refine ⟨c, fun r' _ hz => ?_⟩
    rw [List.length_eq_zero_iff.mp hz]
    rfl
  | n + 1, u, r, ⟨v, t, e, ⟨huv, hv⟩, hmin, hg⟩, hl, hno => by
    subst e
    obtain ⟨q0, q1⟩ | ⟨hov, k, ek, hlv, hnv⟩ := (hS v (n + 1)).mp hv
    · cases q1
    · have ek' : k = n := by omega
      subst ek'
      obtain ⟨c, hm⟩ := greedy_least hS hg hlv hnv
      refine ⟨⟨huv, hov, c⟩, fun r' c' hz => ?_⟩
      cases r' with
      | nil => cases hz
      | cons w t' =>
        obtain ⟨huw, how, c2⟩ := c'
        have hz' : t'.length = k := by simpa using hz
        have hw : S w = some (k + 1) := (hS w (k + 1)).mpr (.inr ⟨how, k, rfl, ⟨t', c2, hz'⟩, fun j hj hL => by
          obtain ⟨r3, c3, z3⟩ := hL
          exact hno (j + 1) (by omega) ⟨w :: r3, ⟨huw, how, c3⟩, by rw [List.length_cons, z3]⟩⟩)
        have hle := hmin w huw hw
        unfold lexLt
        by_cases e : w = v
        · subst e
          rw [if_pos rfl]
          exact hm t' c2 hz'
        · rw [if_neg e]
          exact decide_eq_false (by omega)
theorem greedy_ring {ps : PL} {o : Nat} {S : Nat → Option Nat} (hS : IsSteps ps o S) {n : Nat} {r : List Nat} (h : Greedy ps S o n r) (hl : Len ps o o n) (hno : ∀ j, j < n → ¬ Len ps o o j) : LRing ps o (o :: r) := by
  obtain ⟨c, hm⟩ := greedy_least hS h hl hno
  have e := greedy_len h
  refine ⟨r, rfl, c, fun r' c' => ⟨?_, fun z => hm r' c' (z.trans e)⟩⟩
  rw [e]
  exact Nat.le_of_not_lt fun q => hno _ q ⟨r', c', rfl⟩
/-- a way with a next place: there is one that the greedy step may take -/
theorem greedy_next {ps : PL} {o : Nat} {S : Nat → Option Nat} (hS : IsSteps ps o S) {n u : Nat} (hl : Len ps o u (n + 1)) (hno : ∀ j, j < n + 1 → ¬ Len ps o u j) : ∃ v, (u, v) ∈ ps ∧ S v = some (n + 1) := by
  obtain ⟨r, c, z⟩ := hl
  cases r with
  | nil => cases z
  | cons w t =>
    obtain ⟨huw, how, c2⟩ := c
    have hz' : t.length = n := by simpa using z
    exact ⟨w, huw, (hS w (n + 1)).mpr (.inr ⟨how, n, rfl, ⟨t, c2, hz'⟩, fun j hj hL => by
      obtain ⟨r3, c3, z3⟩ := hL
      exact hno (j + 1) (by omega) ⟨w :: r3, ⟨huw, how, c3⟩, by rw [List.length_cons, z3]⟩⟩)⟩
theorem steps_beyond {ps : PL} {o : Nat} {S : Nat → Option Nat} (hS : IsSteps ps o S) {v n : Nat} (h : S v = some (n + 1)) : Len ps o v n ∧ ∀ j, j < n → ¬ Len ps o v j := by
  obtain ⟨_, q1⟩ | ⟨_, k, ek, hlv, hnv⟩ := (hS v (n + 1)).mp h
  · cases q1
  · have ek' : k = n := by omega
    subst ek'
    exact ⟨hlv, hnv⟩
/-- the lengths: the steps of the places behind o -/
theorem lens_some {ps : PL} {o : Nat} {S : Nat → Option Nat} (hS : IsSteps ps o S) {n : Nat} (hm : ∃ v, (o, v) ∈ ps ∧ S v = some n) (hle : ∀ v k, (o, v) ∈ ps → S v = some k → n ≤ k) : Len ps o o n ∧ ∀ j, j < n → ¬ Len ps o o j := by
  constructor
  · obtain ⟨v, hv, e⟩ := hm
    obtain ⟨rfl, rfl⟩ | ⟨hov, k, rfl, ⟨r, c, z⟩, _⟩ := (hS v n).mp e
    · exact ⟨[], hv, rfl⟩
    · exact ⟨v :: r, ⟨hv, hov, c⟩, by rw [List.length_cons, z]⟩
  · rintro j hj ⟨r, c, z⟩
    cases r with
    | nil =>
      have e : (o, o) ∈ ps := c
      have := hle o 0 e ((hS o 0).mpr (.inl ⟨rfl, rfl⟩))
      omega
    | cons v t =>
      obtain ⟨hov, hlt, c2⟩ := c
      -- the least way from v
      have hx : ∃ k, Len ps o v k ∧ ∀ i, i < k → ¬ Len ps o v i := least ⟨_, t, c2, rfl⟩
      obtain ⟨k, hk, hno⟩ := hx
      have hkt : k ≤ t.length := Nat.le_of_not_lt fun q => hno _ q ⟨t, c2, rfl⟩
      have := hle v (k + 1) hov ((hS v (k + 1)).mpr (.inr ⟨hlt, k, rfl, hk, hno⟩))
      rw [List.length_cons] at z
      omega
where
  least {P : Nat → Prop} (h : ∃ n, P n) : ∃ k, P k ∧ ∀ i, i < k → ¬ P i := by
    obtain ⟨n, hn⟩ := h
    induction n using Nat.strongRecOn with
    | ind n ih =>
      by_cases q : ∃ i, i < n ∧ P i
      · obtain ⟨i, hi, pi⟩ := q
        exact ih i hi pi
      · exact ⟨n, hn, fun i hi pi => q ⟨i, hi, pi⟩⟩
theorem lens_none {ps : PL} {o : Nat} {S : Nat → Option Nat} (hS : IsSteps ps o S) (h : ∀ v, (o, v) ∈ ps → S v = none) : ∀ r, ¬ Cl ps o o r := by
  intro r c
  cases r with
  | nil =>
    have := h o c
    rw [(hS o 0).mpr (.inl ⟨rfl, rfl⟩)] at this
    cases this
  | cons v t =>
    obtain ⟨hov, hlt, c2⟩ := c
    obtain ⟨k, hk, hno⟩ := lens_some.least (P := Len ps o v) ⟨_, t, c2, rfl⟩
    have := h v hov
    rw [(hS v (k + 1)).mpr (.inr ⟨hlt, k, rfl, hk, hno⟩)] at this
    cases this
/-- a ring from o has a least one -/
theorem greedy_is {ps : PL} {o : Nat} {S : Nat → Option Nat} (hS : IsSteps ps o S) : ∀ {n u : Nat}, Len ps o u n → (∀ j, j < n → ¬ Len ps o u j) → ∃ r, Greedy ps S u n r
  | 0, _, _, _ => ⟨[], rfl⟩
  | n + 1, u, hl, hno => by
    obtain ⟨v, ⟨huv, hv⟩, hmin⟩ := lens_some.least (P := fun v => (u, v) ∈ ps ∧ S v = some (n + 1)) (greedy_next hS hl hno)
    obtain ⟨h1, h2⟩ := steps_beyond hS hv
    obtain ⟨t, ht⟩ := greedy_is hS h1 h2
    exact ⟨v :: t, v, t, rfl, ⟨huv, hv⟩, fun w hw hs => Nat.le_of_not_lt fun q => hmin w q ⟨hw, hs⟩, ht⟩
open Classical in
noncomputable def trueSteps (ps : PL) (o u : Nat) : Option Nat := if u = o then some 0 else if h : o < u ∧ ∃ k, Len ps o u k then some (Classical.choose (lens_some.least h.2) + 1) else none
theorem trueSteps_is (ps : PL) (o : Nat) : IsSteps ps o (trueSteps ps o) := by
  intro u n
  unfold trueSteps
  by_cases e : u = o
  · rw [if_pos e]
    constructor
    · intro h
      cases h
      exact .inl ⟨e, rfl⟩
    · rintro (⟨_, rfl⟩ | ⟨h, _⟩)
      · rfl
      · omega
  · rw [if_neg e]
    by_cases h : o < u ∧ ∃ k, Len ps o u k
    · rw [dif_pos h]
      have q := Classical.choose_spec (lens_some.least h.2)
      constructor
      · intro z
        cases z
        exact .inr ⟨h.1, _, rfl, q.1, q.2⟩
      · rintro (⟨z, _⟩ | ⟨_, k, rfl, h1, h2⟩)
        · exact absurd z e
        · have a1 : ¬ k < Classical.choose (lens_some.least h.2) := fun z => q.2 _ z h1
          have a2 : ¬ Classical.choose (lens_some.least h.2) < k := fun z => h2 _ z q.1
          rw [show Classical.choose (lens_some.least h.2) = k by omega]
    · rw [dif_neg h]
      constructor
      · intro z
        cases z
      · rintro (⟨z, _⟩ | ⟨h1, k, _, h2, _⟩)
        · exact absurd z e
        · exact absurd ⟨h1, k, h2⟩ h
theorem ringOf_there {ps : PL} {o : Nat} {r : List Nat} (c : Cl ps o o r) : ∃ l, ringOf ps o = some l := by
  obtain ⟨n, h1, h2⟩ := lens_some.least (P := Len ps o o) ⟨_, r, c, rfl⟩
  obtain ⟨t, ht⟩ := greedy_is (trueSteps_is ps o) h1 h2
  exact ⟨_, ringOf_some (greedy_ring (trueSteps_is ps o) ht h1 h2)⟩
/-! ### the law's way: the least walk to each place, place by place longer -/
inductive Wk (ps : PL) (o : Nat) : List Nat → Nat → Prop
  | base : Wk ps o [o] o
  | step {l : List Nat} {u v : Nat} : Wk ps o l u → (u, v) ∈ ps → o < v → Wk ps o (l ++ [v]) v
theorem Wk.pos {ps : PL} {o : Nat} {l : List Nat} {v : Nat} (h : Wk ps o l v) : 0 < l.length := by
  cases h with
  | base => exact Nat.one_pos
  | step _ _ _ =>
    rw [List.length_append]
    exact Nat.succ_pos _
theorem wk_cl {ps : PL} {o : Nat} {l : List Nat} {u : Nat} (h : Wk ps o l u) : ∀ r, Cl ps o u r → ∃ t, l ++ r = o :: t ∧ Cl ps o o t := by
  induction h with
  | base => exact fun r c => ⟨r, rfl, c⟩
  | @step l u v _ huv hov ih =>
    intro r c
    obtain ⟨t, e, ct⟩ := ih (v :: r) ⟨huv, hov, c⟩
    exact ⟨t, by rw [List.append_assoc]; exact e, ct⟩
theorem cl_wk {ps : PL} {o : Nat} : ∀ {r l : List Nat} {u : Nat}, Wk ps o l u → Cl ps o u r → ∃ w, Wk ps o (l ++ r) w ∧ (w, o) ∈ ps
  | [], l, u, h, c => ⟨u, by rw [List.append_nil]; exact h, c⟩
  | v :: r, l, u, h, ⟨huv, hov, c⟩ => by
    obtain ⟨w, h1, h2⟩ := cl_wk (Wk.step h huv hov) c
    exact ⟨w, by rw [List.append_assoc] at h1; exact h1, h2⟩
/-- W holds the least walk of n + 1 places to each place -/
def IsWalks (ps : PL) (o n : Nat) (W : Nat → Option (List Nat)) : Prop :=
  (∀ v l, W v = some l → Wk ps o l v ∧ l.length = n + 1) ∧ ∀ v l', Wk ps o l' v → l'.length = n + 1 → ∃ l, W v = some l ∧ lexLt l' l = false
theorem walks_start (ps : PL) (o : Nat) : IsWalks ps o 0 (look [(o, [o])]) := by
  refine ⟨fun v l h => ?_, fun v l' h hl => ?_⟩
  · have h' : (if o = v then some [o] else none) = some l := h
    by_cases e : o = v
    · rw [if_pos e] at h'
      cases h'
      rw [← e]
      exact ⟨Wk.base, rfl⟩
    · rw [if_neg e] at h'
      cases h'
  · cases h with
    | base => exact ⟨[o], (show (if o = o then some [o] else none) = some [o] from if_pos rfl), lex_irr _⟩
    | step h1 _ _ =>
      have := h1.pos
      rw [List.length_append, List.length_singleton] at hl
      omega
def longerS (W : Nat → Option (List Nat)) (o : Nat) (lg : List (Nat × List Nat)) (p : Nat × Nat) : List (Nat × List Nat) :=
  if o < p.2 then
    match W p.1 with
    | none => lg
    | some l => match look lg p.2 with
      | none => put lg p.2 (l ++ [p.2])
      | some m => if lexLt (l ++ [p.2]) m then put lg p.2 (l ++ [p.2]) else lg
  else lg
def IsLonger (ps : PL) (W : Nat → Option (List Nat)) (o : Nat) (G : Nat → Option (List Nat)) : Prop :=
  (∀ v m, G v = some m → ∃ u l, (u, v) ∈ ps ∧ o < v ∧ W u = some l ∧ m = l ++ [v]) ∧ ∀ u v l, (u, v) ∈ ps → o < v → W u = some l → ∃ m, G v = some m ∧ lexLt (l ++ [v]) m = false
theorem longer_start (W : Nat → Option (List Nat)) (o : Nat) : IsLonger [] W o (look []) := ⟨fun _ _ h => (by cases h), fun _ _ _ h => (by cases h)⟩
theorem longer_stay {ps : PL} {W : Nat → Option (List Nat)} {o : Nat} {G : Nat → Option (List Nat)} {p : Nat × Nat} (h : IsLonger ps W o G) (hn : o < p.2 → ∀ l, W p.1 = some l → ∃ m, G p.2 = some m ∧ lexLt (l ++ [p.2]) m = false) : IsLonger (ps ++ [p]) W o G := by
  refine ⟨fun v m e => ?_, fun u v l hm hv hw => ?_⟩
  · obtain ⟨u, l, h1, h2, h3, h4⟩ := h.1 v m e
    exact ⟨u, l, List.mem_append_left _ h1, h2, h3, h4⟩
  · rcases List.mem_append.mp hm with q | q
    · exact h.2 u v l q hv hw
    · have e : (u, v) = p := by simpa using q
      subst e
      exact hn hv l hw
theorem longer_put {ps : PL} {W : Nat → Option (List Nat)} {o : Nat} {lg : List (Nat × List Nat)} {p : Nat × Nat} {l : List Nat} (h : IsLonger ps W o (look lg)) (ho : o < p.2) (hw : W p.1 = some l)
    (hle : ∀ m, look lg p.2 = some m → lexLt m (l ++ [p.2]) = false) : IsLonger (ps ++ [p]) W o (look (put lg p.2 (l ++ [p.2]))) := by
  refine ⟨fun v m e => ?_, fun u v l2 hm hv hw2 => ?_⟩
  · rw [look_put] at e
    by_cases q : p.2 = v
    · rw [if_pos q] at e
      cases e
      refine ⟨p.1, l, List.mem_append_right _ ?_, q ▸ ho, hw, by rw [q]⟩
      rw [← q]
      exact List.mem_singleton.mpr rfl
    · rw [if_neg q] at e
      obtain ⟨u, l, h1, h2, h3, h4⟩ := h.1 v m e
      exact ⟨u, l, List.mem_append_left _ h1, h2, h3, h4⟩
  · rw [look_put]
    rcases List.mem_append.mp hm with z | z
    · obtain ⟨m, hm1, hm2⟩ := h.2 u v l2 z hv hw2
      by_cases q : p.2 = v
      · rw [if_pos q]
        refine ⟨_, rfl, ?_⟩
        subst q
        exact lex_le_trans (hle m hm1) hm2
      · rw [if_neg q]
        exact ⟨m, hm1, hm2⟩
    · have e : (u, v) = p := by simpa using z
      subst e
      rw [if_pos rfl]
      have hw' : W u = some l := hw
      rw [hw'] at hw2
      cases hw2
      exact ⟨_, rfl, lex_irr _⟩
theorem longer_step {ps : PL} {W : Nat → Option (List Nat)} {o : Nat} {lg : List (Nat × List Nat)} {p : Nat × Nat} (h : IsLonger ps W o (look lg)) : IsLonger (ps ++ [p]) W o (look (longerS W o lg p)) := by
  unfold longerS
  by_cases ho : o < p.2
  · rw [if_pos ho]
    cases hw : W p.1 with
    | none => exact longer_stay h fun _ l q => by rw [hw] at q; cases q
    | some l =>
      cases hg : look lg p.2 with
      | none => exact longer_put h ho hw fun m q => by rw [hg] at q; cases q
      | some m =>
        show IsLonger (ps ++ [p]) W o (look (if lexLt (l ++ [p.2]) m = true then put lg p.2 (l ++ [p.2]) else lg))
        cases hc : lexLt (l ++ [p.2]) m with
        | true =>
          rw [if_pos rfl]
          exact longer_put h ho hw fun m2 q => by
            rw [hg] at q
            cases q
            exact lex_asym hc
        | false =>
          rw [if_neg Bool.false_ne_true]
          exact longer_stay h fun _ l2 q => by
            rw [hw] at q
            cases q
            exact ⟨m, hg, hc⟩
  · rw [if_neg ho]
    exact longer_stay h fun q => absurd q ho
theorem walks_longer {ps : PL} {o n : Nat} {W G : Nat → Option (List Nat)} (hW : IsWalks ps o n W) (hG : IsLonger ps W o G) : IsWalks ps o (n + 1) G := by
  refine ⟨fun v m e => ?_, fun v l' h hl => ?_⟩
  · obtain ⟨u, l, h1, h2, h3, rfl⟩ := hG.1 v m e
    obtain ⟨w1, w2⟩ := hW.1 u l h3
    exact ⟨Wk.step w1 h1 h2, by rw [List.length_append, w2]; rfl⟩
  · cases h with
    | base => exact absurd hl (by show ¬ 1 = n + 1 + 1; omega)
    | @step l u _ h1 h2 h3 =>
      have e : l.length = n + 1 := by
        rw [List.length_append, List.length_singleton] at hl
        omega
      obtain ⟨l0, q1, q2⟩ := hW.2 u l h1 e
      obtain ⟨m, r1, r2⟩ := hG.2 u v l0 h2 h3 q1
      refine ⟨m, r1, lex_le_trans r2 ?_⟩
      rw [lex_app [v] (e.trans (hW.1 u l0 q1).2.symm)]
      exact q2
/-- the rings that the walks close, in the order of the pairs -/
def ringsOf (ps : PL) (o : Nat) (W : Nat → Option (List Nat)) : List (List Nat) := ps.filterMap fun p => if p.2 = o then W p.1 else none
theorem rings_mem {ps : PL} {o n : Nat} {W : Nat → Option (List Nat)} (hW : IsWalks ps o n W) {l : List Nat} (h : l ∈ ringsOf ps o W) : ∃ t, l = o :: t ∧ Cl ps o o t ∧ t.length = n := by
  obtain ⟨p, hp, e⟩ := List.mem_filterMap.mp h
  by_cases q : p.2 = o
  · rw [if_pos q] at e
    obtain ⟨w1, w2⟩ := hW.1 _ _ e
    obtain ⟨t, e1, e2⟩ := wk_cl w1 [] (show (p.1, o) ∈ ps by rw [← q]; exact hp)
    rw [List.append_nil] at e1
    refine ⟨t, e1, e2, ?_⟩
    rw [e1, List.length_cons] at w2
    omega
  · rw [if_neg q] at e
    cases e
theorem rings_all {ps : PL} {o n : Nat} {W : Nat → Option (List Nat)} (hW : IsWalks ps o n W) {t : List Nat} (c : Cl ps o o t) (h : t.length = n) : ∃ l, l ∈ ringsOf ps o W ∧ lexLt (o :: t) l = false := by
  obtain ⟨w, h1, h2⟩ := cl_wk (Wk.base (ps := ps) (o := o)) c
  obtain ⟨l, q1, q2⟩ := hW.2 w ([o] ++ t) h1 (by show t.length + 1 = n + 1; rw [h])
  exact ⟨l, List.mem_filterMap.mpr ⟨(w, o), h2, by rw [if_pos rfl]; exact q1⟩, q2⟩
theorem law_none {ps : PL} {o n : Nat} {W : Nat → Option (List Nat)} (hW : IsWalks ps o n W) (h : ringsOf ps o W = []) (hno : ∀ r, Cl ps o o r → n ≤ r.length) : ∀ r, Cl ps o o r → n + 1 ≤ r.length := by
  intro r c
  have h1 := hno r c
  rcases Nat.lt_or_ge n r.length with q | q
  · exact q
  · obtain ⟨l, hl, _⟩ := rings_all hW c (Nat.le_antisymm q h1)
    rw [h] at hl
    cases hl
theorem law_ring {ps : PL} {o n : Nat} {W : Nat → Option (List Nat)} (hW : IsWalks ps o n W) (hno : ∀ r, Cl ps o o r → n ≤ r.length) {x : List Nat} (hx : x ∈ ringsOf ps o W) (hm : ∀ y, y ∈ ringsOf ps o W → lexLt y x = false) : LRing ps o x ∧ x.length = n + 1 := by
  obtain ⟨t, rfl, c, e⟩ := rings_mem hW hx
  refine ⟨⟨t, rfl, c, fun r' c' => ⟨by rw [e]; exact hno r' c', fun z => ?_⟩⟩, by rw [List.length_cons, e]⟩
  obtain ⟨l, hl, hle⟩ := rings_all hW c' (z.trans e)
  have h1 := lex_le_trans (hm l hl) hle
  unfold lexLt at h1
  rw [if_pos rfl] at h1
  exact h1
/-! ### the shortest rings fit in -/
def Within (m : Nat) (ps : PL) : Prop := ∀ p ∈ ps, p.1 < m ∧ p.2 < m
theorem cl_suffix {ps : PL} {o : Nat} : ∀ {a : List Nat} {u v : Nat} {c : List Nat}, Cl ps o u (a ++ v :: c) → Cl ps o v c
  | [], _, _, _, h => h.2.2
  | _ :: a, _, _, _, h => cl_suffix (a := a) h.2.2
theorem cl_nodup {ps : PL} {o : Nat} : ∀ {r : List Nat} {u : Nat}, Cl ps o u r → ∃ r', Cl ps o u r' ∧ r'.Nodup
  | [], _, h => ⟨[], h, List.nodup_nil⟩
  | v :: t, u, ⟨h1, h2, h3⟩ => by
    obtain ⟨t', c, hn⟩ := cl_nodup h3
    by_cases hv : v ∈ t'
    · obtain ⟨a, b, rfl⟩ := List.append_of_mem hv
      exact ⟨v :: b, ⟨h1, h2, cl_suffix c⟩, (List.nodup_append.mp hn).2.1⟩
    · exact ⟨v :: t', ⟨h1, h2, c⟩, List.nodup_cons.mpr ⟨hv, hn⟩⟩
theorem cl_within {m : Nat} {ps : PL} (hm : Within m ps) {o : Nat} : ∀ {r : List Nat} {u : Nat}, Cl ps o u r → u < m ∧ ∀ x ∈ r, o < x ∧ x < m
  | [], u, h => ⟨(hm _ h).1, fun _ q => by cases q⟩
  | v :: t, u, ⟨h1, h2, h3⟩ => by
    obtain ⟨q1, q2⟩ := cl_within hm h3
    refine ⟨(hm _ h1).1, fun x hx => ?_⟩
    rcases List.mem_cons.mp hx with e | e
    · subst e
      exact ⟨h2, q1⟩
    · exact q2 x e
theorem ring_fits {m : Nat} {ps : PL} (hm : Within m ps) {o : Nat} {r : List Nat} (c : Cl ps o o r) : ∃ r', Cl ps o o r' ∧ r'.length < m := by
  obtain ⟨r', c', hn⟩ := cl_nodup c
  obtain ⟨q1, q2⟩ := cl_within hm c'
  refine ⟨r', c', ?_⟩
  have := nodup_len m (o :: r') (List.nodup_cons.mpr ⟨fun z => Nat.lt_irrefl _ (q2 o z).1, hn⟩) (fun x hx => by
    rcases List.mem_cons.mp hx with e | e
    · rw [e]; exact q1
    · exact (q2 x e).2)
  exact this
/-! ### order or ring -/
theorem grow_mono (m : Nat) (ps : PL) {k : Nat} {x : Nat} (h : x ∈ grow m ps k) : x ∈ grow m ps (k + 1) := by
  unfold grow growS
  cases nextP m ps (grow m ps k) with
  | none => exact h
  | some v => exact List.mem_append_left _ h
theorem grow_new {m : Nat} {ps : PL} {k o : Nat} (h : o ∈ grow m ps (k + 1)) (h' : o ∉ grow m ps k) : ∀ w, (w, o) ∈ ps → w ∈ grow m ps k := by
  intro w hw
  unfold grow growS at h
  cases e : nextP m ps (grow m ps k) with
  | none =>
    rw [e] at h
    exact absurd h h'
  | some v =>
    rw [e] at h
    rcases List.mem_append.mp h with q | q
    · exact absurd q h'
    · have : o = v := by simpa using q
      subst this
      exact (next_some e).2.2 w hw
theorem grow_closed (m : Nat) (ps : PL) : ∀ (k : Nat) {a b : Nat}, (a, b) ∈ ps → b ∈ grow m ps k → a ∈ grow m ps k
  | 0, _, _, _, h => by cases h
  | k + 1, a, b, hab, h => by
    by_cases q : b ∈ grow m ps k
    · exact grow_mono m ps (grow_closed m ps k hab q)
    · exact grow_mono m ps (grow_new h q a hab)
theorem grow_back {m : Nat} {ps : PL} {k o : Nat} (h : ∀ w, (w, o) ∈ ps → w ∈ grow m ps k) : ∀ {r : List Nat} {u : Nat}, Cl ps o u r → u ∈ grow m ps k
  | [], u, c => h u c
  | _ :: _, _, ⟨h1, _, h3⟩ => grow_closed m ps k h1 (grow_back h h3)
theorem order_no_ring {m : Nat} {ps : PL} (hm : Within m ps) {t : List Nat} (h : orderOf m ps = some t) (o : Nat) : ∀ r, ¬ Cl ps o o r := by
  intro r c
  have hlen : m ≤ (grow m ps m).length := by
    unfold orderOf at h
    by_cases q : (grow m ps m).length < m
    · rw [if_pos q] at h
      cases h
    · exact Nat.le_of_not_lt q
  have ho : o < m := (cl_within hm c).1
  have hin : o ∈ grow m ps m := Classical.byContradiction fun q => by
    have := nodup_len m (o :: grow m ps m) (List.nodup_cons.mpr ⟨q, grow_nodup m ps m⟩) (fun x hx => by
      rcases List.mem_cons.mp hx with e | e
      · rw [e]; exact ho
      · exact grow_lt m ps m x e)
    rw [List.length_cons] at this
    omega
  obtain ⟨k, hk, hno⟩ := lens_some.least (P := fun k => o ∈ grow m ps k) ⟨m, hin⟩
  cases k with
  | zero => cases hk
  | succ k =>
    have q := hno k (Nat.lt_succ_self k)
    exact q (grow_back (grow_new hk q) c)
def backs (g : Nat → Nat) (s : Nat) : Nat → List Nat
  | 0 => []
  | j + 1 => g (s + j + 1) :: backs g s j
theorem backs_cl {ps : PL} {g : Nat → Nat} (hg : ∀ n, (g (n + 1), g n) ∈ ps) (s : Nat) : ∀ j, (∀ i, 1 ≤ i → i ≤ j → g s < g (s + i)) → Cl ps (g s) (g (s + j + 1)) (backs g s j)
  | 0, _ => hg s
  | j + 1, h => ⟨hg (s + j + 1), h (j + 1) (by omega) (Nat.le_refl _), backs_cl hg s j fun i h1 h2 => h i h1 (by omega)⟩
theorem pigeon (m : Nat) (g : Nat → Nat) (h : ∀ n, g n < m) : ∃ i j, i < j ∧ g i = g j := by
  apply Classical.byContradiction
  intro c
  have inj : ∀ i j, i < j → g i ≠ g j := fun i j hij e => c ⟨i, j, hij, e⟩
  have hn : ((List.range (m + 1)).map g).Nodup := by
    refine List.Pairwise.map g (R := fun i j => i < j) (fun i j hij => inj i j hij) ?_
    exact List.pairwise_lt_range
  have := nodup_len m _ hn (fun x hx => by
    obtain ⟨i, _, rfl⟩ := List.mem_map.mp hx
    exact h i)
  rw [List.length_map, List.length_range] at this
  omega
theorem seq_ring {m : Nat} {ps : PL} {g : Nat → Nat} (hg : ∀ n, (g (n + 1), g n) ∈ ps) (hm : ∀ n, g n < m) : ∃ o r, o < m ∧ Cl ps o o r := by
  obtain ⟨i, j, hij, e⟩ := pigeon m g hm
  -- the places seen from i on come again at j
  -- least place at or behind i, up to j
  obtain ⟨mu, ⟨s, h1, h2, rfl⟩, hmin⟩ := lens_some.least (P := fun x => ∃ s, i ≤ s ∧ s < j ∧ x = g s) ⟨g i, i, Nat.le_refl _, hij, rfl⟩
  -- the sequence s, s + 1, .., j = i, .., s: as a new sequence
  let g' : Nat → Nat := fun n => g (i + (s - i + n) % (j - i))
  have hp : 0 < j - i := by omega
  have hg' : ∀ n, (g' (n + 1), g' n) ∈ ps := by
    intro n
    show (g (i + (s - i + (n + 1)) % (j - i)), g (i + (s - i + n) % (j - i))) ∈ ps
    have hr := Nat.mod_lt (s - i + n) hp
    by_cases q : (s - i + n) % (j - i) + 1 = j - i
    · have e1 : (s - i + (n + 1)) % (j - i) = 0 := by
        rw [← Nat.add_assoc, ← Nat.mod_add_mod, q, Nat.mod_self]
      rw [e1, Nat.add_zero, e]
      have e2 : i + (s - i + n) % (j - i) = j - 1 := by omega
      rw [e2]
      have := hg (j - 1)
      rw [show j - 1 + 1 = j by omega] at this
      exact this
    · have e1 : (s - i + (n + 1)) % (j - i) = (s - i + n) % (j - i) + 1 := by
        rw [← Nat.add_assoc, ← Nat.mod_add_mod]
        exact Nat.mod_eq_of_lt (by omega)
      rw [e1]
      exact hg _
  have hle : ∀ n, g s ≤ g' n := by
    intro n
    have hr := Nat.mod_lt (s - i + n) hp
    exact Nat.le_of_not_lt fun q => hmin _ q ⟨i + (s - i + n) % (j - i), by omega, by omega, rfl⟩
  have h0 : g' 0 = g s := by
    show g (i + (s - i + 0) % (j - i)) = g s
    rw [Nat.add_zero, Nat.mod_eq_of_lt (by omega)]
    congr 1
    omega
  have hper : g' (j - i) = g s := by
    show g (i + (s - i + (j - i)) % (j - i)) = g s
    rw [Nat.add_mod_right, Nat.mod_eq_of_lt (by omega)]
    congr 1
    omega
  obtain ⟨q, ⟨hq1, hq2⟩, hno⟩ := lens_some.least (P := fun q => 1 ≤ q ∧ g' q = g s) ⟨j - i, by omega, hper⟩
  refine ⟨g s, backs g' 0 (q - 1), hm s, ?_⟩
  have := backs_cl hg' 0 (q - 1) (fun t t1 t2 => by
    rw [h0, Nat.zero_add]
    have a1 := hle t
    have a2 : g' t ≠ g s := fun z => hno t (by omega) ⟨t1, z⟩
    omega)
  rw [h0, show 0 + (q - 1) + 1 = q by omega, hq2] at this
  exact this
theorem order_or_ring {m : Nat} {ps : PL} (hm : Within m ps) (h : orderOf m ps = none) : ∃ o r, o < m ∧ Cl ps o o r := by
  obtain ⟨t, ⟨v, hv, hvt⟩, hall⟩ := order_none h
  have hch : ∀ x : {v : Nat // v < m ∧ v ∉ t}, ∃ y : {v : Nat // v < m ∧ v ∉ t}, (y.1, x.1) ∈ ps := fun x => by
    obtain ⟨u, hu1, hu2⟩ := hall x.1 x.2.1 x.2.2
    exact ⟨⟨u, (hm _ hu1).1, hu2⟩, hu1⟩
  let f : {v : Nat // v < m ∧ v ∉ t} → {v : Nat // v < m ∧ v ∉ t} := fun x => Classical.choose (hch x)
  let g : Nat → {v : Nat // v < m ∧ v ∉ t} := fun n => Nat.rec ⟨v, hv, hvt⟩ (fun _ x => f x) n
  exact seq_ring (m := m) (g := fun n => (g n).1) (fun n => Classical.choose_spec (hch (g n))) (fun n => (g n).2.1)
/-! ### the best ring -/
theorem pick_some {b : Option (List Nat)} {x : Option (List Nat)} {l : List Nat} (h : x = some l) : ∃ m, pick b x = some m := by
  subst h
  cases b with
  | none => exact ⟨_, rfl⟩
  | some k =>
    show ∃ m, (if l.length < k.length then some l else some k) = some m
    by_cases q : l.length < k.length
    · exact ⟨l, if_pos q⟩
    · exact ⟨k, if_neg q⟩
theorem best_keeps {ps : PL} {o : Nat} {l : List Nat} (h : best ps o = some l) : ∃ m, best ps (o + 1) = some m := by
  show ∃ m, pick (best ps o) (ringOf ps o) = some m
  rw [h]
  cases hx : ringOf ps o with
  | none => exact ⟨l, rfl⟩
  | some x => exact pick_some rfl
theorem best_there {ps : PL} {o : Nat} {r : List Nat} (c : Cl ps o o r) : ∀ j, ∃ l, best ps (o + 1 + j) = some l
  | 0 => by
    obtain ⟨l, hl⟩ := ringOf_there c
    exact pick_some hl
  | j + 1 => by
    obtain ⟨l, hl⟩ := best_there c j
    exact best_keeps hl
theorem best_none {ps : PL} (h : ∀ o r, ¬ Cl ps o o r) : ∀ m, best ps m = none
  | 0 => rfl
  | m + 1 => by
    show pick (best ps m) (ringOf ps m) = none
    rw [best_none h m, ringOf_none (h m)]
    rfl
theorem one_of_two {m : Nat} {ps : PL} (hm : Within m ps) : (orderOf m ps = none ↔ best ps m ≠ none) := by
  constructor
  · intro h
    obtain ⟨o, r, ho, c⟩ := order_or_ring hm h
    obtain ⟨l, hl⟩ := best_there c (m - (o + 1))
    rw [show o + 1 + (m - (o + 1)) = m by omega] at hl
    rw [hl]
    exact fun z => by cases z
  · intro h
    cases e : orderOf m ps with
    | none => rfl
    | some t => exact absurd (best_none (order_no_ring hm e) m) h
theorem pick_short {b : Option (List Nat)} {ps : PL} {o : Nat} {l : List Nat} (hb : b = some l) (h : ∀ r, Cl ps o o r → l.length ≤ r.length + 1) : pick b (ringOf ps o) = b := by
  subst hb
  cases hx : ringOf ps o with
  | none => rfl
  | some x =>
    obtain ⟨r, rfl, c, _⟩ := ringOf_is hx
    have := h r c
    show (if (o :: r).length < l.length then some (o :: r) else some l) = some l
    rw [if_neg (by rw [List.length_cons]; omega)]
theorem pick_no {b : Option (List Nat)} {ps : PL} {o : Nat} (h : ∀ r, ¬ Cl ps o o r) : pick b (ringOf ps o) = b := by
  rw [ringOf_none h]
  rfl
theorem pick_new {b : Option (List Nat)} {ps : PL} {o : Nat} {x : List Nat} (hx : LRing ps o x) (h : ∀ l, b = some l → x.length < l.length) : pick b (ringOf ps o) = some x := by
  rw [ringOf_some hx]
  cases b with
  | none => rfl
  | some l => exact if_pos (h l rfl)
end K02

/-! Rules of our own over the hand layer: a walk over a list or a tuple; the order of data; the least of a list of data; list(reversed(a list)). -/
namespace RT
open PySem PySem.Spec PyProof.Rows L2
section
variable {prog : Program} {w : World} {A : Around} {E : Value → Shared → Prop} {s : Shared}
theorem extend_rev {R : Result → Shared → Prop} {it l : Addr} {items : Array Value} (hh : A.handled = none) (S : Addr) (res : Value) (c₀ : Nat) (hS : s.heap.get? S = some { cls := .type "list", data := .seq #[] c₀ })
    (hit : s.heap.IsRevIter it l ((items.size : Int) - 1)) (hl : s.heap.IsList l items) (hne : l ≠ it) (hSi : S ≠ it) (hSl : S ≠ l) (hn : items.size ≤ sizeLine)
    (hR : ∀ h' tk acc' c', (∀ b o, b ≠ S → b ≠ it → s.heap.get? b = some o → h'.get? b = some o) → h'.get? S = some { cls := .type "list", dict := none, data := .seq acc' c', slots := #[] } →
      ItemsOf (fun i v => items[items.size - 1 - i]? = some v) acc' items.size → R (.ok (.ret res)) { s with heap := h', toks := tk }) :
    wpAny (model prog w) A.in1 (Builtin.List.listExtendWith (.ref S) (.ref it) res)
      (fun fin s' => match fin with | .done f => R (.ok f) s' | .again c' => c'.quiet = true ∧ codeAny (model prog w) A c' R s') (fun e s' => R (.error e) s') s := by
  have W := (Walks.listRev (prog := prog) (w := w) (A := A.in1) hh it l hne items).toS
  have hSf : S ∉ [it, l] := by simp only [List.mem_cons, List.not_mem_nil, or_false, not_or]; exact ⟨hSi, hSl⟩
  have hT : s.TypeIs (.ref it) "list_reverseiterator" := hit.typeIs
  have h1 : Builtin.List.listSameRef (.ref S) (.ref it) = false := by simp [Builtin.List.listSameRef, hSi]
  unfold Builtin.List.listExtendWith
  refine wpAny_bind (wpAny_typeOf hT ?_)
  rw [if_neg (by rw [h1]; decide)]
  refine wpAny_bind (wpAny_pyIter_revIter hit ?_)
  refine wpAny_bind (wpAny_holding ?_)
  unfold Builtin.List.listLengthHint
  refine wpAny_bind (wpAny_specialOf hT nolen_lri ?_)
  show wpAny _ A.in1 (specialOf (Value.ref it) (Str.ofString "__length_hint__") >>= _) _ _ _
  refine wpAny_bind (wpAny_specialOf hT hint_lri ?_)
  generalize hid : ("list_reverseiterator.__length_hint__" : String) = id0
  wp_delta
  rw [show splitId id0 = some ("list_reverseiterator", "__length_hint__") from by subst hid; decide +kernel]
  subst hid
  refine wpAny_bind (wpAny_isInstance (b := true) hT (by rw [isSubtype_type]; kernel_rfl) ?_)
  refine wpAny_pure ?_
  rw [if_neg (by decide)]
  have e0 : ((items.size : Nat) : Int) - 1 - ((0 : Nat) : Int) = (items.size : Int) - 1 := by omega
  refine wpAny_pure ⟨plainId_quiet F.plain_extend_loop _, codeAny_extend_loopS W hn _ hSf _ items.size 0 _ _ _ rfl (Nat.zero_le _) ⟨Nat.zero_le _, by rw [e0]; exact hit, hl⟩ hS (ItemsOf.nil _) fun s' acc' c' hm hS' hacc => ?_⟩
  rw [Moved.eq_with hm]
  refine hR s'.heap s'.toks acc' c' (fun b o hb hb2 e => hm.heap b o (fun hmem => ?_) e) hS' hacc
  rcases List.mem_cons.mp hmem with e' | hmem
  · exact hb e'
  · exact hb2 (List.mem_singleton.mp hmem)
theorem list_init_rev {R : Result → Shared → Prop} {it l : Addr} {items : Array Value} (hh : A.handled = none) (S : Addr) (hS : s.heap.get? S = some { cls := .type "list", data := .seq #[] })
    (hit : s.heap.IsRevIter it l ((items.size : Int) - 1)) (hl : s.heap.IsList l items) (hne : l ≠ it) (hSi : S ≠ it) (hSl : S ≠ l) (hn : items.size ≤ sizeLine)
    (hR : ∀ h' tk acc' c', (∀ b o, b ≠ S → b ≠ it → s.heap.get? b = some o → h'.get? b = some o) → h'.get? S = some { cls := .type "list", dict := none, data := .seq acc' c', slots := #[] } →
      ItemsOf (fun i v => items[items.size - 1 - i]? = some v) acc' items.size → R (.ok (.ret .none)) { s with heap := h', toks := tk }) :
    wpAny (model prog w) A.in1 (Builtin.«list.__init__» ⟨[.ref S, .ref it], []⟩)
      (fun fin s' => match fin with | .done f => R (.ok f) s' | .again c' => c'.quiet = true ∧ codeAny (model prog w) A c' R s') (fun e s' => R (.error e) s') s := by
  show wpAny _ _ (do let old ← Builtin.List.listItems (.ref S); Builtin.List.listUpdate (.ref S) (fun _ => #[]); letGo old.toList.reverse; Builtin.List.listExtendWith (.ref S) (.ref it) .none) _ _ s
  refine wpAny_bind ?_
  unfold Builtin.List.listItems
  refine wpAny_bind (wpAny_seqItems hS rfl (wpAny_pure ?_))
  show wpAny _ _ (updateSeq S (fun _ => #[]) >>= fun _ => letGo (#[] : Array Value).toList.reverse >>= fun _ => Builtin.List.listExtendWith (.ref S) (.ref it) .none) _ _ s
  refine wpAny_bind (wpAny_updateSeq hS rfl ?_)
  have hS₂ := Heap.get?_update_self (Obj.mapSeq (fun _ => (#[] : Array Value))) hS rfl
  have oth : ∀ b o, b ≠ S → s.heap.get? b = some o → (s.heap.update S (Obj.mapSeq (fun _ => (#[] : Array Value)))).get? b = some o :=
    fun b o hb e => (Heap.get?_update_other _ _ (Ne.symm hb)).trans e
  refine wpAny_bind (wpAny_letGo ?_)
  refine extend_rev hh S .none _ hS₂ (hit.at fun o e => oth _ _ (Ne.symm hSi) e) (hl.at fun o e => oth _ _ (Ne.symm hSl) e) hne hSi hSl hn fun h' tk acc' c' hk hS' hacc => ?_
  exact hR h' tk acc' c' (fun b o hb hb2 e => hk b o hb hb2 (oth b o hb e)) hS' hacc
theorem call_list_rev {it l : Addr} {items : Array Value} {Q : Value → Shared → Prop} (hh : A.handled = none) (hit : s.heap.IsRevIter it l ((items.size : Int) - 1)) (hl : s.heap.IsList l items) (hne : l ≠ it) (hn : items.size ≤ sizeLine)
    (hQ : ∀ h' tk acc' c', (∀ b o, b ≠ it → s.heap.get? b = some o → h'.get? b = some o) →
      h'.get? s.heap.objs.size = some { cls := .type "list", dict := none, data := .seq acc' c', slots := #[] } → ItemsOf (fun i v => items[items.size - 1 - i]? = some v) acc' items.size → Q (.ref s.heap.objs.size) { s with heap := h', toks := tk }) :
    wpAny (model prog w) A (call (.type "list") [.ref it]) Q E s := by
  obtain ⟨oi, hoi, _⟩ := id hit
  obtain ⟨ol, hol, _⟩ := id hl
  have hSi : s.heap.objs.size ≠ it := Nat.ne_of_gt (Heap.lt_size hoi)
  have hSl : s.heap.objs.size ≠ l := Nat.ne_of_gt (Heap.lt_size hol)
  refine callType_codes (Q₁ := fun obj s₁ => obj = .ref s.heap.objs.size ∧ s₁ = { s with heap := s.heap.push { cls := .type "list", data := .seq #[] } }) F.called_list (F.typeCall_list_1 _) F.entry_list_init
    (code_list_new _ ⟨rfl, rfl⟩) fun obj s₁ h₁ => ?_
  obtain ⟨rfl, rfl⟩ := h₁
  have hS : (s.heap.push { cls := .type "list", data := .seq #[] }).get? s.heap.objs.size = some { cls := .type "list", data := .seq #[] } := Heap.get?_push_size _ rfl
  refine ⟨⟨_, hS, rfl⟩, F.args_list_init_2 _ _, list_init_rev (A := A.in1) hh _ hS (hit.at fun o e => Heap.get?_push_of_some _ e) (hl.push _) hne hSi hSl hn fun h' tk acc' c' hk hS' hacc => ?_⟩
  exact ⟨rfl, hQ h' tk acc' c' (fun b o hb e => hk b o (Nat.ne_of_lt (Heap.lt_size e)) hb (Heap.get?_push_of_some _ e)) hS' hacc⟩
end
end RT
namespace L2
open PySem PySem.Spec PyProof.Rows
section
variable {X : Cx}
/-- list(reversed(x)), x a list: a new list -/
def tLstRev (K : PySem.W.Frag) (te : TE) : TE := fun σ H Q => te σ H fun v H1 => ∃ (a : Addr) (xs : List V), v = .ref a ∧ SqL K H1 a xs ∧ ∀ q, H1 q = none → Q (.ref q) (upd H1 q (.lst xs.reverse))
theorem pe_lstRev {e : Expr} {te : TE} {p p2 pos pos2 : Pos} (hc : X.calm = true) (hg : Gl X "list") (hm : X.mg "list" = none) (hg2 : Gl X "reversed") (hm2 : X.mg "reversed" = none) (he : PE X e te)
    (hs : starEach [e] X.env = (false, eval e X.env) :: starEach [] X.env := by rfl)
    (hs2 : starEach [.Call (.Name "reversed" p2) [e] [] pos2] X.env = (false, eval (.Call (.Name "reversed" p2) [e] [] pos2) X.env) :: starEach [] X.env := by rfl) :
    PE X (.Call (.Name "list" p) [.Call (.Name "reversed" p2) [e] [] pos2] [] pos) (tLstRev X.K te) := by
  refine ⟨fun pins s σ H Q I h => ?_⟩
  refine Call_ (ld_blt I hg hm boot_list (PyProof.Rows.callWith_type1 (args_cons ?_ hs2) hs2 rfl))
  refine Call_ (ld_blt I hg2 hm2 PyProof.Rows.boot_reversed (PyProof.Rows.callWith_type1 (args_cons ?_ hs) hs rfl))
  refine thn (he.run pins s σ H _ I h) fun u s1 ⟨v, H1, I1, r1, q1⟩ => args_nil ?_
  obtain ⟨a, xs, ev, hq, q⟩ := q1
  subst ev
  obtain rfl : u = Value.ref a := r1
  obtain ⟨its, rv, p', hz⟩ := I1.list hq
  refine call_reversed_list p'.isList (args_nil ?_)
  have k0 : ∀ b o, s1.heap.get? b = some o → (s1.heap.push (revObj a ((its.toArray.size : Int) - 1))).get? b = some o := fun b o e => Heap.get?_push_of_some _ e
  have I2 : Inv X pins σ H1 { s1 with heap := s1.heap.push (revObj a ((its.toArray.size : Int) - 1)) } := I1.kept (t' := s1.toks) k0
  obtain ⟨f0, f1, f2, f3, f4, f5⟩ := I1.fpOk (H' := H1) (b := s1.heap.objs.size) (Nat.le_refl _) (I1.hok.fresh (Nat.le_refl _))
  have hl := p'.isList
  obtain ⟨ol, hol, _⟩ := id hl
  have hne : a ≠ s1.heap.objs.size := Nat.ne_of_lt (Heap.lt_size hol)
  have hn : its.toArray.size ≤ sizeLine := by rw [List.size_toArray, ← rv.length]; exact hz
  refine RT.call_list_rev (s := { s1 with heap := s1.heap.push (revObj a ((its.toArray.size : Int) - 1)) }) (I1.ok.hd hc) ⟨_, Heap.get?_push_size _ rfl, rfl, rfl⟩ (hl.push _) hne hn fun h' tk acc c' hk hS' hi => ?_
  have ez : (s1.heap.push (revObj a ((its.toArray.size : Int) - 1))).objs.size = s1.heap.objs.size + 1 := Heap.size_push _ _
  have hS2 : h'.get? (s1.heap.objs.size + 1) = some { cls := .type "list", data := .seq acc c' } := by rw [← ez]; exact hS'
  show EP X pins σ Q (Value.ref (s1.heap.push (revObj a ((its.toArray.size : Int) - 1))).objs.size) _
  rw [ez]
  refine ⟨.ref (s1.heap.objs.size + 1), upd H1 (s1.heap.objs.size + 1) (.lst xs.reverse), I1.laid (t' := tk) (fun b o e => hk b o (Nat.ne_of_lt (Heap.lt_size e)) (k0 b o e)) (Nat.le_succ _) (show ObjOk X.prog X.w _ _ _ (.lst xs.reverse) from ⟨by rw [List.length_reverse]; exact hz, acc.toList, c', RT.vals_rev rv hi, ?_⟩), rfl, q _ (I1.hok.fresh (Nat.le_succ _))⟩
  rw [Array.toArray_toList]
  exact hS2
end
end L2
namespace L2
open PySem PySem.Spec PyProof.Rows PySem.W
section
variable {X : Cx}
/-- a list or a tuple, walked -/
def iSeq (K : PySem.W.Frag) (tl : TE) : TI := fun σ H R => tl σ H fun x H1 => ∃ a, x = .ref a ∧ (((∃ xs, SqL K H1 a xs) ∧ R (Itl K a) H1) ∨ ((∃ xs, SqT K H1 a xs) ∧ R (Itt K a) H1))
theorem pi_seq {tg l : Expr} {tl : TE} (hl : PE X l tl) : PI X tg l (iSeq X.K tl) := by
  refine ⟨fun pins s σ H R I h => ?_⟩
  refine thn (hl.run pins s σ H _ I h) fun v s1 ⟨x, H1, I1, r1, q1⟩ => ?_
  obtain ⟨a, e, ⟨⟨xs, hq⟩, q⟩ | ⟨⟨xs, hq⟩, q⟩⟩ := q1
  · subst e
    cases r1
    obtain ⟨its, rv, p, hz⟩ := I1.list hq
    refine wpAny_pyIter_list p.isList ?_
    refine ⟨s1.heap.objs.size, [s1.heap.objs.size], _, _, H1, rfl, I1.kept (t' := s1.toks) fun b o e => Heap.get?_push_of_some _ e, turn_list a _, ⟨_, Heap.get?_push_size _ rfl, rfl, rfl⟩, fun b hb => ?_, q⟩
    have e : b = s1.heap.objs.size := by simpa using hb
    subst e
    exact I1.fpOk (Nat.le_refl _) (I1.hok.fresh (Nat.le_refl _))
  · subst e
    cases r1
    obtain ⟨its, rv, p, hz⟩ := I1.tuple hq
    refine wpAny_pyIter_tuple (show s1.heap.IsTuple a its.toArray from p) ?_
    refine ⟨s1.heap.objs.size, [s1.heap.objs.size], _, _, H1, rfl, I1.kept (t' := s1.toks) fun b o e => Heap.get?_push_of_some _ e, turn_tuple a _, ⟨_, Heap.get?_push_size _ rfl, rfl, rfl⟩, fun b hb => ?_, q⟩
    have e : b = s1.heap.objs.size := by simpa using hb
    subst e
    exact I1.fpOk (Nat.le_refl _) (I1.hok.fresh (Nat.le_refl _))
/-- x < y of data with a Lean type -/
def rLtA (α : Type) [DecidableEq α] [DatumOrd α] (K : PySem.W.Frag) : R2 := fun x y H Q => ∃ (a b : α), Dp K H x (Datum.toD a) ∧ Dp K H y (Datum.toD b) ∧ Q (.bl (DatumOrd.lt a b)) H
theorem op_ltA (α : Type) [DecidableEq α] [DatumOrd α] (hu : X.A.units + 64 < cLine) (hd : Datum.depth α ≤ 60) : OpR X (compareOp .Lt) (rLtA α X.K) := by
  intro pins s σ H x y v u Q I rx ry h
  obtain ⟨a, b, ha, hb, q⟩ := h
  obtain ⟨as, r1⟩ := Dp.reads I _ x v ha rx
  obtain ⟨bs, r2⟩ := Dp.reads I _ y u hb ry
  exact lt_datum ⟨as, r1⟩ ⟨bs, r2⟩ (by omega) ⟨.bl _, H, I, rfl, q⟩
theorem DpAll.at {K : PySem.W.Frag} {H : Hp} : ∀ {vs : List V} {ds : List PyData}, DpAll K H vs ds → ∀ (i : Nat) (v : V), vs[i]? = some v → ∃ d, ds[i]? = some d ∧ Dp K H v d
  | _, _, .nil, i, v, h => by simp at h
  | _, _, .cons h1 h2, 0, v, h => by
    simp only [List.getElem?_cons_zero, Option.some.injEq] at h
    subst h
    exact ⟨_, rfl, h1⟩
  | _, _, .cons h1 h2, i + 1, v, h => DpAll.at h2 i v (by simpa using h)
theorem toD_inj {α : Type} [DecidableEq α] [Datum α] {a b : α} (h : Datum.toD a = Datum.toD b) : a = b := by
  have e := Datum.eqv a b
  rw [h, Datum.eqv b b, decide_eq_true rfl] at e
  exact of_decide_eq_true e.symm
/-- min(xs): the item that stands where the first least one stands -/
def rMinA (α : Type) [DecidableEq α] [DatumOrd α] (K : PySem.W.Frag) : List V → Hp → VK → Prop := fun us H Q => ∃ (a : Addr) (vs : List V) (x : α) (xs : List α), us = [V.ref a] ∧ SqL K H a vs ∧ DpAll K H vs ((x :: xs).map Datum.toD) ∧
  ∀ (i : Nat) (v : V), vs[i]? = some v → (x :: xs)[i]? = some (minOf x xs) → Q v H
theorem cr_minA (α : Type) [DecidableEq α] [DatumOrd α] (hc : X.calm = true) (hu : X.A.units + 64 < cLine) (hd : Datum.depth α ≤ 60) : CallR X (.builtin "min") (rMinA α X.K) := by
  intro pins s σ H vs us Q I r h
  obtain ⟨a, ws, x, xs, rfl, hs, hda, q⟩ := h
  obtain ⟨its, rv, hl, _⟩ := I.list hs
  rw [Vals.ref1 r]
  obtain ⟨as, hr⟩ := Dp.readsAll I _ _ its hda rv
  refine min_list_datum (x := x) (xs := xs) (I.ok.hd hc) hl.isList ⟨as, by simpa using hr⟩ (by omega) fun i v h' tk hi hv hk => ?_
  have hi' : its[i]? = some v := by simpa using hi
  -- the item's own V
  have hlt : i < its.length := (List.getElem?_eq_some_iff.mp hi').1
  have hlw : i < ws.length := by
    have := Vals.length rv
    omega
  have hw : ws[i]? = some ws[i] := List.getElem?_eq_getElem hlw
  obtain ⟨u, hu1, hu2⟩ := rv.get hw
  rw [hi'] at hu1
  cases hu1
  obtain ⟨d, hd1, hd2⟩ := hda.at i _ hw
  obtain ⟨y, hy1, hy2⟩ : ∃ y, (x :: xs)[i]? = some y ∧ Datum.toD y = d := by
    rw [List.getElem?_map] at hd1
    cases e : (x :: xs)[i]? with
    | none => rw [e] at hd1; cases hd1
    | some y => rw [e] at hd1; exact ⟨y, rfl, Option.some.inj hd1⟩
  subst hy2
  have I2 : Inv X pins σ H { s with heap := h', toks := tk } := I.kept hk
  obtain ⟨bs, r2⟩ := Dp.reads I2 _ _ v hd2 hu2
  obtain ⟨cs, r3⟩ := hv
  have e := toD_inj (alike_unique _ _ v bs cs (DatumOrd.alike y (minOf x xs)) r2 r3)
  exact ⟨_, H, I2, hu2, q i _ hw (by rw [hy1, e])⟩
end
end L2
namespace L2
open PySem PySem.Spec PyProof.Rows
def rLenQ (K : PySem.W.Frag) : List V → Hp → VK → Prop := fun xs H Q => ∃ p ys, xs = [.ref p] ∧ (SqL K H p ys ∨ SqT K H p ys) ∧ Q (.int ys.length) H
def rListOf (K : PySem.W.Frag) : List V → Hp → VK → Prop := fun xs H Q => ∃ p ys, xs = [.ref p] ∧ (SqL K H p ys ∨ SqT K H p ys) ∧ ∀ l, H l = none → Q (.ref l) (upd H l (.lst ys))
end L2

/-! Heaps in short: numbers, lists of lists, lists of pairs, dicts by numbers. -/
namespace KH
open PySem PySem.Spec PyProof.Rows L2 K02
abbrev nV (n : Nat) : V := .int (n : Int)
/-! ### lists -/
theorem getn {α β : Type} {f : α → β} {l : List α} {i : Nat} {x : α} (h : l[i]? = some x) : (l.map f)[i]? = some (f x) := by
  rw [List.getElem?_map, h]
  rfl
theorem getn_inv {α β : Type} {f : α → β} {l : List α} {i : Nat} {y : β} (h : (l.map f)[i]? = some y) : ∃ x, l[i]? = some x ∧ y = f x := by
  rw [List.getElem?_map] at h
  cases e : l[i]? with
  | none => rw [e] at h; cases h
  | some x => rw [e] at h; exact ⟨x, rfl, (Option.some.inj h).symm⟩
theorem get_lt {α : Type} {l : List α} {i : Nat} (h : i < l.length) : ∃ x, l[i]? = some x := ⟨l[i], List.getElem?_eq_getElem h⟩
theorem lt_get {α : Type} {l : List α} {i : Nat} {x : α} (h : l[i]? = some x) : i < l.length := (List.getElem?_eq_some_iff.mp h).1
theorem take_more {α : Type} {l : List α} {i : Nat} {x : α} (h : l[i]? = some x) : l.take (i + 1) = l.take i ++ [x] := by
  rw [List.take_add_one, h]
  rfl
theorem at_n {xs : List V} {j : Nat} {v : V} (h : xs[j]? = some v) : atI xs (j : Int) = some v := atI_nat h
theorem szl {n : Nat} (h : n ≤ 10000) : n < sizeLine := Nat.lt_of_le_of_lt h (by decide)
theorem szle {n : Nat} (h : n ≤ 10000) : n ≤ sizeLine := Nat.le_of_lt (szl h)
section
variable {α β : Type} {F G : α → β → Prop}
theorem P_len : ∀ {xs : List α} {ys : List β}, Paired F xs ys → xs.length = ys.length
  | _, _, .nil => rfl
  | _, _, .cons _ h => by rw [List.length_cons, List.length_cons, P_len h]
theorem P_get : ∀ {xs : List α} {ys : List β}, Paired F xs ys → ∀ {i : Nat} {x : α} {y : β}, xs[i]? = some x → ys[i]? = some y → F x y
  | _, _, .nil, i, x, _, h, _ => by simp at h
  | _, _, .cons f _, 0, x, y, h, h' => by
    simp at h h'
    subst h
    subst h'
    exact f
  | _, _, .cons _ r, i + 1, x, y, h, h' => P_get r (i := i) (by simpa using h) (by simpa using h')
theorem P_right {xs : List α} {ys : List β} (p : Paired F xs ys) {i : Nat} {x : α} (h : xs[i]? = some x) : ∃ y, ys[i]? = some y ∧ F x y := by
  have hl := lt_get h
  rw [P_len p] at hl
  obtain ⟨y, hy⟩ := get_lt hl
  exact ⟨y, hy, P_get p h hy⟩
theorem P_left {xs : List α} {ys : List β} (p : Paired F xs ys) {i : Nat} {y : β} (h : ys[i]? = some y) : ∃ x, xs[i]? = some x ∧ F x y := by
  have hl := lt_get h
  rw [← P_len p] at hl
  obtain ⟨x, hx⟩ := get_lt hl
  exact ⟨x, hx, P_get p hx h⟩
theorem P_mono (h : ∀ x y, F x y → G x y) : ∀ {xs : List α} {ys : List β}, Paired F xs ys → Paired G xs ys
  | _, _, .nil => .nil
  | _, _, .cons f r => .cons (h _ _ f) (P_mono h r)
theorem P_monoM : ∀ {xs : List α} {ys : List β}, (∀ x y, x ∈ xs → F x y → G x y) → Paired F xs ys → Paired G xs ys
  | _, _, _, .nil => .nil
  | _, _, h, .cons f r => .cons (h _ _ List.mem_cons_self f) (P_monoM (fun x y hx => h x y (List.mem_cons_of_mem _ hx)) r)
theorem P_set : ∀ {xs : List α} {ys : List β}, Paired F xs ys → ∀ {i : Nat} {x : α} {y : β}, F x y → Paired F (xs.set i x) (ys.set i y)
  | _, _, .nil, _, _, _, _ => .nil
  | _, _, .cons _ r, 0, _, _, f => .cons f r
  | _, _, .cons g r, i + 1, _, _, f => .cons g (P_set r f)
theorem P_setR {xs : List α} {ys : List β} (p : Paired F xs ys) {i : Nat} {x : α} {y : β} (hx : xs[i]? = some x) (f : F x y) : Paired F xs (ys.set i y) := by
  have := P_set p (i := i) f
  rwa [show xs.set i x = xs from List.set_getElem?_self hx] at this
where
  List.set_getElem?_self {l : List α} {i : Nat} {x : α} (h : l[i]? = some x) : l.set i x = l := by
    apply List.ext_getElem?
    intro j
    rw [List.getElem?_set]
    by_cases e : i = j
    · subst e
      rw [if_pos rfl, if_pos (lt_get h), h]
    · rw [if_neg e]
theorem P_append : ∀ {xs xs' : List α} {ys ys' : List β}, Paired F xs ys → Paired F xs' ys' → Paired F (xs ++ xs') (ys ++ ys')
  | _, _, _, _, .nil, h => h
  | _, _, _, _, .cons f r, h => .cons f (P_append r h)
end
/-! ### what stays -/
theorem _root_.L2.Same.seqT {K : PySem.W.Frag} {H H' : Hp} {a : Addr} {xs : List V} (e : Same H H') (h : SqT K H a xs) : SqT K H' a xs := by
  rcases h with (h | ⟨o, h⟩) | h
  · exact .inl (.inl (e _ _ h))
  · exact .inl (.inr ⟨o, e _ _ h⟩)
  · exact .inr h
theorem _root_.L2.Same.new {H H' : Hp} {p : Addr} {o : HO} (s : Same H H') (h : H' p = none) : Same H (upd H' p o) := fun b x e => by
  have e' := s b x e
  rw [upd_ne (ne_of_none e' h)]
  exact e'
theorem _root_.L2.Same.mut {H H' : Hp} {p : Addr} {o : HO} (s : Same H H') (h : H p = none) : Same H (upd H' p o) := fun b x e => by
  rw [upd_ne (ne_of_none e h)]
  exact s b x e
theorem new_free {H H' : Hp} {p : Addr} (s : Same H H') (h : H' p = none) : H p = none := s.free h
theorem ne_new {H : Hp} {a p : Addr} {o : HO} (h : H a = some o) (hp : H p = none) : a ≠ p := ne_of_none h hp
/-! ### a walk over a list or a tuple -/
def Sq (K : PySem.W.Frag) (H : Hp) (a : Addr) (xs : List V) : Prop := SqL K H a xs ∨ SqT K H a xs
theorem _root_.L2.Same.sq {K : PySem.W.Frag} {H H' : Hp} {a : Addr} {xs : List V} (e : Same H H') (h : Sq K H a xs) : Sq K H' a xs := h.imp (fun q => e.seq q) (fun q => e.seqT q)
theorem for_seq {K : PySem.W.Frag} {a : Addr} {xs : List V} {g : TG} {tb : TS} {D : Ends} {σ : L2.St} {H0 H : Hp} (hq : Sq K H0 a xs) (s0 : Same H0 H) (Pv : Nat → L2.St → Hp → Prop) (h0 : Pv 0 σ H) (hl : ∀ i σ' H', i ≤ xs.length → Pv i σ' H' → Same H0 H')
    (hs : ∀ i x σ H, xs[i]? = some x → Pv i σ H → g x σ H fun σ2 H2 => tb { D with nx := Pv (i + 1), ct := Pv (i + 1), bk := D.nx } σ2 H2) (hd : ∀ σ H, Pv xs.length σ H → D.nx σ H) :
    ∃ a', V.ref a = V.ref a' ∧ (((∃ xs, SqL K H a' xs) ∧ ∃ W : Nat → Nat → L2.St → Hp → Prop, (∃ m, W 0 m σ H) ∧ ∀ i m σ H, W i m σ H →
      ((Itl K a').stop i H ∧ D.nx σ H) ∨ ((Itl K a').go i H ∧ ∃ N : L2.St → Hp → Prop, (∀ σ' H', N σ' H' → ∃ m', m' < m ∧ W (i + 1) m' σ' H') ∧ ∀ x H', (Itl K a').yld i H x H' → g x σ H' fun σ2 H2 => tb { D with nx := N, ct := N, bk := D.nx } σ2 H2)) ∨
      ((∃ xs, SqT K H a' xs) ∧ ∃ W : Nat → Nat → L2.St → Hp → Prop, (∃ m, W 0 m σ H) ∧ ∀ i m σ H, W i m σ H →
      ((Itt K a').stop i H ∧ D.nx σ H) ∨ ((Itt K a').go i H ∧ ∃ N : L2.St → Hp → Prop, (∀ σ' H', N σ' H' → ∃ m', m' < m ∧ W (i + 1) m' σ' H') ∧ ∀ x H', (Itt K a').yld i H x H' → g x σ H' fun σ2 H2 => tb { D with nx := N, ct := N, bk := D.nx } σ2 H2))) := by
  rcases hq with hq | hq
  · exact ⟨a, rfl, .inl ⟨⟨_, s0.seq hq⟩, for_list (K := K) (a := a) (xs := xs) Pv h0 (fun i σ' H' hi p => (hl i σ' H' hi p).seq hq) hs hd⟩⟩
  · exact ⟨a, rfl, .inr ⟨⟨_, s0.seqT hq⟩, for_tup (K := K) (a := a) (xs := xs) Pv h0 (fun i σ' H' hi p => (hl i σ' H' hi p).seqT hq) hs hd⟩⟩
/-! ### dicts by numbers -/
def dkN {β : Type} (f : β → V) (l : List (Nat × β)) : List (Key × V) := l.map fun p => (Sum.inl (p.1 : Int), f p.2)
theorem key_eq {a b : Nat} : ((Sum.inl (a : Int) : Key) = Sum.inl (b : Int)) ↔ a = b := by
  constructor
  · intro h
    have := Sum.inl.inj h
    omega
  · intro h
    rw [h]
theorem val_dk {β : Type} (f : β → V) (k : Nat) : ∀ l : List (Nat × β), valV (dkN f l) (Sum.inl (k : Int)) = (look l k).map f
  | [] => rfl
  | p :: r => by
    show valV ((Sum.inl (p.1 : Int), f p.2) :: dkN f r) (Sum.inl (k : Int)) = (if p.1 = k then some p.2 else look r k).map f
    by_cases e : p.1 = k
    · rw [valV_pos (key_eq.mpr e), if_pos e]
      rfl
    · rw [valV_neg (fun z => e (key_eq.mp z)), if_neg e, val_dk f k r]
theorem put_dk {β : Type} (f : β → V) (k : Nat) (v : β) (l : List (Nat × β)) (hn : (l.map (·.1)).Nodup) : putK (dkN f l) (Sum.inl (k : Int)) (f v) = dkN f (put l k v) := by
  unfold putK
  rw [valV_any, val_dk]
  cases h : look l k with
  | none =>
    rw [if_neg (by simp)]
    rw [put_new l h]
    unfold dkN
    rw [List.map_append]
    rfl
  | some w =>
    rw [if_pos (by simp)]
    exact put_old l (by rw [h]; rfl) hn
where
  put_new : ∀ (l : List (Nat × β)), look l k = none → put l k v = l ++ [(k, v)]
    | [], _ => rfl
    | p :: r, h => by
      unfold look at h
      by_cases e : p.1 = k
      · rw [if_pos e] at h
        cases h
      · rw [if_neg e] at h
        show (if p.1 = k then (p.1, v) :: r else p :: put r k v) = _
        rw [if_neg e, put_new r h]
        rfl
  map_other : ∀ (l : List (Nat × β)), k ∉ l.map (·.1) → (dkN f l).map (fun kv => if kv.1 = Sum.inl (k : Int) then (kv.1, f v) else kv) = dkN f l
    | [], _ => rfl
    | p :: r, h => by
      rw [List.map_cons, List.mem_cons, not_or] at h
      show (if (Sum.inl (p.1 : Int) : Key) = Sum.inl (k : Int) then (Sum.inl (p.1 : Int), f v) else (Sum.inl (p.1 : Int), f p.2)) :: (dkN f r).map (fun kv => if kv.1 = Sum.inl (k : Int) then (kv.1, f v) else kv) = _
      rw [if_neg (fun z => h.1 (key_eq.mp z).symm), map_other r h.2]
      rfl
  put_old : ∀ (l : List (Nat × β)), (look l k).isSome = true → (l.map (·.1)).Nodup → (dkN f l).map (fun kv => if kv.1 = Sum.inl (k : Int) then (kv.1, f v) else kv) = dkN f (put l k v)
    | [], h, _ => by cases h
    | p :: r, h, hn => by
      rw [List.map_cons] at hn
      obtain ⟨h1, h2⟩ := List.nodup_cons.mp hn
      show (if (Sum.inl (p.1 : Int) : Key) = Sum.inl (k : Int) then (Sum.inl (p.1 : Int), f v) else (Sum.inl (p.1 : Int), f p.2)) :: (dkN f r).map (fun kv => if kv.1 = Sum.inl (k : Int) then (kv.1, f v) else kv) = dkN f (if p.1 = k then (p.1, v) :: r else p :: put r k v)
      by_cases e : p.1 = k
      · rw [if_pos (key_eq.mpr e), if_pos e, map_other r (by rw [← e]; exact h1)]
        rfl
      · rw [if_neg (fun z => e (key_eq.mp z)), if_neg e]
        unfold look at h
        rw [if_neg e] at h
        rw [put_old r h h2]
        rfl
theorem dk_len {β : Type} (f : β → V) (l : List (Nat × β)) : (dkN f l).length = l.length := by unfold dkN; rw [List.length_map]
theorem put_keys {β : Type} (k : Nat) (v : β) : ∀ (l : List (Nat × β)), (l.map (·.1)).Nodup → ((put l k v).map (·.1)).Nodup ∧ ∀ x, x ∈ (put l k v).map (·.1) → x = k ∨ x ∈ l.map (·.1)
  | [], _ => ⟨by simp [put], fun x h => .inl (by simpa [put] using h)⟩
  | p :: r, hn => by
    rw [List.map_cons] at hn
    obtain ⟨h1, h2⟩ := List.nodup_cons.mp hn
    unfold put
    by_cases e : p.1 = k
    · rw [if_pos e]
      exact ⟨hn, fun x h => .inr h⟩
    · rw [if_neg e]
      obtain ⟨i1, i2⟩ := put_keys k v r h2
      refine ⟨?_, fun x h => ?_⟩
      · rw [List.map_cons]
        refine List.nodup_cons.mpr ⟨fun z => ?_, i1⟩
        rcases i2 _ z with q | q
        · exact e q
        · exact h1 q
      · rw [List.map_cons, List.mem_cons] at h
        rcases h with q | q
        · rw [q, List.map_cons]
          exact .inr List.mem_cons_self
        · rcases i2 _ q with q | q
          · exact .inl q
          · rw [List.map_cons]
            exact .inr (List.mem_cons_of_mem _ q)
theorem dget_n {β : Type} {H : Hp} {a : Addr} {f : β → V} {l : List (Nat × β)} {k : Nat} (h : H a = some (.dK (dkN f l))) : DGet H a (nV k) ((look l k).map f) := by
  have := DGet.k (k := Sum.inl (k : Int)) h
  rw [val_dk] at this
  exact this
theorem dput_n {β : Type} {H : Hp} {a : Addr} {f : β → V} {l : List (Nat × β)} {k : Nat} {v : β} (h : H a = some (.dK (dkN f l))) (hl : l.length < sizeLine) (hn : (l.map (·.1)).Nodup) : DPut H a (nV k) (f v) (upd H a (.dK (dkN f (put l k v)))) := by
  have := DPut.k (k := Sum.inl (k : Int)) (v := f v) h (by rw [dk_len]; exact hl)
  rw [put_dk f k v l hn] at this
  exact this
/-! ### lists of lists of numbers, all new -/
/-- at a (new since H0) a list of lists, each new since H0, no two the same -/
structure LL (H0 H : Hp) (a : Addr) (bs : List (List Nat)) : Prop where
  new : H0 a = none
  ex : ∃ as : List Addr, H a = some (.lst (as.map V.ref)) ∧ as.Nodup ∧ (∀ x ∈ as, H0 x = none ∧ x ≠ a) ∧ Paired (fun x l => H x = some (.lst (l.map nV))) as bs
theorem LL.other {H0 H : Hp} {a p : Addr} {o : HO} {bs : List (List Nat)} (h : LL H0 H a bs) (hp : H p = none) : LL H0 (upd H p o) a bs := by
  obtain ⟨n, as, h1, h2, h3, h4⟩ := h
  refine ⟨n, as, by rw [upd_ne (ne_of_none h1 hp)]; exact h1, h2, h3, P_mono (fun x l e => ?_) h4⟩
  rw [upd_ne (ne_of_none e hp)]
  exact e
/-- what is not of it may change -/
theorem LL.apart {H0 H H' : Hp} {a : Addr} {bs : List (List Nat)} (h : LL H0 H a bs) (s : Same H H') : LL H0 H' a bs := by
  obtain ⟨n, as, h1, h2, h3, h4⟩ := h
  exact ⟨n, as, s _ _ h1, h2, h3, P_mono (fun x l e => s _ _ e) h4⟩
theorem LL.at {H0 H : Hp} {a : Addr} {bs : List (List Nat)} (h : LL H0 H a bs) {i : Nat} {l : List Nat} (hi : bs[i]? = some l) : ∃ (vs : List V) (x : Addr), H a = some (.lst vs) ∧ vs[i]? = some (V.ref x) ∧ H x = some (.lst (l.map nV)) ∧ H0 x = none ∧ x ≠ a := by
  obtain ⟨n, as, h1, h2, h3, h4⟩ := h
  obtain ⟨x, hx, hl⟩ := P_left h4 hi
  have hm : x ∈ as := List.mem_of_getElem? hx
  exact ⟨_, x, h1, getn hx, hl, (h3 x hm).1, (h3 x hm).2⟩
/-- the i-th list grows -/
theorem LL.grow {H0 H : Hp} {a : Addr} {bs : List (List Nat)} (h : LL H0 H a bs) {i : Nat} {l : List Nat} {vs : List V} {x : Addr} (hi : bs[i]? = some l) (hv : H a = some (.lst vs)) (hx : vs[i]? = some (V.ref x)) (m : List Nat) : LL H0 (upd H x (.lst (m.map nV))) a (bs.set i m) := by
  obtain ⟨n, as, h1, h2, h3, h4⟩ := h
  rw [h1] at hv
  cases hv
  obtain ⟨y, hy, e⟩ := getn_inv hx
  cases e
  have hm : x ∈ as := List.mem_of_getElem? hy
  refine ⟨n, as, ?_, h2, h3, ?_⟩
  · rw [upd_ne (Ne.symm (h3 x hm).2)]
    exact h1
  · have key : Paired (fun z l => (z = x → l = m) → (upd H x (.lst (m.map nV))) z = some (.lst (l.map nV))) as bs := P_mono (fun z l e q => by
      by_cases c : z = x
      · rw [c, upd_same, q c]
      · rw [upd_ne c]
        exact e) h4
    exact P_fix h2 key hy
where
  P_fix : ∀ {as : List Addr} {bs : List (List Nat)} {i : Nat}, as.Nodup → Paired (fun z l => (z = x → l = m) → (upd H x (.lst (m.map nV))) z = some (.lst (l.map nV))) as bs → as[i]? = some x →
      Paired (fun z l => (upd H x (.lst (m.map nV))) z = some (.lst (l.map nV))) as (bs.set i m)
    | _, _, _, _, .nil, h => by simp at h
    | _, _, 0, hn, .cons f r, h => by
      simp at h
      subst h
      obtain ⟨h1, h2⟩ := List.nodup_cons.mp hn
      refine .cons upd_same (P_monoM (fun z l hz e => e fun c => absurd (c ▸ hz) h1) r)
    | _, _, i + 1, hn, .cons f r, h => by
      obtain ⟨h1, h2⟩ := List.nodup_cons.mp hn
      have hx : _ := List.mem_of_getElem? (show _ from (by simpa using h : (_ : List Addr)[i]? = some x))
      refine .cons (f fun c => absurd (c ▸ hx) h1) (P_fix h2 r (by simpa using h))
/-! ### lists of pairs -/
/-- the refs of a list of pairs of numbers -/
def Prs (K : PySem.W.Frag) (H : Hp) (vs : List V) (ps : PL) : Prop := Paired (fun v q => ∃ t, v = V.ref t ∧ SqT K H t [nV q.1, nV q.2]) vs ps
theorem Prs.same {K : PySem.W.Frag} {H H' : Hp} {vs : List V} {ps : PL} (h : Prs K H vs ps) (s : Same H H') : Prs K H' vs ps := P_mono (fun _ _ ⟨t, e, q⟩ => ⟨t, e, s.seqT q⟩) h
end KH
namespace KH
open PySem PySem.Spec PyProof.Rows L2 K02
theorem Prs.len {K : PySem.W.Frag} {H : Hp} {vs : List V} {ps : PL} (h : Prs K H vs ps) : vs.length = ps.length := P_len h
theorem Prs.snoc {K : PySem.W.Frag} {H : Hp} {vs : List V} {ps : PL} {t : Addr} {a b : Nat} (h : Prs K H vs ps) (ht : SqT K H t [nV a, nV b]) : Prs K H (vs ++ [V.ref t]) (ps ++ [(a, b)]) := P_append h (.cons ⟨t, rfl, ht⟩ .nil)
theorem within_snoc {m : Nat} {ps : PL} {a b : Nat} (h : Within m ps) (ha : a < m) (hb : b < m) : Within m (ps ++ [(a, b)]) := fun p hp => by
  rcases List.mem_append.mp hp with q | q
  · exact h p q
  · rw [List.mem_singleton.mp q]
    exact ⟨ha, hb⟩
theorem within_app {m : Nat} {ps qs : PL} (h : Within m ps) (k : Within m qs) : Within m (ps ++ qs) := fun p hp => by
  rcases List.mem_append.mp hp with q | q
  · exact h p q
  · exact k p q
theorem within_nil {m : Nat} : Within m [] := fun _ h => by cases h
theorem sp2 : (2 : Nat) ≤ sizeLine := by decide
end KH
namespace KH
open PySem PySem.Spec PyProof.Rows L2 K02
/-- a tuple stands beside a list that changes -/
theorem sqT_mutL {K : PySem.W.Frag} {H : Hp} {t o : Addr} {xs us : List V} {x : HO} (h : SqT K H t xs) (e : H o = some (.lst us)) : SqT K (upd H o x) t xs := by
  rcases h with (h | ⟨ob, h⟩) | h
  · exact .inl (.inl (by rw [upd_ne (ne_of h e (by intro z; cases z))]; exact h))
  · exact .inl (.inr ⟨ob, by rw [upd_ne (ne_of h e (by intro z; cases z))]; exact h⟩)
  · exact .inr h
theorem Prs.mutL {K : PySem.W.Frag} {H : Hp} {o : Addr} {vs us : List V} {ps : PL} {x : HO} (h : Prs K H vs ps) (e : H o = some (.lst us)) : Prs K (upd H o x) vs ps := P_mono (fun _ _ ⟨t, et, q⟩ => ⟨t, et, sqT_mutL q e⟩) h
theorem sqT_new {K : PySem.W.Frag} {H : Hp} {t p : Addr} {xs : List V} {x : HO} (h : SqT K H t xs) (e : H p = none) : SqT K (upd H p x) t xs := ((Same.refl H).new e).seqT h
theorem Prs.new {K : PySem.W.Frag} {H : Hp} {p : Addr} {vs : List V} {ps : PL} {x : HO} (h : Prs K H vs ps) (e : H p = none) : Prs K (upd H p x) vs ps := h.same ((Same.refl H).new e)
end KH
namespace KH
open PySem PySem.Spec PyProof.Rows L2 K02
theorem LL.snoc {H0 H : Hp} {a p : Addr} {bs : List (List Nat)} {vs : List V} (h : LL H0 H a bs) (s : Same H0 H) (hp : H p = none) (hv : H a = some (.lst vs)) (l : List Nat) :
    LL H0 (upd (upd H p (.lst (l.map nV))) a (.lst (vs ++ [V.ref p]))) a (bs ++ [l]) := by
  obtain ⟨n, as, h1, h2, h3, h4⟩ := h
  rw [h1] at hv
  cases hv
  have hpa : p ≠ a := fun z => by rw [z, h1] at hp; cases hp
  have hpas : p ∉ as := fun z => by
    obtain ⟨i, hi⟩ := List.getElem?_of_mem z
    obtain ⟨l', _, e⟩ := P_right h4 hi
    rw [hp] at e
    cases e
  refine ⟨n, as ++ [p], ?_, ?_, ?_, ?_⟩
  · rw [upd_same, List.map_append]
    rfl
  · refine List.nodup_append.mpr ⟨h2, by simp, fun x hx y hy => ?_⟩
    rw [List.mem_singleton.mp hy]
    exact fun z => hpas (z ▸ hx)
  · intro x hx
    rcases List.mem_append.mp hx with q | q
    · exact h3 x q
    · rw [List.mem_singleton.mp q]
      exact ⟨s.free hp, hpa⟩
  · refine P_append (P_monoM (fun x l' hx e => ?_) h4) (.cons ?_ .nil)
    · rw [upd_ne (h3 x hx).2, upd_ne (ne_of_none e hp)]
      exact e
    · rw [upd_ne hpa, upd_same]
theorem LL.lst {H0 H : Hp} {a : Addr} {bs : List (List Nat)} (h : LL H0 H a bs) : ∃ vs, H a = some (.lst vs) ∧ vs.length = bs.length := by
  obtain ⟨n, as, h1, h2, h3, h4⟩ := h
  exact ⟨_, h1, by rw [List.length_map]; exact P_len h4⟩
theorem LL.nil {H : Hp} {a : Addr} (h : H a = none) : LL H (upd H a (.lst [])) a [] := ⟨h, [], upd_same, List.nodup_nil, fun x hx => (by cases hx), .nil⟩
/-- another new object that is none of its own changes -/
theorem LL.beside {H0 H : Hp} {a p : Addr} {o u : HO} {bs : List (List Nat)} (h : LL H0 H a bs) (hp : H p = some u) (hu : ∀ xs, u ≠ .lst xs) : LL H0 (upd H p o) a bs := by
  obtain ⟨n, as, h1, h2, h3, h4⟩ := h
  refine ⟨n, as, by rw [upd_ne (ne_of h1 hp (fun z => hu _ z.symm))]; exact h1, h2, h3, P_mono (fun x l e => ?_) h4⟩
  rw [upd_ne (ne_of e hp (fun z => hu _ z.symm))]
  exact e
/-! ### what the pairs give place by place -/
theorem bef_app (qs : PL) (a b v : Nat) : bef (qs ++ [(a, b)]) v = bef qs v ++ (if b = v then [a] else []) := by
  unfold bef
  rw [List.filter_append, List.map_append]
  by_cases h : b = v
  · rw [if_pos h]
    congr 1
    simp [h]
  · rw [if_neg h]
    congr 1
    simp [h]
theorem aft_app (qs : PL) (a b v : Nat) : aft (qs ++ [(a, b)]) v = aft qs v ++ (if a = v then [b] else []) := by
  unfold aft
  rw [List.filter_append, List.map_append]
  by_cases h : a = v
  · rw [if_pos h]
    congr 1
    simp [h]
  · rw [if_neg h]
    congr 1
    simp [h]
def befs (m : Nat) (ps : PL) : List (List Nat) := (List.range m).map (bef ps)
def afts (m : Nat) (ps : PL) : List (List Nat) := (List.range m).map (aft ps)
theorem befs_at {m v : Nat} (ps : PL) (h : v < m) : (befs m ps)[v]? = some (bef ps v) := by
  unfold befs
  rw [List.getElem?_map, List.getElem?_range h]
  rfl
theorem afts_at {m v : Nat} (ps : PL) (h : v < m) : (afts m ps)[v]? = some (aft ps v) := by
  unfold afts
  rw [List.getElem?_map, List.getElem?_range h]
  rfl
theorem set_map_range {m b : Nat} (f g : Nat → List Nat) (x : List Nat) (hx : g b = x) (hn : ∀ v, v < m → v ≠ b → g v = f v) : ((List.range m).map f).set b x = (List.range m).map g := by
  apply List.ext_getElem?
  intro j
  rw [List.getElem?_set, List.getElem?_map, List.getElem?_map, List.length_map, List.length_range]
  by_cases hj : j < m
  · rw [List.getElem?_range hj]
    by_cases e : b = j
    · subst e
      rw [if_pos rfl, if_pos hj]
      show some x = some (g b)
      rw [hx]
    · rw [if_neg e]
      show some (f j) = some (g j)
      rw [hn j hj (fun z => e z.symm)]
  · rw [List.getElem?_eq_none (by rw [List.length_range]; omega)]
    by_cases e : b = j
    · subst e
      rw [if_pos rfl, if_neg hj]
      rfl
    · rw [if_neg e]
      rfl
theorem befs_step {m a b i : Nat} {ps : PL} (h : ps[i]? = some (a, b)) : (befs m (ps.take i)).set b (bef (ps.take i) b ++ [a]) = befs m (ps.take (i + 1)) := by
  unfold befs
  refine set_map_range _ _ _ ?_ fun v hv hne => ?_
  · rw [take_more h, bef_app, if_pos rfl]
  · rw [take_more h, bef_app, if_neg (fun z => hne z.symm), List.append_nil]
theorem afts_step {m a b i : Nat} {ps : PL} (h : ps[i]? = some (a, b)) : (afts m (ps.take i)).set a (aft (ps.take i) a ++ [b]) = afts m (ps.take (i + 1)) := by
  unfold afts
  refine set_map_range _ _ _ ?_ fun v hv hne => ?_
  · rw [take_more h, aft_app, if_pos rfl]
  · rw [take_more h, aft_app, if_neg (fun z => hne z.symm), List.append_nil]
theorem befs_nil (m : Nat) : befs m [] = List.replicate m [] := by
  unfold befs
  apply List.ext_getElem?
  intro j
  rw [List.getElem?_map, List.getElem?_replicate]
  by_cases hj : j < m
  · rw [List.getElem?_range hj, if_pos hj]
    rfl
  · rw [List.getElem?_eq_none (by rw [List.length_range]; omega), if_neg hj]
    rfl
theorem afts_nil (m : Nat) : afts m [] = List.replicate m [] := by
  unfold afts
  apply List.ext_getElem?
  intro j
  rw [List.getElem?_map, List.getElem?_replicate]
  by_cases hj : j < m
  · rw [List.getElem?_range hj, if_pos hj]
    rfl
  · rw [List.getElem?_eq_none (by rw [List.length_range]; omega), if_neg hj]
    rfl
theorem bef_len (ps : PL) (v : Nat) : (bef ps v).length ≤ ps.length := by
  unfold bef
  rw [List.length_map]
  exact List.length_filter_le _ _
theorem aft_len (ps : PL) (v : Nat) : (aft ps v).length ≤ ps.length := by
  unfold aft
  rw [List.length_map]
  exact List.length_filter_le _ _
/-! ### the taken ones: a dict that holds True -/
def tk (t : List Nat) : List (Nat × Bool) := t.map fun x => (x, true)
theorem tk_keys (t : List Nat) : (tk t).map (·.1) = t := by
  unfold tk
  rw [List.map_map]
  exact List.map_id' t
theorem tk_len (t : List Nat) : (tk t).length = t.length := by unfold tk; rw [List.length_map]
theorem tk_look : ∀ (t : List Nat) (k : Nat), look (tk t) k = if t.contains k then some true else none
  | [], k => rfl
  | x :: r, k => by
    show (if x = k then some true else look (tk r) k) = _
    rw [tk_look r k, List.contains_cons]
    by_cases e : x = k
    · subst e
      simp
    · have : (k == x) = false := by simpa using fun z : k = x => e z.symm
      rw [if_neg e, this, Bool.false_or]
theorem tk_some (t : List Nat) (k : Nat) : ((look (tk t) k).map V.bl).isSome = t.contains k := by
  rw [tk_look]
  cases t.contains k <;> rfl
theorem tk_put {t : List Nat} {k : Nat} (h : k ∉ t) : put (tk t) k true = tk (t ++ [k]) := by
  rw [put_dk.put_new k true (tk t) (by rw [look_none_iff, tk_keys]; exact h)]
  unfold tk
  rw [List.map_append]
  rfl
/-- what a def hands back: None, or a new list -/
def OutL (H H' : Hp) (v : V) (r : Option (List Nat)) : Prop := match r with
  | none => v = .non
  | some l => ∃ p, v = .ref p ∧ H p = none ∧ H' p = some (.lst (l.map nV))
end KH
namespace KH
open PySem PySem.Spec PyProof.Rows L2 K02
/-! ### lists of lists that are read -/
def LR (H : Hp) (a : Addr) (bs : List (List Nat)) : Prop := ∃ as : List Addr, H a = some (.lst (as.map V.ref)) ∧ Paired (fun x l => H x = some (.lst (l.map nV))) as bs
theorem LR.same {H H' : Hp} {a : Addr} {bs : List (List Nat)} (h : LR H a bs) (s : Same H H') : LR H' a bs := by
  obtain ⟨as, h1, h2⟩ := h
  exact ⟨as, s _ _ h1, P_mono (fun _ _ e => s _ _ e) h2⟩
theorem LR.at {H : Hp} {a : Addr} {bs : List (List Nat)} (h : LR H a bs) {i : Nat} {l : List Nat} (hi : bs[i]? = some l) : ∃ (vs : List V) (x : Addr), H a = some (.lst vs) ∧ vs[i]? = some (V.ref x) ∧ H x = some (.lst (l.map nV)) := by
  obtain ⟨as, h1, h2⟩ := h
  obtain ⟨x, hx, hl⟩ := P_left h2 hi
  exact ⟨_, x, h1, getn hx, hl⟩
theorem LL.lr {H0 H : Hp} {a : Addr} {bs : List (List Nat)} (h : LL H0 H a bs) : LR H a bs := by
  obtain ⟨_, as, h1, _, _, h4⟩ := h
  exact ⟨as, h1, h4⟩
theorem OutL.same {H H1 H2 : Hp} {v : V} {r : Option (List Nat)} (h : OutL H H1 v r) (s : Same H1 H2) : OutL H H2 v r := by
  cases r with
  | none => exact h
  | some l =>
    obtain ⟨p, e, h0, hp⟩ := h
    exact ⟨p, e, h0, s _ _ hp⟩
/-- one of two, both new lists of lists: an own list of one changes -/
structure LX (H : Hp) (a : Addr) (as : List Addr) (bs : List (List Nat)) : Prop where
  top : H a = some (.lst (as.map V.ref))
  nd : as.Nodup
  na : a ∉ as
  ins : Paired (fun x l => H x = some (.lst (l.map nV))) as bs
theorem LL.lx {H0 H : Hp} {a : Addr} {bs : List (List Nat)} (h : LL H0 H a bs) : ∃ as, LX H a as bs ∧ (∀ x ∈ as, H0 x = none) := by
  obtain ⟨_, as, h1, h2, h3, h4⟩ := h
  exact ⟨as, ⟨h1, h2, fun z => (h3 a z).2 rfl, h4⟩, fun x hx => (h3 x hx).1⟩
theorem LX.same {H H' : Hp} {a : Addr} {as : List Addr} {bs : List (List Nat)} (h : LX H a as bs) (s : Same H H') : LX H' a as bs := ⟨s _ _ h.top, h.nd, h.na, P_mono (fun _ _ e => s _ _ e) h.ins⟩
theorem LX.frame {H : Hp} {a p : Addr} {o : HO} {as : List Addr} {bs : List (List Nat)} (h : LX H a as bs) (h1 : p ≠ a) (h2 : p ∉ as) : LX (upd H p o) a as bs :=
  ⟨by rw [upd_ne (Ne.symm h1)]; exact h.top, h.nd, h.na, P_monoM (fun x l hx e => by rw [upd_ne (show x ≠ p from fun z => h2 (z ▸ hx))]; exact e) h.ins⟩
theorem LX.lr {H : Hp} {a : Addr} {as : List Addr} {bs : List (List Nat)} (h : LX H a as bs) : LR H a bs := ⟨as, h.top, h.ins⟩
theorem LX.at {H : Hp} {a : Addr} {as : List Addr} {bs : List (List Nat)} (h : LX H a as bs) {i : Nat} {l : List Nat} (hi : bs[i]? = some l) : ∃ x : Addr, as[i]? = some x ∧ x ∈ as ∧ (as.map V.ref)[i]? = some (V.ref x) ∧ H x = some (.lst (l.map nV)) := by
  obtain ⟨x, hx, hl⟩ := P_left h.ins hi
  exact ⟨x, hx, List.mem_of_getElem? hx, getn hx, hl⟩
theorem P_fixA {H : Hp} {x : Addr} {m : List Nat} : ∀ {as : List Addr} {bs : List (List Nat)} {i : Nat}, as.Nodup → Paired (fun z l => (z = x → l = m) → (upd H x (.lst (m.map nV))) z = some (.lst (l.map nV))) as bs → as[i]? = some x →
      Paired (fun z l => (upd H x (.lst (m.map nV))) z = some (.lst (l.map nV))) as (bs.set i m)
    | _, _, _, _, .nil, h => by simp at h
    | _, _, 0, hn, .cons f r, h => by
      simp at h
      subst h
      obtain ⟨h1, h2⟩ := List.nodup_cons.mp hn
      refine .cons upd_same (P_monoM (fun z l hz e => e fun c => absurd (c ▸ hz) h1) r)
    | _, _, i + 1, hn, .cons f r, h => by
      obtain ⟨h1, h2⟩ := List.nodup_cons.mp hn
      have hx : _ := List.mem_of_getElem? (show _ from (by simpa using h : (_ : List Addr)[i]? = some x))
      refine .cons (f fun c => absurd (c ▸ hx) h1) (P_fixA h2 r (by simpa using h))
theorem LX.grow {H : Hp} {a x : Addr} {as : List Addr} {bs : List (List Nat)} (h : LX H a as bs) {i : Nat} (hx : as[i]? = some x) (m : List Nat) : LX (upd H x (.lst (m.map nV))) a as (bs.set i m) := by
  have hm : x ∈ as := List.mem_of_getElem? hx
  refine ⟨by rw [upd_ne (show a ≠ x from fun z => h.na (z ▸ hm))]; exact h.top, h.nd, h.na, ?_⟩
  have key : Paired (fun z l => (z = x → l = m) → (upd H x (.lst (m.map nV))) z = some (.lst (l.map nV))) as bs := P_mono (fun z l e q => by
    by_cases c : z = x
    · rw [c, upd_same, q c]
    · rw [upd_ne c]
      exact e) h.ins
  exact P_fixA h.nd key hx
end KH

/-! an own exception whose __init__ says super().__init__('text') and keeps its arguments as fields -/
namespace PySem
namespace OwX
open PySem.W PySem.Calls PyProof.Rows PySem.HandSPX
/-- the rows self.f = f -/
inductive Stores : List Stmt → List Str → Prop
  | nil : Stores [] []
  | cons {f : Str} {q1 q2 q3 q4 : Pos} {rest : List Stmt} {fs : List Str} : Stores rest fs → Stores (.Assign [.Attribute (.Name "self" q1) f q2] (.Name f q3) q4 :: rest) (f :: fs)
inductive Body : List Stmt → List Str → Prop
  | mk {text : Str} {k : Nat} {p1 p2 p3 p4 p5 p6 : Pos} {rest : List Stmt} {fs : List Str} : (p3.endLine == p5.line) = true → Stores rest fs →
      Body (.Expr (.Call (.Attribute (.Call (.Name "super" p1) [] [] p2) "__init__" p3) [.Constant (.str text) k p4] [] p5) p6 :: rest) fs
/-- what the written part says of the class at C and of its __init__, at fI -/
structure OwnTxt (P : Program) (K : Frag) (C fI : Addr) (fs : List Str) : Prop where
  cls : ∃ nm q N bs bm sn sub ab col dd k0 k1 k2 k3 k5, K.lookup C = some (excClassObj nm q C N bs bm true sn sub ab col dd k0 k1 k2 k3 k5 "ValueError.__new__") ∧ refsVE bm = true
  sa : findIn K (.ref C) "__setattr__" = some (some (.builtin "object.__setattr__"))
  ga : findIn K (.ref C) "__getattribute__" = some (some (.builtin "BaseException.__getattribute__"))
  gg : findIn K (.ref C) "__getattr__" = some none
  noN : ∀ f ∈ fs, findIn K (.ref C) f = some none
  iC : findIn K (.ref C) "__init__" = some (some (.ref fI))
  tC : typeIn K (.ref fI) = some (.type "function")
  kC : keepIn K (.ref C) = true
  exC : subIn K (.ref C) (.type "BaseException") = some true
  tyC : typeIn K (.ref C) = some (.type "type")
  hdC : hasDictIn K C = true
  veC : subIn K (.ref C) (.type "ValueError") = some true
  spC : mroIn K C (.ref C) = some true
  suC : ks_superIn K C C "__init__" = some (some (.builtin "ValueError.__init__"))
  noO : nsIn K cStatics "thirdparty.any" = some none
  noS : nsIn K mainGlobals "super" = some none
  top : (P.main.scope.names.lookup ("super" : Str)).isSome = false
  few : fs.length ≤ 900
  fn : ∃ (oc : Value) (od : Option Addr) (name qual : Str) (params : Arguments) (body : List Stmt) (scope : Scope) (dV kV doc pm : Value) (an : Option Addr) (cda cc : Addr) (ct : Value) (osl : Array (Option Value))
      (ar : Arg) (ccl : Value) (cdd : Option Addr) (vs : Array Value) (ccs : Array (Option Value)) (file : Str) (tf : Tok) (cl : Value) (cld : Option Addr) (csl : Array (Option Value)),
    K.lookup fI = some ⟨oc, od, .func (ksFn name qual params body scope dV kV doc pm an (.ref cda) ct cc), osl⟩ ∧ codeIn K (.ref cda) qual = true ∧ Body body fs ∧
    (params.posonlyargs ++ params.args).head? = some ar ∧ ar.arg = "self" ∧
    K.lookup cda = some ⟨ccl, cdd, .fields vs, ccs⟩ ∧ vs[2]? = some (.str file tf) ∧ ((P.main.file : Str) == file) = true ∧ K.lookup cc = some ⟨cl, cld, .cell (some (.ref C)), csl⟩ ∧
    scope.names.lookup ("super" : Str) = some .globalImplicit ∧ scope.names.lookup ("__class__" : Str) = some .free ∧ (∀ y ∈ ("self" : Str) :: fs, scope.names.lookup y = some .local) ∧
    (∀ x ∈ scope.names, x.2 ≠ .cell) ∧ scope.kind = .function ∧ scope.isCoroutine = false ∧ scope.isGenerator = false ∧
    ∀ (s : Shared) (us : List Value), us.length = fs.length + 1 → BindsTo s (ksFn name qual params body scope dV kV doc pm an (.ref cda) ct cc) ⟨us, []⟩ ((("self" : Str) :: fs).zip us)
abbrev excD (C : Addr) (dx : Option Addr) (t1 : Addr) : Obj := { cls := .ref C, dict := dx, data := .fields #[.ref t1, .none, .none, .none, .bool false, .none] }
/-- the fields, the last first -/
def fld (l : List (Str × Value)) : Str → Option Value := fun y => l.lookup y
theorem fld_cons {n : Str} {v : Value} {l : List (Str × Value)} : fld ((n, v) :: l) = fun y => if y = n then some v else fld l y := by
  funext y
  unfold fld
  by_cases e : y = n
  · subst e
    simp [List.lookup]
  · have e' : (y == n) = false := by simpa using e
    rw [if_neg e]
    simp [List.lookup, e']
theorem fld_nil : fld [] = fun _ => none := rfl
theorem fld_within (l : List (Str × Value)) : Within (fld l) (l.map (·.1)) := by
  induction l with
  | nil => exact Within.nil
  | cons a l ih =>
    obtain ⟨n, v⟩ := a
    rw [fld_cons]
    exact Within.cons n v ih
/-- what __init__ leaves of a fresh exception at x -/
structure InitEnd (h h' : Heap) (x C dx t1 : Addr) (l : List (Str × Value)) : Prop where
  keep : ∀ b o, b ≠ x → h.get? b = some o → h'.get? b = some o
  obj : h'.get? x = some (excD C (some dx) t1)
  dbig : h.objs.size ≤ dx
  dne : dx ≠ x
  ns : h'.Ns1 dx (fld l)
section
variable {prog : Program} {w : World} {A : Around} {E : Value → Shared → Prop} {R : Result → Shared → Prop} {s : Shared} {K : Frag} {mg mb : Str → Option Value} {C fI : Addr} {fs : List Str}
/-- ValueError.__init__ bound to the instance, called -/
theorem call_mw {h : Heap} {g : Array GenState} {d : Drawn} {t : Nat} {os : OsState} {nm q : Str} {N : Addr} {bs bm : List Value} {hdct : Bool} {sn : List Str} {sub : List Value} {ab : Bool} {col : Option Bool} {dd : Option Addr} {k0 k1 k2 k3 k5 : Option Value}
    {u e t0 : Addr} {rest : List Value} {Q : Value → Shared → Prop}
    (hC : h.get? C = some (excClassObj nm q C N bs bm hdct sn sub ab col dd k0 k1 k2 k3 k5 "ValueError.__new__")) (he : h.get? e = some (excD C none t0)) (hu : h.get? u = some (kxs_mw "ValueError.__init__" e)) (hrest : rest.length ≤ sizeLine)
    (hq : ∀ h' t1, (∀ b o, b ≠ e → h.get? b = some o → h'.get? b = some o) → h'.get? e = some (excD C none t1) → Q .none ⟨h', g, d, t, os⟩) :
    wpAny (model prog w) A (call (.ref u) rest) Q E ⟨h, g, d, t, os⟩ := by
  refine wpAny_call (codeAny_of_tree ?_)
  show wpAny _ A.in1 (callAny (.ref u) ⟨rest, []⟩) _ _ _
  simp only [callAny]
  refine wpAny_bind (wpAny_load hu ?_)
  simp only [kxs_mw, show (Value.type "method-wrapper" == Value.type "method" || Value.type "method-wrapper" == Value.type "builtin_function_or_method" || Value.type "method-wrapper" == Value.type "method-wrapper") = true by decide, if_true]
  refine KFB.if_so (by decide) ?_
  refine wpAny_bind (check_bound_init F.excBase_ValueError.toExcCallFacts hC he rfl ?_)
  refine wpAny_bind (wpAny_pure (wpAny_pure ?_))
  refine ⟨plainId_quiet F.excBase_ValueError.init.plain _, codeAny_builtin F.excBase_ValueError.initEntry ?_⟩
  exact exc_init_tree (cls := .ref C) (t0 := t0) (dv := none) (c2 := .none) (c3 := .none) (b4 := .bool false) he hrest fun h' k e' _ => hq h' _ k e'
theorem in_but {h h' : Heap} {x : Addr} (X : K.In h) (hx : K.lookup x = none) (k : ∀ b o, b ≠ x → h.get? b = some o → h'.get? b = some o) : K.In h' := fun a o e =>
  k a o (fun z => by rw [z, hx] at e; cases e) (X a o e)
theorem out_of {h : Heap} {a : Addr} (X : K.In h) (ha : h.objs.size ≤ a) : K.lookup a = none := by
  cases e : K.lookup a with
  | none => rfl
  | some o => exact absurd (Heap.lt_size (X _ _ e)) (Nat.not_lt.mpr ha)
theorem ns_but {h h' : Heap} {x L : Addr} {m : Str → Option Value} (n : h.Ns L m) (hx : L ≠ x) (k : ∀ b o, b ≠ x → h.get? b = some o → h'.get? b = some o) : h'.Ns L m := by
  obtain ⟨oL, es, ep, hL, r⟩ := n
  exact ⟨oL, es, ep, k _ _ hx hL, r⟩
theorem ldF {M : Model} {env : Env} {m : Str → Option Value} {x : Str} {pos : Pos} {v : Value} {Q : Value → Shared → Prop} (hk : env.scope.kind = .function) (hl : env.scope.names.lookup x = some .local) (hn : s.heap.Ns env.locals m) (hv : m x = some v) (h : Q v s)
    (hd : (x == ("__debug__" : Str)) = false) : wpAny M A (eval (.Name x pos) env) Q E s := wpAny_Name (wpAny_loadName_local hk hl hn hv h) hd
/-- the further stores -/
theorem stores_old {P : Program} (T : OwnTxt P K C fI fs) {env : Env} {m : Str → Option Value} {x dx t1 : Addr} {Q : Flow → Shared → Prop} (hk : env.scope.kind = .function) (hself : env.scope.names.lookup ("self" : Str) = some .local) (hms : m "self" = some (.ref x)) (hx : K.lookup x = none) (hdx : K.lookup dx = none) (hL : env.locals ≠ dx) (hxd : x ≠ dx) {body : List Stmt} {gs : List Str} (S : Stores body gs) :
    ∀ {s : Shared} {l : List (Str × Value)} {vs : List Value}, K.In s.heap → s.heap.Ns env.locals m → s.heap.get? x = some (excD C (some dx) t1) → s.heap.Ns1 dx (fld l) → l.length + gs.length ≤ 900 →
      gs.length = vs.length → (∀ p ∈ gs.zip vs, m p.1 = some p.2) → (∀ f ∈ gs, env.scope.names.lookup f = some .local ∧ findIn K (.ref C) f = some none ∧ (f == ("__debug__" : Str)) = false) →
      (∀ h' tk, (∀ b o, b ≠ dx → s.heap.get? b = some o → h'.get? b = some o) → h'.Ns1 dx (fld ((gs.zip vs).reverse ++ l)) → Q .next { s with heap := h', toks := tk }) →
      wpAny (model prog w) A (execs body env) Q E s := by
  induction S with
  | nil =>
    intro s l vs X hn ho hd hl hlen hm hf hq
    obtain ⟨hp, g, d, t, os⟩ := s
    exact wpAny_execs_nil (hq hp t (fun _ _ _ e => e) hd)
  | @cons f q1 q2 q3 q4 rest fs' S ih =>
    intro s l vs X hn ho hd hl hlen hm hf hq
    cases vs with
    | nil => simp at hlen
    | cons v vs =>
      obtain ⟨nm, q, N, bs, bm, sn, sub, ab, col, dd, k0, k1, k2, k3, k5, hC, hbm⟩ := T.cls
      have hcl : clsIn K C = some { name := nm, bases := bs, mro := .ref C :: bm, ns := N, qualname := q, hasDict := true, slotNames := sn, subclasses := sub, abstract := ab, collection := col, hasDel := false } := by unfold clsIn; rw [hC] <;> rfl
      obtain ⟨f1, f2, f3⟩ := hf f List.mem_cons_self
      refine wpAny_execs_cons (plainObj_wpAny_Assign_Attribute ?_)
      refine ldF (v := v) hk f1 hn (hm (f, v) (by simp)) (ldF (v := .ref x) hk hself hn hms ?_ (by decide)) f3
      obtain ⟨hp, g, d, t, os⟩ := s
      obtain ⟨oD, esD, epD, hoD, hdD⟩ : ∃ oD, ∃ _ : True, ∃ _ : True, hp.get? dx = some oD ∧ True := by
        obtain ⟨o, es, ep, e, r⟩ := hd
        exact ⟨o, trivial, trivial, e, trivial⟩
      refine set_plain X (ox := excD C (some dx) t1) (od := some oD) ⟨ho, rfl, rfl, hoD⟩ T.sa ?_
      refine OEX.osa_old X ho hd (fld_within l) (by rw [List.length_map]; omega) hcl (show refsVE (.ref C :: bm) = true from hbm) rfl f2 (fun h' tk' k hn' => ?_)
      rw [← fld_cons] at hn'
      refine ih (s := ⟨h', g, d, tk', os⟩) (l := (f, v) :: l) (vs := vs) (in_but X hdx k) (ns_but hn hL k) (k _ _ hxd ho) hn' (by simp at hl ⊢; omega) (by simpa using hlen) (fun p hp => hm p (by simp [hp])) (fun y hy => hf y (List.mem_cons_of_mem _ hy)) ?_
      intro h2 tk2 k2 hn2
      refine hq h2 tk2 (fun b o hb e => k2 b o hb (k b o hb e)) ?_
      have e : ((f :: fs').zip (v :: vs)).reverse ++ l = (fs'.zip vs).reverse ++ (f, v) :: l := by simp
      rw [e]
      exact hn2
/-- all the stores -/
theorem stores_new {P : Program} (T : OwnTxt P K C fI fs) {env : Env} {m : Str → Option Value} {x t1 : Addr} {Q : Flow → Shared → Prop} (hk : env.scope.kind = .function) (hself : env.scope.names.lookup ("self" : Str) = some .local) (hms : m "self" = some (.ref x)) (hx : K.lookup x = none) (hLx : env.locals ≠ x) {body : List Stmt} {gs : List Str} (S : Stores body gs)
    {s : Shared} {vs : List Value} (X : K.In s.heap) (hn : s.heap.Ns env.locals m) (ho : s.heap.get? x = some (excD C none t1)) (hl : gs.length ≤ 900) (h0 : gs ≠ [])
      (hlen : gs.length = vs.length) (hm : ∀ p ∈ gs.zip vs, m p.1 = some p.2) (hf : ∀ f ∈ gs, env.scope.names.lookup f = some .local ∧ findIn K (.ref C) f = some none ∧ (f == ("__debug__" : Str)) = false)
      (hq : ∀ h' tk dx, InitEnd s.heap h' x C dx t1 ((gs.zip vs).reverse) → Q .next { s with heap := h', toks := tk }) :
      wpAny (model prog w) A (execs body env) Q E s := by
  cases S with
  | nil => exact absurd rfl h0
  | @cons f q1 q2 q3 q4 rest fs' S =>
    cases vs with
    | nil => simp at hlen
    | cons v vs =>
      obtain ⟨nm, q, N, bs, bm, sn, sub, ab, col, dd, k0, k1, k2, k3, k5, hC, hbm⟩ := T.cls
      have hcl : clsIn K C = some { name := nm, bases := bs, mro := .ref C :: bm, ns := N, qualname := q, hasDict := true, slotNames := sn, subclasses := sub, abstract := ab, collection := col, hasDel := false } := by unfold clsIn; rw [hC] <;> rfl
      obtain ⟨f1, f2, f3⟩ := hf f List.mem_cons_self
      refine wpAny_execs_cons (plainObj_wpAny_Assign_Attribute ?_)
      refine ldF (v := v) hk f1 hn (hm (f, v) (by simp)) (ldF (v := .ref x) hk hself hn hms ?_ (by decide)) f3
      obtain ⟨hp, g, d, t, os⟩ := s
      refine set_plain X (ox := excD C none t1) (od := none) ⟨ho, rfl, rfl, trivial⟩ T.sa ?_
      refine exc_osa X ho hcl (show refsVE (.ref C :: bm) = true from hbm) rfl f2 (fun h₃ tk₃ dx k₃ dn dne hx₃ hn₃ => ?_)
      have hn' : h₃.Ns1 dx (fld [(f, v)]) := by
        rw [fld_cons, fld_nil]
        exact hn₃
      have hLd : env.locals ≠ dx := Nat.ne_of_lt (Nat.lt_of_lt_of_le hn.lt dn)
      refine stores_old T hk hself hms hx (out_of X dn) hLd (Ne.symm dne) S (s := ⟨h₃, g, d, tk₃, os⟩) (l := [(f, v)]) (vs := vs) (in_but X hx k₃) (ns_but hn hLx k₃) hx₃ hn' (by simp at hl ⊢; omega) (by simpa using hlen) (fun p hp => hm p (by simp [hp])) (fun y hy => hf y (List.mem_cons_of_mem _ hy)) ?_
      intro h2 tk2 k2 hn2
      refine hq h2 tk2 dx ⟨fun b o hb e => ?_, k2 _ _ (Ne.symm dne) hx₃, dn, dne, ?_⟩
      · exact k2 b o (fun z => absurd (Heap.lt_size e) (by rw [z]; exact Nat.not_lt.mpr dn)) (k₃ b o hb e)
      · have e : ((f :: fs').zip (v :: vs)).reverse = (fs'.zip vs).reverse ++ [(f, v)] := by simp
        rw [e]
        exact hn2
theorem zip_look {ks : List Str} {us : List Value} (hn : ks.Nodup) (hl : ks.length = us.length) : ∀ p ∈ ks.zip us, (ks.zip us).reverse.lookup p.1 = some p.2 := by
  have key : ∀ {l : List (Str × Value)}, (l.map (·.1)).Nodup → ∀ (k : Str) (v : Value), (k, v) ∈ l → l.lookup k = some v := by
    intro l
    induction l with
    | nil => intro _ k v hp; cases hp
    | cons a l ih =>
      intro hn k v hp
      rw [List.map_cons, List.nodup_cons] at hn
      obtain ⟨k', v'⟩ := a
      rcases List.mem_cons.mp hp with e | hp
      · cases e
        simp [List.lookup]
      · have ne : k ≠ k' := fun e => hn.1 (List.mem_map.mpr ⟨(k, v), hp, e⟩)
        have ne' : (k == k') = false := by simpa using ne
        simp only [List.lookup, ne']
        exact ih hn.2 k v hp
  intro p hp
  refine key ?_ p.1 p.2 (List.mem_reverse.mpr hp)
  rw [List.map_reverse]
  refine (List.reverse_perm _).nodup_iff.mpr ?_
  rw [List.map_fst_zip (by omega)]
  exact hn
theorem super_call {env : Env} {text : Str} {k : Nat} {p1 p2 p3 p4 p5 : Pos} (hp : (p3.endLine == p5.line) = true) :
    eval (.Call (.Attribute (.Call (.Name "super" p1) [] [] p2) "__init__" p3) [.Constant (.str text) k p4] [] p5) env = (do
      let ov ← attributeBase (.Call (.Name "super" p1) [] [] p2) "__init__" env (eval (.Call (.Name "super" p1) [] [] p2) env)
      standAt p3.atName
      let (f, first) ← holding [ov] (getMethod ov "__init__" (do return (← importBound (.Call (.Name "super" p1) [] [] p2) env).getD true))
      callWith p5 f first (backTo p5 (starEach [.Constant (.str text) k p4] env)) []) := by
  show (do
      let ov ← attributeBase (.Call (.Name "super" p1) [] [] p2) "__init__" env (eval (.Call (.Name "super" p1) [] [] p2) env)
      standAt p3.atName
      methodCall (.Call (.Name "super" p1) [] [] p2) "__init__" p3 p5 env ov 1 (backTo p5 (starEach [.Constant (.str text) k p4] env)) []) = _
  have few : methodCallForm 1 (backTo p5 (starEach [.Constant (.str text) k p4] env)) [] = true := rfl
  unfold methodCall methodCallPos calleeOf
  rw [few]
  simp only [hp, Bool.not_true, Bool.false_or, if_true, pure_bind]
/-- the whole __init__ -/
theorem own_init {P : Program} (T : OwnTxt P K C fI fs) (hp : prog = P) (hnd : (("self" : Str) :: fs).Nodup) (hdb : ∀ f ∈ fs, (f == ("__debug__" : Str)) = false) (h0 : fs ≠ []) {x t0 : Addr} {us : List Value} (hus : us.length = fs.length) (X : K.In s.heap) (hlim : s.heap.NoLimit) (hG : s.heap.Ns mainGlobals mg) (hgs : mg "super" = none)
    (hB : s.heap.Ns builtinsNs mb) (hbs : mb "super" = some (.type "super")) (hx : s.heap.get? x = some (excD C none t0)) (hnx : K.lookup x = none) (hroom : A.depth < recursionLimit)
    (hq : ∀ h' tk dx t1, InitEnd s.heap h' x C dx t1 ((fs.zip us).reverse) → R (.ok (.ret .none)) { s with heap := h', toks := tk }) :
    codeAny (model prog w) A (.call (.ref fI) ⟨.ref x :: us, []⟩) R s := by
  subst hp
  obtain ⟨oc, od, name, qual, params, body, scope, dV, kV, doc, pm, an, cda, cc, ct, osl, ar, ccl, cdd, vs, ccs, file, tf, cl, cld, csl, ho, hcd, hbody, har, hars, hcode, hvs, hfile, hcell, ksu, kcl, klo, hnc, hk, hco, hgen, hbind⟩ := T.fn
  obtain ⟨nm, q, N, bs, bm, sn, sub, ab, col, dd, k0, k1, k2, k3, k5, hC, hbm⟩ := T.cls
  have hcl : clsIn K C = some { name := nm, bases := bs, mro := .ref C :: bm, ns := N, qualname := q, hasDict := true, slotNames := sn, subclasses := sub, abstract := ab, collection := col, hasDel := false } := by unfold clsIn; rw [hC] <;> rfl
  have hzl : ∀ p ∈ (("self" : Str) :: fs).zip (Value.ref x :: us), ((("self" : Str) :: fs).zip (Value.ref x :: us)).reverse.lookup p.1 = some p.2 := zip_look hnd (by simp [hus])
  refine ks_codeAny_call_defAt (fd := ksFn name qual params body scope dV kV doc pm an (.ref cda) ct cc) (body := body) (binds := (("self" : Str) :: fs).zip (Value.ref x :: us)) hroom (X _ _ ho) rfl hlim (codeRec_of X hcd) rfl (hbind s _ (by simp [hus])) hnc
    (fun p hp => klo p.1 (List.of_mem_zip (a := p.1) (b := p.2) hp).1) (fun h₁ hn k => ?_) hco hgen hk
  obtain ⟨hp, g, d, t, os⟩ := s
  have hxL : hp.objs.size ≠ x := Nat.ne_of_gt (Heap.lt_size hx)
  have X₁ : K.In h₁ := X.keeps k
  have hx₁ := k _ _ hx
  cases hbody with
  | @mk text kk p1 p2 p3 p4 p5 p6 rest fs' hpos S =>
  have hE : callEnv (ksFn name qual params (.Expr (.Call (.Attribute (.Call (.Name "super" p1) [] [] p2) "__init__" p3) [.Constant (.str text) kk p4] [] p5) p6 :: rest) scope dV kV doc pm an (.ref cda) ct cc) hp.objs.size fI = ksEnv qual scope hp.objs.size fI (.ref cda) cc := rfl
  rw [hE]
  refine ks_wpAt_execs_cons (ks_wpAt_Expr_any (ks_wpAt_MethodCall ?_ (super_call hpos)) (by simp [interactive, ksEnv, envX, hk]))
  refine ks_wpAt_super_base (env := ksEnv qual scope hp.objs.size fI (.ref cda) cc) ksu kcl (by decide) rfl (X₁ _ _ ho) rfl har rfl (X₁ _ _ hcode) rfl hvs hfile T.top ?_
  refine ks_loadName_global hk ksu (loadGlobal_builtin (env := ksEnv qual scope hp.objs.size fI (.ref cda) cc) (hG.keeps k) hgs (hB.keeps k) hbs ⟨rfl, ?_⟩)
  refine wpAny_loadName_free hk kcl rfl ⟨_, X₁ _ _ hcell, rfl⟩ ?_
  rw [hars]
  refine wpAny_loadName_local hk (klo _ List.mem_cons_self) hn (v := .ref x) (hzl ("self", .ref x) (by simp)) ?_
  have hC₁ := X₁ _ _ hC
  have I₁ : InstAt h₁ x (excD C none t0) C none := ⟨hx₁, rfl, rfl, trivial⟩
  refine ks_wpAny_isType_cls hC₁ rfl ⟨rfl, ?_⟩
  refine ks_wpAny_call_super hC₁ rfl hx₁ rfl (fun c e => by cases e) (looks_mroIn X₁ T.spC) (fun h₂ e₂ k₂ => ?_)
  have X₂ : K.In h₂ := X₁.keeps k₂
  have hx₂ := k₂ _ _ hx₁
  have I₂ : InstAt h₂ x (excD C none t0) C none := ⟨hx₂, rfl, rfl, trivial⟩
  have hm : alongIn K "__init__" (((Value.ref C :: bm).dropWhile (· != .ref C)).drop 1) = some (some (.builtin "ValueError.__init__")) := by
    have := T.suC
    unfold ks_superIn at this
    rw [hcl] at this
    exact this
  refine kxs_getMethod (l₀ := .ref C :: bm) kxs_ValueError e₂ (looks_opaque X₂ T.noO) (fun A Q E s k q => wpAny_bind ((looks_clsIn X₂ hcl) A _ E s k (wpAny_pure q))) rfl X₂ hm (I₂.type.andThen (looks_subIn X₂ T.veC)) (ks_ne X₂ I₂ (by exact hcl)) (by decide) ?_
  have e₃ : (h₂.push (kxs_mw "ValueError.__init__" x)).get? h₂.objs.size = some (kxs_mw "ValueError.__init__" x) := Heap.get?_push_size _ rfl
  have k₃ : ∀ b o, h₂.get? b = some o → (h₂.push (kxs_mw "ValueError.__init__" x)).get? b = some o := fun b o e => Heap.get?_push_of_some _ e
  refine kxs_callWith (i := "ValueError.__init__") (x := x) rfl (evalArgs_plain (spliced_cons ?_))
  refine wpAny_Constant_str (k := kk) (pos := p4) (spliced_nil ⟨e₃, ?_⟩)
  refine call_mw (k₃ _ _ (X₂ _ _ hC)) (k₃ _ _ hx₂) e₃ (by rw [sizeLine_eq]; exact (by decide : 1 ≤ 16777216)) (fun h₄ t₁ k₄ hx₄ => ?_)
  have kk4 : ∀ b o, b ≠ x → h₁.get? b = some o → h₄.get? b = some o := fun b o hb e => k₄ b o hb (k₃ _ _ (k₂ _ _ e))
  show wpAt _ _ _ (execs rest (ksEnv qual scope hp.objs.size fI (.ref cda) cc)) _ _ _
  refine wpAt_of_wpAny ?_
  refine stores_new (s := ⟨h₄, _, _, _, _⟩) T (env := ksEnv qual scope hp.objs.size fI (.ref cda) cc) hk (klo _ List.mem_cons_self) (hzl ("self", .ref x) (by simp)) hnx hxL S (vs := us) (in_but X₁ hnx kk4) (ns_but hn hxL kk4) hx₄ T.few h0 hus.symm (fun p hp => hzl p (by simp [hp]))
    (fun f hf => ⟨klo f (List.mem_cons_of_mem _ hf), T.noN f hf, hdb f hf⟩) ?_
  intro h' tk dx E
  refine hq h' tk dx t₁ ⟨fun b o hb e => E.keep b o hb (kk4 b o hb (k b o e)), E.obj, ?_, E.dne, E.ns⟩
  have hL4 : hp.objs.size < h₄.objs.size := (ns_but hn hxL kk4).lt
  exact Nat.le_trans (Nat.le_of_lt hL4) E.dbig
/-- a made exception -/
structure OwnMade (h h' : Heap) (e C d : Addr) (l : List (Str × Value)) : Prop where
  keep : ∀ b o, h.get? b = some o → h'.get? b = some o
  new : h.objs.size ≤ e
  obj : ∃ oe vs, h'.get? e = some oe ∧ oe.cls = .ref C ∧ oe.dict = some d ∧ oe.data = .fields vs ∧ vs[1]? = some .none
  dbig : h.objs.size ≤ d
  dne : d ≠ e
  ns : h'.Ns1 d (fld l)
theorem own_made {P : Program} (T : OwnTxt P K C fI fs) (hp : prog = P) (hnd : (("self" : Str) :: fs).Nodup) (hdb : ∀ f ∈ fs, (f == ("__debug__" : Str)) = false) (h0 : fs ≠ []) {us : List Value} (hus : us.length = fs.length) (X : K.In s.heap) (hlim : s.heap.NoLimit) (hG : s.heap.Ns mainGlobals mg) (hgs : mg "super" = none)
    (hB : s.heap.Ns builtinsNs mb) (hbs : mb "super" = some (.type "super")) (hroom : A.depth + 1 < recursionLimit)
    (hq : ∀ h' tk e d, OwnMade s.heap h' e C d ((fs.zip us).reverse) → R (.ok (.ret (.ref e))) { s with heap := h', toks := tk }) :
    codeAny (model prog w) A (.call (.ref C) ⟨us, []⟩) R s := by
  obtain ⟨nm, q, N, bs, bm, sn, sub, ab, col, dd, k0, k1, k2, k3, k5, hC, hbm⟩ := T.cls
  obtain ⟨hp', g, dr, tk, os⟩ := s
  have hsz : us.length ≤ sizeLine := by
    have := T.few
    rw [sizeLine_eq]
    omega
  have k : ∀ b o, hp'.get? b = some o → ((hp'.push (kdv_tup us)).push (excO C hp'.objs.size)).get? b = some o := fun b o e => Heap.get?_push_of_some _ (Heap.get?_push_of_some _ e)
  have hget : ((hp'.push (kdv_tup us)).push (excO C hp'.objs.size)).get? (hp'.objs.size + 1) = some (excO C hp'.objs.size) := by heap_get
  have hnx : K.lookup (hp'.objs.size + 1) = none := out_of X (Nat.le_succ _)
  refine call_own F.excBase_ValueError (fun X => refsVE_contains X bm hbm) (X _ _ hC) (looks_findIn X T.iC) (fun self => bind_fn X self T.tC) hsz ?_
  refine own_init (s := ⟨(hp'.push (kdv_tup us)).push (excO C hp'.objs.size), g, dr, tk, os⟩) T hp hnd hdb h0 hus (X.keeps k) (hlim.keeps k) (hG.keeps k) hgs (hB.keeps k) hbs hget hnx ?_ fun h' tk' dx t1 ⟨k', hx, dn, dne, hns⟩ => ?_
  · show A.depth + 1 < recursionLimit
    exact hroom
  · have old : ∀ b o, hp'.get? b = some o → h'.get? b = some o := fun b o e => k' b o (Nat.ne_of_lt (Nat.lt_succ_of_lt (Heap.lt_size e))) (k b o e)
    have z : hp'.objs.size + 1 + 1 ≤ dx := by
      first
        | (simpa only [Heap.size_push] using dn)
        | exact dn
        | (have q := dn; rw [Heap.size_push, Heap.size_push] at q; exact q)
    exact ⟨rfl, hq h' tk' (hp'.objs.size + 1) dx ⟨old, Nat.le_succ _, ⟨_, _, hx, rfl, rfl, rfl, rfl⟩, Nat.le_trans (Nat.le_trans (Nat.le_succ _) (Nat.le_succ _)) z, dne, hns⟩⟩
end
end OwX
end PySem
namespace L2
open PySem PySem.Spec PyProof.Rows
theorem relO_fld : ∀ {fs : List Str} {vs : List V} {us : List Value}, Vals vs us → ∀ f, RelO (List.lookup f ((fs.zip vs).reverse)) (PySem.OwX.fld ((fs.zip us).reverse) f) := by
  have key : ∀ {l : List (Str × V)} {l' : List (Str × Value)}, Paired (fun a b => a.1 = b.1 ∧ RelV a.2 b.2) l l' → ∀ f, RelO (List.lookup f l) (PySem.OwX.fld l' f) := by
    intro l l' h f
    unfold PySem.OwX.fld
    induction h with
    | nil => trivial
    | @cons a b l l' r _ ih =>
      obtain ⟨n, v⟩ := a
      obtain ⟨n', v'⟩ := b
      obtain ⟨e, rv⟩ := r
      have e' : n = n' := e
      subst e'
      cases c : (f == n) with
      | true => simp only [List.lookup, c]; exact rv
      | false => simp only [List.lookup, c]; exact ih
  intro fs vs us h f
  refine key ?_ f
  have z : ∀ {fs : List Str} {vs : List V} {us : List Value}, Vals vs us → Paired (fun (a : Str × V) (b : Str × Value) => a.1 = b.1 ∧ RelV a.2 b.2) (fs.zip vs) (fs.zip us) := by
    intro fs vs us h
    induction h generalizing fs with
    | nil => cases fs <;> exact .nil
    | cons r _ ih =>
      cases fs with
      | nil => exact .nil
      | cons f fs => exact .cons ⟨rfl, r⟩ ih
  have rv : ∀ {l : List (Str × V)} {l' : List (Str × Value)}, Paired (fun (a : Str × V) (b : Str × Value) => a.1 = b.1 ∧ RelV a.2 b.2) l l' → ∀ {k k'}, Paired (fun (a : Str × V) (b : Str × Value) => a.1 = b.1 ∧ RelV a.2 b.2) k k' →
      Paired (fun (a : Str × V) (b : Str × Value) => a.1 = b.1 ∧ RelV a.2 b.2) (l.reverseAux k) (l'.reverseAux k') := by
    intro l l' h
    induction h with
    | nil => intro k k' hk; exact hk
    | cons r _ ih => intro k k' hk; exact ih (.cons r hk)
  exact rv (z h) .nil
section
variable {X : Cx} {C fI : Addr} {fs : List Str} {x : Str}
/-- C(e, ..): the exception's own dict d, new, holds the fields -/
def tMkOwnS (C : Addr) (fs : List Str) (ta : TA) : St → Hp → XK → Prop := fun σ H Q => ta σ H fun vs H1 => vs.length = fs.length ∧ ∀ d, H1 d = none → Q (.ref C) (some d) (upd H1 d (.xd ((fs.zip vs).reverse)))
theorem pmk_ownS {a : Expr} {as : List Expr} {ta : TA} {p pos : Pos} {k : Nat} (T : PySem.OwX.OwnTxt X.prog X.K C fI fs) (hm : X.mg x = some (.ref C)) (hs : X.mg "super" = none) (hnd : (("self" : Str) :: fs).Nodup) (hdb : ∀ f ∈ fs, (f == ("__debug__" : Str)) = false) (h0 : fs ≠ []) (hr : Room k X.A) (ha : PA X (a :: as) ta) (hg : Gl X x)
    (hdx : (x == ("__debug__" : Str)) = false := by decide) (he : starEach (a :: as) X.env = (false, eval a X.env) :: starEach as X.env := by rfl) (hpl : (backTo pos (starEach as X.env)).any (·.1) = false := by rfl) :
    PMk X (.Call (.Name x p) (a :: as) [] pos) (tMkOwnS C fs ta) := by
  intro pins s σ H Q I h
  refine wpAny_Call_Name_kw (ld_glob I hg hm ?_ hdx)
  refine PySem.W.callWith_K (h₀ := X.base) I.ok.mod.kin T.kC (thn (ha.run pos pins s σ H _ I h) fun us s1 hh => ?_) he hpl
  obtain ⟨vs, H1, I1, r1, el, q1⟩ := hh
  refine ⟨I1.kIn, ?_⟩
  show wpAny _ _ (call (.ref C) us) _ _ _
  have hlim := I1.nolimit
  obtain ⟨mb, b1, b2⟩ := I1.mod.blt
  have hG := I1.mod.glob.keeps I1.bk
  have hB := b1.keeps I1.bk
  have hus : us.length = fs.length := by rw [← el]; exact (Paired.length r1).symm
  obtain ⟨hp, g, dr, tk, os⟩ := s1
  refine wpAny_call (PySem.OwX.own_made T rfl hnd hdb h0 hus I1.kIn hlim hG hs hB ((b2 "super" (by decide)).trans (by first | rfl | decide +kernel | kernel_rfl)) (by have := hr.dp; omega) fun h' tk' e d M => ?_)
  show MkP X pins σ Q (.ref e) ⟨h', g, dr, tk', os⟩
  obtain ⟨oe, fv, hoe, hc, hd, hdat, h1⟩ := M.obj
  have hns := M.ns
  obtain ⟨G', g1, g2⟩ := restrict h' fun b => decide (b ≠ e)
  have gk : ∀ b, b ≠ e → G'.get? b = h'.get? b := fun b hb => g1 b (decide_eq_true hb)
  have ge : G'.get? e = none := g2 e (by simp)
  have old : ∀ b o, hp.get? b = some o → G'.get? b = some o := fun b o q => (gk b (Nat.ne_of_lt (Nat.lt_of_lt_of_le (Heap.lt_size q) M.new))).trans (M.keep b o q)
  have ob : ObjOk X.prog X.w (upd H1 d (.xd ((fs.zip vs).reverse))) G' d (.xd ((fs.zip vs).reverse)) :=
    ⟨_, hns.at (fun o q => (gk d M.dne).trans q), fun f => relO_fld r1 f⟩
  have J : Inv X pins σ (upd H1 d (.xd ((fs.zip vs).reverse))) ⟨G', g, dr, tk', os⟩ := I1.laid (t' := tk') old M.dbig ob
  refine ⟨e, oe, fv, ⟨G', g, dr, tk', os⟩, _, .ref C, some d, rfl, J, fun b o q => ?_, ge, hoe, ⟨hc, hd⟩, hdat, h1, ?_, rfl, I1.bare, raises_own T.exC T.tyC, q1 d (I1.hok.fresh M.dbig)⟩
  · by_cases hb : b = e
    · have q' : G'.get? b = some o := q
      rw [hb, ge] at q'; cases q'
    · exact (gk b hb).symm.trans q
  · rw [upd_ne (Ne.symm M.dne)]
    exact I1.hok.fresh M.new
/-- raise C(e, ..) -/
def tRaiseOwnS (C : Addr) (fs : List Str) (W : WX) (ta : TA) : TS := fun _ σ H => tMkOwnS C fs ta σ H fun cls d H' => W cls d σ H'
theorem ps_raiseOwnS {a : Expr} {as : List Expr} {ta : TA} {W : WX} {p pos pos2 : Pos} {k : Nat} (hc : X.calm = true) (T : PySem.OwX.OwnTxt X.prog X.K C fI fs) (hm : X.mg x = some (.ref C)) (hs : X.mg "super" = none) (hnd : (("self" : Str) :: fs).Nodup) (hdb : ∀ f ∈ fs, (f == ("__debug__" : Str)) = false) (h0 : fs ≠ []) (hr : Room k X.A) (tk : Takes X W) (ha : PA X (a :: as) ta) (hg : Gl X x)
    (hdx : (x == ("__debug__" : Str)) = false := by decide) (he : starEach (a :: as) X.env = (false, eval a X.env) :: starEach as X.env := by rfl) (hpl : (backTo pos (starEach as X.env)).any (·.1) = false := by rfl) :
    PS X (.Raise (some (.Call (.Name x p) (a :: as) [] pos)) none pos2) (tRaiseOwnS C fs W ta) := ps_raise hc tk (pmk_ownS T hm hs hnd hdb h0 hr ha hg hdx he hpl)
end
end L2

/-! repr of data: defs whose context is known to show nothing (guards), from the law down to the calls of repr -/
namespace L2
open PySem PySem.Spec PyProof.Rows
/-- as FnOk, for contexts in which no repr is under way -/
structure FnOkG (P : Program) (w : World) (K : PySem.W.Frag) (mg : Str → Option Value) (base : Heap) (k : Nat) (f : Addr) (fd : FuncData) (ps : List Str) (sp : Sp) : Prop where
  len : ∀ vs H Q E, sp vs H Q E → vs.length = ps.length
  run : ∀ (A : Around) (outer : List Env) (s : Shared) (H : Hp) (args : Args) (us : List Value) (vs : List V) (Q : VK) (E : XK), A.guards = some [] → Room k A →
    Env0 P w K mg base A outer s H → BindsTo s fd args (ps.zip us) → Vals vs us → sp vs H Q E → codeAny (model P w) A (.call (.ref f) args) (CR CX0 outer P w H s Q E) s
section
variable {P : Program} {w : World} {K : PySem.W.Frag} {mg : Str → Option Value} {base : Heap}
theorem Fun.okG {x qual : Str} {st : Stmt} {f : Addr} {fd : FuncData} {N ps : List Str} {k : Nat} {sp : Sp} (F : Fun K x qual st f fd) (S : FnScope N ps (defScope st)) (len : ∀ vs H Q E, sp vs H Q E → vs.length = ps.length)
    (body : ∀ (cdv : Value) (A : Around) (outer : List Env) (s : Shared) (H : Hp) (vs : List V) (Q : VK) (E : XK), A.guards = some [] → Room k (A.deeper (envOfC qual (defScope st) s.heap.objs.size f cdv)) → sp vs H Q E →
      ∃ t, PSs (cxOf CX0 P w K mg base N qual (defScope st) f cdv A outer s H E).nox (defBody st) t ∧ t { nx := fun _ H' => Q .non H', rt := Q } (start N vs) H) :
    FnOkG P w K mg base (k + 1) f fd ps sp where
  len := len
  run := by
    intro A outer s H args us vs Q E gA room e0 bind rel want
    obtain ⟨oc, od, kV, doc, pm, an, cdv, ct, osl, rfl, lk, code⟩ := F.ex
    have same := len _ _ _ _ want
    have up : ∀ b o, base.get? b = some o → s.heap.get? b = some o := fun b o e => (e0.bs b o e).1
    have inK := e0.mod.kin.keeps up
    have places : ∀ y ∈ ps.zip us, (defScope st).names.lookup y.1 = some .local ∨
        ((defScope st).names.lookup y.1 = some .cell ∧ ((cellsFrom (s.heap.objs.size + 1) (defScope st).names []).lookup y.1).isSome = true) := by
      rintro ⟨n, v⟩ hy
      cases S.par n (List.of_mem_zip hy).1 with
      | inl q => exact Or.inl q
      | inr q => exact Or.inr ⟨q, PySem.W.cellsFrom_some _ _ _ (.inl q)⟩
    refine codeAny_call_function room.depth (inK _ _ lk) rfl S.co S.gen rfl (PySem.W.codeRec_of inK code) (bind _ _ _ _ (wpAny_newFunctionEnv_cells S.kind places fun env same_env s1 made => ?_))
    subst same_env
    have nolim := e0.mod.nolimit.keeps up
    refine ⟨nolim.keeps made.toInCall.keep, codeAny_func ?_⟩
    obtain ⟨t, rule, reading⟩ := body cdv A outer s H vs Q E gA (room.deeper _) want
    have first := inv_start (CX := CX0) (E := E) S room.hd e0 same rel made
    refine wpAny_mono (rule.nox.run [] s1 (start N vs) H _ first reading) ?_ (fun _ _ z => z)
    intro fl s' out
    match fl, out with
    | .ret u, ⟨v, _, H', J, rv, q⟩ => exact ⟨v, H', J.os, J.bare, J.base, J.hok, rv, q⟩
    | .next, ⟨_, H', J, q⟩ => exact ⟨.non, H', J.os, J.bare, J.base, J.hok, rfl, q⟩
    | .brk, ⟨_, _, _, q⟩ => exact q.elim
    | .cont, ⟨_, _, _, q⟩ => exact q.elim
end
section
variable {X : Cx} {k : Nat} {f : Addr} {fd : FuncData} {ps : List Str} {sp : Sp} {x : Str} {p pos : Pos} {e : Expr} {es : List Expr} {t : TA}
/-- a call of such a def -/
theorem pe_callG (F : FnOkG X.prog X.w X.K X.mg X.base k f fd ps sp) (gA : X.A.guards = some []) (hr : Room k X.A) (hg : Gl X x) (hm : X.mg x = some (.ref f)) (hk : PySem.W.keepIn X.K (.ref f) = true) (hb : Binds X.K fd ps [])
    (ha : PA X (e :: es) t) (hdb : (x == ("__debug__" : Str)) = false := by decide) (he : starEach (e :: es) X.env = (false, eval e X.env) :: starEach es X.env := by rfl) (hpl : (backTo pos (starEach es X.env)).any (·.1) = false := by rfl) :
    PE X (.Call (.Name x p) (e :: es) [] pos) (tCall sp [] E0 t) := by
  constructor
  intro pins s σ H Q I h
  refine wpAny_Call_Name_kw (ld_glob I hg hm (PySem.W.callWith_K (h₀ := X.base) I.ok.mod.kin hk (thn (ha.run pos pins s σ H _ I h) ?_) he hpl) hdb)
  rintro us s1 ⟨vs, H1, J, rel, want⟩
  refine ⟨J.kIn, ?_⟩
  have n : us.length = ps.length := by rw [← rel.length, ← F.len _ _ _ _ want, List.append_nil]
  have want' : sp vs H1 Q E0 := by rw [← List.append_nil vs]; exact want
  have bnd := hb s1 us J.kIn (by rw [List.append_nil]; exact n)
  rw [List.append_nil] at bnd
  refine wpAny_call (codeAny_mono (F.run X.A X.stack s1 H1 ⟨us, []⟩ us vs Q E0 gA hr J.env0 bnd rel want') ?_)
  intro r s' out
  match r, out with
  | .error _, out => exact out.elim
  | .ok (.ret u), out => exact J.after out
  | .ok .next, out => exact out.elim
  | .ok .brk, out => exact out.elim
  | .ok .cont, out => exact out.elim
/-- repr of data without dicts -/
def rRepr (K : PySem.W.Frag) : List V → Hp → VK → Prop := fun xs H Q => ∃ (a : Addr) (d : PyData), xs = [.ref a] ∧ Dp K H (.ref a) d ∧ d.showable = true ∧ d.hasDict = false ∧ d.depth ≤ 60 ∧ d.shown.length ≤ sizeLine ∧ Q (.str d.shown) H
theorem call_reprD (gA : X.A.guards = some []) (hu : X.A.units + 64 < cLine) : CallR X (.builtin "repr") (rRepr X.K) := by
  intro pins s σ H xs us Q I r h
  obtain ⟨a, d, rfl, hd, sh, nd, dp, sz, q⟩ := h
  obtain ⟨u, rfl, ru⟩ := vals1 r
  obtain rfl : u = Value.ref a := ru
  obtain ⟨as, rd⟩ := Dp.reads I d _ _ hd rfl
  refine repr_of_reads' rd sh (PyData.noDict_hsm nd) gA (by omega) (fun _ _ e => e) (fun h' u tk kp => ?_) sz
  exact ⟨.str d.shown, H, I.kept (t' := tk) kp, ⟨u, rfl⟩, q⟩
end
/-- the law's promise at the heap behind the top, for such a def -/
theorem law_startG {P : Program} {w : World} {K : PySem.W.Frag} {mg mb : Str → Option Value} {k : Nat} {fa a : Addr} {fd : FuncData} {x : Str} {sp : Sp} {s : Shared} {vs : List Value}
    (KX : K.In s.heap) (hns : s.heap.Ns mainGlobals mg) (hb : s.heap.Ns builtinsNs mb) (hbb : ∀ x : Str, x ≠ "__name__" → mb x = bootBuiltins x) (hlim : s.heap.NoLimit) (hg : s.gens = #[])
    (ha : s.heap.get? a = some { cls := .type "list", data := .seq vs.toArray }) (room : Room k callerA) (F : ∀ base : Heap, K.In base → base.Ns mainGlobals mg → FnOkG P w K mg base k fa fd [x] sp)
    (bind : ∀ (s : Shared) (u : Value), BindsTo s fd ⟨[u], []⟩ [(x, u)]) (H : Hp) (only : Only H) (hok : HOk P w H s.heap) (one : ∀ b, H b ≠ none → b = a) (out : H a ≠ none → K.lookup a = none)
    (want : sp [.ref a] H (fun v _ => v = .bl true) fun _ _ _ => False) :
    codeAny (model P w) callerA (.call (.ref fa) ⟨[.ref a], []⟩) (fun r s' => r = .ok (.ret (.bool true)) ∧ OldK s.heap s'.heap ∧ s'.os = s.os ∧ AllBare s'.gens) s := by
  have free : ∀ {b : Addr}, (b = a → False) → H b = none := fun {b} hb => by
    cases q : H b with
    | none => rfl
    | some u => exact (hb (one b (by rw [q]; exact fun z => (by cases z)))).elim
  have dicts : ∀ {b : Addr} {m : Str → Option Value}, s.heap.Ns b m → (hidT s.heap H).Ns b m := by
    rintro b m ⟨o, es, ep, e, d, r⟩
    refine ⟨o, es, ep, hidT_get e (free fun eb => ?_), d, r⟩
    rw [eb, ha] at e
    cases e
    have d' : Data.seq vs.toArray _ = Data.dict es ep := d
    cases d'
  have kin : K.In (hidT s.heap H) := fun b o e => hidT_get (KX b o e) (by
    cases q : H b with
    | none => rfl
    | some u =>
      have eb := one b (by rw [q]; exact fun z => (by cases z))
      have := out (by rw [← eb, q]; exact fun z => (by cases z))
      rw [eb, this] at e
      cases e)
  obtain ⟨mc, lim1, lim2⟩ := hlim
  have md : Mod K mg (hidT s.heap H) := { kin := kin, glob := dicts hns, blt := ⟨mb, dicts hb, hbb⟩, nolimit := ⟨mc, dicts lim1, lim2⟩ }
  have e0 : Env0 P w K mg (hidT s.heap H) callerA [] s H :=
    { frames := rfl, mod := md, bs := fun b o e => of_hidT e, bsz := Nat.le_of_eq (hidT_size _ _), funs := trivial, frf := fun b hb => absurd (show b ∈ ([] : List Addr) from hb) (List.not_mem_nil), hok := hok, bare := .of_eq hg }
  refine codeAny_mono ((F _ kin (dicts hns)).run callerA [] s H ⟨[.ref a], []⟩ [.ref a] [.ref a] _ _ rfl room e0 (bind s (.ref a)) (.cons rfl .nil) want) ?_
  intro r s' res
  match r, res with
  | .error _, res => exact res.elim
  | .ok .next, res => exact res.elim
  | .ok .brk, res => exact res.elim
  | .ok .cont, res => exact res.elim
  | .ok (.ret u), ⟨v, H', os, bare, un, hok', rv, ev⟩ =>
    have ev' : v = .bl true := ev
    subst ev'
    obtain rfl : u = Value.bool true := rv
    refine ⟨rfl, OldK.of_keep ?_, os, bare⟩
    intro b o e
    rcases only b with z | ⟨ob, xs, z⟩
    · exact un.keep b o e z (fun m => absurd (show b ∈ ([] : List Addr) from m) List.not_mem_nil) List.not_mem_nil
    · have e1 := (hok b _ z).1
      have e2 := (hok' b _ (un.frzs b ob _ z)).1
      rw [e] at e1
      cases e1
      exact e2
theorem walk_ofG {l : PySem.W.OpenLaw} {n k : Nat} {q : Program} {loose : List Str} {XP : (Str → Option Value) → Heap → Prop} {YP : World → Heap → Prop} {d : DefRec} {K : Params → PySem.W.Frag} {sp : World → Sp} {x : Str}
    (hn : l.most = some n) (hn2 : n ≤ sizeLine) (hdf : d.params.defaults = []) (room : Room k callerA) (hY : ∀ (w : World) (h : Heap), YP w h → (K w.params).In h)
    (F : ∀ (w : World) (mg : Str → Option Value) (fa : Addr) (h : Heap), (K w.params).In h → h.Ns mainGlobals mg → mg d.name = some (.ref fa) →
      ∃ fd : FuncData, (∀ (s : Shared) (u : Value), BindsTo s fd ⟨[u], []⟩ [(x, u)]) ∧ ∀ base : Heap, (K w.params).In base → base.Ns mainGlobals mg → FnOkG l.prog w (K w.params) mg base k fa fd [x] (sp w))
    (hsp : ∀ (w : World) (H : Hp) (a : Addr) (ns : List Int), ns.length ≤ n → Only H → SqL (K w.params) H a (ns.map V.int) → sp w [.ref a] H (fun v _ => v = .bl true) fun _ _ _ => False) :
    PySem.W.WalkO q loose XP YP l.row.toRowW d [] (fun f vs => PySem.call f vs) := by
  refine Att.attach_call hn hdf ?_
  intro w s₀ s mg mb fa o pm cd doc a vs ns G Y ho hd hcd hmg hobj hints hlen hg
  have KX := hY w _ Y
  obtain ⟨fd, bind, hF⟩ := F w mg fa _ KX G.T.g hmg
  have size : ns.length ≤ sizeLine := Nat.le_trans hlen hn2
  have go := fun (H : Hp) => law_startG (w := w) (a := a) (vs := vs) KX G.T.g G.T.b G.T.builtins G.T.nolimit hg hobj room hF bind H
  cases hk : (K w.params).lookup a with
  | some o' =>
    have e := KX a o' hk
    rw [hobj] at e
    cases e
    have only : Only (fun _ => none) := fun _ => Or.inl rfl
    refine go (fun _ => none) only (fun b u z => by have z2 : (none : Option HO) = some u := z; cases z2) (fun b z => absurd rfl z) (fun z => absurd rfl z) (hsp w _ a ns hlen only (.inr ⟨_, vs.toArray, _, hk, rfl, rfl, rfl, ?_, ?_⟩))
    · rw [List.size_toArray, hints.length]
      exact size
    · exact vals_ints hints
  | none =>
    have at_a : ∀ {b u}, (if b = a then some (HO.frz { cls := .type "list", data := .seq vs.toArray } (.lst (ns.map V.int))) else none) = some u → b = a ∧ u = .frz { cls := .type "list", data := .seq vs.toArray } (.lst (ns.map V.int)) := by
      intro b u z
      by_cases hb : b = a
      · rw [if_pos hb] at z
        exact ⟨hb, (Option.some.inj z).symm⟩
      · rw [if_neg hb] at z
        cases z
    have only : Only (fun b => if b = a then some (HO.frz { cls := .type "list", data := .seq vs.toArray } (.lst (ns.map V.int))) else none) := by
      intro b
      by_cases hb : b = a
      · exact Or.inr ⟨_, _, if_pos hb⟩
      · exact Or.inl (if_neg hb)
    refine go _ only ?_ ?_ (fun _ => hk) (hsp w _ a ns hlen only (.inl (.inr ⟨{ cls := .type "list", data := .seq vs.toArray }, if_pos rfl⟩)))
    · intro b u z
      obtain ⟨rfl, rfl⟩ := at_a z
      exact ⟨hobj, by rw [List.length_map]; exact size, vs, _, vals_ints hints, hobj⟩
    · intro b z
      cases q : (if b = a then some (HO.frz { cls := .type "list", data := .seq vs.toArray } (.lst (ns.map V.int))) else none) with
      | none => exact absurd q z
      | some u => exact (at_a q).1
end L2

/-! isinstance of a caught error whose fields stand in a dict; a tuple of classes -/
namespace L2
open PySem PySem.Spec PyProof.Rows
section
variable {X : Cx} {a : Addr} {oe : Obj} {cls : Value} {d : Option Addr} {pn : List (Addr × Obj)}
/-- the error that the suite holds at a: its class D, its dict dd -/
def Caught (K : PySem.W.Frag) (H : Hp) (cls : Value) (d : Option Addr) (D : Addr) : Prop := cls = .ref D ∧ ExcC K D ∧ ∃ (dd : Addr) (fs : List (Str × V)), d = some dd ∧ H dd = some (.xd fs)
theorem caught_at {pins : List (Addr × Obj)} {σ : St} {H : Hp} {s : Shared} {D : Addr} (I : Inv (X.suite a ((a, oe) :: pn)) pins σ H s) (hz : Zc cls d oe) (hf : ∃ vs, oe.data = .fields vs) (c : Caught X.K H cls d D) : ∃ od, PySem.W.InstAt s.heap a oe D od := by
  obtain ⟨rfl, _, dd, fs, rfl, ea⟩ := c
  have here := (I.pin (a, oe) (List.mem_append_left _ List.mem_cons_self)).1
  obtain ⟨vs, hd⟩ := hf
  obtain ⟨mA, hns, _⟩ := (show ObjOk X.prog X.w H s.heap dd (.xd fs) from I.hok dd _ ea)
  obtain ⟨od, ho, _⟩ := lookIn_ns hns
  refine ⟨some od, here, hz.1, ?_, ?_⟩
  · unfold PySem.W.notCls
    rw [hd] <;> rfl
  · rw [hz.2]
    exact ho
theorem caught_kit {K : PySem.W.Frag} {D : Addr} {od : Option Obj} (C : ExcC K D) : PySem.W.KitX K (.ref a) (.ref D) (fun h => PySem.W.InstAt h a oe D od) := by
  have hc : (PySem.W.clsIn K D).isSome = true := by
    obtain ⟨cd, hc, _⟩ := PySem.W.any_some C.hd
    rw [hc]
    rfl
  exact PySem.W.kitx_exc hc C.hg C.hk C.hs C.ha C.hn C.ht C.hm
def rIsC (K : PySem.W.Frag) (a : Addr) (cls : Value) (d : Option Addr) : List V → Hp → VK → Prop := fun xs H Q => ∃ (D : Addr) (c : V) (cv : Value) (b : Bool), xs = [.ref a, c] ∧ Caught K H cls d D ∧ ClsV c cv ∧ PySem.W.kitOne K (.ref D) cv = some b ∧ Q (.bl b) H
def rIsCT (K : PySem.W.Frag) (a : Addr) (cls : Value) (d : Option Addr) : List V → Hp → VK → Prop := fun xs H Q => ∃ (D tp : Addr) (cs : List V) (us : List Value) (b : Bool), xs = [.ref a, .ref tp] ∧ Caught K H cls d D ∧ H tp = some (.tup cs) ∧ Paired ClsV cs us ∧ PySem.W.kitAny K (.ref D) us = some b ∧ Q (.bl b) H
theorem call_isC (hz : Zc cls d oe) (hf : ∃ vs, oe.data = .fields vs) : CallR (X.suite a ((a, oe) :: pn)) (.builtin "isinstance") (rIsC X.K a cls d) := by
  intro pins s σ H xs us Q I r h
  obtain ⟨D, c, cv, b, rfl, hc, k, e, q⟩ := h
  obtain ⟨u1, u2, rfl, r1, r2⟩ := vals2 r
  obtain rfl : u1 = Value.ref a := r1
  have e2 := k.eq r2
  subst e2
  obtain ⟨od, J⟩ := caught_at I hz hf hc
  exact PySem.W.kia_one (caught_kit hc.2.1) I.kIn J e (fun z => by cases z) fun tk => ⟨.bl b, H, I.tok tk, rfl, q⟩
theorem call_isCT (hz : Zc cls d oe) (hf : ∃ vs, oe.data = .fields vs) : CallR (X.suite a ((a, oe) :: pn)) (.builtin "isinstance") (rIsCT X.K a cls d) := by
  intro pins s σ H xs us Q I r h
  obtain ⟨D, tp, cs, ws, b, rfl, hc, hT, k, e, q⟩ := h
  obtain ⟨u1, u2, rfl, r1, r2⟩ := vals2 r
  obtain rfl : u1 = Value.ref a := r1
  obtain rfl : u2 = Value.ref tp := r2
  obtain ⟨od, J⟩ := caught_at I hz hf hc
  obtain ⟨_, its, rv, o, h1, h2, n, h3⟩ := (show ObjOk X.prog X.w H s.heap tp (.tup cs) from I.hok tp _ hT)
  have e3 := ClsV.all k rv
  subst e3
  obtain ⟨oc, od', dt, sl⟩ := o
  simp only at h2 h3
  subst h2 h3
  exact PySem.W.kia_tup (caught_kit hc.2.1) I.kIn J h1 e (fun z => by cases z) fun tk => ⟨.bl b, H, I.tok tk, rfl, q⟩
end
end L2

/-! lists of numbers, lists of such lists, as data that is shown -/
namespace KD
open PySem PySem.Spec PyProof.Rows L2
def dI (l : List Int) : PyData := .list (l.map .int)
def dW (W : List (List Int)) : PyData := .list (W.map dI)
structure Shows (d : PyData) : Prop where
  sh : d.showable = true
  nd : d.hasDict = false
  dp : d.depth ≤ 60
  sz : d.shown.length ≤ sizeLine
def Smalls (l : List Int) : Prop := ∀ z ∈ l, z.natAbs < 1000000
theorem small_log {z : Int} (h : z.natAbs < 1000000) : z.natAbs.log2 < 20 := by
  by_cases e : z.natAbs = 0
  · rw [e]
    decide
  · exact (Nat.log2_lt e).2 (Nat.lt_of_lt_of_le h (by decide))
theorem ints_show {l : List Int} (h : Smalls l) : PyData.showableAll (l.map PyData.int) = true := PyData.showableAll_ints l fun z hz => Nat.lt_trans (small_log (h z hz)) (by decide)
theorem ints_nodict : ∀ l : List Int, PyData.hasDictAll (l.map PyData.int) = false
  | [] => by simp only [List.map_nil, PyData.hasDictAll]
  | z :: l => by simp only [List.map_cons, PyData.hasDictAll, PyData.hasDict, ints_nodict l, Bool.or_self]
theorem ints_depth : ∀ l : List Int, PyData.depthAll (l.map PyData.int) = 0
  | [] => by simp only [List.map_nil, PyData.depthAll]
  | z :: l => by simp only [List.map_cons, PyData.depthAll, PyData.depth, ints_depth l, Nat.max_self]
theorem ints_leaves : ∀ {l : List Int}, Smalls l → PyData.leavesShortAll 13 (l.map PyData.int) = true
  | [], _ => by simp only [List.map_nil, PyData.leavesShortAll]
  | z :: l, h => by
    simp only [List.map_cons, PyData.leavesShortAll, PyData.leavesShort, Bool.and_eq_true, decide_eq_true_eq]
    exact ⟨PyData.shown_int_le (Nat.lt_trans (h z List.mem_cons_self) (by decide)), ints_leaves fun y hy => h y (List.mem_cons_of_mem _ hy)⟩
theorem ints_weight : ∀ {l : List Int}, Smalls l → PyData.weightAll (l.map PyData.int) ≤ 21 * l.length
  | [], _ => by simp only [List.map_nil, PyData.weightAll]; exact Nat.zero_le _
  | z :: l, h => by
    have := small_log (h z List.mem_cons_self)
    have ih := ints_weight (l := l) fun y hy => h y (List.mem_cons_of_mem _ hy)
    have w : PyData.weight (.int z) ≤ 20 := by
      simp only [PyData.weight]
      split <;> omega
    simp only [List.map_cons, PyData.weightAll, List.length_cons]
    omega
theorem dI_shows {l : List Int} (h : Smalls l) (hl : l.length ≤ 10000) : Shows (dI l) where
  sh := by simp only [dI, PyData.showable]; exact ints_show h
  nd := by simp only [dI, PyData.hasDict]; exact ints_nodict l
  dp := by simp only [dI, PyData.depth, ints_depth]; decide
  sz := PyData.shown_fits (B := 13) (by decide) (by decide) (by simp only [dI, PyData.leavesShort]; exact ints_leaves h) (by
    simp only [dI, PyData.weight]
    have := ints_weight h
    have e : (2 : Nat) ^ 20 = 1048576 := by decide
    omega)
theorem rows_show : ∀ {W : List (List Int)}, (∀ r ∈ W, Smalls r) → PyData.showableAll (W.map dI) = true
  | [], _ => by simp only [List.map_nil, PyData.showableAll]
  | r :: W, h => by
    simp only [List.map_cons, PyData.showableAll, Bool.and_eq_true]
    exact ⟨by simp only [dI, PyData.showable]; exact ints_show (h r List.mem_cons_self), rows_show fun y hy => h y (List.mem_cons_of_mem _ hy)⟩
theorem rows_nodict : ∀ W : List (List Int), PyData.hasDictAll (W.map dI) = false
  | [] => by simp only [List.map_nil, PyData.hasDictAll]
  | r :: W => by simp only [List.map_cons, PyData.hasDictAll, dI, PyData.hasDict, ints_nodict, Bool.false_or]; exact rows_nodict W
theorem rows_depth : ∀ W : List (List Int), PyData.depthAll (W.map dI) ≤ 1
  | [] => by simp only [List.map_nil, PyData.depthAll]; exact Nat.zero_le _
  | r :: W => by
    have := rows_depth W
    simp only [List.map_cons, PyData.depthAll, dI, PyData.depth, ints_depth]
    exact Nat.max_le.mpr ⟨Nat.le_refl _, this⟩
theorem rows_leaves : ∀ {W : List (List Int)}, (∀ r ∈ W, Smalls r) → PyData.leavesShortAll 13 (W.map dI) = true
  | [], _ => by simp only [List.map_nil, PyData.leavesShortAll]
  | r :: W, h => by
    simp only [List.map_cons, PyData.leavesShortAll, Bool.and_eq_true]
    exact ⟨by simp only [dI, PyData.leavesShort]; exact ints_leaves (h r List.mem_cons_self), rows_leaves fun y hy => h y (List.mem_cons_of_mem _ hy)⟩
theorem rows_weight {k : Nat} : ∀ {W : List (List Int)}, (∀ r ∈ W, Smalls r ∧ r.length ≤ k) → PyData.weightAll (W.map dI) ≤ (21 * k + 1) * W.length
  | [], _ => by simp only [List.map_nil, PyData.weightAll]; exact Nat.zero_le _
  | r :: W, h => by
    have h1 := h r List.mem_cons_self
    have w := ints_weight h1.1
    have ih := rows_weight (k := k) (W := W) fun y hy => h y (List.mem_cons_of_mem _ hy)
    have wd : PyData.weight (dI r) ≤ 21 * k := by
      simp only [dI, PyData.weight]
      have : 21 * r.length ≤ 21 * k := Nat.mul_le_mul_left 21 h1.2
      omega
    simp only [List.map_cons, PyData.weightAll, List.length_cons]
    rw [Nat.mul_succ]
    omega
theorem dW_shows {W : List (List Int)} (h : ∀ r ∈ W, Smalls r ∧ r.length ≤ 100) (hl : W.length ≤ 400) : Shows (dW W) where
  sh := by simp only [dW, PyData.showable]; exact rows_show fun r hr => (h r hr).1
  nd := by simp only [dW, PyData.hasDict]; exact rows_nodict W
  dp := by
    have := rows_depth W
    simp only [dW, PyData.depth]
    omega
  sz := PyData.shown_fits (B := 13) (by decide) (by decide) (by simp only [dW, PyData.leavesShort]; exact rows_leaves fun r hr => (h r hr).1) (by
    simp only [dW, PyData.weight]
    have := rows_weight h
    have e : (2 : Nat) ^ 20 = 1048576 := by decide
    have : (21 * 100 + 1) * W.length ≤ (21 * 100 + 1) * 400 := Nat.mul_le_mul_left _ hl
    omega)
theorem dpI {K : PySem.W.Frag} {H : Hp} {a : Addr} {l : List Int} (h : SqL K H a (l.map V.int)) : Dp K H (.ref a) (dI l) := by
  refine .lst h ?_
  clear h
  induction l with
  | nil => exact .nil
  | cons z l ih => exact .cons (.int z) ih
theorem dpW {K : PySem.W.Frag} {H : Hp} {a : Addr} {as : List Addr} {W : List (List Int)} (h : SqL K H a (as.map V.ref)) (p : Paired (fun x r => SqL K H x (r.map V.int)) as W) : Dp K H (.ref a) (dW W) := by
  refine .lst h ?_
  clear h
  induction p with
  | nil => exact .nil
  | cons f _ ih => exact .cons (dpI f) ih
/-- the reading of repr(x), x such data -/
theorem shown {K : PySem.W.Frag} {H : Hp} {a : Addr} {d : PyData} {Q : VK} (s : Shows d) (p : Dp K H (.ref a) d) (q : Q (.str d.shown) H) : rRepr K [.ref a] H Q := ⟨a, d, rfl, p, s.sh, s.nd, s.dp, s.sz, q⟩
def rTupOf (K : PySem.W.Frag) : List V → Hp → VK → Prop := fun xs H Q => ∃ p ys, xs = [.ref p] ∧ ((SqL K H p ys ∧ ∀ l, H l = none → Q (.ref l) (upd H l (.tup ys))) ∨ (SqT K H p ys ∧ Q (.ref p) H))
end KD

/-! defs that may be called while an error is handled: their bodies ask nothing of what is handled -/
namespace L2
open PySem PySem.Spec PyProof.Rows
structure RoomQ (k : Nat) (A : Around) : Prop where
  dp : A.depth + 3 * k + 5 < recursionLimit
  un : A.units + 16 * k + 200 < cLine
theorem RoomQ.of {k : Nat} {A : Around} (r : Room k A) : RoomQ k A := ⟨r.dp, r.un⟩
theorem RoomQ.mono {j k : Nat} {A : Around} (r : RoomQ k A) (h : j ≤ k) : RoomQ j A := by
  obtain ⟨a, b⟩ := r
  exact ⟨by omega, by omega⟩
theorem RoomQ.deeper {k : Nat} {A : Around} (r : RoomQ (k + 1) A) (env : Env) : RoomQ k (A.deeper env) := by
  obtain ⟨a, b⟩ := r
  refine ⟨?_, ?_⟩
  · show A.depth + 1 + 3 * k + 5 < _
    omega
  · show A.units + 3 + 16 * k + 200 < _
    omega
structure FnOkQ (P : Program) (w : World) (K : PySem.W.Frag) (mg : Str → Option Value) (base : Heap) (k : Nat) (f : Addr) (fd : FuncData) (ps : List Str) (sp : Sp) : Prop where
  len : ∀ vs H Q E, sp vs H Q E → vs.length = ps.length
  run : ∀ (A : Around) (outer : List Env) (s : Shared) (H : Hp) (args : Args) (us : List Value) (vs : List V) (Q : VK) (E : XK), RoomQ k A →
    Env0 P w K mg base A outer s H → BindsTo s fd args (ps.zip us) → Vals vs us → sp vs H Q E → codeAny (model P w) A (.call (.ref f) args) (CR CX0 outer P w H s Q E) s
/-- the body's context: nothing is known of what is handled -/
def cxQ (P : Program) (w : World) (K : PySem.W.Frag) (mg : Str → Option Value) (base : Heap) (N : List Str) (qual : Str) (scope : Scope) (f : Addr) (cd : Value) (A : Around) (outer : List Env) (s : Shared) (H : Hp) (E : XK) : Cx :=
  { cxOf CX0 P w K mg base N qual scope f cd A outer s H E with calm := false }
section
variable {P : Program} {w : World} {K : PySem.W.Frag} {mg : Str → Option Value} {base : Heap}
theorem Fun.okQ {x qual : Str} {st : Stmt} {f : Addr} {fd : FuncData} {N ps : List Str} {k : Nat} {sp : Sp} (F : Fun K x qual st f fd) (S : FnScope N ps (defScope st)) (len : ∀ vs H Q E, sp vs H Q E → vs.length = ps.length)
    (body : ∀ (cdv : Value) (A : Around) (outer : List Env) (s : Shared) (H : Hp) (vs : List V) (Q : VK) (E : XK), RoomQ k (A.deeper (envOfC qual (defScope st) s.heap.objs.size f cdv)) → sp vs H Q E →
      ∃ t, PSs (cxQ P w K mg base N qual (defScope st) f cdv A outer s H E).nox (defBody st) t ∧ t { nx := fun _ H' => Q .non H', rt := Q } (start N vs) H) :
    FnOkQ P w K mg base (k + 1) f fd ps sp where
  len := len
  run := by
    intro A outer s H args us vs Q E room e0 bind rel want
    obtain ⟨oc, od, kV, doc, pm, an, cdv, ct, osl, rfl, lk, code⟩ := F.ex
    have same := len _ _ _ _ want
    have up : ∀ b o, base.get? b = some o → s.heap.get? b = some o := fun b o e => (e0.bs b o e).1
    have inK := e0.mod.kin.keeps up
    have places : ∀ y ∈ ps.zip us, (defScope st).names.lookup y.1 = some .local ∨
        ((defScope st).names.lookup y.1 = some .cell ∧ ((cellsFrom (s.heap.objs.size + 1) (defScope st).names []).lookup y.1).isSome = true) := by
      rintro ⟨n, v⟩ hy
      cases S.par n (List.of_mem_zip hy).1 with
      | inl q => exact Or.inl q
      | inr q => exact Or.inr ⟨q, PySem.W.cellsFrom_some _ _ _ (.inl q)⟩
    have depth : A.depth < recursionLimit := by have := room.dp; omega
    refine codeAny_call_function depth (inK _ _ lk) rfl S.co S.gen rfl (PySem.W.codeRec_of inK code) (bind _ _ _ _ (wpAny_newFunctionEnv_cells S.kind places fun env same_env s1 made => ?_))
    subst same_env
    have nolim := e0.mod.nolimit.keeps up
    refine ⟨nolim.keeps made.toInCall.keep, codeAny_func ?_⟩
    obtain ⟨t, rule, reading⟩ := body cdv A outer s H vs Q E (room.deeper _) want
    have e0' : Env0 P w K mg base { A with handled := none } outer s H := { frames := e0.frames, mod := e0.mod, bs := e0.bs, bsz := e0.bsz, funs := e0.funs, frf := e0.frf, hok := e0.hok, bare := e0.bare }
    have I := inv_start (CX := CX0) (E := E) S (A := { A with handled := none }) rfl e0' same rel made
    have ok : (cxQ P w K mg base N qual (defScope st) f cdv A outer s H E).Ok :=
      { mod := I.ok.mod, kind := I.ok.kind, glob := I.ok.glob, blt := I.ok.blt, above := I.ok.above, inj := I.ok.inj, has := I.ok.has, cab := I.ok.cab,
        hd := fun z => Bool.noConfusion (show false = true from z), frames := Around.frames_deeper e0.frames, stk := I.ok.stk, exf := I.ok.exf, bs := I.ok.bs, bsz := I.ok.bsz, noex := I.ok.noex, exfs := I.ok.exfs, funs := I.ok.funs, frf := I.ok.frf }
    have first : Inv (cxQ P w K mg base N qual (defScope st) f cdv A outer s H E) [] (start N vs) H s1 :=
      { ok := ok, os := I.os, bare := I.bare, base := I.base, loc := I.loc, cell := I.cell, free := I.free, freeC := I.freeC, pin := I.pin, hok := I.hok, len := I.len }
    refine wpAny_mono (rule.nox.run [] s1 (start N vs) H _ first reading) ?_ (fun _ _ z => z)
    intro fl s' out
    match fl, out with
    | .ret u, ⟨v, _, H', J, rv, q⟩ => exact ⟨v, H', J.os, J.bare, J.base, J.hok, rv, q⟩
    | .next, ⟨_, H', J, q⟩ => exact ⟨.non, H', J.os, J.bare, J.base, J.hok, rfl, q⟩
    | .brk, ⟨_, _, _, q⟩ => exact q.elim
    | .cont, ⟨_, _, _, q⟩ => exact q.elim
end
section
variable {X : Cx} {k : Nat} {f : Addr} {fd : FuncData} {ps : List Str} {sp : Sp} {x : Str} {p pos : Pos} {e : Expr} {es : List Expr} {t : TA}
theorem pe_callQ (F : FnOkQ X.prog X.w X.K X.mg X.base k f fd ps sp) (hr : RoomQ k X.A) (hg : Gl X x) (hm : X.mg x = some (.ref f)) (hk : PySem.W.keepIn X.K (.ref f) = true) (hb : Binds X.K fd ps [])
    (ha : PA X (e :: es) t) (hdb : (x == ("__debug__" : Str)) = false := by decide) (he : starEach (e :: es) X.env = (false, eval e X.env) :: starEach es X.env := by rfl) (hpl : (backTo pos (starEach es X.env)).any (·.1) = false := by rfl) :
    PE X (.Call (.Name x p) (e :: es) [] pos) (tCall sp [] E0 t) := by
  constructor
  intro pins s σ H Q I h
  refine wpAny_Call_Name_kw (ld_glob I hg hm (PySem.W.callWith_K (h₀ := X.base) I.ok.mod.kin hk (thn (ha.run pos pins s σ H _ I h) ?_) he hpl) hdb)
  rintro us s1 ⟨vs, H1, J, rel, want⟩
  refine ⟨J.kIn, ?_⟩
  have n : us.length = ps.length := by rw [← rel.length, ← F.len _ _ _ _ want, List.append_nil]
  have want' : sp vs H1 Q E0 := by rw [← List.append_nil vs]; exact want
  have bnd := hb s1 us J.kIn (by rw [List.append_nil]; exact n)
  rw [List.append_nil] at bnd
  refine wpAny_call (codeAny_mono (F.run X.A X.stack s1 H1 ⟨us, []⟩ us vs Q E0 hr J.env0 bnd rel want') ?_)
  intro r s' out
  match r, out with
  | .error _, out => exact out.elim
  | .ok (.ret u), out => exact J.after out
  | .ok .next, out => exact out.elim
  | .ok .brk, out => exact out.elim
  | .ok .cont, out => exact out.elim
end
end L2

/-! for i, x in enumerate(xs), xs a list or a tuple -/
namespace RT
open PySem PySem.Spec PyProof.Rows L2
theorem new_enum1 {v : Value} {o : Obj} {G : Heap → Prop} (B : Begins v o G) :
    Meets (Builtin.«enumerate.__new__» ⟨[.type "enumerate", v], []⟩) (fun _ R s => G s.heap ∧
      R (.ok (.ret (.ref (s.heap.push o).objs.size))) { s with heap := (s.heap.push o).push { cls := .type "enumerate", data := .fields #[.none, .bool false, .ref s.heap.objs.size, rawInt 0, .none, .none] } }) := by
  refine .of_wp fun prog w A R s hh => ?_
  obtain ⟨heap, gens, drawn, toks, os⟩ := s
  obtain ⟨hG, hR⟩ := hh
  have sub := sub_enumerate
  have it : ∀ {A' : Around} {E : Value → Shared → Prop} {Q : Value → Shared → Prop}, Q (.ref heap.objs.size) ⟨heap.push o, gens, drawn, toks, os⟩ → wpAny (model prog w) A' (pyIter v) Q E ⟨heap, gens, drawn, toks, os⟩ := fun q => B.iter prog w _ _ ⟨heap, gens, drawn, toks, os⟩ _ hG q
  wp_walk using it
  refine wpAny_stack_any fun st => wpAny_pure ?_
  split
  · rename_i c _ _ _ _ _
    cases (c == Value.type "enumerate") <;> (wp_walk using it; exact ⟨_, rfl, hR⟩)
  · wp_walk using it
    exact ⟨_, rfl, hR⟩
section
variable {prog : Program} {w : World} {A : Around} {E : Value → Shared → Prop} {s : Shared}
theorem call_enum_tup {t : Addr} {items : Array Value} {Q : Value → Shared → Prop} (hT : s.heap.IsTuple t items)
    (q : ∀ h', IsEnum h' (s.heap.objs.size + 1) s.heap.objs.size 0 .none → h'.IsTupleIter s.heap.objs.size t 0 → (∀ b o, s.heap.get? b = some o → h'.get? b = some o) → Q (.ref (s.heap.objs.size + 1)) { s with heap := h' }) :
    wpAny (model prog w) A (call (.type "enumerate") [.ref t]) Q E s := by
  refine callType_new F.called_enumerate (by decide) (F.typeCall_enumerate_1 _) (F.newCall_enumerate_1 _) (fun obj => F.args_object_init_2 obj _) F.entry_enumerate_new (new_enum1 (begins_tuple t items)) ⟨hT, ?_⟩
  generalize eo : ({ cls := .type "tuple_iterator", data := .fields #[.ref t, .int 0 0] } : Obj) = io
  have z : (s.heap.push io).objs.size = s.heap.objs.size + 1 := Heap.size_push ..
  generalize ee : ({ cls := .type "enumerate", data := .fields #[.none, .bool false, .ref s.heap.objs.size, rawInt 0, .none, .none] } : Obj) = en
  have fe : ((s.heap.push io).push en).get? (s.heap.objs.size + 1) = some en := by
    rw [← z]
    exact Heap.get?_push_size _ (by rw [← ee]; rfl)
  have fi : ((s.heap.push io).push en).get? s.heap.objs.size = some io := Heap.get?_push_of_some _ (Heap.get?_push_size _ (by rw [← eo]; rfl))
  show _ ∧ _
  rw [z]
  exact ⟨⟨en, fe, by rw [← ee]⟩, q _ (fe.trans (by rw [← ee])) ⟨io, fi, by rw [← eo], by rw [← eo]; rfl⟩ fun b o x => Heap.get?_push_of_some _ (Heap.get?_push_of_some _ x)⟩
end
end RT
namespace L2
open PySem PySem.Spec PyProof.Rows
/-- the tuple at a, its items numbered, in new pairs -/
def Iten (K : PySem.W.Frag) (a : Addr) : It where
  go := fun i H => ∃ (xs : List V) (x : V), SqT K H a xs ∧ xs[i]? = some x
  yld := fun i H v H' => ∃ T x, v = .ref T ∧ H T = none ∧ H' = upd H T (.tup [.int (i : Nat), x]) ∧ ∀ xs, SqT K H a xs → xs[i]? = some x
  stop := fun i H => ∃ xs : List V, SqT K H a xs ∧ xs.length ≤ i
theorem turn_enumT {P : Program} {w : World} {K : PySem.W.Frag} {elts : List Expr} {kk : Nat} {tpos : Pos} (a e it : Addr) :
    Turn P w K (.Tuple elts kk tpos) (Iten K a) [e, it] e (fun i h => (∃ old, IsEnum h e it ((i : Nat) : Int) old) ∧ h.IsTupleIter it a i ∧ e ≠ it) := by
  have two : ∀ {b : Addr}, b ∈ [e, it] → b = e ∨ b = it := fun hb => by simpa using hb
  refine { mem := by simp, obj := ?_, keep := ?_, item := ?_, done := ?_, self := ?_ }
  · rintro i h ⟨⟨old, he⟩, ⟨o, ho, _, hd⟩, _⟩ b hb
    rcases two hb with rfl | rfl
    · exact ⟨_, he, fun v q => nomatch q⟩
    · exact ⟨o, ho, fun v q => by rw [hd] at q; cases q⟩
  · rintro i h h' ⟨⟨old, he⟩, hi, ne⟩ k
    exact ⟨⟨old, k e (by simp) _ he⟩, hi.at fun o q => k it (by simp) o q, ne⟩
  · intro X hP hw hK hc i pins s σ H E I hf st hg
    subst hP hw hK
    obtain ⟨⟨old, he⟩, hit, ne⟩ := st
    obtain ⟨xs, x, hq, hx⟩ := hg
    obtain ⟨its, rv, p, _⟩ := I.tuple hq
    obtain ⟨u, hu, ru⟩ := rv.get hx
    have le : e < s.heap.objs.size := Heap.lt_size he
    have li : it < s.heap.objs.size := by obtain ⟨_, q, _⟩ := hit; exact Heap.lt_size q
    have ea : e ≠ a := fun z => by
      obtain ⟨o, ho, hcl, _⟩ := p
      rw [← z, he] at ho
      cases ho
      exact absurd (Value.type.inj hcl) (by decide)
    have ia : a ≠ it := fun z => by
      obtain ⟨o, ho, hcl, _⟩ := p
      obtain ⟨o2, ho2, hcl2, _⟩ := hit
      rw [z, ho2] at ho
      cases ho
      rw [hcl2] at hcl
      exact absurd (Value.type.inj hcl) (by decide)
    have ilt : i < its.toArray.size := by
      have := (List.getElem?_eq_some_iff.mp hu).1
      simpa using this
    refine wpAny_pyNext_enum_itemD (Draws.tuple (A := X.A.in1) (I.ok.hd hc) it a ia its.toArray) he ⟨hit, p⟩ ilt ne (by simp [ne, ea]) fun y h' tk hy ho st' hT hsz hk => ?_
    obtain rfl : y = u := by
      have hy' : its[i]? = some y := by simpa using hy
      rw [hu] at hy'
      exact (Option.some.inj hy').symm
    refine ⟨_, rfl, wpAny_letOwnedTupleGo_enum (s := { s with heap := h', toks := tk + 1 }) ho fun h2 he2 sb => ?_⟩
    have same : ∀ b, b ≠ e → h2.get? b = h'.get? b := fun b hb => sb.2 b hb
    have T2 : h2.get? s.heap.objs.size = some { cls := .type "tuple", data := .seq #[.int i tk, y] } := (same _ (Nat.ne_of_gt le)).trans hT
    have ok : ObjOk X.prog X.w (upd H s.heap.objs.size (.tup [.int (i : Nat), x])) h2 s.heap.objs.size (.tup [.int (i : Nat), x]) :=
      ⟨by show 2 ≤ sizeLine; decide, [.int i tk, y], .cons ⟨_, rfl⟩ (.cons ru .nil), ⟨_, T2, rfl, _, rfl⟩⟩
    have J : Inv X pins σ (upd H s.heap.objs.size (.tup [.int (i : Nat), x])) { s with heap := h2, toks := tk + 1 } :=
      I.turnedNew (ch := [e, it]) (fun b ob hb q => (same b (fun z => hb (by simp [z]))).trans (hk b ob (fun z => hb (by simp [z])) (fun z => hb (by simp [z])) q)) hf (Nat.le_refl _) ok
    refine ⟨.ref s.heap.objs.size, _, J, rfl, ⟨_, x, rfl, I.hok.fresh (Nat.le_refl _), rfl, fun ys hy => by rw [I.tuple_inj hy hq]; exact hx⟩, ⟨⟨y, ?_⟩, st'.1.at fun o q => (same it (Ne.symm ne)).trans q, ne⟩, fun b hb => ?_⟩
    · rw [show ((i + 1 : Nat) : Int) = (i : Int) + 1 by omega]
      exact he2
    · have lb : b < s.heap.objs.size := by rcases two hb with z | z <;> rw [z] <;> assumption
      rw [upd_ne (Nat.ne_of_lt lb)]
      exact (hf b hb).1
  · intro X hP hw hK hc i pins s σ H E I hf st hg
    subst hP hw hK
    obtain ⟨⟨old, he⟩, hit, ne⟩ := st
    obtain ⟨xs, hq, hx⟩ := hg
    obtain ⟨its, rv, p, _⟩ := I.tuple hq
    obtain ⟨f0, f1, f2, f3, f4, f5⟩ := hf it (by simp)
    have ll := rv.length
    have ia : a ≠ it := fun z => by
      obtain ⟨o, ho, hcl, _⟩ := p
      obtain ⟨o2, ho2, hcl2, _⟩ := hit
      rw [z, ho2] at ho
      cases ho
      rw [hcl2] at hcl
      exact absurd (Value.type.inj hcl) (by decide)
    exact enum_endT (I.ok.hd hc) he hit p ia (by simp; omega) fun h' eb => ⟨rfl, I.turned (t' := s.toks) (fun b o hb q => eb b o hb q) f0 f1 f3 f4 f5⟩
  · exact fun A i s Q E st h => let ⟨⟨_, he⟩, _⟩ := st; wpAny_pyIter_enum he h
where
  enum_endT {prog : Program} {w : World} {A : Around} {E : Value → Shared → Prop} {s : Shared} {e it t : Addr} {i : Nat} {items : Array Value} {old : Value} {Q : Option Value → Shared → Prop} (hh : A.handled = none) (he : IsEnum s.heap e it i old)
      (hit : s.heap.IsTupleIter it t i) (hT : s.heap.IsTuple t items) (ne : t ≠ it) (hx : items.size ≤ i) (hQ : ∀ h', Heap.ExtBut it s.heap h' → Q none { s with heap := h' }) : wpAny (model prog w) A (pyNext (.ref e)) Q E s := by
    have ty : s.TypeIs (.ref e) "enumerate" := ⟨_, he, rfl⟩
    unfold pyNext
    refine wpAny_bind (wpAny_attempt (wpAny_callSpecial?_slot (name := Str.ofString "__next__") ty F.slot_enumerate_next (wpAny_call_entry F.slot_enumerate_next ty F.entry_enumerate_next ?_ (F.args_enumerate_next_1 _))))
    show wpAny _ _ (field (.ref e) 2 >>= _) _ _ _
    refine wpAny_bind (wpAny_field he rfl (x := .ref it) rfl (wpAny_bind (wpAny_nextOf_tuple_end hh hit hT (Array.getElem?_eq_none hx) fun h' x eb ⟨o, ho, hc⟩ => ?_)))
    exact wpAny_bind (wpAny_isInstance (T := "StopIteration") (b := true) ⟨o, ho, hc⟩ isSubtype_stop (wpAny_pure (hQ _ eb)))
def iEnumQ (K : PySem.W.Frag) (ta : TA) : TI := fun σ H R => ta σ H fun vs H1 => ∃ a, vs = [.ref a] ∧ (((∃ xs, SqL K H1 a xs) ∧ R (Ite K a) H1) ∨ ((∃ xs, SqT K H1 a xs) ∧ R (Iten K a) H1))
theorem pi_enumQ {X : Cx} {e : Expr} {ta : TA} {p pos tpos : Pos} {elts : List Expr} {kk : Nat} (hg : Gl X "enumerate") (hm : X.mg "enumerate" = none) (ha : PA X [e] ta) (hs : starEach [e] X.env = [(false, eval e X.env)] := by rfl) :
    PI X (.Tuple elts kk tpos) (.Call (.Name "enumerate" p) [e] [] pos) (iEnumQ X.K ta) := by
  refine ⟨fun pins s σ H R I h => ?_⟩
  refine Call_ (ld_blt I hg hm boot_enumerate (PyProof.Rows.callWith_type1 (thn (ha.run pos pins s σ H _ I h) fun us s1 ⟨vs, H1, I1, r1, q1⟩ => ?_) hs rfl))
  obtain ⟨a, rfl, q1⟩ := q1
  have fp : ∀ b ∈ [s1.heap.objs.size + 1, s1.heap.objs.size], s1.heap.objs.size ≤ b := fun b hb => by
    have e' : b = s1.heap.objs.size + 1 ∨ b = s1.heap.objs.size := by simpa using hb
    rcases e' with z | z <;> rw [z]
    · exact Nat.le_succ _
    · exact Nat.le_refl _
  cases r1 with
  | cons r rr =>
    cases rr
    cases r
    rcases q1 with ⟨⟨xs, hq⟩, q⟩ | ⟨⟨xs, hq⟩, q⟩
    · obtain ⟨its, rv, p', _⟩ := I1.list hq
      refine call_enumerate_list p'.isList fun h' he hit _ hk => wpAny_pyIter_enum he ?_
      exact ⟨s1.heap.objs.size + 1, [s1.heap.objs.size + 1, s1.heap.objs.size], _, _, H1, rfl, I1.kept (t' := s1.toks) hk, turn_enum a (s1.heap.objs.size + 1) s1.heap.objs.size, ⟨⟨.none, he⟩, hit, Nat.succ_ne_self _⟩, fun b hb => I1.fpOk (fp b hb) (I1.hok.fresh (fp b hb)), q⟩
    · obtain ⟨its, rv, p', _⟩ := I1.tuple hq
      refine RT.call_enum_tup (show s1.heap.IsTuple a its.toArray from p') fun h' he hit hk => wpAny_pyIter_enum he ?_
      exact ⟨s1.heap.objs.size + 1, [s1.heap.objs.size + 1, s1.heap.objs.size], _, _, H1, rfl, I1.kept (t' := s1.toks) hk, turn_enumT a (s1.heap.objs.size + 1) s1.heap.objs.size, ⟨⟨.none, he⟩, hit, Nat.succ_ne_self _⟩, fun b hb => I1.fpOk (fp b hb) (I1.hok.fresh (fp b hb)), q⟩
theorem walk_enumT {K : PySem.W.Frag} {a : Addr} {xs : List V} : Walk (Iten K a) xs.length (fun H => SqT K H a xs) (YPair (fun i => some (.int (i : Nat))) (fun i => xs[i]?)) := by
  refine ⟨fun i _ hi q => ⟨xs, xs[i], q, by simp [hi]⟩, fun _ q => ⟨xs, q, Nat.le_refl _⟩, fun i H v H' _ q y => ?_⟩
  obtain ⟨T, x, h1, h2, h3, h4⟩ := y
  exact ⟨T, .int (i : Nat), x, h1, h2, h3, rfl, h4 xs q⟩
end L2
namespace L2
open PySem PySem.Spec PyProof.Rows
/-- a method of a list and such, within a comprehension: the reading is told without the block's own context -/
theorem pe_bmK {X : Cx} {K : PySem.W.Frag} {o e : Expr} {es : List Expr} {to : TE} {t : TA} {name : Str} {apos cpos : Pos} {T id : String} {r : V → List V → Hp → VK → Prop} (pa : PlainAttrs T) (slot : Slot T name id) (hty : typeOf (.builtin id) = pure (.type "method_descriptor"))
    (hm : MtR X id r) (ho : PE X o to) (ha : PA X (e :: es) t) (hK : X.K = K := by rfl) (hbase : attributeBase o name X.env (eval o X.env) = eval o X.env := by rfl)
    (hfew : ((backTo cpos (starEach (e :: es) X.env)).all (fun x => !x.1) && (backToKw cpos (keywordEach [] X.env)).all (fun x => x.1.isSome)
      && decide ((e :: es).length + ([] : List Keyword).length + (if ([] : List Keyword).isEmpty then 0 else 1) < 30)) = true := by rfl)
    (hline : (apos.endLine == cpos.line) = true := by rfl) (hs : starEach (e :: es) X.env = (false, eval e X.env) :: starEach es X.env := by rfl) (hplain : (backTo cpos (starEach es X.env)).any (·.1) = false := by rfl) :
    PE X (.Call (.Attribute o name apos) (e :: es) [] cpos) (tBM K T r to t) := by
  subst hK
  exact pe_bm pa slot hty hm ho ha hbase hfew hline hs hplain
end L2
namespace L2
open PySem PySem.Spec PyProof.Rows
theorem for_enumQ {K : PySem.W.Frag} {a : Addr} {xs : List V} {g : TG} {tb : TS} {D : Ends} {σ : St} {H0 H : Hp} (hq : SqL K H0 a xs ∨ SqT K H0 a xs) (Pv : Nat → St → Hp → Prop) (h0 : Pv 0 σ H) (hl : ∀ i σ' H', i ≤ xs.length → Pv i σ' H' → ∀ ys, (SqL K H0 a ys → SqL K H' a ys) ∧ (SqT K H0 a ys → SqT K H' a ys))
    (hs : ∀ i x t σ H, xs[i]? = some x → Pv i σ H → H t = none → g (.ref t) σ (upd H t (.tup [.int (i : Nat), x])) fun σ2 H2 => tb { D with nx := Pv (i + 1), ct := Pv (i + 1), bk := D.nx } σ2 H2) (hd : ∀ σ H, Pv xs.length σ H → D.nx σ H) :
    ∃ a', [V.ref a] = [V.ref a'] ∧ (((∃ xs, SqL K H a' xs) ∧ ∃ W : Nat → Nat → St → Hp → Prop, (∃ m, W 0 m σ H) ∧ ∀ i m σ H, W i m σ H →
      ((Ite K a').stop i H ∧ D.nx σ H) ∨ ((Ite K a').go i H ∧ ∃ N : St → Hp → Prop, (∀ σ' H', N σ' H' → ∃ m', m' < m ∧ W (i + 1) m' σ' H') ∧ ∀ x H', (Ite K a').yld i H x H' → g x σ H' fun σ2 H2 => tb { D with nx := N, ct := N, bk := D.nx } σ2 H2)) ∨
      ((∃ xs, SqT K H a' xs) ∧ ∃ W : Nat → Nat → St → Hp → Prop, (∃ m, W 0 m σ H) ∧ ∀ i m σ H, W i m σ H →
      ((Iten K a').stop i H ∧ D.nx σ H) ∨ ((Iten K a').go i H ∧ ∃ N : St → Hp → Prop, (∀ σ' H', N σ' H' → ∃ m', m' < m ∧ W (i + 1) m' σ' H') ∧ ∀ x H', (Iten K a').yld i H x H' → g x σ H' fun σ2 H2 => tb { D with nx := N, ct := N, bk := D.nx } σ2 H2))) := by
  have turn : ∀ i x σ H H', i < xs.length → Pv i σ H → YPair (fun i => some (.int (i : Nat))) (fun i => xs[i]?) i H x H' → g x σ H' fun σ2 H2 => tb { D with nx := Pv (i + 1), ct := Pv (i + 1), bk := D.nx } σ2 H2 := by
    rintro i x σ H H' hi p ⟨t, u, v, rfl, nt, rfl, hu, hv⟩
    cases hu
    exact hs i v t σ H hv p nt
  rcases hq with hq | hq
  · exact ⟨a, rfl, .inl ⟨⟨_, (hl 0 σ H (Nat.zero_le _) h0 xs).1 hq⟩, for_it (walk_enum (K := K) (a := a) (xs := xs)) Pv h0 (fun i σ H hi p => (hl i σ H hi p xs).1 hq) turn hd⟩⟩
  · exact ⟨a, rfl, .inr ⟨⟨_, (hl 0 σ H (Nat.zero_le _) h0 xs).2 hq⟩, for_it (walk_enumT (K := K) (a := a) (xs := xs)) Pv h0 (fun i σ H hi p => (hl i σ H hi p xs).2 hq) turn hd⟩⟩
end L2

/-! Mathematics of law_k32: joints, groups, ways, phases. Plain Lean. -/
namespace K32
structure J where
  ix : Nat
  i : Nat
  j : Nat
deriving DecidableEq
abbrev SM := List (Nat × Nat × Int)
/-- groups -/
inductive Conn (js : List J) (u : Nat) : Nat → Prop
  | refl : Conn js u u
  | fwd {e : J} : Conn js u e.i → e ∈ js → Conn js u e.j
  | bwd {e : J} : Conn js u e.j → e ∈ js → Conn js u e.i
theorem Conn.trans {js : List J} {u v x : Nat} (h : Conn js u v) (g : Conn js v x) : Conn js u x := by
  induction g with
  | refl => exact h
  | fwd _ m ih => exact .fwd ih m
  | bwd _ m ih => exact .bwd ih m
theorem Conn.symm {js : List J} {u v : Nat} (h : Conn js u v) : Conn js v u := by
  induction h with
  | refl => exact .refl
  | @fwd e _ m ih => exact (Conn.bwd (.refl : Conn js e.j e.j) m).trans ih
  | @bwd e _ m ih => exact (Conn.fwd (.refl : Conn js e.i e.i) m).trans ih
theorem Conn.mono {js js' : List J} {u v : Nat} (s : ∀ e ∈ js, e ∈ js') (h : Conn js u v) : Conn js' u v := by
  induction h with
  | refl => exact .refl
  | fwd _ m ih => exact .fwd ih (s _ m)
  | bwd _ m ih => exact .bwd ih (s _ m)
theorem Conn.closed {js : List J} {u v : Nat} {S : Nat → Bool} (c : ∀ e ∈ js, S e.i = S e.j) (h : Conn js u v) (hu : S u = true) : S v = true := by
  induction h with
  | refl => exact hu
  | fwd _ m ih => rw [← c _ m]; exact ih
  | bwd _ m ih => rw [c _ m]; exact ih
theorem Conn.edge {js : List J} {e : J} (m : e ∈ js) (u : Nat) : Conn js u e.i ↔ Conn js u e.j := ⟨fun h => .fwd h m, fun h => .bwd h m⟩
theorem Conn.nil {u v : Nat} (h : Conn [] u v) : u = v := by
  induction h with
  | refl => rfl
  | fwd _ m _ => cases m
  | bwd _ m _ => cases m
theorem Conn.lt {js : List J} {n u v : Nat} (b : ∀ e ∈ js, e.i < n ∧ e.j < n) (h : Conn js u v) (hu : u < n) : v < n := by
  induction h with
  | refl => exact hu
  | fwd _ m _ => exact (b _ m).2
  | bwd _ m _ => exact (b _ m).1
/-- two groups made one -/
theorem Conn.joined {js : List J} {e : J} {u v : Nat} (h : Conn (js ++ [e]) u v) : Conn js u v ∨ (Conn js u e.i ∧ Conn js e.j v) ∨ (Conn js u e.j ∧ Conn js e.i v) := by
  induction h with
  | refl => exact .inl .refl
  | @fwd f h m ih =>
    rcases List.mem_append.mp m with m | m
    · rcases ih with q | ⟨q, r⟩ | ⟨q, r⟩
      · exact .inl (.fwd q m)
      · exact .inr (.inl ⟨q, .fwd r m⟩)
      · exact .inr (.inr ⟨q, .fwd r m⟩)
    · rw [List.mem_singleton.mp m] at ih ⊢
      rcases ih with q | ⟨q, r⟩ | ⟨q, r⟩
      · exact .inr (.inl ⟨q, .refl⟩)
      · exact .inr (.inl ⟨q, .refl⟩)
      · exact .inl q
  | @bwd f h m ih =>
    rcases List.mem_append.mp m with m | m
    · rcases ih with q | ⟨q, r⟩ | ⟨q, r⟩
      · exact .inl (.bwd q m)
      · exact .inr (.inl ⟨q, .bwd r m⟩)
      · exact .inr (.inr ⟨q, .bwd r m⟩)
    · rw [List.mem_singleton.mp m] at ih ⊢
      rcases ih with q | ⟨q, r⟩ | ⟨q, r⟩
      · exact .inr (.inr ⟨q, .refl⟩)
      · exact .inl q
      · exact .inr (.inr ⟨q, .refl⟩)
/-! ### alike but for whole periods -/
def Cg (m a b : Int) : Prop := ∃ k : Int, a - b = m * k
theorem Cg.refl (m a : Int) : Cg m a a := ⟨0, by rw [Int.mul_zero]; omega⟩
theorem Cg.symm {m a b : Int} (h : Cg m a b) : Cg m b a := by
  obtain ⟨k, e⟩ := h
  exact ⟨-k, by rw [Int.mul_neg]; omega⟩
theorem Cg.trans {m a b c : Int} (h : Cg m a b) (g : Cg m b c) : Cg m a c := by
  obtain ⟨k, e⟩ := h
  obtain ⟨l, f⟩ := g
  exact ⟨k + l, by rw [Int.mul_add]; omega⟩
theorem Cg.add {m a b c d : Int} (h : Cg m a b) (g : Cg m c d) : Cg m (a + c) (b + d) := by
  obtain ⟨k, e⟩ := h
  obtain ⟨l, f⟩ := g
  exact ⟨k + l, by rw [Int.mul_add]; omega⟩
theorem Cg.sub {m a b c d : Int} (h : Cg m a b) (g : Cg m c d) : Cg m (a - c) (b - d) := by
  obtain ⟨k, e⟩ := h
  obtain ⟨l, f⟩ := g
  exact ⟨k - l, by rw [Int.mul_sub]; omega⟩
theorem Cg.fmod {m a b : Int} (hm : 0 < m) : Cg m a b ↔ a.fmod m = b.fmod m := by
  rw [Int.fmod_eq_emod_of_nonneg _ (Int.le_of_lt hm), Int.fmod_eq_emod_of_nonneg _ (Int.le_of_lt hm)]
  constructor
  · rintro ⟨k, e⟩
    rw [show a = b + m * k by omega, Int.add_mul_emod_self_left]
  · intro e
    refine ⟨a / m - b / m, ?_⟩
    have h1 := Int.mul_ediv_add_emod a m
    have h2 := Int.mul_ediv_add_emod b m
    rw [Int.mul_sub]
    omega
theorem Cg.self {m : Int} (hm : 0 < m) (a : Int) : Cg m (a.fmod m) a := by
  rw [Int.fmod_eq_emod_of_nonneg _ (Int.le_of_lt hm)]
  refine ⟨-(a / m), ?_⟩
  have h1 := Int.mul_ediv_add_emod a m
  rw [Int.mul_neg]
  omega
theorem Cg.zero {m a b : Int} (hm : 0 < m) : (a - b).fmod m = 0 ↔ Cg m a b := by
  have h0 : (0 : Int).fmod m = 0 := Int.zero_fmod m
  constructor
  · intro h
    obtain ⟨k, e⟩ := (Cg.fmod hm (a := a - b) (b := 0)).mpr (by rw [h, h0])
    exact ⟨k, by omega⟩
  · rintro ⟨k, e⟩
    have := (Cg.fmod hm (a := a - b) (b := 0)).mp ⟨k, by omega⟩
    rw [this, h0]
/-! ### the sums' differences, phases that fit -/
def dif (sums : SM) (t : Nat) : Int := match sums[t]? with
  | some q => q.2.2
  | none => 0
def Pot (sums : SM) (m : Int) (js : List J) (p : Nat → Int) : Prop := ∀ e ∈ js, Cg m (p e.i + dif sums e.ix) (p e.j)
theorem Pot.uniq {sums : SM} {m : Int} {js : List J} {p p' : Nat → Int} (h : Pot sums m js p) (h' : Pot sums m js p') {u v : Nat} (c : Conn js u v) : Cg m (p v - p u) (p' v - p' u) := by
  induction c with
  | refl => rw [show p u - p u = p' u - p' u by omega]; exact .refl _ _
  | @fwd e _ me ih =>
    have a := (h e me).sub (h' e me)
    have b := ih.sub (Cg.refl m 0)
    obtain ⟨k, ek⟩ := a
    obtain ⟨l, el⟩ := b
    exact ⟨l - k, by rw [Int.mul_sub]; omega⟩
  | @bwd e _ me ih =>
    have a := (h e me).sub (h' e me)
    have b := ih.sub (Cg.refl m 0)
    obtain ⟨k, ek⟩ := a
    obtain ⟨l, el⟩ := b
    exact ⟨l + k, by rw [Int.mul_add]; omega⟩
theorem Pot.flip {sums : SM} {m : Int} {js : List J} {p p' : Nat → Int} (h : Pot sums m js p) (h' : Pot sums m js p') {u v : Nat} (c : Conn js u v) {d : Int} (g : Cg m (p u + d) (p v)) : Cg m (p' u + d) (p' v) := by
  obtain ⟨k, ek⟩ := h.uniq h' c
  obtain ⟨l, el⟩ := g
  exact ⟨l + k, by rw [Int.mul_add]; omega⟩
/-- the joints behind t sums -/
inductive St (sums : SM) (m : Int) : Nat → List J → Prop
  | zero : St sums m 0 []
  | add {t : Nat} {js : List J} {i j : Nat} {d : Int} : St sums m t js → sums[t]? = some (i, j, d) → ¬ Conn js i j → St sums m (t + 1) (js ++ [⟨t, i, j⟩])
  | old {t : Nat} {js : List J} {i j : Nat} {d : Int} {p : Nat → Int} : St sums m t js → sums[t]? = some (i, j, d) → Conn js i j → Pot sums m js p → Cg m (p i + d) (p j) → St sums m (t + 1) js
theorem St.at {sums : SM} {m : Int} {t : Nat} {js : List J} (h : St sums m t js) : ∀ e ∈ js, e.ix < t ∧ sums[e.ix]? = some (e.i, e.j, dif sums e.ix) := by
  induction h with
  | zero => intro e he; cases he
  | @add t js i j d _ hs _ ih =>
    intro e he
    rcases List.mem_append.mp he with he | he
    · exact ⟨Nat.lt_succ_of_lt (ih e he).1, (ih e he).2⟩
    · rw [List.mem_singleton.mp he]
      refine ⟨Nat.lt_succ_self _, ?_⟩
      show sums[t]? = some (i, j, dif sums t)
      unfold dif
      rw [hs]
  | old _ _ _ _ _ ih => intro e he; exact ⟨Nat.lt_succ_of_lt (ih e he).1, (ih e he).2⟩
theorem St.inj {sums : SM} {m : Int} {t : Nat} {js : List J} (h : St sums m t js) {e f : J} (he : e ∈ js) (hf : f ∈ js) (q : e.ix = f.ix) : e = f := by
  have a := (h.at e he).2
  have b := (h.at f hf).2
  rw [q, b] at a
  cases e
  cases f
  simp_all
theorem St.nd {sums : SM} {m : Int} {t : Nat} {js : List J} (h : St sums m t js) : js.Nodup := by
  induction h with
  | zero => exact List.nodup_nil
  | @add t js i j d h' _ _ ih =>
    refine List.nodup_append.mpr ⟨ih, by simp, fun e he f hf q => ?_⟩
    have := (h'.at e he).1
    rw [q, List.mem_singleton.mp hf] at this
    exact Nat.lt_irrefl _ this
  | old _ _ _ _ _ ih => exact ih
theorem St.len {sums : SM} {m : Int} {t : Nat} {js : List J} (h : St sums m t js) : js.length ≤ t ∧ t ≤ sums.length := by
  induction h with
  | zero => exact ⟨Nat.le_refl _, Nat.zero_le _⟩
  | add _ hs _ ih =>
    have := (List.getElem?_eq_some_iff.mp hs).1
    rw [List.length_append, List.length_singleton]
    omega
  | old _ hs _ _ _ ih =>
    have := (List.getElem?_eq_some_iff.mp hs).1
    omega
theorem St.det {sums : SM} {m : Int} {t : Nat} {js js' : List J} (h : St sums m t js) (h' : St sums m t js') : js = js' := by
  induction h generalizing js' with
  | zero => cases h'; rfl
  | add _ hs nc ih =>
    cases h' with
    | add h2 hs2 _ =>
      rw [hs] at hs2
      cases hs2
      rw [ih h2]
    | old h2 hs2 c _ _ =>
      rw [hs] at hs2
      cases hs2
      rw [← ih h2] at c
      exact (nc c).elim
  | old _ hs c _ _ ih =>
    cases h' with
    | add h2 hs2 nc =>
      rw [hs] at hs2
      cases hs2
      rw [← ih h2] at nc
      exact (nc c).elim
    | old h2 hs2 _ _ _ => exact ih h2
theorem St.le {sums : SM} {m : Int} {n : Nat} {js' : List J} (h : St sums m n js') {t : Nat} {js : List J} {i j : Nat} {d : Int} {p : Nat → Int} (st : St sums m t js) (hs : sums[t]? = some (i, j, d)) (c : Conn js i j) (hp : Pot sums m js p) (bad : ¬ Cg m (p i + d) (p j)) : n ≤ t := by
  induction h with
  | zero => exact Nat.zero_le _
  | @add t2 js2 i2 j2 d2 h2 hs2 nc ih =>
    rcases Nat.lt_or_ge t2 t with q | q
    · exact q
    · have e : t2 = t := by omega
      subst e
      rw [h2.det st] at nc
      rw [hs] at hs2
      cases hs2
      exact (nc c).elim
  | @old t2 js2 i2 j2 d2 p2 h2 hs2 c2 hp2 ok ih =>
    rcases Nat.lt_or_ge t2 t with q | q
    · exact q
    · have e : t2 = t := by omega
      subst e
      have e2 := h2.det st
      subst e2
      rw [hs] at hs2
      cases hs2
      exact (bad (hp2.flip hp c ok)).elim
/-! ### a forest: each joint is a cut -/
def Forest (js : List J) : Prop := ∀ e ∈ js, ∃ s : Nat → Bool, s e.i ≠ s e.j ∧ ∀ f ∈ js, f ≠ e → s f.i = s f.j
theorem Forest.add {js : List J} {e : J} (h : Forest js) (ne : e ∉ js) (nc : ¬ Conn js e.i e.j) : Forest (js ++ [e]) := by
  classical
  intro f hf
  rcases List.mem_append.mp hf with hf | hf
  · obtain ⟨s, s1, s2⟩ := h f hf
    refine ⟨fun v => if Conn js e.j v then (s v).xor ((s e.i).xor (s e.j)) else s v, ?_, fun g hg gf => ?_⟩
    · dsimp only
      by_cases c : Conn js e.j f.i
      · rw [if_pos c, if_pos ((Conn.edge hf _).mp c)]
        revert s1
        cases s f.i <;> cases s f.j <;> cases s e.i <;> cases s e.j <;> decide
      · rw [if_neg c, if_neg (fun z => c ((Conn.edge hf _).mpr z))]
        exact s1
    · dsimp only
      rcases List.mem_append.mp hg with hg | hg
      · by_cases c : Conn js e.j g.i
        · rw [if_pos c, if_pos ((Conn.edge hg _).mp c), s2 g hg gf]
        · rw [if_neg c, if_neg (fun z => c ((Conn.edge hg _).mpr z)), s2 g hg gf]
      · rw [List.mem_singleton.mp hg, if_neg (fun z => nc z.symm), if_pos .refl]
        cases s e.i <;> cases s e.j <;> rfl
  · rw [List.mem_singleton.mp hf]
    refine ⟨fun v => decide (Conn js e.i v), ?_, fun g hg ge => ?_⟩
    · dsimp only
      rw [decide_eq_true Conn.refl, decide_eq_false nc]
      decide
    · rcases List.mem_append.mp hg with hg | hg
      · exact decide_eq_decide.mpr (Conn.edge hg _)
      · exact (ge (List.mem_singleton.mp hg)).elim
theorem St.forest {sums : SM} {m : Int} {t : Nat} {js : List J} (h : St sums m t js) : Forest js := by
  induction h with
  | zero => intro e he; cases he
  | @add t js i j d h' hs nc ih => exact ih.add (fun z => Nat.lt_irrefl _ (h'.at _ z).1) nc
  | old _ _ _ _ _ ih => exact ih
/-! ### ways -/
structure Step where
  e : J
  up : Bool
deriving DecidableEq
def Step.src (s : Step) : Nat := if s.up then s.e.i else s.e.j
def Step.dst (s : Step) : Nat := if s.up then s.e.j else s.e.i
def Step.sg (s : Step) : Int := if s.up then 1 else -1
def tell (W : List Step) : List (Nat × Int) := W.map fun s => (s.e.ix, s.sg)
structure Pth (js : List J) (a b : Nat) (W : List Step) (vs : List Nat) : Prop where
  nd : vs.Nodup
  len : vs.length = W.length + 1
  first : vs[0]? = some a
  last : vs[W.length]? = some b
  step : ∀ (k : Nat) (s : Step), W[k]? = some s → s.e ∈ js ∧ vs[k]? = some s.src ∧ vs[k + 1]? = some s.dst
theorem Pth.nil (js : List J) (a : Nat) : Pth js a a [] [a] := ⟨by simp, rfl, rfl, rfl, fun k s h => by simp at h⟩
theorem Pth.snoc {js : List J} {a b : Nat} {W : List Step} {vs : List Nat} (h : Pth js a b W vs) {s : Step} (hs : s.e ∈ js) (hb : s.src = b) (hn : s.dst ∉ vs) : Pth js a s.dst (W ++ [s]) (vs ++ [s.dst]) := by
  have hl := h.len
  have ends : (vs ++ [s.dst])[W.length + 1]? = some s.dst := by rw [← hl, List.getElem?_append_right (Nat.le_refl _), Nat.sub_self]; rfl
  refine ⟨?_, ?_, ?_, ?_, fun k x hx => ?_⟩
  · refine List.nodup_append.mpr ⟨h.nd, by simp, fun x hx y hy e => hn ?_⟩
    rw [List.mem_singleton.mp hy] at e
    exact e ▸ hx
  · rw [List.length_append, List.length_append, hl]
    rfl
  · rw [List.getElem?_append_left (by omega)]
    exact h.first
  · rw [List.length_append]
    exact ends
  · rcases Nat.lt_trichotomy k W.length with q | q | q
    · rw [List.getElem?_append_left q] at hx
      obtain ⟨x1, x2, x3⟩ := h.step k x hx
      exact ⟨x1, by rw [List.getElem?_append_left (by omega)]; exact x2, by rw [List.getElem?_append_left (by omega)]; exact x3⟩
    · subst q
      rw [List.getElem?_append_right (Nat.le_refl _), Nat.sub_self] at hx
      obtain rfl : s = x := by simpa using hx
      exact ⟨hs, by rw [List.getElem?_append_left (by omega), hb]; exact h.last, ends⟩
    · rw [List.getElem?_eq_none (by rw [List.length_append, List.length_singleton]; omega)] at hx
      cases hx
theorem Pth.cut {js : List J} {a b : Nat} {W : List Step} {vs : List Nat} (h : Pth js a b W vs) {k v : Nat} (hv : vs[k]? = some v) : Pth js a v (W.take k) (vs.take (k + 1)) := by
  have hl := h.len
  have hk : k < vs.length := (List.getElem?_eq_some_iff.mp hv).1
  refine ⟨h.nd.sublist (List.take_sublist _ _), ?_, ?_, ?_, fun n s hs => ?_⟩
  · rw [List.length_take, List.length_take]
    omega
  · rw [List.getElem?_take, if_pos (Nat.succ_pos _)]
    exact h.first
  · rw [List.length_take, List.getElem?_take, if_pos (by omega), show min k W.length = k by omega]
    exact hv
  · rw [List.getElem?_take] at hs
    by_cases q : n < k
    · rw [if_pos q] at hs
      obtain ⟨x1, x2, x3⟩ := h.step n s hs
      exact ⟨x1, by rw [List.getElem?_take, if_pos (by omega)]; exact x2, by rw [List.getElem?_take, if_pos (by omega)]; exact x3⟩
    · rw [if_neg q] at hs
      cases hs
theorem Pth.conn {js : List J} {a b : Nat} {W : List Step} {vs : List Nat} (h : Pth js a b W vs) : Conn js a b := by
  have key : ∀ (k v : Nat), vs[k]? = some v → Conn js a v := by
    intro k
    induction k with
    | zero =>
      intro v hv
      rw [h.first] at hv
      cases hv
      exact .refl
    | succ k ih =>
      intro v hv
      have hl := (List.getElem?_eq_some_iff.mp hv).1
      have hlen := h.len
      have hw : W[k]? = some W[k] := List.getElem?_eq_getElem (by omega)
      obtain ⟨h1, h2, h3⟩ := h.step k _ hw
      rw [hv] at h3
      cases h3
      have c := ih _ h2
      generalize W[k] = s at *
      unfold Step.src at c
      unfold Step.dst
      cases hu : s.up with
      | true =>
        rw [hu] at c
        exact .fwd c h1
      | false =>
        rw [hu] at c
        exact .bwd c h1
  exact key _ _ h.last
def Way (js : List J) (a b : Nat) (W : List Step) : Prop := ∃ vs, Pth js a b W vs
theorem Conn.way {js : List J} {a b : Nat} (h : Conn js a b) : ∃ W, Way js a b W := by
  induction h with
  | refl => exact ⟨[], _, .nil _ _⟩
  | @fwd e _ m ih =>
    obtain ⟨W, vs, h⟩ := ih
    by_cases q : e.j ∈ vs
    · obtain ⟨k, hk⟩ := List.getElem?_of_mem q
      exact ⟨_, _, h.cut hk⟩
    · exact ⟨_, _, h.snoc (s := ⟨e, true⟩) m rfl q⟩
  | @bwd e _ m ih =>
    obtain ⟨W, vs, h⟩ := ih
    by_cases q : e.i ∈ vs
    · obtain ⟨k, hk⟩ := List.getElem?_of_mem q
      exact ⟨_, _, h.cut hk⟩
    · exact ⟨_, _, h.snoc (s := ⟨e, false⟩) m rfl q⟩
theorem Pth.get {js : List J} {a b : Nat} {W : List Step} {vs : List Nat} (h : Pth js a b W vs) {k l v : Nat} (hk : vs[k]? = some v) (hl : vs[l]? = some v) : k = l := by
  have h1 := (List.getElem?_eq_some_iff.mp hk).1
  exact (List.getElem?_inj h1 h.nd).mp (hk.trans hl.symm)
theorem Step.ends (s : Step) : (s.src = s.e.i ∧ s.dst = s.e.j) ∨ (s.src = s.e.j ∧ s.dst = s.e.i) := by
  unfold Step.src Step.dst
  cases s.up with
  | true => exact .inl ⟨rfl, rfl⟩
  | false => exact .inr ⟨rfl, rfl⟩
/-- the k-th step's joint stands at the k-th and the next place, nowhere else -/
theorem Pth.where {js : List J} {a b : Nat} {W : List Step} {vs : List Nat} (h : Pth js a b W vs) {k n : Nat} {s : Step} (hs : W[k]? = some s) (hv : vs[n]? = some s.e.i ∨ vs[n]? = some s.e.j) : n = k ∨ n = k + 1 := by
  obtain ⟨_, h2, h3⟩ := h.step k s hs
  rcases s.ends with ⟨e1, e2⟩ | ⟨e1, e2⟩ <;> rw [e1] at h2 <;> rw [e2] at h3 <;> rcases hv with hv | hv
  · exact .inl (h.get hv h2)
  · exact .inr (h.get hv h3)
  · exact .inr (h.get hv h3)
  · exact .inl (h.get hv h2)
/-- no joint twice -/
theorem Pth.once {js : List J} {a b : Nat} {W : List Step} {vs : List Nat} (h : Pth js a b W vs) {k l : Nat} {s s' : Step} (hs : W[k]? = some s) (hs' : W[l]? = some s') (e : s.e = s'.e) : k = l := by
  obtain ⟨_, h2, h3⟩ := h.step k s hs
  obtain ⟨_, g2, g3⟩ := h.step l s' hs'
  have a1 := h.where (n := l) hs (by
    rw [e]
    rcases s'.ends with ⟨e1, _⟩ | ⟨e1, _⟩ <;> rw [e1] at g2
    · exact .inl g2
    · exact .inr g2)
  have a2 := h.where (n := l + 1) hs (by
    rw [e]
    rcases s'.ends with ⟨_, e1⟩ | ⟨_, e1⟩ <;> rw [e1] at g3
    · exact .inr g3
    · exact .inl g3)
  omega
/-- where a joint isn't used, its cut does not part -/
theorem Pth.notuse {js : List J} {a b : Nat} {W : List Step} {vs : List Nat} (h : Pth js a b W vs) {e : J} {T : Nat → Bool} (c : ∀ f ∈ js, f ≠ e → T f.i = T f.j) {n0 : Nat} {v0 : Nat} (h0 : vs[n0]? = some v0) (nu : ∀ (k : Nat) (s : Step), n0 ≤ k → W[k]? = some s → s.e ≠ e) : T v0 = T b := by
  have key : ∀ k v, n0 ≤ k → vs[k]? = some v → T v = T v0 := by
    intro k
    induction k with
    | zero =>
      intro v hk hv
      have : n0 = 0 := by omega
      subst this
      rw [h0] at hv
      cases hv
      rfl
    | succ k ih =>
      intro v hk hv
      rcases Nat.lt_or_ge k n0 with q | q
      · have : n0 = k + 1 := by omega
        subst this
        rw [h0] at hv
        cases hv
        rfl
      · have hl := (List.getElem?_eq_some_iff.mp hv).1
        have hlen := h.len
        have hw : W[k]? = some W[k] := List.getElem?_eq_getElem (by omega)
        obtain ⟨h1, h2, h3⟩ := h.step k _ hw
        rw [hv] at h3
        cases h3
        have := c _ h1 (nu k _ q hw)
        rw [← ih _ q h2]
        rcases W[k].ends with ⟨e1, e2⟩ | ⟨e1, e2⟩ <;> rw [e1, e2, this]
  have hlen := h.len
  have hle := (List.getElem?_eq_some_iff.mp h0).1
  exact (key W.length b (by omega) h.last).symm
theorem Pth.tail {js : List J} {a b : Nat} {s : Step} {W : List Step} {vs : List Nat} (h : Pth js a b (s :: W) vs) : s.e ∈ js ∧ s.src = a ∧ Pth js s.dst b W vs.tail := by
  obtain ⟨h1, h2, h3⟩ := h.step 0 s rfl
  have hl := h.len
  cases vs with
  | nil => simp at hl
  | cons v vs =>
    refine ⟨h1, ?_, ?_⟩
    · have := h.first
      rw [h2] at this
      exact Option.some.inj this
    · exact ⟨(List.nodup_cons.mp h.nd).2, by simpa using hl, h3, by simpa using h.last, fun k x hx => by
        have := h.step (k + 1) x (by simpa using hx)
        simpa using this⟩
theorem Pth.uniq {js : List J} (F : Forest js) {b : Nat} : ∀ {W W' : List Step} {a : Nat} {vs vs' : List Nat}, Pth js a b W vs → Pth js a b W' vs' → W = W'
  | [], [], _, _, _, _, _ => rfl
  | [], s :: W', a, vs, vs', h, h' => by
    have e1 := h.first
    have e2 := h.last
    rw [List.length_nil, e1] at e2
    cases e2
    have := h'.get h'.first h'.last
    simp at this
  | s :: W, [], a, vs, vs', h, h' => by
    have e1 := h'.first
    have e2 := h'.last
    rw [List.length_nil, e1] at e2
    cases e2
    have := h.get h.first h.last
    simp at this
  | s :: W, s' :: W', a, vs, vs', h, h' => by
    obtain ⟨t1, t2, t3⟩ := h.tail
    obtain ⟨u1, u2, u3⟩ := h'.tail
    obtain ⟨_, g2, g3⟩ := h.step 0 s rfl
    obtain ⟨_, k2, k3⟩ := h'.step 0 s' rfl
    by_cases q : s.e = s'.e
    · have e : s = s' := by
        obtain ⟨e, u⟩ := s
        obtain ⟨e', u'⟩ := s'
        have q' : e = e' := q
        subst q'
        have ne : e.i ≠ e.j := fun z => by
          have := h.get g2 (g3.trans (by cases u <;> simp [Step.src, Step.dst, z]))
          omega
        cases u <;> cases u' <;> simp [Step.src] at t2 u2 ⊢ <;> omega
      subst e
      rw [Pth.uniq F t3 u3]
    · exfalso
      obtain ⟨T, c1, c2⟩ := F _ t1
      have hf := h.first
      have a1 : T s.dst = T b := by
        refine h.notuse c2 g3 fun k x hk hx e => ?_
        have := h.once (k := 0) (s := s) rfl hx e.symm
        omega
      have a2 : T a = T b := by
        refine h'.notuse c2 h'.first fun k x hk hx e => ?_
        have hw := h'.where hx (n := 0) (by
          rw [h'.first, ← t2, e]
          rcases s.ends with ⟨e1, _⟩ | ⟨e1, _⟩
          · exact .inl (by rw [e1])
          · exact .inr (by rw [e1]))
        have k0 : k = 0 := by omega
        subst k0
        obtain rfl : s' = x := by simpa using hx
        exact q e.symm
      rw [← a1, ← t2] at a2
      rcases s.ends with ⟨e1, e2⟩ | ⟨e1, e2⟩ <;> rw [e1, e2] at a2
      · exact c1 a2
      · exact c1 a2.symm
/-! ### what a way adds up to -/
def tot (sums : SM) (l : List (Nat × Int)) : Int := (l.map fun q => q.2 * dif sums q.1).sum
theorem tot_snoc (sums : SM) (l : List (Nat × Int)) (q : Nat × Int) : tot sums (l ++ [q]) = tot sums l + q.2 * dif sums q.1 := by
  unfold tot
  rw [List.map_append, List.sum_append]
  simp
theorem tell_snoc (W : List Step) (s : Step) : tell (W ++ [s]) = tell W ++ [(s.e.ix, s.sg)] := by
  unfold tell
  rw [List.map_append]
  rfl
theorem Pth.adds {sums : SM} {m : Int} {js : List J} {p : Nat → Int} {a b : Nat} {W : List Step} {vs : List Nat} (h : Pth js a b W vs) (hp : Pot sums m js p) : Cg m (p a + tot sums (tell W)) (p b) := by
  have key : ∀ k v, vs[k]? = some v → Cg m (p a + tot sums (tell (W.take k))) (p v) := by
    intro k
    induction k with
    | zero =>
      intro v hv
      rw [h.first] at hv
      cases hv
      have : tot sums (tell (W.take 0)) = 0 := by rw [List.take_zero]; rfl
      rw [this, Int.add_zero]
      exact .refl _ _
    | succ k ih =>
      intro v hv
      have hl := (List.getElem?_eq_some_iff.mp hv).1
      have hlen := h.len
      have hw : W[k]? = some W[k] := List.getElem?_eq_getElem (by omega)
      obtain ⟨h1, h2, h3⟩ := h.step k _ hw
      rw [hv] at h3
      cases h3
      rw [List.take_add_one, hw]
      show Cg m (p a + tot sums (tell (W.take k ++ [W[k]]))) _
      rw [tell_snoc, tot_snoc]
      obtain ⟨x, ex⟩ := ih _ h2
      obtain ⟨y, ey⟩ := hp _ h1
      generalize W[k] = s at *
      unfold Step.src at ex
      unfold Step.dst Step.sg
      cases hu : s.up with
      | true =>
        rw [hu] at ex
        simp only [if_true] at ex ⊢
        exact ⟨x + y, by rw [Int.mul_add]; omega⟩
      | false =>
        rw [hu] at ex
        simp only [Bool.false_eq_true, if_false] at ex ⊢
        exact ⟨x - y, by rw [Int.mul_sub]; omega⟩
  have := key _ _ h.last
  rwa [List.take_length] at this
/-! ### loose ends fall off -/
def ends (rest : List J) : List Nat := rest.flatMap fun e => [e.i, e.j]
def lo (a b : Nat) (rest : List J) (x : Nat) : Bool := x != a && (x != b && ((ends rest).count x == 1))
def prune (a b : Nat) (rest : List J) : List J := rest.filter fun e => !(lo a b rest e.i || lo a b rest e.j)
theorem count_two {rest : List J} (nd : rest.Nodup) {e : J} {x : Nat} (he : e ∈ rest) (hx : [e.i, e.j].count x = 1) (c : (ends rest).count x ≠ 1) : ∃ f ∈ rest, f ≠ e ∧ (f.i = x ∨ f.j = x) := by
  obtain ⟨l1, l2, rfl⟩ := List.append_of_mem he
  have h1 : (ends (l1 ++ e :: l2)).count x = (ends l1).count x + ([e.i, e.j].count x + (ends l2).count x) := by
    unfold ends
    rw [List.flatMap_append, List.flatMap_cons, List.count_append, List.count_append]
  rw [h1, hx] at c
  have mem : ∀ l : List J, 0 < (ends l).count x → ∃ f ∈ l, f.i = x ∨ f.j = x := by
    intro l hl
    obtain ⟨f, hf, hm⟩ := List.mem_flatMap.mp (List.count_pos_iff.mp hl)
    refine ⟨f, hf, ?_⟩
    rcases List.mem_cons.mp hm with q | hm
    · exact .inl q.symm
    · exact .inr (List.mem_singleton.mp hm).symm
  have nd2 := List.nodup_append.mp nd
  by_cases q : 0 < (ends l1).count x
  · obtain ⟨f, hf, hx⟩ := mem l1 q
    exact ⟨f, by simp [hf], fun z => nd2.2.2 f hf e List.mem_cons_self z, hx⟩
  · obtain ⟨f, hf, hx⟩ := mem l2 (by omega)
    exact ⟨f, by simp [hf], fun z => (List.nodup_cons.mp nd2.2.1).1 (z ▸ hf), hx⟩
theorem loose_of {js rest : List J} (F : Forest js) (nd : rest.Nodup) (sub : ∀ e ∈ rest, e ∈ js) {n a b : Nat} (bd : ∀ e ∈ js, e.i < n ∧ e.j < n) : ∀ (c : Nat) (T : Nat → Bool) (e : J), ((List.range n).filter T).length ≤ c → e ∈ rest → T e.i ≠ T e.j → (∀ f ∈ rest, f ≠ e → T f.i = T f.j) → T a = false → T b = false →
    ∃ f ∈ rest, (lo a b rest f.i || lo a b rest f.j) = true := by
  intro c
  induction c with
  | zero =>
    intro T e hc he ht _ _ _
    have : (List.range n).filter T = [] := List.length_eq_zero_iff.mp (by omega)
    rw [List.filter_eq_nil_iff] at this
    have h1 := this e.i (List.mem_range.mpr (bd e (sub e he)).1)
    have h2 := this e.j (List.mem_range.mpr (bd e (sub e he)).2)
    simp only [Bool.not_eq_true] at h1 h2
    exact (ht (h1.trans h2.symm)).elim
  | succ c ih =>
    intro T e hc he ht hT ha hb
    -- the end within
    obtain ⟨x, hx, hxT, hex⟩ : ∃ x, (x = e.i ∨ x = e.j) ∧ T x = true ∧ [e.i, e.j].count x = 1 := by
      have ne : e.i ≠ e.j := fun z => ht (by rw [z])
      cases h1 : T e.i with
      | true => exact ⟨e.i, .inl rfl, h1, by rw [List.count_cons_self, List.count_cons_of_ne (Ne.symm ne)]; rfl⟩
      | false =>
        refine ⟨e.j, .inr rfl, ?_, by rw [List.count_cons_of_ne ne, List.count_cons_self]; rfl⟩
        rw [h1] at ht
        cases h2 : T e.j with
        | true => rfl
        | false => exact (ht h2.symm).elim
    have xa : x ≠ a := fun z => by rw [z, ha] at hxT; cases hxT
    have xb : x ≠ b := fun z => by rw [z, hb] at hxT; cases hxT
    have xn : x < n := by rcases hx with rfl | rfl; exact (bd e (sub e he)).1; exact (bd e (sub e he)).2
    by_cases one : (ends rest).count x = 1
    · refine ⟨e, he, ?_⟩
      have lx : lo a b rest x = true := by
        unfold lo
        simp [xa, xb, one]
      rcases hx with rfl | rfl
      · rw [lx]; rfl
      · rw [lx]; exact Bool.or_true _
    · obtain ⟨f, hf, fe, fx⟩ := count_two nd he hex one
      obtain ⟨s, s1, s2⟩ := F f (sub f hf)
      refine ih (fun v => T v && (s v != s x)) f ?_ hf ?_ ?_ (by simp [ha]) (by simp [hb])
      · have : ((List.range n).filter fun v => T v && (s v != s x)).length < ((List.range n).filter T).length := by
          have h1 : ((List.range n).filter fun v => T v && (s v != s x)) = ((List.range n).filter T).filter fun v => s v != s x := by
            rw [List.filter_filter]
            exact List.filter_congr fun v _ => Bool.and_comm _ _
          rw [h1]
          refine List.length_filter_lt_length_iff_exists.mpr ⟨x, List.mem_filter.mpr ⟨List.mem_range.mpr xn, hxT⟩, by simp⟩
        omega
      · have ff := hT f hf fe
        show (T f.i && (s f.i != s x)) ≠ (T f.j && (s f.j != s x))
        rcases fx with q | q
        · rw [← ff, q, hxT]
          rw [q] at s1
          simp
          exact fun z => s1 z.symm
        · rw [ff, q, hxT]
          rw [q] at s1
          simp
          exact fun z => s1 z
      · intro g hg gf
        show (T g.i && (s g.i != s x)) = (T g.j && (s g.j != s x))
        by_cases ge : g = e
        · subst ge
          have hh := s2 g (sub g hg) (Ne.symm fe)
          rcases hx with rfl | rfl
          · rw [hh]; simp
          · rw [hh]; simp
        · rw [hT g hg ge, s2 g (sub g hg) gf]
structure Rs (js : List J) (W : List Step) (rest : List J) : Prop where
  sub : rest.Sublist js
  all : ∀ s ∈ W, s.e ∈ rest
theorem Rs.prune {js : List J} {W : List Step} {rest : List J} {a b : Nat} {vs : List Nat} (h : Rs js W rest) (nd : js.Nodup) (P : Pth js a b W vs) : Rs js W (K32.prune a b rest) := by
  refine ⟨(List.filter_sublist).trans h.sub, fun s hs => ?_⟩
  refine List.mem_filter.mpr ⟨h.all s hs, ?_⟩
  obtain ⟨k, hk⟩ := List.getElem?_of_mem hs
  have hlen := P.len
  have rnd := nd.sublist h.sub
  -- an end at place n
  have key : ∀ n x, vs[n]? = some x → (n = k ∨ n = k + 1) → [s.e.i, s.e.j].count x = 1 → lo a b rest x = false := by
    intro n x hx hn hc
    cases q : lo a b rest x with
    | false => rfl
    | true =>
      exfalso
      unfold lo at q
      simp only [Bool.and_eq_true, bne_iff_ne, ne_eq, beq_iff_eq] at q
      obtain ⟨q1, q2, q3⟩ := q
      have hkl := (List.getElem?_eq_some_iff.mp hk).1
      have n0 : n ≠ 0 := fun z => by
        subst z
        rw [P.first] at hx
        exact q1 (Option.some.inj hx).symm
      have n1 : n ≠ W.length := fun z => by
        subst z
        rw [P.last] at hx
        exact q2 (Option.some.inj hx).symm
      -- the other joint at x
      obtain ⟨k', s', hk', hne, hs'⟩ : ∃ (k' : Nat) (s' : Step), W[k']? = some s' ∧ k' ≠ k ∧ (s'.e.i = x ∨ s'.e.j = x) := by
        rcases hn with rfl | rfl
        · obtain ⟨r, rfl⟩ : ∃ r, n = r + 1 := ⟨n - 1, by omega⟩
          have hw : W[r]? = some W[r] := List.getElem?_eq_getElem (by omega)
          obtain ⟨_, _, h3⟩ := P.step r _ hw
          rw [hx] at h3
          refine ⟨r, _, hw, by omega, ?_⟩
          rcases W[r].ends with ⟨_, e1⟩ | ⟨_, e1⟩ <;> rw [e1] at h3
          · exact .inr (Option.some.inj h3).symm
          · exact .inl (Option.some.inj h3).symm
        · have hw : W[k + 1]? = some W[k + 1] := List.getElem?_eq_getElem (by omega)
          obtain ⟨_, h2, _⟩ := P.step (k + 1) _ hw
          rw [hx] at h2
          refine ⟨k + 1, _, hw, by omega, ?_⟩
          rcases W[k + 1].ends with ⟨e1, _⟩ | ⟨e1, _⟩ <;> rw [e1] at h2
          · exact .inl (Option.some.inj h2).symm
          · exact .inr (Option.some.inj h2).symm
      have m1 := h.all s hs
      have m2 := h.all s' (List.mem_of_getElem? hk')
      have ne : s'.e ≠ s.e := fun z => hne (P.once hk' hk z)
      -- counted twice
      obtain ⟨l1, l2, er⟩ := List.append_of_mem m1
      have h1 : (ends rest).count x = (ends l1).count x + ([s.e.i, s.e.j].count x + (ends l2).count x) := by
        rw [er]
        unfold ends
        rw [List.flatMap_append, List.flatMap_cons, List.count_append, List.count_append]
      have m3 : s'.e ∈ l1 ∨ s'.e ∈ l2 := by
        rw [er] at m2
        rcases List.mem_append.mp m2 with z | z
        · exact .inl z
        · rcases List.mem_cons.mp z with z | z
          · exact (ne z).elim
          · exact .inr z
      have pos : ∀ l : List J, s'.e ∈ l → 0 < (ends l).count x := fun l hl => by
        refine List.count_pos_iff.mpr (List.mem_flatMap.mpr ⟨_, hl, ?_⟩)
        rcases hs' with z | z
        · rw [z]; exact List.mem_cons_self
        · rw [z]; exact List.mem_cons_of_mem _ List.mem_cons_self
      rcases m3 with z | z <;> have := pos _ z <;> omega
  obtain ⟨_, h2, h3⟩ := P.step k s hk
  have ne : s.src ≠ s.dst := fun z => by
    rw [z] at h2
    have := P.get h2 h3
    omega
  have c1 : ∀ x y : Nat, x ≠ y → [x, y].count x = 1 := fun x y q => by rw [List.count_cons_self, List.count_cons_of_ne (Ne.symm q)]; rfl
  have c2 : ∀ x y : Nat, x ≠ y → [x, y].count y = 1 := fun x y q => by rw [List.count_cons_of_ne q, List.count_cons_self]; rfl
  rcases s.ends with ⟨e1, e2⟩ | ⟨e1, e2⟩
  · rw [e1] at h2 ne
    rw [e2] at h3 ne
    rw [key k _ h2 (.inl rfl) (c1 _ _ ne), key (k + 1) _ h3 (.inr rfl) (c2 _ _ ne)]
    rfl
  · rw [e1] at h2 ne
    rw [e2] at h3 ne
    rw [key k _ h2 (.inl rfl) (c2 _ _ (Ne.symm ne)), key (k + 1) _ h3 (.inr rfl) (c1 _ _ (Ne.symm ne))]
    rfl
/-- what is left, is the way -/
structure Exact (W : List Step) (rest : List J) : Prop where
  all : ∀ s ∈ W, s.e ∈ rest
  only : ∀ e ∈ rest, ∃ s ∈ W, s.e = e
theorem Rs.stop {js : List J} {W : List Step} {rest : List J} {n a b : Nat} {vs : List Nat} (h : Rs js W rest) (F : Forest js) (nd : js.Nodup) (bd : ∀ e ∈ js, e.i < n ∧ e.j < n) (P : Pth js a b W vs) (st : K32.prune a b rest = rest) : Exact W rest := by
  refine ⟨h.all, fun e he => ?_⟩
  classical
  by_cases q : ∃ s ∈ W, s.e = e
  · exact q
  exfalso
  have sub : ∀ e ∈ rest, e ∈ js := fun e he => h.sub.subset he
  obtain ⟨s, s1, s2⟩ := F e (sub e he)
  have ab : s a = s b := P.notuse s2 P.first fun k x _ hx z => q ⟨x, List.mem_of_getElem? hx, z⟩
  obtain ⟨f, hf, lf⟩ := loose_of F (nd.sublist h.sub) sub bd (a := a) (b := b) _ (fun v => s v != s a) e (Nat.le_refl _) he (by
    show (s e.i != s a) ≠ (s e.j != s a)
    revert s1
    cases s e.i <;> cases s e.j <;> cases s a <;> decide) (fun f hf fe => by show (s f.i != s a) = (s f.j != s a); rw [s2 f (sub f hf) fe]) (by simp) (by simp [ab])
  rw [← st] at hf
  have := (List.mem_filter.mp hf).2
  rw [lf] at this
  cases this
theorem Rs.nil {js : List J} {W : List Step} (h : Rs js W []) : Exact W [] := ⟨h.all, fun e he => by cases he⟩
theorem sub_len : ∀ (l m : List J), l.Nodup → l ⊆ m → l.length ≤ m.length
  | [], m, _, _ => Nat.zero_le _
  | x :: l, m, nd, s => by
    obtain ⟨h1, h2⟩ := List.nodup_cons.mp nd
    have hx : x ∈ m := s List.mem_cons_self
    have := sub_len l (m.erase x) h2 fun y hy => (List.mem_erase_of_ne (fun e : y = x => h1 (e ▸ hy))).mpr (s (List.mem_cons_of_mem _ hy))
    rw [List.length_erase_of_mem hx] at this
    have := List.length_pos_of_mem hx
    rw [List.length_cons]
    omega
theorem Exact.len {js : List J} {W : List Step} {rest : List J} {a b : Nat} {vs : List Nat} (h : Exact W rest) (P : Pth js a b W vs) : W.length ≤ rest.length := by
  have nd : (W.map Step.e).Nodup := by
    refine List.pairwise_iff_getElem.mpr fun i j hi hj hij e => ?_
    rw [List.length_map] at hi hj
    have h1 : W[i]? = some W[i] := List.getElem?_eq_getElem hi
    have h2 : W[j]? = some W[j] := List.getElem?_eq_getElem hj
    rw [List.getElem_map, List.getElem_map] at e
    have := P.once h1 h2 e
    omega
  have sub : (W.map Step.e) ⊆ rest := fun e he => by
    obtain ⟨s, hs, rfl⟩ := List.mem_map.mp he
    exact h.all s hs
  have := sub_len (W.map Step.e) rest nd sub
  rwa [List.length_map] at this
/-- the joint that stands at the k-th place and is not behind: the next step -/
theorem Exact.next {js : List J} {W : List Step} {rest : List J} {a b : Nat} {vs : List Nat} (h : Exact W rest) (P : Pth js a b W vs) {k v : Nat} {e : J} (he : e ∈ rest) (hv : vs[k]? = some v) (at_ : e.i = v ∨ e.j = v) (un : ∀ s ∈ W.take k, s.e ≠ e) :
    (e.i = v ∧ W[k]? = some ⟨e, true⟩) ∨ (e.i ≠ v ∧ W[k]? = some ⟨e, false⟩) := by
  obtain ⟨s, hs, rfl⟩ := h.only e he
  obtain ⟨n, hn⟩ := List.getElem?_of_mem hs
  have w := P.where hn (n := k) (by rw [hv]; rcases at_ with q | q; exact .inl (by rw [q]); exact .inr (by rw [q]))
  have nk : k = n := by
    rcases w with w | w
    · exact w
    · exfalso
      refine un s (List.mem_of_getElem? (i := n) ?_) rfl
      rw [List.getElem?_take, if_pos (by omega)]
      exact hn
  subst nk
  obtain ⟨_, h2, h3⟩ := P.step k s hn
  rw [hv] at h2
  have ne : s.src ≠ s.dst := fun z => by
    rw [z] at h2
    have := P.get (hv.trans h2) h3
    omega
  obtain ⟨e, u⟩ := s
  cases u with
  | true => exact .inl ⟨(Option.some.inj h2).symm, hn⟩
  | false =>
    refine .inr ⟨fun z => ne ?_, hn⟩
    show e.j = e.i
    exact (Option.some.inj h2).symm.trans z.symm
/-! ### joints within -/
def inner (js : List J) (S : Nat → Bool) : Nat := (js.filter fun e => S e.i && S e.j).length
theorem inner_le (js : List J) (S : Nat → Bool) : inner js S ≤ js.length := List.length_filter_le _ _
theorem inner_full {js : List J} {S : Nat → Bool} (h : js.length ≤ inner js S) : ∀ e ∈ js, S e.i = S e.j := by
  have : (js.filter fun e => S e.i && S e.j) = js := (List.filter_sublist).eq_of_length_le h
  intro e he
  rw [← this] at he
  have := (List.mem_filter.mp he).2
  simp only [Bool.and_eq_true] at this
  rw [this.1, this.2]
theorem inner_mono {S S' : Nat → Bool} (h : ∀ v, S v = true → S' v = true) : ∀ js : List J, inner js S ≤ inner js S'
  | [] => Nat.le_refl _
  | e :: js => by
    have ih := inner_mono h js
    unfold inner at ih ⊢
    rw [List.filter_cons, List.filter_cons]
    by_cases c : (S e.i && S e.j) = true
    · have c' : (S' e.i && S' e.j) = true := by
        simp only [Bool.and_eq_true] at c ⊢
        exact ⟨h _ c.1, h _ c.2⟩
      rw [if_pos c, if_pos c', List.length_cons, List.length_cons]
      omega
    · rw [if_neg c]
      split
      · rw [List.length_cons]
        omega
      · exact ih
theorem inner_lt {S S' : Nat → Bool} (h : ∀ v, S v = true → S' v = true) : ∀ {js : List J} {e : J}, e ∈ js → (S e.i && S e.j) = false → (S' e.i && S' e.j) = true → inner js S < inner js S'
  | x :: js, e, he, h1, h2 => by
    rcases List.mem_cons.mp he with rfl | he
    · have := inner_mono h js
      unfold inner at this ⊢
      rw [List.filter_cons, List.filter_cons, if_neg (by rw [h1]; decide), if_pos h2, List.length_cons]
      omega
    · have ih := inner_lt h he h1 h2
      unfold inner at ih ⊢
      rw [List.filter_cons, List.filter_cons]
      by_cases c : (S x.i && S x.j) = true
      · have c' : (S' x.i && S' x.j) = true := by
          simp only [Bool.and_eq_true] at c ⊢
          exact ⟨h _ c.1, h _ c.2⟩
        rw [if_pos c, if_pos c', List.length_cons, List.length_cons]
        omega
      · rw [if_neg c]
        split
        · rw [List.length_cons]
          omega
        · exact ih
/-- a round: from S0, behind the first t joints -/
structure Round (js : List J) (S0 S : Nat → Bool) (t : Nat) : Prop where
  up : ∀ v, S0 v = true → S v = true
  or : inner js S0 < inner js S ∨ (S = S0 ∧ ∀ e ∈ js.take t, S e.i = S e.j)
theorem Round.start (js : List J) (S : Nat → Bool) : Round js S S 0 := ⟨fun _ h => h, .inr ⟨rfl, fun e he => by simp at he⟩⟩
theorem Round.stay {js : List J} {S0 S : Nat → Bool} {t : Nat} (h : Round js S0 S t) {e : J} (he : js[t]? = some e) (q : S e.i = S e.j) : Round js S0 S (t + 1) := by
  refine ⟨h.up, h.or.imp_right fun ⟨r, c⟩ => ⟨r, fun f hf => ?_⟩⟩
  rw [List.take_add_one, he] at hf
  rcases List.mem_append.mp hf with hf | hf
  · exact c f hf
  · have : f = e := by simpa using hf
    rw [this, q]
theorem Round.grow {js : List J} {S0 S S' : Nat → Bool} {t : Nat} (h : Round js S0 S t) {e : J} (he : js[t]? = some e) (q : (S e.i && S e.j) = false) (q' : (S' e.i && S' e.j) = true) (u : ∀ v, S v = true → S' v = true) : Round js S0 S' (t + 1) := by
  refine ⟨fun v hv => u v (h.up v hv), .inl ?_⟩
  have h1 := inner_mono h.up js
  have h2 := inner_lt u (List.mem_of_getElem? he) q q'
  omega
theorem Round.done {js : List J} {S0 S : Nat → Bool} (h : Round js S0 S js.length) : inner js S0 < inner js S ∨ (S = S0 ∧ ∀ e ∈ js, S e.i = S e.j) := by
  have := h.or
  rwa [List.take_length] at this
/-! ### the answer -/
inductive Out
  | ring (l : List (Nat × Int))
  | phases (q : List Int)
structure Phs (m : Int) (lines : Nat) (js : List J) (p : Nat → Int) (q : List Int) : Prop where
  len : q.length = lines
  at_ : ∀ v, v < lines → ∃ r, Conn js r v ∧ (∀ u, Conn js u v → r ≤ u) ∧ q[v]? = some ((p v - p r).fmod m)
theorem Phs.uniq {sums : SM} {m : Int} (hm : 0 < m) {lines : Nat} {js : List J} {p p' : Nat → Int} {q q' : List Int} (h : Phs m lines js p q) (h' : Phs m lines js p' q') (hp : Pot sums m js p) (hp' : Pot sums m js p') : q = q' := by
  apply List.ext_getElem?
  intro v
  by_cases c : v < lines
  · obtain ⟨r, r1, r2, r3⟩ := h.at_ v c
    obtain ⟨s, s1, s2, s3⟩ := h'.at_ v c
    have e : r = s := Nat.le_antisymm (r2 s s1) (s2 r r1)
    subst e
    rw [r3, s3, (Cg.fmod hm).mp (hp.uniq hp' r1)]
  · rw [List.getElem?_eq_none (by rw [h.len]; omega), List.getElem?_eq_none (by rw [h'.len]; omega)]
inductive Due (sums : SM) (m : Int) (lines : Nat) : Out → Prop
  | ring {t : Nat} {js : List J} {i j : Nat} {d : Int} {p : Nat → Int} {W : List Step} : St sums m t js → sums[t]? = some (i, j, d) → Conn js i j → Pot sums m js p → ¬ Cg m (p i + d) (p j) → Way js j i W → Due sums m lines (.ring ((t, 1) :: tell W))
  | phases {js : List J} {p : Nat → Int} {q : List Int} : St sums m sums.length js → Pot sums m js p → Phs m lines js p q → Due sums m lines (.phases q)
theorem Due.uniq {sums : SM} {m : Int} (hm : 0 < m) {lines : Nat} {o o' : Out} (h : Due sums m lines o) (h' : Due sums m lines o') : o = o' := by
  cases h with
  | ring st hs c hp bad w =>
    cases h' with
    | ring st' hs' c' hp' bad' w' =>
      have e : _ = _ := Nat.le_antisymm (st.le st' hs' c' hp' bad') (st'.le st hs c hp bad)
      subst e
      have e2 := st.det st'
      subst e2
      rw [hs] at hs'
      cases hs'
      obtain ⟨_, w⟩ := w
      obtain ⟨_, w'⟩ := w'
      rw [w.uniq st.forest w']
    | phases st' _ _ =>
      have h1 := st'.le st hs c hp bad
      have h2 := (List.getElem?_eq_some_iff.mp hs).1
      omega
  | phases st hp q =>
    cases h' with
    | ring st' hs' c' hp' bad' w' =>
      have h1 := st.le st' hs' c' hp' bad'
      have h2 := (List.getElem?_eq_some_iff.mp hs').1
      omega
    | phases st' hp' q' =>
      have e := st.det st'
      subst e
      rw [q.uniq hm q' hp hp']
theorem Due.none {m : Int} (hm : 0 < m) (lines : Nat) : Due [] m lines (.phases (List.replicate lines 0)) := by
  refine .phases (p := fun _ => 0) .zero (fun e he => by cases he) ⟨List.length_replicate, fun v hv => ⟨v, .refl, fun u hu => ?_, ?_⟩⟩
  · rw [hu.nil]; exact Nat.le_refl _
  · rw [List.getElem?_replicate, if_pos hv, Int.sub_self, Int.zero_fmod]
end K32

local macro_rules | `(tactic| walk_at "nz") => `(tactic| (dsimp only; first | decide | omega))
namespace K32W
open PySem PySem.Spec PyProof.Rows L2 KH K32 KD
def topS (i : Nat) : Stmt := PySem.Challenge.pw_changeskept_k32_exact_wishes.main.body.getD i (.Pass ⟨0, 0, 0, 0⟩)
abbrev s_law_cell : Stmt := topS 17
theorem sc_law_cell : FnScope ["script", "k", "spare", "cell"] ["script", "k"] (defScope s_law_cell) := ⟨rfl, rfl, rfl, by decide +kernel, rfl, by decide +kernel, by decide +kernel⟩

abbrev s_law_draws : Stmt := topS 18
theorem sc_law_draws : FnScope ["cell", "sizes", "whole", "found", "number", "size", "k", "mixed"] ["cell", "sizes"] (defScope s_law_draws) := ⟨rfl, rfl, rfl, by decide +kernel, rfl, by decide +kernel, by decide +kernel⟩

abbrev scheck_number : Stmt := topS 7
theorem sccheck_number : FnScope ["what", "value", "least", "most"] ["what", "value", "least", "most"] (defScope scheck_number) := ⟨rfl, rfl, rfl, by decide +kernel, rfl, by decide +kernel, by decide +kernel⟩

abbrev s_law_number : Stmt := topS 29
theorem sc_law_number : FnScope ["thing"] ["thing"] (defScope s_law_number) := ⟨rfl, rfl, rfl, by decide +kernel, rfl, by decide +kernel, by decide +kernel⟩

/-- the built-in names are what they are -/
structure Txt (mg : Str → Option Value) : Prop where
  len : mg "len" = none
  abs : mg "abs" = none
  int : mg "int" = none
  range : mg "range" = none
  list : mg "list" = none
  tuple : mg "tuple" = none
  max : mg "max" = none
  isinstance : mg "isinstance" = none
  bool : mg "bool" = none
  str : mg "str" = none
  repr : mg "repr" = none
  reversed : mg "reversed" = none
  enumerate : mg "enumerate" = none
  zip : mg "zip" = none
  super : mg "super" = none
/-- a def as its callers know it -/
structure Cal (P : Program) (w : World) (K : PySem.W.Frag) (mg : Str → Option Value) (base : Heap) (k : Nat) (x : Str) (ps : List Str) (sp : Sp) (f : Addr) (fd : FuncData) : Prop where
  ok : FnOk P w K mg base CX0 k f fd ps sp
  mg : mg x = some (.ref f)
  kp : PySem.W.keepIn K (.ref f) = true
  b : Binds K fd ps []
/-- .. one that may raise -/
structure CalX (P : Program) (w : World) (K : PySem.W.Frag) (mg : Str → Option Value) (base : Heap) (k : Nat) (x : Str) (ps : List Str) (sp : Sp) (f : Addr) (fd : FuncData) : Prop where
  ok : FnOk P w K mg base (L2.CX P w) k f fd ps sp
  mg : mg x = some (.ref f)
  kp : PySem.W.keepIn K (.ref f) = true
  b : Binds K fd ps []
/-- .. one that shows data -/
structure CalG (P : Program) (w : World) (K : PySem.W.Frag) (mg : Str → Option Value) (base : Heap) (k : Nat) (x : Str) (ps : List Str) (sp : Sp) (f : Addr) (fd : FuncData) : Prop where
  ok : FnOkG P w K mg base k f fd ps sp
  mg : mg x = some (.ref f)
  kp : PySem.W.keepIn K (.ref f) = true
  b : Binds K fd ps []
/-- a def that may be called in an except suite, as its callers know it -/
structure CalQ (P : Program) (w : World) (K : PySem.W.Frag) (mg : Str → Option Value) (base : Heap) (k : Nat) (x : Str) (ps : List Str) (sp : Sp) (f : Addr) (fd : FuncData) : Prop where
  ok : FnOkQ P w K mg base k f fd ps sp
  mg : mg x = some (.ref f)
  kp : PySem.W.keepIn K (.ref f) = true
  b : Binds K fd ps []
theorem u65 {k : Nat} {A : Around} (h : Room k A) : A.units + 65 < cLine := by
  have := h.un
  omega
/-! ### numbers and rows in the heap -/
abbrev IL (L : List Int) : List V := L.map V.int
theorem Sq.of {K : PySem.W.Frag} {H : Hp} {a : Addr} {xs : List V} (h : H a = some (.lst xs)) : Sq K H a xs := .inl (SqL.of h)
theorem IL_snoc (l : List Int) (x : Int) : IL (l ++ [x]) = IL l ++ [V.int x] := by
  unfold IL
  rw [List.map_append]
  rfl
theorem map_take_succ {α β : Type} (f : α → β) {l : List α} {i : Nat} {x : α} (h : l[i]? = some x) : (l.take (i + 1)).map f = (l.take i).map f ++ [f x] := by
  rw [take_more h, List.map_append]
  rfl
theorem ixq {K : PySem.W.Frag} {H : Hp} {a : Addr} {xs : List V} {i : Int} {v : V} {Q : VK} (h : Sq K H a xs) (e : atI xs i = some v) (q : Q v H) : rIx K (.ref a) (.int i) H Q := by
  rcases h with h | h
  · exact .inl ⟨a, xs, i, v, rfl, rfl, h, e, q⟩
  · exact .inr (.inl ⟨a, xs, i, v, rfl, rfl, h, e, q⟩)
theorem ixl {K : PySem.W.Frag} {H : Hp} {a : Addr} {xs : List V} {i : Int} {v : V} {Q : VK} (h : SqL K H a xs) (e : atI xs i = some v) (q : Q v H) : rIxL K (.ref a) (.int i) H Q := ⟨a, xs, i, v, rfl, rfl, h, e, q⟩
theorem lc_seq {K : PySem.W.Frag} {a : Addr} {xs : List V} {g : TG} {tt : TT} {te : TE} {vs : List Nat} {σ : L2.St} {H0 H : Hp} {Qd : Addr → Hp → Prop} (hq : Sq K H0 a xs) (s0 : Same H0 H) (Pv : Addr → Nat → Hp → Prop) (h0 : ∀ D, H D = none → Pv D 0 (upd H D (.lst []))) (hl : ∀ D i H', H D = none → i ≤ xs.length → Pv D i H' → Same H0 H')
    (hs : ∀ D i x H', H D = none → xs[i]? = some x → Pv D i H' → g x (wipe σ vs) H' fun σ2 H2 => wipe σ2 vs = wipe σ vs ∧ tt σ2 H2 fun b H3 => if b = true then te σ2 H3 fun y H4 => ∃ acc, H4 D = some (.lst acc) ∧ acc.length < sizeLine ∧ Pv D (i + 1) (upd H4 D (.lst (acc ++ [y]))) else Pv D (i + 1) H3)
    (hd : ∀ D H', H D = none → Pv D xs.length H' → Qd D H') :
    ∃ a', V.ref a = V.ref a' ∧ (((∃ xs, SqL K H a' xs) ∧ ∀ D, H D = none → ∃ W : Nat → Nat → Hp → Prop, (∃ m, W 0 m (upd H D (.lst []))) ∧ ∀ i m H, W i m H →
      ((Itl K a').stop i H ∧ Qd D H) ∨ ((Itl K a').go i H ∧ ∃ Nx : Hp → Prop, (∀ H', Nx H' → ∃ m', m' < m ∧ W (i + 1) m' H') ∧ ∀ x H', (Itl K a').yld i H x H' → g x (wipe σ vs) H' fun σ2 H2 => wipe σ2 vs = wipe σ vs ∧ tt σ2 H2 fun b H3 =>
        if b = true then te σ2 H3 fun y H4 => ∃ acc, H4 D = some (.lst acc) ∧ acc.length < sizeLine ∧ Nx (upd H4 D (.lst (acc ++ [y]))) else Nx H3)) ∨
      ((∃ xs, SqT K H a' xs) ∧ ∀ D, H D = none → ∃ W : Nat → Nat → Hp → Prop, (∃ m, W 0 m (upd H D (.lst []))) ∧ ∀ i m H, W i m H →
      ((Itt K a').stop i H ∧ Qd D H) ∨ ((Itt K a').go i H ∧ ∃ Nx : Hp → Prop, (∀ H', Nx H' → ∃ m', m' < m ∧ W (i + 1) m' H') ∧ ∀ x H', (Itt K a').yld i H x H' → g x (wipe σ vs) H' fun σ2 H2 => wipe σ2 vs = wipe σ vs ∧ tt σ2 H2 fun b H3 =>
        if b = true then te σ2 H3 fun y H4 => ∃ acc, H4 D = some (.lst acc) ∧ acc.length < sizeLine ∧ Nx (upd H4 D (.lst (acc ++ [y]))) else Nx H3))) := by
  rcases hq with hq | hq
  · exact ⟨a, rfl, .inl ⟨⟨_, s0.seq hq⟩, fun D nD => lc_list (K := K) (a := a) (xs := xs) (Pv D) (h0 D nD) (fun i H' hi p => (hl D i H' nD hi p).seq hq) (fun i x H' hx p => hs D i x H' nD hx p) (fun H' p => hd D H' nD p)⟩⟩
  · exact ⟨a, rfl, .inr ⟨⟨_, s0.seqT hq⟩, fun D nD => lc_tup (K := K) (a := a) (xs := xs) (Pv D) (h0 D nD) (fun i H' hi p => (hl D i H' nD hi p).seqT hq) (fun i x H' hx p => hs D i x H' nD hx p) (fun H' p => hd D H' nD p)⟩⟩
section
variable {P : Program} {w : World} {K : PySem.W.Frag} {mg : Str → Option Value} {base : Heap}
/-! ### a cell of the script -/
def sp_cell (K : PySem.W.Frag) : Sp := fun vs H Q _ => ∃ (a : Addr) (ns : List Int) (k : Nat), vs = [.ref a, nV k] ∧ SqL K H a (ns.map V.int) ∧ ns.length ≤ 63 ∧ k ≤ 1000 ∧ ∀ n H', Same H H' → Q (.int n) H'
theorem cut_ints (ns : List Int) (lo hi : Option Int) : ∃ ms : List Int, cutV (ns.map V.int) lo hi = ms.map V.int := by
  unfold cutV
  rw [← List.map_drop, ← List.map_take]
  exact ⟨_, rfl⟩
theorem ok_cell {f : Addr} {fd : FuncData} (F : Fun K "_law_cell" "_law_cell" s_law_cell f fd) (T : Txt mg) : FnOk P w K mg base CX0 1 f fd ["script", "k"] (sp_cell K) := by
  refine F.ok sc_law_cell (fun vs H Q E h => ?_) (fun cdv A outer s H vs Q E hr h => ?_)
  · obtain ⟨a, ns, k, rfl, _⟩ := h
    rfl
  · obtain ⟨a, ns, k, rfl, hS, hl, hk, q⟩ := h
    refine ⟨_, (pss_cons (ps_if (pt_cmpR op_lt (pv 1) (pe_callB call_len_seq (by rfl) T.len (by decide +kernel) (pa_cons (pv 0) pa_nil)) (nomark _))
 (pss_one (ps_ret (pe_ix ix_list (pv 0) (pv 1) (fun _ _ => rfl))))
 pss_nil)
 (pss_cons (ps_set (i := 2) sc_law_cell.nd rfl (.inl rfl) pe_int)
 (pss_cons (ps_for PassesOwn.never rfl (pi_list (pe_slice sl_list (pv 0) po_none (po_some pe_int))) (pg_name (i := 3) sc_law_cell.nd rfl (.inl rfl))
 (pss_one (ps_set (i := 2) sc_law_cell.nd rfl (.inl rfl) (pe_op op_add (pv 2) (pe_op op_modN (pe_callB call_abs (by rfl) T.abs (by decide +kernel) (pa_cons (pe_callTy call_int1 (by rfl) T.int (by decide +kernel) (pa_cons (pv 3) pa_nil)) pa_nil)) pe_int)))))
 (pss_one (ps_ret (pe_op op_add (pv 2) (pe_op op_mul pe_int (pv 1)))))))), ?_⟩
    refine ⟨_, rfl, _, rfl, a, _, rfl, .inl hS, _, _, rfl, rfl, _, rfl, ite2 (fun hlt => ?_) (fun _ => ?_)⟩
    · have hlt' : k < ns.length := by
        have := of_decide_eq_true hlt
        rw [List.length_map] at this
        omega
      obtain ⟨n, hn⟩ := get_lt hlt'
      exact ⟨_, rfl, _, rfl, a, _, _, _, rfl, rfl, hS, at_n (getn hn), q n H (Same.refl H)⟩
    · refine ⟨_, rfl, 3, rfl, a, _, rfl, hS, fun p np => ?_⟩
      obtain ⟨ms, em⟩ := cut_ints ns none (some 3)
      rw [em]
      refine ⟨p, rfl, ⟨_, SqL.of upd_same⟩, for_list (K := K) (a := p) (xs := ms.map V.int) (fun i σ H' => ∃ (z : Int) (v : Option V), σ = [some (.ref a), some (nV k), some (.int z), v] ∧ Same H H' ∧ H' p = some (.lst (ms.map V.int)))
        ⟨0, none, rfl, (Same.refl H).new np, upd_same⟩ (fun i σ H' _ ⟨_, _, _, _, e⟩ => SqL.of e) ?_ ?_⟩
      · rintro i y σ H' hi ⟨z, v, rfl, sm, e⟩
        obtain ⟨c, _, rfl⟩ := getn_inv hi
        refine ⟨_, rfl, _, rfl, .inl ⟨_, rfl, _, rfl, _, _, rfl, rfl, (by walk_at "nz"), _, _, rfl, rfl, ?_⟩⟩
        exact ⟨_, _, rfl, sm, e⟩
      · rintro σ H' ⟨z, v, rfl, sm, e⟩
        exact ⟨_, rfl, _, rfl, _, _, rfl, rfl, .inl ⟨by decide, by decide⟩, _, _, rfl, rfl, q _ _ sm⟩
/-! ### drawn numbers -/
/-- below the sizes -/
def Drawn (ds zs : List Nat) : Prop := Paired (fun d z => d < z) ds zs
def sp_draws (K : PySem.W.Frag) : Sp := fun vs H Q _ => ∃ (a : Addr) (c : Int) (zs : List Nat), vs = [.int c, .ref a] ∧ SqL K H a (zs.map nV) ∧ zs.length ≤ 1000 ∧ (∀ z ∈ zs, 0 < z ∧ z < 1073741824) ∧
  ∀ p ds H', Same H H' → H p = none → H' p = some (.lst (ds.map nV)) → Drawn ds zs → Q (.ref p) H'
theorem drawn_snoc {ds zs : List Nat} {i d z : Nat} (h : Drawn ds (zs.take i)) (hz : zs[i]? = some z) (hd : d < z) : Drawn (ds ++ [d]) (zs.take (i + 1)) := by
  rw [take_more hz]
  exact P_append h (.cons hd .nil)
theorem fmod_nat (x : Int) {z : Nat} (hz : 0 < z) : ∃ d : Nat, x.fmod (z : Int) = (d : Int) ∧ d < z := by
  have h1 : 0 ≤ x.fmod (z : Int) := Int.fmod_nonneg_of_pos x (by omega)
  have h2 : x.fmod (z : Int) < z := Int.fmod_lt_of_pos x (by omega)
  exact ⟨(x.fmod (z : Int)).toNat, by omega, by omega⟩
theorem ok_draws {f : Addr} {fd : FuncData} (F : Fun K "_law_draws" "_law_draws" s_law_draws f fd) (T : Txt mg) : FnOk P w K mg base CX0 1 f fd ["cell", "sizes"] (sp_draws K) := by
  refine F.ok sc_law_draws (fun vs H Q E h => ?_) (fun cdv A outer s H vs Q E hr h => ?_)
  · obtain ⟨a, c, zs, rfl, _⟩ := h
    rfl
  · obtain ⟨a, c, zs, rfl, hS, hl, hz, q⟩ := h
    refine ⟨_, (pss_cons (ps_set (i := 2) sc_law_draws.nd rfl (.inl rfl) (pe_callB call_abs (by rfl) T.abs (by decide +kernel) (pa_cons (pe_callTy call_int1 (by rfl) T.int (by decide +kernel) (pa_cons (pv 0) pa_nil)) pa_nil)))
 (pss_cons (ps_set (i := 3) sc_law_draws.nd rfl (.inl rfl) (pe_lst pa_nil))
 (pss_cons (ps_if (pt_cmpR op_ge (pv 2) (pe_op op_pow pe_int pe_int) (nomark _))
 (pss_cons (ps_set (i := 4) sc_law_draws.nd rfl (.inl rfl) (pe_op op_sub (pv 2) (pe_op op_pow pe_int pe_int)))
 (pss_cons (ps_for PassesOwn.never rfl (pi_list (pv 1)) (pg_name (i := 5) sc_law_draws.nd rfl (.inl rfl))
 (pss_cons (ps_expr (pe_bm PySem.F.plainAttrs_list PySem.F.slot_list_append PySem.F.type_list_append mt_append (pv 3) (pa_cons (pe_op op_modN (pe_callTy call_int1 (by rfl) T.int (by decide +kernel) (pa_cons (pv 4) pa_nil)) (pv 5)) pa_nil)))
 (pss_one (ps_set (i := 4) sc_law_draws.nd rfl (.inl rfl) (pe_op op_fdivN (pv 4) (pv 5))))))
 (pss_one (ps_ret (pv 3)))))
 pss_nil)
 (pss_cons (ps_for PassesOwn.never rfl (pi_range1 rfl T.range (pa_cons (pe_callB call_len_seq (by rfl) T.len (by decide +kernel) (pa_cons (pv 1) pa_nil)) pa_nil)) (pg_name (i := 6) sc_law_draws.nd rfl (.inl rfl))
 (pss_cons (ps_set (i := 7) sc_law_draws.nd rfl (.inl rfl) (pe_op op_modN (pe_callTy call_int1 (by rfl) T.int (by decide +kernel) (pa_cons (pe_op op_add (pe_op op_add (pv 2) (pe_op op_mul pe_int (pv 6))) pe_int) pa_nil)) pe_int))
 (pss_cons (ps_set (i := 7) sc_law_draws.nd rfl (.inl rfl) (pe_op op_modN (pe_callTy call_int1 (by rfl) T.int (by decide +kernel) (pa_cons (pe_op op_mul (pv 7) (pe_op op_add (pv 7) pe_int)) pa_nil)) pe_int))
 (pss_cons (ps_set (i := 7) sc_law_draws.nd rfl (.inl rfl) (pe_op op_modN (pe_callTy call_int1 (by rfl) T.int (by decide +kernel) (pa_cons (pe_op op_add (pe_op op_mul (pv 7) (pe_op op_add (pv 7) pe_int)) (pe_op op_mul pe_int (pv 6))) pa_nil)) pe_int))
 (pss_one (ps_expr (pe_bm PySem.F.plainAttrs_list PySem.F.slot_list_append PySem.F.type_list_append mt_append (pv 3) (pa_cons (pe_op op_modN (pe_callTy call_int1 (by rfl) T.int (by decide +kernel) (pa_cons (pe_op op_fdivN (pv 7) pe_int) pa_nil)) (pe_ix ix_list (pv 1) (pv 6) (fun _ _ => rfl))) pa_nil))))))))
 (pss_one (ps_ret (pv 3))))))), ?_⟩
    -- whole = abs(int(cell)); found = []
    refine ⟨_, rfl, .inl ⟨_, rfl, _, rfl, ?_⟩⟩
    refine ⟨Nat.zero_le _, fun p np => ?_⟩
    have s0 : Same H (upd H p (.lst [])) := (Same.refl H).new np
    -- if whole >= 10 ** 18
    refine ⟨_, rfl, _, _, rfl, rfl, ⟨by decide, by decide, by decide⟩, _, _, rfl, rfl, _, rfl, ite2 (fun _ => ?_) (fun hsm => ?_)⟩
    · refine ⟨_, rfl, _, _, rfl, rfl, ⟨by decide, by decide, by decide⟩, _, _, rfl, rfl, ?_⟩
      refine ⟨_, rfl, a, rfl, ⟨_, s0.seq hS⟩, for_list (K := K) (a := a) (xs := zs.map nV) (fun i σ H' => ∃ (w n : Int) (ds : List Nat) (v5 v6 v7 : Option V), σ = [some (.int c), some (.ref a), some (.int w), some (.ref p), some (.int n), v5, v6, v7] ∧ Same H H' ∧ H' p = some (.lst (ds.map nV)) ∧ Drawn ds (zs.take i))
        ⟨_, _, [], none, none, none, rfl, s0, upd_same, .nil⟩ (fun i σ H' _ ⟨_, _, _, _, _, _, _, sm, _⟩ => sm.seq hS) ?_ ?_⟩
      · rintro i y σ H' hi ⟨w', n, ds, v5, v6, v7, rfl, sm, e, dr⟩
        obtain ⟨z, hzi, rfl⟩ := getn_inv hi
        obtain ⟨hz0, hz1⟩ := hz z (List.mem_of_getElem? hzi)
        obtain ⟨d, ed, hd⟩ := fmod_nat n hz0
        refine ⟨_, rfl, .inl ⟨rfl, _, SqL.of e⟩, _, rfl, .inl ⟨_, rfl, _, rfl, _, _, rfl, rfl, (by walk_at "nz"), p, _, _, rfl, rfl, e, ?_, ?_⟩⟩
        · rw [List.length_map, P_len dr]
          exact szl (Nat.le_trans (List.length_take_le' _ _) (by omega))
        · refine ⟨_, rfl, _, rfl, _, _, rfl, rfl, ⟨by omega, by omega⟩, ?_⟩
          refine ⟨_, _, ds ++ [d], _, _, _, rfl, sm.mut np, ?_, drawn_snoc dr hzi hd⟩
          dsimp only
          rw [upd_same, ed, List.map_append]
          rfl
      · rintro σ H' ⟨w', n, ds, v5, v6, v7, rfl, sm, e, dr⟩
        rw [List.length_map, List.take_length] at dr
        exact ⟨_, rfl, q p ds H' sm np e dr⟩
    · -- the mixing
      have hwb : ∃ w : Nat, (if c < 0 then -c else c) = (w : Int) ∧ w < 10 ^ 18 := by
        have h1 : ¬ ((10 : Int) ^ (18 : Int).toNat ≤ if c < 0 then -c else c) := fun z => hsm (decide_eq_true z)
        have e18 : (10 : Int) ^ (18 : Int).toNat = 1000000000000000000 := by decide
        rw [e18] at h1
        refine ⟨(if c < 0 then -c else c).toNat, ?_, ?_⟩ <;> split at h1 <;> split <;> omega
      obtain ⟨wn, ew, hw⟩ := hwb
      rw [ew]
      refine ⟨_, rfl, a, _, rfl, .inl (s0.seq hS), _, rfl, (by omega), (by rw [List.length_map]; omega), ?_⟩
      have el : (((zs.map nV).length : Nat) : Int).toNat = zs.length := by rw [List.length_map]; omega
      rw [el]
      refine for_range (lo := 0) (n := zs.length) (fun i σ H' => ∃ (ds : List Nat) (v4 v5 v6 v7 : Option V), σ = [some (.int c), some (.ref a), some (nV wn), some (.ref p), v4, v5, v6, v7] ∧ Same H H' ∧ H' p = some (.lst (ds.map nV)) ∧ Drawn ds (zs.take i))
        ⟨[], none, none, none, none, rfl, s0, upd_same, .nil⟩ ?_ ?_
      · rintro i σ H' hi ⟨ds, v4, v5, v6, v7, rfl, sm, e, dr⟩
        obtain ⟨z, hzi⟩ := get_lt hi
        obtain ⟨hz0, hz1⟩ := hz z (List.mem_of_getElem? hzi)
        obtain ⟨m1, e1, b1⟩ := fmod_nat ((wn : Int) + 7919 * ((0 : Int) + (i : Int)) + 13) (z := 2147483647) (by decide)
        obtain ⟨m2, e2, b2⟩ := fmod_nat ((m1 : Int) * ((m1 : Int) + 48271)) (z := 2147483629) (by decide)
        obtain ⟨m3, e3, b3⟩ := fmod_nat ((m2 : Int) * ((m2 : Int) + 69621) + 31 * ((0 : Int) + (i : Int))) (z := 2147483647) (by decide)
        obtain ⟨d, ed, hd⟩ := fmod_nat ((m3 : Int).fdiv 9) hz0
        -- mixed = int(whole + 7919 * k + 13) % 2147483647
        refine ⟨_, rfl, _, rfl, _, _, rfl, rfl, .inl ⟨by decide, by decide⟩, _, _, rfl, rfl, _, _, rfl, rfl, .inl ⟨_, rfl, _, _, rfl, rfl, (by walk_at "nz"), ?_⟩⟩
        dsimp only
        rw [show ((2147483647 : Nat) : Int) = 2147483647 by rfl] at e1
        rw [e1]
        -- mixed = int(mixed * (mixed + 48271)) % 2147483629
        refine ⟨_, rfl, _, rfl, _, _, rfl, rfl, _, _, rfl, rfl, .inl ⟨by omega, by omega⟩, .inl ⟨_, rfl, _, _, rfl, rfl, (by walk_at "nz"), ?_⟩⟩
        dsimp only
        rw [show ((2147483629 : Nat) : Int) = 2147483629 by rfl] at e2
        rw [e2]
        refine ⟨_, rfl, _, rfl, _, _, rfl, rfl, _, _, rfl, rfl, .inl ⟨by omega, by omega⟩, _, rfl, _, _, rfl, rfl, .inl ⟨by decide, by decide⟩, _, _, rfl, rfl, .inl ⟨_, rfl, _, _, rfl, rfl, (by walk_at "nz"), ?_⟩⟩
        dsimp only
        rw [show ((2147483647 : Nat) : Int) = 2147483647 by rfl] at e3
        rw [e3]
        -- found.append(int(mixed // 9) % sizes[k])
        refine ⟨_, rfl, .inl ⟨rfl, _, SqL.of e⟩, _, rfl, _, _, rfl, rfl, ⟨by decide, by decide⟩, .inl ⟨_, rfl, _, rfl, _, rfl, a, _, _, nV z, rfl, rfl, sm.seq hS, ?_, _, _, rfl, rfl, (by walk_at "nz"), p, _, _, rfl, rfl, e, ?_, ?_⟩⟩
        · rw [show (0 : Int) + (i : Int) = (i : Int) by omega]
          exact at_n (getn hzi)
        · rw [List.length_map, P_len dr]
          exact szl (Nat.le_trans (List.length_take_le' _ _) (by omega))
        · refine ⟨ds ++ [d], _, _, _, _, rfl, sm.mut np, ?_, drawn_snoc dr hzi hd⟩
          dsimp only
          rw [upd_same, ed, List.map_append]
          rfl
      · rintro σ H' ⟨ds, v4, v5, v6, v7, rfl, sm, e, dr⟩
        rw [List.take_length] at dr
        exact ⟨_, rfl, q p ds H' sm np e dr⟩
end
/-- the errors' classes, as the written part has them -/
structure Exc (P : Program) (K : PySem.W.Frag) (mg : Str → Option Value) (CN CB CD CT CU fI : Addr) : Prop where
  own : PySem.OwX.OwnTxt P K CN fI ["what", "value"]
  gN : mg "BadNumber" = some (.ref CN)
  gB : mg "BusError" = some (.ref CB)
  gD : mg "Doubled" = some (.ref CD)
  gT : mg "TooMany" = some (.ref CT)
  gU : mg "Unknown" = some (.ref CU)
  ec : ExcC K CN
  xf : XfC K CN
  te : PySem.W.exmOne K (.ref CN) (.ref CB) = some true
  kN : PySem.W.kitOne K (.ref CN) (.ref CN) = some true
  kO : PySem.W.kitAny K (.ref CN) [.ref CD, .ref CT, .ref CU] = some false
section
variable {P : Program} {w : World} {K : PySem.W.Frag} {mg : Str → Option Value} {base : Heap} {CN CB CD CT CU fI : Addr}
def sp_check (CN : Addr) : Sp := fun vs H Q E => ∃ (wd : Str) (v lo hi : Int), vs = [.str wd, .int v, .int lo, .int hi] ∧ (¬ (lo ≤ v ∧ v ≤ hi) → ∀ d, H d = none → E (.ref CN) (some d) (upd H d (.xd [("value", .int v), ("what", .str wd)]))) ∧ ((lo ≤ v ∧ v ≤ hi) → Q .non H)
theorem ok_check {f : Addr} {fd : FuncData} (F : Fun K "check_number" "check_number" scheck_number f fd) (T : Txt mg) (XBadNumber : Exc P K mg CN CB CD CT CU fI) : FnOk P w K mg base (L2.CX P w) 3 f fd ["what", "value", "least", "most"] (sp_check CN) := by
  refine F.okX sccheck_number (fun vs H Q E h => ?_) (fun cdv A outer s H vs Q E hr h => ?_)
  · obtain ⟨wd, v, lo, hi, rfl, _⟩ := h
    rfl
  · obtain ⟨wd, v, lo, hi, rfl, qe, qn⟩ := h
    refine ⟨_, (pss_one (ps_if (pt_not (pt_chain op_le op_le (pv 2) (pv 1) (pv 3)))
 (pss_one (ps_raiseOwnS rfl XBadNumber.own XBadNumber.gN T.super (by decide) (by decide) (by simp) hr (takes_of rfl rfl rfl rfl) (by exact (pa_cons (pv 0) (pa_cons (pv 1) pa_nil))) rfl))
 pss_nil)), ?_⟩
    refine ⟨_, rfl, _, rfl, _, _, rfl, rfl, _, rfl, ite2 (fun c1 => ?_) (fun c1 => ?_)⟩
    · refine ⟨_, rfl, _, _, rfl, rfl, _, rfl, ?_⟩
      by_cases c2 : v ≤ hi
      · rw [decide_eq_true c2]
        exact iteF (qn ⟨of_decide_eq_true c1, c2⟩)
      · rw [decide_eq_false c2]
        exact iteT ⟨_, rfl, _, rfl, rfl, fun d nd => qe (fun z => c2 z.2) d nd⟩
    · refine ⟨_, rfl, iteT ⟨_, rfl, _, rfl, rfl, fun d nd => qe (fun z => c1 (decide_eq_true z.1)) d nd⟩⟩
/-- the error with its fields -/
def Err (CN : Addr) (wd : Str) (z : Int) (H : Hp) (E : XK) : Prop := ∀ d H', Same H H' → H d = none → H' d = some (.xd [("value", .int z), ("what", .str wd)]) → E (.ref CN) (some d) H'
def sp_number : Sp := fun vs H Q _ => ∃ z : Int, vs = [.int z] ∧ Q (.bl true) H
theorem ok_number {f : Addr} {fd : FuncData} (F : Fun K "_law_number" "_law_number" s_law_number f fd) (T : Txt mg) : FnOk P w K mg base CX0 1 f fd ["thing"] sp_number := by
  refine F.ok sc_law_number (fun vs H Q E h => ?_) (fun cdv A outer s H vs Q E hr h => ?_)
  · obtain ⟨z, rfl, _⟩ := h
    rfl
  · obtain ⟨z, rfl, q⟩ := h
    refine ⟨_, (pss_one (ps_ret (pe_and (pe_callB call_isi (by rfl) T.isinstance (by decide +kernel) (pa_cons (pv 0) (pa_cons (pe_bltn (v := .ty "int") (by rfl) T.int (by decide +kernel) rfl) pa_nil))) (pe_one (pe_not (pe_callB call_isi (by rfl) T.isinstance (by decide +kernel) (pa_cons (pv 0) (pa_cons (pe_bltn (v := .ty "bool") (by rfl) T.bool (by decide +kernel) rfl) pa_nil)))))))), ?_⟩
    refine ⟨_, rfl, _, _, _, _, true, rfl, .ty "int", .base (.int _), kit_ty (by decide +kernel), _, rfl, iteT ?_⟩
    exact ⟨_, rfl, _, _, _, _, false, rfl, .ty "bool", .base (.int _), kit_ty (by decide +kernel), _, rfl, q⟩
theorem ok_numberQ {f : Addr} {fd : FuncData} (F : Fun K "_law_number" "_law_number" s_law_number f fd) (T : Txt mg) : FnOkQ P w K mg base 1 f fd ["thing"] sp_number := by
  refine F.okQ sc_law_number (fun vs H Q E h => ?_) (fun cdv A outer s H vs Q E hr h => ?_)
  · obtain ⟨z, rfl, _⟩ := h
    rfl
  · obtain ⟨z, rfl, q⟩ := h
    refine ⟨_, (pss_one (ps_ret (pe_and (pe_callB call_isi (by rfl) T.isinstance (by decide +kernel) (pa_cons (pv 0) (pa_cons (pe_bltn (v := .ty "int") (by rfl) T.int (by decide +kernel) rfl) pa_nil))) (pe_one (pe_not (pe_callB call_isi (by rfl) T.isinstance (by decide +kernel) (pa_cons (pv 0) (pa_cons (pe_bltn (v := .ty "bool") (by rfl) T.bool (by decide +kernel) rfl) pa_nil)))))))), ?_⟩
    refine ⟨_, rfl, _, _, _, _, true, rfl, .ty "int", .base (.int _), kit_ty (by decide +kernel), _, rfl, iteT ?_⟩
    exact ⟨_, rfl, _, _, _, _, false, rfl, .ty "bool", .base (.int _), kit_ty (by decide +kernel), _, rfl, q⟩
theorem lk_what {x y : V} : List.lookup ("what" : Str) [(("value" : Str), x), (("what" : Str), y)] = some y := by
  have e : (("what" : Str) == ("value" : Str)) = false := by decide
  simp [List.lookup, e]
theorem lk_value {x y : V} : List.lookup ("value" : Str) [(("value" : Str), x), (("what" : Str), y)] = some x := by simp [List.lookup]
end
end K32W

namespace K32W
open PySem PySem.Spec PyProof.Rows L2 KH K32 KD
abbrev s_check_sums : Stmt := topS 11
theorem sc_check_sums : FnScope ["many", "sums", "i", "j", "_"] ["many", "sums"] (defScope s_check_sums) := ⟨rfl, rfl, rfl, by decide +kernel, rfl, by decide +kernel, by decide +kernel⟩

abbrev s_steps_between : Stmt := topS 12
theorem sc_steps_between : FnScope ["joints", "here", "goal", "ways", "index", "i", "j"] ["joints", "here", "goal"] (defScope s_steps_between) := ⟨rfl, rfl, rfl, by decide +kernel, rfl, by decide +kernel, by decide +kernel⟩

abbrev s_moved : Stmt := topS 13
theorem sc_moved : FnScope ["period", "groups", "phases", "group", "minutes", "own", "phase"] ["period", "groups", "phases", "group", "minutes"] (defScope s_moved) := ⟨rfl, rfl, rfl, by decide +kernel, rfl, by decide +kernel, by decide +kernel⟩

abbrev s_least_first : Stmt := topS 14
theorem sc_least_first : FnScope ["period", "groups", "phases", "group", "phase"] ["period", "groups", "phases"] (defScope s_least_first) := ⟨rfl, rfl, rfl, by decide +kernel, rfl, by decide +kernel, by decide +kernel⟩

/-! ### triples -/
abbrev T3 := Int × Int × Int
def Trs (K : PySem.W.Frag) (H : Hp) (vs : List V) (ts : List T3) : Prop := Paired (fun v q => ∃ t, v = V.ref t ∧ SqT K H t [.int q.1, .int q.2.1, .int q.2.2]) vs ts
theorem Trs.same {K : PySem.W.Frag} {H H' : Hp} {vs : List V} {ts : List T3} (h : Trs K H vs ts) (s : Same H H') : Trs K H' vs ts := P_mono (fun _ _ ⟨t, e, q⟩ => ⟨t, e, s.seqT q⟩) h
def Okl (m z : Int) : Prop := 0 ≤ z ∧ z ≤ m - 1
def Okt (m : Int) (q : T3) : Prop := Okl m q.1 ∧ Okl m q.2.1
/-- the first wrong line -/
inductive LF (m : Int) (ts : List T3) : Int → Prop
  | fst {k : Nat} {q : T3} : ts[k]? = some q → ¬ Okl m q.1 → (∀ (j : Nat) (y : T3), j < k → ts[j]? = some y → Okt m y) → LF m ts q.1
  | snd {k : Nat} {q : T3} : ts[k]? = some q → Okl m q.1 → ¬ Okl m q.2.1 → (∀ (j : Nat) (y : T3), j < k → ts[j]? = some y → Okt m y) → LF m ts q.2.1
/-- ways that are told: pairs of an index and 1 or -1 -/
def TelP (H : Hp) (vs : List V) (l : List (Nat × Int)) : Prop := Paired (fun v q => ∃ t, v = V.ref t ∧ H t = some (.tup [nV q.1, .int q.2])) vs l
theorem TelP.same {H H' : Hp} {vs : List V} {l : List (Nat × Int)} (h : TelP H vs l) (s : Same H H') : TelP H' vs l := P_mono (fun _ _ ⟨t, e, q⟩ => ⟨t, e, s _ _ q⟩) h
theorem TelP.mut {H : Hp} {vs : List V} {l : List (Nat × Int)} {d : Addr} {o u : HO} (h : TelP H vs l) (hd : H d = some u) (hu : ∀ xs, u ≠ .tup xs) : TelP (upd H d o) vs l := P_mono (fun _ _ ⟨t, e, q⟩ => ⟨t, e, by rw [upd_ne (ne_of q hd (fun z => hu _ z.symm))]; exact q⟩) h
theorem TelP.new {H : Hp} {vs : List V} {l : List (Nat × Int)} {d : Addr} {o : HO} (h : TelP H vs l) (hd : H d = none) : TelP (upd H d o) vs l := h.same ((Same.refl H).new hd)
def TelL (H : Hp) (x : Addr) (l : List (Nat × Int)) : Prop := ∃ vs, H x = some (.lst vs) ∧ TelP H vs l
theorem TelL.same {H H' : Hp} {x : Addr} {l : List (Nat × Int)} (h : TelL H x l) (s : Same H H') : TelL H' x l := by
  obtain ⟨vs, h1, h2⟩ := h
  exact ⟨vs, s _ _ h1, h2.same s⟩
/-- the program's joints -/
def j3 (e : J) : List V := [nV e.ix, nV e.i, nV e.j]
def JP (K : PySem.W.Frag) (H : Hp) (vs : List V) (js : List J) : Prop := Paired (fun v e => ∃ t, v = V.ref t ∧ SqT K H t (j3 e)) vs js
theorem JP.same {K : PySem.W.Frag} {H H' : Hp} {vs : List V} {js : List J} (h : JP K H vs js) (s : Same H H') : JP K H' vs js := P_mono (fun _ _ ⟨t, e, q⟩ => ⟨t, e, s.seqT q⟩) h
/-- at d the ways so far -/
def WD (H0 H : Hp) (d : Addr) (ws : List (Nat × List (Nat × Int))) : Prop := ∃ wa : List (Nat × Addr), H d = some (.dK (dkN V.ref wa)) ∧ Paired (fun p q => p.1 = q.1 ∧ H0 p.2 = none ∧ TelL H p.2 q.2) wa ws
theorem wd_look {H0 H : Hp} : ∀ {wa : List (Nat × Addr)} {ws : List (Nat × List (Nat × Int))}, Paired (fun p q => p.1 = q.1 ∧ H0 p.2 = none ∧ TelL H p.2 q.2) wa ws → ∀ k, (K02.look ws k = none ∧ K02.look wa k = none) ∨ ∃ x l, K02.look ws k = some l ∧ K02.look wa k = some x ∧ H0 x = none ∧ TelL H x l
  | _, _, .nil, k => .inl ⟨rfl, rfl⟩
  | p :: _, q :: _, .cons ⟨e1, e2, e3⟩ r, k => by
    unfold K02.look
    by_cases e : q.1 = k
    · rw [if_pos e, if_pos (e1.trans e)]
      exact .inr ⟨p.2, q.2, rfl, rfl, e2, e3⟩
    · rw [if_neg e, if_neg (fun z => e (e1.symm.trans z))]
      exact wd_look r k
theorem wd_keys {H0 H : Hp} : ∀ {wa : List (Nat × Addr)} {ws : List (Nat × List (Nat × Int))}, Paired (fun p q => p.1 = q.1 ∧ H0 p.2 = none ∧ TelL H p.2 q.2) wa ws → wa.map (·.1) = ws.map (·.1)
  | _, _, .nil => rfl
  | p :: _, q :: _, .cons ⟨e1, _, _⟩ r => by rw [List.map_cons, List.map_cons, e1, wd_keys r]
theorem wd_put {H0 H : Hp} {k : Nat} {x : Addr} {l : List (Nat × Int)} (h0 : H0 x = none) (hx : TelL H x l) : ∀ {wa : List (Nat × Addr)} {ws : List (Nat × List (Nat × Int))}, Paired (fun p q => p.1 = q.1 ∧ H0 p.2 = none ∧ TelL H p.2 q.2) wa ws →
    Paired (fun p q => p.1 = q.1 ∧ H0 p.2 = none ∧ TelL H p.2 q.2) (K02.put wa k x) (K02.put ws k l)
  | _, _, .nil => .cons ⟨rfl, h0, hx⟩ .nil
  | p :: _, q :: _, .cons ⟨e1, e2, e3⟩ r => by
    unfold K02.put
    by_cases e : q.1 = k
    · rw [if_pos e, if_pos (e1.trans e)]
      exact .cons ⟨e1, h0, hx⟩ r
    · rw [if_neg e, if_neg (fun z => e (e1.symm.trans z))]
      exact .cons ⟨e1, e2, e3⟩ (wd_put h0 hx r)
theorem WD.get {H0 H : Hp} {d : Addr} {ws : List (Nat × List (Nat × Int))} (h : WD H0 H d ws) (k : Nat) : (K02.look ws k = none ∧ DGet H d (nV k) none) ∨ ∃ x l, K02.look ws k = some l ∧ DGet H d (nV k) (some (V.ref x)) ∧ H0 x = none ∧ TelL H x l := by
  obtain ⟨wa, h1, h2⟩ := h
  have g := dget_n (k := k) h1
  rcases wd_look h2 k with ⟨e1, e2⟩ | ⟨x, l, e1, e2, e3, e4⟩
  · rw [e2] at g
    exact .inl ⟨e1, g⟩
  · rw [e2] at g
    exact .inr ⟨x, l, e1, g, e3, e4⟩
/-- is it there -/
theorem WD.has {H0 H : Hp} {d : Addr} {ws : List (Nat × List (Nat × Int))} (h : WD H0 H d ws) (k : Nat) : ∃ o, DGet H d (nV k) o ∧ o.isSome = (K02.look ws k).isSome := by
  rcases h.get k with ⟨e, g⟩ | ⟨x, l, e, g, _⟩
  · exact ⟨_, g, by rw [e]; rfl⟩
  · exact ⟨_, g, by rw [e]; rfl⟩
theorem WD.same {H0 H H' : Hp} {d : Addr} {ws : List (Nat × List (Nat × Int))} (h : WD H0 H d ws) (s : Same H H') : WD H0 H' d ws := by
  obtain ⟨wa, h1, h2⟩ := h
  exact ⟨wa, s _ _ h1, P_mono (fun _ _ ⟨e1, e2, e3⟩ => ⟨e1, e2, e3.same s⟩) h2⟩
theorem WD.store {H0 H : Hp} {d x : Addr} {ws : List (Nat × List (Nat × Int))} {k : Nat} {l : List (Nat × Int)} (h : WD H0 H d ws) (h0 : H0 x = none) (hx : TelL H x l) (hn : (ws.map (·.1)).Nodup) (hl : ws.length < sizeLine) :
    ∃ H', DPut H d (nV k) (V.ref x) H' ∧ WD H0 H' d (K02.put ws k l) ∧ ∀ b o, b ≠ d → H b = some o → H' b = some o := by
  obtain ⟨wa, h1, h2⟩ := h
  have ek := wd_keys h2
  have el : wa.length = ws.length := P_len h2
  refine ⟨_, dput_n (f := V.ref) (k := k) (v := x) h1 (by rw [el]; exact hl) (by rw [ek]; exact hn), ⟨K02.put wa k x, upd_same, ?_⟩, fun b o hb e => by rw [upd_ne hb]; exact e⟩
  refine P_mono (fun p q ⟨e1, e2, vs, e3, e4⟩ => ⟨e1, e2, vs, ?_, e4.mut h1 (fun xs z => (by cases z))⟩) (wd_put h0 hx h2)
  rw [upd_ne (ne_of e3 h1 (by intro z; cases z))]
  exact e3
/-- what the ways are -/
structure WI (n : Nat) (js : List J) (here : Nat) (ws : List (Nat × List (Nat × Int))) : Prop where
  nd : (ws.map (·.1)).Nodup
  way : ∀ v l, K02.look ws v = some l → v < n ∧ ∃ W vs, Pth js here v W vs ∧ l = tell W ∧ ∀ u ∈ vs, (K02.look ws u).isSome = true
abbrev inW (ws : List (Nat × List (Nat × Int))) : Nat → Bool := fun v => (K02.look ws v).isSome
theorem WI.start {n : Nat} {js : List J} {here : Nat} (h : here < n) : WI n js here [(here, [])] := by
  refine ⟨by simp, fun v l e => ?_⟩
  unfold K02.look at e
  by_cases q : here = v
  · subst q
    rw [if_pos rfl] at e
    cases e
    refine ⟨h, [], [here], .nil _ _, rfl, fun u hu => ?_⟩
    rw [List.mem_singleton.mp hu]
    unfold K02.look
    rw [if_pos rfl]
    rfl
  · rw [if_neg q] at e
    cases e
theorem WI.lt {n : Nat} {js : List J} {here : Nat} {ws : List (Nat × List (Nat × Int))} (h : WI n js here ws) {v : Nat} (q : inW ws v = true) : v < n := by
  obtain ⟨l, hl⟩ := Option.isSome_iff_exists.mp q
  exact (h.way v l hl).1
theorem WI.len {n : Nat} {js : List J} {here : Nat} {ws : List (Nat × List (Nat × Int))} (h : WI n js here ws) : ws.length ≤ n := by
  have := K02.nodup_len n (ws.map (·.1)) h.nd fun x hx => by
    cases e : K02.look ws x with
    | none => exact (K02.look_none_iff.mp e hx).elim
    | some l => exact (h.way x l e).1
  rwa [List.length_map] at this
theorem WI.llen {n : Nat} {js : List J} {here : Nat} {ws : List (Nat × List (Nat × Int))} (h : WI n js here ws) {v : Nat} {l : List (Nat × Int)} (e : K02.look ws v = some l) : l.length < n := by
  obtain ⟨_, W, vs, p, rfl, hv⟩ := h.way v l e
  have h1 := K02.nodup_len n vs p.nd fun x hx => h.lt (hv x hx)
  have h2 := p.len
  unfold tell
  rw [List.length_map]
  omega
theorem put_keys_new {β : Type} {ws : List (Nat × β)} {k : Nat} {x : β} (hn : K02.look ws k = none) : (K02.put ws k x).map (·.1) = ws.map (·.1) ++ [k] := by
  rw [put_dk.put_new k x ws hn, List.map_append]
  rfl
theorem WI.step {n : Nat} {js : List J} {here : Nat} {ws : List (Nat × List (Nat × Int))} (h : WI n js here ws) {s : K32.Step} {l : List (Nat × Int)} (hs : s.e ∈ js) (h1 : K02.look ws s.src = some l) (h2 : K02.look ws s.dst = none) (hd : s.dst < n) :
    WI n js here (K02.put ws s.dst (l ++ [(s.e.ix, s.sg)])) := by
  refine ⟨?_, fun v l' e => ?_⟩
  · rw [put_keys_new h2]
    refine List.nodup_append.mpr ⟨h.nd, by simp, fun x hx y hy q => ?_⟩
    rw [List.mem_singleton.mp hy] at q
    exact K02.look_none_iff.mp h2 (q ▸ hx)
  · have up : ∀ u, (K02.look ws u).isSome = true → (K02.look (K02.put ws s.dst (l ++ [(s.e.ix, s.sg)])) u).isSome = true := fun u hu => by
      rw [K02.look_put]
      split
      · rfl
      · exact hu
    rw [K02.look_put] at e
    by_cases q : s.dst = v
    · rw [if_pos q] at e
      cases e
      subst q
      obtain ⟨_, W, vs, p, el, hv⟩ := h.way _ _ h1
      have nin : s.dst ∉ vs := fun z => by
        have := hv _ z
        rw [h2] at this
        cases this
      refine ⟨hd, W ++ [s], vs ++ [s.dst], p.snoc hs rfl nin, by rw [tell_snoc, el], fun u hu => ?_⟩
      rcases List.mem_append.mp hu with hu | hu
      · exact up u (hv u hu)
      · rw [List.mem_singleton.mp hu, K02.look_put, if_pos rfl]
        rfl
    · rw [if_neg q] at e
      obtain ⟨a1, W, vs, p, el, hv⟩ := h.way v l' e
      exact ⟨a1, W, vs, p, el, fun u hu => up u (hv u hu)⟩
theorem inW_put {ws : List (Nat × List (Nat × Int))} {k : Nat} {x : List (Nat × Int)} (v : Nat) (h : inW ws v = true) : inW (K02.put ws k x) v = true := by
  show (K02.look (K02.put ws k x) v).isSome = true
  rw [K02.look_put]
  split
  · rfl
  · exact h
theorem inW_self {ws : List (Nat × List (Nat × Int))} {k : Nat} {x : List (Nat × Int)} : inW (K02.put ws k x) k = true := by
  show (K02.look (K02.put ws k x) k).isSome = true
  rw [K02.look_put, if_pos rfl]
  rfl
section
variable {P : Program} {w : World} {K : PySem.W.Frag} {mg : Str → Option Value} {base : Heap} {CN CB CD CT CU fI : Addr}
def sp_sums (K : PySem.W.Frag) (CN : Addr) : Sp := fun vs H Q E => ∃ (m : Int) (a : Addr) (us : List V) (ts : List T3), vs = [.int m, .ref a] ∧ Sq K H a us ∧ Trs K H us ts ∧
  (∀ z, LF m ts z → ∀ d, H d = none → E (.ref CN) (some d) (upd H d (.xd [("value", .int z), ("what", .str "line")]))) ∧ ((∀ q ∈ ts, Okt m q) → Q .non H)
theorem ok_sums {f f1 : Addr} {fd fd1 : FuncData} (F : Fun K "_check_sums" "_check_sums" s_check_sums f fd) (T : Txt mg) (Ccheck_number : CalX P w K mg base 3 "check_number" ["what", "value", "least", "most"] (sp_check CN) f1 fd1) : FnOk P w K mg base (L2.CX P w) 4 f fd ["many", "sums"] (sp_sums K CN) := by
  refine F.okX sc_check_sums (fun vs H Q E h => ?_) (fun cdv A outer s H vs Q E hr h => ?_)
  · obtain ⟨m, a, us, ts, rfl, _⟩ := h
    rfl
  · obtain ⟨m, a, us, ts, rfl, hS, hT, qe, qn⟩ := h
    refine ⟨_, (pss_one (ps_for (passes_of rfl) rfl (pi_seq (pv 1)) (pg_tup rfl (pgs_cons (pg_name (i := 2) sc_check_sums.nd rfl (.inl rfl)) (pgs_cons (pg_name (i := 3) sc_check_sums.nd rfl (.inl rfl)) (pgs_cons (pg_name (i := 4) sc_check_sums.nd rfl (.inl rfl)) pgs_nil))))
 (pss_cons (ps_expr (pe_callS Ccheck_number.ok (hr.mono (by decide)) (by rfl) Ccheck_number.mg Ccheck_number.kp Ccheck_number.b (fun σ => passAt (takes_of rfl rfl rfl rfl) σ) (by exact (pa_cons pe_str (pa_cons (pv 2) (pa_cons pe_int (pa_cons (pe_op op_sub (pv 0) pe_int) pa_nil)))))))
 (pss_one (ps_expr (pe_callS Ccheck_number.ok (hr.mono (by decide)) (by rfl) Ccheck_number.mg Ccheck_number.kp Ccheck_number.b (fun σ => passAt (takes_of rfl rfl rfl rfl) σ) (by exact (pa_cons pe_str (pa_cons (pv 3) (pa_cons pe_int (pa_cons (pe_op op_sub (pv 0) pe_int) pa_nil))))))))))), ?_⟩
    refine ⟨_, rfl, for_seq (xs := us) hS (Same.refl H) (fun i σ H' => ∃ v2 v3 v4 : Option V, σ = [some (.int m), some (.ref a), v2, v3, v4] ∧ H' = H ∧ ∀ (j : Nat) (y : T3), j < i → ts[j]? = some y → Okt m y) ⟨_, _, _, rfl, rfl, fun j y h => absurd h (Nat.not_lt_zero j)⟩ (fun i σ H' _ ⟨_, _, _, _, e, _⟩ => by rw [e]; exact Same.refl H) ?_ ?_⟩
    · rintro i x σ H' hi ⟨v2, v3, v4, rfl, rfl, fine⟩
      obtain ⟨q, hq, t, rfl, et⟩ := P_right hT hi
      refine ⟨t, _, rfl, et, rfl, _, _, rfl, _, _, rfl, _, _, rfl, rfl, ?_⟩
      refine ⟨_, rfl, _, rfl, _, _, rfl, rfl, _, _, _, _, rfl, fun bad d nd => qe _ (.fst hq bad fine) d nd, fun ok1 => ?_⟩
      refine ⟨_, rfl, _, rfl, _, _, rfl, rfl, _, _, _, _, rfl, fun bad d nd => qe _ (.snd hq ok1 bad fine) d nd, fun ok2 => ?_⟩
      refine ⟨_, _, _, rfl, rfl, fun j y hj hy => ?_⟩
      by_cases e : j = i
      · subst e
        rw [hq] at hy
        cases hy
        exact ⟨ok1, ok2⟩
      · exact fine j y (by omega) hy
    · rintro σ H' ⟨v2, v3, v4, rfl, rfl, fine⟩
      refine qn fun q hq => ?_
      obtain ⟨j, hj⟩ := List.getElem?_of_mem hq
      exact fine j q (by rw [P_len hT]; exact lt_get hj) hj
/-! ### a way between two lines -/
def sp_steps (K : PySem.W.Frag) : Sp := fun vs H Q _ => ∃ (a : Addr) (us : List V) (js : List J) (n here goal : Nat), vs = [.ref a, nV here, nV goal] ∧ SqL K H a us ∧ JP K H us js ∧ js.length ≤ 100 ∧ n ≤ 100 ∧ (∀ e ∈ js, e.i < n ∧ e.j < n) ∧ here < n ∧ Conn js here goal ∧
  ∀ W x H', Way js here goal W → Same H H' → H x = none → TelL H' x (tell W) → Q (.ref x) H'
theorem ok_steps {f : Addr} {fd : FuncData} (F : Fun K "_steps_between" "_steps_between" s_steps_between f fd) (T : Txt mg) : FnOk P w K mg base CX0 1 f fd ["joints", "here", "goal"] (sp_steps K) := by
  refine F.ok sc_steps_between (fun vs H Q E h => ?_) (fun cdv A outer s H vs Q E hr h => ?_)
  · obtain ⟨a, us, js, n, here, goal, rfl, _⟩ := h
    rfl
  · obtain ⟨a, us, js, n, here, goal, rfl, hS, hJ, hl, hn, bd, hh, cn, q⟩ := h
    refine ⟨_, (pss_cons (ps_set (i := 3) sc_steps_between.nd rfl (.inl rfl) (pe_disp (pps_cons (pv 1) (pe_lst pa_nil) pps_nil) (by rfl) (by rfl) (fun z => by cases z) (by decide)))
 (pss_cons (ps_while PassesOwn.never (pt_cmp (pc_dnotin (hu_of hr) (pv 2) (pv 3)))
 (pss_one (ps_for PassesOwn.never rfl (pi_list (pv 0)) (pg_tup rfl (pgs_cons (pg_name (i := 4) sc_steps_between.nd rfl (.inl rfl)) (pgs_cons (pg_name (i := 5) sc_steps_between.nd rfl (.inl rfl)) (pgs_cons (pg_name (i := 6) sc_steps_between.nd rfl (.inl rfl)) pgs_nil))))
 (pss_one (ps_if (PW.pt (pw_and (pt_cmp (pc_din (hu_of hr) (pv 5) (pv 3))) (pw_and1 (pt_cmp (pc_dnotin (hu_of hr) (pv 6) (pv 3))))))
 (pss_one (ps_dput (hu_of hr) (pv 3) (pv 6) (pe_op op_cat (pe_dget (hu_of hr) (pv 3) (pv 5) (fun _ _ => rfl)) (pe_lst (pa_cons (pe_tup (pa_cons (pv 4) (pa_cons pe_int pa_nil))) pa_nil))) rfl))
 (pss_one (ps_if (PW.pt (pw_and (pt_cmp (pc_din (hu_of hr) (pv 6) (pv 3))) (pw_and1 (pt_cmp (pc_dnotin (hu_of hr) (pv 5) (pv 3))))))
 (pss_one (ps_dput (hu_of hr) (pv 3) (pv 5) (pe_op op_cat (pe_dget (hu_of hr) (pv 3) (pv 6) (fun _ _ => rfl)) (pe_lst (pa_cons (pe_tup (pa_cons (pv 4) (pa_cons (pe_un un_neg pe_int) pa_nil))) pa_nil))) rfl))
 pss_nil)))))))
 (pss_one (ps_ret (pe_dget (hu_of hr) (pv 3) (pv 2) (fun _ _ => rfl)))))), ?_⟩
    have hlu : us.length = js.length := P_len hJ
    -- ways = {here: []}
    refine fun d nd => ⟨_, rfl, Nat.zero_le _, fun x nx => ?_⟩
    have ed : (upd H d (.dK [])) d = some (.dK []) := upd_same
    have dx : d ≠ x := ne_of_none ed nx
    refine ⟨by rw [upd_ne dx]; exact ed, [(Sum.inl (here : Int), .ref x)], rfl, (by show 1 ≤ 15; decide), ?_⟩
    have hx0 : H x = none := by rw [upd_ne (Ne.symm dx)] at nx; exact nx
    have s0 : Same H (upd (upd H d (.dK [])) x (.lst [])) := ((Same.refl H).new nd).mut hx0
    have wd0 : WD H (upd (upd (upd H d (.dK [])) x (.lst [])) d (.dK (mergeK [] [(Sum.inl (here : Int), V.ref x)]))) d [(here, [])] :=
      ⟨[(here, x)], upd_same, .cons ⟨rfl, hx0, [], by rw [upd_ne (Ne.symm dx), upd_same], .nil⟩ .nil⟩
    have s1 := s0.mut (o := .dK (mergeK [] [(Sum.inl (here : Int), V.ref x)])) nd
    generalize upd (upd (upd H d (.dK [])) x (.lst [])) d (.dK (mergeK [] [(Sum.inl (here : Int), V.ref x)])) = H1 at wd0 s1 ⊢
    have hst : inW [(here, [])] here = true := by
      show (if here = here then some ([] : List (Nat × Int)) else none).isSome = true
      rw [if_pos rfl]
      rfl
    -- while goal not in ways
    refine ⟨fun c σ H' => ∃ (ws : List (Nat × List (Nat × Int))) (v4 v5 v6 : Option V), σ = [some (.ref a), some (nV here), some (nV goal), some (.ref d), v4, v5, v6] ∧ Same H H' ∧ WD H H' d ws ∧ WI n js here ws ∧ inW ws here = true ∧ c = js.length - inner js (inW ws),
      ⟨_, _, none, none, none, rfl, s1, wd0, .start hh, hst, rfl⟩, ?_⟩
    rintro c σ H2 ⟨ws, v4, v5, v6, rfl, s2, wd, wi, hin, rfl⟩
    rcases wd.get goal with ⟨eg, g⟩ | ⟨x, l, eg, g, hx, tl⟩
    · refine ⟨_, rfl, _, rfl, d, _, rfl, g, _, rfl, iteT ?_⟩
      refine ⟨fun σ H' => ∃ (ws' : List (Nat × List (Nat × Int))) (v4 v5 v6 : Option V), σ = [some (.ref a), some (nV here), some (nV goal), some (.ref d), v4, v5, v6] ∧ Same H H' ∧ WD H H' d ws' ∧ WI n js here ws' ∧ Round js (inW ws) (inW ws') js.length, ?_, ?_⟩
      · rintro σ' H' ⟨ws', v4, v5, v6, rfl, s3, wd', wi', rd⟩
        refine ⟨_, ?_, ws', v4, v5, v6, rfl, s3, wd', wi', rd.up _ hin, rfl⟩
        rcases rd.done with h | ⟨h, cl⟩
        · have := inner_le js (inW ws')
          omega
        · have := cn.closed cl (rd.up _ hin)
          rw [h] at this
          have e2 : (K02.look ws goal).isSome = true := this
          rw [eg] at e2
          cases e2
      · refine ⟨_, rfl, a, rfl, ⟨_, s2.seq hS⟩, for_list (K := K) (a := a) (xs := us) (fun t σ H' => ∃ (ws' : List (Nat × List (Nat × Int))) (v4 v5 v6 : Option V), σ = [some (.ref a), some (nV here), some (nV goal), some (.ref d), v4, v5, v6] ∧ Same H H' ∧ WD H H' d ws' ∧ WI n js here ws' ∧ Round js (inW ws) (inW ws') t)
          ⟨ws, v4, v5, v6, rfl, s2, wd, wi, .start _ _⟩ (fun t σ H' _ ⟨_, _, _, _, _, sm, _⟩ => sm.seq hS) ?_ ?_⟩
        · rintro t y σ H3 hy ⟨ws', v4, v5, v6, rfl, s3, wd', wi', rd⟩
          obtain ⟨e, he, tt, rfl, et⟩ := P_right hJ hy
          have hm := List.mem_of_getElem? he
          refine ⟨tt, _, rfl, s3.seqT et, rfl, _, _, rfl, _, _, rfl, _, _, rfl, rfl, ?_⟩
          have stay : (K02.look ws' e.i).isSome = (K02.look ws' e.j).isSome → Round js (inW ws) (inW ws') (t + 1) := fun q => rd.stay he q
          rcases wd'.get e.i with ⟨ei, gi⟩ | ⟨xi, li, ei, gi, hxi, tli⟩
          · refine ⟨_, rfl, _, rfl, d, _, rfl, gi, _, rfl, iteF (iteF ?_)⟩
            rcases wd'.get e.j with ⟨ej, gj⟩ | ⟨xj, lj, ej, gj, hxj, tlj⟩
            · refine ⟨_, rfl, _, rfl, d, _, rfl, gj, _, rfl, iteF (iteF ?_)⟩
              exact ⟨ws', _, _, _, rfl, s3, wd', wi', stay (by rw [ei, ej])⟩
            · refine ⟨_, rfl, _, rfl, d, _, rfl, gj, _, rfl, iteT ⟨_, rfl, _, rfl, d, _, rfl, gi, _, rfl, iteT ?_⟩⟩
              refine ⟨_, rfl, _, rfl, d, V.ref xj, rfl, gj, _, rfl, _, rfl, (by show 2 ≤ sizeLine; decide), fun t1 n1 => ⟨(by show 1 ≤ sizeLine; decide), fun p np => ?_⟩⟩
              obtain ⟨vs, ev, tp⟩ := tlj
              have x1 : Same H3 (upd H3 t1 (.tup [nV e.ix, V.int (-1)])) := (Same.refl H3).new n1
              have et1 : (upd H3 t1 (.tup [nV e.ix, V.int (-1)])) t1 = some (.tup [nV e.ix, V.int (-1)]) := upd_same
              generalize upd H3 t1 (.tup [nV e.ix, V.int (-1)]) = H4 at x1 et1 np ⊢
              have x2 : Same H4 (upd H4 p (.lst [.ref t1])) := (Same.refl H4).new np
              have ep : (upd H4 p (.lst [.ref t1])) p = some (.lst [.ref t1]) := upd_same
              generalize upd H4 p (.lst [.ref t1]) = H5 at x2 ep ⊢
              have x3 := x1.trans x2
              refine ⟨xj, p, vs, [.ref t1], rfl, rfl, x3 _ _ ev, ep, ?_, fun z nz => ?_⟩
              · have := wi'.llen ej
                rw [P_len tp, List.length_singleton]
                exact szle (by omega)
              have x4 : Same H5 (upd H5 z (.lst (vs ++ [.ref t1]))) := (Same.refl H5).new nz
              have ez : (upd H5 z (.lst (vs ++ [.ref t1]))) z = some (.lst (vs ++ [.ref t1])) := upd_same
              generalize upd H5 z (.lst (vs ++ [.ref t1])) = H6 at x4 ez ⊢
              have x5 := x3.trans x4
              have s6 := s3.trans x5
              have zn : H z = none := (s3.trans x3).free nz
              have tl6 : TelL H6 z (lj ++ [(e.ix, (-1 : Int))]) := ⟨_, ez, P_append (tp.same x5) (.cons ⟨t1, rfl, (x2.trans x4) _ _ et1⟩ .nil)⟩
              obtain ⟨H7, pd, wd7, k7⟩ := (wd'.same x5).store (k := e.i) zn tl6 wi'.nd (by have := wi'.len; exact szl (by omega))
              have dn : H d = none := nd
              refine ⟨_, rfl, _, rfl, d, H7, rfl, pd, ?_⟩
              refine ⟨_, _, _, _, rfl, fun b o eb => k7 b o (ne_of_none eb dn) (s6 b o eb), wd7, wi'.step (s := ⟨e, false⟩) hm ej ei (bd e hm).1, ?_⟩
              refine rd.grow he ?_ ?_ fun v hv => inW_put v hv
              · show ((K02.look ws' e.i).isSome && (K02.look ws' e.j).isSome) = false
                rw [ei]
                rfl
              · show ((K02.look _ e.i).isSome && (K02.look _ e.j).isSome) = true
                rw [show (K02.look (K02.put ws' e.i (lj ++ [(e.ix, -1)])) e.i).isSome = true from inW_self, show (K02.look (K02.put ws' e.i (lj ++ [(e.ix, -1)])) e.j).isSome = true from inW_put _ (by show (K02.look ws' e.j).isSome = true; rw [ej]; rfl)]
                rfl
          · rcases wd'.get e.j with ⟨ej, gj⟩ | ⟨xj, lj, ej, gj, hxj, tlj⟩
            · refine ⟨_, rfl, _, rfl, d, _, rfl, gi, _, rfl, iteT ⟨_, rfl, _, rfl, d, _, rfl, gj, _, rfl, iteT ?_⟩⟩
              refine ⟨_, rfl, _, rfl, d, V.ref xi, rfl, gi, _, rfl, (by show 2 ≤ sizeLine; decide), fun t1 n1 => ⟨(by show 1 ≤ sizeLine; decide), fun p np => ?_⟩⟩
              obtain ⟨vs, ev, tp⟩ := tli
              have x1 : Same H3 (upd H3 t1 (.tup [nV e.ix, V.int (1)])) := (Same.refl H3).new n1
              have et1 : (upd H3 t1 (.tup [nV e.ix, V.int (1)])) t1 = some (.tup [nV e.ix, V.int (1)]) := upd_same
              generalize upd H3 t1 (.tup [nV e.ix, V.int (1)]) = H4 at x1 et1 np ⊢
              have x2 : Same H4 (upd H4 p (.lst [.ref t1])) := (Same.refl H4).new np
              have ep : (upd H4 p (.lst [.ref t1])) p = some (.lst [.ref t1]) := upd_same
              generalize upd H4 p (.lst [.ref t1]) = H5 at x2 ep ⊢
              have x3 := x1.trans x2
              refine ⟨xi, p, vs, [.ref t1], rfl, rfl, x3 _ _ ev, ep, ?_, fun z nz => ?_⟩
              · have := wi'.llen ei
                rw [P_len tp, List.length_singleton]
                exact szle (by omega)
              have x4 : Same H5 (upd H5 z (.lst (vs ++ [.ref t1]))) := (Same.refl H5).new nz
              have ez : (upd H5 z (.lst (vs ++ [.ref t1]))) z = some (.lst (vs ++ [.ref t1])) := upd_same
              generalize upd H5 z (.lst (vs ++ [.ref t1])) = H6 at x4 ez ⊢
              have x5 := x3.trans x4
              have s6 := s3.trans x5
              have zn : H z = none := (s3.trans x3).free nz
              have tl6 : TelL H6 z (li ++ [(e.ix, (1 : Int))]) := ⟨_, ez, P_append (tp.same x5) (.cons ⟨t1, rfl, (x2.trans x4) _ _ et1⟩ .nil)⟩
              obtain ⟨H7, pd, wd7, k7⟩ := (wd'.same x5).store (k := e.j) zn tl6 wi'.nd (by have := wi'.len; exact szl (by omega))
              have dn : H d = none := nd
              refine ⟨_, rfl, _, rfl, d, H7, rfl, pd, ?_⟩
              refine ⟨_, _, _, _, rfl, fun b o eb => k7 b o (ne_of_none eb dn) (s6 b o eb), wd7, wi'.step (s := ⟨e, true⟩) hm ei ej (bd e hm).2, ?_⟩
              refine rd.grow he ?_ ?_ fun v hv => inW_put v hv
              · show ((K02.look ws' e.i).isSome && (K02.look ws' e.j).isSome) = false
                rw [ej]
                exact Bool.and_false _
              · show ((K02.look _ e.i).isSome && (K02.look _ e.j).isSome) = true
                rw [show (K02.look (K02.put ws' e.j (li ++ [(e.ix, 1)])) e.j).isSome = true from inW_self, show (K02.look (K02.put ws' e.j (li ++ [(e.ix, 1)])) e.i).isSome = true from inW_put _ (by show (K02.look ws' e.i).isSome = true; rw [ei]; rfl)]
                rfl
            · refine ⟨_, rfl, _, rfl, d, _, rfl, gi, _, rfl, iteT ⟨_, rfl, _, rfl, d, _, rfl, gj, _, rfl, iteF ?_⟩⟩
              refine ⟨_, rfl, _, rfl, d, _, rfl, gj, _, rfl, iteT ⟨_, rfl, _, rfl, d, _, rfl, gi, _, rfl, iteF ?_⟩⟩
              exact ⟨ws', _, _, _, rfl, s3, wd', wi', stay (by rw [ei, ej]; rfl)⟩
        · rintro σ H3 ⟨ws', v4, v5, v6, rfl, s3, wd', wi', rd⟩
          rw [P_len hJ] at rd
          exact ⟨ws', v4, v5, v6, rfl, s3, wd', wi', rd⟩
    · refine ⟨_, rfl, _, rfl, d, _, rfl, g, _, rfl, iteF ?_⟩
      obtain ⟨_, W, vs, p, rfl, _⟩ := wi.way _ _ eg
      exact ⟨_, rfl, _, rfl, d, _, rfl, g, q W x H2 ⟨vs, p⟩ s2 hx tl⟩
/-! ### a group moved -/
def movd (p gr mi : Int) (G L : List Int) : List Int := List.zipWith (fun o x => if o = gr then (x + mi).fmod p else x) G L
theorem movd_len {p gr mi : Int} {G L : List Int} (h : G.length = L.length) : (movd p gr mi G L).length = L.length := by
  unfold movd
  rw [List.length_zipWith]
  omega
theorem movd_get {p gr mi : Int} {G L : List Int} {i : Nat} {o x : Int} (h1 : G[i]? = some o) (h2 : L[i]? = some x) : (movd p gr mi G L)[i]? = some (if o = gr then (x + mi).fmod p else x) := by
  unfold movd
  rw [List.getElem?_zipWith, h1, h2]
def sp_moved (K : PySem.W.Frag) : Sp := fun vs H Q _ => ∃ (g l : Addr) (p gr mi : Int) (G L : List Int), vs = [.int p, .ref g, .ref l, .int gr, .int mi] ∧ SqL K H g (IL G) ∧ SqL K H l (IL L) ∧ G.length = L.length ∧ L.length ≤ 100 ∧ 0 < p ∧
  ∀ r H', Same H H' → H r = none → H' r = some (.lst (IL (movd p gr mi G L))) → Q (.ref r) H'
theorem ok_moved {f : Addr} {fd : FuncData} (F : Fun K "_moved" "_moved" s_moved f fd) (T : Txt mg) : FnOk P w K mg base CX0 1 f fd ["period", "groups", "phases", "group", "minutes"] (sp_moved K) := by
  refine F.ok sc_moved (fun vs H Q E h => ?_) (fun cdv A outer s H vs Q E hr h => ?_)
  · obtain ⟨g, l, p, gr, mi, G, L, rfl, _⟩ := h
    rfl
  · obtain ⟨g, l, p, gr, mi, G, L, rfl, hG, hL, hlen, hl, hp, q⟩ := h
    refine ⟨_, (pss_one (ps_ret (pe_lc (own := [("own", 5), ("phase", 6)]) (g := gTup K 2 (gCons (gName 5) (gCons (gName 6) (gNil)))) (tt := tYes) rfl sc_moved.nd (pi_zip (by rfl) T.zip (pa_cons (pv 1) (pa_cons (pv 2) pa_nil))) (blkOk_by (N := ["period", "groups", "phases", "group", "minutes", "own", "phase"]) (sc := defScope s_moved) (by decide +kernel)) (fun _ _ _ _ _ => (pg_tup rfl (pgs_cons (pg_name (i := 5) sc_moved.nd rfl (.inl rfl)) (pgs_cons (pg_name (i := 6) sc_moved.nd rfl (.inl rfl)) pgs_nil)))) (fun _ _ _ _ _ => pts_nil) (fun _ _ _ _ _ => (pe_ifExp (pt_cmpR op_eq (pv 5) (pv 3) (nomark _)) (pe_op op_modN (pe_op op_add (pv 6) (pv 4)) (pv 0)) (pv 6)))))), ?_⟩
    refine ⟨_, rfl, _, rfl, g, l, _, _, rfl, hG, hL, fun D nD => ?_⟩
    refine lc_it (walk_zip (K := K) (a := g) (b := l) (xs := IL G) (ys := IL L) (n := L.length) (by rw [List.length_map, List.length_map]; omega)) (fun i H' => Same H H' ∧ H' D = some (.lst (IL ((movd p gr mi G L).take i)))) ⟨(Same.refl H).new nD, upd_same⟩ (fun i H' _ ⟨sm, _⟩ => ⟨sm.seq hG, sm.seq hL⟩) ?_ ?_
    · rintro i x H1 H2 hi ⟨s1, eD⟩ ⟨t, xa, xb, rfl, nt, rfl, hxa, hxb⟩
      obtain ⟨o, ho, rfl⟩ := getn_inv hxa
      obtain ⟨z, hz, rfl⟩ := getn_inv hxb
      have s2 : Same H1 (upd H1 t (.tup [.int o, .int z])) := (Same.refl H1).new nt
      have hm := movd_get (p := p) (gr := gr) (mi := mi) ho hz
      have go : ∀ v : Int, v = (if o = gr then (z + mi).fmod p else z) → ∃ acc, (upd H1 t (.tup [.int o, .int z])) D = some (.lst acc) ∧ acc.length < sizeLine ∧ (Same H (upd (upd H1 t (.tup [.int o, .int z])) D (.lst (acc ++ [V.int v]))) ∧ (upd (upd H1 t (.tup [.int o, .int z])) D (.lst (acc ++ [V.int v]))) D = some (.lst (IL ((movd p gr mi G L).take (i + 1))))) := fun v ev => by
        refine ⟨_, s2 _ _ eD, ?_, (s1.trans s2).mut nD, ?_⟩
        · rw [List.length_map]
          exact szl (Nat.le_trans (List.length_take_le' _ _) (by rw [movd_len hlen]; omega))
        · rw [upd_same, take_more hm, IL_snoc, ev]
      refine ⟨t, _, rfl, SqT.of upd_same, rfl, _, _, rfl, _, _, rfl, rfl, rfl, ?_⟩
      refine ⟨_, rfl, _, rfl, rfl, _, rfl, ?_⟩
      by_cases e : o = gr
      · rw [decide_eq_true (show V.int o = V.int gr by rw [e])]
        refine iteT ⟨_, rfl, _, rfl, _, _, rfl, rfl, _, rfl, _, _, rfl, rfl, (by show p ≠ 0; omega), ?_⟩
        exact go _ (by rw [if_pos e])
      · rw [decide_eq_false (show ¬ V.int o = V.int gr from fun z => e (V.int.inj z))]
        exact iteF ⟨_, rfl, go _ (by rw [if_neg e])⟩
    · rintro H1 ⟨s1, eD⟩
      rw [show L.length = (movd p gr mi G L).length from (movd_len hlen).symm, List.take_length] at eD
      exact q D H1 s1 nD eD
/-! ### the least line of each group at 0 -/
def sp_lfst (K : PySem.W.Frag) : Sp := fun vs H Q _ => ∃ (g l : Addr) (p : Int) (G L : List Int), vs = [.int p, .ref g, .ref l] ∧ SqL K H g (IL G) ∧ SqL K H l (IL L) ∧ G.length = L.length ∧ L.length ≤ 100 ∧ 0 < p ∧
  ∀ r R H', Same H H' → H r = none → H' r = some (.lst (IL R)) → R.length = L.length → (∀ (v : Nat) (o z : Int), G[v]? = some o → L[v]? = some z → ∃ (u : Nat) (y : Int), G[u]? = some o ∧ (∀ m, m < u → G[m]? ≠ some o) ∧ L[u]? = some y ∧ R[v]? = some ((z - y).fmod p)) → Q (.ref r) H'
theorem first_of {G : List Int} {v : Nat} {o : Int} (h : G[v]? = some o) : ∃ u, u ≤ v ∧ G[u]? = some o ∧ ∀ m, m < u → G[m]? ≠ some o := by
  induction v using Nat.strongRecOn with
  | _ v ih =>
    by_cases c : ∃ m, m < v ∧ G[m]? = some o
    · obtain ⟨m, h1, h2⟩ := c
      obtain ⟨u, u1, u2⟩ := ih m h1 h2
      exact ⟨u, by omega, u2⟩
    · exact ⟨v, Nat.le_refl _, h, fun m hm e => c ⟨m, hm, e⟩⟩
theorem ok_lfst {f : Addr} {fd : FuncData} (F : Fun K "_least_first" "_least_first" s_least_first f fd) (T : Txt mg) : FnOk P w K mg base CX0 1 f fd ["period", "groups", "phases"] (sp_lfst K) := by
  refine F.ok sc_least_first (fun vs H Q E h => ?_) (fun cdv A outer s H vs Q E hr h => ?_)
  · obtain ⟨g, l, p, G, L, rfl, _⟩ := h
    rfl
  · obtain ⟨g, l, p, G, L, rfl, hG, hL, hlen, hl, hp, q⟩ := h
    refine ⟨_, (pss_one (ps_ret (pe_lc (own := [("group", 3), ("phase", 4)]) (g := gTup K 2 (gCons (gName 3) (gCons (gName 4) (gNil)))) (tt := tYes) rfl sc_least_first.nd (pi_zip (by rfl) T.zip (pa_cons (pv 1) (pa_cons (pv 2) pa_nil))) (blkOk_by (N := ["period", "groups", "phases", "group", "phase"]) (sc := defScope s_least_first) (by decide +kernel)) (fun _ _ _ _ _ => (pg_tup rfl (pgs_cons (pg_name (i := 3) sc_least_first.nd rfl (.inl rfl)) (pgs_cons (pg_name (i := 4) sc_least_first.nd rfl (.inl rfl)) pgs_nil)))) (fun _ _ _ _ _ => pts_nil) (fun _ _ _ _ _ => (pe_op op_modN (pe_op op_sub (pv 4) (pe_ix (r := rIxL K) ix_list (pv 2) (pe_bmK (K := K) (r := rIndex K) PySem.F.plainAttrs_list PySem.F.slot_list_index PySem.F.type_list_index mt_index (pv 1) (pa_cons (pv 3) pa_nil)) (fun _ _ => rfl))) (pv 0)))))), ?_⟩
    refine ⟨_, rfl, _, rfl, g, l, _, _, rfl, hG, hL, fun D nD => ?_⟩
    refine lc_it (walk_zip (K := K) (a := g) (b := l) (xs := IL G) (ys := IL L) (n := L.length) (by rw [List.length_map, List.length_map]; omega)) (fun i H' => ∃ R : List Int, Same H H' ∧ H' D = some (.lst (IL R)) ∧ R.length = i ∧ ∀ (v : Nat) (o z : Int), v < i → G[v]? = some o → L[v]? = some z → ∃ (u : Nat) (y : Int), G[u]? = some o ∧ (∀ m, m < u → G[m]? ≠ some o) ∧ L[u]? = some y ∧ R[v]? = some ((z - y).fmod p))
      ⟨[], (Same.refl H).new nD, upd_same, rfl, fun v o z h => absurd h (Nat.not_lt_zero v)⟩ (fun i H' _ ⟨_, sm, _⟩ => ⟨sm.seq hG, sm.seq hL⟩) ?_ ?_
    · rintro i x H1 H2 hi ⟨R, s1, eD, eR, hR⟩ ⟨t, xa, xb, rfl, nt, rfl, hxa, hxb⟩
      obtain ⟨o, ho, rfl⟩ := getn_inv hxa
      obtain ⟨z, hz, rfl⟩ := getn_inv hxb
      have s2 : Same H1 (upd H1 t (.tup [.int o, .int z])) := (Same.refl H1).new nt
      obtain ⟨u, u1, u2, u3⟩ := first_of ho
      obtain ⟨y, hy⟩ := get_lt (l := L) (i := u) (by have := lt_get u2; omega)
      refine ⟨t, _, rfl, SqT.of upd_same, rfl, _, _, rfl, _, _, rfl, rfl, rfl, ?_⟩
      refine ⟨_, rfl, _, rfl, _, rfl, .inl ⟨rfl, _, (s1.trans s2).seq hG⟩, _, rfl, g, _, .int o, u, .int o, rfl, rfl, (s1.trans s2).seq hG, rfl, ?_, getn u2, ?_, ?_, ?_⟩
      · exact List.all_eq_true.mpr fun x hx => by obtain ⟨_, _, rfl⟩ := List.mem_map.mp hx; rfl
      · exact decide_eq_true rfl
      · rintro m z' hm hz'
        obtain ⟨o', ho', rfl⟩ := getn_inv hz'
        exact decide_eq_false fun e => u3 m hm (by rw [ho', e])
      refine ixl (v := .int y) ((s1.trans s2).seq hL) (at_n (getn hy)) ⟨_, _, rfl, rfl, _, rfl, _, _, rfl, rfl, (by show p ≠ 0; omega), ?_⟩
      refine ⟨_, s2 _ _ eD, ?_, R ++ [(z - y).fmod p], (s1.trans s2).mut nD, by rw [upd_same, IL_snoc], by rw [List.length_append, eR]; rfl, fun v o' z' hv ho' hz' => ?_⟩
      · rw [List.length_map, eR]
        exact szl (by omega)
      · by_cases e : v = i
        · subst e
          rw [ho] at ho'
          cases ho'
          rw [hz] at hz'
          cases hz'
          exact ⟨u, y, u2, u3, hy, by rw [List.getElem?_append_right (by omega), eR, Nat.sub_self]; rfl⟩
        · obtain ⟨u', y', a1, a2, a3, a4⟩ := hR v o' z' (by omega) ho' hz'
          exact ⟨u', y', a1, a2, a3, by rw [List.getElem?_append_left (by omega)]; exact a4⟩
    · rintro H1 ⟨R, s1, eD, eR, hR⟩
      exact q D R H1 s1 nD eD eR fun v o z ho hz => hR v o z (lt_get hz) ho hz
end
end K32W

namespace K32W
open PySem PySem.Spec PyProof.Rows L2 KH K32 KD
abbrev ssettle : Stmt := topS 15
theorem scsettle : FnScope ["period", "many", "sums", "groups", "phases", "joints", "index", "i", "j", "diff", "missing", "group"] ["period", "many", "sums"] (defScope ssettle) := ⟨rfl, rfl, rfl, by decide +kernel, rfl, by decide +kernel, by decide +kernel⟩

/-! ### the arguments -/
def upS (sums : SM) : List T3 := sums.map fun q => ((q.1 : Int), (q.2.1 : Int), q.2.2)
structure Fine (p m : Int) (ts : List T3) : Prop where
  okp : 1 ≤ p ∧ p ≤ 60
  okm : 0 ≤ m ∧ m ≤ 20
  okl : ∀ q ∈ ts, Okt m q
inductive Flaw (p m : Int) (ts : List T3) : Str → Int → Prop
  | period : ¬ (1 ≤ p ∧ p ≤ 60) → Flaw p m ts "period" p
  | many : (1 ≤ p ∧ p ≤ 60) → ¬ (0 ≤ m ∧ m ≤ 20) → Flaw p m ts "many" m
  | line {z : Int} : (1 ≤ p ∧ p ≤ 60) → (0 ≤ m ∧ m ≤ 20) → LF m ts z → Flaw p m ts "line" z
theorem LF.no {m z : Int} {ts : List T3} (h : LF m ts z) (f : ∀ q ∈ ts, Okt m q) : False := by
  cases h with
  | fst hk bad _ => exact bad (f _ (List.mem_of_getElem? hk)).1
  | snd hk _ bad _ => exact bad (f _ (List.mem_of_getElem? hk)).2
theorem Flaw.no {p m z : Int} {wd : Str} {ts : List T3} (h : Flaw p m ts wd z) (f : Fine p m ts) : False := by
  cases h with
  | period b => exact b f.okp
  | many _ b => exact b f.okm
  | line _ _ b => exact b.no f.okl
theorem Fine.down {p m : Int} {ts : List T3} (f : Fine p m ts) : ∃ sums : SM, ts = upS sums ∧ ∀ q ∈ sums, q.1 < m.toNat ∧ q.2.1 < m.toNat := by
  obtain ⟨_, _, hl⟩ := f
  induction ts with
  | nil => exact ⟨[], rfl, fun q hq => by cases hq⟩
  | cons t ts ih =>
    obtain ⟨sums, e, h⟩ := ih fun q hq => hl q (List.mem_cons_of_mem _ hq)
    obtain ⟨⟨a1, a2⟩, b1, b2⟩ := hl t List.mem_cons_self
    refine ⟨(t.1.toNat, t.2.1.toNat, t.2.2) :: sums, ?_, fun q hq => ?_⟩
    · rw [e]
      show t :: upS sums = ((t.1.toNat : Int), (t.2.1.toNat : Int), t.2.2) :: upS sums
      rw [Int.toNat_of_nonneg a1, Int.toNat_of_nonneg b1]
    · rcases List.mem_cons.mp hq with rfl | hq
      · dsimp only
        omega
      · exact h q hq
theorem upS_inj {a b : SM} (h : upS a = upS b) : a = b := by
  unfold upS at h
  refine (List.map_inj_right ?_).mp h
  rintro ⟨x1, x2, x3⟩ ⟨y1, y2, y3⟩ e
  simp only [Prod.mk.injEq] at e
  obtain ⟨e1, e2, e3⟩ := e
  have : x1 = y1 := by omega
  have : x2 = y2 := by omega
  subst_vars
  rfl
theorem upS_get {sums : SM} {k : Nat} {q : T3} (h : (upS sums)[k]? = some q) : ∃ i j d, sums[k]? = some (i, j, d) ∧ q = ((i : Int), (j : Int), d) := by
  unfold upS at h
  obtain ⟨⟨i, j, d⟩, h1, h2⟩ := getn_inv h
  exact ⟨i, j, d, h1, h2⟩
theorem upS_len (sums : SM) : (upS sums).length = sums.length := by unfold upS; rw [List.length_map]
theorem fine_of {sums : SM} {p m : Nat} (hp : 1 ≤ p ∧ p ≤ 60) (hm : m ≤ 20) (h : ∀ q ∈ sums, q.1 < m ∧ q.2.1 < m) : Fine (p : Int) (m : Int) (upS sums) := by
  refine ⟨by omega, by omega, fun q hq => ?_⟩
  obtain ⟨k, hk⟩ := List.getElem?_of_mem hq
  obtain ⟨i, j, d, h1, rfl⟩ := upS_get hk
  have := h _ (List.mem_of_getElem? h1)
  unfold Okt Okl
  dsimp only at this ⊢
  omega
/-! ### the answer -/
/-- at t the answer o, its list at x new since H0 -/
def Told (H0 H : Hp) (t x : Addr) (o : Out) : Prop := H0 x = none ∧ match o with
  | .ring l => H t = some (.tup [.str "ring", .ref x]) ∧ TelL H x l
  | .phases q => H t = some (.tup [.str "phases", .ref x]) ∧ H x = some (.lst (IL q))
theorem Told.same {H0 H H' : Hp} {t x : Addr} {o : Out} (h : Told H0 H t x o) (s : Same H H') : Told H0 H' t x o := by
  refine ⟨h.1, ?_⟩
  cases o with
  | ring l => exact ⟨s _ _ h.2.1, h.2.2.same s⟩
  | phases q => exact ⟨s _ _ h.2.1, s _ _ h.2.2⟩
theorem Told.back {H00 H0 H : Hp} {t x : Addr} {o : Out} (h : Told H0 H t x o) (s : Same H00 H0) : Told H00 H t x o := ⟨s.free h.1, h.2⟩
/-! ### groups and phases -/
def pf (L : List Int) : Nat → Int := fun v => (L[v]?).getD 0
theorem pf_get {L : List Int} {v : Nat} {z : Int} (h : L[v]? = some z) : pf L v = z := by unfold pf; rw [h]; rfl
structure Grp (n : Nat) (js : List J) (G : List Int) : Prop where
  len : G.length = n
  iff : ∀ u v, u < n → v < n → (G[u]? = G[v]? ↔ Conn js u v)
def idL (n : Nat) : List Int := (List.range n).map fun i : Nat => (i : Int)
theorem idL_get {n v : Nat} (h : v < n) : (idL n)[v]? = some (v : Int) := by
  unfold idL
  rw [List.getElem?_map, List.getElem?_range h]
  rfl
theorem Grp.start (n : Nat) : Grp n [] (idL n) := by
  refine ⟨by unfold idL; simp, fun u v hu hv => ?_⟩
  rw [idL_get hu, idL_get hv]
  constructor
  · intro e
    have := Option.some.inj e
    have : u = v := by omega
    subst this
    exact .refl
  · intro c
    rw [c.nil]
def merg (gi gj : Int) (G : List Int) : List Int := G.map fun o => if o = gj then gi else o
theorem Grp.merge {n : Nat} {js : List J} {G : List Int} {e : J} {gi gj : Int} (h : Grp n js G) (hi : e.i < n) (hj : e.j < n) (ei : G[e.i]? = some gi) (ej : G[e.j]? = some gj) : Grp n (js ++ [e]) (merg gi gj G) := by
  have mem : e ∈ js ++ [e] := List.mem_append_right _ (List.mem_singleton.mpr rfl)
  have up : ∀ f ∈ js, f ∈ js ++ [e] := fun f hf => List.mem_append_left _ hf
  have one : ∀ u, u < n → ∃ o, G[u]? = some o := fun u hu => get_lt (by rw [h.len]; exact hu)
  have at_ : ∀ {u : Nat} {o : Int}, G[u]? = some o → (merg gi gj G)[u]? = some (if o = gj then gi else o) := fun {u o} hu => by
    unfold merg
    rw [List.getElem?_map, hu]
    rfl
  refine ⟨by unfold merg; rw [List.length_map]; exact h.len, fun u v hu hv => ?_⟩
  obtain ⟨a, ha⟩ := one u hu
  obtain ⟨b, hb⟩ := one v hv
  rw [at_ ha, at_ hb]
  have cij : Conn (js ++ [e]) e.i e.j := .fwd .refl mem
  have via : ∀ {x y : Nat} {c d : Int}, x < n → y < n → G[x]? = some c → G[y]? = some d → c = d → Conn (js ++ [e]) x y := fun hx hy hc hd q => ((h.iff _ _ hx hy).mp (by rw [hc, hd, q])).mono up
  constructor
  · intro q
    have q := Option.some.inj q
    by_cases ca : a = gj
    · rw [if_pos ca] at q
      by_cases cb : b = gj
      · exact via hu hv ha hb (ca.trans cb.symm)
      · rw [if_neg cb] at q
        exact (via hu hj ha ej ca).trans (cij.symm.trans (via hi hv ei hb q))
    · rw [if_neg ca] at q
      by_cases cb : b = gj
      · rw [if_pos cb] at q
        exact (via hu hi ha ei q).trans (cij.trans (via hj hv ej hb cb.symm))
      · rw [if_neg cb] at q
        exact via hu hv ha hb q
  · intro c
    have same : ∀ {x y : Nat} {c d : Int}, x < n → y < n → G[x]? = some c → G[y]? = some d → Conn js x y → c = d := fun hx hy hc hd q => by
      have := (h.iff _ _ hx hy).mpr q
      rw [hc, hd] at this
      exact Option.some.inj this
    rcases c.joined with q | ⟨q, r⟩ | ⟨q, r⟩
    · rw [same hu hv ha hb q]
    · have e1 := same hu hi ha ei q
      have e2 := same hj hv ej hb r
      subst e1 e2
      rw [if_pos rfl]
      by_cases z : a = gj
      · rw [if_pos z]
      · rw [if_neg z]
    · have e1 := same hu hj ha ej q
      have e2 := same hi hv ei hb r
      subst e1 e2
      rw [if_pos rfl]
      by_cases z : gi = a
      · rw [if_pos z]
      · rw [if_neg z]
theorem Pot.moved {sums : SM} {p : Int} (hp : 0 < p) {n : Nat} {js : List J} {G L : List Int} {e : J} {gj : Int} (h : Pot sums p js (pf L)) (g : Grp n js G) (hL : L.length = n) (bd : ∀ f ∈ js, f.i < n ∧ f.j < n) (hi : e.i < n) (hj : e.j < n) (ej : G[e.j]? = some gj) (nc : ¬ Conn js e.i e.j) :
    Pot sums p (js ++ [e]) (pf (movd p gj ((pf L e.i + dif sums e.ix - pf L e.j).fmod p) G L)) := by
  have one : ∀ u, u < n → ∃ o z, G[u]? = some o ∧ L[u]? = some z := fun u hu => by
    obtain ⟨o, ho⟩ := get_lt (l := G) (i := u) (by rw [g.len]; exact hu)
    obtain ⟨z, hz⟩ := get_lt (l := L) (i := u) (by rw [hL]; exact hu)
    exact ⟨o, z, ho, hz⟩
  intro f hf
  rcases List.mem_append.mp hf with hf | hf
  · obtain ⟨b1, b2⟩ := bd f hf
    obtain ⟨o1, z1, h1, h2⟩ := one f.i b1
    obtain ⟨o2, z2, h3, h4⟩ := one f.j b2
    have eo : o1 = o2 := by
      have := (g.iff _ _ b1 b2).mpr (.fwd .refl hf)
      rw [h1, h3] at this
      exact Option.some.inj this
    subst eo
    have c := h f hf
    rw [pf_get h2, pf_get h4] at c
    rw [pf_get (movd_get h1 h2), pf_get (movd_get h3 h4)]
    by_cases q : o1 = gj
    · rw [if_pos q, if_pos q]
      generalize (pf L e.i + dif sums e.ix - pf L e.j).fmod p = mi
      obtain ⟨k1, e1⟩ := Cg.self hp (z1 + mi)
      obtain ⟨k2, e2⟩ := Cg.self hp (z2 + mi)
      obtain ⟨k3, e3⟩ := c
      exact ⟨k1 - k2 + k3, by rw [Int.mul_add, Int.mul_sub]; omega⟩
    · rw [if_neg q, if_neg q]
      exact c
  · rw [List.mem_singleton.mp hf]
    obtain ⟨o1, z1, h1, h2⟩ := one e.i hi
    obtain ⟨o2, z2, h3, h4⟩ := one e.j hj
    rw [ej] at h3
    cases h3
    have ne : o1 ≠ gj := fun z => nc ((g.iff _ _ hi hj).mp (by rw [h1, ej, z]))
    rw [pf_get (movd_get h1 h2), pf_get (movd_get ej h4), if_neg ne, if_pos rfl, pf_get h2, pf_get h4]
    obtain ⟨k1, e1⟩ := Cg.self hp (z1 + dif sums e.ix - z2)
    obtain ⟨k2, e2⟩ := Cg.self hp (z2 + (z1 + dif sums e.ix - z2).fmod p)
    exact ⟨-k1 - k2, by rw [Int.mul_sub, Int.mul_neg]; omega⟩
theorem _root_.K32.St.bd {sums : SM} {p : Int} {t n : Nat} {js : List J} (h : St sums p t js) (bd : ∀ q ∈ sums, q.1 < n ∧ q.2.1 < n) : ∀ e ∈ js, e.i < n ∧ e.j < n := fun e he => bd _ (List.mem_of_getElem? (h.at e he).2)
theorem dif_at {sums : SM} {t i j : Nat} {d : Int} (h : sums[t]? = some (i, j, d)) : dif sums t = d := by unfold dif; rw [h]
section
variable {P : Program} {w : World} {K : PySem.W.Frag} {mg : Str → Option Value} {base : Heap} {CN CB CD CT CU fI : Addr}
def sp_settle (K : PySem.W.Frag) (CN : Addr) : Sp := fun vs H Q E => ∃ (p m : Int) (a : Addr) (us : List V) (ts : List T3), vs = [.int p, .int m, .ref a] ∧ Sq K H a us ∧ Trs K H us ts ∧ ts.length ≤ 100 ∧ (∀ wd z, Flaw p m ts wd z → Err CN wd z H E) ∧
  (Fine p m ts → ∀ sums, ts = upS sums → ∀ o t x H', Due sums p m.toNat o → Same H H' → Told H H' t x o → Q (.ref t) H')
theorem rgV_id (n : Nat) : rgV 0 (n : Int) = IL (idL n) := by
  unfold rgV IL idL
  rw [List.map_map, show ((n : Int) - 0).toNat = n by omega]
  refine List.map_congr_left fun i _ => ?_
  show V.int (0 + (i : Int)) = V.int (i : Int)
  rw [Int.zero_add]
theorem zeros (n : Nat) : (List.replicate ((n : Int).toNat) [V.int 0]).flatten = IL (List.replicate n 0) := by
  rw [show ((n : Nat) : Int).toNat = n by omega]
  unfold IL
  rw [List.map_replicate]
  induction n with
  | zero => rfl
  | succ k ih => rw [List.replicate_succ, List.flatten_cons, ih, List.replicate_succ]; rfl
theorem ok_settle {f f1 f2 f3 f4 f5 : Addr} {fd fd1 fd2 fd3 fd4 fd5 : FuncData} (F : Fun K "settle" "settle" ssettle f fd) (T : Txt mg) (c60 : ∃ t, mg "MOST_PERIOD" = some (.int 60 t)) (c20 : ∃ t, mg "MOST_LINES" = some (.int 20 t))
    (Ccheck_number : CalX P w K mg base 3 "check_number" ["what", "value", "least", "most"] (sp_check CN) f1 fd1) (C_check_sums : CalX P w K mg base 4 "_check_sums" ["many", "sums"] (sp_sums K CN) f2 fd2) (C_steps_between : Cal P w K mg base 1 "_steps_between" ["joints", "here", "goal"] (sp_steps K) f3 fd3)
    (C_moved : Cal P w K mg base 1 "_moved" ["period", "groups", "phases", "group", "minutes"] (sp_moved K) f4 fd4) (C_least_first : Cal P w K mg base 1 "_least_first" ["period", "groups", "phases"] (sp_lfst K) f5 fd5) :
    FnOk P w K mg base (L2.CX P w) 5 f fd ["period", "many", "sums"] (sp_settle K CN) := by
  obtain ⟨t60, h60⟩ := c60
  obtain ⟨t20, h20⟩ := c20
  refine F.okX scsettle (fun vs H Q E h => ?_) (fun cdv A outer s H vs Q E hr h => ?_)
  · obtain ⟨p, m, a, us, ts, rfl, _⟩ := h
    rfl
  · obtain ⟨p, m, a, us, ts, rfl, hS, hT, hlen, qe, qn⟩ := h
    have err : ∀ {wd z}, Flaw p m ts wd z → ∀ d, H d = none → E (.ref CN) (some d) (upd H d (.xd [("value", .int z), ("what", .str wd)])) := fun f d nd => qe _ _ f d _ ((Same.refl H).new nd) nd upd_same
    refine ⟨_, (pss_cons (ps_expr (pe_callS Ccheck_number.ok (hr.mono (by decide)) (by rfl) Ccheck_number.mg Ccheck_number.kp Ccheck_number.b (fun σ => passAt (takes_of rfl rfl rfl rfl) σ) (by exact (pa_cons pe_str (pa_cons (pv 0) (pa_cons pe_int (pa_cons (pe_glob (v := .int 60) rfl h60 ⟨_, rfl⟩) pa_nil)))))))
 (pss_cons (ps_expr (pe_callS Ccheck_number.ok (hr.mono (by decide)) (by rfl) Ccheck_number.mg Ccheck_number.kp Ccheck_number.b (fun σ => passAt (takes_of rfl rfl rfl rfl) σ) (by exact (pa_cons pe_str (pa_cons (pv 1) (pa_cons pe_int (pa_cons (pe_glob (v := .int 20) rfl h20 ⟨_, rfl⟩) pa_nil)))))))
 (pss_cons (ps_expr (pe_callS C_check_sums.ok (hr.mono (by decide)) (by rfl) C_check_sums.mg C_check_sums.kp C_check_sums.b (fun σ => passAt (takes_of rfl rfl rfl rfl) σ) (by exact (pa_cons (pv 1) (pa_cons (pv 2) pa_nil)))))
 (pss_cons (ps_set (i := 3) scsettle.nd rfl (.inr rfl) (pe_listRg rfl rfl T.list (prg_1 rfl T.range (pv 1))))
 (pss_cons (ps_set (i := 4) scsettle.nd rfl (.inl rfl) (pe_op op_rep (pe_lst (pa_cons pe_int pa_nil)) (pv 1)))
 (pss_cons (ps_set (i := 5) scsettle.nd rfl (.inl rfl) (pe_lst pa_nil))
 (pss_cons (ps_for (passes_of rfl) rfl (pi_enumQ (by rfl) T.enumerate (pa_cons (pv 2) pa_nil)) (pg_tup rfl (pgs_cons (pg_name (i := 6) scsettle.nd rfl (.inl rfl)) (pgs_cons (pg_tup rfl (pgs_cons (pg_name (i := 7) scsettle.nd rfl (.inr rfl)) (pgs_cons (pg_name (i := 8) scsettle.nd rfl (.inr rfl)) (pgs_cons (pg_name (i := 9) scsettle.nd rfl (.inl rfl)) pgs_nil)))) pgs_nil)))
 (pss_cons (ps_set (i := 10) scsettle.nd rfl (.inl rfl) (pe_op op_modN (pe_op op_sub (pe_op op_add (pe_ix ix_list (pv 4) (pv 7) (fun _ _ => rfl)) (pv 9)) (pe_ix ix_list (pv 4) (pv 8) (fun _ _ => rfl))) (pv 0)))
 (pss_one (ps_if (pt_cmpR op_ne (pe_ix ix_list (pv 3) (pv 7) (fun _ _ => rfl)) (pe_ix ix_list (pv 3) (pv 8) (fun _ _ => rfl)) (nomark _))
 (pss_cons (ps_set (i := 4) scsettle.nd rfl (.inl rfl) (pe_call C_moved.ok (hr.mono (by decide)) (by rfl) C_moved.mg C_moved.kp C_moved.b .nil pass0 (pa_cons (pv 0) (pa_cons (pv 3) (pa_cons (pv 4) (pa_cons (pe_ix ix_list (pv 3) (pv 8) (fun _ _ => rfl)) (pa_cons (pv 10) pa_nil)))))))
 (pss_cons (ps_set (i := 3) scsettle.nd rfl (.inr rfl) (pe_lc (own := [("group", 11)]) (g := gName 11) (tt := tYes) rfl scsettle.nd (pi_list (pv 3)) (blkOk_by (N := ["period", "many", "sums", "groups", "phases", "joints", "index", "i", "j", "diff", "missing", "group"]) (sc := defScope ssettle) (by decide +kernel)) (fun _ _ _ _ _ => (pg_name (i := 11) scsettle.nd rfl (.inl rfl))) (fun _ _ _ _ _ => pts_nil) (fun _ _ _ _ _ => (pe_ifExp (pt_cmpR op_eq (pv 11) (pe_ix (r := rIxL K) ix_list (pv 3) (pv 8) (fun _ _ => rfl)) (nomark _)) (pe_ix (r := rIxL K) ix_list (pv 3) (pv 7) (fun _ _ => rfl)) (pv 11)))))
 (pss_one (ps_expr (pe_bm PySem.F.plainAttrs_list PySem.F.slot_list_append PySem.F.type_list_append mt_append (pv 5) (pa_cons (pe_tup (pa_cons (pv 6) (pa_cons (pv 7) (pa_cons (pv 8) pa_nil)))) pa_nil))))))
 (pss_one (ps_if (pt_cmpR op_ne (pv 10) pe_int (nomark _))
 (pss_one (ps_ret (pe_tup (pa_cons pe_str (pa_cons (pe_op op_cat (pe_lst (pa_cons (pe_tup (pa_cons (pv 6) (pa_cons pe_int pa_nil))) pa_nil)) (pe_call C_steps_between.ok (hr.mono (by decide)) (by rfl) C_steps_between.mg C_steps_between.kp C_steps_between.b .nil pass0 (pa_cons (pv 5) (pa_cons (pv 8) (pa_cons (pv 7) pa_nil))))) pa_nil)))))
 pss_nil))))))
 (pss_one (ps_ret (pe_tup (pa_cons pe_str (pa_cons (pe_call C_least_first.ok (hr.mono (by decide)) (by rfl) C_least_first.mg C_least_first.kp C_least_first.b .nil pass0 (pa_cons (pv 0) (pa_cons (pv 3) (pa_cons (pv 4) pa_nil)))) pa_nil)))))))))))), ?_⟩
    refine ⟨_, rfl, _, _, _, _, rfl, fun bad d nd => err (.period bad) d nd, fun okp => ?_⟩
    refine ⟨_, rfl, _, _, _, _, rfl, fun bad d nd => err (.many okp bad) d nd, fun okm => ?_⟩
    refine ⟨_, rfl, _, rfl, _, _, _, _, rfl, hS, hT, fun z bad d nd => err (.line okp okm bad) d nd, fun okl => ?_⟩
    have fine : Fine p m ts := ⟨okp, okm, okl⟩
    obtain ⟨sums, ets, bd⟩ := fine.down
    subst ets
    have q := qn fine sums rfl
    clear qn qe err
    obtain ⟨n, rfl⟩ : ∃ n : Nat, m = n := ⟨m.toNat, by omega⟩
    rw [show ((n : Nat) : Int).toNat = n by omega] at q bd
    have hp : 0 < p := by omega
    have hn : n ≤ 20 := by omega
    rw [upS_len] at hlen
    -- groups = list(range(many))
    refine ⟨_, rfl, _, rfl, .of_le (by omega) (by omega) (by omega) (by omega), fun g ng => ?_⟩
    rw [rgV_id]
    have s1 : Same H (upd H g (.lst (IL (idL n)))) := (Same.refl H).new ng
    have eg : (upd H g (.lst (IL (idL n)))) g = some (.lst (IL (idL n))) := upd_same
    generalize upd H g (.lst (IL (idL n))) = H1 at s1 eg ⊢
    -- phases = [0] * many
    refine ⟨(by show 1 ≤ sizeLine; decide), fun z nz => ⟨_, rfl, z, (n : Int), _, rfl, rfl, upd_same, by omega, by omega, ?_, fun l nl => ?_⟩⟩
    · show 1 * _ ≤ _
      rw [show ((n : Nat) : Int).toNat = n by omega]
      exact szle (by omega)
    have e0 := zeros n
    rw [e0]
    have s2 := s1.trans (((Same.refl H1).new (o := .lst [V.int 0]) nz).new (o := .lst (IL (List.replicate n 0))) nl)
    have s12 : Same H1 (upd (upd H1 z (.lst [V.int 0])) l (.lst (IL (List.replicate n 0)))) := ((Same.refl H1).new nz).new nl
    have el : (upd (upd H1 z (.lst [V.int 0])) l (.lst (IL (List.replicate n 0)))) l = some (.lst (IL (List.replicate n 0))) := upd_same
    generalize upd (upd H1 z (.lst [V.int 0])) l (.lst (IL (List.replicate n 0))) = H2 at s2 s12 el ⊢
    have eg2 := s12 _ _ eg
    -- joints = []
    refine ⟨Nat.zero_le _, fun j nj => ?_⟩
    have nj0 : H j = none := s2.free nj
    have s3 := s2.new (o := .lst []) nj
    have s23 : Same H2 (upd H2 j (.lst [])) := (Same.refl H2).new nj
    have ejs : (upd H2 j (.lst [])) j = some (.lst []) := upd_same
    generalize upd H2 j (.lst []) = H3 at s3 s23 ejs ⊢
    have eg3 := s23 _ _ eg2
    have el3 := s23 _ _ el
    have hlu : us.length = sums.length := by rw [P_len hT, upS_len]
    -- for index, (i, j, diff) in enumerate(sums)
    refine ⟨_, rfl, for_enumQ (H0 := H) (xs := us) hS (fun t σ H' => ∃ (g l : Addr) (G L : List Int) (js : List J) (jv : List V) (v6 v7 v8 v9 v10 : Option V), σ = [some (.int p), some (nV n), some (.ref a), some (.ref g), some (.ref l), some (.ref j), v6, v7, v8, v9, v10, none] ∧ Same H H' ∧ H' g = some (.lst (IL G)) ∧ H' l = some (.lst (IL L)) ∧ H' j = some (.lst jv) ∧ JP K H' jv js ∧ St sums p t js ∧ Grp n js G ∧ L.length = n ∧ Pot sums p js (pf L))
      ⟨g, l, idL n, List.replicate n 0, [], [], none, none, none, none, none, rfl, s3, eg3, el3, ejs, .nil, .zero, .start n, List.length_replicate, fun e he => (by cases he)⟩ ?_ ?_ ?_⟩
    · rintro t σ H' _ ⟨_, _, _, _, _, _, _, _, _, _, _, _, sm, _⟩ ys
      exact ⟨fun q => sm.seq q, fun q => sm.seqT q⟩
    · rintro t x tt σ H4 hx ⟨g, l, G, L, js, jv, v6, v7, v8, v9, v10, rfl, s4, eg, el, ej, hJ, st, gr, hL, pot⟩ ntt
      have s5 : Same H4 (upd H4 tt (.tup [nV t, x])) := (Same.refl H4).new ntt
      have ett : (upd H4 tt (.tup [nV t, x])) tt = some (.tup [nV t, x]) := upd_same
      generalize upd H4 tt (.tup [nV t, x]) = H5 at s5 ett ⊢
      have s05 := s4.trans s5
      obtain ⟨q3, hq3, tq, rfl, etq⟩ := P_right hT hx
      obtain ⟨i, k, d, hs, rfl⟩ := upS_get hq3
      obtain ⟨bi, bk⟩ := bd _ (List.mem_of_getElem? hs)
      dsimp only at bi bk
      have etq' := s05.seqT etq
      refine ⟨tt, _, rfl, SqT.of ett, rfl, _, _, rfl, _, _, rfl, tq, _, rfl, etq', rfl, _, _, rfl, _, _, rfl, _, _, rfl, rfl, rfl, ?_⟩
      have eg5 := s5 _ _ eg
      have el5 := s5 _ _ el
      have ej5 := s5 _ _ ej
      obtain ⟨gi, hgi⟩ := get_lt (l := G) (i := i) (by rw [gr.len]; exact bi)
      obtain ⟨gk, hgk⟩ := get_lt (l := G) (i := k) (by rw [gr.len]; exact bk)
      obtain ⟨zi, hzi⟩ := get_lt (l := L) (i := i) (by rw [hL]; exact bi)
      obtain ⟨zk, hzk⟩ := get_lt (l := L) (i := k) (by rw [hL]; exact bk)
      have ed := dif_at hs
      refine ⟨_, rfl, _, rfl, ixl (SqL.of el5) (at_n (getn hzi)) ⟨_, rfl, _, _, rfl, rfl, _, rfl, _, rfl, ixl (SqL.of el5) (at_n (getn hzk)) ⟨_, _, rfl, rfl, _, rfl, _, _, rfl, rfl, (by show p ≠ 0; omega), ?_⟩⟩⟩
      refine ⟨_, rfl, _, rfl, ixl (SqL.of eg5) (at_n (getn hgi)) ⟨_, rfl, _, rfl, ixl (SqL.of eg5) (at_n (getn hgk)) ⟨rfl, _, rfl, ?_⟩⟩⟩
      have hc : Conn js i k ↔ gi = gk := by
        rw [← gr.iff _ _ bi bk, hgi, hgk]
        exact ⟨fun z => Option.some.inj z, fun z => by rw [z]⟩
      by_cases eq : gi = gk
      · have c := hc.mpr eq
        rw [decide_eq_true (show V.int gi = V.int gk by rw [eq])]
        refine iteF ?_
        refine ⟨_, rfl, rfl, _, rfl, ?_⟩
        by_cases ms : (zi + d - zk).fmod p = 0
        · rw [decide_eq_true (show V.int ((zi + d - zk).fmod p) = V.int 0 by rw [ms])]
          refine iteF ?_
          refine ⟨g, l, G, L, js, jv, _, _, _, _, _, rfl, s05, eg5, el5, ej5, hJ.same s5, .old st hs c pot ?_, gr, hL, pot⟩
          rw [pf_get hzi, pf_get hzk]
          exact (Cg.zero hp).mp ms
        · rw [decide_eq_false (show ¬ V.int ((zi + d - zk).fmod p) = V.int 0 from fun z => ms (V.int.inj z))]
          refine iteT ?_
          have bad : ¬ Cg p (pf L i + d) (pf L k) := fun z => ms (by rw [pf_get hzi, pf_get hzk] at z; exact (Cg.zero hp).mpr z)
          refine ⟨_, rfl, (by show 2 ≤ sizeLine; decide), fun t1 n1 => ⟨(by show 1 ≤ sizeLine; decide), fun l1 nl1 => ?_⟩⟩
          have s6 : Same H5 (upd H5 t1 (.tup [nV t, .int 1])) := (Same.refl H5).new n1
          have et1 : (upd H5 t1 (.tup [nV t, .int 1])) t1 = some (.tup [nV t, .int 1]) := upd_same
          generalize upd H5 t1 (.tup [nV t, .int 1]) = H6 at s6 et1 nl1 ⊢
          have s7 : Same H6 (upd H6 l1 (.lst [.ref t1])) := (Same.refl H6).new nl1
          have el1 : (upd H6 l1 (.lst [.ref t1])) l1 = some (.lst [.ref t1]) := upd_same
          generalize upd H6 l1 (.lst [.ref t1]) = H7 at s7 el1 ⊢
          have s57 := s6.trans s7
          refine ⟨_, rfl, _, rfl, _, rfl, j, jv, js, n, k, i, rfl, SqL.of (s57 _ _ ej5), (hJ.same s5).same s57, ?_, by omega, st.bd bd, bk, c.symm, fun W x H8 way s8 nx ⟨vs, ex, tp⟩ => ?_⟩
          · have := st.len
            omega
          refine ⟨l1, x, _, _, rfl, rfl, s8 _ _ el1, ex, ?_, fun y ny => ?_⟩
          · obtain ⟨wv, pth⟩ := way
            have h1 := K02.nodup_len n wv pth.nd fun u hu => by
              obtain ⟨m, hm⟩ := List.getElem?_of_mem hu
              exact (Conn.lt (st.bd bd) ((pth.cut hm).conn) bk)
            have h2 := pth.len
            rw [P_len tp, List.length_singleton]
            unfold tell
            rw [List.length_map]
            exact szle (by omega)
          have s9 : Same H8 (upd H8 y (.lst ([.ref t1] ++ vs))) := (Same.refl H8).new ny
          have ey : (upd H8 y (.lst ([.ref t1] ++ vs))) y = some (.lst ([.ref t1] ++ vs)) := upd_same
          generalize upd H8 y (.lst ([.ref t1] ++ vs)) = H9 at s9 ey ⊢
          refine ⟨(by show 2 ≤ sizeLine; decide), fun tr ntr => ?_⟩
          have s10 : Same H9 (upd H9 tr (.tup [.str "ring", .ref y])) := (Same.refl H9).new ntr
          have sAll := ((((s05.trans s57).trans s8).trans s9).trans s10)
          refine q (.ring ((t, 1) :: tell W)) tr y _ (.ring st hs c pot bad way) sAll ⟨((s05.trans s57).trans s8).free ny, upd_same, _, s10 _ _ ey, ?_⟩
          refine .cons ⟨t1, rfl, ((((s7.trans s8).trans s9).trans s10)) _ _ et1⟩ (tp.same (s9.trans s10))
      · have nc : ¬ Conn js i k := fun z => eq (hc.mp z)
        rw [decide_eq_false (show ¬ V.int gi = V.int gk from fun z => eq (V.int.inj z))]
        refine iteT ?_
        -- phases = _moved(..)
        refine ⟨_, rfl, _, rfl, _, rfl, _, rfl, _, rfl, ixl (SqL.of eg5) (at_n (getn hgk)) ⟨_, rfl, g, l, p, gk, _, G, L, rfl, SqL.of eg5, SqL.of el5, by rw [gr.len, hL], by omega, hp, fun r H6 s6 nr er => ?_⟩⟩
        -- groups = [..]
        refine ⟨_, rfl, g, rfl, ⟨_, SqL.of (s6 _ _ eg5)⟩, fun D nD => ?_⟩
        refine lc_list (K := K) (a := g) (xs := IL G) (fun m H' => Same H6 H' ∧ H' D = some (.lst (IL ((merg gi gk G).take m)))) ⟨(Same.refl H6).new nD, upd_same⟩ (fun m H' _ ⟨sm, _⟩ => sm.seq (SqL.of (s6 _ _ eg5))) ?_ ?_
        · rintro m y H7 hy ⟨s7, eD⟩
          obtain ⟨o, ho, rfl⟩ := getn_inv hy
          have eg7 := s7 _ _ (s6 _ _ eg5)
          have hm : (merg gi gk G)[m]? = some (if o = gk then gi else o) := by
            unfold merg
            rw [List.getElem?_map, ho]
            rfl
          have go : ∀ v : Int, v = (if o = gk then gi else o) → ∃ acc, H7 D = some (.lst acc) ∧ acc.length < sizeLine ∧ (Same H6 (upd H7 D (.lst (acc ++ [V.int v]))) ∧ (upd H7 D (.lst (acc ++ [V.int v]))) D = some (.lst (IL ((merg gi gk G).take (m + 1))))) := fun v ev => by
            refine ⟨_, eD, ?_, s7.mut nD, ?_⟩
            · rw [List.length_map]
              refine szl (Nat.le_trans (List.length_take_le' _ _) ?_)
              unfold merg
              rw [List.length_map, gr.len]
              omega
            · rw [upd_same, take_more hm, IL_snoc, ev]
          refine ⟨rfl, _, rfl, _, rfl, _, rfl, ixl (SqL.of eg7) (at_n (getn hgk)) ⟨rfl, _, rfl, ?_⟩⟩
          by_cases e : o = gk
          · rw [decide_eq_true (show V.int o = V.int gk by rw [e])]
            exact iteT ⟨_, rfl, _, rfl, ixl (SqL.of eg7) (at_n (getn hgi)) (go _ (by rw [if_pos e]))⟩
          · rw [decide_eq_false (show ¬ V.int o = V.int gk from fun z => e (V.int.inj z))]
            exact iteF ⟨_, rfl, go _ (by rw [if_neg e])⟩
        rintro H7 ⟨s7, eD⟩
        rw [show (IL G).length = (merg gi gk G).length by unfold merg; rw [List.length_map, List.length_map], List.take_length] at eD
        have s57 := s6.trans s7
        -- joints.append(..)
        have ej7 := s57 _ _ ej5
        refine ⟨_, rfl, .inl ⟨rfl, _, SqL.of ej7⟩, _, rfl, _, rfl, _, rfl, (by show 3 ≤ sizeLine; decide), fun t1 n1 => ?_⟩
        have s8 : Same H7 (upd H7 t1 (.tup [nV t, nV i, nV k])) := (Same.refl H7).new n1
        have et1 : (upd H7 t1 (.tup [nV t, nV i, nV k])) t1 = some (.tup [nV t, nV i, nV k]) := upd_same
        generalize upd H7 t1 (.tup [nV t, nV i, nV k]) = H8 at s8 et1 ⊢
        have ej8 := s8 _ _ ej7
        have t8 := (s05.trans s57).trans s8
        have jr : j ≠ r := fun z => by rw [← z, ej5] at nr; cases nr
        have jD : j ≠ D := fun z => by rw [← z, s6 _ _ ej5] at nD; cases nD
        refine ⟨j, _, _, rfl, rfl, ej8, ?_, ?_⟩
        · have := st.len
          rw [P_len hJ]
          exact szl (by omega)
        have hlj := st.len
        refine ⟨D, r, merg gi gk G, movd p gk ((zi + d - zk).fmod p) G L, js ++ [⟨t, i, k⟩], _, _, _, _, _, _, rfl, t8.mut nj0, ?_, ?_, upd_same, ?_, .add st hs nc, gr.merge bi bk hgi hgk, by rw [movd_len (by rw [gr.len, hL])]; exact hL, ?_⟩
        · rw [upd_ne (Ne.symm jD)]
          exact s8 _ _ eD
        · rw [upd_ne (Ne.symm jr)]
          exact (s7.trans s8) _ _ er
        · refine P_append (P_mono (fun _ _ ⟨t, e, q⟩ => ⟨t, e, sqT_mutL q ej8⟩) (hJ.same ((s5.trans s57).trans s8))) (.cons ⟨t1, rfl, sqT_mutL (SqT.of et1) ej8⟩ .nil)
        · have := Pot.moved (e := ⟨t, i, k⟩) hp pot gr hL (st.bd bd) bi bk hgk nc
          rw [show pf L (J.mk t i k).i = zi from pf_get hzi, show pf L (J.mk t i k).j = zk from pf_get hzk, show dif sums (J.mk t i k).ix = d from ed] at this
          exact this
    · rintro σ H4 ⟨g, l, G, L, js, jv, v6, v7, v8, v9, v10, rfl, s4, eg, el, ej, hJ, st, gr, hL, pot⟩
      rw [hlu] at st
      refine ⟨_, rfl, _, rfl, _, rfl, g, l, p, G, L, rfl, SqL.of eg, SqL.of el, by rw [gr.len, hL], by omega, hp, fun r R H5 s5 nr er hR at_ => ?_⟩
      refine ⟨(by show 2 ≤ sizeLine; decide), fun t nt => ?_⟩
      have s6 : Same H5 (upd H5 t (.tup [.str "phases", .ref r])) := (Same.refl H5).new nt
      refine q (.phases R) t r _ (.phases st pot ⟨by rw [hR, hL], fun v hv => ?_⟩) ((s4.trans s5).trans s6) ⟨s4.free nr, upd_same, s6 _ _ er⟩
      obtain ⟨o, ho⟩ := get_lt (l := G) (i := v) (by rw [gr.len]; exact hv)
      obtain ⟨z, hz⟩ := get_lt (l := L) (i := v) (by rw [hL]; exact hv)
      obtain ⟨u, y, u1, u2, u3, u4⟩ := at_ v o z ho hz
      have hu : u < n := by have := lt_get u1; rw [gr.len] at this; exact this
      refine ⟨u, (gr.iff _ _ hu hv).mp (by rw [u1, ho]), fun x hx => ?_, by rw [pf_get hz, pf_get u3]; exact u4⟩
      have hxn : x < n := hx.symm.lt (st.bd bd) hv
      refine Nat.le_of_not_lt fun c => u2 x c ?_
      rw [(gr.iff _ _ hxn hv).mpr hx, ho]
end
end K32W

namespace K32W
open PySem PySem.Spec PyProof.Rows L2 KH K32 KD
abbrev s_law_joined : Stmt := topS 23
theorem sc_law_joined : FnScope ["joints", "line", "group", "k", "size", "index", "i", "j", "diff"] ["joints", "line"] (defScope s_law_joined) := ⟨rfl, rfl, rfl, by decide +kernel, rfl, by decide +kernel, by decide +kernel⟩

/-! ### numbers in lists -/
theorem in_n (k : Nat) : ∀ gs : List Nat, inV (nV k) (gs.map nV) = gs.contains k
  | [] => rfl
  | x :: gs => by
    have ih := in_n k gs
    unfold inV at ih ⊢
    rw [List.map_cons, List.any_cons, ih, List.contains_cons]
    congr 1
    show ((x : Int) == (k : Int)) = (k == x)
    rw [Bool.eq_iff_iff]
    simp only [beq_iff_eq]
    omega
theorem flat_n (gs : List Nat) : (gs.map nV).all flatV = true := List.all_eq_true.mpr fun x hx => by
  obtain ⟨_, _, rfl⟩ := List.mem_map.mp hx
  rfl
/-- tuples whose second and third tell a joint -/
def JJ (K : PySem.W.Frag) (H : Hp) (vs : List V) (es : List J) : Prop := Paired (fun v e => ∃ (t : Addr) (x y : V), v = V.ref t ∧ SqT K H t [x, nV e.i, nV e.j, y]) vs es
theorem JJ.same {K : PySem.W.Frag} {H H' : Hp} {vs : List V} {es : List J} (h : JJ K H vs es) (s : Same H H') : JJ K H' vs es := P_mono (fun _ _ ⟨t, x, y, e, q⟩ => ⟨t, x, y, e, s.seqT q⟩) h
/-- the law's joints -/
def j4 (sums : SM) (e : J) : List V := [nV e.ix, nV e.i, nV e.j, .int (dif sums e.ix)]
def JQ (sums : SM) (K : PySem.W.Frag) (H : Hp) (vs : List V) (js : List J) : Prop := Paired (fun v e => ∃ t, v = V.ref t ∧ SqT K H t (j4 sums e)) vs js
theorem JQ.same {sums : SM} {K : PySem.W.Frag} {H H' : Hp} {vs : List V} {js : List J} (h : JQ sums K H vs js) (s : Same H H') : JQ sums K H' vs js := P_mono (fun _ _ ⟨t, e, q⟩ => ⟨t, e, s.seqT q⟩) h
theorem JQ.mutL {sums : SM} {K : PySem.W.Frag} {H : Hp} {vs us : List V} {js : List J} {o : Addr} {x : HO} (h : JQ sums K H vs js) (e : H o = some (.lst us)) : JQ sums K (upd H o x) vs js := P_mono (fun _ _ ⟨t, et, q⟩ => ⟨t, et, sqT_mutL q e⟩) h
theorem JQ.jj {sums : SM} {K : PySem.W.Frag} {H : Hp} {vs : List V} {js : List J} (h : JQ sums K H vs js) : JJ K H vs js := P_mono (fun _ _ ⟨t, e, q⟩ => ⟨t, _, _, e, q⟩) h
/-- a group so far -/
structure GI (n : Nat) (es : List J) (line : Nat) (gs : List Nat) : Prop where
  nd : gs.Nodup
  mem : line ∈ gs
  conn : ∀ v ∈ gs, Conn es line v
theorem GI.start (n : Nat) (es : List J) (line : Nat) : GI n es line [line] := ⟨by simp, List.mem_singleton.mpr rfl, fun v hv => by rw [List.mem_singleton.mp hv]; exact .refl⟩
theorem GI.len {n : Nat} {es : List J} {line : Nat} {gs : List Nat} (h : GI n es line gs) (bd : ∀ e ∈ es, e.i < n ∧ e.j < n) (hl : line < n) : gs.length ≤ n := K02.nodup_len n gs h.nd fun v hv => (h.conn v hv).lt bd hl
abbrev inG (gs : List Nat) : Nat → Bool := fun v => gs.contains v
theorem GI.snoc {n : Nat} {es : List J} {line : Nat} {gs : List Nat} (h : GI n es line gs) {v : Nat} (hv : v ∉ gs) (c : Conn es line v) : GI n es line (gs ++ [v]) := by
  refine ⟨List.nodup_append.mpr ⟨h.nd, by simp, fun x hx y hy q => ?_⟩, List.mem_append_left _ h.mem, fun x hx => ?_⟩
  · rw [List.mem_singleton.mp hy] at q
    exact hv (q ▸ hx)
  · rcases List.mem_append.mp hx with hx | hx
    · exact h.conn x hx
    · rw [List.mem_singleton.mp hx]
      exact c
theorem inG_up {gs : List Nat} {x : Nat} (v : Nat) (h : inG gs v = true) : inG (gs ++ [x]) v = true := by
  show (gs ++ [x]).contains v = true
  have : v ∈ gs := by simpa using h
  simp [this]
theorem inG_self {gs : List Nat} {x : Nat} : inG (gs ++ [x]) x = true := by
  show (gs ++ [x]).contains x = true
  simp
/-- in the group exactly those that hang together -/
theorem GI.iff {n : Nat} {es : List J} {line : Nat} {gs : List Nat} (h : GI n es line gs) (cl : ∀ e ∈ es, inG gs e.i = inG gs e.j) (v : Nat) : v ∈ gs ↔ Conn es line v := by
  refine ⟨h.conn v, fun c => ?_⟩
  have := c.closed (S := inG gs) cl (by simpa using h.mem)
  simpa using this
theorem longer {gs gs' : List Nat} {v : Nat} {A : Prop} (h : gs' = gs ∨ (gs.length < gs'.length ∧ A)) : gs.length < (gs' ++ [v]).length := by
  rw [List.length_append, List.length_singleton]
  rcases h with h | ⟨h, _⟩
  · rw [h]
    exact Nat.lt_succ_self _
  · omega
section
variable {P : Program} {w : World} {K : PySem.W.Frag} {mg : Str → Option Value} {base : Heap} {CN CB CD CT CU fI : Addr}
def sp_joined (K : PySem.W.Frag) : Sp := fun vs H Q _ => ∃ (a : Addr) (us : List V) (es : List J) (n line : Nat), vs = [.ref a, nV line] ∧ SqL K H a us ∧ JJ K H us es ∧ es.length ≤ 100 ∧ n ≤ 100 ∧ (∀ e ∈ es, e.i < n ∧ e.j < n) ∧ line < n ∧
  ∀ (gs : List Nat) (x : Addr) (H' : Hp), Same H H' → H x = none → H' x = some (.lst (gs.map nV)) → (∀ v, v ∈ gs ↔ Conn es line v) → Q (.ref x) H'
theorem ok_joined {f : Addr} {fd : FuncData} (F : Fun K "_law_joined" "_law_joined" s_law_joined f fd) (T : Txt mg) : FnOk P w K mg base CX0 1 f fd ["joints", "line"] (sp_joined K) := by
  refine F.ok sc_law_joined (fun vs H Q E h => ?_) (fun cdv A outer s H vs Q E hr h => ?_)
  · obtain ⟨a, us, es, n, line, rfl, _⟩ := h
    rfl
  · obtain ⟨a, us, es, n, line, rfl, hS, hJ, hl, hn, bd, hln, q⟩ := h
    refine ⟨_, (pss_cons (ps_set (i := 2) sc_law_joined.nd rfl (.inl rfl) (pe_lst (pa_cons (pv 1) pa_nil)))
 (pss_cons (ps_for PassesOwn.never rfl (pi_range1 rfl T.range (pa_cons (pe_callB call_len_seq (by rfl) T.len (by decide +kernel) (pa_cons (pv 0) pa_nil)) pa_nil)) (pg_name (i := 3) sc_law_joined.nd rfl (.inl rfl))
 (pss_cons (ps_set (i := 4) sc_law_joined.nd rfl (.inl rfl) (pe_callB call_len_seq (by rfl) T.len (by decide +kernel) (pa_cons (pv 2) pa_nil)))
 (pss_cons (ps_for PassesOwn.never rfl (pi_list (pv 0)) (pg_tup rfl (pgs_cons (pg_name (i := 5) sc_law_joined.nd rfl (.inl rfl)) (pgs_cons (pg_name (i := 6) sc_law_joined.nd rfl (.inl rfl)) (pgs_cons (pg_name (i := 7) sc_law_joined.nd rfl (.inl rfl)) (pgs_cons (pg_name (i := 8) sc_law_joined.nd rfl (.inl rfl)) pgs_nil)))))
 (pss_cons (ps_if (PW.pt (pw_and (pt_cmpR op_in_seq (pv 6) (pv 2) (by rfl)) (pw_and1 (pt_cmpR op_notIn_seq (pv 7) (pv 2) (by rfl)))))
 (pss_one (ps_expr (pe_bm PySem.F.plainAttrs_list PySem.F.slot_list_append PySem.F.type_list_append mt_append (pv 2) (pa_cons (pv 7) pa_nil))))
 pss_nil)
 (pss_one (ps_if (PW.pt (pw_and (pt_cmpR op_in_seq (pv 7) (pv 2) (by rfl)) (pw_and1 (pt_cmpR op_notIn_seq (pv 6) (pv 2) (by rfl)))))
 (pss_one (ps_expr (pe_bm PySem.F.plainAttrs_list PySem.F.slot_list_append PySem.F.type_list_append mt_append (pv 2) (pa_cons (pv 6) pa_nil))))
 pss_nil))))
 (pss_one (ps_if (pt_cmpR op_eq (pe_callB call_len_seq (by rfl) T.len (by decide +kernel) (pa_cons (pv 2) pa_nil)) (pv 4) (nomark _))
 (pss_one (ps_ret (pv 2)))
 pss_nil)))))
 (pss_one (ps_ret (pv 2))))), ?_⟩
    have hlu : us.length = es.length := P_len hJ
    refine ⟨_, rfl, (by show 1 ≤ sizeLine; decide), fun x nx => ?_⟩
    have s0 : Same H (upd H x (.lst [nV line])) := (Same.refl H).new nx
    refine ⟨_, rfl, a, _, rfl, .inl (s0.seq hS), _, rfl, (by omega), (by omega), ?_⟩
    rw [show ((us.length : Nat) : Int).toNat = es.length by omega]
    refine for_range (lo := 0) (n := es.length) (fun k σ H' => ∃ (gs : List Nat) (v3 v4 v5 v6 v7 v8 : Option V), σ = [some (.ref a), some (nV line), some (.ref x), v3, v4, v5, v6, v7, v8] ∧ Same H H' ∧ H' x = some (.lst (gs.map nV)) ∧ GI n es line gs ∧ k ≤ inner es (inG gs))
      ⟨[line], none, none, none, none, none, none, rfl, s0, upd_same, .start n es line, Nat.zero_le _⟩ ?_ ?_
    · rintro k σ H1 hk ⟨gs, v3, v4, v5, v6, v7, v8, rfl, s1, ex, gi, hin⟩
      have hgl := gi.len bd hln
      refine ⟨_, rfl, x, _, rfl, .inl (SqL.of ex), ?_⟩
      refine ⟨_, rfl, a, rfl, ⟨_, s1.seq hS⟩, for_list (K := K) (a := a) (xs := us) (fun t σ H' => ∃ (gs' : List Nat) (v5 v6 v7 v8 : Option V), σ = [some (.ref a), some (nV line), some (.ref x), some (nV k), some (nV gs.length), v5, v6, v7, v8] ∧ Same H H' ∧ H' x = some (.lst (gs'.map nV)) ∧ GI n es line gs' ∧ Round es (inG gs) (inG gs') t ∧ (gs' = gs ∨ (gs.length < gs'.length ∧ inner es (inG gs) < inner es (inG gs'))))
        ⟨gs, v5, v6, v7, v8, ?_, s1, ex, gi, .start _ _, .inl rfl⟩ (fun t σ H' _ ⟨_, _, _, _, _, _, sm, _⟩ => sm.seq hS) ?_ ?_⟩
      · rw [List.length_map, Int.zero_add]
        rfl
      · rintro t y σ H2 hy ⟨gs', v5, v6, v7, v8, rfl, s2, ex', gi', rd, hor⟩
        obtain ⟨e, he, tt, xa, xb, rfl, et⟩ := P_right hJ hy
        have hm := List.mem_of_getElem? he
        have hgl' := gi'.len bd hln
        refine ⟨tt, _, rfl, s2.seqT et, rfl, _, _, rfl, _, _, rfl, _, _, rfl, _, _, rfl, rfl, ?_⟩
        have tst : ∀ v, rIn K false (nV v) (.ref x) H2 = rIn K false (nV v) (.ref x) H2 := fun _ => rfl
        refine ⟨_, rfl, _, rfl, x, _, rfl, .inl (SqL.of ex'), rfl, flat_n _, _, rfl, ?_⟩
        rw [in_n]
        cases ci : gs'.contains e.i with
        | true =>
          refine iteT ⟨_, rfl, _, rfl, x, _, rfl, .inl (SqL.of ex'), rfl, flat_n _, _, rfl, ?_⟩
          rw [in_n]
          have mi : e.i ∈ gs' := by simpa using ci
          cases cj : gs'.contains e.j with
          | true =>
            refine iteF ?_
            refine ⟨_, rfl, _, rfl, x, _, rfl, .inl (SqL.of ex'), rfl, flat_n _, _, rfl, ?_⟩
            rw [in_n, cj]
            refine iteT ⟨_, rfl, _, rfl, x, _, rfl, .inl (SqL.of ex'), rfl, flat_n _, _, rfl, ?_⟩
            rw [in_n, ci]
            exact iteF ⟨gs', _, _, _, _, rfl, s2, ex', gi', rd.stay he (by show gs'.contains e.i = gs'.contains e.j; rw [ci, cj]), hor⟩
          | false =>
            refine iteT ?_
            have nin : e.j ∉ gs' := by simpa using cj
            refine ⟨_, rfl, .inl ⟨rfl, _, SqL.of ex'⟩, _, rfl, x, _, _, rfl, rfl, ex', by rw [List.length_map]; exact szl (by omega), ?_⟩
            have ex2 : (upd H2 x (.lst (gs'.map nV ++ [nV e.j]))) x = some (.lst ((gs' ++ [e.j]).map nV)) := by rw [upd_same, List.map_append]; rfl
            have s3 : Same H (upd H2 x (.lst (gs'.map nV ++ [nV e.j]))) := s2.mut nx
            generalize upd H2 x (.lst (gs'.map nV ++ [nV e.j])) = H3 at ex2 s3 ⊢
            refine ⟨_, rfl, _, rfl, x, _, rfl, .inl (SqL.of ex2), rfl, flat_n _, _, rfl, ?_⟩
            rw [in_n, show (gs' ++ [e.j]).contains e.j = true from inG_self]
            refine iteT ⟨_, rfl, _, rfl, x, _, rfl, .inl (SqL.of ex2), rfl, flat_n _, _, rfl, ?_⟩
            rw [in_n, show (gs' ++ [e.j]).contains e.i = true from inG_up _ ci]
            have lt : inner es (inG gs) < inner es (inG (gs' ++ [e.j])) := by
              refine Nat.lt_of_le_of_lt (inner_mono rd.up es) (inner_lt (fun v hv => inG_up v hv) hm ?_ ?_)
              · show (gs'.contains e.i && gs'.contains e.j) = false
                rw [ci, cj]
                rfl
              · show ((gs' ++ [e.j]).contains e.i && (gs' ++ [e.j]).contains e.j) = true
                rw [show (gs' ++ [e.j]).contains e.j = true from inG_self, show (gs' ++ [e.j]).contains e.i = true from inG_up _ ci]
                rfl
            refine iteF ⟨gs' ++ [e.j], _, _, _, _, rfl, s3, ex2, gi'.snoc nin (.fwd (gi'.conn _ mi) hm), ⟨fun v hv => inG_up v (rd.up v hv), .inl lt⟩, .inr ⟨longer hor, lt⟩⟩
        | false =>
          refine iteF (iteF ?_)
          refine ⟨_, rfl, _, rfl, x, _, rfl, .inl (SqL.of ex'), rfl, flat_n _, _, rfl, ?_⟩
          rw [in_n]
          cases cj : gs'.contains e.j with
          | false =>
            exact iteF (iteF ⟨gs', _, _, _, _, rfl, s2, ex', gi', rd.stay he (by show gs'.contains e.i = gs'.contains e.j; rw [ci, cj]), hor⟩)
          | true =>
            have mj : e.j ∈ gs' := by simpa using cj
            refine iteT ⟨_, rfl, _, rfl, x, _, rfl, .inl (SqL.of ex'), rfl, flat_n _, _, rfl, ?_⟩
            rw [in_n, ci]
            refine iteT ?_
            have nin : e.i ∉ gs' := by simpa using ci
            refine ⟨_, rfl, .inl ⟨rfl, _, SqL.of ex'⟩, _, rfl, x, _, _, rfl, rfl, ex', by rw [List.length_map]; exact szl (by omega), ?_⟩
            have ex2 : (upd H2 x (.lst (gs'.map nV ++ [nV e.i]))) x = some (.lst ((gs' ++ [e.i]).map nV)) := by rw [upd_same, List.map_append]; rfl
            have s3 : Same H (upd H2 x (.lst (gs'.map nV ++ [nV e.i]))) := s2.mut nx
            generalize upd H2 x (.lst (gs'.map nV ++ [nV e.i])) = H3 at ex2 s3 ⊢
            have lt : inner es (inG gs) < inner es (inG (gs' ++ [e.i])) := by
              refine Nat.lt_of_le_of_lt (inner_mono rd.up es) (inner_lt (fun v hv => inG_up v hv) hm ?_ ?_)
              · show (gs'.contains e.i && gs'.contains e.j) = false
                rw [ci, cj]
                rfl
              · show ((gs' ++ [e.i]).contains e.i && (gs' ++ [e.i]).contains e.j) = true
                rw [show (gs' ++ [e.i]).contains e.i = true from inG_self, show (gs' ++ [e.i]).contains e.j = true from inG_up _ cj]
                rfl
            refine ⟨gs' ++ [e.i], _, _, _, _, rfl, s3, ex2, gi'.snoc nin (.bwd (gi'.conn _ mj) hm), ⟨fun v hv => inG_up v (rd.up v hv), .inl lt⟩, .inr ⟨longer hor, lt⟩⟩
      · rintro σ H2 ⟨gs', v5, v6, v7, v8, rfl, s2, ex', gi', rd, hor⟩
        rw [hlu] at rd
        refine ⟨_, rfl, x, _, rfl, .inl (SqL.of ex'), _, rfl, rfl, _, rfl, ?_⟩
        rw [List.length_map]
        rcases hor with e | ⟨e1, e2⟩
        · subst e
          rw [decide_eq_true rfl]
          refine iteT ⟨_, rfl, q gs' x H2 s2 nx ex' fun v => gi'.iff ?_ v⟩
          rcases rd.done with h | ⟨_, h⟩
          · exact absurd h (Nat.lt_irrefl _)
          · exact h
        · rw [decide_eq_false (show ¬ V.int (gs'.length : Int) = V.int (gs.length : Int) from fun z => by have := V.int.inj z; omega)]
          exact iteF ⟨gs', _, _, _, _, _, _, rfl, s2, ex', gi', by omega⟩
    · rintro σ H1 ⟨gs, v3, v4, v5, v6, v7, v8, rfl, s1, ex, gi, hin⟩
      exact ⟨_, rfl, q gs x H1 s1 nx ex fun v => gi.iff (inner_full hin) v⟩
end
end K32W

namespace K32W
open PySem PySem.Spec PyProof.Rows L2 KH K32 KD
abbrev s_law_between : Stmt := topS 24
theorem sc_law_between : FnScope ["joints", "here", "goal", "rest", "k", "ends", "joint", "kept", "loose", "line"] ["joints", "here", "goal"] (defScope s_law_between) := ⟨rfl, rfl, rfl, by decide +kernel, rfl, by decide +kernel, by decide +kernel⟩

theorem ends_snoc {rest : List J} {m : Nat} {e : J} (h : rest[m]? = some e) : ends (rest.take (m + 1)) = ends (rest.take m) ++ [e.i, e.j] := by
  unfold ends
  rw [take_more h, List.flatMap_append]
  rfl
theorem ends_len : ∀ rest : List J, (ends rest).length = 2 * rest.length
  | [] => rfl
  | e :: rest => by
    have ih := ends_len rest
    unfold ends at ih ⊢
    rw [List.flatMap_cons, List.length_append, ih, List.length_cons]
    simp only [List.length_cons, List.length_nil]
    omega
def intz (l : List Nat) : List Int := l.map fun n : Nat => (n : Int)
theorem count_ints (x : Nat) : ∀ l : List Nat, (intz l).count (x : Int) = l.count x
  | [] => rfl
  | y :: l => by
    have ih := count_ints x l
    unfold intz at ih ⊢
    rw [List.map_cons, List.count_cons, List.count_cons, ih]
    congr 1
    by_cases e : y = x
    · rw [e]; simp
    · have : ¬ ((y : Int) = (x : Int)) := by omega
      simp [e, this]
theorem nV_ints (l : List Nat) : (intz l).map V.int = l.map nV := by
  unfold intz
  rw [List.map_map]
  rfl
theorem prune_len {a b : Nat} {rest : List J} (h : (K32.prune a b rest).length = rest.length) : K32.prune a b rest = rest := (List.filter_sublist).eq_of_length h
section
variable {P : Program} {w : World} {K : PySem.W.Frag} {mg : Str → Option Value} {base : Heap} {CN CB CD CT CU fI : Addr}
def sp_between (K : PySem.W.Frag) : Sp := fun vs H Q _ => ∃ (a : Addr) (us : List V) (sums : SM) (js : List J) (n here goal : Nat), vs = [.ref a, nV here, nV goal] ∧ SqL K H a us ∧ JQ sums K H us js ∧ js.length ≤ 100 ∧ (∀ e ∈ js, e.i < n ∧ e.j < n) ∧ Forest js ∧ js.Nodup ∧ Conn js here goal ∧
  ∀ rest rv x H', Same H H' → H x = none → H' x = some (.lst rv) → JQ sums K H' rv rest → (∀ e ∈ rest, e ∈ js) → rest.length ≤ 100 → (∀ W vs, Pth js here goal W vs → Exact W rest) → Q (.ref x) H'
theorem ok_between {f : Addr} {fd : FuncData} (F : Fun K "_law_between" "_law_between" s_law_between f fd) (T : Txt mg) : FnOk P w K mg base CX0 1 f fd ["joints", "here", "goal"] (sp_between K) := by
  refine F.ok sc_law_between (fun vs H Q E h => ?_) (fun cdv A outer s H vs Q E hr h => ?_)
  · obtain ⟨a, us, sums, js, n, here, goal, rfl, _⟩ := h
    rfl
  · obtain ⟨a, us, sums, js, n, here, goal, rfl, hS, hJ, hl, bd, fo, ndj, cn, q⟩ := h
    refine ⟨_, (pss_cons (ps_set (i := 3) sc_law_between.nd rfl (.inl rfl) (pe_callTy call_list_of (by rfl) T.list (by decide +kernel) (pa_cons (pv 0) pa_nil)))
 (pss_cons (ps_for PassesOwn.never rfl (pi_range1 rfl T.range (pa_cons (pe_callB call_len_seq (by rfl) T.len (by decide +kernel) (pa_cons (pv 0) pa_nil)) pa_nil)) (pg_name (i := 4) sc_law_between.nd rfl (.inl rfl))
 (pss_cons (ps_set (i := 5) sc_law_between.nd rfl (.inr rfl) (pe_lst pa_nil))
 (pss_cons (ps_for PassesOwn.never rfl (pi_list (pv 3)) (pg_name (i := 6) sc_law_between.nd rfl (.inl rfl))
 (pss_one (ps_expr (pe_bm PySem.F.plainAttrs_list PySem.F.slot_list_extend PySem.F.type_list_extend mt_extend (pv 5) (pa_cons (pe_lst (pa_cons (pe_ix ix_tup (pv 6) pe_int (fun _ _ => rfl)) (pa_cons (pe_ix ix_tup (pv 6) pe_int (fun _ _ => rfl)) pa_nil))) pa_nil)))))
 (pss_cons (ps_set (i := 7) sc_law_between.nd rfl (.inl rfl) (pe_lst pa_nil))
 (pss_cons (ps_for PassesOwn.never rfl (pi_list (pv 3)) (pg_name (i := 6) sc_law_between.nd rfl (.inl rfl))
 (pss_cons (ps_setLc (i := 8) (own := [("line", 9)]) (g := gName 9) rfl sc_law_between.nd rfl rfl (sw_true rfl rfl rfl (by decide +kernel)) (pi_tup (pe_slice sl_tup (pv 6) (po_some pe_int) (po_some pe_int))) (blkOk_by (N := ["joints", "here", "goal", "rest", "k", "ends", "joint", "kept", "loose", "line"]) (sc := defScope s_law_between) (by decide +kernel)) (fun _ _ _ _ _ => (pg_name (i := 9) sc_law_between.nd rfl (.inl rfl))) (fun _ _ _ _ _ => pts_one (PW.pt (pw_and (pt_cmpR op_ne (pv 9) (pv 1) (nomark _)) (pw_and (pt_cmpR op_ne (pv 9) (pv 2) (nomark _)) (pw_and1 (pt_cmpR op_eq (pe_bmK (K := K) (r := rCntI K) PySem.F.plainAttrs_list PySem.F.slot_list_count PySem.F.type_list_count mt_lcount (pv 5) (pa_cons (pv 9) pa_nil)) pe_int (nomark _))))))) (fun _ _ _ _ _ => (pv 9)))
 (pss_one (ps_if (pt_cmpR op_eq (pe_callB call_len_seq (by rfl) T.len (by decide +kernel) (pa_cons (pv 8) pa_nil)) pe_int (nomark _))
 (pss_one (ps_expr (pe_bm PySem.F.plainAttrs_list PySem.F.slot_list_append PySem.F.type_list_append mt_append (pv 7) (pa_cons (pv 6) pa_nil))))
 pss_nil))))
 (pss_cons (ps_if (pt_cmpR op_eq (pe_callB call_len_seq (by rfl) T.len (by decide +kernel) (pa_cons (pv 7) pa_nil)) (pe_callB call_len_seq (by rfl) T.len (by decide +kernel) (pa_cons (pv 3) pa_nil)) (nomark _))
 (pss_one (ps_ret (pv 3)))
 pss_nil)
 (pss_one (ps_set (i := 3) sc_law_between.nd rfl (.inl rfl) (pe_callTy call_list_of (by rfl) T.list (by decide +kernel) (pa_cons (pv 7) pa_nil))))))))))
 (pss_one (ps_ret (pv 3))))), ?_⟩
    have hlu : us.length = js.length := P_len hJ
    obtain ⟨W, wvs, pth⟩ := cn.way
    have fin : ∀ rest, Exact W rest → ∀ W' vs', Pth js here goal W' vs' → Exact W' rest := fun rest ex W' vs' p' => by rw [p'.uniq fo pth]; exact ex
    refine ⟨_, rfl, a, _, rfl, .inl hS, fun r0 nr0 => ?_⟩
    have s0 : Same H (upd H r0 (.lst us)) := (Same.refl H).new nr0
    refine ⟨_, rfl, a, _, rfl, .inl (s0.seq hS), _, rfl, (by omega), (by omega), ?_⟩
    rw [show ((us.length : Nat) : Int).toNat = js.length by omega]
    refine for_range (lo := 0) (n := js.length) (fun k σ H' => ∃ (r : Addr) (rv : List V) (rest : List J) (v4 v5 v6 v7 v8 : Option V), σ = [some (.ref a), some (nV here), some (nV goal), some (.ref r), v4, v5, v6, v7, v8, none] ∧ Same H H' ∧ H r = none ∧ H' r = some (.lst rv) ∧ JQ sums K H' rv rest ∧ Rs js W rest ∧ rest.length + k ≤ js.length)
      ⟨r0, us, js, none, none, none, none, none, rfl, s0, nr0, upd_same, hJ.same s0, ⟨List.Sublist.refl _, fun s hs => by obtain ⟨k, hk⟩ := List.getElem?_of_mem hs; exact (pth.step k s hk).1⟩, Nat.le_refl _⟩ ?_ ?_
    · rintro k σ H1 hk ⟨r, rv, rest, v4, v5, v6, v7, v8, rfl, s1, nr, er, hR, rs, hle⟩
      have hlr : rv.length = rest.length := P_len hR
      -- ends = []; for joint in rest
      refine ⟨Nat.zero_le _, fun en nen => ?_⟩
      have s2 : Same H1 (upd H1 en (.lst [])) := (Same.refl H1).new nen
      refine ⟨_, rfl, r, rfl, ⟨_, SqL.of (s2 _ _ er)⟩, for_list (K := K) (a := r) (xs := rv) (fun m σ H' => ∃ (v6 : Option V), σ = [some (.ref a), some (nV here), some (nV goal), some (.ref r), some (nV k), some (.ref en), v6, v7, v8, none] ∧ Same H1 H' ∧ H' en = some (.lst ((ends (rest.take m)).map nV)))
        ⟨v6, by rw [Int.zero_add]; rfl, s2, upd_same⟩ (fun m σ H' _ ⟨_, _, sm, _⟩ => SqL.of (sm _ _ er)) ?_ ?_⟩
      · rintro m y σ H2 hy ⟨v6, rfl, sm, een⟩
        obtain ⟨e, he, tt, rfl, et⟩ := P_right hR hy
        have et2 := sm.seqT et
        refine ⟨_, rfl, .inl ⟨rfl, _, SqL.of een⟩, _, rfl, ⟨tt, _, 1, nV e.i, rfl, rfl, et2, rfl, _, rfl, tt, _, 2, nV e.j, rfl, rfl, et2, rfl, (by show 2 ≤ sizeLine; decide), fun pl npl => ?_⟩⟩
        have s3 : Same H2 (upd H2 pl (.lst [nV e.i, nV e.j])) := (Same.refl H2).new npl
        refine ⟨en, pl, _, _, rfl, rfl, s3 _ _ een, upd_same, ?_, ?_⟩
        · rw [List.length_map, ends_len, List.length_take]
          show _ + 2 ≤ _
          exact szle (by omega)
        · refine ⟨_, rfl, (sm.trans s3).mut nen, ?_⟩
          rw [upd_same, ends_snoc he, List.map_append]
          rfl
      rintro σ H2 ⟨v6, rfl, sm2, een⟩
      rw [hlr, List.take_length] at een
      -- kept = []; for joint in rest
      refine ⟨Nat.zero_le _, fun kp nkp => ?_⟩
      have s3 : Same H2 (upd H2 kp (.lst [])) := (Same.refl H2).new nkp
      have nkp1 : H1 kp = none := sm2.free nkp
      refine ⟨_, rfl, r, rfl, ⟨_, SqL.of (s3 _ _ (sm2 _ _ er))⟩, for_list (K := K) (a := r) (xs := rv) (fun m σ H' => ∃ (v6 v8 : Option V) (kv : List V), σ = [some (.ref a), some (nV here), some (nV goal), some (.ref r), some (nV k), some (.ref en), v6, some (.ref kp), v8, none] ∧ Same H2 H' ∧ H' kp = some (.lst kv) ∧ JQ sums K H' kv ((rest.take m).filter fun e => !(K32.lo here goal rest e.i || K32.lo here goal rest e.j)))
        ⟨v6, v8, [], rfl, s3, upd_same, .nil⟩ (fun m σ H' _ ⟨_, _, _, _, sm, _⟩ => SqL.of (sm _ _ (sm2 _ _ er))) ?_ ?_⟩
      · rintro m y σ H3 hy ⟨v6, v8, kv, rfl, sm3, ekp, hkv⟩
        obtain ⟨e, he, tt, rfl, et⟩ := P_right hR hy
        have et3 := (sm2.trans sm3).seqT et
        have een3 := sm3 _ _ een
        have er3 := sm3 _ _ (sm2 _ _ er)
        -- loose
        refine ⟨_, rfl, 1, rfl, 3, rfl, tt, _, rfl, et3, (by rw [show (j4 sums e).length = 4 from rfl]; decide), fun p np => ?_⟩
        rw [show cutV (j4 sums e) (some 1) (some 3) = [nV e.i, nV e.j] from rfl] at *
        have s4 : Same H3 (upd H3 p (.tup [nV e.i, nV e.j])) := (Same.refl H3).new np
        have ep : (upd H3 p (.tup [nV e.i, nV e.j])) p = some (.tup [nV e.i, nV e.j]) := upd_same
        show ∃ a, _
        refine ⟨p, rfl, ⟨_, SqT.of upd_same⟩, fun D nD => ?_⟩
        generalize upd H3 p (.tup [nV e.i, nV e.j]) = H4 at s4 ep nD ⊢
        refine lc_tup (K := K) (a := p) (xs := [e.i, e.j].map nV) (fun m H' => Same H4 H' ∧ H' D = some (.lst ((([e.i, e.j].take m).filter (K32.lo here goal rest)).map nV))) ⟨(Same.refl H4).new nD, upd_same⟩ (fun m H' _ ⟨sm, _⟩ => SqT.of (sm _ _ ep)) ?_ ?_
        · rintro m z H5 hz ⟨s5, eD⟩
          obtain ⟨x, hx, rfl⟩ := getn_inv hz
          have een5 := (s4.trans s5) _ _ een3
          have drop : K32.lo here goal rest x = false → Same H4 H5 ∧ H5 D = some (.lst ((([e.i, e.j].take (m + 1)).filter (K32.lo here goal rest)).map nV)) := fun l0 => ⟨s5, by rw [take_more hx, List.filter_append, eD]; simp [l0]⟩
          refine ⟨rfl, _, rfl, _, rfl, rfl, _, rfl, ?_⟩
          by_cases h1 : x = here
          · rw [decide_eq_true (show nV x = nV here by rw [h1])]
            exact iteF (iteF (drop (by unfold K32.lo; simp [h1])))
          rw [decide_eq_false (show ¬ nV x = nV here from fun z => h1 (by have := V.int.inj z; omega))]
          refine iteT ⟨_, rfl, _, rfl, rfl, _, rfl, ?_⟩
          by_cases h2 : x = goal
          · rw [decide_eq_true (show nV x = nV goal by rw [h2])]
            exact iteF (iteF (drop (by unfold K32.lo; simp [h2])))
          rw [decide_eq_false (show ¬ nV x = nV goal from fun z => h2 (by have := V.int.inj z; omega))]
          refine iteT ⟨_, rfl, .inl ⟨rfl, _, SqL.of een5⟩, _, rfl, en, intz (ends rest), (x : Int), rfl, rfl, by rw [nV_ints]; exact SqL.of een5, rfl, _, rfl, ?_⟩
          rw [count_ints]
          by_cases h3 : (ends rest).count x = 1
          · rw [decide_eq_true (show V.int (((ends rest).count x : Nat) : Int) = V.int 1 by rw [h3]; rfl)]
            refine iteT ⟨_, rfl, _, eD, ?_, s5.mut nD, ?_⟩
            · rw [List.length_map]
              exact szl (Nat.le_trans (List.length_filter_le _ _) (Nat.le_trans (List.length_take_le' _ _) (by show 2 ≤ 10000; decide)))
            · rw [upd_same, take_more hx, List.filter_append, List.map_append]
              have : K32.lo here goal rest x = true := by unfold K32.lo; simp [h1, h2, h3]
              simp [this]
          · rw [decide_eq_false (show ¬ V.int (((ends rest).count x : Nat) : Int) = V.int 1 from fun z => h3 (by have := V.int.inj z; omega))]
            exact iteF (drop (by unfold K32.lo; simp [h1, h2, h3]))
        rintro H5 ⟨s5, eD⟩
        have eD' : H5 D = some (.lst (([e.i, e.j].filter (K32.lo here goal rest)).map nV)) := eD
        refine ⟨_, rfl, D, _, rfl, .inl (SqL.of eD'), rfl, _, rfl, ?_⟩
        have s35 := s4.trans s5
        have hkv5 := hkv.same s35
        have hz : (([e.i, e.j].filter (K32.lo here goal rest)).map nV).length = 0 ↔ (!(K32.lo here goal rest e.i || K32.lo here goal rest e.j)) = true := by
          rw [List.length_map]
          cases c1 : K32.lo here goal rest e.i <;> cases c2 : K32.lo here goal rest e.j <;> simp [c1, c2]
        by_cases c : (!(K32.lo here goal rest e.i || K32.lo here goal rest e.j)) = true
        · rw [decide_eq_true (show V.int ((([e.i, e.j].filter (K32.lo here goal rest)).map nV).length : Int) = V.int 0 by rw [hz.mpr c]; rfl)]
          refine iteT ⟨_, rfl, .inl ⟨rfl, _, SqL.of (s35 _ _ ekp)⟩, _, rfl, kp, _, _, rfl, rfl, s35 _ _ ekp, ?_, ?_⟩
          · rw [P_len hkv]
            exact szl (Nat.le_trans (List.length_filter_le _ _) (Nat.le_trans (List.length_take_le' _ _) (by omega)))
          · refine ⟨_, _, kv ++ [.ref tt], rfl, (sm3.trans s35).mut nkp, upd_same, ?_⟩
            rw [take_more he, List.filter_append, List.filter_cons, if_pos c, List.filter_nil]
            exact P_append (hkv5.mutL (s35 _ _ ekp)) (.cons ⟨tt, rfl, sqT_mutL (s35.seqT et3) (s35 _ _ ekp)⟩ .nil)
        · rw [decide_eq_false (show ¬ V.int ((([e.i, e.j].filter (K32.lo here goal rest)).map nV).length : Int) = V.int 0 from fun z => c (hz.mp (by have := V.int.inj z; omega)))]
          refine iteF ⟨_, _, kv, rfl, sm3.trans s35, s35 _ _ ekp, ?_⟩
          rw [take_more he, List.filter_append, List.filter_cons, if_neg c, List.filter_nil, List.append_nil]
          exact hkv5
      rintro σ H3 ⟨v6, v8, kv, rfl, sm3, ekp, hkv⟩
      rw [hlr, List.take_length] at hkv
      have hkv : JQ sums K H3 kv (K32.prune here goal rest) := hkv
      have hlk : kv.length = (K32.prune here goal rest).length := P_len hkv
      have s13 := sm2.trans sm3
      have er3 := s13 _ _ er
      have sub1 : ∀ {x : List J}, Rs js W x → (∀ e ∈ x, e ∈ js) ∧ x.length ≤ 100 := fun {x} h => ⟨fun e he => h.sub.subset he, Nat.le_trans h.sub.length_le hl⟩
      refine ⟨_, rfl, kp, _, rfl, .inl (SqL.of ekp), _, rfl, r, _, rfl, .inl (SqL.of er3), rfl, _, rfl, ?_⟩
      by_cases c : (K32.prune here goal rest).length = rest.length
      · rw [decide_eq_true (show V.int (kv.length : Int) = V.int (rv.length : Int) by rw [hlk, hlr, c])]
        exact iteT ⟨_, rfl, q rest rv r H3 (s1.trans s13) nr er3 (hR.same s13) (sub1 rs).1 (sub1 rs).2 (fin _ (rs.stop fo ndj bd pth (prune_len c)))⟩
      · rw [decide_eq_false (show ¬ V.int (kv.length : Int) = V.int (rv.length : Int) from fun z => c (by have := V.int.inj z; omega))]
        refine iteF ⟨_, rfl, kp, _, rfl, .inl (SqL.of ekp), fun r2 nr2 => ?_⟩
        have s4 : Same H3 (upd H3 r2 (.lst kv)) := (Same.refl H3).new nr2
        refine ⟨r2, kv, K32.prune here goal rest, _, _, _, _, _, rfl, (s1.trans s13).trans s4, (s1.trans s13).free nr2, upd_same, hkv.same s4, rs.prune ndj pth, ?_⟩
        have := List.length_filter_le (fun e => !(K32.lo here goal rest e.i || K32.lo here goal rest e.j)) rest
        have e2 : (K32.prune here goal rest).length ≤ rest.length := this
        omega
    · rintro σ H1 ⟨r, rv, rest, v4, v5, v6, v7, v8, rfl, s1, nr, er, hR, rs, hle⟩
      have : rest = [] := List.length_eq_zero_iff.mp (by omega)
      subst this
      exact ⟨_, rfl, q [] rv r H1 s1 nr er hR (fun e he => by cases he) (Nat.zero_le _) (fin _ rs.nil)⟩
end
end K32W

namespace K32W
open PySem PySem.Spec PyProof.Rows L2 KH K32 KD
abbrev s_law_way : Stmt := topS 25
theorem sc_law_way : FnScope ["joints", "here", "goal", "rest", "steps", "line", "k", "index", "i", "j", "diff"] ["joints", "here", "goal"] (defScope s_law_way) := ⟨rfl, rfl, rfl, by decide +kernel, rfl, by decide +kernel, by decide +kernel⟩

/-! ### pairs as data -/
def dP (q : Nat × Int) : PyData := .tuple [.int (q.1 : Int), .int q.2]
theorem eqv_dP (a b : Nat × Int) : PyData.eqv (dP a) (dP b) = decide (a = b) := by
  have h : PyData.eqv (dP a) (dP b) = (((a.1 : Int) == (b.1 : Int)) && ((a.2 == b.2) && true)) := by
    unfold dP
    simp [PyData.eqv, PyData.eqvAll]
  rw [h, Bool.eq_iff_iff]
  simp only [Bool.and_true, Bool.and_eq_true, beq_iff_eq, decide_eq_true_eq]
  obtain ⟨a1, a2⟩ := a
  obtain ⟨b1, b2⟩ := b
  simp only [Prod.mk.injEq]
  omega
theorem any_dP (q : Nat × Int) : ∀ l : List (Nat × Int), ((l.map dP).any fun z => PyData.eqv z (dP q)) = decide (q ∈ l)
  | [] => rfl
  | x :: l => by
    rw [List.map_cons, List.any_cons, any_dP q l, eqv_dP, Bool.eq_iff_iff]
    simp only [Bool.or_eq_true, decide_eq_true_eq, List.mem_cons]
    constructor
    · rintro (h | h)
      · exact .inl h.symm
      · exact .inr h
    · rintro (h | h)
      · exact .inl h.symm
      · exact .inr h
theorem shaped_dP (q : Nat × Int) : SeqAt.shaped (dP q) = true := by
  unfold SeqAt.shaped dP
  simp [PyData.canLay0, PyData.canLayAll0, PyData.depth, PyData.depthAll]
theorem dP_depth : ∀ l : List (Nat × Int), PyData.depthAll (l.map dP) ≤ 1
  | [] => by simp [PyData.depthAll]
  | x :: l => by
    have ih := dP_depth l
    rw [List.map_cons]
    simp only [PyData.depthAll, dP, PyData.depth]
    exact Nat.max_le.mpr ⟨by simp [PyData.depthAll, PyData.depth], ih⟩
theorem dP_lay : ∀ l : List (Nat × Int), PyData.canLayAll0 (l.map dP) = true
  | [] => by simp [PyData.canLayAll0]
  | x :: l => by
    have ih := dP_lay l
    rw [List.map_cons]
    simp only [PyData.canLayAll0, PyData.canLay0, dP, ih, Bool.and_self]
theorem shaped_l (l : List (Nat × Int)) : SeqAt.shaped (.list (l.map dP)) = true := by
  unfold SeqAt.shaped
  simp only [PyData.canLay0, dP_lay, Bool.true_and, PyData.depth, decide_eq_true_eq]
  have := dP_depth l
  exact decide_eq_true (by omega)
theorem TelP.dp {K : PySem.W.Frag} {H : Hp} : ∀ {vs : List V} {l : List (Nat × Int)}, TelP H vs l → DpAll K H vs (l.map dP)
  | _, _, .nil => .nil
  | _, _, .cons ⟨t, e, q⟩ r => by
    subst e
    exact .cons (.tup (SqT.of q) (.cons (.int _) (.cons (.int _) .nil))) (TelP.dp r)
/-- used already -/
theorem used_iff {sums : SM} {m : Int} {tt : Nat} {js : List J} (st : St sums m tt js) {l : List K32.Step} (hl : ∀ s ∈ l, s.e ∈ js) {e : J} (he : e ∈ js) : ((e.ix, (1 : Int)) ∈ tell l ∨ (e.ix, (-1 : Int)) ∈ tell l) ↔ ∃ s ∈ l, s.e = e := by
  unfold tell
  constructor
  · intro h
    have key : ∃ s ∈ l, s.e.ix = e.ix := by
      rcases h with h | h <;> obtain ⟨s, hs, q⟩ := List.mem_map.mp h
      · exact ⟨s, hs, congrArg Prod.fst q⟩
      · exact ⟨s, hs, congrArg Prod.fst q⟩
    obtain ⟨s, hs, q⟩ := key
    exact ⟨s, hs, st.inj (hl s hs) he q⟩
  · rintro ⟨s, hs, rfl⟩
    cases hu : s.up with
    | true => exact .inl (List.mem_map.mpr ⟨s, hs, by unfold Step.sg; rw [hu]; rfl⟩)
    | false => exact .inr (List.mem_map.mpr ⟨s, hs, by unfold Step.sg; rw [hu]; rfl⟩)
theorem tell_take_snoc {W : List K32.Step} {c : Nat} {s : K32.Step} (h : W[c]? = some s) : tell (W.take (c + 1)) = tell (W.take c) ++ [(s.e.ix, s.sg)] := by
  rw [take_more h, tell_snoc]
theorem mem_take_js {js : List J} {a b : Nat} {W : List K32.Step} {vs : List Nat} (p : Pth js a b W vs) (c : Nat) : ∀ s ∈ W.take c, s.e ∈ js := fun s hs => by
  obtain ⟨k, hk⟩ := List.getElem?_of_mem (List.mem_of_mem_take hs)
  exact (p.step k s hk).1
theorem ifbrk {t : TT} {body rest : TS} {D : Ends} {σ : L2.St} {H : Hp} {C : Prop} (ht : ∀ Qb : Bool → Hp → Prop, (∀ b H', Same H H' → (b = true ↔ C) → Qb b H') → t σ H Qb) (hb : C → ∀ H', Same H H' → body { D with nx := rest D } σ H')
    (q : ¬ C → ∀ H', Same H H' → rest D σ H') : tSeq (tIfS t body tNext) rest D σ H := by
  refine ht _ fun b H' s h => ?_
  cases b with
  | true =>
    rw [if_pos rfl]
    exact hb (h.mp rfl) H' s
  | false =>
    rw [if_neg Bool.false_ne_true]
    exact q (fun z => Bool.noConfusion (h.mpr z)) H' s
theorem ifbrk1 {t : TT} {body : TS} {D : Ends} {σ : L2.St} {H : Hp} {C : Prop} (ht : ∀ Qb : Bool → Hp → Prop, (∀ b H', Same H H' → (b = true ↔ C) → Qb b H') → t σ H Qb) (hb : C → ∀ H', Same H H' → body D σ H')
    (q : ¬ C → ∀ H', Same H H' → D.nx σ H') : tIfS t body tNext D σ H := by
  refine ht _ fun b H' s h => ?_
  cases b with
  | true =>
    rw [if_pos rfl]
    exact hb (h.mp rfl) H' s
  | false =>
    rw [if_neg Bool.false_ne_true]
    exact q (fun z => Bool.noConfusion (h.mpr z)) H' s
section
variable {P : Program} {w : World} {K : PySem.W.Frag} {mg : Str → Option Value} {base : Heap} {CN CB CD CT CU fI : Addr}
def sp_way (K : PySem.W.Frag) : Sp := fun vs H Q _ => ∃ (a : Addr) (us : List V) (sums : SM) (m : Int) (tt : Nat) (js : List J) (n here goal : Nat), vs = [.ref a, nV here, nV goal] ∧ SqL K H a us ∧ JQ sums K H us js ∧ js.length ≤ 100 ∧ n ≤ 100 ∧ (∀ e ∈ js, e.i < n ∧ e.j < n) ∧ St sums m tt js ∧ here < n ∧ Conn js here goal ∧
  ∀ W x H', Way js here goal W → Same H H' → H x = none → TelL H' x (tell W) → Q (.ref x) H'
theorem ok_way {f f1 : Addr} {fd fd1 : FuncData} (F : Fun K "_law_way" "_law_way" s_law_way f fd) (T : Txt mg) (C_law_between : Cal P w K mg base 1 "_law_between" ["joints", "here", "goal"] (sp_between K) f1 fd1) : FnOk P w K mg base CX0 2 f fd ["joints", "here", "goal"] (sp_way K) := by
  refine F.ok sc_law_way (fun vs H Q E h => ?_) (fun cdv A outer s H vs Q E hr h => ?_)
  · obtain ⟨a, us, sums, m, tt, js, n, here, goal, rfl, _⟩ := h
    rfl
  · obtain ⟨a, us, sums, m, tt, js, n, here, goal, rfl, hS, hJ, hl, hn, bd, st, hh, cn, q⟩ := h
    refine ⟨_, (pss_cons (ps_set (i := 3) sc_law_way.nd rfl (.inl rfl) (pe_call C_law_between.ok (hr.mono (by decide)) (by rfl) C_law_between.mg C_law_between.kp C_law_between.b .nil pass0 (pa_cons (pv 0) (pa_cons (pv 1) (pa_cons (pv 2) pa_nil)))))
 (pss_cons (ps_set (i := 4) sc_law_way.nd rfl (.inl rfl) (pe_lst pa_nil))
 (pss_cons (ps_set (i := 5) sc_law_way.nd rfl (.inl rfl) (pv 1))
 (pss_cons (ps_for PassesOwn.never rfl (pi_range1 rfl T.range (pa_cons (pe_callB call_len_seq (by rfl) T.len (by decide +kernel) (pa_cons (pv 3) pa_nil)) pa_nil)) (pg_name (i := 6) sc_law_way.nd rfl (.inl rfl))
 (pss_one (ps_for PassesOwn.never rfl (pi_list (pv 3)) (pg_tup rfl (pgs_cons (pg_name (i := 7) sc_law_way.nd rfl (.inl rfl)) (pgs_cons (pg_name (i := 8) sc_law_way.nd rfl (.inl rfl)) (pgs_cons (pg_name (i := 9) sc_law_way.nd rfl (.inl rfl)) (pgs_cons (pg_name (i := 10) sc_law_way.nd rfl (.inl rfl)) pgs_nil)))))
 (pss_cons (ps_if (PW.pt (pw_and (pt_cmpR op_eq (pv 8) (pv 5) (nomark _)) (pw_and (pt_cmpR (op_notInD (u65 hr)) (pe_tup (pa_cons (pv 7) (pa_cons pe_int pa_nil))) (pv 4) (by rfl)) (pw_and1 (pt_cmpR (op_notInD (u65 hr)) (pe_tup (pa_cons (pv 7) (pa_cons (pe_un un_neg pe_int) pa_nil))) (pv 4) (by rfl))))))
 (pss_cons (ps_expr (pe_bm PySem.F.plainAttrs_list PySem.F.slot_list_append PySem.F.type_list_append mt_append (pv 4) (pa_cons (pe_tup (pa_cons (pv 7) (pa_cons pe_int pa_nil))) pa_nil)))
 (pss_cons (ps_set (i := 5) sc_law_way.nd rfl (.inl rfl) (pv 9))
 (pss_one ps_break)))
 pss_nil)
 (pss_one (ps_if (PW.pt (pw_and (pt_cmpR op_eq (pv 9) (pv 5) (nomark _)) (pw_and (pt_cmpR (op_notInD (u65 hr)) (pe_tup (pa_cons (pv 7) (pa_cons pe_int pa_nil))) (pv 4) (by rfl)) (pw_and1 (pt_cmpR (op_notInD (u65 hr)) (pe_tup (pa_cons (pv 7) (pa_cons (pe_un un_neg pe_int) pa_nil))) (pv 4) (by rfl))))))
 (pss_cons (ps_expr (pe_bm PySem.F.plainAttrs_list PySem.F.slot_list_append PySem.F.type_list_append mt_append (pv 4) (pa_cons (pe_tup (pa_cons (pv 7) (pa_cons (pe_un un_neg pe_int) pa_nil))) pa_nil)))
 (pss_cons (ps_set (i := 5) sc_law_way.nd rfl (.inl rfl) (pv 8))
 (pss_one ps_break)))
 pss_nil))))))
 (pss_one (ps_ret (pv 4))))))), ?_⟩
    obtain ⟨W, wvs, pth⟩ := cn.way
    have hwl : W.length < n := by
      have h1 := K02.nodup_len n wvs pth.nd fun u hu => by
        obtain ⟨m, hm⟩ := List.getElem?_of_mem hu
        exact ((pth.cut hm).conn).lt bd hh
      have h2 := pth.len
      omega
    refine ⟨_, rfl, _, rfl, _, rfl, a, us, sums, js, n, here, goal, rfl, hS, hJ, hl, bd, st.forest, st.nd, cn, fun rest rv r H1 s1 nr er hR sub hlr ex => ?_⟩
    have ex := ex W wvs pth
    have hlv : rv.length = rest.length := P_len hR
    -- steps = []; line = here
    refine ⟨Nat.zero_le _, fun sp nsp => ?_⟩
    have s2 : Same H1 (upd H1 sp (.lst [])) := (Same.refl H1).new nsp
    refine ⟨_, rfl, _, rfl, r, _, rfl, .inl (SqL.of (s2 _ _ er)), _, rfl, (by omega), (by omega), ?_⟩
    rw [show ((rv.length : Nat) : Int).toNat = rest.length by omega]
    refine for_range (lo := 0) (n := rest.length) (fun k σ H' => ∃ (c v : Nat) (sv : List V) (v6 v7 v8 v9 v10 : Option V), σ = [some (.ref a), some (nV here), some (nV goal), some (.ref r), some (.ref sp), some (nV v), v6, v7, v8, v9, v10] ∧ Same H1 H' ∧ H' sp = some (.lst sv) ∧ TelP H' sv (tell (W.take c)) ∧ wvs[c]? = some v ∧ c = min k W.length)
      ⟨0, here, [], none, none, none, none, none, rfl, s2, upd_same, .nil, pth.first, by omega⟩ ?_ ?_
    · rintro k σ H2 hk ⟨c, v, sv, v6, v7, v8, v9, v10, rfl, sm, esp, tp, hv, hc⟩
      refine ⟨_, rfl, r, rfl, ⟨_, SqL.of (sm _ _ er)⟩, for_list (K := K) (a := r) (xs := rv) (fun t σ H' => ∃ (v7 v8 v9 v10 : Option V), σ = [some (.ref a), some (nV here), some (nV goal), some (.ref r), some (.ref sp), some (nV v), some (nV k), v7, v8, v9, v10] ∧ Same H1 H' ∧ H' sp = some (.lst sv) ∧ TelP H' sv (tell (W.take c)) ∧ ∀ (x : Nat) (e : J), x < t → rest[x]? = some e → ∀ s, W[c]? = some s → s.e ≠ e)
        ⟨v7, v8, v9, v10, by rw [Int.zero_add]; rfl, sm, esp, tp, fun x e h => absurd h (Nat.not_lt_zero x)⟩ (fun t σ H' _ ⟨_, _, _, _, _, sm, _⟩ => SqL.of (sm _ _ er)) ?_ ?_⟩
      · rintro t y σ H3 hy ⟨v7, v8, v9, v10, rfl, sm3, esp, tp, nof⟩
        obtain ⟨e, he, tu, rfl, et⟩ := P_right hR hy
        have hre := List.mem_of_getElem? he
        have hje := sub e hre
        have et3 := sm3.seqT et
        have hus := used_iff st (mem_take_js pth c) hje
        refine ⟨tu, _, rfl, et3, rfl, _, _, rfl, _, _, rfl, _, _, rfl, _, _, rfl, rfl, ?_⟩
        -- the two tests of what is used, at any heap that keeps the steps
        have test : ∀ (sg : Int) (H4 : Hp) (t1 : Addr) (Q' : VK), Same H3 H4 → H4 t1 = some (.tup [nV e.ix, .int sg]) → Q' (.bl (!decide ((e.ix, sg) ∈ tell (W.take c)))) H4 → rNotInD K (.ref t1) (.ref sp) H4 Q' := by
          intro sg H4 t1 Q' s4 et1 hq
          refine ⟨dP (e.ix, sg), (tell (W.take c)).map dP, .tup (SqT.of et1) (.cons (.int _) (.cons (.int _) .nil)), .lst (SqL.of (s4 _ _ esp)) (tp.same s4).dp, shaped_dP _, shaped_l _, ?_⟩
          rw [any_dP]
          exact hq
        have unus : ¬ ((e.ix, (1 : Int)) ∈ tell (W.take c) ∨ (e.ix, (-1 : Int)) ∈ tell (W.take c)) → ∀ s ∈ W.take c, s.e ≠ e := fun h s hs z => h (hus.mpr ⟨s, hs, z⟩)
        refine ifbrk (C := e.i = v ∧ ¬ ((e.ix, (1 : Int)) ∈ tell (W.take c) ∨ (e.ix, (-1 : Int)) ∈ tell (W.take c))) ?_ ?_ ?_
        · skip
          intro Qb hq
          refine ⟨_, rfl, _, rfl, rfl, _, rfl, ?_⟩
          by_cases ui : e.i = v
          · rw [decide_eq_true (show nV e.i = nV v by rw [ui])]
            refine iteT ⟨_, rfl, (by show 2 ≤ sizeLine; decide), fun t1 n1 => ⟨_, rfl, ?_⟩⟩
            have s5 : Same H3 (upd H3 t1 (.tup [nV e.ix, .int 1])) := (Same.refl H3).new n1
            refine test 1 _ t1 _ ((Same.refl H3).trans s5) upd_same ⟨_, rfl, ?_⟩
            by_cases u1 : (e.ix, (1 : Int)) ∈ tell (W.take c)
            · rw [decide_eq_true u1]
              exact iteF (hq _ _ s5 ⟨fun z => Bool.noConfusion z, fun z => (z.2 (.inl u1)).elim⟩)
            · rw [decide_eq_false u1]
              refine iteT ⟨_, rfl, _, rfl, (by show 2 ≤ sizeLine; decide), fun t2 n2 => ⟨_, rfl, ?_⟩⟩
              have s6 : Same (upd H3 t1 (.tup [nV e.ix, .int 1])) (upd (upd H3 t1 (.tup [nV e.ix, .int 1])) t2 (.tup [nV e.ix, .int (-1)])) := (Same.refl _).new n2
              refine test (-1) _ t2 _ (((Same.refl H3).trans s5).trans s6) upd_same ⟨_, rfl, ?_⟩
              by_cases u2 : (e.ix, (-1 : Int)) ∈ tell (W.take c)
              · rw [decide_eq_true u2]
                exact hq _ _ (s5.trans s6) ⟨fun z => Bool.noConfusion z, fun z => (z.2 (.inr u2)).elim⟩
              · rw [decide_eq_false u2]
                exact hq _ _ (s5.trans s6) ⟨fun _ => ⟨ui, fun z => z.elim u1 u2⟩, fun _ => rfl⟩
          · rw [decide_eq_false (show ¬ nV e.i = nV v from fun z => ui (by have := V.int.inj z; omega))]
            exact iteF (hq _ _ (Same.refl H3) ⟨fun z => Bool.noConfusion z, fun z => (ui z.1).elim⟩)
        · rintro ⟨ev, un⟩ H4 s4
          rcases ex.next pth hre hv (.inl ev) (unus un) with ⟨_, ew⟩ | ⟨z, _⟩
          · skip
            have hcW : c < W.length := lt_get ew
            obtain ⟨_, _, hv2⟩ := pth.step c _ ew
            have hnx : wvs[c + 1]? = some e.j := hv2
            refine ⟨_, rfl, .inl ⟨rfl, _, SqL.of (s4 _ _ esp)⟩, _, rfl, (by show 2 ≤ sizeLine; decide), fun t1 n1 => ?_⟩
            have s5 : Same H4 (upd H4 t1 (.tup [nV e.ix, V.int (1)])) := (Same.refl H4).new n1
            have e5 : (upd H4 t1 (.tup [nV e.ix, V.int (1)])) t1 = some (.tup [nV e.ix, V.int (1)]) := upd_same
            generalize upd H4 t1 (.tup [nV e.ix, V.int (1)]) = H5 at s5 e5 ⊢
            have esp5 := (s4.trans s5) _ _ esp
            refine ⟨sp, _, _, rfl, rfl, esp5, ?_, ?_⟩
            · rw [P_len tp]
              unfold tell
              rw [List.length_map]
              exact szl (Nat.le_trans (List.length_take_le' _ _) (by omega))
            refine ⟨_, rfl, c + 1, e.j, _, _, _, _, _, _, rfl, ((sm3.trans s4).trans s5).mut nsp, upd_same, ?_, hnx, by omega⟩
            rw [tell_take_snoc ew]
            refine P_append ((tp.same (s4.trans s5)).mut esp5 (fun xs z => by cases z)) (.cons ⟨t1, rfl, ?_⟩ .nil)
            rw [upd_ne (ne_of e5 esp5 (by intro z; cases z))]
            exact e5
          · exact (z ev).elim
        · intro c1 H4 s4
          refine ifbrk1 (C := e.j = v ∧ ¬ ((e.ix, (1 : Int)) ∈ tell (W.take c) ∨ (e.ix, (-1 : Int)) ∈ tell (W.take c))) ?_ ?_ ?_
          · skip
            intro Qb hq
            refine ⟨_, rfl, _, rfl, rfl, _, rfl, ?_⟩
            by_cases ui : e.j = v
            · rw [decide_eq_true (show nV e.j = nV v by rw [ui])]
              refine iteT ⟨_, rfl, (by show 2 ≤ sizeLine; decide), fun t1 n1 => ⟨_, rfl, ?_⟩⟩
              have s5 : Same H4 (upd H4 t1 (.tup [nV e.ix, .int 1])) := (Same.refl H4).new n1
              refine test 1 _ t1 _ ((s4).trans s5) upd_same ⟨_, rfl, ?_⟩
              by_cases u1 : (e.ix, (1 : Int)) ∈ tell (W.take c)
              · rw [decide_eq_true u1]
                exact iteF (hq _ _ s5 ⟨fun z => Bool.noConfusion z, fun z => (z.2 (.inl u1)).elim⟩)
              · rw [decide_eq_false u1]
                refine iteT ⟨_, rfl, _, rfl, (by show 2 ≤ sizeLine; decide), fun t2 n2 => ⟨_, rfl, ?_⟩⟩
                have s6 : Same (upd H4 t1 (.tup [nV e.ix, .int 1])) (upd (upd H4 t1 (.tup [nV e.ix, .int 1])) t2 (.tup [nV e.ix, .int (-1)])) := (Same.refl _).new n2
                refine test (-1) _ t2 _ (((s4).trans s5).trans s6) upd_same ⟨_, rfl, ?_⟩
                by_cases u2 : (e.ix, (-1 : Int)) ∈ tell (W.take c)
                · rw [decide_eq_true u2]
                  exact hq _ _ (s5.trans s6) ⟨fun z => Bool.noConfusion z, fun z => (z.2 (.inr u2)).elim⟩
                · rw [decide_eq_false u2]
                  exact hq _ _ (s5.trans s6) ⟨fun _ => ⟨ui, fun z => z.elim u1 u2⟩, fun _ => rfl⟩
            · rw [decide_eq_false (show ¬ nV e.j = nV v from fun z => ui (by have := V.int.inj z; omega))]
              exact iteF (hq _ _ (Same.refl H4) ⟨fun z => Bool.noConfusion z, fun z => (ui z.1).elim⟩)
          · rintro ⟨ev, un⟩ H5 s45
            have s4 := s4.trans s45
            clear s45
            generalize H5 = H4 at s4 ⊢
            rcases ex.next pth hre hv (.inr ev) (unus un) with ⟨z, _⟩ | ⟨_, ew⟩
            · exact (c1 ⟨z, un⟩).elim
            · skip
              have hcW : c < W.length := lt_get ew
              obtain ⟨_, _, hv2⟩ := pth.step c _ ew
              have hnx : wvs[c + 1]? = some e.i := hv2
              refine ⟨_, rfl, .inl ⟨rfl, _, SqL.of (s4 _ _ esp)⟩, _, rfl, _, rfl, (by show 2 ≤ sizeLine; decide), fun t1 n1 => ?_⟩
              have s5 : Same H4 (upd H4 t1 (.tup [nV e.ix, V.int (-1)])) := (Same.refl H4).new n1
              have e5 : (upd H4 t1 (.tup [nV e.ix, V.int (-1)])) t1 = some (.tup [nV e.ix, V.int (-1)]) := upd_same
              generalize upd H4 t1 (.tup [nV e.ix, V.int (-1)]) = H5 at s5 e5 ⊢
              have esp5 := (s4.trans s5) _ _ esp
              refine ⟨sp, _, _, rfl, rfl, esp5, ?_, ?_⟩
              · rw [P_len tp]
                unfold tell
                rw [List.length_map]
                exact szl (Nat.le_trans (List.length_take_le' _ _) (by omega))
              refine ⟨_, rfl, c + 1, e.i, _, _, _, _, _, _, rfl, ((sm3.trans s4).trans s5).mut nsp, upd_same, ?_, hnx, by omega⟩
              rw [tell_take_snoc ew]
              refine P_append ((tp.same (s4.trans s5)).mut esp5 (fun xs z => by cases z)) (.cons ⟨t1, rfl, ?_⟩ .nil)
              rw [upd_ne (ne_of e5 esp5 (by intro z; cases z))]
              exact e5
          · intro c2 H5 s45
            refine ⟨_, _, _, _, rfl, (sm3.trans s4).trans s45, (s4.trans s45) _ _ esp, tp.same (s4.trans s45), fun x f hx hf s hs z => ?_⟩
            by_cases q : x = t
            · subst q
              rw [he] at hf
              cases hf
              subst z
              obtain ⟨_, b2, _⟩ := pth.step c s hs
              rw [hv] at b2
              have un : ¬ ((s.e.ix, (1 : Int)) ∈ tell (W.take c) ∨ (s.e.ix, (-1 : Int)) ∈ tell (W.take c)) := fun y => by
                obtain ⟨s', h1, h2⟩ := hus.mp y
                obtain ⟨k', hk'⟩ := List.getElem?_of_mem h1
                have hlt : k' < c := by
                  have := lt_get hk'
                  rw [List.length_take] at this
                  omega
                rw [List.getElem?_take, if_pos hlt] at hk'
                have := pth.once hk' hs h2
                omega
              rcases s.ends with ⟨e1, _⟩ | ⟨e1, _⟩
              · exact c1 ⟨by rw [← e1]; exact (Option.some.inj b2).symm, un⟩
              · exact c2 ⟨by rw [← e1]; exact (Option.some.inj b2).symm, un⟩
            · exact nof x f (by omega) hf s hs z
      · rintro σ H3 ⟨v7, v8, v9, v10, rfl, sm3, esp, tp, nof⟩
        have hcl : W.length ≤ c := by
          refine Nat.le_of_not_lt fun h => ?_
          have hw : W[c]? = some W[c] := List.getElem?_eq_getElem h
          obtain ⟨x, hx⟩ := List.getElem?_of_mem (ex.all _ (List.getElem_mem h))
          exact nof x _ (by have := lt_get hx; omega) hx _ hw rfl
        exact ⟨c, v, sv, _, _, _, _, _, rfl, sm3, esp, tp, hv, by omega⟩
    · rintro σ H2 ⟨c, v, sv, v6, v7, v8, v9, v10, rfl, sm, esp, tp, hv, hc⟩
      have := ex.len pth
      rw [show c = W.length by omega, List.take_length] at tp
      exact ⟨_, rfl, q W sp H2 ⟨wvs, pth⟩ (s1.trans sm) (s1.free nsp) ⟨sv, esp, tp⟩⟩
end
end K32W

namespace K32W
open PySem PySem.Spec PyProof.Rows L2 KH K32 KD
abbrev s_law_phases : Stmt := topS 26
theorem sc_law_phases : FnScope ["period", "lines", "joints", "phases", "line", "k", "index", "i", "j", "diff"] ["period", "lines", "joints"] (defScope s_law_phases) := ⟨rfl, rfl, rfl, by decide +kernel, rfl, by decide +kernel, by decide +kernel⟩

theorem ixn {n k : Nat} (h : k < n) : ixN n (k : Int) = some k := by
  unfold ixN
  rw [if_pos (by omega), if_pos (by omega)]
  rfl
theorem set_IL (l : List Int) (k : Nat) (x : Int) : (IL l).set k (V.int x) = IL (l.set k x) := by
  unfold IL
  rw [List.map_set]
theorem _root_.K32.St.pot {sums : SM} {m : Int} {t : Nat} {js : List J} (h : K32.St sums m t js) : ∃ p, Pot sums m js p := by
  classical
  induction h with
  | zero => exact ⟨fun _ => 0, fun e he => by cases he⟩
  | @add t js i j d h' hs nc ih =>
    obtain ⟨p, hp⟩ := ih
    refine ⟨fun v => if Conn js j v then p v + (p i + d - p j) else p v, fun e he => ?_⟩
    rcases List.mem_append.mp he with he | he
    · obtain ⟨k, ek⟩ := hp e he
      dsimp only
      by_cases c : Conn js j e.i
      · rw [if_pos c, if_pos ((Conn.edge he _).mp c)]
        exact ⟨k, by omega⟩
      · rw [if_neg c, if_neg (fun z => c ((Conn.edge he _).mpr z))]
        exact ⟨k, by omega⟩
    · rw [List.mem_singleton.mp he]
      show Cg m ((if Conn js j i then p i + (p i + d - p j) else p i) + dif sums t) (if Conn js j j then p j + (p i + d - p j) else p j)
      rw [if_neg (fun z => nc z.symm), if_pos .refl, dif_at hs]
      exact ⟨0, by rw [Int.mul_zero]; omega⟩
  | old _ _ _ _ _ ih => exact ih
/-! ### phases from the joints -/
abbrev setP (q : List Int) : Nat → Bool := fun v => decide (0 ≤ (q[v]?).getD (-1))
structure PH (m : Int) (n : Nat) (js : List J) (p : Nat → Int) (q : List Int) : Prop where
  len : q.length = n
  at_ : ∀ (v : Nat) (z : Int), q[v]? = some z → z = -1 ∨ ∃ r, Conn js r v ∧ (∀ u, Conn js u v → r ≤ u) ∧ z = (p v - p r).fmod m
theorem setP_at {q : List Int} {v : Nat} {z : Int} (h : q[v]? = some z) : setP q v = decide (0 ≤ z) := by
  unfold setP
  rw [h]
  rfl
theorem PH.set {m : Int} {n : Nat} {js : List J} {p : Nat → Int} {q : List Int} (h : PH m n js p q) {v r : Nat} (hv : v < n) (c : Conn js r v) (l : ∀ u, Conn js u v → r ≤ u) : PH m n js p (q.set v ((p v - p r).fmod m)) := by
  refine ⟨by rw [List.length_set]; exact h.len, fun w z hz => ?_⟩
  rw [List.getElem?_set] at hz
  by_cases e : v = w
  · subst e
    rw [if_pos rfl, if_pos (by rw [h.len]; exact hv)] at hz
    cases hz
    exact .inr ⟨r, c, l, rfl⟩
  · rw [if_neg e] at hz
    exact h.at_ w z hz
theorem setP_set {m : Int} (hm : 0 < m) {q : List Int} {v : Nat} {x : Int} (hv : v < q.length) : setP (q.set v (x.fmod m)) v = true := by
  refine (setP_at (z := x.fmod m) ?_).trans (decide_eq_true (Int.fmod_nonneg_of_pos x hm))
  rw [List.getElem?_set, if_pos rfl, if_pos hv]
theorem setP_up {m : Int} (hm : 0 < m) {q : List Int} {v : Nat} {x : Int} (hv : v < q.length) (u : Nat) (h : setP q u = true) : setP (q.set v (x.fmod m)) u = true := by
  by_cases e : v = u
  · subst e
    exact setP_set hm hv
  · unfold setP at h ⊢
    rw [List.getElem?_set, if_neg e]
    exact h
section
variable {P : Program} {w : World} {K : PySem.W.Frag} {mg : Str → Option Value} {base : Heap} {CN CB CD CT CU fI : Addr}
def sp_phases (K : PySem.W.Frag) : Sp := fun vs H Q _ => ∃ (a : Addr) (us : List V) (sums : SM) (m : Int) (js : List J) (n : Nat) (p : Nat → Int), vs = [.int m, nV n, .ref a] ∧ SqL K H a us ∧ JQ sums K H us js ∧ js.length ≤ 100 ∧ n ≤ 100 ∧ (∀ e ∈ js, e.i < n ∧ e.j < n) ∧ 0 < m ∧ Pot sums m js p ∧
  ∀ R x H', Same H H' → H x = none → H' x = some (.lst (IL R)) → Phs m n js p R → Q (.ref x) H'
theorem ok_phases {f : Addr} {fd : FuncData} (F : Fun K "_law_phases" "_law_phases" s_law_phases f fd) (T : Txt mg) : FnOk P w K mg base CX0 1 f fd ["period", "lines", "joints"] (sp_phases K) := by
  refine F.ok sc_law_phases (fun vs H Q E h => ?_) (fun cdv A outer s H vs Q E hr h => ?_)
  · obtain ⟨a, us, sums, m, js, n, p, rfl, _⟩ := h
    rfl
  · obtain ⟨a, us, sums, m, js, n, p, rfl, hS, hJ, hl, hn, bd, hm, hp, q⟩ := h
    refine ⟨_, (pss_cons (ps_setLc (i := 3) (own := [("line", 4)]) (g := gName 4) (tt := tYes) rfl sc_law_phases.nd rfl rfl (sw_true rfl rfl rfl (by decide +kernel)) (pi_range1 rfl T.range (pa_cons (pv 1) pa_nil)) (blkOk_by (N := ["period", "lines", "joints", "phases", "line", "k", "index", "i", "j", "diff"]) (sc := defScope s_law_phases) (by decide +kernel)) (fun _ _ _ _ _ => (pg_name (i := 4) sc_law_phases.nd rfl (.inl rfl))) (fun _ _ _ _ _ => pts_nil) (fun _ _ _ _ _ => (pe_un un_neg pe_int)))
 (pss_cons (ps_for PassesOwn.never rfl (pi_range1 rfl T.range (pa_cons (pv 1) pa_nil)) (pg_name (i := 4) sc_law_phases.nd rfl (.inl rfl))
 (pss_one (ps_if (pt_cmpR op_lt (pe_ix ix_list (pv 3) (pv 4) (fun _ _ => rfl)) pe_int (nomark _))
 (pss_cons (ps_asg pe_int (pg_sub (pv 3) (pv 4) set_list))
 (pss_one (ps_for PassesOwn.never rfl (pi_range1 rfl T.range (pa_cons (pe_callB call_len_seq (by rfl) T.len (by decide +kernel) (pa_cons (pv 2) pa_nil)) pa_nil)) (pg_name (i := 5) sc_law_phases.nd rfl (.inl rfl))
 (pss_one (ps_for PassesOwn.never rfl (pi_list (pv 2)) (pg_tup rfl (pgs_cons (pg_name (i := 6) sc_law_phases.nd rfl (.inl rfl)) (pgs_cons (pg_name (i := 7) sc_law_phases.nd rfl (.inl rfl)) (pgs_cons (pg_name (i := 8) sc_law_phases.nd rfl (.inl rfl)) (pgs_cons (pg_name (i := 9) sc_law_phases.nd rfl (.inl rfl)) pgs_nil)))))
 (pss_cons (ps_if (PW.pt (pw_and (pt_cmpR op_ge (pe_ix ix_list (pv 3) (pv 7) (fun _ _ => rfl)) pe_int (nomark _)) (pw_and1 (pt_cmpR op_lt (pe_ix ix_list (pv 3) (pv 8) (fun _ _ => rfl)) pe_int (nomark _)))))
 (pss_one (ps_asg (pe_op op_modN (pe_callTy call_int1 (by rfl) T.int (by decide +kernel) (pa_cons (pe_op op_add (pe_ix ix_list (pv 3) (pv 7) (fun _ _ => rfl)) (pv 9)) pa_nil)) (pv 0)) (pg_sub (pv 3) (pv 8) set_list)))
 pss_nil)
 (pss_one (ps_if (PW.pt (pw_and (pt_cmpR op_ge (pe_ix ix_list (pv 3) (pv 8) (fun _ _ => rfl)) pe_int (nomark _)) (pw_and1 (pt_cmpR op_lt (pe_ix ix_list (pv 3) (pv 7) (fun _ _ => rfl)) pe_int (nomark _)))))
 (pss_one (ps_asg (pe_op op_modN (pe_callTy call_int1 (by rfl) T.int (by decide +kernel) (pa_cons (pe_op op_sub (pe_ix ix_list (pv 3) (pv 8) (fun _ _ => rfl)) (pv 9)) pa_nil)) (pv 0)) (pg_sub (pv 3) (pv 7) set_list)))
 pss_nil))))))))
 pss_nil)))
 (pss_one (ps_ret (pv 3))))), ?_⟩
    have hlu : us.length = js.length := P_len hJ
    refine ⟨_, rfl, _, rfl, (by omega), (by omega), ?_⟩
    rw [show ((n : Nat) : Int).toNat = n by omega]
    refine fun x nx => ?_
    refine lc_range (lo := 0) (n := n) (fun i H' => Same H H' ∧ H' x = some (.lst (IL (List.replicate i (-1))))) ⟨(Same.refl H).new nx, upd_same⟩ ?_ ?_
    · rintro i H1 hi ⟨s1, ex⟩
      refine ⟨rfl, _, rfl, _, ex, ?_, s1.mut nx, ?_⟩
      · rw [List.length_map, List.length_replicate]
        exact szl (by omega)
      · rw [upd_same, List.replicate_succ', IL_snoc]
    rintro H1 ⟨s1, ex⟩
    -- for line in range(lines)
    refine ⟨_, rfl, _, rfl, (by omega), (by omega), ?_⟩
    rw [show ((n : Nat) : Int).toNat = n by omega]
    refine for_range (lo := 0) (n := n) (fun t σ H' => ∃ (R : List Int) (v4 v5 v6 v7 v8 v9 : Option V), σ = [some (.int m), some (nV n), some (.ref a), some (.ref x), v4, v5, v6, v7, v8, v9] ∧ Same H H' ∧ H' x = some (.lst (IL R)) ∧ PH m n js p R ∧ (∀ e ∈ js, setP R e.i = setP R e.j) ∧ ∀ v, v < t → setP R v = true)
      ⟨_, _, _, _, _, _, _, rfl, s1, ex, ⟨List.length_replicate, fun v z hz => .inl ?_⟩, fun e he => ?_, fun v hv => absurd hv (Nat.not_lt_zero v)⟩ ?_ ?_
    · rw [List.getElem?_replicate] at hz
      split at hz
      · exact (Option.some.inj hz).symm
      · cases hz
    · obtain ⟨b1, b2⟩ := bd e he
      unfold setP
      rw [List.getElem?_replicate, List.getElem?_replicate, if_pos b1, if_pos b2]
    · rintro t σ H2 ht ⟨R, v4, v5, v6, v7, v8, v9, rfl, s2, ex, ph, cl, low⟩
      rw [show (0 : Int) + (t : Int) = (t : Int) by omega]
      obtain ⟨z, hz⟩ := get_lt (l := R) (i := t) (by rw [ph.len]; exact ht)
      refine ⟨_, rfl, _, rfl, ixl (SqL.of ex) (at_n (getn hz)) ⟨_, _, rfl, rfl, _, rfl, ?_⟩⟩
      by_cases neg : z < 0
      · rw [decide_eq_true neg]
        refine iteT ?_
        have unset : setP R t = false := by rw [setP_at hz]; exact decide_eq_false (by omega)
        have least : ∀ u, Conn js u t → t ≤ u := fun u c => by
          refine Nat.le_of_not_lt fun h => ?_
          have := c.closed cl (low u h)
          rw [unset] at this
          cases this
        have e0 : (0 : Int) = (p t - p t).fmod m := by rw [Int.sub_self, Int.zero_fmod]
        refine ⟨_, rfl, _, rfl, x, _, (t : Int), t, rfl, rfl, ex, ixn (by rw [List.length_map, ph.len]; exact ht), ?_⟩
        rw [set_IL]
        have ph1 := ph.set ht .refl least
        rw [← e0] at ph1
        have up1 : ∀ u, setP R u = true → setP (R.set t 0) u = true := fun u hu => by
          rw [e0]
          exact setP_up hm (by rw [ph.len]; exact ht) u hu
        have at1 : setP (R.set t 0) t = true := by
          rw [e0]
          exact setP_set hm (by rw [ph.len]; exact ht)
        have s3 : Same H (upd H2 x (.lst (IL (R.set t 0)))) := s2.mut nx
        have ex3 : (upd H2 x (.lst (IL (R.set t 0)))) x = some (.lst (IL (R.set t 0))) := upd_same
        generalize upd H2 x (.lst (IL (R.set t 0))) = H3 at s3 ex3 ⊢
        refine ⟨_, rfl, a, _, rfl, .inl (s3.seq hS), _, rfl, (by omega), (by omega), ?_⟩
        rw [show ((us.length : Nat) : Int).toNat = js.length by omega]
        refine for_range (lo := 0) (n := js.length) (fun k σ H' => ∃ (R' : List Int) (v5 v6 v7 v8 v9 : Option V), σ = [some (.int m), some (nV n), some (.ref a), some (.ref x), some (nV t), v5, v6, v7, v8, v9] ∧ Same H H' ∧ H' x = some (.lst (IL R')) ∧ PH m n js p R' ∧ (∀ u, setP (R.set t 0) u = true → setP R' u = true) ∧ ((∀ e ∈ js, setP R' e.i = setP R' e.j) ∨ k ≤ inner js (setP R')))
          ⟨R.set t 0, v5, v6, v7, v8, v9, rfl, s3, ex3, ph1, fun u h => h, .inr (Nat.zero_le _)⟩ ?_ ?_
        · rintro k σ H4 hk ⟨R0, v5, v6, v7, v8, v9, rfl, s4, ex4, ph4, up4, inn⟩
          refine ⟨_, rfl, a, rfl, ⟨_, s4.seq hS⟩, for_list (K := K) (a := a) (xs := us) (fun y σ H' => ∃ (R' : List Int) (v6 v7 v8 v9 : Option V), σ = [some (.int m), some (nV n), some (.ref a), some (.ref x), some (nV t), some (nV k), v6, v7, v8, v9] ∧ Same H H' ∧ H' x = some (.lst (IL R')) ∧ PH m n js p R' ∧ Round js (setP R0) (setP R') y ∧ ((∀ e ∈ js, setP R0 e.i = setP R0 e.j) → setP R' = setP R0))
            ⟨R0, v6, v7, v8, v9, by rw [Int.zero_add]; rfl, s4, ex4, ph4, .start _ _, fun _ => rfl⟩ (fun y σ H' _ ⟨_, _, _, _, _, _, sm, _⟩ => sm.seq hS) ?_ ?_⟩
          · rintro y y' σ H5 hy ⟨R', v6, v7, v8, v9, rfl, s5, ex5, ph5, rd, keep⟩
            obtain ⟨e, he, tt, rfl, et⟩ := P_right hJ hy
            have hme := List.mem_of_getElem? he
            obtain ⟨bi, bj⟩ := bd e hme
            obtain ⟨zi, hzi⟩ := get_lt (l := R') (i := e.i) (by rw [ph5.len]; exact bi)
            obtain ⟨zj, hzj⟩ := get_lt (l := R') (i := e.j) (by rw [ph5.len]; exact bj)
            have pi := setP_at hzi
            have pj := setP_at hzj
            refine ⟨tt, _, rfl, s5.seqT et, rfl, _, _, rfl, _, _, rfl, _, _, rfl, _, _, rfl, rfl, ?_⟩
            have vi := at_n (getn (f := V.int) hzi)
            have vj := at_n (getn (f := V.int) hzj)
            have conn := Conn.fwd (js := js) (u := e.i) .refl hme
            by_cases ci : 0 ≤ zi
            · rw [decide_eq_true ci] at pi
              refine ⟨_, rfl, _, rfl, ixl (SqL.of ex5) vi ⟨_, _, rfl, rfl, _, rfl, ?_⟩⟩
              rw [decide_eq_true (show zi ≥ 0 from ci)]
              refine iteT ⟨_, rfl, _, rfl, ixl (SqL.of ex5) vj ⟨_, _, rfl, rfl, _, rfl, ?_⟩⟩
              by_cases cj : 0 ≤ zj
              · rw [decide_eq_true cj] at pj
                rw [decide_eq_false (show ¬ zj < 0 by omega)]
                refine iteF ?_
                refine ⟨_, rfl, _, rfl, ixl (SqL.of ex5) vj ⟨_, _, rfl, rfl, _, rfl, ?_⟩⟩
                rw [decide_eq_true (show zj ≥ 0 from cj)]
                refine iteT ⟨_, rfl, _, rfl, ixl (SqL.of ex5) vi ⟨_, _, rfl, rfl, _, rfl, ?_⟩⟩
                rw [decide_eq_false (show ¬ zi < 0 by omega)]
                exact iteF ⟨R', _, _, _, _, rfl, s5, ex5, ph5, rd.stay he (pi.trans pj.symm), keep⟩
              · rw [decide_eq_false cj] at pj
                rw [decide_eq_true (show zj < 0 by omega)]
                refine iteT ?_
                obtain ⟨r, r1, r2, r3⟩ := (ph5.at_ _ _ hzi).resolve_left (by omega)
                have ev : (zi + dif sums e.ix).fmod m = (p e.j - p r).fmod m := by
                  refine (Cg.fmod hm).mp ?_
                  obtain ⟨k1, e1⟩ := Cg.self hm (p e.i - p r)
                  obtain ⟨k2, e2⟩ := hp e hme
                  rw [← r3] at e1
                  exact ⟨k1 + k2, by rw [Int.mul_add]; omega⟩
                have c2 : Conn js r e.j := r1.trans conn
                have ph6 := ph5.set (v := e.j) (by omega) c2 fun u c => r2 u (c.trans (Conn.symm conn))
                rw [← ev] at ph6
                have hlR : e.j < R'.length := by rw [ph5.len]; omega
                have s6 : Same H (upd H5 x (.lst (IL (R'.set e.j ((zi + dif sums e.ix).fmod m))))) := s5.mut nx
                have ex6 : (upd H5 x (.lst (IL (R'.set e.j ((zi + dif sums e.ix).fmod m))))) x = some (.lst (IL (R'.set e.j ((zi + dif sums e.ix).fmod m)))) := upd_same
                have upx := fun u h => setP_up (x := zi + dif sums e.ix) hm hlR u h
                have atx := setP_set (x := zi + dif sums e.ix) hm hlR
                refine ⟨_, rfl, _, rfl, ixl (SqL.of ex5) vi ⟨_, rfl, _, _, rfl, rfl, .inl ⟨_, rfl, _, rfl, _, _, rfl, rfl, (by show m ≠ 0; omega), _, rfl, _, rfl, x, _, (e.j : Int), e.j, rfl, rfl, ex5, ixn (by rw [List.length_map]; exact hlR), ?_⟩⟩⟩
                rw [set_IL]
                generalize upd H5 x (.lst (IL (R'.set e.j ((zi + dif sums e.ix).fmod m)))) = H6 at s6 ex6 ⊢
                generalize eR : R'.set e.j ((zi + dif sums e.ix).fmod m) = R2 at ph6 ex6 upx atx
                obtain ⟨z2, hz2⟩ := get_lt (l := R2) (i := e.j) (by rw [ph6.len]; exact bj)
                have p2 := setP_at hz2
                rw [atx] at p2
                obtain ⟨z3, hz3⟩ := get_lt (l := R2) (i := e.i) (by rw [ph6.len]; exact bi)
                have p3 := setP_at hz3
                rw [upx _ pi] at p3
                have p2 := of_decide_eq_true p2.symm
                have p3 := of_decide_eq_true p3.symm
                refine ⟨_, rfl, _, rfl, ixl (SqL.of ex6) (at_n (getn hz2)) ⟨_, _, rfl, rfl, _, rfl, ?_⟩⟩
                rw [decide_eq_true (show z2 ≥ 0 from p2)]
                refine iteT ⟨_, rfl, _, rfl, ixl (SqL.of ex6) (at_n (getn hz3)) ⟨_, _, rfl, rfl, _, rfl, ?_⟩⟩
                rw [decide_eq_false (show ¬ z3 < 0 by omega)]
                refine iteF ⟨R2, _, _, _, _, rfl, s6, ex6, ph6, rd.grow he ?_ ?_ upx, fun c => ?_⟩
                · rw [pi, pj]; rfl
                · rw [upx _ pi, atx]; rfl
                · have := c e hme
                  rw [← keep c, pi, pj] at this
                  cases this
            · rw [decide_eq_false ci] at pi
              refine ⟨_, rfl, _, rfl, ixl (SqL.of ex5) vi ⟨_, _, rfl, rfl, _, rfl, ?_⟩⟩
              rw [decide_eq_false (show ¬ zi ≥ 0 from ci)]
              refine iteF (iteF ?_)
              refine ⟨_, rfl, _, rfl, ixl (SqL.of ex5) vj ⟨_, _, rfl, rfl, _, rfl, ?_⟩⟩
              by_cases cj : 0 ≤ zj
              · rw [decide_eq_true cj] at pj
                rw [decide_eq_true (show zj ≥ 0 from cj)]
                refine iteT ⟨_, rfl, _, rfl, ixl (SqL.of ex5) vi ⟨_, _, rfl, rfl, _, rfl, ?_⟩⟩
                rw [decide_eq_true (show zi < 0 by omega)]
                refine iteT ?_
                obtain ⟨r, r1, r2, r3⟩ := (ph5.at_ _ _ hzj).resolve_left (by omega)
                have ev : (zj - dif sums e.ix).fmod m = (p e.i - p r).fmod m := by
                  refine (Cg.fmod hm).mp ?_
                  obtain ⟨k1, e1⟩ := Cg.self hm (p e.j - p r)
                  obtain ⟨k2, e2⟩ := hp e hme
                  rw [← r3] at e1
                  exact ⟨k1 - k2, by rw [Int.mul_sub]; omega⟩
                have c2 : Conn js r e.i := r1.trans conn.symm
                have ph6 := ph5.set (v := e.i) (by omega) c2 fun u c => r2 u (c.trans (Conn.symm conn.symm))
                rw [← ev] at ph6
                have hlR : e.i < R'.length := by rw [ph5.len]; omega
                have s6 : Same H (upd H5 x (.lst (IL (R'.set e.i ((zj - dif sums e.ix).fmod m))))) := s5.mut nx
                have ex6 : (upd H5 x (.lst (IL (R'.set e.i ((zj - dif sums e.ix).fmod m))))) x = some (.lst (IL (R'.set e.i ((zj - dif sums e.ix).fmod m)))) := upd_same
                have upx := fun u h => setP_up (x := zj - dif sums e.ix) hm hlR u h
                have atx := setP_set (x := zj - dif sums e.ix) hm hlR
                refine ⟨_, rfl, _, rfl, ixl (SqL.of ex5) vj ⟨_, rfl, _, _, rfl, rfl, .inl ⟨_, rfl, _, rfl, _, _, rfl, rfl, (by show m ≠ 0; omega), _, rfl, _, rfl, x, _, (e.i : Int), e.i, rfl, rfl, ex5, ixn (by rw [List.length_map]; exact hlR), ?_⟩⟩⟩
                rw [set_IL]
                refine ⟨_, _, _, _, _, rfl, s6, ex6, ph6, rd.grow he ?_ ?_ upx, fun c => ?_⟩
                · rw [pi, pj]; rfl
                · rw [upx _ pj, atx]; rfl
                · have := c e hme
                  rw [← keep c, pi, pj] at this
                  cases this
              · rw [decide_eq_false cj] at pj
                rw [decide_eq_false (show ¬ zj ≥ 0 from cj)]
                exact iteF (iteF ⟨R', _, _, _, _, rfl, s5, ex5, ph5, rd.stay he (pi.trans pj.symm), keep⟩)
          · rintro σ H5 ⟨R', v6, v7, v8, v9, rfl, s5, ex5, ph5, rd, keep⟩
            rw [hlu] at rd
            refine ⟨R', _, _, _, _, _, rfl, s5, ex5, ph5, fun u h => rd.up _ (up4 u h), ?_⟩
            rcases inn with c | c
            · left
              rw [keep c]
              exact c
            · rcases rd.done with h | ⟨h, h2⟩
              · exact .inr (by omega)
              · exact .inl h2
        · rintro σ H4 ⟨R', v5, v6, v7, v8, v9, rfl, s4, ex4, ph4, up4, inn⟩
          refine ⟨R', _, _, _, _, _, _, rfl, s4, ex4, ph4, ?_, fun v hv => ?_⟩
          · rcases inn with c | c
            · exact c
            · exact inner_full c
          · by_cases q : v = t
            · subst q
              exact up4 _ at1
            · exact up4 _ (up1 _ (low v (by omega)))
      · rw [decide_eq_false neg]
        refine iteF ⟨R, _, _, _, _, _, _, rfl, s2, ex, ph, cl, fun v hv => ?_⟩
        by_cases q : v = t
        · subst q
          rw [setP_at hz]
          exact decide_eq_true (by omega)
        · exact low v (by omega)
    · rintro σ H2 ⟨R, v4, v5, v6, v7, v8, v9, rfl, s2, ex, ph, cl, low⟩
      refine ⟨_, rfl, q R x H2 s2 nx ex ⟨ph.len, fun v hv => ?_⟩⟩
      obtain ⟨z, hz⟩ := get_lt (l := R) (i := v) (by rw [ph.len]; exact hv)
      have h1 := low v hv
      rw [setP_at hz] at h1
      have h1 := of_decide_eq_true h1
      obtain ⟨r, r1, r2, r3⟩ := (ph.at_ v z hz).resolve_left (by omega)
      exact ⟨r, r1, r2, by rw [hz, r3]⟩
end
end K32W

namespace K32W
open PySem PySem.Spec PyProof.Rows L2 KH K32 KD
abbrev s_law_due : Stmt := topS 27
theorem sc_law_due : FnScope ["period", "lines", "sums", "joints", "index", "i", "j", "diff", "way", "total", "place", "sign"] ["period", "lines", "sums"] (defScope s_law_due) := ⟨rfl, rfl, rfl, by decide +kernel, rfl, by decide +kernel, by decide +kernel⟩

theorem tot_take {sums : SM} {l : List (Nat × Int)} {i : Nat} {q : Nat × Int} (h : l[i]? = some q) : tot sums (l.take (i + 1)) = tot sums (l.take i) + q.2 * dif sums q.1 := by
  rw [take_more h, tot_snoc]
theorem sgb (s : K32.Step) : -(2 ^ 64) < s.sg ∧ s.sg < 2 ^ 64 := by
  unfold Step.sg
  split <;> decide
section
variable {P : Program} {w : World} {K : PySem.W.Frag} {mg : Str → Option Value} {base : Heap} {CN CB CD CT CU fI : Addr}
def sp_due (K : PySem.W.Frag) : Sp := fun vs H Q _ => ∃ (a : Addr) (us : List V) (sums : SM) (m : Int) (n : Nat), vs = [.int m, nV n, .ref a] ∧ SqL K H a us ∧ Trs K H us (upS sums) ∧ sums.length ≤ 100 ∧ n ≤ 100 ∧ (∀ q ∈ sums, q.1 < n ∧ q.2.1 < n) ∧ 0 < m ∧
  ∀ o t x H', Due sums m n o → Same H H' → Told H H' t x o → Q (.ref t) H'
theorem ok_due {f f1 f2 f3 : Addr} {fd fd1 fd2 fd3 : FuncData} (F : Fun K "_law_due" "_law_due" s_law_due f fd) (T : Txt mg) (C_law_joined : Cal P w K mg base 1 "_law_joined" ["joints", "line"] (sp_joined K) f1 fd1) (C_law_way : Cal P w K mg base 2 "_law_way" ["joints", "here", "goal"] (sp_way K) f2 fd2)
    (C_law_phases : Cal P w K mg base 1 "_law_phases" ["period", "lines", "joints"] (sp_phases K) f3 fd3) : FnOk P w K mg base CX0 3 f fd ["period", "lines", "sums"] (sp_due K) := by
  refine F.ok sc_law_due (fun vs H Q E h => ?_) (fun cdv A outer s H vs Q E hr h => ?_)
  · obtain ⟨a, us, sums, m, n, rfl, _⟩ := h
    rfl
  · obtain ⟨a, us, sums, m, n, rfl, hS, hT, hl, hn, bd, hm, q⟩ := h
    refine ⟨_, (pss_cons (ps_set (i := 3) sc_law_due.nd rfl (.inl rfl) (pe_lst pa_nil))
 (pss_cons (ps_for PassesOwn.never rfl (pi_range1 rfl T.range (pa_cons (pe_callB call_len_seq (by rfl) T.len (by decide +kernel) (pa_cons (pv 2) pa_nil)) pa_nil)) (pg_name (i := 4) sc_law_due.nd rfl (.inl rfl))
 (pss_cons (ps_asg (pe_ix ix_list (pv 2) (pv 4) (fun _ _ => rfl)) (pg_tup rfl (pgs_cons (pg_name (i := 5) sc_law_due.nd rfl (.inl rfl)) (pgs_cons (pg_name (i := 6) sc_law_due.nd rfl (.inl rfl)) (pgs_cons (pg_name (i := 7) sc_law_due.nd rfl (.inl rfl)) pgs_nil)))))
 (pss_one (ps_if (pt_cmpR op_notIn_seq (pv 6) (pe_call C_law_joined.ok (hr.mono (by decide)) (by rfl) C_law_joined.mg C_law_joined.kp C_law_joined.b .nil pass0 (pa_cons (pv 3) (pa_cons (pv 5) pa_nil))) (by rfl))
 (pss_one (ps_expr (pe_bm PySem.F.plainAttrs_list PySem.F.slot_list_append PySem.F.type_list_append mt_append (pv 3) (pa_cons (pe_tup (pa_cons (pv 4) (pa_cons (pv 5) (pa_cons (pv 6) (pa_cons (pv 7) pa_nil))))) pa_nil))))
 (pss_cons (ps_set (i := 8) sc_law_due.nd rfl (.inl rfl) (pe_call C_law_way.ok (hr.mono (by decide)) (by rfl) C_law_way.mg C_law_way.kp C_law_way.b .nil pass0 (pa_cons (pv 3) (pa_cons (pv 6) (pa_cons (pv 5) pa_nil)))))
 (pss_cons (ps_set (i := 9) sc_law_due.nd rfl (.inl rfl) (pv 7))
 (pss_cons (ps_for PassesOwn.never rfl (pi_list (pv 8)) (pg_tup rfl (pgs_cons (pg_name (i := 10) sc_law_due.nd rfl (.inl rfl)) (pgs_cons (pg_name (i := 11) sc_law_due.nd rfl (.inl rfl)) pgs_nil)))
 (pss_one (ps_set (i := 9) sc_law_due.nd rfl (.inl rfl) (pe_op op_add (pv 9) (pe_op op_mul (pv 11) (pe_ix ix_tup (pe_ix ix_list (pv 2) (pv 10) (fun _ _ => rfl)) pe_int (fun _ _ => rfl)))))))
 (pss_one (ps_if (pt_cmpR op_ne (pe_op op_modN (pe_callTy call_int1 (by rfl) T.int (by decide +kernel) (pa_cons (pv 9) pa_nil)) (pv 0)) pe_int (nomark _))
 (pss_one (ps_ret (pe_tup (pa_cons pe_str (pa_cons (pe_op op_cat (pe_lst (pa_cons (pe_tup (pa_cons (pv 4) (pa_cons pe_int pa_nil))) pa_nil)) (pv 8)) pa_nil)))))
 pss_nil)))))))))
 (pss_one (ps_ret (pe_tup (pa_cons pe_str (pa_cons (pe_call C_law_phases.ok (hr.mono (by decide)) (by rfl) C_law_phases.mg C_law_phases.kp C_law_phases.b .nil pass0 (pa_cons (pv 0) (pa_cons (pv 1) (pa_cons (pv 3) pa_nil)))) pa_nil))))))), ?_⟩
    have hlu : us.length = sums.length := by rw [P_len hT, upS_len]
    refine ⟨Nat.zero_le _, fun j nj => ?_⟩
    have s0 : Same H (upd H j (.lst [])) := (Same.refl H).new nj
    refine ⟨_, rfl, a, _, rfl, .inl (s0.seq hS), _, rfl, (by omega), (by omega), ?_⟩
    rw [show ((us.length : Nat) : Int).toNat = sums.length by omega]
    refine for_range (lo := 0) (n := sums.length) (fun t σ H' => ∃ (js : List J) (jv : List V) (v4 v5 v6 v7 v8 v9 v10 v11 : Option V), σ = [some (.int m), some (nV n), some (.ref a), some (.ref j), v4, v5, v6, v7, v8, v9, v10, v11] ∧ Same H H' ∧ H' j = some (.lst jv) ∧ JQ sums K H' jv js ∧ St sums m t js)
      ⟨[], [], none, none, none, none, none, none, none, none, rfl, s0, upd_same, .nil, .zero⟩ ?_ ?_
    · rintro t σ H1 ht ⟨js, jv, v4, v5, v6, v7, v8, v9, v10, v11, rfl, s1, ej, hJ, st⟩
      rw [show (0 : Int) + (t : Int) = (t : Int) by omega]
      obtain ⟨⟨i, k, d⟩, hs⟩ := get_lt ht
      obtain ⟨bi, bk⟩ := bd _ (List.mem_of_getElem? hs)
      dsimp only at bi bk
      obtain ⟨u, hu, tq, rfl, etq⟩ := P_left hT (show (upS sums)[t]? = some ((i : Int), (k : Int), d) by unfold upS; rw [List.getElem?_map, hs]; rfl)
      have ed := dif_at hs
      have hlj := st.len
      have bdj := st.bd bd
      refine ⟨_, rfl, _, rfl, ixl (s1.seq hS) (at_n hu) ⟨tq, _, rfl, s1.seqT etq, rfl, _, _, rfl, _, _, rfl, _, _, rfl, rfl, ?_⟩⟩
      refine ⟨_, rfl, _, rfl, _, rfl, j, jv, js, n, i, rfl, SqL.of ej, hJ.jj, by omega, hn, bdj, bi, fun gs x H2 s2 nx ex giff => ?_⟩
      refine ⟨x, _, rfl, .inl (SqL.of ex), rfl, flat_n _, _, rfl, ?_⟩
      rw [in_n]
      have s12 := s1.trans s2
      have ej2 := s2 _ _ ej
      have hJ2 := hJ.same s2
      by_cases c : k ∈ gs
      · rw [show gs.contains k = true by simpa using c]
        have cn : Conn js i k := (giff k).mp c
        obtain ⟨p, hp⟩ := st.pot
        refine iteF ?_
        refine ⟨_, rfl, _, rfl, _, rfl, j, jv, sums, m, t, js, n, k, i, rfl, SqL.of ej2, hJ2, by omega, hn, bdj, st, bk, cn.symm, fun W y H3 way s3 ny tel => ?_⟩
        obtain ⟨tv, ey, tp⟩ := tel
        have s13 := s12.trans s3
        obtain ⟨wvs, pth⟩ := way
        have htl : (tell W).length = W.length := by unfold tell; rw [List.length_map]
        refine ⟨_, rfl, ?_⟩
        refine ⟨_, rfl, y, rfl, ⟨_, SqL.of ey⟩, for_list (K := K) (a := y) (xs := tv) (fun z σ H' => ∃ (v10 v11 : Option V), σ = [some (.int m), some (nV n), some (.ref a), some (.ref j), some (nV t), some (nV i), some (nV k), some (.int d), some (.ref y), some (.int (d + tot sums ((tell W).take z))), v10, v11] ∧ H' = H3)
          ⟨v10, v11, by rw [List.take_zero, show tot sums [] = 0 from rfl, Int.add_zero]; rfl, rfl⟩ (fun z σ H' _ ⟨_, _, _, e⟩ => by rw [e]; exact SqL.of ey) ?_ ?_⟩
        · rintro z u σ H' hz ⟨v10, v11, rfl, rfl⟩
          obtain ⟨q2, hq, t2, rfl, e2⟩ := P_right tp hz
          obtain ⟨s', hs', rfl⟩ := getn_inv (f := fun s : K32.Step => (s.e.ix, s.sg)) hq
          have hje := (pth.step z s' hs').1
          have hse := (st.at _ hje).2
          obtain ⟨u2, hu2, t3, rfl, et3⟩ := P_left hT (show (upS sums)[s'.e.ix]? = some ((s'.e.i : Int), (s'.e.j : Int), dif sums s'.e.ix) by unfold upS; rw [List.getElem?_map, hse]; rfl)
          refine ⟨t2, _, rfl, SqT.of e2, rfl, _, _, rfl, _, _, rfl, rfl, ?_⟩
          refine ⟨_, rfl, _, rfl, _, rfl, _, rfl, ixl (s13.seq hS) (at_n hu2) ⟨t3, _, 2, .int (dif sums s'.e.ix), rfl, rfl, s13.seqT et3, rfl, _, _, rfl, rfl, .inl (sgb s'), _, _, rfl, rfl, ?_⟩⟩
          refine ⟨some (nV s'.e.ix), some (.int s'.sg), ?_, rfl⟩
          rw [tot_take hq, ← Int.add_assoc]
          rfl
        rintro σ H' ⟨v10, v11, rfl, rfl⟩
        rw [P_len tp, List.take_length]
        have key : (d + tot sums (tell W)).fmod m = 0 ↔ Cg m (p i + d) (p k) := by
          obtain ⟨x1, e1⟩ := pth.adds hp
          rw [show d + tot sums (tell W) = d + tot sums (tell W) - 0 by omega, Cg.zero hm]
          constructor
          · rintro ⟨x2, e2⟩
            exact ⟨x2 - x1, by rw [Int.mul_sub]; omega⟩
          · rintro ⟨x2, e2⟩
            exact ⟨x2 + x1, by rw [Int.mul_add]; omega⟩
        refine ⟨_, rfl, .inl ⟨_, rfl, _, rfl, _, _, rfl, rfl, (by show m ≠ 0; omega), rfl, _, rfl, ?_⟩⟩
        by_cases z0 : (d + tot sums (tell W)).fmod m = 0
        · rw [decide_eq_true (show V.int ((d + tot sums (tell W)).fmod m) = V.int 0 by rw [z0])]
          exact iteF ⟨js, jv, _, _, _, _, _, _, _, _, rfl, s13, s3 _ _ ej2, hJ2.same s3, .old st hs cn hp (key.mp z0)⟩
        · rw [decide_eq_false (show ¬ V.int ((d + tot sums (tell W)).fmod m) = V.int 0 from fun z => z0 (V.int.inj z))]
          refine iteT ⟨_, rfl, (by show 2 ≤ sizeLine; decide), fun t1 n1 => ⟨(by show 1 ≤ sizeLine; decide), fun l1 nl1 => ⟨_, rfl, ?_⟩⟩⟩
          have s4 : Same H' (upd H' t1 (.tup [nV t, .int 1])) := (Same.refl H').new n1
          have et1 : (upd H' t1 (.tup [nV t, .int 1])) t1 = some (.tup [nV t, .int 1]) := upd_same
          generalize upd H' t1 (.tup [nV t, .int 1]) = H4 at s4 et1 nl1 ⊢
          have s5 : Same H4 (upd H4 l1 (.lst [.ref t1])) := (Same.refl H4).new nl1
          have el1 : (upd H4 l1 (.lst [.ref t1])) l1 = some (.lst [.ref t1]) := upd_same
          generalize upd H4 l1 (.lst [.ref t1]) = H5 at s5 el1 ⊢
          refine ⟨l1, y, _, _, rfl, rfl, el1, (s4.trans s5) _ _ ey, ?_, fun z nz => ?_⟩
          · have h1 := K02.nodup_len n wvs pth.nd fun u hu => by
              obtain ⟨m, hm⟩ := List.getElem?_of_mem hu
              exact (Conn.lt bdj ((pth.cut hm).conn) bk)
            have h2 := pth.len
            rw [P_len tp, List.length_singleton]
            exact szle (by omega)
          have s6 : Same H5 (upd H5 z (.lst ([.ref t1] ++ tv))) := (Same.refl H5).new nz
          have ez : (upd H5 z (.lst ([.ref t1] ++ tv))) z = some (.lst ([.ref t1] ++ tv)) := upd_same
          generalize upd H5 z (.lst ([.ref t1] ++ tv)) = H6 at s6 ez ⊢
          refine ⟨(by show 2 ≤ sizeLine; decide), fun tr ntr => ?_⟩
          have s7 : Same H6 (upd H6 tr (.tup [.str "ring", .ref z])) := (Same.refl H6).new ntr
          have s46 := (s4.trans s5).trans s6
          refine q (.ring ((t, 1) :: tell W)) tr z _ (.ring st hs cn hp (fun h => z0 (key.mpr h)) ⟨wvs, pth⟩) ((s13.trans s46).trans s7) ⟨((s13.trans s4).trans s5).free nz, upd_same, _, s7 _ _ ez, ?_⟩
          exact .cons ⟨t1, rfl, ((s5.trans s6).trans s7) _ _ et1⟩ (tp.same (s46.trans s7))
      · rw [show gs.contains k = false by simpa using c]
        have nc : ¬ Conn js i k := fun z => c ((giff k).mpr z)
        refine iteT ⟨_, rfl, .inl ⟨rfl, _, SqL.of ej2⟩, _, rfl, _, rfl, _, rfl, _, rfl, (by show 4 ≤ sizeLine; decide), fun t1 n1 => ?_⟩
        have s3 : Same H2 (upd H2 t1 (.tup [nV t, nV i, nV k, .int d])) := (Same.refl H2).new n1
        have et1 : (upd H2 t1 (.tup [nV t, nV i, nV k, .int d])) t1 = some (.tup [nV t, nV i, nV k, .int d]) := upd_same
        generalize upd H2 t1 (.tup [nV t, nV i, nV k, .int d]) = H3 at s3 et1 ⊢
        have ej3 := s3 _ _ ej2
        refine ⟨j, _, _, rfl, rfl, ej3, ?_, ?_⟩
        · rw [P_len hJ]
          exact szl (by omega)
        refine ⟨js ++ [⟨t, i, k⟩], _, _, _, _, _, _, _, _, _, rfl, (s12.trans s3).mut nj, upd_same, ?_, .add st hs nc⟩
        refine P_append ((hJ2.same s3).mutL ej3) (.cons ⟨t1, rfl, ?_⟩ .nil)
        have : j4 sums ⟨t, i, k⟩ = [nV t, nV i, nV k, .int d] := by
          unfold j4
          rw [ed]
        rw [this]
        exact sqT_mutL (SqT.of et1) ej3
    · rintro σ H1 ⟨js, jv, v4, v5, v6, v7, v8, v9, v10, v11, rfl, s1, ej, hJ, st⟩
      obtain ⟨p, hp⟩ := st.pot
      have hlj := st.len
      refine ⟨_, rfl, _, rfl, _, rfl, j, jv, sums, m, js, n, p, rfl, SqL.of ej, hJ, by omega, hn, st.bd bd, hm, hp, fun R x H2 s2 nx ex ph => ?_⟩
      refine ⟨(by show 2 ≤ sizeLine; decide), fun tr ntr => ?_⟩
      have s3 : Same H2 (upd H2 tr (.tup [.str "phases", .ref x])) := (Same.refl H2).new ntr
      exact q (.phases R) tr x _ (.phases st hp ph) ((s1.trans s2).trans s3) ⟨s1.free nx, upd_same, s3 _ _ ex⟩
end
end K32W

namespace K32W
open PySem PySem.Spec PyProof.Rows L2 KH K32 KD
abbrev s_law_shape : Stmt := topS 19
theorem sc_law_shape : FnScope ["script", "head", "period", "lines", "rows"] ["script"] (defScope s_law_shape) := ⟨rfl, rfl, rfl, by decide +kernel, rfl, by decide +kernel, by decide +kernel⟩

abbrev s_law_line : Stmt := topS 20
theorem sc_law_line : FnScope ["script", "lines", "sizes", "drawn", "places", "order", "k", "pairs"] ["script", "lines"] (defScope s_law_line) := ⟨rfl, rfl, rfl, by decide +kernel, rfl, by decide +kernel, by decide +kernel⟩

abbrev s_law_pairs : Stmt := topS 21
theorem sc_law_pairs : FnScope ["script", "lines", "rows", "sizes", "k", "drawn"] ["script", "lines", "rows"] (defScope s_law_pairs) := ⟨rfl, rfl, rfl, by decide +kernel, rfl, by decide +kernel, by decide +kernel⟩

theorem seq_nat {k n : Nat} (h : k < n) : seqIndex? (k : Int) n = some k := by
  unfold seqIndex?
  simp only [show ¬ ((k : Int) < 0) by omega, if_false]
  rw [if_pos (by simp; omega)]
  simp
theorem ixk {K : PySem.W.Frag} {H : Hp} {a : Addr} {xs : List V} {k : Nat} {v : V} {Q : VK} (h : SqL K H a xs) (e : xs[k]? = some v) (q : Q v H) : rIxL K (.ref a) (.int (k : Int)) H Q := ⟨a, xs, _, v, rfl, rfl, h, at_n e, q⟩
theorem set_self {σ : L2.St} {j : Nat} {x : V} (h : σ[j]? = some (some x)) : σ.set j (some x) = σ := by
  apply List.ext_getElem?
  intro k
  rw [List.getElem?_set]
  by_cases ek : j = k
  · subst ek
    rw [if_pos rfl, if_pos (List.getElem?_eq_some_iff.mp h).1, h]
  · rw [if_neg ek]
theorem asgN {te : TE} {i : Nat} {rest : TS} {D : Ends} {σ : L2.St} {H : Hp} (q : te σ H (fun x H1 => ∀ σ' : L2.St, σ.set i (some x) = σ' → rest D σ' H1)) : tSeq (tAsg te (gName i)) rest D σ H := by
  have e : (fun (x : V) (H1 : Hp) => ∀ σ' : L2.St, σ.set i (some x) = σ' → rest D σ' H1) = (fun x H1 => rest D (σ.set i (some x)) H1) := by
    funext x H1
    exact propext ⟨fun h => h _ rfl, fun h σ' e => by rw [← e]; exact h⟩
  rw [e] at q
  exact q
theorem nextS {u : TS} {D : Ends} {σ : L2.St} {H : Hp} (q : u D σ H) : tNext { D with nx := u D } σ H := q
theorem ifset1 {t : TT} {e1 : TE} {i1 : Nat} {rest : TS} {D : Ends} {σ : L2.St} {H : Hp} {v1 w1 : V} (ht : ∀ Q : Bool → Hp → Prop, (∀ b, Q b H) → t σ H Q) (h1 : σ[i1]? = some (some w1)) (ev1 : ∀ Q : VK, Q v1 H → e1 σ H Q)
    (q : ∀ u1, u1 = v1 ∨ u1 = w1 → rest D (σ.set i1 (some u1)) H) : tSeq (tIfS t (tAsg e1 (gName i1)) tNext) rest D σ H := by
  refine ht _ fun b => ?_
  cases b with
  | true =>
    rw [if_pos rfl]
    exact ev1 _ (q v1 (.inl rfl))
  | false =>
    rw [if_neg Bool.false_ne_true]
    have := q w1 (.inr rfl)
    rw [set_self h1] at this
    exact this
section
variable {P : Program} {w : World} {K : PySem.W.Frag} {mg : Str → Option Value} {base : Heap} {CN CB CD CT CU fI : Addr}
def sp_shape (K : PySem.W.Frag) : Sp := fun vs H Q _ => ∃ (a : Addr) (ns : List Int), vs = [.ref a] ∧ SqL K H a (ns.map V.int) ∧ ns.length ≤ 63 ∧
  ∀ (t : Addr) (p n r md : Nat) (b : Bool) H', Same H H' → H' t = some (.tup [nV p, nV n, nV r, nV md, .bl b]) → 1 ≤ p → p ≤ 60 → n ≤ 20 → r ≤ 20 → (n = 0 → r = 0) → Q (.ref t) H'
theorem ok_shape {f f1 f2 : Addr} {fd fd1 fd2 : FuncData} (F : Fun K "_law_shape" "_law_shape" s_law_shape f fd) (T : Txt mg) (C_law_draws : Cal P w K mg base 1 "_law_draws" ["cell", "sizes"] (sp_draws K) f1 fd1) (C_law_cell : Cal P w K mg base 1 "_law_cell" ["script", "k"] (sp_cell K) f2 fd2) :
    FnOk P w K mg base CX0 2 f fd ["script"] (sp_shape K) := by
  refine F.ok sc_law_shape (fun vs H Q E h => ?_) (fun cdv A outer s H vs Q E hr h => ?_)
  · obtain ⟨a, ns, rfl, _⟩ := h
    rfl
  · obtain ⟨a, ns, rfl, hS, hn, q⟩ := h
    refine ⟨_, (pss_cons (ps_set (i := 1) sc_law_shape.nd rfl (.inl rfl) (pe_call C_law_draws.ok (hr.mono (by decide)) (by rfl) C_law_draws.mg C_law_draws.kp C_law_draws.b .nil pass0 (pa_cons (pe_call C_law_cell.ok (hr.mono (by decide)) (by rfl) C_law_cell.mg C_law_cell.kp C_law_cell.b .nil pass0 (pa_cons (pv 0) (pa_cons pe_int pa_nil))) (pa_cons (pe_lst (pa_cons pe_int (pa_cons pe_int (pa_cons pe_int (pa_cons pe_int (pa_cons pe_int (pa_cons pe_int (pa_cons pe_int (pa_cons pe_int (pa_cons pe_int pa_nil)))))))))) pa_nil))))
 (pss_cons (ps_set (i := 2) sc_law_shape.nd rfl (.inl rfl) (pe_op op_add pe_int (pe_ix ix_list (pv 1) pe_int (fun _ _ => rfl))))
 (pss_cons (ps_if (pt_cmpR op_eq (pe_ix ix_list (pv 1) pe_int (fun _ _ => rfl)) pe_int (nomark _))
 (pss_one (ps_set (i := 2) sc_law_shape.nd rfl (.inl rfl) pe_int))
 pss_nil)
 (pss_cons (ps_if (pt_cmpR op_eq (pe_ix ix_list (pv 1) pe_int (fun _ _ => rfl)) pe_int (nomark _))
 (pss_one (ps_set (i := 2) sc_law_shape.nd rfl (.inl rfl) pe_int))
 pss_nil)
 (pss_cons (ps_set (i := 3) sc_law_shape.nd rfl (.inl rfl) (pe_ix ix_list (pv 1) pe_int (fun _ _ => rfl)))
 (pss_cons (ps_set (i := 4) sc_law_shape.nd rfl (.inl rfl) (pe_ix ix_list (pv 1) pe_int (fun _ _ => rfl)))
 (pss_cons (ps_if (pt_cmpR op_eq (pe_ix ix_list (pv 1) pe_int (fun _ _ => rfl)) pe_int (nomark _))
 (pss_cons (ps_set (i := 3) sc_law_shape.nd rfl (.inl rfl) (pe_op op_add pe_int (pe_ix ix_list (pv 1) pe_int (fun _ _ => rfl))))
 (pss_cons (ps_if (pt_cmpR op_eq (pe_ix ix_list (pv 1) pe_int (fun _ _ => rfl)) pe_int (nomark _))
 (pss_one (ps_set (i := 3) sc_law_shape.nd rfl (.inl rfl) pe_int))
 pss_nil)
 (pss_one (ps_set (i := 4) sc_law_shape.nd rfl (.inl rfl) (pe_op op_add pe_int (pe_ix ix_list (pv 1) pe_int (fun _ _ => rfl)))))))
 pss_nil)
 (pss_cons (ps_if (pt_cmpR op_eq (pv 3) pe_int (nomark _))
 (pss_one (ps_set (i := 4) sc_law_shape.nd rfl (.inl rfl) pe_int))
 pss_nil)
 (pss_one (ps_ret (pe_tup (pa_cons (pv 2) (pa_cons (pv 3) (pa_cons (pv 4) (pa_cons (pe_ix ix_list (pv 1) pe_int (fun _ _ => rfl)) (pa_cons (pe_and (pe_cmpR op_eq (pe_ix ix_list (pv 1) pe_int (fun _ _ => rfl)) pe_int (nomark _)) (pe_one (pe_cmpR op_eq (pe_ix ix_list (pv 1) pe_int (fun _ _ => rfl)) pe_int (nomark _)))) pa_nil)))))))))))))))), ?_⟩
    refine asgN ⟨_, rfl, a, ns, 0, rfl, hS, hn, by decide, fun c H1 s1 => ⟨by show 9 ≤ sizeLine; decide, fun z nz => ⟨z, c, [8, 8, 60, 8, 4, 13, 10, 4, 2], rfl, SqL.of upd_same, by decide, by decide, fun b ss H2 s2 nb eb dr σ' e => ?_⟩⟩⟩
    obtain rfl : σ' = [some (.ref a), some (.ref b), none, none, none] := e.symm
    clear e
    have t2 : Same H H2 := (s1.new nz).trans s2
    obtain ⟨z0, z1, z2, z3, z4, z5, z6, z7, z8, rfl, b0, b1, b2, b3, b4, b5, b6, b7, b8⟩ : ∃ s0 s1 s2 s3 s4 s5 s6 s7 s8, ss = [s0, s1, s2, s3, s4, s5, s6, s7, s8] ∧ s0 < 8 ∧ s1 < 8 ∧ s2 < 60 ∧ s3 < 8 ∧ s4 < 4 ∧ s5 < 13 ∧ s6 < 10 ∧ s7 < 4 ∧ s8 < 2 := by
      cases dr with | cons h0 dr => cases dr with | cons h1 dr => cases dr with | cons h2 dr => cases dr with | cons h3 dr => cases dr with | cons h4 dr => cases dr with | cons h5 dr => cases dr with | cons h6 dr => cases dr with | cons h7 dr => cases dr with | cons h8 dr => cases dr with | nil => exact ⟨_, _, _, _, _, _, _, _, _, rfl, h0, h1, h2, h3, h4, h5, h6, h7, h8⟩
    have hB : SqL K H2 b ([z0, z1, z2, z3, z4, z5, z6, z7, z8].map nV) := SqL.of eb
    have bq : ∀ (x y : Nat), decide (nV x = nV y) = decide (x = y) := fun x y => by
      by_cases e : x = y
      · rw [decide_eq_true e, decide_eq_true (by rw [e])]
      · rw [decide_eq_false e, decide_eq_false (fun z => e (by have := V.int.inj z; omega))]
    -- period
    refine asgN ⟨_, rfl, b, _, 2, nV z2, rfl, rfl, hB, at_n (j := 2) rfl, _, _, rfl, rfl, fun σ' e => ?_⟩
    obtain rfl : σ' = [some (.ref a), some (.ref b), some (.int (1 + (z2 : Int))), none, none] := e.symm
    clear e
    refine ifset1 (v1 := nV 60) (w1 := nV (1 + z2)) (fun Q' hq => ⟨_, rfl, b, _, 1, nV z1, rfl, rfl, hB, at_n (j := 1) rfl, ⟨rfl, _, rfl, hq _⟩⟩) (by show some (some (V.int (1 + (z2 : Int)))) = some (some (V.int ((1 + z2 : Nat) : Int))); rw [show ((1 + z2 : Nat) : Int) = 1 + (z2 : Int) by omega]) (fun Q' hq => hq) fun u1 hu1 => ?_
    obtain ⟨p1, rfl, hp1⟩ : ∃ p1 : Nat, u1 = nV p1 ∧ 1 ≤ p1 ∧ p1 ≤ 60 := by
      rcases hu1 with rfl | rfl
      · exact ⟨60, rfl, by decide, by decide⟩
      · exact ⟨1 + z2, rfl, by omega, by omega⟩
    refine ifset1 (v1 := nV 1) (w1 := nV p1) (fun Q' hq => ⟨_, rfl, b, _, 1, nV z1, rfl, rfl, hB, at_n (j := 1) rfl, ⟨rfl, _, rfl, hq _⟩⟩) rfl (fun Q' hq => hq) fun u2 hu2 => ?_
    obtain ⟨p, rfl, hp0, hp⟩ : ∃ p : Nat, u2 = nV p ∧ 1 ≤ p ∧ p ≤ 60 := by
      rcases hu2 with rfl | rfl
      · exact ⟨1, rfl, by decide, by decide⟩
      · exact ⟨p1, rfl, hp1.1, hp1.2⟩
    -- lines, rows
    refine asgN ⟨_, rfl, b, _, 3, nV z3, rfl, rfl, hB, at_n (j := 3) rfl, fun σ' e => ?_⟩
    obtain rfl : σ' = [some (.ref a), some (.ref b), some (nV p), some (nV z3), none] := e.symm
    clear e
    refine asgN ⟨_, rfl, b, _, 6, nV z6, rfl, rfl, hB, at_n (j := 6) rfl, fun σ' e => ?_⟩
    obtain rfl : σ' = [some (.ref a), some (.ref b), some (nV p), some (nV z3), some (nV z6)] := e.symm
    clear e
    refine ⟨_, rfl, b, _, 0, nV z0, rfl, rfl, hB, at_n (j := 0) rfl, ⟨rfl, _, rfl, ?_⟩⟩
    have bq : ∀ (x : Nat) (y : Int), (decide (nV x = V.int y) = true ∧ (x : Int) = y) ∨ (decide (nV x = V.int y) = false ∧ (x : Int) ≠ y) := fun x y => by
      by_cases e : (x : Int) = y
      · exact .inl ⟨decide_eq_true (congrArg V.int e), e⟩
      · exact .inr ⟨decide_eq_false (fun z => e (V.int.inj z)), e⟩
    rcases bq z0 1 with ⟨e, en⟩ | ⟨e, en⟩
    · rw [e]
      refine iteT ?_
      refine asgN ⟨_, rfl, b, _, 5, nV z5, rfl, rfl, hB, at_n (j := 5) rfl, _, _, rfl, rfl, fun σ' e => ?_⟩
      obtain rfl : σ' = [some (.ref a), some (.ref b), some (nV p), some (.int (8 + (z5 : Int))), some (nV z6)] := e.symm
      clear e
      refine ifset1 (v1 := nV 20) (w1 := nV (8 + z5)) (fun Q' hq => ⟨_, rfl, b, _, 4, nV z4, rfl, rfl, hB, at_n (j := 4) rfl, ⟨rfl, _, rfl, hq _⟩⟩) (by show some (some (V.int (8 + (z5 : Int)))) = some (some (V.int ((8 + z5 : Nat) : Int))); rw [show ((8 + z5 : Nat) : Int) = 8 + (z5 : Int) by omega]) (fun Q' hq => hq) fun u1 hu1 => ?_
      obtain ⟨n, rfl, hn1⟩ : ∃ n : Nat, u1 = nV n ∧ n ≤ 20 := by
        rcases hu1 with rfl | rfl
        · exact ⟨20, rfl, by decide⟩
        · exact ⟨8 + z5, rfl, by omega⟩
      refine ⟨_, rfl, b, _, 6, nV z6, rfl, rfl, hB, at_n (j := 6) rfl, _, _, rfl, rfl, ?_⟩
      show tNext _ [some (.ref a), some (.ref b), some (nV p), some (nV n), some (.int (9 + (z6 : Int)))] H2
      rw [show (9 : Int) + (z6 : Int) = ((9 + z6 : Nat) : Int) by omega]
      refine nextS ?_
      refine ⟨_, rfl, rfl, _, rfl, ?_⟩
      have fin : ∀ (r : Nat), r ≤ 20 → ((n) = 0 → r = 0) → ∀ (t : Addr) (bb : Bool), H2 t = none → Q (.ref t) (upd H2 t (.tup [nV p, nV (n), nV r, nV z7, .bl bb])) := fun r hr h0 t bb nt => q t p (n) r z7 bb _ (t2.new nt) upd_same hp0 hp (by omega) hr h0
      rcases bq (n) 0 with ⟨e, en⟩ | ⟨e, en⟩
      · rw [e]
        refine iteT ?_
        refine ⟨_, rfl, _, rfl, _, rfl, _, rfl, b, _, 7, nV z7, rfl, rfl, hB, at_n (j := 7) rfl, _, rfl, b, _, 0, nV z0, rfl, rfl, hB, at_n (j := 0) rfl, rfl, _, rfl, ?_⟩
        rcases bq z0 1 with ⟨e3, _⟩ | ⟨e3, _⟩
        · rw [e3]
          exact iteT ⟨_, rfl, b, _, 8, nV z8, rfl, rfl, hB, at_n (j := 8) rfl, rfl, (by show 5 ≤ sizeLine; decide), fun t nt => fin 0 (by decide) (fun _ => rfl) t _ nt⟩
        · rw [e3]
          exact iteF ⟨(by show 5 ≤ sizeLine; decide), fun t nt => fin 0 (by decide) (fun _ => rfl) t _ nt⟩
      · rw [e]
        refine iteF ?_
        refine ⟨_, rfl, _, rfl, _, rfl, _, rfl, b, _, 7, nV z7, rfl, rfl, hB, at_n (j := 7) rfl, _, rfl, b, _, 0, nV z0, rfl, rfl, hB, at_n (j := 0) rfl, rfl, _, rfl, ?_⟩
        rcases bq z0 1 with ⟨e3, _⟩ | ⟨e3, _⟩
        · rw [e3]
          exact iteT ⟨_, rfl, b, _, 8, nV z8, rfl, rfl, hB, at_n (j := 8) rfl, rfl, (by show 5 ≤ sizeLine; decide), fun t nt => fin (9 + z6) (by omega) (fun z => by omega) t _ nt⟩
        · rw [e3]
          exact iteF ⟨(by show 5 ≤ sizeLine; decide), fun t nt => fin (9 + z6) (by omega) (fun z => by omega) t _ nt⟩
    · rw [e]
      refine iteF ?_
      refine nextS ?_
      refine ⟨_, rfl, rfl, _, rfl, ?_⟩
      have fin : ∀ (r : Nat), r ≤ 20 → ((z3) = 0 → r = 0) → ∀ (t : Addr) (bb : Bool), H2 t = none → Q (.ref t) (upd H2 t (.tup [nV p, nV (z3), nV r, nV z7, .bl bb])) := fun r hr h0 t bb nt => q t p (z3) r z7 bb _ (t2.new nt) upd_same hp0 hp (by omega) hr h0
      rcases bq (z3) 0 with ⟨e, en⟩ | ⟨e, en⟩
      · rw [e]
        refine iteT ?_
        refine ⟨_, rfl, _, rfl, _, rfl, _, rfl, b, _, 7, nV z7, rfl, rfl, hB, at_n (j := 7) rfl, _, rfl, b, _, 0, nV z0, rfl, rfl, hB, at_n (j := 0) rfl, rfl, _, rfl, ?_⟩
        rcases bq z0 1 with ⟨e3, _⟩ | ⟨e3, _⟩
        · rw [e3]
          exact iteT ⟨_, rfl, b, _, 8, nV z8, rfl, rfl, hB, at_n (j := 8) rfl, rfl, (by show 5 ≤ sizeLine; decide), fun t nt => fin 0 (by decide) (fun _ => rfl) t _ nt⟩
        · rw [e3]
          exact iteF ⟨(by show 5 ≤ sizeLine; decide), fun t nt => fin 0 (by decide) (fun _ => rfl) t _ nt⟩
      · rw [e]
        refine iteF ?_
        refine ⟨_, rfl, _, rfl, _, rfl, _, rfl, b, _, 7, nV z7, rfl, rfl, hB, at_n (j := 7) rfl, _, rfl, b, _, 0, nV z0, rfl, rfl, hB, at_n (j := 0) rfl, rfl, _, rfl, ?_⟩
        rcases bq z0 1 with ⟨e3, _⟩ | ⟨e3, _⟩
        · rw [e3]
          exact iteT ⟨_, rfl, b, _, 8, nV z8, rfl, rfl, hB, at_n (j := 8) rfl, rfl, (by show 5 ≤ sizeLine; decide), fun t nt => fin (z6) (by omega) (fun z => by omega) t _ nt⟩
        · rw [e3]
          exact iteF ⟨(by show 5 ≤ sizeLine; decide), fun t nt => fin (z6) (by omega) (fun z => by omega) t _ nt⟩
theorem map_erase {α β : Type} (f : α → β) : ∀ (l : List α) (k : Nat), (l.map f).eraseIdx k = (l.eraseIdx k).map f
  | [], _ => rfl
  | _ :: _, 0 => rfl
  | x :: l, k + 1 => by
    show f x :: (l.map f).eraseIdx k = f x :: (l.eraseIdx k).map f
    rw [map_erase f l k]
/-! ### a line of pairs -/
def sp_line (K : PySem.W.Frag) : Sp := fun vs H Q _ => ∃ (a : Addr) (ns : List Int) (n : Nat), vs = [.ref a, nV n] ∧ SqL K H a (ns.map V.int) ∧ ns.length ≤ 63 ∧ n ≤ 20 ∧
  ∀ (p : Addr) us ps H', Same H H' → H p = none → H' p = some (.lst us) → Prs K H' us ps → K02.Within n ps → ps.length ≤ 20 → Q (.ref p) H'
def zsL (n : Nat) : List Nat := (List.range n).map (n - ·) ++ List.replicate n 2
theorem zsL_1 {n k : Nat} (h : k < n) : (zsL n)[k]? = some (n - k) := by
  unfold zsL
  rw [List.getElem?_append_left (by simp; exact h), List.getElem?_map, List.getElem?_range h]
  rfl
theorem zsL_2 {n k : Nat} (h : k < n) : (zsL n)[n + k]? = some 2 := by
  unfold zsL
  rw [List.getElem?_append_right (by simp), List.getElem?_replicate, if_pos (by simp; omega)]
theorem ok_line {f f1 f2 : Addr} {fd fd1 fd2 : FuncData} (F : Fun K "_law_line" "_law_line" s_law_line f fd) (T : Txt mg) (C_law_draws : Cal P w K mg base 1 "_law_draws" ["cell", "sizes"] (sp_draws K) f1 fd1) (C_law_cell : Cal P w K mg base 1 "_law_cell" ["script", "k"] (sp_cell K) f2 fd2) :
    FnOk P w K mg base CX0 2 f fd ["script", "lines"] (sp_line K) := by
  refine F.ok sc_law_line (fun vs H Q E h => ?_) (fun cdv A outer s H vs Q E hr h => ?_)
  · obtain ⟨a, ns, n, rfl, _⟩ := h
    rfl
  · obtain ⟨a, ns, n, rfl, hS, hns, hn, q⟩ := h
    refine ⟨_, (pss_cons (ps_setLc (i := 2) (own := [("k", 6)]) (g := gName 6) (tt := tYes) rfl sc_law_line.nd rfl rfl (sw_true rfl rfl rfl (by decide +kernel)) (pi_range1 rfl T.range (pa_cons (pv 1) pa_nil)) (blkOk_by (N := ["script", "lines", "sizes", "drawn", "places", "order", "k", "pairs"]) (sc := defScope s_law_line) (by decide +kernel)) (fun _ _ _ _ _ => (pg_name (i := 6) sc_law_line.nd rfl (.inl rfl))) (fun _ _ _ _ _ => pts_nil) (fun _ _ _ _ _ => (pe_op op_sub (pv 1) (pv 6))))
 (pss_cons (ps_set (i := 3) sc_law_line.nd rfl (.inl rfl) (pe_call C_law_draws.ok (hr.mono (by decide)) (by rfl) C_law_draws.mg C_law_draws.kp C_law_draws.b .nil pass0 (pa_cons (pe_call C_law_cell.ok (hr.mono (by decide)) (by rfl) C_law_cell.mg C_law_cell.kp C_law_cell.b .nil pass0 (pa_cons (pv 0) (pa_cons pe_int pa_nil))) (pa_cons (pe_op op_cat (pv 2) (pe_lc (own := [("k", 6)]) (g := gName 6) (tt := tYes) rfl sc_law_line.nd (pi_range1 rfl T.range (pa_cons (pv 1) pa_nil)) (blkOk_by (N := ["script", "lines", "sizes", "drawn", "places", "order", "k", "pairs"]) (sc := defScope s_law_line) (by decide +kernel)) (fun _ _ _ _ _ => (pg_name (i := 6) sc_law_line.nd rfl (.inl rfl))) (fun _ _ _ _ _ => pts_nil) (fun _ _ _ _ _ => pe_int))) pa_nil))))
 (pss_cons (ps_set (i := 4) sc_law_line.nd rfl (.inl rfl) (pe_listRg rfl rfl T.list (prg_1 rfl T.range (pv 1))))
 (pss_cons (ps_set (i := 5) sc_law_line.nd rfl (.inl rfl) (pe_lst pa_nil))
 (pss_cons (ps_for PassesOwn.never rfl (pi_range1 rfl T.range (pa_cons (pv 1) pa_nil)) (pg_name (i := 6) sc_law_line.nd rfl (.inl rfl))
 (pss_one (ps_expr (pe_bm PySem.F.plainAttrs_list PySem.F.slot_list_append PySem.F.type_list_append mt_append (pv 5) (pa_cons (pe_bm PySem.F.plainAttrs_list PySem.F.slot_list_pop PySem.F.type_list_pop mt_popAt (pv 4) (pa_cons (pe_ix ix_list (pv 3) (pv 6) (fun _ _ => rfl)) pa_nil)) pa_nil)))))
 (pss_cons (ps_set (i := 7) sc_law_line.nd rfl (.inl rfl) (pe_lst pa_nil))
 (pss_cons (ps_for PassesOwn.never rfl (pi_range1 rfl T.range (pa_cons (pe_op op_sub (pv 1) pe_int) pa_nil)) (pg_name (i := 6) sc_law_line.nd rfl (.inl rfl))
 (pss_one (ps_if (pt_cmpR op_eq (pe_ix ix_list (pv 3) (pe_op op_add (pv 1) (pv 6)) (fun _ _ => rfl)) pe_int (nomark _))
 (pss_one (ps_expr (pe_bm PySem.F.plainAttrs_list PySem.F.slot_list_append PySem.F.type_list_append mt_append (pv 7) (pa_cons (pe_tup (pa_cons (pe_ix ix_list (pv 5) (pv 6) (fun _ _ => rfl)) (pa_cons (pe_ix ix_list (pv 5) (pe_op op_add (pv 6) pe_int) (fun _ _ => rfl)) pa_nil))) pa_nil))))
 (pss_one (ps_expr (pe_bm PySem.F.plainAttrs_list PySem.F.slot_list_append PySem.F.type_list_append mt_append (pv 7) (pa_cons (pe_tup (pa_cons (pe_ix ix_list (pv 5) (pe_op op_add (pv 6) pe_int) (fun _ _ => rfl)) (pa_cons (pe_ix ix_list (pv 5) (pv 6) (fun _ _ => rfl)) pa_nil))) pa_nil)))))))
 (pss_one (ps_ret (pv 7)))))))))), ?_⟩
    refine ⟨_, rfl, _, rfl, (by omega), (by omega), ?_⟩
    rw [show ((n : Nat) : Int).toNat = n by omega]
    refine fun D nD => ?_
    refine lc_range (lo := 0) (n := n) (fun i H' => Same H H' ∧ H' D = some (.lst (((List.range i).map (n - ·)).map nV))) ⟨(Same.refl H).new nD, upd_same⟩ ?_ ?_
    · rintro i H1 hi ⟨s1, eD⟩
      refine ⟨rfl, _, rfl, _, rfl, _, _, rfl, rfl, _, eD, ?_, s1.mut nD, ?_⟩
      · rw [List.length_map, List.length_map, List.length_range]
        exact szl (by omega)
      · rw [upd_same, List.range_succ, List.map_append, List.map_append]
        dsimp only
        rw [show (n : Int) - ((0 : Int) + (i : Int)) = ((n - i : Nat) : Int) by omega]
        rfl
    rintro H1 ⟨s1, eD⟩
    -- drawn
    refine ⟨_, rfl, a, ns, 2, rfl, s1.seq hS, hns, by decide, fun c H2 s2 => ⟨_, rfl, _, rfl, _, rfl, (by omega), (by omega), ?_⟩⟩
    rw [show ((n : Nat) : Int).toNat = n by omega]
    refine fun D2 nD2 => ?_
    refine lc_range (lo := 0) (n := n) (fun i H' => Same H2 H' ∧ H' D2 = some (.lst ((List.replicate i 2).map nV))) ⟨(Same.refl H2).new nD2, upd_same⟩ ?_ ?_
    · rintro i H3 hi ⟨s3, e3⟩
      refine ⟨rfl, _, e3, ?_, s3.mut nD2, ?_⟩
      · rw [List.length_map, List.length_replicate]
        exact szl (by omega)
      · rw [upd_same, List.replicate_succ', List.map_append]
        rfl
    rintro H3 ⟨s3, e3⟩
    refine ⟨D, D2, _, _, rfl, rfl, (s2.trans s3) _ _ eD, e3, ?_, fun z nz => ?_⟩
    · rw [List.length_map, List.length_map, List.length_map, List.length_range, List.length_replicate]
      exact szle (by omega)
    rw [← List.map_append]
    refine ⟨z, c, zsL n, rfl, SqL.of upd_same, ?_, ?_, fun dp ds H4 s4 ndp edp dr => ?_⟩
    · unfold zsL
      rw [List.length_append, List.length_map, List.length_range, List.length_replicate]
      omega
    · intro y hy
      unfold zsL at hy
      rcases List.mem_append.mp hy with hy | hy
      · obtain ⟨k, hk, rfl⟩ := List.mem_map.mp hy
        have := List.mem_range.mp hk
        omega
      · rw [List.eq_of_mem_replicate hy]
        decide
    have t4 : Same H H4 := (((s1.trans s2).trans s3).new nz).trans s4
    -- places, order
    refine ⟨_, rfl, _, rfl, .of_le (by omega) (by omega) (by omega) (by omega), fun pp npp => ?_⟩
    have u1 : Same H4 (upd H4 pp (.lst (rgV 0 (n : Int)))) := (Same.refl H4).new npp
    have epp : (upd H4 pp (.lst (rgV 0 (n : Int)))) pp = some (.lst ((List.range n).map nV)) := by
      rw [upd_same, rgV_id]
      unfold IL idL
      rw [List.map_map]
      rfl
    generalize upd H4 pp (.lst (rgV 0 (n : Int))) = H5 at u1 epp ⊢
    refine ⟨Nat.zero_le _, fun oo noo => ?_⟩
    have u2 : Same H5 (upd H5 oo (.lst [])) := (Same.refl H5).new noo
    have eoo : (upd H5 oo (.lst [])) oo = some (.lst []) := upd_same
    have ne : pp ≠ oo := ne_of_none epp noo
    generalize upd H5 oo (.lst []) = H6 at u2 eoo ⊢
    have u3 := u1.trans u2
    have noo4 : H4 oo = none := u1.free noo
    refine ⟨_, rfl, _, rfl, (by omega), (by omega), ?_⟩
    rw [show ((n : Nat) : Int).toNat = n by omega]
    refine for_range (lo := 0) (n := n) (fun k σ H' => ∃ (pl os : List Nat) (v6 : Option V), σ = [some (.ref a), some (nV n), some (.ref D), some (.ref dp), some (.ref pp), some (.ref oo), v6, none] ∧ Same H4 H' ∧ H' pp = some (.lst (pl.map nV)) ∧ H' oo = some (.lst (os.map nV)) ∧ pl.length = n - k ∧ os.length = k ∧ (∀ x ∈ pl, x < n) ∧ (∀ x ∈ os, x < n))
      ⟨List.range n, [], _, rfl, u3, u2 _ _ epp, eoo, List.length_range, rfl, fun x hx => List.mem_range.mp hx, fun x hx => (by cases hx)⟩ ?_ ?_
    · rintro k σ H7 hk ⟨pl, os, v6, rfl, s7, ep, eo, lp, lo', bp, bo⟩
      rw [show (0 : Int) + (k : Int) = (k : Int) by omega]
      obtain ⟨d, hd, hlt⟩ := P_left dr (zsL_1 hk)
      obtain ⟨y, hy⟩ := get_lt (l := pl) (i := d) (by omega)
      have ym := List.mem_of_getElem? hy
      refine ⟨_, rfl, .inl ⟨rfl, _, SqL.of eo⟩, _, rfl, .inl ⟨rfl, _, SqL.of ep⟩, _, rfl, _, rfl, dp, _, _, nV d, rfl, rfl, s7.seq (SqL.of edp), at_n (getn hd), pp, _, (d : Int), d, nV y, rfl, rfl, ep, by omega, by omega, ?_, getn hy, ?_⟩
      · rw [List.length_map]
        exact seq_nat (by omega)
      refine ⟨oo, _, _, rfl, rfl, by rw [upd_ne (Ne.symm ne)]; exact eo, ?_, ?_⟩
      · rw [List.length_map]
        exact szl (by omega)
      refine ⟨pl.eraseIdx d, os ++ [y], _, rfl, (s7.mut npp).mut noo4, ?_, ?_, ?_, ?_, ?_, ?_⟩
      · rw [upd_ne ne, upd_same, map_erase]
      · rw [upd_same, List.map_append]
        rfl
      · rw [List.length_eraseIdx_of_lt (by omega)]
        omega
      · rw [List.length_append, lo']
        rfl
      · exact fun x hx => bp x (List.mem_of_mem_eraseIdx hx)
      · intro x hx
        rcases List.mem_append.mp hx with hx | hx
        · exact bo x hx
        · rw [List.mem_singleton.mp hx]
          exact bp y ym
    rintro σ H7 ⟨pl, os, v6, rfl, s7, _, eo, _, lo', _, bo⟩
    -- pairs
    refine ⟨Nat.zero_le _, fun pr npr => ?_⟩
    have u8 : Same H7 (upd H7 pr (.lst [])) := (Same.refl H7).new npr
    refine ⟨_, rfl, _, _, rfl, rfl, _, rfl, (by omega), (by omega), ?_⟩
    rw [show ((n : Int) - 1).toNat = n - 1 by omega]
    have npr0 : H pr = none := (t4.trans s7).free npr
    refine for_range (lo := 0) (n := n - 1) (fun k σ H' => ∃ (us : List V) (ps : K02.PL) (v6 : Option V), σ = [some (.ref a), some (nV n), some (.ref D), some (.ref dp), some (.ref pp), some (.ref oo), v6, some (.ref pr)] ∧ Same H7 H' ∧ H' pr = some (.lst us) ∧ Prs K H' us ps ∧ K02.Within n ps ∧ ps.length = k)
      ⟨[], [], _, rfl, u8, upd_same, .nil, within_nil, rfl⟩ ?_ ?_
    · rintro k σ H8 hk ⟨us, ps, v6, rfl, s8, epr, hP, hW, hl⟩
      rw [show (0 : Int) + (k : Int) = (k : Int) by omega]
      obtain ⟨d, hd, hlt⟩ := P_left dr (zsL_2 (n := n) (k := k) (by omega))
      obtain ⟨x, hx⟩ := get_lt (l := os) (i := k) (by omega)
      obtain ⟨y, hy⟩ := get_lt (l := os) (i := k + 1) (by omega)
      have bx := bo x (List.mem_of_getElem? hx)
      have by' := bo y (List.mem_of_getElem? hy)
      have eo8 := SqL.of (K := K) (s8 _ _ eo)
      have step : ∀ (x y : Nat), x < n → y < n → ∀ t, H8 t = none → ∃ (us' : List V) (ps' : K02.PL) (v6' : Option V), [some (.ref a), some (nV n), some (.ref D), some (.ref dp), some (.ref pp), some (.ref oo), some (nV k), some (.ref pr)] = [some (.ref a), some (nV n), some (.ref D), some (.ref dp), some (.ref pp), some (.ref oo), v6', some (.ref pr)] ∧
          Same H7 (upd (upd H8 t (.tup [nV x, nV y])) pr (.lst (us ++ [V.ref t]))) ∧ (upd (upd H8 t (.tup [nV x, nV y])) pr (.lst (us ++ [V.ref t]))) pr = some (.lst us') ∧ Prs K (upd (upd H8 t (.tup [nV x, nV y])) pr (.lst (us ++ [V.ref t]))) us' ps' ∧ K02.Within n ps' ∧ ps'.length = k + 1 := fun x y bx by' t nt => by
        refine ⟨us ++ [V.ref t], ps ++ [(x, y)], _, rfl, (s8.new nt).mut npr, upd_same, ?_, within_snoc hW bx by', by rw [List.length_append, hl]; rfl⟩
        exact ((hP.new nt).snoc (SqT.of upd_same)).mutL (us := us) (by rw [upd_ne (ne_of_none epr nt)]; exact epr)
      have size : us.length < sizeLine := by
        rw [hP.len, hl]
        exact szl (by omega)
      refine ⟨_, rfl, _, rfl, _, rfl, _, _, rfl, rfl, dp, _, _, nV d, rfl, rfl, (s7.trans s8).seq (SqL.of edp), at_n (j := n + k) (getn hd), rfl, _, rfl, ite2 (fun _ => ?_) (fun _ => ?_)⟩
      · refine ⟨_, rfl, .inl ⟨rfl, _, SqL.of epr⟩, _, rfl, _, rfl, oo, _, _, nV x, rfl, rfl, eo8, at_n (getn hx), _, rfl, _, rfl, _, _, rfl, rfl, oo, _, _, nV y, rfl, rfl, eo8, at_n (j := k + 1) (getn hy), sp2, fun t nt => ⟨pr, _, _, rfl, rfl, ?_, size, step x y bx by' t nt⟩⟩
        rw [upd_ne (ne_of_none epr nt)]
        exact epr
      · refine ⟨_, rfl, .inl ⟨rfl, _, SqL.of epr⟩, _, rfl, _, rfl, _, _, rfl, rfl, oo, _, _, nV y, rfl, rfl, eo8, at_n (j := k + 1) (getn hy), _, rfl, _, rfl, oo, _, _, nV x, rfl, rfl, eo8, at_n (getn hx), sp2, fun t nt => ⟨pr, _, _, rfl, rfl, ?_, size, step y x by' bx t nt⟩⟩
        rw [upd_ne (ne_of_none epr nt)]
        exact epr
    · rintro σ H8 ⟨us, ps, v6, rfl, s8, epr, hP, hW, hl⟩
      exact ⟨_, rfl, q pr us ps H8 ((t4.trans s7).trans s8) npr0 epr hP hW (by omega)⟩
/-! ### any pairs -/
def sp_pairs (K : PySem.W.Frag) : Sp := fun vs H Q _ => ∃ (a : Addr) (ns : List Int) (n r : Nat), vs = [.ref a, nV n, nV r] ∧ SqL K H a (ns.map V.int) ∧ ns.length ≤ 63 ∧ n ≤ 20 ∧ r ≤ 20 ∧ (n = 0 → r = 0) ∧
  ∀ (p : Addr) us ps H', Same H H' → H p = none → H' p = some (.lst us) → Prs K H' us ps → K02.Within n ps → ps.length ≤ 20 → Q (.ref p) H'
theorem ok_pairs {f f1 f2 : Addr} {fd fd1 fd2 : FuncData} (F : Fun K "_law_pairs" "_law_pairs" s_law_pairs f fd) (T : Txt mg) (C_law_draws : Cal P w K mg base 1 "_law_draws" ["cell", "sizes"] (sp_draws K) f1 fd1) (C_law_cell : Cal P w K mg base 1 "_law_cell" ["script", "k"] (sp_cell K) f2 fd2) :
    FnOk P w K mg base CX0 2 f fd ["script", "lines", "rows"] (sp_pairs K) := by
  refine F.ok sc_law_pairs (fun vs H Q E h => ?_) (fun cdv A outer s H vs Q E hr h => ?_)
  · obtain ⟨a, ns, n, r, rfl, _⟩ := h
    rfl
  · obtain ⟨a, ns, n, r, rfl, hS, hns, hn, hr0, h0, q⟩ := h
    refine ⟨_, (pss_cons (ps_set (i := 3) sc_law_pairs.nd rfl (.inl rfl) (pe_lst pa_nil))
 (pss_cons (ps_for PassesOwn.never rfl (pi_range1 rfl T.range (pa_cons (pv 2) pa_nil)) (pg_name (i := 4) sc_law_pairs.nd rfl (.inl rfl))
 (pss_one (ps_expr (pe_bm PySem.F.plainAttrs_list PySem.F.slot_list_extend PySem.F.type_list_extend mt_extend (pv 3) (pa_cons (pe_lst (pa_cons (pv 1) (pa_cons (pv 1) pa_nil))) pa_nil)))))
 (pss_cons (ps_set (i := 5) sc_law_pairs.nd rfl (.inr rfl) (pe_call C_law_draws.ok (hr.mono (by decide)) (by rfl) C_law_draws.mg C_law_draws.kp C_law_draws.b .nil pass0 (pa_cons (pe_call C_law_cell.ok (hr.mono (by decide)) (by rfl) C_law_cell.mg C_law_cell.kp C_law_cell.b .nil pass0 (pa_cons (pv 0) (pa_cons pe_int pa_nil))) (pa_cons (pv 3) pa_nil))))
 (pss_one (ps_ret (pe_lc (own := [("k", 4)]) (g := gName 4) (tt := tYes) rfl sc_law_pairs.nd (pi_range1 rfl T.range (pa_cons (pv 2) pa_nil)) (blkOk_by (N := ["script", "lines", "rows", "sizes", "k", "drawn"]) (sc := defScope s_law_pairs) (by decide +kernel)) (fun _ _ _ _ _ => (pg_name (i := 4) sc_law_pairs.nd rfl (.inl rfl))) (fun _ _ _ _ _ => pts_nil) (fun _ _ _ _ _ => (pe_tup (pa_cons (pe_ix (r := rIxL K) ix_list (pv 5) (pe_op op_mul pe_int (pv 4)) (fun _ _ => rfl)) (pa_cons (pe_ix (r := rIxL K) ix_list (pv 5) (pe_op op_add (pe_op op_mul pe_int (pv 4)) pe_int) (fun _ _ => rfl)) pa_nil)))))))))), ?_⟩
    refine ⟨Nat.zero_le _, fun z nz => ?_⟩
    refine ⟨_, rfl, _, rfl, (by omega), (by omega), ?_⟩
    rw [show ((r : Nat) : Int).toNat = r by omega]
    refine for_range (lo := 0) (n := r) (fun i σ H' => ∃ (v4 : Option V), σ = [some (.ref a), some (nV n), some (nV r), some (.ref z), v4, none] ∧ Same H H' ∧ H' z = some (.lst ((List.replicate (2 * i) n).map nV)))
      ⟨_, rfl, (Same.refl H).new nz, upd_same⟩ ?_ ?_
    · rintro i σ H' hi ⟨v4, rfl, sm, e⟩
      refine ⟨_, rfl, .inl ⟨rfl, _, SqL.of e⟩, _, rfl, _, rfl, sp2, fun t nt => ?_⟩
      have ezt : z ≠ t := ne_of_none e nt
      refine ⟨z, t, _, _, rfl, rfl, (by rw [upd_ne ezt]; exact e), upd_same, ?_, ?_⟩
      · rw [List.length_map, List.length_replicate]
        exact szle (by show 2 * i + 2 ≤ 10000; omega)
      · refine ⟨_, rfl, (sm.new nt).mut nz, ?_⟩
        rw [upd_same, show 2 * (i + 1) = 2 * i + 2 by omega, ← List.replicate_append_replicate, List.map_append]
        rfl
    rintro σ H1 ⟨v4, rfl, s1, ez⟩
    refine ⟨_, rfl, a, ns, 1, rfl, s1.seq hS, hns, by decide, fun c H2 s2 => ⟨_, rfl, z, c, List.replicate (2 * r) n, rfl, s2.seq (SqL.of ez), ?_, ?_, fun dp ds H3 s3 ndp edp dr => ?_⟩⟩
    · rw [List.length_replicate]
      omega
    · intro y hy
      have e := List.eq_of_mem_replicate hy
      have := List.length_pos_of_mem hy
      rw [List.length_replicate] at this
      omega
    have t3 := (s1.trans s2).trans s3
    refine ⟨_, rfl, _, rfl, (by omega), (by omega), ?_⟩
    rw [show ((r : Nat) : Int).toNat = r by omega]
    refine fun D nD => ?_
    refine lc_range (lo := 0) (n := r) (fun i H' => ∃ (us : List V) (ps : K02.PL), Same H3 H' ∧ H' D = some (.lst us) ∧ Prs K H' us ps ∧ K02.Within n ps ∧ ps.length = i) ⟨[], [], (Same.refl H3).new nD, upd_same, .nil, within_nil, rfl⟩ ?_ ?_
    · rintro i H4 hi ⟨us, ps, s4, eD, hP, hW, hl⟩
      rw [show (0 : Int) + (i : Int) = (i : Int) by omega]
      obtain ⟨x, hx, bx⟩ := P_left dr (i := 2 * i) (y := n) (by rw [List.getElem?_replicate]; rw [if_pos (by omega)])
      obtain ⟨y, hy, by'⟩ := P_left dr (i := 2 * i + 1) (y := n) (by rw [List.getElem?_replicate]; rw [if_pos (by omega)])
      have hA := s4.seq (SqL.of (K := K) edp)
      refine ⟨rfl, _, rfl, _, rfl, _, _, rfl, rfl, .inl ⟨by decide, by decide⟩, dp, _, _, nV x, rfl, rfl, hA, at_n (j := 2 * i) (getn hx), _, rfl, _, rfl, _, _, rfl, rfl, .inl ⟨by decide, by decide⟩, _, _, rfl, rfl, dp, _, _, nV y, rfl, rfl, hA, at_n (j := 2 * i + 1) (getn hy), sp2, fun t nt => ?_⟩
      have eD2 : (upd H4 t (.tup [nV x, nV y])) D = some (.lst us) := by rw [upd_ne (ne_of_none eD nt)]; exact eD
      refine ⟨us, eD2, ?_, us ++ [V.ref t], ps ++ [(x, y)], (s4.new nt).mut nD, upd_same, ?_, within_snoc hW bx by', by rw [List.length_append, hl]; rfl⟩
      · rw [hP.len, hl]
        exact szl (by omega)
      · exact ((hP.new nt).snoc (SqT.of upd_same)).mutL eD2
    · rintro H4 ⟨us, ps, s4, eD, hP, hW, hl⟩
      exact q D us ps H4 (t3.trans s4) (t3.free nD) eD hP hW (by omega)
end
end K32W

namespace K32W
open PySem PySem.Spec PyProof.Rows L2 KH K32 KD
abbrev s_law_sums : Stmt := topS 22
theorem sc_law_sums : FnScope ["script", "period", "lines", "pairs", "mode", "phases", "sizes", "k", "drawn", "sums", "i", "j", "turns", "diff", "spoil", "place", "line"] ["script", "period", "lines", "pairs", "mode"] (defScope s_law_sums) := ⟨rfl, rfl, rfl, by decide +kernel, rfl, by decide +kernel, by decide +kernel⟩

theorem Trs.mutL {K : PySem.W.Frag} {H : Hp} {o : Addr} {vs us : List V} {ts : List T3} {x : HO} (h : Trs K H vs ts) (e : H o = some (.lst us)) : Trs K (upd H o x) vs ts := P_mono (fun _ _ ⟨t, et, q⟩ => ⟨t, et, sqT_mutL q e⟩) h
theorem Trs.new {K : PySem.W.Frag} {H : Hp} {p : Addr} {vs : List V} {ts : List T3} {x : HO} (h : Trs K H vs ts) (e : H p = none) : Trs K (upd H p x) vs ts := h.same ((Same.refl H).new e)
theorem upS_app (a b : SM) : upS (a ++ b) = upS a ++ upS b := by unfold upS; rw [List.map_append]
theorem upS_set (a : SM) (k : Nat) (q : Nat × Nat × Int) : upS (a.set k q) = (upS a).set k ((q.1 : Int), (q.2.1 : Int), q.2.2) := by unfold upS; rw [List.map_set]
def Ok1 (n : Nat) (q : Nat × Nat × Int) : Prop := q.1 < n ∧ q.2.1 < n ∧ q.2.2.natAbs ≤ 10 ^ 16
def OkS (n : Nat) (sums : SM) : Prop := ∀ q ∈ sums, Ok1 n q
def OkT (n : Nat) (sums : SM) : Prop := ∀ q ∈ sums, q.1 < n ∧ q.2.1 < n ∧ q.2.2.natAbs ≤ 10 ^ 15
theorem OkT.s {n : Nat} {sums : SM} (h : OkT n sums) : OkS n sums := fun q hq => ⟨(h q hq).1, (h q hq).2.1, Nat.le_trans (h q hq).2.2 (by decide)⟩
theorem OkT.snoc {n : Nat} {sums : SM} {q : Nat × Nat × Int} (h : OkT n sums) (hq : q.1 < n ∧ q.2.1 < n ∧ q.2.2.natAbs ≤ 10 ^ 15) : OkT n (sums ++ [q]) := fun x hx => by
  rcases List.mem_append.mp hx with hx | hx
  · exact h x hx
  · rw [List.mem_singleton.mp hx]
    exact hq
theorem OkS.bd {n : Nat} {sums : SM} (h : OkS n sums) : ∀ q ∈ sums, q.1 < n ∧ q.2.1 < n := fun q hq => ⟨(h q hq).1, (h q hq).2.1⟩
theorem OkS.snoc {n : Nat} {sums : SM} {q : Nat × Nat × Int} (h : OkS n sums) (hq : Ok1 n q) : OkS n (sums ++ [q]) := fun x hx => by
  rcases List.mem_append.mp hx with hx | hx
  · exact h x hx
  · rw [List.mem_singleton.mp hx]
    exact hq
section
variable {P : Program} {w : World} {K : PySem.W.Frag} {mg : Str → Option Value} {base : Heap} {CN CB CD CT CU fI : Addr}
def zs3 : Nat → List Nat
  | 0 => []
  | k + 1 => zs3 k ++ [7, 16, 301]
theorem zs3_len : ∀ k, (zs3 k).length = 3 * k
  | 0 => rfl
  | k + 1 => by
    unfold zs3
    rw [List.length_append, zs3_len k]
    rfl
theorem zs3_mem : ∀ k, ∀ z ∈ zs3 k, 0 < z ∧ z < 1073741824
  | 0, z, h => by cases h
  | k + 1, z, h => by
    unfold zs3 at h
    rcases List.mem_append.mp h with h | h
    · exact zs3_mem k z h
    · simp only [List.mem_cons, List.not_mem_nil, or_false] at h
      omega
theorem zs3_at : ∀ (k i : Nat), i < k → (zs3 k)[3 * i]? = some 7 ∧ (zs3 k)[3 * i + 1]? = some 16 ∧ (zs3 k)[3 * i + 2]? = some 301
  | 0, i, h => absurd h (Nat.not_lt_zero i)
  | k + 1, i, h => by
    unfold zs3
    have hl := zs3_len k
    by_cases e : i < k
    · obtain ⟨a, b, c⟩ := zs3_at k i e
      rw [List.getElem?_append_left (by omega), List.getElem?_append_left (by omega), List.getElem?_append_left (by omega)]
      exact ⟨a, b, c⟩
    · have : i = k := by omega
      subst this
      rw [List.getElem?_append_right (by omega), List.getElem?_append_right (by omega), List.getElem?_append_right (by omega), hl, Nat.sub_self, show 3 * i + 1 - 3 * i = 1 by omega, show 3 * i + 2 - 3 * i = 2 by omega]
      exact ⟨rfl, rfl, rfl⟩
def sp_sumsL (K : PySem.W.Frag) : Sp := fun vs H Q _ => ∃ (a pr : Addr) (ns : List Int) (us : List V) (ps : K02.PL) (p n md : Nat), vs = [.ref a, nV p, nV n, .ref pr, nV md] ∧ SqL K H a (ns.map V.int) ∧ ns.length ≤ 63 ∧ SqL K H pr us ∧ Prs K H us ps ∧ K02.Within n ps ∧ ps.length ≤ 40 ∧ 1 ≤ p ∧ p ≤ 60 ∧ n ≤ 20 ∧
  ∀ x us' sums H', Same H H' → H x = none → H' x = some (.lst us') → Trs K H' us' (upS sums) → OkS n sums → sums.length ≤ 40 → Q (.ref x) H'
theorem ok_sumsL {f f1 f2 : Addr} {fd fd1 fd2 : FuncData} (F : Fun K "_law_sums" "_law_sums" s_law_sums f fd) (T : Txt mg) (C_law_draws : Cal P w K mg base 1 "_law_draws" ["cell", "sizes"] (sp_draws K) f1 fd1) (C_law_cell : Cal P w K mg base 1 "_law_cell" ["script", "k"] (sp_cell K) f2 fd2) :
    FnOk P w K mg base CX0 2 f fd ["script", "period", "lines", "pairs", "mode"] (sp_sumsL K) := by
  refine F.ok sc_law_sums (fun vs H Q E h => ?_) (fun cdv A outer s H vs Q E hr h => ?_)
  · obtain ⟨a, pr, ns, us, ps, p, n, md, rfl, _⟩ := h
    rfl
  · obtain ⟨a, pr, ns, us, ps, p, n, md, rfl, hS, hns, hA, hP, hW, hpl, hp1, hp2, hn, q⟩ := h
    refine ⟨_, (pss_cons (ps_set (i := 5) sc_law_sums.nd rfl (.inl rfl) (pe_call C_law_draws.ok (hr.mono (by decide)) (by rfl) C_law_draws.mg C_law_draws.kp C_law_draws.b .nil pass0 (pa_cons (pe_call C_law_cell.ok (hr.mono (by decide)) (by rfl) C_law_cell.mg C_law_cell.kp C_law_cell.b .nil pass0 (pa_cons (pv 0) (pa_cons pe_int pa_nil))) (pa_cons (pe_lc (own := [("line", 16)]) (g := gName 16) (tt := tYes) rfl sc_law_sums.nd (pi_range1 rfl T.range (pa_cons (pv 2) pa_nil)) (blkOk_by (N := ["script", "period", "lines", "pairs", "mode", "phases", "sizes", "k", "drawn", "sums", "i", "j", "turns", "diff", "spoil", "place", "line"]) (sc := defScope s_law_sums) (by decide +kernel)) (fun _ _ _ _ _ => (pg_name (i := 16) sc_law_sums.nd rfl (.inl rfl))) (fun _ _ _ _ _ => pts_nil) (fun _ _ _ _ _ => (pv 1))) pa_nil))))
 (pss_cons (ps_set (i := 6) sc_law_sums.nd rfl (.inl rfl) (pe_lst pa_nil))
 (pss_cons (ps_for PassesOwn.never rfl (pi_range1 rfl T.range (pa_cons (pe_callB call_len_seq (by rfl) T.len (by decide +kernel) (pa_cons (pv 3) pa_nil)) pa_nil)) (pg_name (i := 7) sc_law_sums.nd rfl (.inl rfl))
 (pss_one (ps_expr (pe_bm PySem.F.plainAttrs_list PySem.F.slot_list_extend PySem.F.type_list_extend mt_extend (pv 6) (pa_cons (pe_lst (pa_cons pe_int (pa_cons pe_int (pa_cons pe_int pa_nil)))) pa_nil)))))
 (pss_cons (ps_set (i := 8) sc_law_sums.nd rfl (.inl rfl) (pe_call C_law_draws.ok (hr.mono (by decide)) (by rfl) C_law_draws.mg C_law_draws.kp C_law_draws.b .nil pass0 (pa_cons (pe_call C_law_cell.ok (hr.mono (by decide)) (by rfl) C_law_cell.mg C_law_cell.kp C_law_cell.b .nil pass0 (pa_cons (pv 0) (pa_cons pe_int pa_nil))) (pa_cons (pv 6) pa_nil))))
 (pss_cons (ps_set (i := 9) sc_law_sums.nd rfl (.inl rfl) (pe_lst pa_nil))
 (pss_cons (ps_for PassesOwn.never rfl (pi_range1 rfl T.range (pa_cons (pe_callB call_len_seq (by rfl) T.len (by decide +kernel) (pa_cons (pv 3) pa_nil)) pa_nil)) (pg_name (i := 7) sc_law_sums.nd rfl (.inl rfl))
 (pss_cons (ps_asg (pe_ix ix_list (pv 3) (pv 7) (fun _ _ => rfl)) (pg_tup rfl (pgs_cons (pg_name (i := 10) sc_law_sums.nd rfl (.inl rfl)) (pgs_cons (pg_name (i := 11) sc_law_sums.nd rfl (.inl rfl)) pgs_nil))))
 (pss_cons (ps_set (i := 12) sc_law_sums.nd rfl (.inl rfl) (pe_op op_sub (pe_ix ix_list (pv 8) (pe_op op_mul pe_int (pv 7)) (fun _ _ => rfl)) pe_int))
 (pss_cons (ps_if (pt_cmpR op_eq (pe_ix ix_list (pv 8) (pe_op op_add (pe_op op_mul pe_int (pv 7)) pe_int) (fun _ _ => rfl)) pe_int (nomark _))
 (pss_one (ps_set (i := 12) sc_law_sums.nd rfl (.inl rfl) (pe_op op_mul (pv 12) (pe_op op_pow pe_int pe_int))))
 pss_nil)
 (pss_cons (ps_set (i := 13) sc_law_sums.nd rfl (.inl rfl) (pe_op op_sub (pe_ix ix_list (pv 5) (pv 11) (fun _ _ => rfl)) (pe_ix ix_list (pv 5) (pv 10) (fun _ _ => rfl))))
 (pss_cons (ps_if (pt_cmpR op_eq (pv 4) pe_int (nomark _))
 (pss_one (ps_set (i := 13) sc_law_sums.nd rfl (.inl rfl) (pe_op op_sub (pe_ix ix_list (pv 8) (pe_op op_add (pe_op op_mul pe_int (pv 7)) pe_int) (fun _ _ => rfl)) pe_int)))
 pss_nil)
 (pss_one (ps_expr (pe_bm PySem.F.plainAttrs_list PySem.F.slot_list_append PySem.F.type_list_append mt_append (pv 9) (pa_cons (pe_tup (pa_cons (pv 10) (pa_cons (pv 11) (pa_cons (pe_op op_add (pv 13) (pe_op op_mul (pv 1) (pv 12))) pa_nil)))) pa_nil))))))))))
 (pss_cons (ps_if (PW.pt (pw_and (pt_cmpR op_eq (pv 4) pe_int (nomark _)) (pw_and1 (pt_cmpR op_gt (pe_callB call_len_seq (by rfl) T.len (by decide +kernel) (pa_cons (pv 9) pa_nil)) pe_int (nomark _)))))
 (pss_cons (ps_set (i := 14) sc_law_sums.nd rfl (.inl rfl) (pe_call C_law_draws.ok (hr.mono (by decide)) (by rfl) C_law_draws.mg C_law_draws.kp C_law_draws.b .nil pass0 (pa_cons (pe_call C_law_cell.ok (hr.mono (by decide)) (by rfl) C_law_cell.mg C_law_cell.kp C_law_cell.b .nil pass0 (pa_cons (pv 0) (pa_cons pe_int pa_nil))) (pa_cons (pe_lst (pa_cons pe_int (pa_cons pe_int pa_nil))) pa_nil))))
 (pss_cons (ps_set (i := 15) sc_law_sums.nd rfl (.inl rfl) (pe_op op_modN (pe_callTy call_int1 (by rfl) T.int (by decide +kernel) (pa_cons (pe_ix ix_list (pv 14) pe_int (fun _ _ => rfl)) pa_nil)) (pe_callB call_len_seq (by rfl) T.len (by decide +kernel) (pa_cons (pv 9) pa_nil))))
 (pss_cons (ps_asg (pe_ix ix_list (pv 9) (pv 15) (fun _ _ => rfl)) (pg_tup rfl (pgs_cons (pg_name (i := 10) sc_law_sums.nd rfl (.inl rfl)) (pgs_cons (pg_name (i := 11) sc_law_sums.nd rfl (.inl rfl)) (pgs_cons (pg_name (i := 13) sc_law_sums.nd rfl (.inl rfl)) pgs_nil)))))
 (pss_one (ps_asg (pe_tup (pa_cons (pv 10) (pa_cons (pv 11) (pa_cons (pe_op op_add (pe_op op_add (pv 13) pe_int) (pe_op op_modN (pe_callTy call_int1 (by rfl) T.int (by decide +kernel) (pa_cons (pe_ix ix_list (pv 14) pe_int (fun _ _ => rfl)) pa_nil)) (pe_callB (call_max2 rfl) (by rfl) T.max (by decide +kernel) (pa_cons pe_int (pa_cons (pe_op op_sub (pv 1) pe_int) pa_nil))))) pa_nil)))) (pg_sub (pv 9) (pv 15) set_list))))))
 pss_nil)
 (pss_one (ps_ret (pv 9)))))))))), ?_⟩
    have hul : us.length = ps.length := P_len hP
    -- phases
    refine ⟨_, rfl, a, ns, 3, rfl, hS, hns, by decide, fun c H1 s1 => ⟨_, rfl, _, rfl, (by omega), (by omega), ?_⟩⟩
    rw [show ((n : Nat) : Int).toNat = n by omega]
    refine fun D nD => ?_
    refine lc_range (lo := 0) (n := n) (fun i H' => Same H1 H' ∧ H' D = some (.lst ((List.replicate i p).map nV))) ⟨(Same.refl H1).new nD, upd_same⟩ ?_ ?_
    · rintro i H2 hi ⟨s2, e2⟩
      refine ⟨rfl, _, rfl, _, e2, ?_, s2.mut nD, ?_⟩
      · rw [List.length_map, List.length_replicate]
        exact szl (by omega)
      · rw [upd_same, List.replicate_succ', List.map_append]
        rfl
    rintro H2 ⟨s2, e2⟩
    refine ⟨D, c, List.replicate n p, rfl, SqL.of e2, by rw [List.length_replicate]; omega, fun z hz => by rw [List.eq_of_mem_replicate hz]; omega, fun fp fs H3 s3 nfp efp dr1 => ?_⟩
    have t3 : Same H H3 := (s1.trans s2).trans s3
    -- sizes
    refine ⟨Nat.zero_le _, fun z nz => ?_⟩
    have s4 : Same H3 (upd H3 z (.lst [])) := (Same.refl H3).new nz
    refine ⟨_, rfl, pr, us, rfl, .inl ((t3.trans s4).seq hA), _, rfl, (by omega), (by omega), ?_⟩
    rw [show ((us.length : Nat) : Int).toNat = ps.length by omega]
    refine for_range (lo := 0) (n := ps.length) (fun i σ H' => ∃ (v7 : Option V), σ = [some (.ref a), some (nV p), some (nV n), some (.ref pr), some (nV md), some (.ref fp), some (.ref z), v7, none, none, none, none, none, none, none, none, none] ∧ Same H3 H' ∧ H' z = some (.lst ((zs3 i).map nV)))
      ⟨_, rfl, s4, upd_same⟩ ?_ ?_
    · rintro i σ H' hi ⟨v7, rfl, sm, e⟩
      refine ⟨_, rfl, .inl ⟨rfl, _, SqL.of e⟩, (by show 3 ≤ sizeLine; decide), fun t nt => ?_⟩
      have ezt : z ≠ t := ne_of_none e nt
      refine ⟨z, t, _, _, rfl, rfl, (by rw [upd_ne ezt]; exact e), upd_same, ?_, ?_⟩
      · rw [List.length_map, zs3_len]
        exact szle (by show 3 * i + 3 ≤ 10000; omega)
      · refine ⟨_, rfl, (sm.new nt).mut nz, ?_⟩
        rw [upd_same, show zs3 (i + 1) = zs3 i ++ [7, 16, 301] from rfl, List.map_append]
        rfl
    rintro σ H4 ⟨v7, rfl, s34, ez⟩
    -- drawn
    refine ⟨_, rfl, a, ns, 4, rfl, (t3.trans s34).seq hS, hns, by decide, fun c2 H5 s5 => ⟨_, rfl, z, c2, zs3 ps.length, rfl, s5.seq (SqL.of ez), by rw [zs3_len]; omega, zs3_mem _, fun dp ds H6 s6 ndp edp dr2 => ?_⟩⟩
    have t6 : Same H H6 := ((t3.trans s34).trans s5).trans s6
    have efp6 := (((s34.trans s5).trans s6)) _ _ efp
    -- sums
    refine ⟨Nat.zero_le _, fun sx nsx => ?_⟩
    have s7 : Same H6 (upd H6 sx (.lst [])) := (Same.refl H6).new nsx
    have nsx0 : H sx = none := t6.free nsx
    refine ⟨_, rfl, pr, us, rfl, .inl ((t6.trans s7).seq hA), _, rfl, (by omega), (by omega), ?_⟩
    rw [show ((us.length : Nat) : Int).toNat = ps.length by omega]
    refine for_range (lo := 0) (n := ps.length) (fun i σ H' => ∃ (sv : List V) (sums : SM) (v7 v10 v11 v12 v13 : Option V), σ = [some (.ref a), some (nV p), some (nV n), some (.ref pr), some (nV md), some (.ref fp), some (.ref z), v7, some (.ref dp), some (.ref sx), v10, v11, v12, v13, none, none, none] ∧ Same H6 H' ∧ H' sx = some (.lst sv) ∧ Trs K H' sv (upS sums) ∧ OkT n sums ∧ sums.length = i)
      ⟨[], [], _, _, _, _, _, rfl, s7, upd_same, .nil, fun q hq => (by cases hq), rfl⟩ ?_ ?_
    · rintro i σ H' hi ⟨sv, sums, v7, v10, v11, v12, v13, rfl, sm, esx, hT, hO, hl⟩
      rw [show (0 : Int) + (i : Int) = (i : Int) by omega]
      have tt := t6.trans sm
      obtain ⟨⟨x, y⟩, hxy⟩ := get_lt hi
      obtain ⟨v, hv, t0, rfl, et0⟩ := P_left hP hxy
      obtain ⟨bx, by'⟩ := hW _ (List.mem_of_getElem? hxy)
      dsimp only at bx by'
      obtain ⟨fx, hfx, bfx⟩ := P_left dr1 (i := x) (y := p) (by rw [List.getElem?_replicate, if_pos bx])
      obtain ⟨fy, hfy, bfy⟩ := P_left dr1 (i := y) (y := p) (by rw [List.getElem?_replicate, if_pos by'])
      obtain ⟨z1, z2, z3⟩ := zs3_at ps.length i hi
      obtain ⟨d0, hd0, bd0⟩ := P_left dr2 z1
      obtain ⟨d1, hd1, bd1⟩ := P_left dr2 z2
      obtain ⟨d2, hd2, bd2⟩ := P_left dr2 z3
      have hD := sm.seq (SqL.of (K := K) edp)
      have hF := sm.seq (SqL.of (K := K) efp6)
      -- i, j = pairs[k]
      refine ⟨_, rfl, _, rfl, pr, _, _, _, rfl, rfl, tt.seq hA, at_n hv, t0, _, rfl, tt.seqT et0, rfl, _, _, rfl, _, _, rfl, rfl, ?_⟩
      -- turns
      dsimp only
      refine asgN ⟨_, rfl, _, rfl, _, _, rfl, rfl, .inl ⟨by decide, by decide⟩, dp, _, _, nV d0, rfl, rfl, hD, at_n (j := 3 * i) (getn hd0), _, _, rfl, rfl, fun σ' e => ?_⟩
      obtain rfl : σ' = [some (.ref a), some (nV p), some (nV n), some (.ref pr), some (nV md), some (.ref fp), some (.ref z), some (nV i), some (.ref dp), some (.ref sx), some (nV x), some (nV y), some (.int ((d0 : Int) - 3)), v13, none, none, none] := e.symm
      clear e
      refine ifset1 (v1 := .int (((d0 : Int) - 3) * 10 ^ (12 : Int).toNat)) (w1 := .int ((d0 : Int) - 3)) (fun Q' hq => ⟨_, rfl, _, rfl, _, _, rfl, rfl, .inl ⟨by decide, by decide⟩, _, _, rfl, rfl, dp, _, _, nV d1, rfl, rfl, hD, at_n (j := 3 * i + 1) (getn hd1), rfl, _, rfl, hq _⟩) rfl
        (fun Q' hq => ⟨_, rfl, _, _, rfl, rfl, ⟨by decide, by decide, by decide⟩, _, _, rfl, rfl, .inl ⟨by omega, by omega⟩, hq⟩) fun u1 hu1 => ?_
      obtain ⟨tn, rfl, btn⟩ : ∃ tn : Int, u1 = .int tn ∧ tn.natAbs ≤ 3 * 10 ^ 12 := by
        have e12 : (10 : Int) ^ (12 : Int).toNat = 1000000000000 := by decide
        have e12n : (3 : Nat) * 10 ^ 12 = 3000000000000 := by decide
        rcases hu1 with rfl | rfl
        · exact ⟨_, rfl, by rw [e12, e12n]; omega⟩
        · exact ⟨_, rfl, by rw [e12n]; omega⟩
      -- diff
      refine asgN ⟨_, rfl, _, rfl, fp, _, _, nV fy, rfl, rfl, hF, at_n (getn hfy), _, rfl, _, rfl, fp, _, _, nV fx, rfl, rfl, hF, at_n (getn hfx), _, _, rfl, rfl, fun σ' e => ?_⟩
      obtain rfl : σ' = [some (.ref a), some (nV p), some (nV n), some (.ref pr), some (nV md), some (.ref fp), some (.ref z), some (nV i), some (.ref dp), some (.ref sx), some (nV x), some (nV y), some (.int tn), some (.int ((fy : Int) - (fx : Int))), none, none, none] := e.symm
      clear e
      refine ifset1 (v1 := .int ((d2 : Int) - 150)) (w1 := .int ((fy : Int) - (fx : Int))) (fun Q' hq => ⟨_, rfl, rfl, _, rfl, hq _⟩) rfl
        (fun Q' hq => ⟨_, rfl, _, rfl, _, _, rfl, rfl, .inl ⟨by decide, by decide⟩, _, _, rfl, rfl, dp, _, _, nV d2, rfl, rfl, hD, at_n (j := 3 * i + 2) (getn hd2), _, _, rfl, rfl, hq⟩) fun u2 hu2 => ?_
      obtain ⟨df, rfl, bdf⟩ : ∃ df : Int, u2 = .int df ∧ df.natAbs ≤ 200 := by
        rcases hu2 with rfl | rfl
        · exact ⟨_, rfl, by omega⟩
        · exact ⟨_, rfl, by omega⟩
      -- sums.append(..)
      refine ⟨_, rfl, .inl ⟨rfl, _, SqL.of esx⟩, _, rfl, _, rfl, _, rfl, _, rfl, _, rfl, _, _, rfl, rfl, .inl ⟨by omega, by omega⟩, _, _, rfl, rfl, (by show 3 ≤ sizeLine; decide), fun t1 n1 => ⟨sx, _, _, rfl, rfl, by rw [upd_ne (ne_of_none esx n1)]; exact esx, ?_, ?_⟩⟩
      · rw [P_len hT, upS_len, hl]
        exact szl (by omega)
      refine ⟨sv ++ [V.ref t1], sums ++ [(x, y, df + (p : Int) * tn)], _, _, _, _, _, rfl, (sm.new n1).mut nsx, upd_same, ?_, hO.snoc ⟨bx, by', ?_⟩, by rw [List.length_append, hl]; rfl⟩
      · rw [upS_app]
        have e1 : (upd H' t1 (.tup [nV x, nV y, .int (df + (p : Int) * tn)])) sx = some (.lst sv) := by rw [upd_ne (ne_of_none esx n1)]; exact esx
        exact P_append ((hT.new n1).mutL e1) (.cons ⟨t1, rfl, sqT_mutL (SqT.of upd_same) e1⟩ .nil)
      · show (df + (p : Int) * tn).natAbs ≤ 10 ^ 15
        have h1 : ((p : Int) * tn).natAbs = p * tn.natAbs := by rw [Int.natAbs_mul]; rfl
        have h2 : p * tn.natAbs ≤ 60 * (3 * 10 ^ 12) := Nat.mul_le_mul hp2 btn
        have e12n : (60 : Nat) * (3 * 10 ^ 12) = 180000000000000 := by decide
        have e15 : (10 : Nat) ^ 15 = 1000000000000000 := by decide
        rw [e12n] at h2
        rw [e15]
        omega
    rintro σ H7 ⟨sv, sums, v7, v10, v11, v12, v13, rfl, sm, esx, hT, hO, hl⟩
    have t7 := t6.trans sm
    have fin := q sx sv sums H7 t7 nsx0 esx hT hO.s (by omega)
    have hsl : sv.length = sums.length := by rw [P_len hT, upS_len]
    refine ⟨_, rfl, rfl, _, rfl, ite2 (fun _ => ?_) (fun _ => iteF ⟨_, rfl, fin⟩)⟩
    refine ⟨_, rfl, sx, _, rfl, .inl (SqL.of esx), _, _, rfl, rfl, _, rfl, ite2 (fun hpos => ?_) (fun _ => ⟨_, rfl, fin⟩)⟩
    have hpos : 0 < sums.length := by
      have := of_decide_eq_true hpos
      omega
    -- spoilt
    refine ⟨_, rfl, a, ns, 5, rfl, t7.seq hS, hns, by decide, fun c3 H8 s8 => ⟨(by show 2 ≤ sizeLine; decide), fun z2 nz2 => ⟨z2, c3, [60, 60], rfl, SqL.of upd_same, by decide, by decide, fun sp ss H9 s9 nsp esp dr3 => ?_⟩⟩⟩
    obtain ⟨g0, g1, rfl, bg0, bg1⟩ : ∃ g0 g1, ss = [g0, g1] ∧ g0 < 60 ∧ g1 < 60 := by
      cases dr3 with | cons h0 dr => cases dr with | cons h1 dr => cases dr with | nil => exact ⟨_, _, rfl, h0, h1⟩
    have s79 : Same H7 H9 := (s8.new nz2).trans s9
    have hG : SqL K H9 sp ([g0, g1].map nV) := SqL.of esp
    have esx9 := s79 _ _ esx
    obtain ⟨k, ek, hk⟩ := fmod_nat (g0 : Int) (z := sv.length) (by omega)
    obtain ⟨⟨x, y, d⟩, hs⟩ := get_lt (l := sums) (i := k) (by omega)
    obtain ⟨v, hv, t0, rfl, et0⟩ := P_left hT (show (upS sums)[k]? = some ((x : Int), (y : Int), d) by unfold upS; rw [List.getElem?_map, hs]; rfl)
    obtain ⟨bx, by', bd⟩ := hO _ (List.mem_of_getElem? hs)
    dsimp only at bx by' bd
    refine ⟨_, rfl, sp, _, 0, nV g0, rfl, rfl, hG, at_n (j := 0) rfl, .inl ⟨_, rfl, _, rfl, sx, _, rfl, .inl (SqL.of esx9), _, _, rfl, rfl, (by show ((sv.length : Nat) : Int) ≠ 0; omega), ?_⟩⟩
    dsimp only
    rw [ek]
    refine ⟨_, rfl, _, rfl, sx, _, _, _, rfl, rfl, SqL.of esx9, at_n hv, t0, _, rfl, s79.seqT et0, rfl, _, _, rfl, _, _, rfl, _, _, rfl, rfl, ?_⟩
    have emax : (if ((p : Int) - 1) > 1 then ((p : Int) - 1) else 1) = ((max 1 (p - 1) : Nat) : Int) := by
      split <;> omega
    obtain ⟨m, em, hm⟩ := fmod_nat (g1 : Int) (z := max 1 (p - 1)) (by omega)
    refine ⟨_, rfl, _, rfl, _, rfl, _, _, rfl, rfl, _, rfl, sp, _, 1, nV g1, rfl, rfl, hG, at_n (j := 1) rfl, .inl ⟨_, rfl, _, rfl, _, _, rfl, rfl, _, _, rfl, ?_⟩⟩
    rw [emax]
    refine ⟨_, _, rfl, rfl, (by show ((max 1 (p - 1) : Nat) : Int) ≠ 0; omega), ?_⟩
    dsimp only
    rw [em]
    refine ⟨_, _, rfl, rfl, (by show 3 ≤ sizeLine; decide), fun t1 n1 => ?_⟩
    have e1 : (upd H9 t1 (.tup [nV x, nV y, .int (d + 1 + (m : Int))])) sx = some (.lst sv) := by rw [upd_ne (ne_of_none esx9 n1)]; exact esx9
    refine ⟨_, rfl, _, rfl, sx, _, (k : Int), k, rfl, rfl, e1, ixn hk, ?_⟩
    refine ⟨_, rfl, q sx _ (sums.set k (x, y, d + 1 + (m : Int))) _ (((t7.trans s79).new n1).mut nsx0) nsx0 upd_same ?_ ?_ (by rw [List.length_set]; omega)⟩
    · rw [upS_set]
      exact P_set (((hT.same s79).new n1).mutL e1) ⟨t1, rfl, sqT_mutL (SqT.of upd_same) e1⟩
    · intro q' hq'
      rcases List.mem_or_eq_of_mem_set hq' with h | h
      · exact hO.s q' h
      · rw [h]
        refine ⟨bx, by', ?_⟩
        show (d + 1 + (m : Int)).natAbs ≤ 10 ^ 16
        have e15 : (10 : Nat) ^ 15 = 1000000000000000 := by decide
        have e16 : (10 : Nat) ^ 16 = 10000000000000000 := by decide
        rw [e15] at bd
        rw [e16]
        omega
end
end K32W

namespace K32W
open PySem PySem.Spec PyProof.Rows L2 KH K32 KD
abbrev s_law_right : Stmt := topS 30
theorem sc_law_right : FnScope ["told", "due", "k", "one"] ["told", "due"] (defScope s_law_right) := ⟨rfl, rfl, rfl, by decide +kernel, rfl, by decide +kernel, by decide +kernel⟩

/-- at t the answer o -/
def Says (H : Hp) (t : Addr) (o : Out) : Prop := ∃ x, match o with
  | .ring l => H t = some (.tup [.str "ring", .ref x]) ∧ TelL H x l
  | .phases q => H t = some (.tup [.str "phases", .ref x]) ∧ H x = some (.lst (IL q))
theorem Told.says {H0 H : Hp} {t x : Addr} {o : Out} (h : Told H0 H t x o) : Says H t o := by
  refine ⟨x, ?_⟩
  have := h.2
  cases o with
  | ring l => exact this
  | phases q => exact this
theorem Says.same {H H' : Hp} {t : Addr} {o : Out} (h : Says H t o) (s : Same H H') : Says H' t o := by
  obtain ⟨x, h⟩ := h
  refine ⟨x, ?_⟩
  cases o with
  | ring l => exact ⟨s _ _ h.1, h.2.same s⟩
  | phases q => exact ⟨s _ _ h.1, s _ _ h.2⟩
def olen : Out → Nat
  | .ring l => l.length
  | .phases q => q.length
theorem shapedI (z : Int) : SeqAt.shaped (.int z) = true := by
  unfold SeqAt.shaped
  simp [PyData.canLay0, PyData.depth]
theorem eqvI (z : Int) : PyData.eqv (.int z) (.int z) = true := by simp [PyData.eqv]
section
variable {P : Program} {w : World} {K : PySem.W.Frag} {mg : Str → Option Value} {base : Heap} {CN CB CD CT CU fI : Addr}
def sp_right : Sp := fun vs H Q _ => ∃ (t u : Addr) (o : Out), vs = [.ref t, .ref u] ∧ Says H t o ∧ Says H u o ∧ olen o ≤ 1000 ∧ ∀ H', Same H H' → Q (.bl true) H'
theorem ok_right {f f1 : Addr} {fd fd1 : FuncData} (F : Fun K "_law_right" "_law_right" s_law_right f fd) (T : Txt mg) (C_law_number : Cal P w K mg base 1 "_law_number" ["thing"] sp_number f1 fd1) : FnOk P w K mg base CX0 2 f fd ["told", "due"] sp_right := by
  refine F.ok sc_law_right (fun vs H Q E h => ?_) (fun cdv A outer s H vs Q E hr h => ?_)
  · obtain ⟨t, u, o, rfl, _⟩ := h
    rfl
  · obtain ⟨t, u, o, rfl, ht, hu, hol, q⟩ := h
    refine ⟨_, (pss_cons (ps_if (PW.pt (pw_or (pt_not (pt_val (pe_callB call_isi (by rfl) T.isinstance (by decide +kernel) (pa_cons (pv 0) (pa_cons (pe_bltn (v := .ty "tuple") (by rfl) T.tuple (by decide +kernel) rfl) pa_nil))))) (pw_or1 (pt_cmpR op_ne (pe_callB call_len_seq (by rfl) T.len (by decide +kernel) (pa_cons (pv 0) pa_nil)) pe_int (nomark _)))))
 (pss_one (ps_ret pe_bl))
 pss_nil)
 (pss_cons (ps_if (PW.pt (pw_or (pt_not (pt_val (pe_callB call_isi (by rfl) T.isinstance (by decide +kernel) (pa_cons (pe_ix ix_tup (pv 0) pe_int (fun _ _ => rfl)) (pa_cons (pe_bltn (v := .ty "str") (by rfl) T.str (by decide +kernel) rfl) pa_nil))))) (pw_or1 (pt_cmpR op_ne (pe_ix ix_tup (pv 0) pe_int (fun _ _ => rfl)) (pe_ix ix_tup (pv 1) pe_int (fun _ _ => rfl)) (nomark _)))))
 (pss_one (ps_ret pe_bl))
 pss_nil)
 (pss_cons (ps_if (PW.pt (pw_or (pt_not (pt_val (pe_callB call_isi (by rfl) T.isinstance (by decide +kernel) (pa_cons (pe_ix ix_tup (pv 0) pe_int (fun _ _ => rfl)) (pa_cons (pe_bltn (v := .ty "list") (by rfl) T.list (by decide +kernel) rfl) pa_nil))))) (pw_or1 (pt_cmpR op_ne (pe_callB call_len_seq (by rfl) T.len (by decide +kernel) (pa_cons (pe_ix ix_tup (pv 0) pe_int (fun _ _ => rfl)) pa_nil)) (pe_callB call_len_seq (by rfl) T.len (by decide +kernel) (pa_cons (pe_ix ix_tup (pv 1) pe_int (fun _ _ => rfl)) pa_nil)) (nomark _)))))
 (pss_one (ps_ret pe_bl))
 pss_nil)
 (pss_cons (ps_for PassesOwn.never rfl (pi_range1 rfl T.range (pa_cons (pe_callB call_len_seq (by rfl) T.len (by decide +kernel) (pa_cons (pe_ix ix_tup (pv 1) pe_int (fun _ _ => rfl)) pa_nil)) pa_nil)) (pg_name (i := 2) sc_law_right.nd rfl (.inl rfl))
 (pss_cons (ps_set (i := 3) sc_law_right.nd rfl (.inl rfl) (pe_ix ix_list (pe_ix ix_tup (pv 0) pe_int (fun _ _ => rfl)) (pv 2) (fun _ _ => rfl)))
 (pss_one (ps_if (pt_cmpR op_eq (pe_ix ix_tup (pv 1) pe_int (fun _ _ => rfl)) pe_str (nomark _))
 (pss_one (ps_if (PW.pt (pw_or (pt_not (pt_val (pe_call C_law_number.ok (hr.mono (by decide)) (by rfl) C_law_number.mg C_law_number.kp C_law_number.b .nil pass0 (pa_cons (pv 3) pa_nil)))) (pw_or1 (pt_cmpR (op_neD hr.units) (pv 3) (pe_ix ix_list (pe_ix ix_tup (pv 1) pe_int (fun _ _ => rfl)) (pv 2) (fun _ _ => rfl)) (nomark _)))))
 (pss_one (ps_ret pe_bl))
 pss_nil))
 (pss_cons (ps_if (PW.pt (pw_or (pt_not (pt_val (pe_callB call_isi (by rfl) T.isinstance (by decide +kernel) (pa_cons (pv 3) (pa_cons (pe_bltn (v := .ty "tuple") (by rfl) T.tuple (by decide +kernel) rfl) pa_nil))))) (pw_or1 (pt_cmpR op_ne (pe_callB call_len_seq (by rfl) T.len (by decide +kernel) (pa_cons (pv 3) pa_nil)) pe_int (nomark _)))))
 (pss_one (ps_ret pe_bl))
 pss_nil)
 (pss_one (ps_if (PW.pt (pw_or (pt_not (pt_val (pe_call C_law_number.ok (hr.mono (by decide)) (by rfl) C_law_number.mg C_law_number.kp C_law_number.b .nil pass0 (pa_cons (pe_ix ix_tup (pv 3) pe_int (fun _ _ => rfl)) pa_nil)))) (pw_or (pt_not (pt_val (pe_call C_law_number.ok (hr.mono (by decide)) (by rfl) C_law_number.mg C_law_number.kp C_law_number.b .nil pass0 (pa_cons (pe_ix ix_tup (pv 3) pe_int (fun _ _ => rfl)) pa_nil)))) (pw_or1 (pt_cmpR (op_neD hr.units) (pv 3) (pe_ix ix_list (pe_ix ix_tup (pv 1) pe_int (fun _ _ => rfl)) (pv 2) (fun _ _ => rfl)) (nomark _))))))
 (pss_one (ps_ret pe_bl))
 pss_nil)))))))
 (pss_one (ps_ret pe_bl)))))), ?_⟩
    cases o with
    | phases l =>
      obtain ⟨xt, et, ext⟩ := ht
      obtain ⟨xu, eu, exu⟩ := hu
      have hl : l.length ≤ 1000 := hol
      have hil : (IL l).length = l.length := List.length_map ..
      refine ⟨_, rfl, _, _, _, _, true, rfl, .ty "tuple", .base (.tup et), kit_ty (by decide +kernel), _, rfl, iteF ⟨_, rfl, t, _, rfl, .inr (SqT.of et), rfl, _, rfl, iteF ?_⟩⟩
      refine ⟨_, rfl, t, _, 0, .str "phases", rfl, rfl, SqT.of et, rfl, _, _, _, _, true, rfl, .ty "str", .base (.str _), kit_ty (by decide +kernel), _, rfl, iteF ?_⟩
      refine ⟨_, rfl, t, _, 0, .str "phases", rfl, rfl, SqT.of et, rfl, _, rfl, u, _, 0, .str "phases", rfl, rfl, SqT.of eu, rfl, rfl, _, rfl, ?_⟩
      rw [decide_eq_true rfl]
      refine iteF ?_
      refine ⟨_, rfl, t, _, 1, .ref xt, rfl, rfl, SqT.of et, rfl, _, _, _, _, true, rfl, .ty "list", .base (.lst ext), kit_ty (by decide +kernel), _, rfl, iteF ?_⟩
      refine ⟨_, rfl, t, _, 1, .ref xt, rfl, rfl, SqT.of et, rfl, xt, _, rfl, .inl (SqL.of ext), _, rfl, u, _, 1, .ref xu, rfl, rfl, SqT.of eu, rfl, xu, _, rfl, .inl (SqL.of exu), rfl, _, rfl, ?_⟩
      rw [decide_eq_true (by rw [(rfl : (IL l).length = (IL l).length)])]
      refine iteF ?_
      refine ⟨_, rfl, u, _, 1, .ref xu, rfl, rfl, SqT.of eu, rfl, xu, _, rfl, .inl (SqL.of exu), _, rfl, (by omega), (by omega), ?_⟩
      rw [show (((IL l).length : Nat) : Int).toNat = l.length by omega]
      refine for_range (lo := 0) (n := l.length) (fun k σ H' => ∃ v2 v3 : Option V, σ = [some (.ref t), some (.ref u), v2, v3] ∧ H' = H) ⟨_, _, rfl, rfl⟩ ?_ ?_
      · rintro k σ H' hk ⟨v2, v3, rfl, rfl⟩
        rw [show (0 : Int) + (k : Int) = (k : Int) by omega]
        obtain ⟨z, hz⟩ := get_lt hk
        refine ⟨_, rfl, t, _, 1, .ref xt, rfl, rfl, SqT.of et, rfl, _, rfl, xt, _, _, _, rfl, rfl, SqL.of ext, at_n (getn hz), ?_⟩
        refine ⟨_, rfl, u, _, 0, .str "phases", rfl, rfl, SqT.of eu, rfl, rfl, _, rfl, ?_⟩
        rw [decide_eq_true rfl]
        refine iteT ?_
        refine ⟨_, rfl, z, rfl, _, rfl, iteF ?_⟩
        refine ⟨_, rfl, _, rfl, u, _, 1, .ref xu, rfl, rfl, SqT.of eu, rfl, _, rfl, xu, _, _, _, rfl, rfl, SqL.of exu, at_n (getn hz), .int z, .int z, .int z, .int z, shapedI z, shapedI z, _, rfl, ?_⟩
        rw [eqvI]
        exact iteF ⟨_, _, rfl, rfl⟩
      · rintro σ H' ⟨v2, v3, rfl, rfl⟩
        exact q _ (Same.refl _)
    | ring l =>
      obtain ⟨xt, et, tv, ext, tpt⟩ := ht
      obtain ⟨xu, eu, uv, exu, tpu⟩ := hu
      have hl : l.length ≤ 1000 := hol
      have htl : tv.length = l.length := P_len tpt
      have hul : uv.length = l.length := P_len tpu
      refine ⟨_, rfl, _, _, _, _, true, rfl, .ty "tuple", .base (.tup et), kit_ty (by decide +kernel), _, rfl, iteF ⟨_, rfl, t, _, rfl, .inr (SqT.of et), rfl, _, rfl, iteF ?_⟩⟩
      refine ⟨_, rfl, t, _, 0, .str "ring", rfl, rfl, SqT.of et, rfl, _, _, _, _, true, rfl, .ty "str", .base (.str _), kit_ty (by decide +kernel), _, rfl, iteF ?_⟩
      refine ⟨_, rfl, t, _, 0, .str "ring", rfl, rfl, SqT.of et, rfl, _, rfl, u, _, 0, .str "ring", rfl, rfl, SqT.of eu, rfl, rfl, _, rfl, ?_⟩
      rw [decide_eq_true rfl]
      refine iteF ?_
      refine ⟨_, rfl, t, _, 1, .ref xt, rfl, rfl, SqT.of et, rfl, _, _, _, _, true, rfl, .ty "list", .base (.lst ext), kit_ty (by decide +kernel), _, rfl, iteF ?_⟩
      refine ⟨_, rfl, t, _, 1, .ref xt, rfl, rfl, SqT.of et, rfl, xt, _, rfl, .inl (SqL.of ext), _, rfl, u, _, 1, .ref xu, rfl, rfl, SqT.of eu, rfl, xu, _, rfl, .inl (SqL.of exu), rfl, _, rfl, ?_⟩
      rw [decide_eq_true (by rw [(htl.trans hul.symm : tv.length = uv.length)])]
      refine iteF ?_
      refine ⟨_, rfl, u, _, 1, .ref xu, rfl, rfl, SqT.of eu, rfl, xu, _, rfl, .inl (SqL.of exu), _, rfl, (by omega), (by omega), ?_⟩
      rw [show ((uv.length : Nat) : Int).toNat = l.length by omega]
      refine for_range (lo := 0) (n := l.length) (fun k σ H' => ∃ v2 v3 : Option V, σ = [some (.ref t), some (.ref u), v2, v3] ∧ H' = H) ⟨_, _, rfl, rfl⟩ ?_ ?_
      · rintro k σ H' hk ⟨v2, v3, rfl, rfl⟩
        rw [show (0 : Int) + (k : Int) = (k : Int) by omega]
        obtain ⟨z, hz⟩ := get_lt hk
        obtain ⟨a1, h1, t1, rfl, e1⟩ := P_left tpt hz
        obtain ⟨a2, h2, t2, rfl, e2⟩ := P_left tpu hz
        refine ⟨_, rfl, t, _, 1, .ref xt, rfl, rfl, SqT.of et, rfl, _, rfl, xt, _, _, _, rfl, rfl, SqL.of ext, at_n h1, ?_⟩
        refine ⟨_, rfl, u, _, 0, .str "ring", rfl, rfl, SqT.of eu, rfl, rfl, _, rfl, ?_⟩
        rw [decide_eq_false (show ¬ V.str "ring" = V.str "phases" by decide)]
        refine iteF ?_
        refine ⟨_, rfl, _, _, _, _, true, rfl, .ty "tuple", .base (.tup e1), kit_ty (by decide +kernel), _, rfl, iteF ⟨_, rfl, t1, _, rfl, .inr (SqT.of e1), rfl, _, rfl, iteF ?_⟩⟩
        refine ⟨_, rfl, t1, _, 0, nV z.1, rfl, rfl, SqT.of e1, rfl, _, rfl, _, rfl, iteF ?_⟩
        refine ⟨_, rfl, t1, _, 1, .int z.2, rfl, rfl, SqT.of e1, rfl, _, rfl, _, rfl, iteF ?_⟩
        refine ⟨_, rfl, _, rfl, u, _, 1, .ref xu, rfl, rfl, SqT.of eu, rfl, _, rfl, xu, _, _, _, rfl, rfl, SqL.of exu, at_n h2, dP z, dP z, .tup (SqT.of e1) (.cons (.int _) (.cons (.int _) .nil)), .tup (SqT.of e2) (.cons (.int _) (.cons (.int _) .nil)), shaped_dP z, shaped_dP z, _, rfl, ?_⟩
        rw [eqv_dP, decide_eq_true rfl]
        exact iteF ⟨_, _, rfl, rfl⟩
      · rintro σ H' ⟨v2, v3, rfl, rfl⟩
        exact q _ (Same.refl _)
end
end K32W

namespace K32W
open PySem PySem.Spec PyProof.Rows L2 KH K32 KD
abbrev s_law_other : Stmt := topS 28
theorem sc_law_other : FnScope ["script", "period", "lines", "sums", "due", "drawn", "i", "group", "j", "diff", "row"] ["script", "period", "lines", "sums", "due"] (defScope s_law_other) := ⟨rfl, rfl, rfl, by decide +kernel, rfl, by decide +kernel, by decide +kernel⟩

theorem upS_take (a : SM) (k : Nat) : upS (a.take k) = (upS a).take k := by unfold upS; rw [List.map_take]
theorem upS_rev (a : SM) : upS a.reverse = (upS a).reverse := by unfold upS; rw [List.map_reverse]
theorem P_take {α β : Type} {F : α → β → Prop} : ∀ {xs : List α} {ys : List β} (k : Nat), Paired F xs ys → Paired F (xs.take k) (ys.take k)
  | _, _, 0, _ => .nil
  | _, _, k + 1, .nil => .nil
  | _, _, k + 1, .cons f r => .cons f (P_take k r)
theorem P_reverse {α β : Type} {F : α → β → Prop} {xs : List α} {ys : List β} (h : Paired F xs ys) : Paired F xs.reverse ys.reverse := by
  induction h with
  | nil => exact .nil
  | cons f _ ih =>
    rw [List.reverse_cons, List.reverse_cons]
    exact P_append ih (.cons f .nil)
theorem cutTo (us : List V) (k : Nat) (h : k ≤ us.length) : cutV us none (some (k : Int)) = us.take k := by
  unfold cutV
  rw [HT.sIx_none, HT.sIx_nat, Nat.min_eq_left h]
  rfl
theorem OkS.sub {n : Nat} {a b : SM} (h : OkS n a) (s : ∀ q ∈ b, q ∈ a) : OkS n b := fun q hq => h q (s q hq)
def toJ (sums : SM) : List J := sums.map fun q => ⟨0, q.1, q.2.1⟩
section
variable {P : Program} {w : World} {K : PySem.W.Frag} {mg : Str → Option Value} {base : Heap} {CN CB CD CT CU fI : Addr}
def sp_other (K : PySem.W.Frag) : Sp := fun vs H Q _ => ∃ (a sx du : Addr) (ns : List Int) (us : List V) (sums : SM) (p n : Nat) (o : Out), vs = [.ref a, nV p, nV n, .ref sx, .ref du] ∧ SqL K H a (ns.map V.int) ∧ ns.length ≤ 63 ∧ H sx = some (.lst us) ∧ Trs K H us (upS sums) ∧ OkS n sums ∧ sums.length ≤ 40 ∧ 1 ≤ p ∧ p ≤ 60 ∧ n ≤ 20 ∧
  Due sums p n o ∧ Says H du o ∧ ∀ x us' sums' H', Same H H' → H x = none → H' x = some (.lst us') → Trs K H' us' (upS sums') → OkS n sums' → sums'.length ≤ 41 → Q (.ref x) H'
theorem ok_other {f f1 f2 f3 : Addr} {fd fd1 fd2 fd3 : FuncData} (F : Fun K "_law_other" "_law_other" s_law_other f fd) (T : Txt mg) (C_law_draws : Cal P w K mg base 1 "_law_draws" ["cell", "sizes"] (sp_draws K) f1 fd1) (C_law_cell : Cal P w K mg base 1 "_law_cell" ["script", "k"] (sp_cell K) f2 fd2)
    (C_law_joined : Cal P w K mg base 1 "_law_joined" ["joints", "line"] (sp_joined K) f3 fd3) : FnOk P w K mg base CX0 2 f fd ["script", "period", "lines", "sums", "due"] (sp_other K) := by
  refine F.ok sc_law_other (fun vs H Q E h => ?_) (fun cdv A outer s H vs Q E hr h => ?_)
  · obtain ⟨a, sx, du, ns, us, sums, p, n, o, rfl, _⟩ := h
    rfl
  · obtain ⟨a, sx, du, ns, us, sums, p, n, o, rfl, hS, hns, esx, hT, hO, hlen, hp1, hp2, hn, due, says, q⟩ := h
    refine ⟨_, (pss_cons (ps_if (pt_cmpR op_eq (pe_ix ix_tup (pv 4) pe_int (fun _ _ => rfl)) pe_str (nomark _))
 (pss_one (ps_ret (pe_slice sl_list (pv 3) po_none (po_some (pe_ix ix_tup (pe_ix ix_list (pe_ix ix_tup (pv 4) pe_int (fun _ _ => rfl)) pe_int (fun _ _ => rfl)) pe_int (fun _ _ => rfl))))))
 pss_nil)
 (pss_cons (ps_if (PW.pt (pw_or (pt_cmpR op_eq (pv 1) pe_int (nomark _)) (pw_or1 (pt_cmpR op_eq (pv 2) pe_int (nomark _)))))
 (pss_one (ps_ret (pe_lstRev rfl rfl T.list rfl T.reversed (pv 3))))
 pss_nil)
 (pss_cons (ps_set (i := 5) sc_law_other.nd rfl (.inl rfl) (pe_call C_law_draws.ok (hr.mono (by decide)) (by rfl) C_law_draws.mg C_law_draws.kp C_law_draws.b .nil pass0 (pa_cons (pe_call C_law_cell.ok (hr.mono (by decide)) (by rfl) C_law_cell.mg C_law_cell.kp C_law_cell.b .nil pass0 (pa_cons (pv 0) (pa_cons pe_int pa_nil))) (pa_cons (pe_lst (pa_cons pe_int (pa_cons pe_int (pa_cons pe_int (pa_cons pe_int pa_nil))))) pa_nil))))
 (pss_cons (ps_set (i := 6) sc_law_other.nd rfl (.inl rfl) (pe_op op_modN (pe_callTy call_int1 (by rfl) T.int (by decide +kernel) (pa_cons (pe_ix ix_list (pv 5) pe_int (fun _ _ => rfl)) pa_nil)) (pv 2)))
 (pss_cons (ps_set (i := 7) sc_law_other.nd rfl (.inl rfl) (pe_call C_law_joined.ok (hr.mono (by decide)) (by rfl) C_law_joined.mg C_law_joined.kp C_law_joined.b .nil pass0 (pa_cons (pe_lc (own := [("row", 10)]) (g := gName 10) (tt := tYes) rfl sc_law_other.nd (pi_list (pv 3)) (blkOk_by (N := ["script", "period", "lines", "sums", "due", "drawn", "i", "group", "j", "diff", "row"]) (sc := defScope s_law_other) (by decide +kernel)) (fun _ _ _ _ _ => (pg_name (i := 10) sc_law_other.nd rfl (.inl rfl))) (fun _ _ _ _ _ => pts_nil) (fun _ _ _ _ _ => (pe_tup (pa_cons pe_int (pa_cons (pe_ix (r := rIxT K) ix_tup (pv 10) pe_int (fun _ _ => rfl)) (pa_cons (pe_ix (r := rIxT K) ix_tup (pv 10) pe_int (fun _ _ => rfl)) (pa_cons (pe_ix (r := rIxT K) ix_tup (pv 10) pe_int (fun _ _ => rfl)) pa_nil))))))) (pa_cons (pv 6) pa_nil))))
 (pss_cons (ps_set (i := 8) sc_law_other.nd rfl (.inl rfl) (pe_ix ix_list (pv 7) (pe_op op_modN (pe_callTy call_int1 (by rfl) T.int (by decide +kernel) (pa_cons (pe_ix ix_list (pv 5) pe_int (fun _ _ => rfl)) pa_nil)) (pe_callB call_len_seq (by rfl) T.len (by decide +kernel) (pa_cons (pv 7) pa_nil))) (fun _ _ => rfl)))
 (pss_cons (ps_set (i := 9) sc_law_other.nd rfl (.inl rfl) (pe_op op_add (pe_op op_add (pe_op op_add (pe_op op_sub (pe_ix ix_list (pe_ix ix_tup (pv 4) pe_int (fun _ _ => rfl)) (pv 8) (fun _ _ => rfl)) (pe_ix ix_list (pe_ix ix_tup (pv 4) pe_int (fun _ _ => rfl)) (pv 6) (fun _ _ => rfl))) pe_int) (pe_op op_modN (pe_callTy call_int1 (by rfl) T.int (by decide +kernel) (pa_cons (pe_ix ix_list (pv 5) pe_int (fun _ _ => rfl)) pa_nil)) (pe_op op_sub (pv 1) pe_int))) (pe_op op_mul (pv 1) (pe_op op_sub (pe_ix ix_list (pv 5) pe_int (fun _ _ => rfl)) pe_int))))
 (pss_one (ps_ret (pe_op op_cat (pv 3) (pe_lst (pa_cons (pe_tup (pa_cons (pv 6) (pa_cons (pv 8) (pa_cons (pv 9) pa_nil)))) pa_nil)))))))))))), ?_⟩
    have hul : us.length = sums.length := by rw [P_len hT, upS_len]
    cases due with
    | @ring t js i j d pp W st hs cn hpp bad way =>
      obtain ⟨xd, ed, dv, exd, tp⟩ := says
      refine ⟨_, rfl, du, _, 0, .str "ring", rfl, rfl, SqT.of ed, rfl, rfl, _, rfl, ?_⟩
      rw [decide_eq_true rfl]
      cases tp with
      | @cons v _ vs _ f tp =>
        obtain ⟨t1, rfl, e1⟩ := f
        have ht := lt_get hs
        refine iteT ⟨_, rfl, ?_⟩
        refine ⟨_, rfl, du, _, 1, .ref xd, rfl, rfl, SqT.of ed, rfl, xd, _, 0, .ref t1, rfl, rfl, SqL.of exd, at_n (j := 0) rfl, t1, _, 0, nV t, rfl, rfl, SqT.of e1, rfl, ?_⟩
        refine ⟨(t : Int), rfl, sx, us, rfl, SqL.of esx, fun p2 np => ?_⟩
        rw [cutTo us t (by omega)]
        have s1 : Same H (upd H p2 (.lst (us.take t))) := (Same.refl H).new np
        refine q p2 _ (sums.take t) _ s1 np upd_same ?_ (hO.sub fun q hq => List.mem_of_mem_take hq) (by rw [List.length_take]; omega)
        rw [upS_take]
        exact P_take t (hT.same s1)
    | @phases js pp R st hpp ph =>
      obtain ⟨xd, ed, exd⟩ := says
      refine ⟨_, rfl, du, _, 0, .str "phases", rfl, rfl, SqT.of ed, rfl, rfl, _, rfl, ?_⟩
      rw [decide_eq_false (show ¬ V.str "phases" = V.str "ring" by decide)]
      refine iteF ?_
      have back : tRet (tLstRev K (tVar 3)) { nx := fun x H' => Q V.non H', rt := Q } [some (.ref a), some (nV p), some (nV n), some (.ref sx), some (.ref du), none, none, none, none, none, none] H := by
        refine ⟨_, rfl, sx, us, rfl, SqL.of esx, fun p2 np => ?_⟩
        have s1 : Same H (upd H p2 (.lst us.reverse)) := (Same.refl H).new np
        refine q p2 _ sums.reverse _ s1 np upd_same ?_ (hO.sub fun q hq => List.mem_reverse.mp hq) (by rw [List.length_reverse]; omega)
        rw [upS_rev]
        exact P_reverse (hT.same s1)
      refine ⟨_, rfl, rfl, _, rfl, ?_⟩
      by_cases c1 : p = 1
      · rw [decide_eq_true (show nV p = V.int 1 by rw [c1]; rfl)]
        exact iteT back
      rw [decide_eq_false (show ¬ nV p = V.int 1 from fun z => c1 (by have := V.int.inj z; omega))]
      refine iteF ⟨_, rfl, rfl, _, rfl, ?_⟩
      by_cases c2 : n = 0
      · rw [decide_eq_true (show nV n = V.int 0 by rw [c2]; rfl)]
        exact iteT back
      rw [decide_eq_false (show ¬ nV n = V.int 0 from fun z => c2 (by have := V.int.inj z; omega))]
      refine iteF (nextS ?_)
      have hn0 : 0 < n := by omega
      have hRl := ph.len
      -- drawn
      refine asgN ⟨_, rfl, a, ns, 6, rfl, hS, hns, by decide, fun c H1 s1 => ⟨(by show 4 ≤ sizeLine; decide), fun z nz => ⟨z, c, [20, 20, 60, 7], rfl, SqL.of upd_same, by decide, by decide, fun dp ds H2 s2 ndp edp dr σ' e => ?_⟩⟩⟩
      obtain rfl : σ' = [some (.ref a), some (nV p), some (nV n), some (.ref sx), some (.ref du), some (.ref dp), none, none, none, none, none] := e.symm
      clear e
      obtain ⟨d0, d1, d2, d3, rfl, b0, b1, b2, b3⟩ : ∃ d0 d1 d2 d3, ds = [d0, d1, d2, d3] ∧ d0 < 20 ∧ d1 < 20 ∧ d2 < 60 ∧ d3 < 7 := by
        cases dr with | cons h0 dr => cases dr with | cons h1 dr => cases dr with | cons h2 dr => cases dr with | cons h3 dr => cases dr with | nil => exact ⟨_, _, _, _, rfl, h0, h1, h2, h3⟩
      have t2 : Same H H2 := (s1.new nz).trans s2
      have hG : SqL K H2 dp ([d0, d1, d2, d3].map nV) := SqL.of edp
      obtain ⟨i, ei, hi⟩ := fmod_nat (d0 : Int) hn0
      refine asgN ⟨_, rfl, dp, _, 0, nV d0, rfl, rfl, hG, at_n (j := 0) rfl, .inl ⟨_, rfl, _, rfl, _, _, rfl, rfl, (by show ((n : Nat) : Int) ≠ 0; omega), ?_⟩⟩
      dsimp only
      rw [ei]
      rintro σ' e
      obtain rfl : σ' = [some (.ref a), some (nV p), some (nV n), some (.ref sx), some (.ref du), some (.ref dp), some (nV i), none, none, none, none] := e.symm
      clear e
      -- group
      refine asgN ⟨_, rfl, sx, rfl, ⟨_, SqL.of (t2 _ _ esx)⟩, fun D nD => ?_⟩
      refine lc_list (K := K) (a := sx) (xs := us) (fun k H' => ∃ gv : List V, Same H2 H' ∧ H' D = some (.lst gv) ∧ JJ K H' gv ((toJ sums).take k)) ⟨[], (Same.refl H2).new nD, upd_same, .nil⟩ (fun k H' _ ⟨_, sm, _⟩ => SqL.of (sm _ _ (t2 _ _ esx))) ?_ ?_
      · rintro k y H3 hy ⟨gv, s3, eD, hJ⟩
        obtain ⟨q3, hq3, tq, rfl, etq⟩ := P_right hT hy
        obtain ⟨x1, x2, x3, hs, rfl⟩ := upS_get hq3
        have etq3 := (t2.trans s3).seqT etq
        refine ⟨rfl, _, rfl, tq, _, 0, .int (x1 : Int), rfl, rfl, etq3, rfl, _, rfl, tq, _, 1, .int (x2 : Int), rfl, rfl, etq3, rfl, _, rfl, tq, _, 2, .int x3, rfl, rfl, etq3, rfl, (by show 4 ≤ sizeLine; decide), fun t1 n1 => ?_⟩
        have eD2 : (upd H3 t1 (.tup [V.int 0, .int (x1 : Int), .int (x2 : Int), .int x3])) D = some (.lst gv) := by rw [upd_ne (ne_of_none eD n1)]; exact eD
        have hjk : (toJ sums)[k]? = some ⟨0, x1, x2⟩ := by unfold toJ; rw [List.getElem?_map, hs]; rfl
        refine ⟨gv, eD2, ?_, gv ++ [V.ref t1], (s3.new n1).mut nD, upd_same, ?_⟩
        · rw [P_len hJ]
          refine szl (Nat.le_trans (List.length_take_le' _ _) ?_)
          unfold toJ
          rw [List.length_map]
          omega
        · rw [take_more hjk]
          refine P_append (P_mono (fun _ _ ⟨t, x, y, e, qq⟩ => ⟨t, x, y, e, sqT_mutL qq eD2⟩) (hJ.same ((Same.refl H3).new n1))) (.cons ⟨t1, V.int 0, V.int x3, rfl, sqT_mutL (SqT.of upd_same) eD2⟩ .nil)
      rintro H3 ⟨gv, s3, eD, hJ⟩
      rw [show us.length = (toJ sums).length by unfold toJ; rw [List.length_map]; exact hul, List.take_length] at hJ
      have bdJ : ∀ e ∈ toJ sums, e.i < n ∧ e.j < n := fun e he => by
        unfold toJ at he
        obtain ⟨q, hq, rfl⟩ := List.mem_map.mp he
        exact hO.bd q hq
      refine ⟨_, rfl, D, gv, toJ sums, n, i, rfl, SqL.of eD, hJ, by unfold toJ; rw [List.length_map]; omega, by omega, bdJ, hi, fun gs g H4 s4 ng eg giff σ' e => ?_⟩
      obtain rfl : σ' = [some (.ref a), some (nV p), some (nV n), some (.ref sx), some (.ref du), some (.ref dp), some (nV i), some (.ref g), none, none, none] := e.symm
      clear e
      have t4 := (t2.trans s3).trans s4
      have s24 := s3.trans s4
      have hG4 := s24.seq hG
      have hg0 : 0 < gs.length := List.length_pos_of_mem ((giff i).mpr .refl)
      -- j
      obtain ⟨k, ek, hk⟩ := fmod_nat (d1 : Int) hg0
      obtain ⟨j, hj⟩ := get_lt hk
      have hjn : j < n := ((giff j).mp (List.mem_of_getElem? hj)).lt bdJ hi
      refine asgN ⟨_, rfl, _, rfl, dp, _, 1, nV d1, rfl, rfl, hG4, at_n (j := 1) rfl, .inl ⟨_, rfl, _, rfl, g, _, rfl, .inl (SqL.of eg), _, _, rfl, rfl, (by show (((gs.map nV).length : Nat) : Int) ≠ 0; rw [List.length_map]; omega), ?_⟩⟩
      dsimp only
      rw [List.length_map, ek]
      refine ⟨g, _, _, _, rfl, rfl, SqL.of eg, at_n (getn hj), fun σ' e => ?_⟩
      obtain rfl : σ' = [some (.ref a), some (nV p), some (nV n), some (.ref sx), some (.ref du), some (.ref dp), some (nV i), some (.ref g), some (nV j), none, none] := e.symm
      clear e
      -- diff
      obtain ⟨ri, _, _, hri⟩ := ph.at_ i hi
      obtain ⟨rj, _, _, hrj⟩ := ph.at_ j hjn
      have ed4 := t4 _ _ ed
      have exd4 := t4 _ _ exd
      obtain ⟨mm, em, hm⟩ := fmod_nat (d2 : Int) (z := p - 1) (by omega)
      rw [show ((p - 1 : Nat) : Int) = (p : Int) - 1 by omega] at em
      refine asgN ⟨_, rfl, du, _, 1, .ref xd, rfl, rfl, SqT.of ed4, rfl, _, rfl, xd, _, _, _, rfl, rfl, SqL.of exd4, at_n (getn hrj), _, rfl, du, _, 1, .ref xd, rfl, rfl, SqT.of ed4, rfl, _, rfl, xd, _, _, _, rfl, rfl, SqL.of exd4, at_n (getn hri), _, _, rfl, rfl, _, _, rfl, rfl, _, rfl, dp, _, 2, nV d2, rfl, rfl, hG4, at_n (j := 2) rfl, .inl ⟨_, rfl, _, rfl, _, _, rfl, rfl, _, _, rfl, rfl, (by show (p : Int) - 1 ≠ 0; omega), ?_⟩⟩
      dsimp only
      rw [em]
      refine ⟨_, _, rfl, rfl, _, rfl, _, rfl, dp, _, 3, nV d3, rfl, rfl, hG4, at_n (j := 3) rfl, _, _, rfl, rfl, _, _, rfl, rfl, .inl ⟨by omega, by omega⟩, _, _, rfl, rfl, fun σ' e => ?_⟩
      have bi := fmod_nat (pp i - pp ri) (z := p) (by omega)
      have bj := fmod_nat (pp j - pp rj) (z := p) (by omega)
      obtain ⟨x1, e1, l1⟩ := bi
      obtain ⟨x2, e2, l2⟩ := bj
      rw [e1, e2] at e
      obtain ⟨dd, edd, bdd⟩ : ∃ dd : Int, (x2 : Int) - (x1 : Int) + 1 + (mm : Int) + (p : Int) * ((d3 : Int) - 3) = dd ∧ dd.natAbs ≤ 10 ^ 16 := by
        refine ⟨_, rfl, ?_⟩
        have h1 : ((p : Int) * ((d3 : Int) - 3)).natAbs = p * ((d3 : Int) - 3).natAbs := by rw [Int.natAbs_mul]; rfl
        have h2 : p * ((d3 : Int) - 3).natAbs ≤ 60 * 3 := Nat.mul_le_mul hp2 (by omega)
        have e16 : (10 : Nat) ^ 16 = 10000000000000000 := by decide
        rw [e16]
        omega
      dsimp only at e
      rw [edd] at e
      obtain rfl : σ' = [some (.ref a), some (nV p), some (nV n), some (.ref sx), some (.ref du), some (.ref dp), some (nV i), some (.ref g), some (nV j), some (.int dd), none] := e.symm
      clear e
      refine ⟨_, rfl, _, rfl, _, rfl, _, rfl, (by show 3 ≤ sizeLine; decide), fun t1 n1 => ⟨(by show 1 ≤ sizeLine; decide), fun l1' nl1 => ?_⟩⟩
      have s5 : Same H4 (upd H4 t1 (.tup [nV i, nV j, .int dd])) := (Same.refl H4).new n1
      have et1 : (upd H4 t1 (.tup [nV i, nV j, .int dd])) t1 = some (.tup [nV i, nV j, .int dd]) := upd_same
      generalize upd H4 t1 (.tup [nV i, nV j, .int dd]) = H5 at s5 et1 nl1 ⊢
      have s6 : Same H5 (upd H5 l1' (.lst [V.ref t1])) := (Same.refl H5).new nl1
      have el1 : (upd H5 l1' (.lst [V.ref t1])) l1' = some (.lst [V.ref t1]) := upd_same
      generalize upd H5 l1' (.lst [V.ref t1]) = H6 at s6 el1 ⊢
      have t6 := (t4.trans s5).trans s6
      refine ⟨sx, l1', _, _, rfl, rfl, t6 _ _ esx, el1, szle (by show us.length + 1 ≤ 10000; omega), fun z nz => ?_⟩
      have s7 : Same H6 (upd H6 z (.lst (us ++ [V.ref t1]))) := (Same.refl H6).new nz
      refine q z _ (sums ++ [(i, j, dd)]) _ (t6.trans s7) (t6.free nz) upd_same ?_ (hO.snoc ⟨hi, hjn, bdd⟩) (by rw [List.length_append, List.length_singleton]; omega)
      rw [upS_app]
      exact P_append (hT.same (t6.trans s7)) (.cons ⟨t1, rfl, SqT.of ((s6.trans s7) _ _ et1)⟩ .nil)
end
end K32W

namespace K32W
open PySem PySem.Spec PyProof.Rows L2 KH K32 KD
abbrev s_law_answered : Stmt := topS 31
theorem sc_law_answered : FnScope ["period", "lines", "sums", "due", "passed", "told", "line"] ["period", "lines", "sums", "due"] (defScope s_law_answered) := ⟨rfl, rfl, rfl, by decide +kernel, rfl, by decide +kernel, by decide +kernel⟩

/-! ### triples as data that is shown -/
def dT3 (q : T3) : PyData := .tuple [.int q.1, .int q.2.1, .int q.2.2]
def dTs (ts : List T3) : PyData := .list (ts.map dT3)
def Mid (z : Int) : Prop := z.natAbs ≤ 10 ^ 16
def MidT (ts : List T3) : Prop := ∀ q ∈ ts, Mid q.1 ∧ Mid q.2.1 ∧ Mid q.2.2
theorem mid_log {z : Int} (h : Mid z) : z.natAbs.log2 < 60 := by
  by_cases e : z.natAbs = 0
  · rw [e]
    decide
  · exact (Nat.log2_lt e).2 (Nat.lt_of_le_of_lt h (by decide))
theorem mid_text {z : Int} (h : Mid z) : (PyData.shown (.int z)).length ≤ 20 := by
  have e := PySem.int_text_length_le10 (a := z) (k := 18) (by decide) (Nat.lt_of_le_of_lt h (by decide))
  show (Str.ofString (toString z)).length ≤ 20
  rw [PySem.ofString_length]
  omega
theorem mid3 (q : T3) (h : Mid q.1 ∧ Mid q.2.1 ∧ Mid q.2.2) : ∀ z ∈ [q.1, q.2.1, q.2.2], Mid z := fun z hz => by
  simp only [List.mem_cons, List.not_mem_nil, or_false] at hz
  rcases hz with rfl | rfl | rfl
  · exact h.1
  · exact h.2.1
  · exact h.2.2
theorem mids_show {l : List Int} (h : ∀ z ∈ l, Mid z) : PyData.showableAll (l.map PyData.int) = true := PyData.showableAll_ints l fun z hz => Nat.lt_trans (mid_log (h z hz)) (by decide)
theorem ts_show : ∀ {ts : List T3}, MidT ts → PyData.showableAll (ts.map dT3) = true
  | [], _ => by simp only [List.map_nil, PyData.showableAll]
  | q :: ts, h => by
    simp only [List.map_cons, PyData.showableAll, Bool.and_eq_true]
    refine ⟨?_, ts_show fun y hy => h y (List.mem_cons_of_mem _ hy)⟩
    have := mids_show (mid3 q (h q List.mem_cons_self))
    simp only [dT3, PyData.showable]
    exact this
theorem ts_nodict : ∀ ts : List T3, PyData.hasDictAll (ts.map dT3) = false
  | [] => by simp only [List.map_nil, PyData.hasDictAll]
  | q :: ts => by
    simp only [List.map_cons, PyData.hasDictAll, dT3, PyData.hasDict, Bool.false_or, Bool.or_self]
    exact ts_nodict ts
theorem ts_depth : ∀ ts : List T3, PyData.depthAll (ts.map dT3) ≤ 1
  | [] => by simp [PyData.depthAll]
  | q :: ts => by
    have := ts_depth ts
    simp only [List.map_cons, PyData.depthAll, dT3, PyData.depth]
    exact Nat.max_le.mpr ⟨by simp, this⟩
theorem ts_leaves : ∀ {ts : List T3}, MidT ts → PyData.leavesShortAll 20 (ts.map dT3) = true
  | [], _ => by simp only [List.map_nil, PyData.leavesShortAll]
  | q :: ts, h => by
    obtain ⟨h1, h2, h3⟩ := h q List.mem_cons_self
    simp only [List.map_cons, PyData.leavesShortAll, dT3, PyData.leavesShort, Bool.and_eq_true, decide_eq_true_eq]
    exact ⟨⟨mid_text h1, mid_text h2, mid_text h3, trivial⟩, ts_leaves fun y hy => h y (List.mem_cons_of_mem _ hy)⟩
theorem mid_weight {z : Int} (h : Mid z) : PyData.weight (.int z) ≤ 60 := by
  have := mid_log h
  simp only [PyData.weight]
  split <;> omega
theorem ts_weight : ∀ {ts : List T3}, MidT ts → PyData.weightAll (ts.map dT3) ≤ 200 * ts.length
  | [], _ => by simp only [List.map_nil, PyData.weightAll]; exact Nat.zero_le _
  | q :: ts, h => by
    obtain ⟨h1, h2, h3⟩ := h q List.mem_cons_self
    have ih := ts_weight (ts := ts) fun y hy => h y (List.mem_cons_of_mem _ hy)
    have w1 := mid_weight h1
    have w2 := mid_weight h2
    have w3 := mid_weight h3
    have w : PyData.weight (dT3 q) ≤ 183 := by
      unfold dT3
      rw [show PyData.weight (.tuple [.int q.1, .int q.2.1, .int q.2.2]) = PyData.weightAll [.int q.1, .int q.2.1, .int q.2.2] by simp only [PyData.weight]]
      rw [show PyData.weightAll [.int q.1, .int q.2.1, .int q.2.2] = PyData.weight (.int q.1) + 1 + (PyData.weight (.int q.2.1) + 1 + (PyData.weight (.int q.2.2) + 1 + 0)) by simp only [PyData.weightAll]]
      omega
    simp only [List.map_cons, PyData.weightAll, List.length_cons]
    omega
theorem dTs_shows {ts : List T3} (h : MidT ts) (hl : ts.length ≤ 1000) : Shows (dTs ts) where
  sh := by simp only [dTs, PyData.showable]; exact ts_show h
  nd := by simp only [dTs, PyData.hasDict]; exact ts_nodict ts
  dp := by
    have := ts_depth ts
    simp only [dTs, PyData.depth]
    omega
  sz := by
    have a := PyData.shown_le 20 (by decide) (dTs ts) (by simp only [dTs, PyData.leavesShort]; exact ts_leaves h)
    have b := ts_weight h
    have c : PyData.weight (dTs ts) ≤ 200 * ts.length := by simp only [dTs, PyData.weight]; exact b
    have d : (20 + 2) * PyData.weight (dTs ts) ≤ 22 * (200 * 1000) := Nat.mul_le_mul (by decide) (by omega)
    rw [sizeLine_eq]
    omega
theorem dpT {K : PySem.W.Frag} {H : Hp} {a : Addr} {us : List V} {ts : List T3} (h : SqL K H a us) (p : Trs K H us ts) : Dp K H (.ref a) (dTs ts) := by
  refine .lst h ?_
  clear h
  induction p with
  | nil => exact .nil
  | @cons v q us ts f _ ih =>
    obtain ⟨t, rfl, ht⟩ := f
    exact .cons (.tup ht (.cons (.int _) (.cons (.int _) (.cons (.int _) .nil)))) ih
theorem OkS.mid {n : Nat} {sums : SM} (h : OkS n sums) (hn : n ≤ 20) : MidT (upS sums) := fun q hq => by
  obtain ⟨k, hk⟩ := List.getElem?_of_mem hq
  obtain ⟨i, j, d, hs, rfl⟩ := upS_get hk
  obtain ⟨h1, h2, h3⟩ := h _ (List.mem_of_getElem? hs)
  dsimp only at h1 h2 h3
  have e16 : (10 : Nat) ^ 16 = 10000000000000000 := by decide
  unfold Mid
  rw [e16] at *
  dsimp only
  omega
theorem fine_nat {p n : Nat} {sums : SM} (hp : 1 ≤ p ∧ p ≤ 60) (hn : n ≤ 20) (h : OkS n sums) : Fine (p : Int) (n : Int) (upS sums) := fine_of hp hn h.bd
theorem due_len {sums : SM} {m : Int} {n : Nat} {o : Out} (d : Due sums m n o) (hn : n ≤ 20) (hs : sums.length ≤ 100) (hb : ∀ q ∈ sums, q.1 < n ∧ q.2.1 < n) : olen o ≤ 1000 := by
  cases d with
  | @ring t js i j d p W st h2 c hp bad w =>
    obtain ⟨vs, pth⟩ := w
    have hj : j < n := (hb _ (List.mem_of_getElem? h2)).2
    have h1 := K02.nodup_len n vs pth.nd fun u hu => by
      obtain ⟨m, hm⟩ := List.getElem?_of_mem hu
      exact (Conn.lt (st.bd hb) ((pth.cut hm).conn) hj)
    have h3 := pth.len
    show ((t, (1 : Int)) :: tell W).length ≤ 1000
    rw [List.length_cons]
    unfold tell
    rw [List.length_map]
    omega
  | phases st hp q =>
    show (_ : List Int).length ≤ 1000
    rw [q.len]
    omega
theorem Told.parts {H0 H : Hp} {t x : Addr} {o : Out} (h : Told H0 H t x o) : ∃ wd xs, H t = some (.tup [.str wd, .ref x]) ∧ H x = some (.lst xs) := by
  obtain ⟨_, h⟩ := h
  cases o with
  | ring l =>
    obtain ⟨a, vs, b, _⟩ := h
    exact ⟨_, _, a, b⟩
  | phases q => exact ⟨_, _, h.1, h.2⟩
section
variable {P : Program} {w : World} {K : PySem.W.Frag} {mg : Str → Option Value} {base : Heap} {CN CB CD CT CU fI : Addr}
def sp_answered (K : PySem.W.Frag) : Sp := fun vs H Q _ => ∃ (sx du : Addr) (us : List V) (sums : SM) (p n : Nat) (o : Out), vs = [nV p, nV n, .ref sx, .ref du] ∧ H sx = some (.lst us) ∧ Trs K H us (upS sums) ∧ OkS n sums ∧ sums.length ≤ 41 ∧ 1 ≤ p ∧ p ≤ 60 ∧ n ≤ 20 ∧
  Due sums p n o ∧ Says H du o ∧ ∀ H', Same H H' → Q (.bl true) H'
theorem ok_answered {f f1 f2 : Addr} {fd fd1 fd2 : FuncData} (F : Fun K "_law_answered" "_law_answered" s_law_answered f fd) (T : Txt mg) (Csettle : CalX P w K mg base 5 "settle" ["period", "many", "sums"] (sp_settle K CN) f1 fd1) (C_law_right : Cal P w K mg base 2 "_law_right" ["told", "due"] sp_right f2 fd2) :
    FnOkG P w K mg base 6 f fd ["period", "lines", "sums", "due"] (sp_answered K) := by
  refine F.okG sc_law_answered (fun vs H Q E h => ?_) (fun cdv A outer s H vs Q E gA0 hr h => ?_)
  · obtain ⟨sx, du, us, sums, p, n, o, rfl, _⟩ := h
    rfl
  · obtain ⟨sx, du, us, sums, p, n, o, rfl, esx, hT, hO, hlen, hp1, hp2, hn, due, says, q⟩ := h
    have gA : (A.deeper (envOfC "_law_answered" (defScope s_law_answered) s.heap.objs.size f cdv)).guards = some [] := gA0
    have S1 := dTs_shows (hO.mid hn) (by rw [upS_len]; omega)
    have fine := fine_nat ⟨hp1, hp2⟩ hn hO
    have hm : (0 : Int) < (p : Int) := by omega
    have tn : ((n : Nat) : Int).toNat = n := by omega
    have ol := due_len due hn (by omega) hO.bd
    refine ⟨_, (pss_cons (ps_set (i := 4) sc_law_answered.nd rfl (.inl rfl) (pe_callTy call_list_of (by rfl) T.list (by decide +kernel) (pa_cons (pv 2) pa_nil)))
 (pss_cons (ps_set (i := 5) sc_law_answered.nd rfl (.inl rfl) (pe_call Csettle.ok (hr.mono (by decide)) (by rfl) Csettle.mg Csettle.kp Csettle.b .nil passL (pa_cons (pv 0) (pa_cons (pv 1) (pa_cons (pv 4) pa_nil)))))
 (pss_cons (ps_if (PW.pt (pw_or (pt_not (pt_val (pe_call C_law_right.ok (hr.mono (by decide)) (by rfl) C_law_right.mg C_law_right.kp C_law_right.b .nil pass0 (pa_cons (pv 5) (pa_cons (pv 3) pa_nil))))) (pw_or1 (pt_cmpR op_ne (pe_callB (call_reprD gA hr.units) (by rfl) T.repr (by decide +kernel) (pa_cons (pv 4) pa_nil)) (pe_callB (call_reprD gA hr.units) (by rfl) T.repr (by decide +kernel) (pa_cons (pv 2) pa_nil)) (nomark _)))))
 (pss_one (ps_ret pe_bl))
 pss_nil)
 (pss_cons (ps_expr (pe_bm0 PySem.F.plainAttrs_list PySem.F.slot_list_clear PySem.F.type_list_clear mt_clear (pe_ix ix_tup (pv 5) pe_int (fun _ _ => rfl))))
 (pss_cons (ps_if (pt_not (pt_val (pe_call C_law_right.ok (hr.mono (by decide)) (by rfl) C_law_right.mg C_law_right.kp C_law_right.b .nil pass0 (pa_cons (pe_call Csettle.ok (hr.mono (by decide)) (by rfl) Csettle.mg Csettle.kp Csettle.b .nil passL (pa_cons (pv 0) (pa_cons (pv 1) (pa_cons (pv 4) pa_nil)))) (pa_cons (pv 3) pa_nil)))))
 (pss_one (ps_ret pe_bl))
 pss_nil)
 (pss_cons (ps_if (pt_not (pt_val (pe_call C_law_right.ok (hr.mono (by decide)) (by rfl) C_law_right.mg C_law_right.kp C_law_right.b .nil pass0 (pa_cons (pe_call Csettle.ok (hr.mono (by decide)) (by rfl) Csettle.mg Csettle.kp Csettle.b .nil passL (pa_cons (pv 0) (pa_cons (pv 1) (pa_cons (pe_callTy call_tuple_of (by rfl) T.tuple (by decide +kernel) (pa_cons (pv 2) pa_nil)) pa_nil)))) (pa_cons (pv 3) pa_nil)))))
 (pss_one (ps_ret pe_bl))
 pss_nil)
 (pss_cons (ps_expr (pe_bm0 PySem.F.plainAttrs_list PySem.F.slot_list_clear PySem.F.type_list_clear mt_clear (pv 4)))
 (pss_one (ps_ret (pe_call C_law_right.ok (hr.mono (by decide)) (by rfl) C_law_right.mg C_law_right.kp C_law_right.b .nil pass0 (pa_cons (pe_call Csettle.ok (hr.mono (by decide)) (by rfl) Csettle.mg Csettle.kp Csettle.b .nil passL (pa_cons (pv 0) (pa_cons (pv 1) (pa_cons (pv 4) pa_nil)))) (pa_cons (pe_tup (pa_cons pe_str (pa_cons (pe_lc (own := [("line", 6)]) (g := gName 6) (tt := tYes) rfl sc_law_answered.nd (pi_range1 rfl T.range (pa_cons (pv 1) pa_nil)) (blkOk_by (N := ["period", "lines", "sums", "due", "passed", "told", "line"]) (sc := defScope s_law_answered) (by decide +kernel)) (fun _ _ _ _ _ => (pg_name (i := 6) sc_law_answered.nd rfl (.inl rfl))) (fun _ _ _ _ _ => pts_nil) (fun _ _ _ _ _ => pe_int)) pa_nil))) pa_nil)))))))))))), ?_⟩
    -- passed = list(sums)
    refine ⟨_, rfl, sx, us, rfl, .inl (SqL.of esx), fun pl npl => ?_⟩
    have s1 : Same H (upd H pl (.lst us)) := (Same.refl H).new npl
    have epl : (upd H pl (.lst us)) pl = some (.lst us) := upd_same
    generalize upd H pl (.lst us) = H1 at s1 epl ⊢
    -- told = settle(..)
    refine ⟨_, rfl, _, rfl, _, rfl, p, n, pl, us, upS sums, rfl, Sq.of epl, hT.same s1, by rw [upS_len]; omega, fun wd z f => (f.no fine).elim, fun _ sm e o1 t1 x1 H2 d1 s2 td => ?_⟩
    obtain rfl := upS_inj e
    rw [tn] at d1
    have eo := d1.uniq hm due
    subst eo
    have u2 := s1.trans s2
    refine ⟨_, rfl, _, rfl, t1, du, _, rfl, td.says, says.same u2, ol, fun H3 s3 => ?_⟩
    have u3 := u2.trans s3
    refine ⟨_, rfl, iteF ?_⟩
    refine ⟨_, rfl, pl, dTs (upS sums), rfl, dpT (SqL.of ((s2.trans s3) _ _ epl)) (hT.same u3), S1.sh, S1.nd, S1.dp, S1.sz, _, rfl, sx, dTs (upS sums), rfl, dpT (SqL.of (u3 _ _ esx)) (hT.same u3), S1.sh, S1.nd, S1.dp, S1.sz, rfl, _, rfl, ?_⟩
    rw [decide_eq_true rfl]
    refine iteF ?_
    -- told[1].clear()
    have td3 := td.same s3
    obtain ⟨wd3, xs3, et3, ex3⟩ := td3.parts
    refine ⟨_, rfl, t1, _, 1, .ref x1, rfl, rfl, SqT.of et3, rfl, .inl ⟨rfl, _, SqL.of ex3⟩, x1, _, rfl, rfl, ex3, ?_⟩
    have s14 : Same H1 (upd H3 x1 (.lst [])) := (s2.trans s3).mut td.1
    generalize upd H3 x1 (.lst []) = H4 at s14 ⊢
    have u4 := s1.trans s14
    have epl4 := s14 _ _ epl
    -- once more
    refine ⟨_, rfl, _, rfl, _, rfl, p, n, pl, us, upS sums, rfl, Sq.of epl4, hT.same u4, by rw [upS_len]; omega, fun wd z f => (f.no fine).elim, fun _ sm e o1 t2 x2 H5 d1 s5 tdb => ?_⟩
    obtain rfl := upS_inj e
    rw [tn] at d1
    obtain rfl := d1.uniq hm due
    have u5 := u4.trans s5
    refine ⟨_, rfl, t2, du, _, rfl, tdb.says, says.same u5, ol, fun H6 s6 => ⟨_, rfl, iteF ?_⟩⟩
    have u6 := u5.trans s6
    -- of a tuple
    refine ⟨_, rfl, _, rfl, _, rfl, sx, us, rfl, .inl ⟨SqL.of (u6 _ _ esx), fun l nl => ?_⟩⟩
    have s7 : Same H6 (upd H6 l (.tup us)) := (Same.refl H6).new nl
    have el : (upd H6 l (.tup us)) l = some (.tup us) := upd_same
    generalize upd H6 l (.tup us) = H7 at s7 el ⊢
    have u7 := u6.trans s7
    refine ⟨p, n, l, us, upS sums, rfl, .inr (SqT.of el), hT.same u7, by rw [upS_len]; omega, fun wd z f => (f.no fine).elim, fun _ sm e o1 t3 x3 H8 d1 s8 tdc => ?_⟩
    obtain rfl := upS_inj e
    rw [tn] at d1
    obtain rfl := d1.uniq hm due
    have u8 := u7.trans s8
    refine ⟨_, rfl, t3, du, _, rfl, tdc.says, says.same u8, ol, fun H9 s9 => ⟨_, rfl, iteF ?_⟩⟩
    have u9 := u8.trans s9
    -- passed.clear()
    have epl9 := ((((s14.trans s5).trans s6).trans s7).trans (s8.trans s9)) _ _ epl
    refine ⟨_, rfl, .inl ⟨rfl, _, SqL.of epl9⟩, pl, _, rfl, rfl, epl9, ?_⟩
    have uA : Same H (upd H9 pl (.lst [])) := u9.mut npl
    have eplA : (upd H9 pl (.lst [])) pl = some (.lst []) := upd_same
    generalize upd H9 pl (.lst []) = HA at uA eplA ⊢
    refine ⟨_, rfl, _, rfl, _, rfl, p, n, pl, [], upS [], rfl, Sq.of eplA, .nil, by decide, fun wd z f => (f.no (fine_nat ⟨hp1, hp2⟩ hn (fun q hq => by cases hq))).elim, fun _ sm e o1 t4 x4 HB d1 sB tdd => ?_⟩
    obtain rfl := upS_inj e
    rw [tn] at d1
    obtain rfl := d1.uniq hm (Due.none hm n)
    have uB := uA.trans sB
    refine ⟨_, rfl, _, rfl, (by omega), (by omega), ?_⟩
    rw [show ((n : Nat) : Int).toNat = n by omega]
    refine fun D nD => ?_
    refine lc_range (lo := 0) (n := n) (fun i H' => Same HB H' ∧ H' D = some (.lst (IL (List.replicate i 0)))) ⟨(Same.refl HB).new nD, upd_same⟩ ?_ ?_
    · rintro i HC hi ⟨sC, eD⟩
      refine ⟨rfl, _, eD, ?_, sC.mut nD, ?_⟩
      · rw [List.length_map, List.length_replicate]
        exact szl (by omega)
      · rw [upd_same, List.replicate_succ', IL_snoc]
    rintro HC ⟨sC, eD⟩
    refine ⟨(by show 2 ≤ sizeLine; decide), fun tt ntt => ?_⟩
    have sD : Same HC (upd HC tt (.tup [.str "phases", .ref D])) := (Same.refl HC).new ntt
    refine ⟨t4, tt, .phases (List.replicate n 0), rfl, tdd.says.same (sC.trans sD), ⟨D, upd_same, sD _ _ eD⟩, ?_, fun HE sE => q HE ((uB.trans sC).trans (sD.trans sE))⟩
    show (List.replicate n (0 : Int)).length ≤ 1000
    rw [List.length_replicate]
    omega
end
end K32W

namespace K32W
open PySem PySem.Spec PyProof.Rows L2 KH K32 KD
abbrev s_law_flawed : Stmt := topS 32
theorem sc_law_flawed : FnScope ["script", "period", "lines", "sums", "drawn", "rows", "k", "kind", "beyond", "wrong"] ["script", "period", "lines", "sums"] (defScope s_law_flawed) := ⟨rfl, rfl, rfl, by decide +kernel, rfl, by decide +kernel, by decide +kernel⟩

abbrev s_law_first_flaw : Stmt := topS 33
theorem sc_law_first_flaw : FnScope ["period", "lines", "sums", "i", "j", "diff"] ["period", "lines", "sums"] (defScope s_law_first_flaw) := ⟨rfl, rfl, rfl, by decide +kernel, rfl, by decide +kernel, by decide +kernel⟩

theorem ifsetP {t : TT} {e1 : TE} {i1 : Nat} {rest : TS} {D : Ends} {σ : L2.St} {H : Hp} {w1 : V} {C : Prop} (Pst : V → Hp → Prop) (ht : ∀ Q : Bool → Hp → Prop, (∀ b, (b = true ↔ C) → Q b H) → t σ H Q) (h1 : σ[i1]? = some (some w1)) (h0 : ¬ C → Pst w1 H)
    (ev1 : C → ∀ Q : VK, (∀ v H', Pst v H' → Q v H') → e1 σ H Q) (q : ∀ u1 H', Pst u1 H' → rest D (σ.set i1 (some u1)) H') : tSeq (tIfS t (tAsg e1 (gName i1)) tNext) rest D σ H := by
  refine ht _ fun b hb => ?_
  cases b with
  | true =>
    rw [if_pos rfl]
    exact ev1 (hb.mp rfl) _ (fun v H' p => q v H' p)
  | false =>
    rw [if_neg Bool.false_ne_true]
    have := q w1 H (h0 fun z => Bool.noConfusion (hb.mpr z))
    rw [set_self h1] at this
    exact this
theorem P_drop {α β : Type} {F : α → β → Prop} : ∀ {xs : List α} {ys : List β} (k : Nat), Paired F xs ys → Paired F (xs.drop k) (ys.drop k)
  | _, _, 0, h => h
  | _, _, k + 1, .nil => .nil
  | _, _, k + 1, .cons _ r => P_drop k r
theorem testI {n : Nat} {z : Int} {Q : Bool → Hp → Prop} {H : Hp} (h : ∀ b, (b = true ↔ (n : Int) = z) → Q b H) : Q (decide (nV n = V.int z)) H := h _ ⟨fun e => V.int.inj (of_decide_eq_true e), fun e => decide_eq_true (congrArg V.int e)⟩
section
variable {P : Program} {w : World} {K : PySem.W.Frag} {mg : Str → Option Value} {base : Heap} {CN CB CD CT CU fI : Addr}
def sp_flawed (K : PySem.W.Frag) : Sp := fun vs H Q _ => ∃ (a sx : Addr) (ns : List Int) (us : List V) (sums : SM) (p n : Nat), vs = [.ref a, nV p, nV n, .ref sx] ∧ SqL K H a (ns.map V.int) ∧ ns.length ≤ 63 ∧ H sx = some (.lst us) ∧ Trs K H us (upS sums) ∧ OkS n sums ∧ sums.length ≤ 40 ∧ p ≤ 60 ∧ n ≤ 20 ∧
  ∀ t x us' ts p' m' H', Same H H' → H x = none → H' t = some (.tup [.int p', .int m', .ref x]) → H' x = some (.lst us') → Trs K H' us' ts → MidT ts → ts.length ≤ 50 → ¬ Fine p' m' ts → Q (.ref t) H'
theorem ok_flawed {f f1 f2 : Addr} {fd fd1 fd2 : FuncData} (F : Fun K "_law_flawed" "_law_flawed" s_law_flawed f fd) (T : Txt mg) (C_law_draws : Cal P w K mg base 1 "_law_draws" ["cell", "sizes"] (sp_draws K) f1 fd1) (C_law_cell : Cal P w K mg base 1 "_law_cell" ["script", "k"] (sp_cell K) f2 fd2) :
    FnOk P w K mg base CX0 2 f fd ["script", "period", "lines", "sums"] (sp_flawed K) := by
  refine F.ok sc_law_flawed (fun vs H Q E h => ?_) (fun cdv A outer s H vs Q E hr h => ?_)
  · obtain ⟨a, sx, ns, us, sums, p, n, rfl, _⟩ := h
    rfl
  · obtain ⟨a, sx, ns, us, sums, p, n, rfl, hS, hns, esx, hT, hO, hlen, hp, hn, q⟩ := h
    refine ⟨_, (pss_cons (ps_set (i := 4) sc_law_flawed.nd rfl (.inl rfl) (pe_call C_law_draws.ok (hr.mono (by decide)) (by rfl) C_law_draws.mg C_law_draws.kp C_law_draws.b .nil pass0 (pa_cons (pe_call C_law_cell.ok (hr.mono (by decide)) (by rfl) C_law_cell.mg C_law_cell.kp C_law_cell.b .nil pass0 (pa_cons (pv 0) (pa_cons pe_int pa_nil))) (pa_cons (pe_lst (pa_cons pe_int (pa_cons pe_int (pa_cons pe_int (pa_cons pe_int (pa_cons pe_int (pa_cons pe_int (pa_cons pe_int pa_nil)))))))) pa_nil))))
 (pss_cons (ps_set (i := 5) sc_law_flawed.nd rfl (.inl rfl) (pe_callTy call_list_of (by rfl) T.list (by decide +kernel) (pa_cons (pv 3) pa_nil)))
 (pss_cons (ps_for PassesOwn.never rfl (pi_range1 rfl T.range (pa_cons (pe_op op_add pe_int (pe_ix ix_list (pv 4) pe_int (fun _ _ => rfl))) pa_nil)) (pg_name (i := 6) sc_law_flawed.nd rfl (.inl rfl))
 (pss_cons (ps_set (i := 7) sc_law_flawed.nd rfl (.inl rfl) (pe_ix ix_list (pv 4) (pv 6) (fun _ _ => rfl)))
 (pss_cons (ps_set (i := 8) sc_law_flawed.nd rfl (.inl rfl) (pe_ix ix_list (pv 4) (pe_op op_add pe_int (pv 6)) (fun _ _ => rfl)))
 (pss_cons (ps_if (pt_cmpR op_eq (pv 7) pe_int (nomark _))
 (pss_one (ps_set (i := 1) sc_law_flawed.nd rfl (.inl rfl) (pe_op op_sub pe_int (pv 8))))
 pss_nil)
 (pss_cons (ps_if (pt_cmpR op_eq (pv 7) pe_int (nomark _))
 (pss_one (ps_set (i := 1) sc_law_flawed.nd rfl (.inl rfl) (pe_op op_add pe_int (pv 8))))
 pss_nil)
 (pss_cons (ps_if (pt_cmpR op_eq (pv 7) pe_int (nomark _))
 (pss_one (ps_set (i := 2) sc_law_flawed.nd rfl (.inl rfl) (pe_op op_sub (pe_un un_neg pe_int) (pv 8))))
 pss_nil)
 (pss_cons (ps_if (pt_cmpR op_eq (pv 7) pe_int (nomark _))
 (pss_one (ps_set (i := 2) sc_law_flawed.nd rfl (.inl rfl) (pe_op op_add pe_int (pv 8))))
 pss_nil)
 (pss_cons (ps_set (i := 9) sc_law_flawed.nd rfl (.inl rfl) (pe_tup (pa_cons pe_int (pa_cons pe_int (pa_cons pe_int pa_nil)))))
 (pss_cons (ps_if (pt_cmpR op_eq (pv 7) pe_int (nomark _))
 (pss_one (ps_set (i := 9) sc_law_flawed.nd rfl (.inl rfl) (pe_tup (pa_cons (pe_op op_sub (pe_un un_neg pe_int) (pv 8)) (pa_cons pe_int (pa_cons pe_int pa_nil))))))
 pss_nil)
 (pss_cons (ps_if (pt_cmpR op_eq (pv 7) pe_int (nomark _))
 (pss_one (ps_set (i := 9) sc_law_flawed.nd rfl (.inl rfl) (pe_tup (pa_cons (pe_op op_add (pv 2) (pv 8)) (pa_cons pe_int (pa_cons pe_int pa_nil))))))
 pss_nil)
 (pss_cons (ps_if (pt_cmpR op_eq (pv 7) pe_int (nomark _))
 (pss_one (ps_set (i := 9) sc_law_flawed.nd rfl (.inl rfl) (pe_tup (pa_cons pe_int (pa_cons (pe_op op_sub (pe_un un_neg pe_int) (pv 8)) (pa_cons pe_int pa_nil))))))
 pss_nil)
 (pss_cons (ps_if (pt_cmpR op_eq (pv 7) pe_int (nomark _))
 (pss_one (ps_set (i := 9) sc_law_flawed.nd rfl (.inl rfl) (pe_tup (pa_cons pe_int (pa_cons (pe_op op_add (pv 2) (pv 8)) (pa_cons pe_int pa_nil))))))
 pss_nil)
 (pss_one (ps_if (pt_cmpR op_gt (pv 7) pe_int (nomark _))
 (pss_one (ps_expr (pe_bm PySem.F.plainAttrs_list PySem.F.slot_list_insert PySem.F.type_list_insert mt_insert (pv 5) (pa_cons (pe_op op_modN (pe_callTy call_int1 (by rfl) T.int (by decide +kernel) (pa_cons (pe_ix ix_list (pv 4) (pe_op op_add pe_int (pv 6)) (fun _ _ => rfl)) pa_nil)) (pe_op op_add (pe_callB call_len_seq (by rfl) T.len (by decide +kernel) (pa_cons (pv 5) pa_nil)) pe_int)) (pa_cons (pv 9) pa_nil)))))
 pss_nil))))))))))))))
 (pss_one (ps_ret (pe_tup (pa_cons (pv 1) (pa_cons (pv 2) (pa_cons (pv 5) pa_nil))))))))), ?_⟩
    refine asgN ⟨_, rfl, a, ns, 7, rfl, hS, hns, by decide, fun c H1 s1 => ⟨(by show 7 ≤ sizeLine; decide), fun z nz => ⟨z, c, [8, 8, 2, 60, 60, 3, 3], rfl, SqL.of upd_same, by decide, by decide, fun dp ds H2 s2 ndp edp dr σ' e => ?_⟩⟩⟩
    obtain rfl : σ' = [some (.ref a), some (nV p), some (nV n), some (.ref sx), some (.ref dp), none, none, none, none, none] := e.symm
    clear e
    obtain ⟨d0, d1, d2, d3, d4, d5, d6, rfl, b0, b1, b2, b3, b4, b5, b6⟩ : ∃ d0 d1 d2 d3 d4 d5 d6, ds = [d0, d1, d2, d3, d4, d5, d6] ∧ d0 < 8 ∧ d1 < 8 ∧ d2 < 2 ∧ d3 < 60 ∧ d4 < 60 ∧ d5 < 3 ∧ d6 < 3 := by
      cases dr with | cons h0 dr => cases dr with | cons h1 dr => cases dr with | cons h2 dr => cases dr with | cons h3 dr => cases dr with | cons h4 dr => cases dr with | cons h5 dr => cases dr with | cons h6 dr => cases dr with | nil => exact ⟨_, _, _, _, _, _, _, rfl, h0, h1, h2, h3, h4, h5, h6⟩
    have t2 : Same H H2 := (s1.new nz).trans s2
    have hG : SqL K H2 dp ([d0, d1, d2, d3, d4, d5, d6].map nV) := SqL.of edp
    -- rows = list(sums)
    refine ⟨_, rfl, sx, us, rfl, .inl (SqL.of (t2 _ _ esx)), fun rx nrx => ?_⟩
    have s3 : Same H2 (upd H2 rx (.lst us)) := (Same.refl H2).new nrx
    have erx : (upd H2 rx (.lst us)) rx = some (.lst us) := upd_same
    generalize upd H2 rx (.lst us) = H3 at s3 erx ⊢
    have t3 := t2.trans s3
    have nrx0 : H rx = none := t2.free nrx
    refine ⟨_, rfl, dp, _, 2, nV d2, rfl, rfl, s3.seq hG, at_n (j := 2) rfl, _, _, rfl, rfl, _, rfl, (by omega), (by omega), ?_⟩
    rw [show (1 + ((d2 : Nat) : Int)).toNat = 1 + d2 by omega]
    refine for_range (lo := 0) (n := 1 + d2) (fun k σ H' => ∃ (pz mz : Int) (rv : List V) (ts : List T3) (v6 v7 v8 v9 : Option V), σ = [some (.ref a), some (.int pz), some (.int mz), some (.ref sx), some (.ref dp), some (.ref rx), v6, v7, v8, v9] ∧ Same H2 H' ∧ H' rx = some (.lst rv) ∧ Trs K H' rv ts ∧ MidT ts ∧ ts.length ≤ 40 + k ∧ mz.natAbs ≤ 100 ∧ (0 < k → ¬ Fine pz mz ts))
      ⟨p, n, us, upS sums, none, none, none, none, rfl, s3, erx, hT.same t3, hO.mid hn, by rw [upS_len]; omega, by omega, fun h => absurd h (Nat.lt_irrefl _)⟩ ?_ ?_
    · rintro k σ H4 hk ⟨pz, mz, rv, ts, v6, v7, v8, v9, rfl, s4, erx, hT4, hM, hlt, hmz, _⟩
      rw [show (0 : Int) + (k : Int) = (k : Int) by omega]
      obtain ⟨kd, hkd, bkd⟩ : ∃ kd, [d0, d1, d2, d3, d4, d5, d6][k]? = some kd ∧ kd < 8 := by
        match k, hk with
        | 0, _ => exact ⟨d0, rfl, b0⟩
        | 1, _ => exact ⟨d1, rfl, b1⟩
        | k + 2, h => omega
      obtain ⟨be, hbe, bbe⟩ : ∃ be, [d0, d1, d2, d3, d4, d5, d6][5 + k]? = some be ∧ be < 3 := by
        match k, hk with
        | 0, _ => exact ⟨d5, rfl, b5⟩
        | 1, _ => exact ⟨d6, rfl, b6⟩
        | k + 2, h => omega
      obtain ⟨pl, hpl, _⟩ : ∃ pl, [d0, d1, d2, d3, d4, d5, d6][3 + k]? = some pl ∧ pl < 60 := by
        match k, hk with
        | 0, _ => exact ⟨d3, rfl, b3⟩
        | 1, _ => exact ⟨d4, rfl, b4⟩
        | k + 2, h => omega
      have hG4 := s4.seq hG
      refine asgN ⟨_, rfl, _, rfl, dp, _, _, nV kd, rfl, rfl, hG4, at_n (getn hkd), fun σ' e => ?_⟩
      obtain rfl : σ' = [some (.ref a), some (.int pz), some (.int mz), some (.ref sx), some (.ref dp), some (.ref rx), some (nV k), some (nV kd), v8, v9] := e.symm
      clear e
      refine asgN ⟨_, rfl, _, rfl, _, _, rfl, rfl, dp, _, _, nV be, rfl, rfl, hG4, at_n (j := 5 + k) (getn hbe), fun σ' e => ?_⟩
      obtain rfl : σ' = [some (.ref a), some (.int pz), some (.int mz), some (.ref sx), some (.ref dp), some (.ref rx), some (nV k), some (nV kd), some (nV be), v9] := e.symm
      clear e
      -- period
      refine ifsetP (C := (kd : Int) = 0) (fun u H' => H' = H4 ∧ ∃ z : Int, u = .int z ∧ (kd = 0 → ¬ (1 ≤ z ∧ z ≤ 60))) (fun Q' hq => ⟨_, rfl, rfl, _, rfl, testI (Q := Q') (H := H4) hq⟩) rfl (fun nc => ⟨rfl, pz, rfl, fun e => by omega⟩)
        (fun c Q' hq => ⟨_, rfl, _, _, rfl, rfl, hq _ _ ⟨rfl, _, rfl, fun _ => by omega⟩⟩) ?_
      rintro u1 H' ⟨rfl, p1, rfl, hp1⟩
      refine ifsetP (C := (kd : Int) = 1) (fun u H'' => H'' = H' ∧ ∃ z : Int, u = .int z ∧ (kd = 0 ∨ kd = 1 → ¬ (1 ≤ z ∧ z ≤ 60))) (fun Q' hq => ⟨_, rfl, rfl, _, rfl, testI (Q := Q') (H := H') hq⟩) rfl (fun nc => ⟨rfl, p1, rfl, fun e => hp1 (by omega)⟩)
        (fun c Q' hq => ⟨_, rfl, _, _, rfl, rfl, hq _ _ ⟨rfl, _, rfl, fun _ => by omega⟩⟩) ?_
      rintro u2 H'' ⟨rfl, p2, rfl, hp2⟩
      -- lines
      refine ifsetP (C := (kd : Int) = 2) (fun u H' => H' = H'' ∧ ∃ z : Int, u = .int z ∧ z.natAbs ≤ 100 ∧ (kd = 2 → ¬ (0 ≤ z ∧ z ≤ 20))) (fun Q' hq => ⟨_, rfl, rfl, _, rfl, testI (Q := Q') (H := H'') hq⟩) rfl (fun nc => ⟨rfl, mz, rfl, hmz, fun e => by omega⟩)
        (fun c Q' hq => ⟨_, rfl, _, rfl, _, _, rfl, rfl, hq _ _ ⟨rfl, _, rfl, by omega, fun _ => by omega⟩⟩) ?_
      rintro u3 H' ⟨rfl, m1, rfl, hm1, hm1'⟩
      refine ifsetP (C := (kd : Int) = 3) (fun u H'' => H'' = H' ∧ ∃ z : Int, u = .int z ∧ z.natAbs ≤ 100 ∧ (kd = 2 ∨ kd = 3 → ¬ (0 ≤ z ∧ z ≤ 20))) (fun Q' hq => ⟨_, rfl, rfl, _, rfl, testI (Q := Q') (H := H') hq⟩) rfl (fun nc => ⟨rfl, m1, rfl, hm1, fun e => hm1' (by omega)⟩)
        (fun c Q' hq => ⟨_, rfl, _, _, rfl, rfl, hq _ _ ⟨rfl, _, rfl, by omega, fun _ => by omega⟩⟩) ?_
      rintro u4 H'' ⟨rfl, m2, rfl, hm2, hm2'⟩
      have hT5 := hT4
      have erx5 := erx
      -- wrong
      refine asgN ⟨(by show 3 ≤ sizeLine; decide), fun t0 n0 σ' e => ?_⟩
      obtain rfl : σ' = [some (.ref a), some (.int p2), some (.int m2), some (.ref sx), some (.ref dp), some (.ref rx), some (nV k), some (nV kd), some (nV be), some (.ref t0)] := e.symm
      clear e
      have sc : Same H'' (upd H'' t0 (.tup [.int 0, .int 0, .int 5])) := (Same.refl H'').new n0
      have et0 : (upd H'' t0 (.tup [.int 0, .int 0, .int 5])) t0 = some (.tup [.int 0, .int 0, .int 5]) := upd_same
      generalize upd H'' t0 (.tup [.int 0, .int 0, .int 5]) = HC at sc et0 ⊢
      refine ifsetP (C := (kd : Int) = 4) (fun u H' => ∃ (t : Addr) (x1 x2 : Int), u = .ref t ∧ Same H'' H' ∧ H' t = some (.tup [.int x1, .int x2, .int 5]) ∧ x1.natAbs ≤ 200 ∧ x2.natAbs ≤ 200 ∧ (kd = 4 → ¬ Okl m2 x1) ∧ (False → ¬ Okl m2 x2)) (fun Q' hq => ⟨_, rfl, rfl, _, rfl, testI (Q := Q') (H := HC) hq⟩) rfl (fun nc => ⟨t0, 0, 0, rfl, sc, et0, by decide, by decide, fun e => by omega, fun e => e.elim⟩)
        (fun c Q' hq => ⟨_, rfl, _, rfl, _, _, rfl, rfl, (by show 3 ≤ sizeLine; decide), fun t nt => hq _ _ ⟨t, -1 - (be : Int), 0, rfl, sc.new nt, upd_same, by omega, by omega, fun e => by unfold Okl; omega, fun e => by first | exact e.elim | (unfold Okl; omega)⟩⟩) ?_
      rintro u5 HD ⟨t5, x1, x2, rfl, sd, et5, bx1, bx2, c1, c2⟩
      refine ifsetP (C := (kd : Int) = 5) (fun u H' => ∃ (t : Addr) (x1 x2 : Int), u = .ref t ∧ Same H'' H' ∧ H' t = some (.tup [.int x1, .int x2, .int 5]) ∧ x1.natAbs ≤ 200 ∧ x2.natAbs ≤ 200 ∧ (kd = 4 ∨ kd = 5 → ¬ Okl m2 x1) ∧ (False → ¬ Okl m2 x2)) (fun Q' hq => ⟨_, rfl, rfl, _, rfl, testI (Q := Q') (H := HD) hq⟩) rfl (fun nc => ⟨t5, x1, x2, rfl, sd, et5, bx1, bx2, fun e => c1 (by omega), fun e => e.elim⟩)
        (fun c Q' hq => ⟨_, rfl, _, rfl, _, _, rfl, rfl, (by show 3 ≤ sizeLine; decide), fun t nt => hq _ _ ⟨t, m2 + (be : Int), 0, rfl, sd.new nt, upd_same, by omega, by omega, fun e => by unfold Okl; omega, fun e => by first | exact e.elim | (unfold Okl; omega)⟩⟩) ?_
      clear et5 bx1 bx2 c1 c2 sd x1 x2
      rintro u6 HE ⟨t6, x1, x2, rfl, se, et6, bx1, bx2, c1, c2⟩
      refine ifsetP (C := (kd : Int) = 6) (fun u H' => ∃ (t : Addr) (x1 x2 : Int), u = .ref t ∧ Same H'' H' ∧ H' t = some (.tup [.int x1, .int x2, .int 5]) ∧ x1.natAbs ≤ 200 ∧ x2.natAbs ≤ 200 ∧ (kd = 4 ∨ kd = 5 → ¬ Okl m2 x1) ∧ (kd = 6 → ¬ Okl m2 x2)) (fun Q' hq => ⟨_, rfl, rfl, _, rfl, testI (Q := Q') (H := HE) hq⟩) rfl (fun nc => ⟨t6, x1, x2, rfl, se, et6, bx1, bx2, fun e => c1 (by omega), fun e => by omega⟩)
        (fun c Q' hq => ⟨_, rfl, _, rfl, _, _, rfl, rfl, (by show 3 ≤ sizeLine; decide), fun t nt => hq _ _ ⟨t, 0, -1 - (be : Int), rfl, se.new nt, upd_same, by omega, by omega, fun e => by unfold Okl; omega, fun e => by first | exact e.elim | (unfold Okl; omega)⟩⟩) ?_
      clear et6 bx1 bx2 c1 c2 se x1 x2
      rintro u7 HF ⟨t7, x1, x2, rfl, sf, et7, bx1, bx2, c1, c2⟩
      refine ifsetP (C := (kd : Int) = 7) (fun u H' => ∃ (t : Addr) (x1 x2 : Int), u = .ref t ∧ Same H'' H' ∧ H' t = some (.tup [.int x1, .int x2, .int 5]) ∧ x1.natAbs ≤ 200 ∧ x2.natAbs ≤ 200 ∧ (kd = 4 ∨ kd = 5 → ¬ Okl m2 x1) ∧ (kd = 6 ∨ kd = 7 → ¬ Okl m2 x2)) (fun Q' hq => ⟨_, rfl, rfl, _, rfl, testI (Q := Q') (H := HF) hq⟩) rfl (fun nc => ⟨t7, x1, x2, rfl, sf, et7, bx1, bx2, fun e => c1 (by omega), fun e => c2 (by omega)⟩)
        (fun c Q' hq => ⟨_, rfl, _, rfl, _, _, rfl, rfl, (by show 3 ≤ sizeLine; decide), fun t nt => hq _ _ ⟨t, 0, m2 + (be : Int), rfl, sf.new nt, upd_same, by omega, by omega, fun e => by unfold Okl; omega, fun e => by first | exact e.elim | (unfold Okl; omega)⟩⟩) ?_
      clear et7 bx1 bx2 c1 c2 sf x1 x2
      rintro u8 HG ⟨t8, x1, x2, rfl, sg, et8, bx1, bx2, c1, c2⟩
      have s24 := s4.trans sg
      have erx8 := sg _ _ erx
      have hT8 := hT4.same sg
      have hlr : rv.length = ts.length := P_len hT4
      refine ⟨_, rfl, _, _, rfl, rfl, _, rfl, ite2 (fun c => ?_) (fun c => ?_)⟩
      · have hgt : 3 < kd := by
          have := of_decide_eq_true c
          omega
        obtain ⟨pi, epi, hpi⟩ := fmod_nat (pl : Int) (z := rv.length + 1) (by omega)
        refine ⟨_, rfl, .inl ⟨rfl, _, SqL.of erx8⟩, _, rfl, _, rfl, _, _, rfl, rfl, dp, _, _, nV pl, rfl, rfl, s24.seq hG, at_n (j := 3 + k) (getn hpl), .inl ⟨_, rfl, _, rfl, rx, _, rfl, .inl (SqL.of erx8), _, _, rfl, rfl, _, _, rfl, rfl, (by show ((rv.length : Nat) : Int) + 1 ≠ 0; omega), ?_⟩⟩
        dsimp only
        rw [show ((rv.length : Nat) : Int) + 1 = ((rv.length + 1 : Nat) : Int) by omega, epi]
        refine ⟨_, rfl, rx, _, (pi : Int), _, rfl, rfl, erx8, by rw [hlr]; exact szl (by omega), by omega, by omega, ?_⟩
        rw [show ((pi : Nat) : Int).toNat = pi by omega]
        have hbad : ¬ Okt m2 (x1, x2, 5) := fun z => by
          rcases (show kd = 4 ∨ kd = 5 ∨ kd = 6 ∨ kd = 7 by omega) with e | e | e | e
          · exact c1 (.inl e) z.1
          · exact c1 (.inr e) z.1
          · exact c2 (.inl e) z.2
          · exact c2 (.inr e) z.2
        refine ⟨p2, m2, _, ts.take pi ++ [(x1, x2, 5)] ++ ts.drop pi, _, _, _, _, rfl, s24.mut nrx, upd_same, ?_, ?_, ?_, hm2, fun _ f => hbad (f.okl _ (by simp))⟩
        · refine P_append (P_append (P_take pi (hT8.mutL erx8)) (.cons ⟨t8, rfl, sqT_mutL (SqT.of et8) erx8⟩ .nil)) (P_drop pi (hT8.mutL erx8))
        · intro y hy
          rcases List.mem_append.mp hy with hy | hy
          · rcases List.mem_append.mp hy with hy | hy
            · exact hM y (List.mem_of_mem_take hy)
            · rw [List.mem_singleton.mp hy]
              exact ⟨Nat.le_trans bx1 (by decide), Nat.le_trans bx2 (by decide), (by show (5 : Int).natAbs ≤ 10 ^ 16; decide)⟩
          · exact hM y (List.mem_of_mem_drop hy)
        · rw [List.length_append, List.length_append, List.length_take, List.length_drop, List.length_singleton]
          omega
      · have hle : kd ≤ 3 := by
          refine Nat.le_of_not_lt fun h => c (decide_eq_true ?_)
          show (kd : Int) > 3
          omega
        refine ⟨p2, m2, rv, ts, _, _, _, _, rfl, s24, erx8, hT8, hM, by omega, hm2, fun _ f => ?_⟩
        rcases (show kd = 0 ∨ kd = 1 ∨ kd = 2 ∨ kd = 3 by omega) with e | e | e | e
        · exact hp2 (.inl e) f.okp
        · exact hp2 (.inr e) f.okp
        · exact hm2' (.inl e) f.okm
        · exact hm2' (.inr e) f.okm
    · rintro σ H4 ⟨pz, mz, rv, ts, v6, v7, v8, v9, rfl, s4, erx, hT4, hM, hlt, hmz, bad⟩
      refine ⟨_, rfl, _, rfl, _, rfl, (by show 3 ≤ sizeLine; decide), fun t nt => ?_⟩
      have s5 : Same H4 (upd H4 t (.tup [.int pz, .int mz, .ref rx])) := (Same.refl H4).new nt
      exact q t rx rv ts pz mz _ ((t2.trans s4).trans s5) nrx0 upd_same (s5 _ _ erx) (hT4.same s5) hM (by omega) (bad (by omega))
/-! ### the first wrong argument, by the law -/
def sp_flaw (K : PySem.W.Frag) : Sp := fun vs H Q _ => ∃ (a : Addr) (us : List V) (ts : List T3) (p m : Int), vs = [.int p, .int m, .ref a] ∧ SqL K H a us ∧ Trs K H us ts ∧ ¬ Fine p m ts ∧ ∀ wd z, Flaw p m ts wd z → ∀ t H', Same H H' → H' t = some (.tup [.str wd, .int z]) → Q (.ref t) H'
theorem ok_flaw {f : Addr} {fd : FuncData} (F : Fun K "_law_first_flaw" "_law_first_flaw" s_law_first_flaw f fd) (T : Txt mg) : FnOk P w K mg base CX0 1 f fd ["period", "lines", "sums"] (sp_flaw K) := by
  refine F.ok sc_law_first_flaw (fun vs H Q E h => ?_) (fun cdv A outer s H vs Q E hr h => ?_)
  · obtain ⟨a, us, ts, p, m, rfl, _⟩ := h
    rfl
  · obtain ⟨a, us, ts, p, m, rfl, hS, hT, nf, q⟩ := h
    refine ⟨_, (pss_cons (ps_if (pt_not (pt_chain op_le op_le pe_int (pv 0) pe_int))
 (pss_one (ps_ret (pe_tup (pa_cons pe_str (pa_cons (pv 0) pa_nil)))))
 pss_nil)
 (pss_cons (ps_if (pt_not (pt_chain op_le op_le pe_int (pv 1) pe_int))
 (pss_one (ps_ret (pe_tup (pa_cons pe_str (pa_cons (pv 1) pa_nil)))))
 pss_nil)
 (pss_cons (ps_for PassesOwn.never rfl (pi_list (pv 2)) (pg_tup rfl (pgs_cons (pg_name (i := 3) sc_law_first_flaw.nd rfl (.inl rfl)) (pgs_cons (pg_name (i := 4) sc_law_first_flaw.nd rfl (.inl rfl)) (pgs_cons (pg_name (i := 5) sc_law_first_flaw.nd rfl (.inl rfl)) pgs_nil))))
 (pss_cons (ps_if (pt_not (pt_chain op_le op_lt pe_int (pv 3) (pv 1)))
 (pss_one (ps_ret (pe_tup (pa_cons pe_str (pa_cons (pv 3) pa_nil)))))
 pss_nil)
 (pss_one (ps_if (pt_not (pt_chain op_le op_lt pe_int (pv 4) (pv 1)))
 (pss_one (ps_ret (pe_tup (pa_cons pe_str (pa_cons (pv 4) pa_nil)))))
 pss_nil))))
 (pss_one (ps_ret (pe_tup (pa_cons pe_str (pa_cons pe_int pa_nil)))))))), ?_⟩
    have ret : ∀ {wd z}, Flaw p m ts wd z → ∀ t, H t = none → Q (.ref t) (upd H t (.tup [.str wd, .int z])) := fun f t nt => q _ _ f t _ ((Same.refl H).new nt) upd_same
    refine ⟨_, rfl, _, _, rfl, rfl, _, rfl, ?_⟩
    by_cases p1' : ¬ ((1 : Int) ≤ p)
    · have p1 := p1'
      rw [decide_eq_false p1]
      exact iteF ⟨_, rfl, iteT ⟨_, rfl, sp2, fun t nt => ret (.period (fun z => p1 z.1)) t nt⟩⟩
    have p1 := Decidable.not_not.mp p1'
    rw [decide_eq_true p1]
    refine iteT ⟨_, _, rfl, rfl, _, rfl, ?_⟩
    by_cases p2' : ¬ (p ≤ 60)
    · have p2 := p2'
      rw [decide_eq_false p2]
      exact iteT ⟨_, rfl, sp2, fun t nt => ret (.period (fun z => p2 z.2)) t nt⟩
    have p2 := Decidable.not_not.mp p2'
    rw [decide_eq_true p2]
    refine iteF ?_
    have okp : 1 ≤ p ∧ p ≤ 60 := ⟨p1, p2⟩
    refine ⟨_, rfl, _, _, rfl, rfl, _, rfl, ?_⟩
    by_cases m1' : ¬ ((0 : Int) ≤ m)
    · have m1 := m1'
      rw [decide_eq_false m1]
      exact iteF ⟨_, rfl, iteT ⟨_, rfl, sp2, fun t nt => ret (.many okp (fun z => m1 z.1)) t nt⟩⟩
    have m1 := Decidable.not_not.mp m1'
    rw [decide_eq_true m1]
    refine iteT ⟨_, _, rfl, rfl, _, rfl, ?_⟩
    by_cases m2' : ¬ (m ≤ 20)
    · have m2 := m2'
      rw [decide_eq_false m2]
      exact iteT ⟨_, rfl, sp2, fun t nt => ret (.many okp (fun z => m2 z.2)) t nt⟩
    have m2 := Decidable.not_not.mp m2'
    rw [decide_eq_true m2]
    refine iteF ?_
    have okm : 0 ≤ m ∧ m ≤ 20 := ⟨m1, m2⟩
    refine ⟨_, rfl, a, rfl, ⟨_, hS⟩, for_list (K := K) (a := a) (xs := us) (fun i σ H' => ∃ v3 v4 v5 : Option V, σ = [some (.int p), some (.int m), some (.ref a), v3, v4, v5] ∧ H' = H ∧ ∀ (j : Nat) (y : T3), j < i → ts[j]? = some y → Okt m y) ⟨_, _, _, rfl, rfl, fun j y h => absurd h (Nat.not_lt_zero j)⟩ (fun i σ H' _ ⟨_, _, _, _, e, _⟩ => by rw [e]; exact hS) ?_ ?_⟩
    · rintro i x σ H' hi ⟨v3, v4, v5, rfl, rfl, fine⟩
      obtain ⟨y, hy, t, rfl, et⟩ := P_right hT hi
      refine ⟨t, _, rfl, et, rfl, _, _, rfl, _, _, rfl, _, _, rfl, rfl, ?_⟩
      have lf1 : ¬ Okl m y.1 → Flaw p m ts "line" y.1 := fun b => .line okp okm (.fst hy b fine)
      refine ⟨_, rfl, _, _, rfl, rfl, _, rfl, ?_⟩
      by_cases c1' : ¬ ((0 : Int) ≤ y.1)
      · have c1 := c1'
        rw [decide_eq_false c1]
        exact iteF ⟨_, rfl, iteT ⟨_, rfl, sp2, fun t nt => ret (lf1 fun z => c1 z.1) t nt⟩⟩
      have c1 := Decidable.not_not.mp c1'
      rw [decide_eq_true c1]
      refine iteT ⟨_, rfl, _, _, rfl, rfl, _, rfl, ?_⟩
      by_cases c2' : ¬ (y.1 < m)
      · have c2 := c2'
        rw [decide_eq_false c2]
        exact iteT ⟨_, rfl, sp2, fun t nt => ret (lf1 fun z => by have := z.2; omega) t nt⟩
      have c2 := Decidable.not_not.mp c2'
      rw [decide_eq_true c2]
      refine iteF ?_
      have ok1 : Okl m y.1 := ⟨c1, by omega⟩
      have lf2 : ¬ Okl m y.2.1 → Flaw p m ts "line" y.2.1 := fun b => .line okp okm (.snd hy ok1 b fine)
      refine ⟨_, rfl, _, _, rfl, rfl, _, rfl, ?_⟩
      by_cases c3' : ¬ ((0 : Int) ≤ y.2.1)
      · have c3 := c3'
        rw [decide_eq_false c3]
        exact iteF ⟨_, rfl, iteT ⟨_, rfl, sp2, fun t nt => ret (lf2 fun z => c3 z.1) t nt⟩⟩
      have c3 := Decidable.not_not.mp c3'
      rw [decide_eq_true c3]
      refine iteT ⟨_, rfl, _, _, rfl, rfl, _, rfl, ?_⟩
      by_cases c4' : ¬ (y.2.1 < m)
      · have c4 := c4'
        rw [decide_eq_false c4]
        exact iteT ⟨_, rfl, sp2, fun t nt => ret (lf2 fun z => by have := z.2; omega) t nt⟩
      have c4 := Decidable.not_not.mp c4'
      rw [decide_eq_true c4]
      refine iteF ⟨_, _, _, rfl, rfl, fun j y' hj hy' => ?_⟩
      by_cases e : j = i
      · subst e
        rw [hy] at hy'
        cases hy'
        exact ⟨ok1, c3, by omega⟩
      · exact fine j y' (by omega) hy'
    · rintro σ H' ⟨v3, v4, v5, rfl, rfl, fine⟩
      refine (nf ⟨okp, okm, fun y hy => ?_⟩).elim
      obtain ⟨j, hj⟩ := List.getElem?_of_mem hy
      exact fine j y (by rw [P_len hT]; exact lt_get hj) hj
end
end K32W

namespace K32W
open PySem PySem.Spec PyProof.Rows L2 KH K32 KD
abbrev s_law_refused : Stmt := topS 34
theorem sc_law_refused : FnScope ["period", "lines", "sums", "word", "number", "passed", "e"] ["period", "lines", "sums"] (defScope s_law_refused) := ⟨rfl, rfl, rfl, by decide +kernel, rfl, by decide +kernel, by decide +kernel⟩

abbrev slaw : Stmt := topS 35
theorem sclaw : FnScope ["script", "period", "lines", "rows", "mode", "joined", "pairs", "sums", "due", "other", "wrong_period", "wrong_lines", "wrong_sums"] ["script"] (defScope slaw) := ⟨rfl, rfl, rfl, by decide +kernel, rfl, by decide +kernel, by decide +kernel⟩

theorem LF.uniq {m z z' : Int} {ts : List T3} (f : LF m ts z) (g : LF m ts z') : z = z' := by
  have same : ∀ {k k' : Nat} {q q' : T3}, ts[k]? = some q → ts[k']? = some q' → ¬ Okt m q → ¬ Okt m q' → (∀ (j : Nat) (y : T3), j < k → ts[j]? = some y → Okt m y) → (∀ (j : Nat) (y : T3), j < k' → ts[j]? = some y → Okt m y) → q = q' := by
    intro k k' q q' h h' b b' f f'
    rcases Nat.lt_trichotomy k k' with c | c | c
    · exact (b (f' k q c h)).elim
    · subst c
      rw [h] at h'
      exact Option.some.inj h'
    · exact (b' (f k' q' c h')).elim
  cases f with
  | fst h b f =>
    cases g with
    | fst h' b' f' => rw [same h h' (fun z => b z.1) (fun z => b' z.1) f f']
    | snd h' o' b' f' =>
      have e := same h h' (fun z => b z.1) (fun z => b' z.2) f f'
      rw [e] at b
      exact (b o').elim
  | snd h o b f =>
    cases g with
    | fst h' b' f' =>
      have e := same h h' (fun z => b z.2) (fun z => b' z.1) f f'
      rw [← e] at b'
      exact (b' o).elim
    | snd h' o' b' f' => rw [same h h' (fun z => b z.2) (fun z => b' z.2) f f']
theorem Flaw.uniq {p m : Int} {ts : List T3} {wd wd' : Str} {z z' : Int} (f : Flaw p m ts wd z) (g : Flaw p m ts wd' z') : wd = wd' ∧ z = z' := by
  cases f with
  | period b =>
    cases g with
    | period _ => exact ⟨rfl, rfl⟩
    | many o _ => exact (b o).elim
    | line o _ _ => exact (b o).elim
  | many o b =>
    cases g with
    | period b' => exact (b' o).elim
    | many _ _ => exact ⟨rfl, rfl⟩
    | line _ o' _ => exact (b o').elim
  | line o1 o2 l =>
    cases g with
    | period b' => exact (b' o1).elim
    | many _ b' => exact (b' o2).elim
    | line _ _ l' => exact ⟨rfl, l.uniq l'⟩
section
variable {P : Program} {w : World} {K : PySem.W.Frag} {mg : Str → Option Value} {base : Heap} {CN CB CD CT CU fI : Addr}
def sp_refused (K : PySem.W.Frag) : Sp := fun vs H Q _ => ∃ (a : Addr) (us : List V) (ts : List T3) (p m : Int), vs = [.int p, .int m, .ref a] ∧ H a = some (.lst us) ∧ Trs K H us ts ∧ ts.length ≤ 50 ∧ MidT ts ∧ ¬ Fine p m ts ∧ ∀ H', Same H H' → Q (.bl true) H'
theorem ok_refused {f f1 f2 f3 : Addr} {fd fd1 fd2 fd3 : FuncData} (F : Fun K "_law_refused" "_law_refused" s_law_refused f fd) (T : Txt mg) (XB : Exc P K mg CN CB CD CT CU fI) (Csettle : CalX P w K mg base 5 "settle" ["period", "many", "sums"] (sp_settle K CN) f1 fd1)
    (C_law_first_flaw : Cal P w K mg base 1 "_law_first_flaw" ["period", "lines", "sums"] (sp_flaw K) f2 fd2) (C_law_number : CalQ P w K mg base 1 "_law_number" ["thing"] sp_number f3 fd3) : FnOkG P w K mg base 6 f fd ["period", "lines", "sums"] (sp_refused K) := by
  refine F.okG sc_law_refused (fun vs H Q E h => ?_) (fun cdv A outer s H vs Q E gA0 hr h => ?_)
  · obtain ⟨a, us, ts, p, m, rfl, _⟩ := h
    rfl
  · obtain ⟨a, us, ts, p, m, rfl, ha, hT, hl, hM, nf, q⟩ := h
    have gA : (A.deeper (envOfC "_law_refused" (defScope s_law_refused) s.heap.objs.size f cdv)).guards = some [] := gA0
    have S1 := dTs_shows hM (by omega)
    have nW : PySem.W.findIn K (.ref CN) "what" = some none := XB.own.noN "what" (by simp)
    have nV' : PySem.W.findIn K (.ref CN) "value" = some none := XB.own.noN "value" (by simp)
    refine ⟨_, (pss_cons (ps_asg (pe_call C_law_first_flaw.ok (hr.mono (by decide)) (by rfl) C_law_first_flaw.mg C_law_first_flaw.kp C_law_first_flaw.b .nil pass0 (pa_cons (pv 0) (pa_cons (pv 1) (pa_cons (pv 2) pa_nil)))) (pg_tup rfl (pgs_cons (pg_name (i := 3) sc_law_refused.nd rfl (.inl rfl)) (pgs_cons (pg_name (i := 4) sc_law_refused.nd rfl (.inl rfl)) pgs_nil))))
      (pss_cons (ps_set (i := 5) sc_law_refused.nd rfl (.inl rfl) (pe_callTy call_list_of (by rfl) T.list (by decide +kernel) (pa_cons (pv 2) pa_nil)))
      (pss_cons (ps_try_as (i := 6) (tb := fun W => tDrop (tCallS (sp_settle K CN) (WE W) (tCons (tVar 0) (tCons (tVar 1) (tCons (tVar 5) tNil))))) (Wout := fun _ _ _ _ => False) rfl rfl sc_law_refused.nd rfl rfl ⟨rfl, by decide, Or.inl XB.gB⟩ takes0
          (fun W pn xe tk _ => pss_one (ps_expr (by exact (pe_callS Csettle.ok hr rfl Csettle.mg Csettle.kp Csettle.b (fun σ => passAt tk σ) (by exact (pa_cons (pv 0) (pa_cons (pv 1) (pa_cons (pv 5) pa_nil))))))))
          (fun a oe cls d pn hz hf => (pss_cons (ps_if (PW.pt (pw_or (pt_not (pt_val (pe_callB (r := rIsC K a cls d) (call_isC hz hf) (by rfl) T.isinstance (by decide +kernel) (pa_cons (pv 6) (pa_cons (pe_glob (v := .ref CN) rfl XB.gN rfl) pa_nil))))) (pw_or1 (pt_val (pe_callB (r := rIsCT K a cls d) (call_isCT hz hf) (by rfl) T.isinstance (by decide +kernel) (pa_cons (pv 6) (pa_cons (pe_tup (pa_cons (pe_glob (v := .ref CD) rfl XB.gD rfl) (pa_cons (pe_glob (v := .ref CT) rfl XB.gT rfl) (pa_cons (pe_glob (v := .ref CU) rfl XB.gU rfl) pa_nil)))) pa_nil)))))))
            (pss_one (ps_ret pe_bl)) pss_nil)
            (pss_cons (ps_if (PW.pt (pw_or (pt_not (pt_val (pe_callB (r := rIsi K) call_isi (by rfl) T.isinstance (by decide +kernel) (pa_cons (pe_xf XB.xf nW hz hf (pv 6)) (pa_cons (pe_bltn (v := .ty "str") (by rfl) T.str (by decide +kernel) rfl) pa_nil))))) (pw_or (pt_not (pt_val (pe_callQ C_law_number.ok ⟨(hr.mono (j := 1) (by decide)).dp, (hr.mono (j := 1) (by decide)).un⟩ (by rfl) C_law_number.mg C_law_number.kp C_law_number.b (pa_cons (pe_xf XB.xf nV' hz hf (pv 6)) pa_nil)))) (pw_or1 (pt_cmpR op_ne (pe_callB (r := rRepr K) (call_reprD gA hr.units) (by rfl) T.repr (by decide +kernel) (pa_cons (pv 5) pa_nil)) (pe_callB (r := rRepr K) (call_reprD gA hr.units) (by rfl) T.repr (by decide +kernel) (pa_cons (pv 2) pa_nil)) (nomark _))))))
            (pss_one (ps_ret pe_bl)) pss_nil)
            (pss_one (ps_ret (pe_and (pe_cmpR op_eq (pe_xf XB.xf nW hz hf (pv 6)) (pv 3) (nomark _)) (pe_one (pe_cmpR op_eq (pe_xf XB.xf nV' hz hf (pv 6)) (pv 4) (nomark _))))))))))
      (pss_one (ps_ret pe_bl))))), ?_⟩
    refine ⟨_, rfl, _, rfl, _, rfl, a, us, ts, p, m, rfl, SqL.of ha, hT, nf, fun wd z fl t H1 s1 et => ?_⟩
    refine ⟨t, _, rfl, SqT.of et, rfl, _, _, rfl, _, _, rfl, rfl, ?_⟩
    refine ⟨_, rfl, a, _, rfl, .inl (s1.seq (SqL.of ha)), fun pl npl => ?_⟩
    have s2 : Same H1 (upd H1 pl (.lst us)) := (Same.refl H1).new npl
    have epl : (upd H1 pl (.lst us)) pl = some (.lst us) := upd_same
    generalize upd H1 pl (.lst us) = H2 at s2 epl ⊢
    have t2 := s1.trans s2
    refine ⟨_, rfl, _, rfl, _, rfl, p, m, pl, us, ts, rfl, Sq.of epl, hT.same t2, by omega, fun wd' z' fl' d H3 s3 nd ed => ?_, fun fine => (nf fine).elim⟩
    obtain ⟨e1, e2⟩ := fl'.uniq fl
    subst e1 e2
    have t3 := t2.trans s3
    refine ⟨true, XB.te, fun _ x nx => ?_, fun z => Bool.noConfusion z⟩
    refine ⟨_, rfl, CN, _, _, true, rfl, ⟨rfl, XB.ec, d, _, rfl, ed⟩, .own CN, XB.kN, _, rfl, iteF ?_⟩
    refine ⟨_, rfl, (by show 3 ≤ sizeLine; decide), fun tp ntp => ?_⟩
    have s4 : Same H3 (upd H3 tp (.tup [.ref CD, .ref CT, .ref CU])) := (Same.refl H3).new ntp
    have etp : (upd H3 tp (.tup [.ref CD, .ref CT, .ref CU])) tp = some (.tup [.ref CD, .ref CT, .ref CU]) := upd_same
    generalize upd H3 tp (.tup [.ref CD, .ref CT, .ref CU]) = H4 at s4 etp ⊢
    have ed4 := s4 _ _ ed
    have t4 := t3.trans s4
    refine ⟨CN, tp, _, _, false, rfl, ⟨rfl, XB.ec, d, _, rfl, ed4⟩, etp, .cons (.own CD) (.cons (.own CT) (.cons (.own CU) .nil)), XB.kO, _, rfl, iteF ?_⟩
    refine ⟨_, rfl, rfl, rfl, d, _, _, rfl, ed4, lk_what, _, _, _, _, true, rfl, .ty "str", .base (.str _), kit_ty (by decide +kernel), _, rfl, iteF ?_⟩
    refine ⟨_, rfl, rfl, rfl, d, _, _, rfl, ed4, lk_value, _, rfl, _, rfl, iteF ?_⟩
    refine ⟨_, rfl, pl, _, rfl, dpT (SqL.of ((s3.trans s4) _ _ epl)) (hT.same t4), S1.sh, S1.nd, S1.dp, S1.sz, _, rfl, a, _, rfl, dpT (SqL.of (t4 _ _ ha)) (hT.same t4), S1.sh, S1.nd, S1.dp, S1.sz, rfl, _, rfl, ?_⟩
    rw [decide_eq_true rfl]
    refine iteF ?_
    refine ⟨_, rfl, rfl, rfl, d, _, _, rfl, ed4, lk_what, _, rfl, rfl, _, rfl, ?_⟩
    rw [decide_eq_true rfl]
    refine iteT ⟨_, rfl, rfl, rfl, d, _, _, rfl, ed4, lk_value, _, rfl, rfl, ?_⟩
    rw [decide_eq_true rfl]
    exact q H4 t4
/-! ### the law -/
def sp_law (K : PySem.W.Frag) : Sp := fun vs H Q _ => ∃ (a : Addr) (ns : List Int), vs = [.ref a] ∧ SqL K H a (ns.map V.int) ∧ ns.length ≤ 63 ∧ ∀ H', Q (.bl true) H'
theorem ok_law {f f1 f2 f3 f4 f5 f6 f7 f8 f9 fA fB : Addr} {fd fd1 fd2 fd3 fd4 fd5 fd6 fd7 fd8 fd9 fdA fdB : FuncData} (F : Fun K "law" "law" slaw f fd) (T : Txt mg) (C_law_shape : Cal P w K mg base 2 "_law_shape" ["script"] (sp_shape K) f1 fd1) (C_law_line : Cal P w K mg base 2 "_law_line" ["script", "lines"] (sp_line K) f2 fd2)
    (C_law_pairs : Cal P w K mg base 2 "_law_pairs" ["script", "lines", "rows"] (sp_pairs K) f3 fd3) (C_law_sums : Cal P w K mg base 2 "_law_sums" ["script", "period", "lines", "pairs", "mode"] (sp_sumsL K) f4 fd4) (C_law_due : Cal P w K mg base 3 "_law_due" ["period", "lines", "sums"] (sp_due K) f5 fd5)
    (C_law_answered : CalG P w K mg base 6 "_law_answered" ["period", "lines", "sums", "due"] (sp_answered K) f6 fd6) (C_law_other : Cal P w K mg base 2 "_law_other" ["script", "period", "lines", "sums", "due"] (sp_other K) f7 fd7) (C_law_flawed : Cal P w K mg base 2 "_law_flawed" ["script", "period", "lines", "sums"] (sp_flawed K) f8 fd8)
    (C_law_refused : CalG P w K mg base 6 "_law_refused" ["period", "lines", "sums"] (sp_refused K) f9 fd9) (C_law_right : Cal P w K mg base 2 "_law_right" ["told", "due"] sp_right fA fdA) (Csettle : CalX P w K mg base 5 "settle" ["period", "many", "sums"] (sp_settle K CN) fB fdB) :
    FnOkG P w K mg base 7 f fd ["script"] (sp_law K) := by
  refine F.okG sclaw (fun vs H Q E h => ?_) (fun cdv A outer s H vs Q E gA0 hr h => ?_)
  · obtain ⟨a, ns, rfl, _⟩ := h
    rfl
  · obtain ⟨a, ns, rfl, hS, hns, q⟩ := h
    have gA : (A.deeper (envOfC "law" (defScope slaw) s.heap.objs.size f cdv)).guards = some [] := gA0
    refine ⟨_, (pss_cons (ps_asg (pe_call C_law_shape.ok (hr.mono (by decide)) (by rfl) C_law_shape.mg C_law_shape.kp C_law_shape.b .nil pass0 (pa_cons (pv 0) pa_nil)) (pg_tup rfl (pgs_cons (pg_name (i := 1) sclaw.nd rfl (.inl rfl)) (pgs_cons (pg_name (i := 2) sclaw.nd rfl (.inl rfl)) (pgs_cons (pg_name (i := 3) sclaw.nd rfl (.inl rfl)) (pgs_cons (pg_name (i := 4) sclaw.nd rfl (.inl rfl)) (pgs_cons (pg_name (i := 5) sclaw.nd rfl (.inl rfl)) pgs_nil)))))))
 (pss_cons (ps_set (i := 6) sclaw.nd rfl (.inl rfl) (pe_call C_law_pairs.ok (hr.mono (by decide)) (by rfl) C_law_pairs.mg C_law_pairs.kp C_law_pairs.b .nil pass0 (pa_cons (pv 0) (pa_cons (pv 2) (pa_cons (pv 3) pa_nil)))))
 (pss_cons (ps_if (pt_val (pv 5))
 (pss_one (ps_set (i := 6) sclaw.nd rfl (.inl rfl) (pe_op op_cat (pe_call C_law_line.ok (hr.mono (by decide)) (by rfl) C_law_line.mg C_law_line.kp C_law_line.b .nil pass0 (pa_cons (pv 0) (pa_cons (pv 2) pa_nil))) (pv 6))))
 pss_nil)
 (pss_cons (ps_set (i := 7) sclaw.nd rfl (.inl rfl) (pe_call C_law_sums.ok (hr.mono (by decide)) (by rfl) C_law_sums.mg C_law_sums.kp C_law_sums.b .nil pass0 (pa_cons (pv 0) (pa_cons (pv 1) (pa_cons (pv 2) (pa_cons (pv 6) (pa_cons (pv 4) pa_nil)))))))
 (pss_cons (ps_set (i := 8) sclaw.nd rfl (.inl rfl) (pe_call C_law_due.ok (hr.mono (by decide)) (by rfl) C_law_due.mg C_law_due.kp C_law_due.b .nil pass0 (pa_cons (pv 1) (pa_cons (pv 2) (pa_cons (pv 7) pa_nil)))))
 (pss_cons (ps_if (pt_not (pt_val (pe_callG C_law_answered.ok gA (hr.mono (by decide)) (by rfl) C_law_answered.mg C_law_answered.kp C_law_answered.b (pa_cons (pv 1) (pa_cons (pv 2) (pa_cons (pv 7) (pa_cons (pv 8) pa_nil)))))))
 (pss_one (ps_ret pe_bl))
 pss_nil)
 (pss_cons (ps_set (i := 9) sclaw.nd rfl (.inl rfl) (pe_call C_law_other.ok (hr.mono (by decide)) (by rfl) C_law_other.mg C_law_other.kp C_law_other.b .nil pass0 (pa_cons (pv 0) (pa_cons (pv 1) (pa_cons (pv 2) (pa_cons (pv 7) (pa_cons (pv 8) pa_nil)))))))
 (pss_cons (ps_if (pt_not (pt_val (pe_callG C_law_answered.ok gA (hr.mono (by decide)) (by rfl) C_law_answered.mg C_law_answered.kp C_law_answered.b (pa_cons (pv 1) (pa_cons (pv 2) (pa_cons (pv 9) (pa_cons (pe_call C_law_due.ok (hr.mono (by decide)) (by rfl) C_law_due.mg C_law_due.kp C_law_due.b .nil pass0 (pa_cons (pv 1) (pa_cons (pv 2) (pa_cons (pv 9) pa_nil)))) pa_nil)))))))
 (pss_one (ps_ret pe_bl))
 pss_nil)
 (pss_cons (ps_asg (pe_call C_law_flawed.ok (hr.mono (by decide)) (by rfl) C_law_flawed.mg C_law_flawed.kp C_law_flawed.b .nil pass0 (pa_cons (pv 0) (pa_cons (pv 1) (pa_cons (pv 2) (pa_cons (pv 7) pa_nil))))) (pg_tup rfl (pgs_cons (pg_name (i := 10) sclaw.nd rfl (.inl rfl)) (pgs_cons (pg_name (i := 11) sclaw.nd rfl (.inl rfl)) (pgs_cons (pg_name (i := 12) sclaw.nd rfl (.inl rfl)) pgs_nil)))))
 (pss_cons (ps_if (pt_not (pt_val (pe_callG C_law_refused.ok gA (hr.mono (by decide)) (by rfl) C_law_refused.mg C_law_refused.kp C_law_refused.b (pa_cons (pv 10) (pa_cons (pv 11) (pa_cons (pv 12) pa_nil))))))
 (pss_one (ps_ret pe_bl))
 pss_nil)
 (pss_one (ps_ret (pe_call C_law_right.ok (hr.mono (by decide)) (by rfl) C_law_right.mg C_law_right.kp C_law_right.b .nil pass0 (pa_cons (pe_call Csettle.ok (hr.mono (by decide)) (by rfl) Csettle.mg Csettle.kp Csettle.b .nil passL (pa_cons (pv 1) (pa_cons (pv 2) (pa_cons (pe_callTy call_list_of (by rfl) T.list (by decide +kernel) (pa_cons (pv 7) pa_nil)) pa_nil)))) (pa_cons (pv 8) pa_nil))))))))))))))), ?_⟩
    refine ⟨_, rfl, a, ns, rfl, hS, hns, fun t p n r md b H1 s1 et hp1 hp2 hn hr0 h0 => ?_⟩
    refine ⟨t, _, rfl, SqT.of et, rfl, _, _, rfl, _, _, rfl, _, _, rfl, _, _, rfl, _, _, rfl, rfl, ?_⟩
    refine ⟨_, rfl, _, rfl, _, rfl, a, ns, n, r, rfl, s1.seq hS, hns, hn, hr0, h0, fun pr us ps H2 s2 npr epr hP hW hpl => ?_⟩
    have t2 := s1.trans s2
    have hm : (0 : Int) < (p : Int) := by omega
    refine ⟨_, rfl, _, rfl, ?_⟩
    cases b with
    | false =>
      refine iteF ?_
      refine ⟨_, rfl, _, rfl, _, rfl, _, rfl, _, rfl, a, pr, ns, us, ps, p, n, md, rfl, (t2).seq hS, hns, SqL.of epr, hP, hW, (by omega), hp1, hp2, hn, fun x us' sums H3 s3 nx ex hT hO hsl => ?_⟩
      have t3 := (t2).trans s3
      -- due
      refine ⟨_, rfl, _, rfl, _, rfl, x, us', sums, p, n, rfl, SqL.of ex, hT, by omega, by omega, hO.bd, hm, fun o du xd H4 d4 s4 td => ?_⟩
      have t4 := t3.trans s4
      refine ⟨_, rfl, _, rfl, _, rfl, _, rfl, x, du, us', sums, p, n, o, rfl, s4 _ _ ex, hT.same s4, hO, by omega, hp1, hp2, hn, d4, td.says, fun H5 s5 => ⟨_, rfl, iteF ?_⟩⟩
      have s45 := s4.trans s5
      -- other
      refine ⟨_, rfl, _, rfl, _, rfl, _, rfl, _, rfl, a, x, du, ns, us', sums, p, n, o, rfl, (t4.trans s5).seq hS, hns, s45 _ _ ex, hT.same s45, hO, by omega, hp1, hp2, hn, d4, td.says.same s5, fun y uy sy H6 s6 ny ey hTy hOy hly => ?_⟩
      have s36 := s45.trans s6
      refine ⟨_, rfl, _, rfl, _, rfl, _, rfl, _, rfl, _, rfl, y, uy, sy, p, n, rfl, SqL.of ey, hTy, by omega, by omega, hOy.bd, hm, fun o2 du2 xd2 H7 d7 s7 td2 => ?_⟩
      refine ⟨y, du2, uy, sy, p, n, o2, rfl, s7 _ _ ey, hTy.same s7, hOy, by omega, hp1, hp2, hn, d7, td2.says, fun H8 s8 => ⟨_, rfl, iteF ?_⟩⟩
      have s38 := (s36.trans s7).trans s8
      -- flawed
      refine ⟨_, rfl, _, rfl, _, rfl, _, rfl, a, x, ns, us', sums, p, n, rfl, (t3.trans s38).seq hS, hns, s38 _ _ ex, hT.same s38, hO, by omega, hp2, hn, fun tf xf uf tsf pf mf H9 s9 nxf etf exf hTf hMf hlf nf => ?_⟩
      refine ⟨tf, _, rfl, SqT.of etf, rfl, _, _, rfl, _, _, rfl, _, _, rfl, rfl, ?_⟩
      refine ⟨_, rfl, _, rfl, _, rfl, xf, uf, tsf, pf, mf, rfl, exf, hTf, hlf, hMf, nf, fun HA sA => ⟨_, rfl, iteF ?_⟩⟩
      have s3A := (s38.trans s9).trans sA
      -- the last one
      refine ⟨_, rfl, _, rfl, _, rfl, x, us', rfl, .inl (SqL.of (s3A _ _ ex)), fun l nl => ?_⟩
      have sL : Same HA (upd HA l (.lst us')) := (Same.refl HA).new nl
      have el : (upd HA l (.lst us')) l = some (.lst us') := upd_same
      generalize upd HA l (.lst us') = HB at sL el ⊢
      have s3B := s3A.trans sL
      have fine := fine_nat ⟨hp1, hp2⟩ hn hO
      refine ⟨p, n, l, us', upS sums, rfl, Sq.of el, hT.same s3B, by rw [upS_len]; omega, fun wd z f => (f.no fine).elim, fun _ sm e o3 t3' x3 HC d3 sC tdc => ?_⟩
      obtain rfl := upS_inj e
      rw [show ((n : Nat) : Int).toNat = n by omega] at d3
      have eo := d3.uniq hm d4
      subst eo
      refine ⟨_, rfl, t3', du, _, rfl, tdc.says, td.says.same ((((((s5.trans s6).trans s7).trans s8).trans s9).trans sA).trans (sL.trans sC)), due_len d4 hn (by omega) hO.bd, fun HD sD => q HD⟩
    | true =>
      refine iteT ⟨_, rfl, _, rfl, a, ns, n, rfl, t2.seq hS, hns, hn, fun p2 us2 ps2 H2b s2b np2 ep2 hP2 hW2 hpl2 => ⟨_, rfl, p2, pr, _, _, rfl, rfl, ep2, s2b _ _ epr, ?_, fun l3 nl3 => ?_⟩⟩
      · rw [hP.len, hP2.len]
        exact szle (by omega)
      have sX : Same H2b (upd H2b l3 (.lst (us2 ++ us))) := (Same.refl H2b).new nl3
      have eX : (upd H2b l3 (.lst (us2 ++ us))) l3 = some (.lst (us2 ++ us)) := upd_same
      generalize upd H2b l3 (.lst (us2 ++ us)) = HX at sX eX ⊢
      have tX := (t2.trans s2b).trans sX
      have hPX : Prs K HX (us2 ++ us) (ps2 ++ ps) := P_append (hP2.same sX) (hP.same (s2b.trans sX))
      have hWX := within_app hW2 hW
      have hlX : (ps2 ++ ps).length ≤ 40 := by
        rw [List.length_append]
        omega
      refine ⟨_, rfl, _, rfl, _, rfl, _, rfl, _, rfl, a, l3, ns, (us2 ++ us), (ps2 ++ ps), p, n, md, rfl, (tX).seq hS, hns, SqL.of eX, hPX, hWX, hlX, hp1, hp2, hn, fun x us' sums H3 s3 nx ex hT hO hsl => ?_⟩
      have t3 := (tX).trans s3
      -- due
      refine ⟨_, rfl, _, rfl, _, rfl, x, us', sums, p, n, rfl, SqL.of ex, hT, by omega, by omega, hO.bd, hm, fun o du xd H4 d4 s4 td => ?_⟩
      have t4 := t3.trans s4
      refine ⟨_, rfl, _, rfl, _, rfl, _, rfl, x, du, us', sums, p, n, o, rfl, s4 _ _ ex, hT.same s4, hO, by omega, hp1, hp2, hn, d4, td.says, fun H5 s5 => ⟨_, rfl, iteF ?_⟩⟩
      have s45 := s4.trans s5
      -- other
      refine ⟨_, rfl, _, rfl, _, rfl, _, rfl, _, rfl, a, x, du, ns, us', sums, p, n, o, rfl, (t4.trans s5).seq hS, hns, s45 _ _ ex, hT.same s45, hO, by omega, hp1, hp2, hn, d4, td.says.same s5, fun y uy sy H6 s6 ny ey hTy hOy hly => ?_⟩
      have s36 := s45.trans s6
      refine ⟨_, rfl, _, rfl, _, rfl, _, rfl, _, rfl, _, rfl, y, uy, sy, p, n, rfl, SqL.of ey, hTy, by omega, by omega, hOy.bd, hm, fun o2 du2 xd2 H7 d7 s7 td2 => ?_⟩
      refine ⟨y, du2, uy, sy, p, n, o2, rfl, s7 _ _ ey, hTy.same s7, hOy, by omega, hp1, hp2, hn, d7, td2.says, fun H8 s8 => ⟨_, rfl, iteF ?_⟩⟩
      have s38 := (s36.trans s7).trans s8
      -- flawed
      refine ⟨_, rfl, _, rfl, _, rfl, _, rfl, a, x, ns, us', sums, p, n, rfl, (t3.trans s38).seq hS, hns, s38 _ _ ex, hT.same s38, hO, by omega, hp2, hn, fun tf xf uf tsf pf mf H9 s9 nxf etf exf hTf hMf hlf nf => ?_⟩
      refine ⟨tf, _, rfl, SqT.of etf, rfl, _, _, rfl, _, _, rfl, _, _, rfl, rfl, ?_⟩
      refine ⟨_, rfl, _, rfl, _, rfl, xf, uf, tsf, pf, mf, rfl, exf, hTf, hlf, hMf, nf, fun HA sA => ⟨_, rfl, iteF ?_⟩⟩
      have s3A := (s38.trans s9).trans sA
      -- the last one
      refine ⟨_, rfl, _, rfl, _, rfl, x, us', rfl, .inl (SqL.of (s3A _ _ ex)), fun l nl => ?_⟩
      have sL : Same HA (upd HA l (.lst us')) := (Same.refl HA).new nl
      have el : (upd HA l (.lst us')) l = some (.lst us') := upd_same
      generalize upd HA l (.lst us') = HB at sL el ⊢
      have s3B := s3A.trans sL
      have fine := fine_nat ⟨hp1, hp2⟩ hn hO
      refine ⟨p, n, l, us', upS sums, rfl, Sq.of el, hT.same s3B, by rw [upS_len]; omega, fun wd z f => (f.no fine).elim, fun _ sm e o3 t3' x3 HC d3 sC tdc => ?_⟩
      obtain rfl := upS_inj e
      rw [show ((n : Nat) : Int).toNat = n by omega] at d3
      have eo := d3.uniq hm d4
      subst eo
      refine ⟨_, rfl, t3', du, _, rfl, tdc.says, td.says.same ((((((s5.trans s6).trans s7).trans s8).trans s9).trans sA).trans (sL.trans sC)), due_len d4 hn (by omega) hO.bd, fun HD sD => q HD⟩
end
end K32W

namespace K32W
open PySem PySem.Spec PyProof.Rows L2 KH K32 KD
theorem kit_self {K : PySem.W.Frag} {C : Addr} : PySem.W.kitOne K (.ref C) (.ref C) = some true := by
  unfold PySem.W.kitOne
  rw [if_pos (by simp)]
theorem kit_other {K : PySem.W.Frag} {C D : Addr} {b : Bool} (ne : C ≠ D) (h : PySem.W.subIn K (.ref D) (.type "BaseException") = some true) (e : PySem.W.exmOne K (.ref C) (.ref D) = some b) : PySem.W.kitOne K (.ref C) (.ref D) = some b := by
  unfold PySem.W.exmOne at e
  have e1 : (PySem.W.subIn K (.ref D) (.type "BaseException") == some true) = true := by rw [h] <;> rfl
  rw [if_pos e1] at e
  unfold PySem.W.kitOne
  rw [if_neg (by simp [ne])]
  exact e
theorem all_mk {l : PySem.W.OpenLaw} {w : World} {K : PySem.W.Frag} {h : Heap} {mg : Str → Option Value} {fa f0 f1 f2 f3 f4 f5 f6 f7 f8 f9 f10 f11 f12 f13 f14 f15 f16 f17 f18 f19 f20 f21 f22 f23 f24 : Addr} (X : K.In h) (G : h.Ns mainGlobals mg) (hfa : mg "law" = some (.ref fa))
    {od0 an0 od1 an1 od2 an2 od3 an3 od4 an4 od5 an5 od6 an6 od7 an7 od8 an8 od9 an9 od10 an10 od11 an11 od12 an12 od13 an13 od14 an14 od15 an15 od16 an16 od17 an17 od18 an18 od19 an19 od20 an20 od21 an21 od22 an22 od23 an23 od24 an24 odI anI cddI cldI : Option Addr} {sl0 sl1 sl2 sl3 sl4 sl5 sl6 sl7 sl8 sl9 sl10 sl11 sl12 sl13 sl14 sl15 sl16 sl17 sl18 sl19 sl20 sl21 sl22 sl23 sl24 slI csI clsI : Array (Option Value)} {vsI : Array Value} {oc0 kV0 dc0 pm0 cd0 ct0 oc1 kV1 dc1 pm1 cd1 ct1 oc2 kV2 dc2 pm2 cd2 ct2 oc3 kV3 dc3 pm3 cd3 ct3 oc4 kV4 dc4 pm4 cd4 ct4 oc5 kV5 dc5 pm5 cd5 ct5 oc6 kV6 dc6 pm6 cd6 ct6 oc7 kV7 dc7 pm7 cd7 ct7 oc8 kV8 dc8 pm8 cd8 ct8 oc9 kV9 dc9 pm9 cd9 ct9 oc10 kV10 dc10 pm10 cd10 ct10 oc11 kV11 dc11 pm11 cd11 ct11 oc12 kV12 dc12 pm12 cd12 ct12 oc13 kV13 dc13 pm13 cd13 ct13 oc14 kV14 dc14 pm14 cd14 ct14 oc15 kV15 dc15 pm15 cd15 ct15 oc16 kV16 dc16 pm16 cd16 ct16 oc17 kV17 dc17 pm17 cd17 ct17 oc18 kV18 dc18 pm18 cd18 ct18 oc19 kV19 dc19 pm19 cd19 ct19 oc20 kV20 dc20 pm20 cd20 ct20 oc21 kV21 dc21 pm21 cd21 ct21 oc22 kV22 dc22 pm22 cd22 ct22 oc23 kV23 dc23 pm23 cd23 ct23 oc24 kV24 dc24 pm24 cd24 ct24 ocI kVI dcI pmI ctI cclI clI : Value} {t6 t8 tf : Tok} {file : Str}
    {CN CB CD CT CU fI cda cc N : Addr} {nm qn : Str} {bs sub : List Value} {sn : List Str} {ab : Bool} {col : Option Bool} {dd : Option Addr} {m0 m1 m2 m3 m5 : Option Value}
    (a0 : PySem.W.nsIn K mainGlobals "_law_cell" = some (some (.ref f0)))
    (l0 : K.lookup f0 = some ⟨oc0, od0, .func (PySem.W.fnOf "_law_cell" "_law_cell" (defArgs s_law_cell) (defBody s_law_cell) (defScope s_law_cell) .none kV0 dc0 pm0 an0 cd0 ct0), sl0⟩)
    (c0 : PySem.W.codeIn K cd0 "_law_cell" = true)
    (k0 : PySem.W.keepIn K (.ref f0) = true)
    (a1 : PySem.W.nsIn K mainGlobals "_law_draws" = some (some (.ref f1)))
    (l1 : K.lookup f1 = some ⟨oc1, od1, .func (PySem.W.fnOf "_law_draws" "_law_draws" (defArgs s_law_draws) (defBody s_law_draws) (defScope s_law_draws) .none kV1 dc1 pm1 an1 cd1 ct1), sl1⟩)
    (c1 : PySem.W.codeIn K cd1 "_law_draws" = true)
    (k1 : PySem.W.keepIn K (.ref f1) = true)
    (a2 : PySem.W.nsIn K mainGlobals "check_number" = some (some (.ref f2)))
    (l2 : K.lookup f2 = some ⟨oc2, od2, .func (PySem.W.fnOf "check_number" "check_number" (defArgs scheck_number) (defBody scheck_number) (defScope scheck_number) .none kV2 dc2 pm2 an2 cd2 ct2), sl2⟩)
    (c2 : PySem.W.codeIn K cd2 "check_number" = true)
    (k2 : PySem.W.keepIn K (.ref f2) = true)
    (a3 : PySem.W.nsIn K mainGlobals "_check_sums" = some (some (.ref f3)))
    (l3 : K.lookup f3 = some ⟨oc3, od3, .func (PySem.W.fnOf "_check_sums" "_check_sums" (defArgs s_check_sums) (defBody s_check_sums) (defScope s_check_sums) .none kV3 dc3 pm3 an3 cd3 ct3), sl3⟩)
    (c3 : PySem.W.codeIn K cd3 "_check_sums" = true)
    (k3 : PySem.W.keepIn K (.ref f3) = true)
    (a4 : PySem.W.nsIn K mainGlobals "_steps_between" = some (some (.ref f4)))
    (l4 : K.lookup f4 = some ⟨oc4, od4, .func (PySem.W.fnOf "_steps_between" "_steps_between" (defArgs s_steps_between) (defBody s_steps_between) (defScope s_steps_between) .none kV4 dc4 pm4 an4 cd4 ct4), sl4⟩)
    (c4 : PySem.W.codeIn K cd4 "_steps_between" = true)
    (k4 : PySem.W.keepIn K (.ref f4) = true)
    (a5 : PySem.W.nsIn K mainGlobals "_moved" = some (some (.ref f5)))
    (l5 : K.lookup f5 = some ⟨oc5, od5, .func (PySem.W.fnOf "_moved" "_moved" (defArgs s_moved) (defBody s_moved) (defScope s_moved) .none kV5 dc5 pm5 an5 cd5 ct5), sl5⟩)
    (c5 : PySem.W.codeIn K cd5 "_moved" = true)
    (k5 : PySem.W.keepIn K (.ref f5) = true)
    (a6 : PySem.W.nsIn K mainGlobals "_least_first" = some (some (.ref f6)))
    (l6 : K.lookup f6 = some ⟨oc6, od6, .func (PySem.W.fnOf "_least_first" "_least_first" (defArgs s_least_first) (defBody s_least_first) (defScope s_least_first) .none kV6 dc6 pm6 an6 cd6 ct6), sl6⟩)
    (c6 : PySem.W.codeIn K cd6 "_least_first" = true)
    (k6 : PySem.W.keepIn K (.ref f6) = true)
    (a7 : PySem.W.nsIn K mainGlobals "settle" = some (some (.ref f7)))
    (l7 : K.lookup f7 = some ⟨oc7, od7, .func (PySem.W.fnOf "settle" "settle" (defArgs ssettle) (defBody ssettle) (defScope ssettle) .none kV7 dc7 pm7 an7 cd7 ct7), sl7⟩)
    (c7 : PySem.W.codeIn K cd7 "settle" = true)
    (k7 : PySem.W.keepIn K (.ref f7) = true)
    (a8 : PySem.W.nsIn K mainGlobals "_law_joined" = some (some (.ref f8)))
    (l8 : K.lookup f8 = some ⟨oc8, od8, .func (PySem.W.fnOf "_law_joined" "_law_joined" (defArgs s_law_joined) (defBody s_law_joined) (defScope s_law_joined) .none kV8 dc8 pm8 an8 cd8 ct8), sl8⟩)
    (c8 : PySem.W.codeIn K cd8 "_law_joined" = true)
    (k8 : PySem.W.keepIn K (.ref f8) = true)
    (a9 : PySem.W.nsIn K mainGlobals "_law_between" = some (some (.ref f9)))
    (l9 : K.lookup f9 = some ⟨oc9, od9, .func (PySem.W.fnOf "_law_between" "_law_between" (defArgs s_law_between) (defBody s_law_between) (defScope s_law_between) .none kV9 dc9 pm9 an9 cd9 ct9), sl9⟩)
    (c9 : PySem.W.codeIn K cd9 "_law_between" = true)
    (k9 : PySem.W.keepIn K (.ref f9) = true)
    (a10 : PySem.W.nsIn K mainGlobals "_law_way" = some (some (.ref f10)))
    (l10 : K.lookup f10 = some ⟨oc10, od10, .func (PySem.W.fnOf "_law_way" "_law_way" (defArgs s_law_way) (defBody s_law_way) (defScope s_law_way) .none kV10 dc10 pm10 an10 cd10 ct10), sl10⟩)
    (c10 : PySem.W.codeIn K cd10 "_law_way" = true)
    (k10 : PySem.W.keepIn K (.ref f10) = true)
    (a11 : PySem.W.nsIn K mainGlobals "_law_phases" = some (some (.ref f11)))
    (l11 : K.lookup f11 = some ⟨oc11, od11, .func (PySem.W.fnOf "_law_phases" "_law_phases" (defArgs s_law_phases) (defBody s_law_phases) (defScope s_law_phases) .none kV11 dc11 pm11 an11 cd11 ct11), sl11⟩)
    (c11 : PySem.W.codeIn K cd11 "_law_phases" = true)
    (k11 : PySem.W.keepIn K (.ref f11) = true)
    (a12 : PySem.W.nsIn K mainGlobals "_law_due" = some (some (.ref f12)))
    (l12 : K.lookup f12 = some ⟨oc12, od12, .func (PySem.W.fnOf "_law_due" "_law_due" (defArgs s_law_due) (defBody s_law_due) (defScope s_law_due) .none kV12 dc12 pm12 an12 cd12 ct12), sl12⟩)
    (c12 : PySem.W.codeIn K cd12 "_law_due" = true)
    (k12 : PySem.W.keepIn K (.ref f12) = true)
    (a13 : PySem.W.nsIn K mainGlobals "_law_shape" = some (some (.ref f13)))
    (l13 : K.lookup f13 = some ⟨oc13, od13, .func (PySem.W.fnOf "_law_shape" "_law_shape" (defArgs s_law_shape) (defBody s_law_shape) (defScope s_law_shape) .none kV13 dc13 pm13 an13 cd13 ct13), sl13⟩)
    (c13 : PySem.W.codeIn K cd13 "_law_shape" = true)
    (k13 : PySem.W.keepIn K (.ref f13) = true)
    (a14 : PySem.W.nsIn K mainGlobals "_law_line" = some (some (.ref f14)))
    (l14 : K.lookup f14 = some ⟨oc14, od14, .func (PySem.W.fnOf "_law_line" "_law_line" (defArgs s_law_line) (defBody s_law_line) (defScope s_law_line) .none kV14 dc14 pm14 an14 cd14 ct14), sl14⟩)
    (c14 : PySem.W.codeIn K cd14 "_law_line" = true)
    (k14 : PySem.W.keepIn K (.ref f14) = true)
    (a15 : PySem.W.nsIn K mainGlobals "_law_pairs" = some (some (.ref f15)))
    (l15 : K.lookup f15 = some ⟨oc15, od15, .func (PySem.W.fnOf "_law_pairs" "_law_pairs" (defArgs s_law_pairs) (defBody s_law_pairs) (defScope s_law_pairs) .none kV15 dc15 pm15 an15 cd15 ct15), sl15⟩)
    (c15 : PySem.W.codeIn K cd15 "_law_pairs" = true)
    (k15 : PySem.W.keepIn K (.ref f15) = true)
    (a16 : PySem.W.nsIn K mainGlobals "_law_sums" = some (some (.ref f16)))
    (l16 : K.lookup f16 = some ⟨oc16, od16, .func (PySem.W.fnOf "_law_sums" "_law_sums" (defArgs s_law_sums) (defBody s_law_sums) (defScope s_law_sums) .none kV16 dc16 pm16 an16 cd16 ct16), sl16⟩)
    (c16 : PySem.W.codeIn K cd16 "_law_sums" = true)
    (k16 : PySem.W.keepIn K (.ref f16) = true)
    (a17 : PySem.W.nsIn K mainGlobals "_law_other" = some (some (.ref f17)))
    (l17 : K.lookup f17 = some ⟨oc17, od17, .func (PySem.W.fnOf "_law_other" "_law_other" (defArgs s_law_other) (defBody s_law_other) (defScope s_law_other) .none kV17 dc17 pm17 an17 cd17 ct17), sl17⟩)
    (c17 : PySem.W.codeIn K cd17 "_law_other" = true)
    (k17 : PySem.W.keepIn K (.ref f17) = true)
    (a18 : PySem.W.nsIn K mainGlobals "_law_number" = some (some (.ref f18)))
    (l18 : K.lookup f18 = some ⟨oc18, od18, .func (PySem.W.fnOf "_law_number" "_law_number" (defArgs s_law_number) (defBody s_law_number) (defScope s_law_number) .none kV18 dc18 pm18 an18 cd18 ct18), sl18⟩)
    (c18 : PySem.W.codeIn K cd18 "_law_number" = true)
    (k18 : PySem.W.keepIn K (.ref f18) = true)
    (a19 : PySem.W.nsIn K mainGlobals "_law_right" = some (some (.ref f19)))
    (l19 : K.lookup f19 = some ⟨oc19, od19, .func (PySem.W.fnOf "_law_right" "_law_right" (defArgs s_law_right) (defBody s_law_right) (defScope s_law_right) .none kV19 dc19 pm19 an19 cd19 ct19), sl19⟩)
    (c19 : PySem.W.codeIn K cd19 "_law_right" = true)
    (k19 : PySem.W.keepIn K (.ref f19) = true)
    (a20 : PySem.W.nsIn K mainGlobals "_law_answered" = some (some (.ref f20)))
    (l20 : K.lookup f20 = some ⟨oc20, od20, .func (PySem.W.fnOf "_law_answered" "_law_answered" (defArgs s_law_answered) (defBody s_law_answered) (defScope s_law_answered) .none kV20 dc20 pm20 an20 cd20 ct20), sl20⟩)
    (c20 : PySem.W.codeIn K cd20 "_law_answered" = true)
    (k20 : PySem.W.keepIn K (.ref f20) = true)
    (a21 : PySem.W.nsIn K mainGlobals "_law_flawed" = some (some (.ref f21)))
    (l21 : K.lookup f21 = some ⟨oc21, od21, .func (PySem.W.fnOf "_law_flawed" "_law_flawed" (defArgs s_law_flawed) (defBody s_law_flawed) (defScope s_law_flawed) .none kV21 dc21 pm21 an21 cd21 ct21), sl21⟩)
    (c21 : PySem.W.codeIn K cd21 "_law_flawed" = true)
    (k21 : PySem.W.keepIn K (.ref f21) = true)
    (a22 : PySem.W.nsIn K mainGlobals "_law_first_flaw" = some (some (.ref f22)))
    (l22 : K.lookup f22 = some ⟨oc22, od22, .func (PySem.W.fnOf "_law_first_flaw" "_law_first_flaw" (defArgs s_law_first_flaw) (defBody s_law_first_flaw) (defScope s_law_first_flaw) .none kV22 dc22 pm22 an22 cd22 ct22), sl22⟩)
    (c22 : PySem.W.codeIn K cd22 "_law_first_flaw" = true)
    (k22 : PySem.W.keepIn K (.ref f22) = true)
    (a23 : PySem.W.nsIn K mainGlobals "_law_refused" = some (some (.ref f23)))
    (l23 : K.lookup f23 = some ⟨oc23, od23, .func (PySem.W.fnOf "_law_refused" "_law_refused" (defArgs s_law_refused) (defBody s_law_refused) (defScope s_law_refused) .none kV23 dc23 pm23 an23 cd23 ct23), sl23⟩)
    (c23 : PySem.W.codeIn K cd23 "_law_refused" = true)
    (k23 : PySem.W.keepIn K (.ref f23) = true)
    (a24 : PySem.W.nsIn K mainGlobals "law" = some (some (.ref f24)))
    (l24 : K.lookup f24 = some ⟨oc24, od24, .func (PySem.W.fnOf "law" "law" (defArgs slaw) (defBody slaw) (defScope slaw) .none kV24 dc24 pm24 an24 cd24 ct24), sl24⟩)
    (c24 : PySem.W.codeIn K cd24 "law" = true)
    (k24 : PySem.W.keepIn K (.ref f24) = true)
    (z_len : PySem.W.nsIn K mainGlobals "len" = some none)
    (z_abs : PySem.W.nsIn K mainGlobals "abs" = some none)
    (z_int : PySem.W.nsIn K mainGlobals "int" = some none)
    (z_range : PySem.W.nsIn K mainGlobals "range" = some none)
    (z_list : PySem.W.nsIn K mainGlobals "list" = some none)
    (z_tuple : PySem.W.nsIn K mainGlobals "tuple" = some none)
    (z_max : PySem.W.nsIn K mainGlobals "max" = some none)
    (z_isinstance : PySem.W.nsIn K mainGlobals "isinstance" = some none)
    (z_bool : PySem.W.nsIn K mainGlobals "bool" = some none)
    (z_str : PySem.W.nsIn K mainGlobals "str" = some none)
    (z_repr : PySem.W.nsIn K mainGlobals "repr" = some none)
    (z_reversed : PySem.W.nsIn K mainGlobals "reversed" = some none)
    (z_enumerate : PySem.W.nsIn K mainGlobals "enumerate" = some none)
    (z_zip : PySem.W.nsIn K mainGlobals "zip" = some none)
    (z_super : PySem.W.nsIn K mainGlobals "super" = some none)
    (m60 : PySem.W.nsIn K mainGlobals "MOST_PERIOD" = some (some (.int 60 t6)))
    (m20 : PySem.W.nsIn K mainGlobals "MOST_LINES" = some (some (.int 20 t8)))
    (aCN : PySem.W.nsIn K mainGlobals "BadNumber" = some (some (.ref CN)))
    (aCB : PySem.W.nsIn K mainGlobals "BusError" = some (some (.ref CB)))
    (aCD : PySem.W.nsIn K mainGlobals "Doubled" = some (some (.ref CD)))
    (aCT : PySem.W.nsIn K mainGlobals "TooMany" = some (some (.ref CT)))
    (aCU : PySem.W.nsIn K mainGlobals "Unknown" = some (some (.ref CU)))
    (xN : K.lookup CN = some (excClassObj nm qn CN N bs [.ref CB, .type "ValueError", .type "Exception", .type "BaseException", .type "object"] true sn sub ab col dd m0 m1 m2 m3 m5 "ValueError.__new__"))
    (sa : PySem.W.findIn K (.ref CN) "__setattr__" = some (some (.builtin "object.__setattr__")))
    (ga : PySem.W.findIn K (.ref CN) "__getattribute__" = some (some (.builtin "BaseException.__getattribute__")))
    (gg : PySem.W.findIn K (.ref CN) "__getattr__" = some none)
    (n1 : PySem.W.findIn K (.ref CN) "what" = some none)
    (n2 : PySem.W.findIn K (.ref CN) "value" = some none)
    (iC : PySem.W.findIn K (.ref CN) "__init__" = some (some (.ref fI)))
    (tI : PySem.W.typeIn K (.ref fI) = some (.type "function"))
    (kC : PySem.W.keepIn K (.ref CN) = true)
    (eCN : PySem.W.subIn K (.ref CN) (.type "BaseException") = some true)
    (tCN : PySem.W.typeIn K (.ref CN) = some (.type "type"))
    (hCN : PySem.W.hasDictIn K CN = true)
    (eCB : PySem.W.subIn K (.ref CB) (.type "BaseException") = some true)
    (tCB : PySem.W.typeIn K (.ref CB) = some (.type "type"))
    (hCB : PySem.W.hasDictIn K CB = true)
    (sCB : PySem.W.subIn K (.ref CN) (.ref CB) = some true)
    (eCD : PySem.W.subIn K (.ref CD) (.type "BaseException") = some true)
    (tCD : PySem.W.typeIn K (.ref CD) = some (.type "type"))
    (hCD : PySem.W.hasDictIn K CD = true)
    (sCD : PySem.W.subIn K (.ref CN) (.ref CD) = some false)
    (neCD : CN ≠ CD)
    (eCT : PySem.W.subIn K (.ref CT) (.type "BaseException") = some true)
    (tCT : PySem.W.typeIn K (.ref CT) = some (.type "type"))
    (hCT : PySem.W.hasDictIn K CT = true)
    (sCT : PySem.W.subIn K (.ref CN) (.ref CT) = some false)
    (neCT : CN ≠ CT)
    (eCU : PySem.W.subIn K (.ref CU) (.type "BaseException") = some true)
    (tCU : PySem.W.typeIn K (.ref CU) = some (.type "type"))
    (hCU : PySem.W.hasDictIn K CU = true)
    (sCU : PySem.W.subIn K (.ref CN) (.ref CU) = some false)
    (neCU : CN ≠ CU)
    (vC : PySem.W.subIn K (.ref CN) (.type "ValueError") = some true)
    (mC : PySem.W.mroIn K CN (.ref CN) = some true)
    (mO : PySem.W.mroIn K CN (.type "object") = some true)
    (suC : PySem.W.ks_superIn K CN CN "__init__" = some (some (.builtin "ValueError.__init__")))
    (noO : PySem.W.nsIn K cStatics "thirdparty.any" = some none)
    (top : (l.prog.main.scope.names.lookup ("super" : Str)).isSome = false)
    (lI : K.lookup fI = some ⟨ocI, odI, .func (PySem.W.ksFn "__init__" "BadNumber.__init__" (defArgs (inClass (topS 4) 0)) (defBody (inClass (topS 4) 0)) (defScope (inClass (topS 4) 0)) .none kVI dcI pmI anI (.ref cda) ctI cc), slI⟩)
    (cI : PySem.W.codeIn K (.ref cda) "BadNumber.__init__" = true)
    (lcd : K.lookup cda = some ⟨cclI, cddI, .fields vsI, csI⟩)
    (hvs : vsI[2]? = some (.str file tf))
    (hfi : ((l.prog.main.file : Str) == file) = true)
    (lcc : K.lookup cc = some ⟨clI, cldI, .cell (some (.ref CN)), clsI⟩)
    (hca : PySem.W.findIn K (.ref CN) "__class__" = some (some (.builtin "object.__class__")))
    (hsp : PySem.W.specialIn K (.builtin "object.__class__") "__get__" = some (some (.builtin "getset_descriptor.__get__")))
    (htk : PySem.W.takesIn K (.builtin "object.__class__") = some true)
    : ∃ fd : FuncData, (∀ (s : Shared) (v : Value), BindsTo s fd ⟨[v], []⟩ [("script", v)]) ∧ ∀ base : Heap, K.In base → base.Ns mainGlobals mg → FnOkG l.prog w K mg base 7 fa fd ["script"] (sp_law K) := by
  have e := hfa.symm.trans (PySem.W.mg_of X G a24)
  cases e
  have F0 := fun_mk (st := s_law_cell) l0 c0 k0
  have b0 := F0.binds (ps := ["script", "k"]) fun _ _ _ _ _ _ us hl => match us, hl with | [_, _], _ => rfl
  have F1 := fun_mk (st := s_law_draws) l1 c1 k1
  have b1 := F1.binds (ps := ["cell", "sizes"]) fun _ _ _ _ _ _ us hl => match us, hl with | [_, _], _ => rfl
  have F2 := fun_mk (st := scheck_number) l2 c2 k2
  have b2 := F2.binds (ps := ["what", "value", "least", "most"]) fun _ _ _ _ _ _ us hl => match us, hl with | [_, _, _, _], _ => rfl
  have F3 := fun_mk (st := s_check_sums) l3 c3 k3
  have b3 := F3.binds (ps := ["many", "sums"]) fun _ _ _ _ _ _ us hl => match us, hl with | [_, _], _ => rfl
  have F4 := fun_mk (st := s_steps_between) l4 c4 k4
  have b4 := F4.binds (ps := ["joints", "here", "goal"]) fun _ _ _ _ _ _ us hl => match us, hl with | [_, _, _], _ => rfl
  have F5 := fun_mk (st := s_moved) l5 c5 k5
  have b5 := F5.binds (ps := ["period", "groups", "phases", "group", "minutes"]) fun _ _ _ _ _ _ us hl => match us, hl with | [_, _, _, _, _], _ => rfl
  have F6 := fun_mk (st := s_least_first) l6 c6 k6
  have b6 := F6.binds (ps := ["period", "groups", "phases"]) fun _ _ _ _ _ _ us hl => match us, hl with | [_, _, _], _ => rfl
  have F7 := fun_mk (st := ssettle) l7 c7 k7
  have b7 := F7.binds (ps := ["period", "many", "sums"]) fun _ _ _ _ _ _ us hl => match us, hl with | [_, _, _], _ => rfl
  have F8 := fun_mk (st := s_law_joined) l8 c8 k8
  have b8 := F8.binds (ps := ["joints", "line"]) fun _ _ _ _ _ _ us hl => match us, hl with | [_, _], _ => rfl
  have F9 := fun_mk (st := s_law_between) l9 c9 k9
  have b9 := F9.binds (ps := ["joints", "here", "goal"]) fun _ _ _ _ _ _ us hl => match us, hl with | [_, _, _], _ => rfl
  have F10 := fun_mk (st := s_law_way) l10 c10 k10
  have b10 := F10.binds (ps := ["joints", "here", "goal"]) fun _ _ _ _ _ _ us hl => match us, hl with | [_, _, _], _ => rfl
  have F11 := fun_mk (st := s_law_phases) l11 c11 k11
  have b11 := F11.binds (ps := ["period", "lines", "joints"]) fun _ _ _ _ _ _ us hl => match us, hl with | [_, _, _], _ => rfl
  have F12 := fun_mk (st := s_law_due) l12 c12 k12
  have b12 := F12.binds (ps := ["period", "lines", "sums"]) fun _ _ _ _ _ _ us hl => match us, hl with | [_, _, _], _ => rfl
  have F13 := fun_mk (st := s_law_shape) l13 c13 k13
  have b13 := F13.binds (ps := ["script"]) fun _ _ _ _ _ _ us hl => match us, hl with | [_], _ => rfl
  have F14 := fun_mk (st := s_law_line) l14 c14 k14
  have b14 := F14.binds (ps := ["script", "lines"]) fun _ _ _ _ _ _ us hl => match us, hl with | [_, _], _ => rfl
  have F15 := fun_mk (st := s_law_pairs) l15 c15 k15
  have b15 := F15.binds (ps := ["script", "lines", "rows"]) fun _ _ _ _ _ _ us hl => match us, hl with | [_, _, _], _ => rfl
  have F16 := fun_mk (st := s_law_sums) l16 c16 k16
  have b16 := F16.binds (ps := ["script", "period", "lines", "pairs", "mode"]) fun _ _ _ _ _ _ us hl => match us, hl with | [_, _, _, _, _], _ => rfl
  have F17 := fun_mk (st := s_law_other) l17 c17 k17
  have b17 := F17.binds (ps := ["script", "period", "lines", "sums", "due"]) fun _ _ _ _ _ _ us hl => match us, hl with | [_, _, _, _, _], _ => rfl
  have F18 := fun_mk (st := s_law_number) l18 c18 k18
  have b18 := F18.binds (ps := ["thing"]) fun _ _ _ _ _ _ us hl => match us, hl with | [_], _ => rfl
  have F19 := fun_mk (st := s_law_right) l19 c19 k19
  have b19 := F19.binds (ps := ["told", "due"]) fun _ _ _ _ _ _ us hl => match us, hl with | [_, _], _ => rfl
  have F20 := fun_mk (st := s_law_answered) l20 c20 k20
  have b20 := F20.binds (ps := ["period", "lines", "sums", "due"]) fun _ _ _ _ _ _ us hl => match us, hl with | [_, _, _, _], _ => rfl
  have F21 := fun_mk (st := s_law_flawed) l21 c21 k21
  have b21 := F21.binds (ps := ["script", "period", "lines", "sums"]) fun _ _ _ _ _ _ us hl => match us, hl with | [_, _, _, _], _ => rfl
  have F22 := fun_mk (st := s_law_first_flaw) l22 c22 k22
  have b22 := F22.binds (ps := ["period", "lines", "sums"]) fun _ _ _ _ _ _ us hl => match us, hl with | [_, _, _], _ => rfl
  have F23 := fun_mk (st := s_law_refused) l23 c23 k23
  have b23 := F23.binds (ps := ["period", "lines", "sums"]) fun _ _ _ _ _ _ us hl => match us, hl with | [_, _, _], _ => rfl
  have F24 := fun_mk (st := slaw) l24 c24 k24
  refine ⟨PySem.W.fnOf "law" "law" (defArgs slaw) (defBody slaw) (defScope slaw) .none kV24 dc24 pm24 an24 cd24 ct24, fun s v => .of_eq rfl, fun base _ _ => ?_⟩
  have T : Txt mg := ⟨PySem.W.mg_none_of X G z_len, PySem.W.mg_none_of X G z_abs, PySem.W.mg_none_of X G z_int, PySem.W.mg_none_of X G z_range, PySem.W.mg_none_of X G z_list, PySem.W.mg_none_of X G z_tuple, PySem.W.mg_none_of X G z_max, PySem.W.mg_none_of X G z_isinstance, PySem.W.mg_none_of X G z_bool, PySem.W.mg_none_of X G z_str, PySem.W.mg_none_of X G z_repr, PySem.W.mg_none_of X G z_reversed, PySem.W.mg_none_of X G z_enumerate, PySem.W.mg_none_of X G z_zip, PySem.W.mg_none_of X G z_super⟩
  have c60 : ∃ t, mg "MOST_PERIOD" = some (.int 60 t) := ⟨_, PySem.W.mg_of X G m60⟩
  have c20 : ∃ t, mg "MOST_LINES" = some (.int 20 t) := ⟨_, PySem.W.mg_of X G m20⟩
  have own : PySem.OwX.OwnTxt l.prog K CN fI ["what", "value"] :=
    { cls := ⟨nm, qn, N, bs, _, sn, sub, ab, col, dd, m0, m1, m2, m3, m5, xN, by first | rfl | decide +kernel⟩, sa := sa, ga := ga, gg := gg,
      noN := fun f hf => by
        simp only [List.mem_cons, List.not_mem_nil, or_false] at hf
        rcases hf with rfl | rfl
        · exact n1
        · exact n2
      iC := iC, tC := tI, kC := kC, exC := eCN, tyC := tCN, hdC := hCN, veC := vC, spC := mC, suC := suC, noO := noO, noS := z_super, top := top, few := by decide,
      fn := ⟨ocI, odI, "__init__", "BadNumber.__init__", _, _, _, .none, kVI, dcI, pmI, anI, cda, cc, ctI, slI, _, cclI, cddI, vsI, csI, file, tf, clI, cldI, clsI, lI, cI,
        .mk (by decide) (.cons (.cons .nil)), rfl, rfl, lcd, hvs, hfi, lcc, rfl, rfl, (fun y hy => by
          simp only [List.mem_cons, List.not_mem_nil, or_false] at hy
          rcases hy with rfl | rfl | rfl <;> rfl), (by decide), rfl, rfl, rfl, fun s us hu => match us, hu with | [_, _, _], _ => .of_eq rfl⟩ }
  have ec : ExcC K CN := ⟨ga, gg, eCN, hCN, hca, hsp, htk, mO⟩
  have XB : Exc l.prog K mg CN CB CD CT CU fI :=
    { own := own, gN := PySem.W.mg_of X G aCN, gB := PySem.W.mg_of X G aCB, gD := PySem.W.mg_of X G aCD, gT := PySem.W.mg_of X G aCT, gU := PySem.W.mg_of X G aCU, ec := ec, xf := ⟨ga, gg, eCN, hCN⟩,
      te := PySem.W.exm_ref eCB hCB tCB sCB, kN := kit_self, kO := kitAny_cons (kit_other neCD eCD (PySem.W.exm_ref eCD hCD tCD sCD)) (fun _ => kitAny_cons (kit_other neCT eCT (PySem.W.exm_ref eCT hCT tCT sCT)) (fun _ => kitAny_cons (kit_other neCU eCU (PySem.W.exm_ref eCU hCU tCU sCU)) (fun _ => rfl) (fun z => Bool.noConfusion z)) (fun z => Bool.noConfusion z)) (fun z => Bool.noConfusion z) }
  have C_law_cell : Cal l.prog w K mg base 1 "_law_cell" ["script", "k"] (sp_cell K) f0 _ := ⟨ok_cell F0 T  , PySem.W.mg_of X G a0, k0, b0⟩
  have C_law_draws : Cal l.prog w K mg base 1 "_law_draws" ["cell", "sizes"] (sp_draws K) f1 _ := ⟨ok_draws F1 T  , PySem.W.mg_of X G a1, k1, b1⟩
  have Ccheck_number : CalX l.prog w K mg base 3 "check_number" ["what", "value", "least", "most"] (sp_check CN) f2 _ := ⟨ok_check F2 T XB , PySem.W.mg_of X G a2, k2, b2⟩
  have C_check_sums : CalX l.prog w K mg base 4 "_check_sums" ["many", "sums"] (sp_sums K CN) f3 _ := ⟨ok_sums F3 T  Ccheck_number, PySem.W.mg_of X G a3, k3, b3⟩
  have C_steps_between : Cal l.prog w K mg base 1 "_steps_between" ["joints", "here", "goal"] (sp_steps K) f4 _ := ⟨ok_steps F4 T  , PySem.W.mg_of X G a4, k4, b4⟩
  have C_moved : Cal l.prog w K mg base 1 "_moved" ["period", "groups", "phases", "group", "minutes"] (sp_moved K) f5 _ := ⟨ok_moved F5 T  , PySem.W.mg_of X G a5, k5, b5⟩
  have C_least_first : Cal l.prog w K mg base 1 "_least_first" ["period", "groups", "phases"] (sp_lfst K) f6 _ := ⟨ok_lfst F6 T  , PySem.W.mg_of X G a6, k6, b6⟩
  have Csettle : CalX l.prog w K mg base 5 "settle" ["period", "many", "sums"] (sp_settle K CN) f7 _ := ⟨ok_settle F7 T c60 c20 Ccheck_number C_check_sums C_steps_between C_moved C_least_first, PySem.W.mg_of X G a7, k7, b7⟩
  have C_law_joined : Cal l.prog w K mg base 1 "_law_joined" ["joints", "line"] (sp_joined K) f8 _ := ⟨ok_joined F8 T  , PySem.W.mg_of X G a8, k8, b8⟩
  have C_law_between : Cal l.prog w K mg base 1 "_law_between" ["joints", "here", "goal"] (sp_between K) f9 _ := ⟨ok_between F9 T  , PySem.W.mg_of X G a9, k9, b9⟩
  have C_law_way : Cal l.prog w K mg base 2 "_law_way" ["joints", "here", "goal"] (sp_way K) f10 _ := ⟨ok_way F10 T  C_law_between, PySem.W.mg_of X G a10, k10, b10⟩
  have C_law_phases : Cal l.prog w K mg base 1 "_law_phases" ["period", "lines", "joints"] (sp_phases K) f11 _ := ⟨ok_phases F11 T  , PySem.W.mg_of X G a11, k11, b11⟩
  have C_law_due : Cal l.prog w K mg base 3 "_law_due" ["period", "lines", "sums"] (sp_due K) f12 _ := ⟨ok_due F12 T  C_law_joined C_law_way C_law_phases, PySem.W.mg_of X G a12, k12, b12⟩
  have C_law_shape : Cal l.prog w K mg base 2 "_law_shape" ["script"] (sp_shape K) f13 _ := ⟨ok_shape F13 T  C_law_draws C_law_cell, PySem.W.mg_of X G a13, k13, b13⟩
  have C_law_line : Cal l.prog w K mg base 2 "_law_line" ["script", "lines"] (sp_line K) f14 _ := ⟨ok_line F14 T  C_law_draws C_law_cell, PySem.W.mg_of X G a14, k14, b14⟩
  have C_law_pairs : Cal l.prog w K mg base 2 "_law_pairs" ["script", "lines", "rows"] (sp_pairs K) f15 _ := ⟨ok_pairs F15 T  C_law_draws C_law_cell, PySem.W.mg_of X G a15, k15, b15⟩
  have C_law_sums : Cal l.prog w K mg base 2 "_law_sums" ["script", "period", "lines", "pairs", "mode"] (sp_sumsL K) f16 _ := ⟨ok_sumsL F16 T  C_law_draws C_law_cell, PySem.W.mg_of X G a16, k16, b16⟩
  have C_law_other : Cal l.prog w K mg base 2 "_law_other" ["script", "period", "lines", "sums", "due"] (sp_other K) f17 _ := ⟨ok_other F17 T  C_law_draws C_law_cell C_law_joined, PySem.W.mg_of X G a17, k17, b17⟩
  have C_law_number : Cal l.prog w K mg base 1 "_law_number" ["thing"] sp_number f18 _ := ⟨ok_number F18 T  , PySem.W.mg_of X G a18, k18, b18⟩
  have CQ_law_number : CalQ l.prog w K mg base 1 "_law_number" ["thing"] sp_number f18 _ := ⟨ok_numberQ F18 T, PySem.W.mg_of X G a18, k18, b18⟩
  have C_law_right : Cal l.prog w K mg base 2 "_law_right" ["told", "due"] sp_right f19 _ := ⟨ok_right F19 T  C_law_number, PySem.W.mg_of X G a19, k19, b19⟩
  have C_law_answered : CalG l.prog w K mg base 6 "_law_answered" ["period", "lines", "sums", "due"] (sp_answered K) f20 _ := ⟨ok_answered F20 T  Csettle C_law_right, PySem.W.mg_of X G a20, k20, b20⟩
  have C_law_flawed : Cal l.prog w K mg base 2 "_law_flawed" ["script", "period", "lines", "sums"] (sp_flawed K) f21 _ := ⟨ok_flawed F21 T  C_law_draws C_law_cell, PySem.W.mg_of X G a21, k21, b21⟩
  have C_law_first_flaw : Cal l.prog w K mg base 1 "_law_first_flaw" ["period", "lines", "sums"] (sp_flaw K) f22 _ := ⟨ok_flaw F22 T  , PySem.W.mg_of X G a22, k22, b22⟩
  have C_law_refused : CalG l.prog w K mg base 6 "_law_refused" ["period", "lines", "sums"] (sp_refused K) f23 _ := ⟨ok_refused F23 T XB Csettle C_law_first_flaw CQ_law_number, PySem.W.mg_of X G a23, k23, b23⟩
  exact ok_law F24 T C_law_shape C_law_line C_law_pairs C_law_sums C_law_due C_law_answered C_law_other C_law_flawed C_law_refused C_law_right Csettle
end K32W
open PySem PySem.W PyProof.Rows
set_option maxHeartbeats 0 in
theorem PySem.Challenge.cw_changeskept_k32_exact_wishes_holds : PySem.Challenge.rw_changeskept_k32_exact_wishes.Holds := by
  w_on; o_law; k_head; (case hw => w_witness2)
  k_fill
  refine L2.walk_ofG (l := PySem.Challenge.rw_changeskept_k32_exact_wishes) (n := 63) (k := 7) (x := "script") (sp := fun w => K32W.sp_law _) rfl (by decide) rfl ⟨rfl, by decide, by decide⟩ (fun w h Y => PySem.W.kIn_of Y) ?F (fun _ _ a ns hl _ hS => ⟨a, ns, rfl, hS, hl, fun _ => rfl⟩)
  case F =>
    intro w mg fa h KX G hmg
    refine' K32W.all_mk KX G hmg ?a0 ?l0 ?c0 ?k0 ?a1 ?l1 ?c1 ?k1 ?a2 ?l2 ?c2 ?k2 ?a3 ?l3 ?c3 ?k3 ?a4 ?l4 ?c4 ?k4 ?a5 ?l5 ?c5 ?k5 ?a6 ?l6 ?c6 ?k6 ?a7 ?l7 ?c7 ?k7 ?a8 ?l8 ?c8 ?k8 ?a9 ?l9 ?c9 ?k9 ?a10 ?l10 ?c10 ?k10 ?a11 ?l11 ?c11 ?k11 ?a12 ?l12 ?c12 ?k12 ?a13 ?l13 ?c13 ?k13 ?a14 ?l14 ?c14 ?k14 ?a15 ?l15 ?c15 ?k15 ?a16 ?l16 ?c16 ?k16 ?a17 ?l17 ?c17 ?k17 ?a18 ?l18 ?c18 ?k18 ?a19 ?l19 ?c19 ?k19 ?a20 ?l20 ?c20 ?k20 ?a21 ?l21 ?c21 ?k21 ?a22 ?l22 ?c22 ?k22 ?a23 ?l23 ?c23 ?k23 ?a24 ?l24 ?c24 ?k24 ?z_len ?z_abs ?z_int ?z_range ?z_list ?z_tuple ?z_max ?z_isinstance ?z_bool ?z_str ?z_repr ?z_reversed ?z_enumerate ?z_zip ?z_super ?m60 ?m20 ?aCN ?aCB ?aCD ?aCT ?aCU ?xN ?sa ?ga ?gg ?n1 ?n2 ?iC ?tI ?kC ?eCN ?tCN ?hCN ?eCB ?tCB ?hCB ?sCB ?eCD ?tCD ?hCD ?sCD ?neCD ?eCT ?tCT ?hCT ?sCT ?neCT ?eCU ?tCU ?hCU ?sCU ?neCU ?vC ?mC ?mO ?suC ?noO ?top ?lI ?cI ?lcd ?hvs ?hfi ?lcc ?hca ?hsp ?htk
    (case a0 => k_is); (case l0 => k_is); (case c0 => k_is); (case k0 => k_is); (case a1 => k_is); (case l1 => k_is); (case c1 => k_is); (case k1 => k_is)
    (case a2 => k_is); (case l2 => k_is); (case c2 => k_is); (case k2 => k_is); (case a3 => k_is); (case l3 => k_is); (case c3 => k_is); (case k3 => k_is)
    (case a4 => k_is); (case l4 => k_is); (case c4 => k_is); (case k4 => k_is); (case a5 => k_is); (case l5 => k_is); (case c5 => k_is); (case k5 => k_is)
    (case a6 => k_is); (case l6 => k_is); (case c6 => k_is); (case k6 => k_is); (case a7 => k_is); (case l7 => k_is); (case c7 => k_is); (case k7 => k_is)
    (case a8 => k_is); (case l8 => k_is); (case c8 => k_is); (case k8 => k_is); (case a9 => k_is); (case l9 => k_is); (case c9 => k_is); (case k9 => k_is)
    (case a10 => k_is); (case l10 => k_is); (case c10 => k_is); (case k10 => k_is); (case a11 => k_is); (case l11 => k_is); (case c11 => k_is); (case k11 => k_is)
    (case a12 => k_is); (case l12 => k_is); (case c12 => k_is); (case k12 => k_is); (case a13 => k_is); (case l13 => k_is); (case c13 => k_is); (case k13 => k_is)
    (case a14 => k_is); (case l14 => k_is); (case c14 => k_is); (case k14 => k_is); (case a15 => k_is); (case l15 => k_is); (case c15 => k_is); (case k15 => k_is)
    (case a16 => k_is); (case l16 => k_is); (case c16 => k_is); (case k16 => k_is); (case a17 => k_is); (case l17 => k_is); (case c17 => k_is); (case k17 => k_is)
    (case a18 => k_is); (case l18 => k_is); (case c18 => k_is); (case k18 => k_is); (case a19 => k_is); (case l19 => k_is); (case c19 => k_is); (case k19 => k_is)
    (case a20 => k_is); (case l20 => k_is); (case c20 => k_is); (case k20 => k_is); (case a21 => k_is); (case l21 => k_is); (case c21 => k_is); (case k21 => k_is)
    (case a22 => k_is); (case l22 => k_is); (case c22 => k_is); (case k22 => k_is); (case a23 => k_is); (case l23 => k_is); (case c23 => k_is); (case k23 => k_is)
    (case a24 => k_is); (case l24 => k_is); (case c24 => k_is); (case k24 => k_is); (case z_len => k_is); (case z_abs => k_is); (case z_int => k_is); (case z_range => k_is)
    (case z_list => k_is); (case z_tuple => k_is); (case z_max => k_is); (case z_isinstance => k_is); (case z_bool => k_is); (case z_str => k_is); (case z_repr => k_is); (case z_reversed => k_is)
    (case z_enumerate => k_is); (case z_zip => k_is); (case z_super => k_is); (case m60 => k_is); (case m20 => k_is); (case aCN => k_is); (case aCB => k_is); (case aCD => k_is)
    (case aCT => k_is); (case aCU => k_is); (case xN => k_is); (case sa => k_is); (case ga => k_is); (case gg => k_is); (case n1 => k_is); (case n2 => k_is)
    (case iC => k_is); (case tI => k_is); (case kC => k_is); (case eCN => k_is); (case tCN => k_is); (case hCN => k_is); (case eCB => k_is); (case tCB => k_is)
    (case hCB => k_is); (case sCB => first | k_is | rfl); (case eCD => k_is); (case tCD => k_is); (case hCD => k_is); (case sCD => first | k_is | rfl); (case neCD => decide); (case eCT => k_is)
    (case tCT => k_is); (case hCT => k_is); (case sCT => first | k_is | rfl); (case neCT => decide); (case eCU => k_is); (case tCU => k_is); (case hCU => k_is); (case sCU => first | k_is | rfl)
    (case neCU => decide); (case vC => k_is); (case mC => first | k_is | rfl | kernel_rfl); (case mO => first | k_is | rfl | kernel_rfl); (case suC => first | ks_is | rfl | kernel_rfl); (case noO => k_is); (case top => first | rfl | decide +kernel); (case lI => k_is)
    (case cI => k_is); (case lcd => k_is); (case hvs => rfl); (case hfi => first | rfl | decide +kernel); (case lcc => k_is); (case hca => k_is); (case hsp => first | k_is | rfl | kernel_rfl); (case htk => first | k_is | rfl | kernel_rfl)


