import PyProof.Rows.All
import Wide.All
import OpenK.AllK
import Wide.FinOn
import HandS.ForMost
import HandS.TupAny
import HandS.Conv
import HandS.ListItems
import KE.SortData
import KE.KDictSum
import HandS.DictTup
import KE.KItemsList
import KE.KDictDisplayH
import HandS.Set
import HandS.Strs
import KE.KIntText
import KE.IntTextText
import PySem.Challenge.RW_woundwalks_k11_whole_stretches_and_other
import HandS.DictComp
import HandS.IsInst
import HandS.Defaults
import HandS.Style
import KE.IntTextLaws
set_option Elab.async false
set_option linter.all false
set_option maxRecDepth 100000
section
set_option autoImplicit false
/-! The plain mathematics: onward steps, runs, what is seen, kinds. -/
namespace WW
section
variable {α : Type} [DecidableEq α]

/-- the kinds -/
inductive Kd where
  | firm | late | steady
  deriving DecidableEq

/-! ### tables -/
def put (kvs : List (α × Nat)) (x : α) (q : Nat) : List (α × Nat) :=
  if (kvs.any fun kv => decide (kv.1 = x)) = true then kvs.map (fun kv => if kv.1 = x then (kv.1, q) else kv) else kvs ++ [(x, q)]
def get (kvs : List (α × Nat)) (x : α) : Option Nat := (kvs.find? fun kv => decide (kv.1 = x)).map (·.2)

theorem get_nil (x : α) : get ([] : List (α × Nat)) x = none := rfl
theorem get_cons (a : α) (q : Nat) (r : List (α × Nat)) (x : α) : get ((a, q) :: r) x = if a = x then some q else get r x := by
  unfold get
  rw [List.find?_cons]
  by_cases h : a = x <;> simp [h]
theorem any_get (x : α) : ∀ kvs : List (α × Nat), (kvs.any fun kv => decide (kv.1 = x)) = (get kvs x).isSome
  | [] => rfl
  | (a, q) :: r => by
    rw [List.any_cons, get_cons, any_get x r]
    by_cases h : a = x <;> simp [h]
theorem get_map (x y : α) (q : Nat) : ∀ kvs : List (α × Nat), get (kvs.map fun kv => if kv.1 = x then (kv.1, q) else kv) y = if x = y then (get kvs y).map fun _ => q else get kvs y
  | [] => by simp [get]
  | (a, b) :: r => by
    rw [List.map_cons]
    by_cases h : a = x
    · subst h
      simp only [if_true]
      rw [get_cons, get_cons, get_map a y q r]
      by_cases e : a = y <;> simp [e]
    · simp only [h, if_false]
      rw [get_cons, get_cons, get_map x y q r]
      by_cases e : a = y
      · subst e
        have h' : ¬ x = a := fun z => h z.symm
        simp [h']
      · simp [e]
theorem get_app (x y : α) (q : Nat) : ∀ kvs : List (α × Nat), get kvs x = none → get (kvs ++ [(x, q)]) y = if x = y then some q else get kvs y
  | [], _ => by
    rw [List.nil_append, get_cons]
  | (a, b) :: r, h => by
    rw [get_cons] at h
    have ha : ¬ a = x := fun e => by simp [e] at h
    rw [if_neg ha] at h
    rw [List.cons_append, get_cons, get_cons, get_app x y q r h]
    by_cases e : a = y
    · subst e
      have h' : ¬ x = a := fun z => ha z.symm
      simp [h']
    · simp [e]
theorem get_put (kvs : List (α × Nat)) (x y : α) (q : Nat) : get (put kvs x q) y = if x = y then some q else get kvs y := by
  unfold put
  rw [any_get]
  cases h : get kvs x with
  | none =>
    rw [if_neg (by simp)]
    exact get_app x y q kvs h
  | some b =>
    rw [if_pos (by simp), get_map]
    by_cases e : x = y
    · subst e
      simp [h]
    · simp [e]
theorem put_keys (kvs : List (α × Nat)) (x : α) (q : Nat) (h : (kvs.map (·.1)).Nodup) : ((put kvs x q).map (·.1)).Nodup := by
  unfold put
  split
  · have e : (kvs.map (fun kv => if kv.1 = x then (kv.1, q) else kv)).map (·.1) = kvs.map (·.1) := by
      rw [List.map_map]
      apply List.map_congr_left
      intro kv _
      by_cases z : kv.1 = x <;> simp [z]
    rw [e]
    exact h
  · rename_i hn
    rw [List.map_append, List.nodup_append]
    refine ⟨h, by simp, ?_⟩
    intro a ha b hb
    simp at hb
    subst hb
    intro e
    subst e
    apply hn
    obtain ⟨kv, hkv, e2⟩ := List.mem_map.mp ha
    exact List.any_eq_true.mpr ⟨kv, hkv, by simp [e2]⟩
theorem mem_get : ∀ {kvs : List (α × Nat)} {x : α} {q : Nat}, (kvs.map (·.1)).Nodup → ((x, q) ∈ kvs ↔ get kvs x = some q)
  | [], x, q, _ => by simp [get]
  | (a, b) :: r, x, q, h => by
    rw [List.map_cons, List.nodup_cons] at h
    rw [get_cons, List.mem_cons, mem_get h.2]
    by_cases e : a = x
    · subst e
      rw [if_pos rfl]
      constructor
      · rintro (h1 | h1)
        · cases h1
          rfl
        · have := (mem_get h.2).mpr h1
          exact absurd (List.mem_map.mpr ⟨(a, q), this, rfl⟩) h.1
      · intro h1
        cases h1
        exact .inl rfl
    · rw [if_neg e]
      constructor
      · rintro (h1 | h1)
        · cases h1
          exact absurd rfl e
        · exact h1
      · exact .inr

/-! ### winding back -/
def backs (w : List α) (p : Nat) : List Nat := (List.range' 1 (p - 1)).filter fun j => decide (w[j - 1]? = w[p - 1]?)
def goings (w : List α) (p : Nat) : List Nat := backs w p ++ if p < w.length then [p] else []
theorem mem_backs {w : List α} {p j : Nat} : j ∈ backs w p ↔ 1 ≤ j ∧ j < p ∧ w[j - 1]? = w[p - 1]? := by
  unfold backs
  rw [List.mem_filter, List.mem_range'_1, decide_eq_true_eq]
  constructor
  · rintro ⟨⟨h1, h2⟩, h3⟩
    exact ⟨h1, by omega, h3⟩
  · rintro ⟨h1, h2, h3⟩
    exact ⟨⟨h1, by omega⟩, h3⟩
theorem mem_goings {w : List α} {p j : Nat} : j ∈ goings w p ↔ (1 ≤ j ∧ j < p ∧ w[j - 1]? = w[p - 1]?) ∨ (j = p ∧ p < w.length) := by
  unfold goings
  rw [List.mem_append, mem_backs]
  by_cases h : p < w.length
  · simp [h]
  · simp [h]
theorem backs_rise (w : List α) (p : Nat) : (backs w p).Pairwise (· < ·) := (List.pairwise_lt_range' (s := 1) (n := p - 1)).sublist List.filter_sublist
theorem goings_rise (w : List α) (p : Nat) : (goings w p).Pairwise (· < ·) := by
  unfold goings
  rw [List.pairwise_append]
  refine ⟨backs_rise w p, ?_, ?_⟩
  · split <;> simp
  · intro a ha b hb
    split at hb
    · simp at hb
      subst hb
      exact (mem_backs.mp ha).2.1
    · simp at hb
theorem goings_lt {w : List α} {p j : Nat} (hp : p ≤ w.length) (h : j ∈ goings w p) : j < w.length ∧ j ≤ p := by
  rcases mem_goings.mp h with h | h <;> omega
/-- by names, the greatest place come to -/
def onwOf (w : List α) (js : List Nat) (acc : List (α × Nat)) : List (α × Nat) := js.foldl (fun acc j => match w[j]? with | some x => put acc x (j + 1) | none => acc) acc
def onw (w : List α) (p : Nat) : List (α × Nat) := onwOf w (goings w p) []
theorem onwOf_keys (w : List α) : ∀ (js : List Nat) (acc : List (α × Nat)), (acc.map (·.1)).Nodup → ((onwOf w js acc).map (·.1)).Nodup
  | [], _, h => h
  | j :: js, acc, h => by
    show ((onwOf w js (match w[j]? with | some x => put acc x (j + 1) | none => acc)).map (·.1)).Nodup
    refine onwOf_keys w js _ ?_
    cases w[j]? with
    | none => exact h
    | some x => exact put_keys _ _ _ h
theorem onw_keys (w : List α) (p : Nat) : ((onw w p).map (·.1)).Nodup := onwOf_keys w _ _ List.nodup_nil
theorem onwOf_get (w : List α) (x : α) : ∀ (js : List Nat) (acc : List (α × Nat)), js.Pairwise (· < ·) →
    (∃ j, j ∈ js ∧ w[j]? = some x ∧ (∀ i, i ∈ js → w[i]? = some x → i ≤ j) ∧ get (onwOf w js acc) x = some (j + 1)) ∨ ((∀ j, j ∈ js → w[j]? ≠ some x) ∧ get (onwOf w js acc) x = get acc x)
  | [], acc, _ => .inr ⟨fun _ h => (nomatch h), rfl⟩
  | j :: js, acc, h => by
    rw [List.pairwise_cons] at h
    have e : onwOf w (j :: js) acc = onwOf w js (match w[j]? with | some x => put acc x (j + 1) | none => acc) := rfl
    rw [e]
    rcases onwOf_get w x js (match w[j]? with | some x => put acc x (j + 1) | none => acc) h.2 with ⟨i, h1, h2, h3, h4⟩ | ⟨h1, h2⟩
    · refine .inl ⟨i, List.mem_cons_of_mem _ h1, h2, ?_, h4⟩
      intro k hk e
      rcases List.mem_cons.mp hk with z | z
      · subst z
        exact Nat.le_of_lt (h.1 i h1)
      · exact h3 k z e
    · by_cases hj : w[j]? = some x
      · refine .inl ⟨j, List.mem_cons_self, hj, ?_, ?_⟩
        · intro k hk e
          rcases List.mem_cons.mp hk with z | z
          · omega
          · exact absurd e (h1 k z)
        · rw [h2, hj]
          show get (put acc x (j + 1)) x = _
          rw [get_put, if_pos rfl]
      · refine .inr ⟨?_, ?_⟩
        · intro k hk
          rcases List.mem_cons.mp hk with z | z
          · subst z
            exact hj
          · exact h1 k z
        · rw [h2]
          cases hw : w[j]? with
          | none => rfl
          | some y =>
            show get (put acc y (j + 1)) x = _
            rw [get_put, if_neg]
            rintro rfl
            exact hj hw
theorem onw_get {w : List α} {p : Nat} {x : α} {q : Nat} (h : get (onw w p) x = some q) : ∃ j, j ∈ goings w p ∧ w[j]? = some x ∧ (∀ i, i ∈ goings w p → w[i]? = some x → i ≤ j) ∧ q = j + 1 := by
  rcases onwOf_get w x (goings w p) [] (goings_rise w p) with ⟨j, h1, h2, h3, h4⟩ | ⟨_, h2⟩
  · have h' : get (onwOf w (goings w p) []) x = some q := h
    rw [h4] at h'
    cases h'
    exact ⟨j, h1, h2, h3, rfl⟩
  · have h' : get (onwOf w (goings w p) []) x = some q := h
    rw [h2] at h'
    cases h'
theorem onw_has {w : List α} {p : Nat} {x : α} {j : Nat} (hj : j ∈ goings w p) (hx : w[j]? = some x) : ∃ i, j ≤ i ∧ i ∈ goings w p ∧ w[i]? = some x ∧ get (onw w p) x = some (i + 1) := by
  rcases onwOf_get w x (goings w p) [] (goings_rise w p) with ⟨i, h1, h2, h3, h4⟩ | ⟨h1, _⟩
  · exact ⟨i, h3 j hj hx, h1, h2, h4⟩
  · exact absurd hx (h1 j hj)
theorem onw_le {w : List α} {p : Nat} {x : α} {q : Nat} (hp : p ≤ w.length) (h : get (onw w p) x = some q) : 1 ≤ q ∧ q ≤ w.length ∧ q ≤ p + 1 := by
  obtain ⟨j, h1, _, _, rfl⟩ := onw_get h
  have := goings_lt hp h1
  omega
theorem onw_straight {w : List α} {p : Nat} {x : α} (hx : w[p]? = some x) : get (onw w p) x = some (p + 1) := by
  have hp : p < w.length := (List.getElem?_eq_some_iff.mp hx).1
  obtain ⟨i, h1, h2, _, h4⟩ := onw_has (w := w) (p := p) (x := x) (mem_goings.mpr (.inr ⟨rfl, hp⟩)) hx
  have := goings_lt (Nat.le_of_lt hp) h2
  have e : i = p := by omega
  rw [h4, e]

/-! ### runs -/
def run (w : List α) : Nat → List α → Option Nat
  | p, [] => some p
  | p, x :: r => match get (onw w p) x with
    | none => none
    | some q => run w q r
theorem run_cons {w : List α} {p : Nat} {x : α} {r : List α} {q : Nat} (h : get (onw w p) x = some q) : run w p (x :: r) = run w q r := by
  show (match get (onw w p) x with | none => none | some q => run w q r) = _
  rw [h]
theorem run_cons_some {w : List α} {p : Nat} {x : α} {r : List α} {z : Nat} (h : run w p (x :: r) = some z) : ∃ q, get (onw w p) x = some q ∧ run w q r = some z := by
  cases e : get (onw w p) x with
  | none =>
    have h' : (match get (onw w p) x with | none => none | some q => run w q r) = some z := h
    rw [e] at h'
    cases h'
  | some q =>
    rw [run_cons e] at h
    exact ⟨q, rfl, h⟩
theorem run_le {w : List α} : ∀ {r : List α} {p z : Nat}, p ≤ w.length → run w p r = some z → z ≤ w.length
  | [], p, z, hp, h => by
    cases h
    exact hp
  | x :: r, p, z, hp, h => by
    obtain ⟨q, h1, h2⟩ := run_cons_some h
    exact run_le (onw_le hp h1).2.1 h2
theorem run_app {w : List α} : ∀ {r s : List α} {p : Nat}, run w p (r ++ s) = (run w p r).bind fun q => run w q s
  | [], _, _ => rfl
  | x :: r, s, p => by
    rw [List.cons_append]
    cases e : get (onw w p) x with
    | none =>
      show (match get (onw w p) x with | none => none | some q => run w q (r ++ s)) = (match get (onw w p) x with | none => none | some q => run w q r).bind _
      rw [e]
      rfl
    | some q =>
      rw [run_cons e, run_cons e]
      exact run_app
theorem run_snoc {w : List α} {r : List α} {x : α} {p q z : Nat} (h : run w p r = some q) (h2 : get (onw w q) x = some z) : run w p (r ++ [x]) = some z := by
  rw [run_app, h]
  show run w q [x] = some z
  rw [run_cons h2]
  rfl
/-- straight on -/
theorem run_take {w : List α} : ∀ {m p : Nat}, p + m ≤ w.length → run w p ((w.drop p).take m) = some (p + m)
  | 0, p, _ => by
    rw [List.take_zero]
    rfl
  | m + 1, p, h => by
    have hp : p < w.length := by omega
    rw [List.drop_eq_getElem_cons hp, List.take_succ_cons, run_cons (onw_straight (List.getElem?_eq_getElem hp)), run_take (by omega)]
    congr 1
    omega
/-- from places that one may wind back from, the rest is gone all the same -/
theorem run_drop {w : List α} : ∀ {m p P : Nat}, p + m = w.length → p ≤ P → P ≤ w.length → (P = p ∨ (1 ≤ p ∧ w[p - 1]? = w[P - 1]?)) → run w P (w.drop p) = some w.length
  | 0, p, P, h, h1, h2, _ => by
    have e : p = w.length := by omega
    have e2 : P = w.length := by omega
    rw [e, List.drop_length, e2]
    rfl
  | m + 1, p, P, h, h1, h2, h3 => by
    have hp : p < w.length := by omega
    rw [List.drop_eq_getElem_cons hp]
    have hg : p ∈ goings w P := by
      rw [mem_goings]
      by_cases e : p = P
      · exact .inr ⟨e, by omega⟩
      · rcases h3 with h3 | h3
        · exact absurd h3.symm e
        · exact .inl ⟨h3.1, by omega, h3.2⟩
    obtain ⟨i, i1, i2, i3, i4⟩ := onw_has hg (List.getElem?_eq_getElem hp)
    have i5 := goings_lt h2 i2
    rw [run_cons i4]
    refine run_drop (m := m) (by omega) (by omega) (by omega) (.inr ⟨by omega, ?_⟩)
    show w[p + 1 - 1]? = w[i + 1 - 1]?
    rw [Nat.add_sub_cancel, Nat.add_sub_cancel, i3, List.getElem?_eq_getElem hp]

/-! ### what is seen -/
/-- the sizes of the word's beginnings that stand at the end of its first s names and x -/
def sizes (w : List α) (s : Nat) (x : α) : List Nat := (List.range (min w.length (s + 1) + 1)).filter fun z => decide (((w.take s ++ [x]).drop (s + 1 - z)) = w.take z)
def greatest : List Nat → Nat
  | [] => 0
  | a :: r => max a (greatest r)
theorem greatest_ge : ∀ {l : List Nat} {a : Nat}, a ∈ l → a ≤ greatest l
  | b :: r, a, h => by
    show a ≤ max b (greatest r)
    rcases List.mem_cons.mp h with e | e
    · omega
    · have := greatest_ge e
      omega
theorem greatest_mem : ∀ {l : List Nat}, l ≠ [] → greatest l ∈ l
  | [b], _ => by simp [greatest]
  | b :: c :: r, _ => by
    show max b (greatest (c :: r)) ∈ _
    have h := greatest_mem (l := c :: r) (by simp)
    by_cases e : greatest (c :: r) ≤ b
    · rw [Nat.max_eq_left e]
      exact List.mem_cons_self
    · rw [Nat.max_eq_right (by omega)]
      exact List.mem_cons_of_mem _ h
theorem greatest_eq {l : List Nat} {a : Nat} (h : a ∈ l) (h2 : ∀ b ∈ l, b ≤ a) : greatest l = a :=
  Nat.le_antisymm (h2 _ (greatest_mem (List.ne_nil_of_mem h))) (greatest_ge h)
def seenL (w : List α) (s : Nat) (x : α) : Nat := greatest (sizes w s x)
theorem zero_sizes (w : List α) (s : Nat) (x : α) (hs : s ≤ w.length) : 0 ∈ sizes w s x := by
  unfold sizes
  rw [List.mem_filter]
  refine ⟨by rw [List.mem_range]; omega, decide_eq_true ?_⟩
  rw [List.take_zero, Nat.sub_zero, List.drop_of_length_le]
  rw [List.length_append, List.length_take, List.length_singleton]
  omega
theorem mem_sizes {w : List α} {s : Nat} {x : α} {z : Nat} : z ∈ sizes w s x ↔ z ≤ w.length ∧ z ≤ s + 1 ∧ (w.take s ++ [x]).drop (s + 1 - z) = w.take z := by
  unfold sizes
  rw [List.mem_filter, List.mem_range, decide_eq_true_eq]
  constructor
  · rintro ⟨h1, h3⟩
    exact ⟨by omega, by omega, h3⟩
  · rintro ⟨h1, h2, h3⟩
    exact ⟨by omega, h3⟩
theorem seenL_in {w : List α} {s : Nat} {x : α} (hs : s ≤ w.length) : seenL w s x ≤ w.length ∧ seenL w s x ≤ s + 1 ∧ (w.take s ++ [x]).drop (s + 1 - seenL w s x) = w.take (seenL w s x) :=
  mem_sizes.mp (greatest_mem (List.ne_nil_of_mem (zero_sizes w s x hs)))
theorem seenL_ge {w : List α} {s : Nat} {x : α} {z : Nat} (h : z ≤ w.length) (h2 : z ≤ s + 1) (h3 : (w.take s ++ [x]).drop (s + 1 - z) = w.take z) : z ≤ seenL w s x :=
  greatest_ge (mem_sizes.mpr ⟨h, h2, h3⟩)
theorem seenL_straight {w : List α} {s : Nat} {x : α} (hx : w[s]? = some x) : seenL w s x = s + 1 := by
  have hs : s < w.length := (List.getElem?_eq_some_iff.mp hx).1
  have h1 := seenL_in (w := w) (s := s) (x := x) (Nat.le_of_lt hs)
  have h2 : s + 1 ≤ seenL w s x := seenL_ge (by omega) (Nat.le_refl _) (by
    rw [Nat.sub_self, List.drop_zero, List.take_add_one, hx]
    rfl)
  omega
/-- one name more -/
def seenB (k : Kd) (w : List α) (s : Int) (x : α) : Int := match k with
  | .firm => if s = -1 ∨ s = w.length then s else if w[s.toNat]? = some x then s + 1 else -1
  | .late => (seenL w s.toNat x : Nat)
  | .steady => if s = w.length then s else (seenL w s.toNat x : Nat)
def sees (k : Kd) (w : List α) (s : Int) (r : List α) : Int := r.foldl (seenB k w) s
/-- what may be seen -/
def Sn (k : Kd) (w : List α) (s : Int) : Prop := s ≤ w.length ∧ (0 ≤ s ∨ (k = .firm ∧ s = -1))
theorem seenB_in {k : Kd} {w : List α} {s : Int} {x : α} (h : Sn k w s) : Sn k w (seenB k w s x) := by
  obtain ⟨h1, h2⟩ := h
  cases k with
  | firm =>
    show Sn .firm w (if s = -1 ∨ s = w.length then s else if w[s.toNat]? = some x then s + 1 else -1)
    split
    · exact ⟨h1, h2⟩
    · rename_i hn
      split
      · refine ⟨by omega, .inl ?_⟩
        rcases h2 with h2 | h2
        · omega
        · exact absurd (.inl h2.2) hn
      · exact ⟨by omega, .inr ⟨rfl, rfl⟩⟩
  | late =>
    have h0 : 0 ≤ s := h2.resolve_right fun z => (nomatch z.1)
    have := (seenL_in (w := w) (s := s.toNat) (x := x) (by omega)).1
    exact ⟨by show ((seenL w s.toNat x : Nat) : Int) ≤ _; omega, .inl (Int.natCast_nonneg _)⟩
  | steady =>
    have h0 : 0 ≤ s := h2.resolve_right fun z => (nomatch z.1)
    show Sn .steady w (if s = w.length then s else (seenL w s.toNat x : Nat))
    split
    · exact ⟨h1, .inl h0⟩
    · have := (seenL_in (w := w) (s := s.toNat) (x := x) (by omega)).1
      exact ⟨by omega, .inl (Int.natCast_nonneg _)⟩
theorem sees_in {k : Kd} {w : List α} : ∀ {r : List α} {s : Int}, Sn k w s → Sn k w (sees k w s r)
  | [], _, h => h
  | x :: r, s, h => sees_in (r := r) (seenB_in (x := x) h)
theorem sn_zero (k : Kd) (w : List α) : Sn k w 0 := ⟨Int.natCast_nonneg _, .inl (Int.le_refl _)⟩
theorem sees_cons (k : Kd) (w : List α) (s : Int) (x : α) (r : List α) : sees k w s (x :: r) = sees k w (seenB k w s x) r := rfl
theorem sees_app (k : Kd) (w : List α) (s : Int) (r t : List α) : sees k w s (r ++ t) = sees k w (sees k w s r) t := by
  unfold sees
  rw [List.foldl_append]

/-! ### kinds -/
def Wound (w r : List α) : Prop := run w 0 r = some w.length
def Lacks (k : Kd) (w r : List α) : Prop := Wound w r ∧ sees k w 0 r ≠ w.length
def Is (k : Kd) (w : List α) : Prop := ∀ r, Wound w r → sees k w 0 r = w.length

/-- firm is steady, step by step -/
theorem firm_steady_step {w : List α} {f s : Int} (x : α) (h : f = -1 ∨ s = w.length ∨ (f = s ∧ 0 ≤ f ∧ f ≤ w.length)) :
    seenB .firm w f x = -1 ∨ seenB .steady w s x = w.length ∨ (seenB .firm w f x = seenB .steady w s x ∧ 0 ≤ seenB .firm w f x ∧ seenB .firm w f x ≤ w.length) := by
  show (if f = -1 ∨ f = w.length then f else if w[f.toNat]? = some x then f + 1 else -1) = -1 ∨ (if s = w.length then s else (seenL w s.toNat x : Nat)) = w.length ∨ _
  rcases h with h | h | ⟨h, h2, h3⟩
  · subst h
    exact .inl (by simp)
  · subst h
    exact .inr (.inl (by simp))
  · subst h
    by_cases e : f = w.length
    · exact .inr (.inl (by simp [e]))
    · have hn : ¬ (f = -1 ∨ f = w.length) := by omega
      by_cases hx : w[f.toNat]? = some x
      · refine .inr (.inr ?_)
        show (if f = -1 ∨ f = w.length then f else if w[f.toNat]? = some x then f + 1 else -1) = (if f = w.length then f else (seenL w f.toNat x : Nat)) ∧ 0 ≤ (if f = -1 ∨ f = w.length then f else if w[f.toNat]? = some x then f + 1 else -1) ∧ (if f = -1 ∨ f = w.length then f else if w[f.toNat]? = some x then f + 1 else -1) ≤ w.length
        rw [if_neg hn, if_pos hx, if_neg e, seenL_straight hx]
        omega
      · refine .inl ?_
        rw [if_neg hn, if_neg hx]
theorem firm_steady_run {w : List α} : ∀ {r : List α} {f s : Int}, (f = -1 ∨ s = w.length ∨ (f = s ∧ 0 ≤ f ∧ f ≤ w.length)) →
    sees .firm w f r = -1 ∨ sees .steady w s r = w.length ∨ (sees .firm w f r = sees .steady w s r ∧ 0 ≤ sees .firm w f r ∧ sees .firm w f r ≤ w.length)
  | [], _, _, h => h
  | x :: r, _, _, h => firm_steady_run (r := r) (firm_steady_step x h)
theorem firm_steady {w : List α} (h : Is .firm w) : Is .steady w := fun r hr => by
  have h1 := h r hr
  rcases firm_steady_run (w := w) (r := r) (f := 0) (s := 0) (.inr (.inr ⟨rfl, Int.le_refl _, Int.natCast_nonneg _⟩)) with h2 | h2 | h2
  · omega
  · exact h2
  · rw [← h2.1]
    exact h1
theorem late_steady_run {w : List α} : ∀ {r : List α} {l s : Int}, (s = w.length ∨ s = l) → (sees .steady w s r = w.length ∨ sees .steady w s r = sees .late w l r)
  | [], _, _, h => h
  | x :: r, l, s, h => by
    refine late_steady_run (r := r) ?_
    show (if s = w.length then s else (seenL w s.toNat x : Nat)) = w.length ∨ (if s = w.length then s else (seenL w s.toNat x : Nat)) = (seenL w l.toNat x : Nat)
    by_cases e : s = w.length
    · exact .inl (by simp [e])
    · have := h.resolve_left e
      subst this
      exact .inr (by rw [if_neg e])
theorem late_steady {w : List α} (h : Is .late w) : Is .steady w := fun r hr => by
  rcases late_steady_run (w := w) (r := r) (l := 0) (s := 0) (.inr rfl) with h2 | h2
  · exact h2
  · rw [h2]
    exact h r hr

/-! ### firm: each name, but the last place's, has one follower -/
def OneNext (w : List α) : Prop := ∀ i j, 1 ≤ j → j < i → i < w.length → w[j - 1]? = w[i - 1]? → w[j]? = w[i]?
theorem firm_run {w : List α} (hd : OneNext w) : ∀ {r : List α} {p z : Nat} {s : Int}, p ≤ w.length → (s = w.length ∨ s = p) → run w p r = some z → (sees .firm w s r = w.length ∨ sees .firm w s r = z)
  | [], p, z, s, _, h, hr => by
    cases hr
    exact h
  | x :: r, p, z, s, hp, h, hr => by
    obtain ⟨q, h1, h2⟩ := run_cons_some hr
    refine firm_run hd (r := r) (onw_le hp h1).2.1 ?_ h2
    show (if s = -1 ∨ s = w.length then s else if w[s.toNat]? = some x then s + 1 else -1) = w.length ∨ (if s = -1 ∨ s = w.length then s else if w[s.toNat]? = some x then s + 1 else -1) = q
    by_cases e : s = w.length
    · exact .inl (by simp [e])
    · have hs := h.resolve_left e
      subst hs
      have hpl : p < w.length := by omega
      obtain ⟨j, j1, j2, j3, rfl⟩ := onw_get h1
      have hw : w[p]? = some x := by
        rcases mem_goings.mp j1 with g | g
        · rw [← hd p j g.1 g.2.1 hpl g.2.2, j2]
        · rw [← g.1, j2]
      have hj : j = p := by
        have := j3 p (mem_goings.mpr (.inr ⟨rfl, hpl⟩)) hw
        have := goings_lt hp j1
        omega
      subst hj
      refine .inr ?_
      rw [if_neg (by omega), Int.toNat_natCast, if_pos hw]
      omega
theorem firm_of {w : List α} (hd : OneNext w) : Is .firm w := fun r hr => by
  rcases firm_run hd (r := r) (s := 0) (Nat.zero_le _) (.inr rfl) hr with h | h
  · exact h
  · exact h
theorem firm_left {w : List α} : ∀ r : List α, sees .firm w (-1) r = -1
  | [] => rfl
  | x :: r => by
    rw [sees_cons]
    have e : seenB .firm w (-1) x = -1 := by
      show (if (-1 : Int) = -1 ∨ (-1 : Int) = w.length then (-1 : Int) else if w[(-1 : Int).toNat]? = some x then (-1 : Int) + 1 else -1) = -1
      rw [if_pos (.inl rfl)]
    rw [e]
    exact firm_left r
theorem firm_take {w : List α} : ∀ {m p : Nat}, p + m < w.length → sees .firm w p ((w.drop p).take m) = (p + m : Nat)
  | 0, p, _ => by
    rw [List.take_zero]
    rfl
  | m + 1, p, h => by
    have hp : p < w.length := by omega
    rw [List.drop_eq_getElem_cons hp, List.take_succ_cons, sees_cons]
    have e : seenB .firm w p w[p] = (p + 1 : Nat) := by
      show (if (p : Int) = -1 ∨ (p : Int) = w.length then (p : Int) else if w[(p : Int).toNat]? = some w[p] then (p : Int) + 1 else -1) = _
      rw [if_neg (by omega), Int.toNat_natCast, if_pos (List.getElem?_eq_getElem hp)]
      rfl
    rw [e, firm_take (by omega)]
    congr 1
    omega
theorem firm_next {w : List α} (h : Is .firm w) : OneNext w := fun i j h1 h2 h3 h4 => by
  refine Decidable.byContradiction fun hne => ?_
  have hw : Wound w (w.take i ++ w.drop j) := by
    unfold Wound
    have e : run w 0 (w.take i) = some i := by
      have := run_take (w := w) (m := i) (p := 0) (by omega)
      rw [List.drop_zero, Nat.zero_add] at this
      exact this
    rw [run_app, e]
    exact run_drop (m := w.length - j) (by omega) (by omega) (by omega) (.inr ⟨h1, h4⟩)
  have hs := h _ hw
  rw [sees_app] at hs
  have e : sees .firm w 0 (w.take i) = (i : Nat) := by
    have := firm_take (w := w) (m := i) (p := 0) (by omega)
    rw [List.drop_zero, Nat.zero_add] at this
    exact this
  have hj : j < w.length := by omega
  rw [e, List.drop_eq_getElem_cons hj, sees_cons] at hs
  have e2 : seenB .firm w (i : Nat) w[j] = -1 := by
    show (if (i : Int) = -1 ∨ (i : Int) = w.length then (i : Int) else if w[(i : Int).toNat]? = some w[j] then (i : Int) + 1 else -1) = _
    rw [if_neg (by omega), Int.toNat_natCast, if_neg]
    rw [← List.getElem?_eq_getElem hj]
    exact fun z => hne z.symm
  rw [e2, firm_left] at hs
  omega

/-! ### late: each name, but the first place's, has one name ahead -/
def OneLast (w : List α) : Prop := ∀ i q, 1 ≤ i → i < q → q < w.length → w[q]? = w[i]? → w[q - 1]? = w[i - 1]?
theorem last_far {w : List α} (hd : OneLast w) {i q : Nat} (hq : q < w.length) (hiq : i < q) (h : w[q]? = w[i]?) : ∀ {t : Nat}, t ≤ i → w[q - t]? = w[i - t]?
  | 0, _ => h
  | t + 1, ht => by
    have ih := last_far hd hq hiq h (t := t) (by omega)
    have := hd (i - t) (q - t) (by omega) (by omega) (by omega) ih
    rw [show q - (t + 1) = q - t - 1 by omega, show i - (t + 1) = i - t - 1 by omega]
    exact this
/-- the word's first p names stand at the end of its first s -/
def Ends (w : List α) (p s : Nat) : Prop := p ≤ s ∧ s ≤ w.length ∧ ∀ i, i < p → w[s - p + i]? = w[i]?
theorem stretch_at {w : List α} {s : Nat} {x : α} (hs : s ≤ w.length) (i : Nat) : (w.take s ++ [x])[i]? = if i < s then w[i]? else if i = s then some x else none := by
  by_cases h : i < s
  · rw [if_pos h, List.getElem?_append_left (by rw [List.length_take]; omega), List.getElem?_take_of_lt h]
  · rw [if_neg h, List.getElem?_append_right (by rw [List.length_take]; omega), List.length_take, Nat.min_eq_left hs]
    by_cases e : i = s
    · rw [if_pos e, e, Nat.sub_self]
      rfl
    · rw [if_neg e]
      rw [List.getElem?_eq_none]
      simp
      omega
theorem cut_eq {w : List α} {s z : Nat} {x : α} (hs : s ≤ w.length) (hz : z ≤ w.length) (hz2 : z ≤ s + 1) : (w.take s ++ [x]).drop (s + 1 - z) = w.take z ↔ ∀ i, i < z → (w.take s ++ [x])[s + 1 - z + i]? = w[i]? := by
  constructor
  · intro h i hi
    have := congrArg (fun l => l[i]?) h
    simp only [List.getElem?_drop, List.getElem?_take_of_lt hi] at this
    exact this
  · intro h
    apply List.ext_getElem?
    intro i
    rw [List.getElem?_drop]
    by_cases hi : i < z
    · rw [h i hi, List.getElem?_take_of_lt hi]
    · rw [stretch_at hs, if_neg (by omega), if_neg (by omega), List.getElem?_eq_none]
      rw [List.length_take]
      omega
theorem late_step {w : List α} (hd : OneLast w) {p s q : Nat} {x : α} (hp : p ≤ w.length) (h : Ends w p s) (hq : get (onw w p) x = some q) : Ends w q (seenL w s x) := by
  obtain ⟨h1, h2, h3⟩ := h
  obtain ⟨j, j1, j2, _, rfl⟩ := onw_get hq
  have jl := goings_lt hp j1
  have key : ∀ i, i < j + 1 → (w.take s ++ [x])[s + 1 - (j + 1) + i]? = w[i]? := by
    intro i hi
    rw [stretch_at h2]
    by_cases e : i = j
    · subst e
      rw [if_neg (by omega), if_pos (by omega), j2]
    · rw [if_pos (by omega)]
      have e1 : s + 1 - (j + 1) + i = s - p + (p - j + i) := by omega
      rw [e1, h3 (p - j + i) (by omega)]
      rcases mem_goings.mp j1 with g | g
      · have := last_far hd (i := j - 1) (q := p - 1) (by omega) (by omega) g.2.2.symm (t := j - 1 - i) (by omega)
        rw [show p - 1 - (j - 1 - i) = p - j + i by omega, show j - 1 - (j - 1 - i) = i by omega] at this
        exact this
      · rw [g.1, Nat.sub_self, Nat.zero_add]
  have hge : j + 1 ≤ seenL w s x := seenL_ge (by omega) (by omega) ((cut_eq h2 (by omega) (by omega)).mpr key)
  obtain ⟨b1, b2, b3⟩ := seenL_in (w := w) (s := s) (x := x) h2
  refine ⟨hge, b1, fun i hi => ?_⟩
  have b4 := (cut_eq h2 b1 b2).mp b3
  rw [← b4 (seenL w s x - (j + 1) + i) (by omega)]
  rw [show s + 1 - seenL w s x + (seenL w s x - (j + 1) + i) = s + 1 - (j + 1) + i by omega]
  exact key i hi
theorem late_run {w : List α} (hd : OneLast w) : ∀ {r : List α} {p z : Nat} {s : Nat}, p ≤ w.length → Ends w p s → run w p r = some z → ∃ t : Nat, sees .late w s r = t ∧ Ends w z t
  | [], p, z, s, _, h, hr => by
    cases hr
    exact ⟨s, rfl, h⟩
  | x :: r, p, z, s, hp, h, hr => by
    obtain ⟨q, h1, h2⟩ := run_cons_some hr
    exact late_run hd (r := r) (onw_le hp h1).2.1 (late_step hd hp h h1) h2
theorem late_of {w : List α} (hd : OneLast w) : Is .late w := fun r hr => by
  obtain ⟨t, h1, h2⟩ := late_run hd (r := r) (s := 0) (Nat.zero_le _) ⟨Nat.le_refl _, Nat.zero_le _, fun _ h => absurd h (Nat.not_lt_zero _)⟩ hr
  have h3 : sees .late w 0 r = t := h1
  rw [h3]
  have := h2.1
  have := h2.2.1
  omega
/-- what late sees is there -/
theorem late_true {w : List α} : ∀ {r r0 : List α} {s : Nat}, s ≤ w.length → s ≤ r0.length → r0.drop (r0.length - s) = w.take s →
    ∃ t : Nat, sees .late w s r = t ∧ t ≤ w.length ∧ t ≤ (r0 ++ r).length ∧ (r0 ++ r).drop ((r0 ++ r).length - t) = w.take t
  | [], r0, s, h1, h2, h3 => by
    rw [List.append_nil]
    exact ⟨s, rfl, h1, h2, h3⟩
  | x :: r, r0, s, h1, h2, h3 => by
    obtain ⟨b1, b2, b3⟩ := seenL_in (w := w) (s := s) (x := x) h1
    have e : r0 ++ x :: r = (r0 ++ [x]) ++ r := by simp
    rw [e]
    refine late_true (r := r) (r0 := r0 ++ [x]) (s := seenL w s x) b1 (by rw [List.length_append, List.length_singleton]; omega) ?_
    rw [← b3, ← h3, List.length_append, List.length_singleton]
    rw [List.drop_append, List.drop_append]
    rw [List.drop_drop, List.length_drop]
    congr 1
    · congr 1
      omega
    · congr 1
      omega
theorem late_last {w : List α} (h : Is .late w) : OneLast w := fun i q h1 h2 h3 h4 => by
  have hw : Wound w (w.take (q + 1) ++ w.drop (i + 1)) := by
    unfold Wound
    have e : run w 0 (w.take (q + 1)) = some (q + 1) := by
      have := run_take (w := w) (m := q + 1) (p := 0) (by omega)
      rw [List.drop_zero, Nat.zero_add] at this
      exact this
    rw [run_app, e]
    refine run_drop (m := w.length - (i + 1)) (by omega) (by omega) (by omega) (.inr ⟨by omega, ?_⟩)
    rw [Nat.add_sub_cancel, Nat.add_sub_cancel, h4]
  have hs := h _ hw
  obtain ⟨t, t1, _, t3, t4⟩ := late_true (w := w) (r := w.take (q + 1) ++ w.drop (i + 1)) (r0 := []) (s := 0) (Nat.zero_le _) (Nat.zero_le _) (by simp)
  have e0 : sees .late w 0 (w.take (q + 1) ++ w.drop (i + 1)) = t := t1
  rw [hs] at e0
  have et : t = w.length := by omega
  subst et
  rw [List.nil_append, List.take_length] at t4
  have hl : (w.take (q + 1) ++ w.drop (i + 1)).length = w.length + (q - i) := by
    rw [List.length_append, List.length_take, List.length_drop]
    omega
  have := congrArg (fun l => l[i - 1]?) t4
  simp only [List.getElem?_drop, hl] at this
  rw [show w.length + (q - i) - w.length + (i - 1) = q - 1 by omega, List.getElem?_append_left (by rw [List.length_take]; omega), List.getElem?_take_of_lt (by omega)] at this
  exact this

/-! ### stretches -/
theorem cut_at {w : List α} {a m i : Nat} (h : i < ((w.drop a).take m).length) : ((w.drop a).take m)[i]? = w[a + i]? := by
  have h2 : i < m := by
    rw [List.length_take] at h
    omega
  rw [List.getElem?_take_of_lt h2, List.getElem?_drop]
theorem next_cut {w : List α} (h : OneNext w) (a m : Nat) : OneNext ((w.drop a).take m) := fun i j h1 h2 h3 h4 => by
  have hl : a + ((w.drop a).take m).length ≤ w.length ∨ ((w.drop a).take m).length = 0 := by
    rw [List.length_take, List.length_drop]
    omega
  rw [cut_at (by omega), cut_at (by omega)] at h4
  rw [cut_at (by omega), cut_at (by omega)]
  refine h (a + i) (a + j) (by omega) (by omega) (by omega) ?_
  rw [show a + j - 1 = a + (j - 1) by omega, show a + i - 1 = a + (i - 1) by omega]
  exact h4
theorem last_cut {w : List α} (h : OneLast w) (a m : Nat) : OneLast ((w.drop a).take m) := fun i q h1 h2 h3 h4 => by
  have hl : a + ((w.drop a).take m).length ≤ w.length ∨ ((w.drop a).take m).length = 0 := by
    rw [List.length_take, List.length_drop]
    omega
  rw [cut_at (by omega), cut_at (by omega)] at h4
  rw [cut_at (by omega), cut_at (by omega)]
  have := h (a + i) (a + q) (by omega) (by omega) (by omega) h4
  rw [show a + (q - 1) = a + q - 1 by omega, show a + (i - 1) = a + i - 1 by omega]
  exact this
theorem firm_cut {w : List α} (h : Is .firm w) (a m : Nat) : Is .firm ((w.drop a).take m) := firm_of (next_cut (firm_next h) a m)
theorem late_cut {w : List α} (h : Is .late w) (a m : Nat) : Is .late ((w.drop a).take m) := late_of (last_cut (late_last h) a m)

/-! ### a word without a name twice -/
theorem nodup_next {w : List α} (h : w.Nodup) : OneNext w := fun i j h1 h2 h3 h4 => by
  have e1 : j - 1 < w.length := by omega
  have e2 : i - 1 < w.length := by omega
  rw [List.getElem?_eq_getElem e1, List.getElem?_eq_getElem e2] at h4
  have := (List.getElem_inj h).mp (Option.some.inj h4)
  omega
theorem nodup_last {w : List α} (h : w.Nodup) : OneLast w := fun i q h1 h2 h3 h4 => by
  have e1 : q < w.length := by omega
  have e2 : i < w.length := by omega
  rw [List.getElem?_eq_getElem e1, List.getElem?_eq_getElem e2] at h4
  have := (List.getElem_inj h).mp (Option.some.inj h4)
  omega
theorem nodup_all {w : List α} (h : w.Nodup) (k : Kd) : Is k w := by
  cases k with
  | firm => exact firm_of (nodup_next h)
  | late => exact late_of (nodup_last h)
  | steady => exact firm_steady (firm_of (nodup_next h))
end
end WW
end
section
set_option autoImplicit false
/-! Other names; counts; the search by levels. -/
namespace WW
section
variable {α : Type} [DecidableEq α]

/-! ### other names -/
def InjOn (f : α → α) (w : List α) : Prop := ∀ x ∈ w, ∀ y ∈ w, f x = f y → x = y
def ren (f : α → α) (kvs : List (α × Nat)) : List (α × Nat) := kvs.map fun kv => (f kv.1, kv.2)
theorem opt_eq {f : α → α} {w : List α} (hf : InjOn f w) (i j : Nat) : ((w.map f)[i]? = (w.map f)[j]?) ↔ w[i]? = w[j]? := by
  rw [List.getElem?_map, List.getElem?_map]
  cases hi : w[i]? with
  | none => cases hj : w[j]? <;> simp
  | some x =>
    cases hj : w[j]? with
    | none => simp
    | some y =>
      simp only [Option.map_some, Option.some.injEq]
      exact ⟨fun e => hf x (List.mem_of_getElem? hi) y (List.mem_of_getElem? hj) e, fun e => by rw [e]⟩
theorem backs_ren {f : α → α} {w : List α} (hf : InjOn f w) (p : Nat) : backs (w.map f) p = backs w p := by
  unfold backs
  apply List.filter_congr
  intro j _
  by_cases h : w[j - 1]? = w[p - 1]?
  · rw [decide_eq_true h, decide_eq_true ((opt_eq hf _ _).mpr h)]
  · rw [decide_eq_false h, decide_eq_false (fun z => h ((opt_eq hf _ _).mp z))]
theorem goings_ren {f : α → α} {w : List α} (hf : InjOn f w) (p : Nat) : goings (w.map f) p = goings w p := by
  unfold goings
  rw [backs_ren hf, List.length_map]
theorem put_ren {f : α → α} {w : List α} (hf : InjOn f w) {x : α} (hx : x ∈ w) (q : Nat) : ∀ {kvs : List (α × Nat)}, (∀ kv ∈ kvs, kv.1 ∈ w) → put (ren f kvs) (f x) q = ren f (put kvs x q) := by
  intro kvs hk
  have e : ∀ kv ∈ kvs, (f kv.1 = f x ↔ kv.1 = x) := fun kv h => ⟨fun z => hf _ (hk kv h) _ hx z, fun z => by rw [z]⟩
  have ea : ((ren f kvs).any fun kv => decide (kv.1 = f x)) = kvs.any fun kv => decide (kv.1 = x) := by
    unfold ren
    rw [List.any_map, Bool.eq_iff_iff, List.any_eq_true, List.any_eq_true]
    constructor
    · rintro ⟨kv, h1, h2⟩
      have h2' : f kv.1 = f x := by simpa using h2
      exact ⟨kv, h1, decide_eq_true ((e kv h1).mp h2')⟩
    · rintro ⟨kv, h1, h2⟩
      have h2' : kv.1 = x := by simpa using h2
      exact ⟨kv, h1, by simpa using (e kv h1).mpr h2'⟩
  unfold put
  rw [ea]
  split
  · unfold ren
    rw [List.map_map, List.map_map]
    apply List.map_congr_left
    intro kv h
    by_cases z : kv.1 = x
    · simp [z]
    · have z' : ¬ f kv.1 = f x := fun q => z ((e kv h).mp q)
      simp [z, z']
  · unfold ren
    rw [List.map_append]
    rfl
theorem put_in {w : List α} {kvs : List (α × Nat)} {x : α} {q : Nat} (hk : ∀ kv ∈ kvs, kv.1 ∈ w) (hx : x ∈ w) : ∀ kv ∈ put kvs x q, kv.1 ∈ w := by
  intro kv h
  unfold put at h
  split at h
  · obtain ⟨kv0, h1, h2⟩ := List.mem_map.mp h
    rw [← h2]
    by_cases z : kv0.1 = x
    · rw [if_pos z]
      exact hk kv0 h1
    · rw [if_neg z]
      exact hk kv0 h1
  · rcases List.mem_append.mp h with h | h
    · exact hk _ h
    · have : kv = (x, q) := by simpa using h
      rw [this]
      exact hx
theorem onwOf_in {w : List α} : ∀ {js : List Nat} {acc : List (α × Nat)}, (∀ kv ∈ acc, kv.1 ∈ w) → ∀ kv ∈ onwOf w js acc, kv.1 ∈ w
  | [], _, h => h
  | j :: js, acc, h => by
    refine onwOf_in (js := js) (acc := match w[j]? with | some x => put acc x (j + 1) | none => acc) ?_
    cases hw : w[j]? with
    | none => exact h
    | some x => exact put_in h (List.mem_of_getElem? hw)
theorem onw_in {w : List α} {p : Nat} : ∀ kv ∈ onw w p, kv.1 ∈ w := onwOf_in fun _ h => (nomatch h)
theorem onwOf_ren {f : α → α} {w : List α} (hf : InjOn f w) : ∀ {js : List Nat} {acc : List (α × Nat)}, (∀ kv ∈ acc, kv.1 ∈ w) → onwOf (w.map f) js (ren f acc) = ren f (onwOf w js acc)
  | [], _, _ => rfl
  | j :: js, acc, h => by
    show onwOf (w.map f) js (match (w.map f)[j]? with | some x => put (ren f acc) x (j + 1) | none => ren f acc) = ren f (onwOf w js (match w[j]? with | some x => put acc x (j + 1) | none => acc))
    rw [List.getElem?_map]
    cases hw : w[j]? with
    | none => exact onwOf_ren hf h
    | some x =>
      show onwOf (w.map f) js (put (ren f acc) (f x) (j + 1)) = ren f (onwOf w js (put acc x (j + 1)))
      rw [put_ren hf (List.mem_of_getElem? hw) _ h]
      exact onwOf_ren hf (put_in h (List.mem_of_getElem? hw))
theorem onw_ren {f : α → α} {w : List α} (hf : InjOn f w) (p : Nat) : onw (w.map f) p = ren f (onw w p) := by
  unfold onw
  rw [goings_ren hf]
  exact onwOf_ren hf (acc := []) fun _ h => (nomatch h)
theorem get_ren {f : α → α} {w : List α} (hf : InjOn f w) {x : α} (hx : x ∈ w) : ∀ {kvs : List (α × Nat)}, (∀ kv ∈ kvs, kv.1 ∈ w) → get (ren f kvs) (f x) = get kvs x
  | [], _ => rfl
  | (a, q) :: r, h => by
    show get ((f a, q) :: ren f r) (f x) = _
    rw [get_cons, get_cons, get_ren hf hx fun kv hk => h kv (List.mem_cons_of_mem _ hk)]
    have ha := h (a, q) List.mem_cons_self
    by_cases e : a = x
    · rw [if_pos e, if_pos (by rw [e])]
    · rw [if_neg e, if_neg fun z => e (hf a ha x hx z)]
theorem get_key {kvs : List (α × Nat)} {x : α} {q : Nat} (h : get kvs x = some q) : ∃ kv ∈ kvs, kv.1 = x := by
  unfold get at h
  cases e : kvs.find? fun kv => decide (kv.1 = x) with
  | none => rw [e] at h; cases h
  | some kv =>
    have h2 := List.find?_some (p := fun kv : α × Nat => decide (kv.1 = x)) e
    exact ⟨kv, List.mem_of_find?_eq_some e, of_decide_eq_true h2⟩
theorem run_in {w : List α} : ∀ {r : List α} {p z : Nat}, run w p r = some z → ∀ x ∈ r, x ∈ w
  | [], _, _, _ => fun _ h => (nomatch h)
  | y :: r, p, z, h => by
    obtain ⟨q, h1, h2⟩ := run_cons_some h
    intro x hx
    rcases List.mem_cons.mp hx with e | e
    · obtain ⟨kv, k1, k2⟩ := get_key h1
      rw [e, ← k2]
      exact onw_in kv k1
    · exact run_in h2 x e
theorem run_ren {f : α → α} {w : List α} (hf : InjOn f w) : ∀ {r : List α} {p : Nat}, (∀ x ∈ r, x ∈ w) → run (w.map f) p (r.map f) = run w p r
  | [], _, _ => rfl
  | x :: r, p, h => by
    show (match get (onw (w.map f) p) (f x) with | none => none | some q => run (w.map f) q (r.map f)) = (match get (onw w p) x with | none => none | some q => run w q r)
    rw [onw_ren hf, get_ren hf (h x List.mem_cons_self) onw_in]
    cases get (onw w p) x with
    | none => rfl
    | some q => exact run_ren hf fun y hy => h y (List.mem_cons_of_mem _ hy)
theorem run_back {f : α → α} {w : List α} (hf : InjOn f w) {r : List α} {p z : Nat} (h : run (w.map f) p r = some z) : ∃ r0, r = r0.map f ∧ (∀ x ∈ r0, x ∈ w) ∧ run w p r0 = some z := by
  have h1 := run_in h
  obtain ⟨r0, e, h2⟩ : ∃ r0 : List α, r = r0.map f ∧ ∀ x ∈ r0, x ∈ w := by
    clear h
    induction r with
    | nil => exact ⟨[], rfl, fun _ h => (nomatch h)⟩
    | cons x r ih =>
      obtain ⟨r0, e, h2⟩ := ih fun y hy => h1 y (List.mem_cons_of_mem _ hy)
      obtain ⟨y, y1, y2⟩ := List.mem_map.mp (h1 x List.mem_cons_self)
      refine ⟨y :: r0, by rw [List.map_cons, y2, e], fun t ht => ?_⟩
      rcases List.mem_cons.mp ht with z | z
      · rw [z]
        exact y1
      · exact h2 t z
  refine ⟨r0, e, h2, ?_⟩
  rw [e, run_ren hf h2] at h
  exact h
theorem list_ren {f : α → α} {w : List α} (hf : InjOn f w) : ∀ {a b : List α}, (∀ x ∈ a, x ∈ w) → (∀ x ∈ b, x ∈ w) → (a.map f = b.map f ↔ a = b)
  | [], [], _, _ => by simp
  | [], _ :: _, _, _ => by simp
  | _ :: _, [], _, _ => by simp
  | x :: a, y :: b, ha, hb => by
    rw [List.map_cons, List.map_cons, List.cons.injEq, List.cons.injEq, list_ren hf (fun z hz => ha z (List.mem_cons_of_mem _ hz)) fun z hz => hb z (List.mem_cons_of_mem _ hz)]
    constructor
    · rintro ⟨h1, h2⟩
      exact ⟨hf _ (ha x List.mem_cons_self) _ (hb y List.mem_cons_self) h1, h2⟩
    · rintro ⟨h1, h2⟩
      exact ⟨by rw [h1], h2⟩
theorem sizes_ren {f : α → α} {w : List α} (hf : InjOn f w) (s : Nat) {x : α} (hx : x ∈ w) : sizes (w.map f) s (f x) = sizes w s x := by
  unfold sizes
  rw [List.length_map]
  apply List.filter_congr
  intro z _
  have e1 : ((w.map f).take s ++ [f x]).drop (s + 1 - z) = ((w.take s ++ [x]).drop (s + 1 - z)).map f := by
    rw [List.map_drop, List.map_append, List.map_take]
    rfl
  have e2 : (w.map f).take z = (w.take z).map f := by rw [List.map_take]
  rw [e1, e2]
  have e3 := list_ren hf (a := (w.take s ++ [x]).drop (s + 1 - z)) (b := w.take z) (fun y hy => by
    rcases List.mem_append.mp (List.mem_of_mem_drop hy) with h | h
    · exact List.mem_of_mem_take h
    · rw [List.mem_singleton.mp h]
      exact hx) fun y hy => List.mem_of_mem_take hy
  by_cases h : (w.take s ++ [x]).drop (s + 1 - z) = w.take z
  · rw [decide_eq_true h, decide_eq_true (e3.mpr h)]
  · rw [decide_eq_false h, decide_eq_false fun q => h (e3.mp q)]
theorem seenB_ren {f : α → α} {w : List α} (hf : InjOn f w) (k : Kd) (s : Int) {x : α} (hx : x ∈ w) : seenB k (w.map f) s (f x) = seenB k w s x := by
  cases k with
  | firm =>
    show (if s = -1 ∨ s = (w.map f).length then s else if (w.map f)[s.toNat]? = some (f x) then s + 1 else -1) = (if s = -1 ∨ s = w.length then s else if w[s.toNat]? = some x then s + 1 else -1)
    rw [List.length_map]
    have e : ((w.map f)[s.toNat]? = some (f x)) ↔ w[s.toNat]? = some x := by
      rw [List.getElem?_map]
      cases hw : w[s.toNat]? with
      | none => simp
      | some y =>
        simp only [Option.map_some, Option.some.injEq]
        exact ⟨fun z => hf y (List.mem_of_getElem? hw) x hx z, fun z => by rw [z]⟩
    by_cases h : w[s.toNat]? = some x
    · rw [if_pos (e.mpr h), if_pos h]
    · rw [if_neg (fun z => h (e.mp z)), if_neg h]
  | late =>
    show ((greatest (sizes (w.map f) s.toNat (f x)) : Nat) : Int) = (greatest (sizes w s.toNat x) : Nat)
    rw [sizes_ren hf _ hx]
  | steady =>
    show (if s = (w.map f).length then s else ((greatest (sizes (w.map f) s.toNat (f x)) : Nat) : Int)) = (if s = w.length then s else (greatest (sizes w s.toNat x) : Nat))
    rw [sizes_ren hf _ hx, List.length_map]
theorem sees_ren {f : α → α} {w : List α} (hf : InjOn f w) (k : Kd) : ∀ {r : List α} {s : Int}, (∀ x ∈ r, x ∈ w) → sees k (w.map f) s (r.map f) = sees k w s r
  | [], _, _ => rfl
  | x :: r, s, h => by
    rw [List.map_cons, sees_cons, sees_cons, seenB_ren hf k s (h x List.mem_cons_self)]
    exact sees_ren hf k fun y hy => h y (List.mem_cons_of_mem _ hy)
theorem wound_ren {f : α → α} {w r : List α} (hf : InjOn f w) (h : Wound w r) : Wound (w.map f) (r.map f) := by
  unfold Wound
  rw [run_ren hf (run_in h), List.length_map]
  exact h
theorem lacks_ren {f : α → α} {w r : List α} {k : Kd} (hf : InjOn f w) (h : Lacks k w r) : Lacks k (w.map f) (r.map f) := by
  refine ⟨wound_ren hf h.1, ?_⟩
  rw [sees_ren hf k (run_in h.1), List.length_map]
  exact h.2
theorem lacks_back {f : α → α} {w r : List α} {k : Kd} (hf : InjOn f w) (h : Lacks k (w.map f) r) : ∃ r0, Lacks k w r0 ∧ r0.length = r.length := by
  have h1 : run (w.map f) 0 r = some (w.map f).length := h.1
  obtain ⟨r0, e, h2, h3⟩ := run_back hf h1
  refine ⟨r0, ⟨?_, ?_⟩, by rw [e, List.length_map]⟩
  · unfold Wound
    rw [h3, List.length_map]
  · have h4 := h.2
    rw [e, sees_ren hf k h2, List.length_map] at h4
    exact h4
theorem is_lacks {k : Kd} {w : List α} : Is k w ↔ ∀ r, ¬ Lacks k w r :=
  ⟨fun h r l => l.2 (h r l.1), fun h r hr => Decidable.byContradiction fun z => h r ⟨hr, z⟩⟩
theorem is_ren {f : α → α} {w : List α} {k : Kd} (hf : InjOn f w) : Is k (w.map f) ↔ Is k w := by
  rw [is_lacks, is_lacks]
  constructor
  · exact fun h r l => h _ (lacks_ren hf l)
  · intro h r l
    obtain ⟨r0, l0, _⟩ := lacks_back hf l
    exact h r0 l0
/-- a shortest lacking row -/
def Short (k : Kd) (w r : List α) : Prop := Lacks k w r ∧ ∀ t, Lacks k w t → r.length ≤ t.length
theorem short_ren {f : α → α} {w r t : List α} {k : Kd} (hf : InjOn f w) (h : Short k w r) (h2 : Short k (w.map f) t) : r.length = t.length := by
  obtain ⟨r0, l0, e0⟩ := lacks_back hf h2.1
  have a := h.2 r0 l0
  have b := h2.2 _ (lacks_ren hf h.1)
  rw [List.length_map] at b
  omega
theorem short_not {k : Kd} {w r : List α} (h : Short k w r) : ¬ Is k w := fun z => is_lacks.mp z r h.1

/-! ### counts -/
def ways (w : List α) : List (List (α × Nat)) := (List.range (w.length + 1)).map fun p => onw w p
def cnt0 (w : List α) : List Int := List.replicate w.length 0 ++ [1]
def cntS (w : List α) (row : List Int) : List Int := (ways w).map fun led => (led.map fun kv => row.getD kv.2 0).sum
def cnts (w : List α) : Nat → List Int
  | 0 => cnt0 w
  | m + 1 => cntS w (cnts w m)
theorem cntS_ren {f : α → α} {w : List α} (hf : InjOn f w) (row : List Int) : cntS (w.map f) row = cntS w row := by
  unfold cntS ways
  rw [List.map_map, List.map_map, List.length_map]
  apply List.map_congr_left
  intro p _
  show ((onw (w.map f) p).map fun kv => row.getD kv.2 0).sum = ((onw w p).map fun kv => row.getD kv.2 0).sum
  rw [onw_ren hf]
  unfold ren
  rw [List.map_map]
  rfl
theorem cnts_ren {f : α → α} {w : List α} (hf : InjOn f w) : ∀ m, cnts (w.map f) m = cnts w m
  | 0 => by
    show List.replicate (w.map f).length 0 ++ [1] = List.replicate w.length (0 : Int) ++ [1]
    rw [List.length_map]
  | m + 1 => by
    show cntS (w.map f) (cnts (w.map f) m) = cntS w (cnts w m)
    rw [cnts_ren hf m, cntS_ren hf]
theorem cnts_length (w : List α) : ∀ m, (cnts w m).length = w.length + 1
  | 0 => by
    show (List.replicate w.length (0 : Int) ++ [1]).length = _
    rw [List.length_append, List.length_replicate]
    rfl
  | m + 1 => by
    show (cntS w (cnts w m)).length = _
    unfold cntS ways
    rw [List.length_map, List.length_map, List.length_range]
/-- how many wound rows of that size -/
def cw (w : List α) (m : Nat) : Int := (cnts w m).getD 0 0
theorem cw_ren {f : α → α} {w : List α} (hf : InjOn f w) (m : Nat) : cw (w.map f) m = cw w m := by
  unfold cw
  rw [cnts_ren hf]

/-! ### the search by levels -/
abbrev Pr := Nat × Int
def box (n : Nat) : List Pr := (List.range (n + 1)).flatMap fun p => (List.range (n + 2)).map fun (s : Nat) => (p, (s : Int) - 1)
theorem mem_box {n p : Nat} {s : Int} (hp : p ≤ n) (h1 : -1 ≤ s) (h2 : s ≤ n) : (p, s) ∈ box n := by
  unfold box
  rw [List.mem_flatMap]
  refine ⟨p, by rw [List.mem_range]; omega, List.mem_map.mpr ⟨(s + 1).toNat, by rw [List.mem_range]; omega, ?_⟩⟩
  congr 1
  omega
theorem sn_box {k : Kd} {w : List α} {p : Nat} {s : Int} (hp : p ≤ w.length) (h : Sn k w s) : (p, s) ∈ box w.length := by
  refine mem_box hp ?_ h.1
  rcases h.2 with h | h <;> omega
theorem len_box (n : Nat) : (box n).length = (n + 1) * (n + 2) := by
  unfold box
  rw [List.length_flatMap]
  have : ((List.range (n + 1)).map fun p => ((List.range (n + 2)).map fun (s : Nat) => ((p, (s : Int) - 1) : Pr)).length) = List.replicate (n + 1) (n + 2) := by
    apply List.ext_getElem
    · simp
    · intro i h1 h2
      simp
  rw [this, List.sum_replicate_nat]
/-- how many pairs are not met -/
def left (n : Nat) (M : List Pr) : Nat := ((box n).filter fun m => !decide (m ∈ M)).length
theorem filter_lt {β : Type} {p q : β → Bool} : ∀ {l : List β} {y : β}, (∀ x ∈ l, q x = true → p x = true) → y ∈ l → p y = true → q y = false → (l.filter q).length < (l.filter p).length
  | a :: l, y, h, hy, h1, h2 => by
    have hle : ∀ {l : List β}, (∀ x ∈ l, q x = true → p x = true) → (l.filter q).length ≤ (l.filter p).length := by
      intro l
      induction l with
      | nil => intro _; exact Nat.le_refl _
      | cons b l ih =>
        intro h
        have ih := ih fun x hx => h x (List.mem_cons_of_mem _ hx)
        rw [List.filter_cons, List.filter_cons]
        by_cases hq : q b = true
        · rw [if_pos hq, if_pos (h b List.mem_cons_self hq)]
          exact Nat.succ_le_succ ih
        · rw [if_neg hq]
          split
          · exact Nat.le_succ_of_le ih
          · exact ih
    rw [List.filter_cons, List.filter_cons]
    have hr := hle (l := l) fun x hx => h x (List.mem_cons_of_mem _ hx)
    rcases List.mem_cons.mp hy with e | e
    · subst e
      rw [if_pos h1, if_neg (by rw [h2]; exact Bool.false_ne_true)]
      exact Nat.lt_succ_of_le hr
    · have ih := filter_lt (l := l) (fun x hx => h x (List.mem_cons_of_mem _ hx)) e h1 h2
      by_cases hq : q a = true
      · rw [if_pos hq, if_pos (h a List.mem_cons_self hq)]
        exact Nat.succ_lt_succ ih
      · rw [if_neg hq]
        split
        · exact Nat.lt_succ_of_lt ih
        · exact ih
theorem left_lt {n : Nat} {M M' : List Pr} {y : Pr} (h : ∀ m ∈ M, m ∈ M') (h1 : y ∈ box n) (h2 : y ∉ M) (h3 : y ∈ M') : left n M' < left n M := by
  unfold left
  refine filter_lt (y := y) (fun x _ hx => ?_) h1 (by simp [h2]) (by simp [h3])
  have hx' : x ∉ M' := by simpa using hx
  have : x ∉ M := fun z => hx' (h x z)
  simp [this]
theorem left_le (n : Nat) (M : List Pr) : left n M ≤ (box n).length := List.length_filter_le _ _
theorem nodup_len {β : Type} [DecidableEq β] : ∀ {l m : List β}, l.Nodup → (∀ x ∈ l, x ∈ m) → l.length ≤ m.length
  | [], m, _, _ => Nat.zero_le _
  | a :: l, m, hn, h => by
    rw [List.nodup_cons] at hn
    have ha := h a List.mem_cons_self
    have ih := nodup_len (l := l) (m := m.erase a) hn.2 fun x hx => (List.mem_erase_of_ne (fun (e : x = a) => hn.1 (by rw [← e]; exact hx))).mpr (h x (List.mem_cons_of_mem _ hx))
    rw [List.length_erase_of_mem ha] at ih
    have := List.length_pos_of_mem ha
    rw [List.length_cons]
    omega

abbrev El (α : Type) := Pr × List α
abbrev St2 (α : Type) := List Pr × List (El α)
/-- one name gone -/
def inn (k : Kd) (w : List α) (e : El α) (st : St2 α) (xq : α × Nat) : St2 α :=
  if (xq.2, seenB k w e.1.2 xq.1) ∈ st.1 then st else (st.1 ++ [(xq.2, seenB k w e.1.2 xq.1)], st.2 ++ [((xq.2, seenB k w e.1.2 xq.1), e.2 ++ [xq.1])])
/-- one pair of a level -/
def lev (k : Kd) (w : List α) (srt : List (α × Nat) → List (α × Nat)) (st : St2 α) (e : El α) : St2 α := (srt (onw w e.1.1)).foldl (inn k w e) st
def Bad (w : List α) (m : Pr) : Prop := m.1 = w.length ∧ m.2 ≠ w.length
def Shut (k : Kd) (w : List α) (M : List Pr) (m : Pr) : Prop := ¬ Bad w m ∧ ∀ x q, get (onw w m.1) x = some q → (q, seenB k w m.2 x) ∈ M
structure Rw (k : Kd) (w : List α) (d : Nat) (e : El α) : Prop where
  len : e.2.length = d
  goes : run w 0 e.2 = some e.1.1
  sees : sees k w 0 e.2 = e.1.2
theorem Rw.le {k : Kd} {w : List α} {d : Nat} {e : El α} (h : Rw k w d e) : e.1.1 ≤ w.length := run_le (Nat.zero_le _) h.goes
theorem Rw.sn {k : Kd} {w : List α} {d : Nat} {e : El α} (h : Rw k w d e) : Sn k w e.1.2 := by
  rw [← h.sees]
  exact sees_in (sn_zero k w)
theorem Rw.more {k : Kd} {w : List α} {d : Nat} {e : El α} (h : Rw k w d e) {x : α} {q : Nat} (hq : get (onw w e.1.1) x = some q) : Rw k w (d + 1) ((q, seenB k w e.1.2 x), e.2 ++ [x]) := by
  refine ⟨by rw [List.length_append, h.len]; rfl, run_snoc h.goes hq, ?_⟩
  rw [sees_app, h.sees]
  rfl
structure Bfs (k : Kd) (w : List α) (d : Nat) (M : List Pr) (L : List (El α)) : Prop where
  rows : ∀ e ∈ L, Rw k w d e
  inM : ∀ e ∈ L, e.1 ∈ M
  done : ∀ m ∈ M, (∃ e ∈ L, e.1 = m) ∨ Shut k w M m
  zero : (0, 0) ∈ M
  far : ∀ (r : List α) (p : Nat), run w 0 r = some p → r.length < d → ¬ Bad w (p, sees k w 0 r)
  near : ∀ (r : List α) (p : Nat), run w 0 r = some p → r.length ≤ d → (p, sees k w 0 r) ∈ M
  inbox : ∀ m ∈ M, m ∈ box w.length
  nodup : M.Nodup
  room : L = [] ∨ d + left w.length M ≤ (box w.length).length
theorem bfs_start (k : Kd) (w : List α) : Bfs k w 0 [(0, 0)] [((0, 0), [])] where
  rows := by
    intro e he
    have : e = ((0, 0), []) := by simpa using he
    subst this
    exact ⟨rfl, rfl, rfl⟩
  inM := by
    intro e he
    have : e = ((0, 0), []) := by simpa using he
    subst this
    exact List.mem_singleton.mpr rfl
  done := by
    intro m hm
    have : m = (0, 0) := by simpa using hm
    subst this
    exact .inl ⟨_, List.mem_singleton.mpr rfl, rfl⟩
  zero := List.mem_singleton.mpr rfl
  far := fun r p _ h => absurd h (Nat.not_lt_zero _)
  near := by
    intro r p h1 h2
    have : r = [] := List.eq_nil_of_length_eq_zero (Nat.le_zero.mp h2)
    subst this
    cases h1
    exact List.mem_singleton.mpr rfl
  inbox := by
    intro m hm
    have : m = (0, 0) := by simpa using hm
    subst this
    exact mem_box (Nat.zero_le _) (by omega) (Int.natCast_nonneg _)
  nodup := by simp
  room := .inr (by rw [Nat.zero_add]; exact left_le _ _)
theorem Bfs.short {k : Kd} {w : List α} {d : Nat} {M : List Pr} {L : List (El α)} (B : Bfs k w d M L) {e : El α} (he : e ∈ L) (hb : Bad w e.1) : Short k w e.2 := by
  have R := B.rows e he
  refine ⟨⟨?_, ?_⟩, fun t ht => ?_⟩
  · show run w 0 e.2 = _
    rw [R.goes, hb.1]
  · rw [R.sees]
    exact hb.2
  · rw [R.len]
    refine Nat.le_of_not_lt fun hlt => ?_
    exact B.far t w.length ht.1 hlt ⟨rfl, ht.2⟩
theorem Bfs.is {k : Kd} {w : List α} {d : Nat} {M : List Pr} (B : Bfs k w d M []) : Is k w := by
  have sh : ∀ m ∈ M, Shut k w M m := fun m hm => (B.done m hm).resolve_left (by rintro ⟨_, h, _⟩; cases h)
  have all : ∀ (r : List α) (m : Pr) (z : Nat), m ∈ M → run w m.1 r = some z → ((z, sees k w m.2 r) : Pr) ∈ M := by
    intro r
    induction r with
    | nil =>
      intro m z hm h
      cases h
      exact hm
    | cons x r ih =>
      intro m z hm h
      obtain ⟨q, h1, h2⟩ := run_cons_some h
      exact ih (q, seenB k w m.2 x) z ((sh m hm).2 x q h1) h2
  intro r hr
  have h := all r (0, 0) w.length B.zero hr
  have h2 := (sh _ h).1
  exact Decidable.byContradiction fun z => h2 ⟨rfl, z⟩

/-- within a level -/
structure Mid (k : Kd) (w : List α) (d : Nat) (M0 : List Pr) (st : St2 α) : Prop where
  eq : st.1 = M0 ++ st.2.map (·.1)
  rows : ∀ e ∈ st.2, Rw k w (d + 1) e
  nodup : st.1.Nodup
  inbox : ∀ m ∈ st.1, m ∈ box w.length
theorem Mid.start {k : Kd} {w : List α} {d : Nat} {M : List Pr} {L : List (El α)} (B : Bfs k w d M L) : Mid k w d M (M, []) :=
  ⟨by simp, fun _ h => (nomatch h), B.nodup, B.inbox⟩
theorem Mid.len {k : Kd} {w : List α} {d : Nat} {M0 : List Pr} {st : St2 α} (m : Mid k w d M0 st) : st.1.length ≤ (w.length + 1) * (w.length + 2) ∧ st.2.length ≤ st.1.length := by
  refine ⟨?_, ?_⟩
  · rw [← len_box]
    exact nodup_len m.nodup m.inbox
  · rw [m.eq, List.length_append, List.length_map]
    omega
theorem Mid.one {k : Kd} {w : List α} {d : Nat} {M0 : List Pr} {st : St2 α} (m : Mid k w d M0 st) {e : El α} (he : Rw k w d e) {x : α} {q : Nat} (hq : get (onw w e.1.1) x = some q) : Mid k w d M0 (inn k w e st (x, q)) := by
  unfold inn
  dsimp only
  split
  · exact m
  · rename_i hn
    have R := he.more hq
    refine ⟨?_, ?_, ?_, ?_⟩
    · dsimp only
      rw [List.map_append, ← List.append_assoc, ← m.eq]
      rfl
    · intro e' h
      rcases List.mem_append.mp h with h | h
      · exact m.rows e' h
      · rw [List.mem_singleton.mp h]
        exact R
    · rw [List.nodup_append]
      refine ⟨m.nodup, by simp, ?_⟩
      intro a ha b hb z
      rw [List.mem_singleton.mp hb] at z
      exact hn (z ▸ ha)
    · intro y hy
      rcases List.mem_append.mp hy with h | h
      · exact m.inbox y h
      · rw [List.mem_singleton.mp h]
        exact sn_box R.le R.sn
theorem inn_sub (k : Kd) (w : List α) (e : El α) (st : St2 α) (xq : α × Nat) : (∀ m ∈ st.1, m ∈ (inn k w e st xq).1) ∧ (xq.2, seenB k w e.1.2 xq.1) ∈ (inn k w e st xq).1 := by
  unfold inn
  split
  · rename_i h
    exact ⟨fun _ h => h, h⟩
  · exact ⟨fun m h => List.mem_append_left _ h, List.mem_append_right _ (List.mem_singleton.mpr rfl)⟩
theorem inns_sub (k : Kd) (w : List α) (e : El α) : ∀ (its : List (α × Nat)) (st : St2 α), (∀ m ∈ st.1, m ∈ (its.foldl (inn k w e) st).1) ∧ ∀ xq ∈ its, (xq.2, seenB k w e.1.2 xq.1) ∈ (its.foldl (inn k w e) st).1
  | [], st => ⟨fun _ h => h, fun _ h => (nomatch h)⟩
  | xq :: its, st => by
    obtain ⟨a1, a2⟩ := inn_sub k w e st xq
    obtain ⟨b1, b2⟩ := inns_sub k w e its (inn k w e st xq)
    refine ⟨fun m h => b1 m (a1 m h), fun y hy => ?_⟩
    rcases List.mem_cons.mp hy with z | z
    · rw [z]
      exact b1 _ a2
    · exact b2 y z
theorem Mid.its {k : Kd} {w : List α} {d : Nat} {M0 : List Pr} {e : El α} (he : Rw k w d e) : ∀ {its : List (α × Nat)} {st : St2 α}, (∀ xq ∈ its, get (onw w e.1.1) xq.1 = some xq.2) → Mid k w d M0 st → Mid k w d M0 (its.foldl (inn k w e) st)
  | [], _, _, m => m
  | xq :: its, st, h, m => Mid.its he (its := its) (fun y hy => h y (List.mem_cons_of_mem _ hy)) (m.one he (x := xq.1) (q := xq.2) (h xq List.mem_cons_self))
section
variable {srt : List (α × Nat) → List (α × Nat)} (hs : ∀ l, (srt l).Perm l)
include hs
theorem srt_get {w : List α} {p : Nat} {x : α} {q : Nat} : (x, q) ∈ srt (onw w p) ↔ get (onw w p) x = some q := by
  rw [(hs _).mem_iff]
  exact mem_get (onw_keys w p)
theorem Mid.lev {k : Kd} {w : List α} {d : Nat} {M0 : List Pr} {e : El α} (he : Rw k w d e) {st : St2 α} (m : Mid k w d M0 st) : Mid k w d M0 (lev k w srt st e) :=
  Mid.its he (fun xq h => (srt_get hs).mp h) m
theorem levs_sub (k : Kd) (w : List α) : ∀ (L : List (El α)) (st : St2 α), (∀ m ∈ st.1, m ∈ (L.foldl (lev k w srt) st).1) ∧ ∀ e ∈ L, ∀ x q, get (onw w e.1.1) x = some q → (q, seenB k w e.1.2 x) ∈ (L.foldl (lev k w srt) st).1
  | [], st => ⟨fun _ h => h, fun _ h => (nomatch h)⟩
  | e :: L, st => by
    obtain ⟨a1, a2⟩ := inns_sub k w e (srt (onw w e.1.1)) st
    obtain ⟨b1, b2⟩ := levs_sub k w L (WW.lev k w srt st e)
    refine ⟨fun m h => b1 m (a1 m h), fun y hy x q hq => ?_⟩
    rcases List.mem_cons.mp hy with z | z
    · rw [z] at hq ⊢
      exact b1 _ (a2 (x, q) ((srt_get hs).mpr hq))
    · exact b2 y z x q hq
theorem Mid.levs {k : Kd} {w : List α} {d : Nat} {M0 : List Pr} : ∀ {L : List (El α)} {st : St2 α}, (∀ e ∈ L, Rw k w d e) → Mid k w d M0 st → Mid k w d M0 (L.foldl (WW.lev k w srt) st)
  | [], _, _, m => m
  | e :: L, st, h, m => Mid.levs (L := L) (fun y hy => h y (List.mem_cons_of_mem _ hy)) (m.lev hs (h e List.mem_cons_self))
/-- a whole level, none of it bad -/
theorem Bfs.next {k : Kd} {w : List α} {d : Nat} {M : List Pr} {L : List (El α)} (B : Bfs k w d M L) (hL : L ≠ []) (hb : ∀ e ∈ L, ¬ Bad w e.1) {st : St2 α} (hst : L.foldl (WW.lev k w srt) (M, []) = st) :
    Bfs k w (d + 1) st.1 st.2 ∧ (st.2 = [] ∨ left w.length st.1 < left w.length M) := by
  have m : Mid k w d M st := by
    rw [← hst]
    exact Mid.levs hs B.rows (Mid.start B)
  obtain ⟨s1, s2⟩ := levs_sub hs k w L (M, [])
  rw [hst] at s1 s2
  have shutL : ∀ e ∈ L, Shut k w st.1 e.1 := fun e he => ⟨hb e he, fun x q hq => s2 e he x q hq⟩
  have shutM : ∀ y ∈ M, Shut k w st.1 y := fun y hy => by
    rcases B.done y hy with ⟨e, h1, h2⟩ | h
    · rw [← h2]
      exact shutL e h1
    · exact ⟨h.1, fun x q hq => s1 _ (h.2 x q hq)⟩
  have fallen : st.2 = [] ∨ left w.length st.1 < left w.length M := by
    cases h2 : st.2 with
    | nil => exact .inl rfl
    | cons e r =>
      refine .inr (left_lt (y := e.1) s1 ?_ ?_ ?_)
      · refine m.inbox _ ?_
        rw [m.eq, h2]
        exact List.mem_append_right _ List.mem_cons_self
      · intro z
        have nd := m.nodup
        rw [m.eq, h2, List.nodup_append] at nd
        exact nd.2.2 e.1 z e.1 List.mem_cons_self rfl
      · rw [m.eq, h2]
        exact List.mem_append_right _ List.mem_cons_self
  refine ⟨⟨m.rows, ?_, ?_, s1 _ B.zero, ?_, ?_, m.inbox, m.nodup, ?_⟩, fallen⟩
  · intro e he
    rw [m.eq]
    exact List.mem_append_right _ (List.mem_map.mpr ⟨e, he, rfl⟩)
  · intro y hy
    have hy' := hy
    rw [m.eq] at hy'
    rcases List.mem_append.mp hy' with h | h
    · exact .inr (shutM y h)
    · obtain ⟨e, h1, h2⟩ := List.mem_map.mp h
      exact .inl ⟨e, h1, h2⟩
  · intro r p h1 h2
    exact (shutM _ (B.near r p h1 (by omega))).1
  · intro r p h1 h2
    by_cases hr : r.length ≤ d
    · exact s1 _ (B.near r p h1 hr)
    · rcases List.eq_nil_or_concat r with e | ⟨r0, x, e⟩
      · subst e
        exact absurd (Nat.zero_le _) hr
      · rw [List.concat_eq_append] at e
        subst e
        rw [run_app] at h1
        cases h3 : run w 0 r0 with
        | none => rw [h3] at h1; cases h1
        | some z =>
          rw [h3] at h1
          have h1' : run w z [x] = some p := h1
          obtain ⟨q, h4, h5⟩ := run_cons_some h1'
          cases h5
          rw [List.length_append, List.length_singleton] at h2
          have := (shutM _ (B.near r0 z h3 (by omega))).2 x p h4
          rw [sees_app]
          exact this
  · rcases fallen with h | h
    · exact .inl h
    · rcases B.room with r | r
      · exact absurd r hL
      · exact .inr (by omega)
end
end
end WW
end
/-! Sorting: whatever is gathered, of any length, items that read as alike data. -/
namespace R5
open PySem PySem.Spec PyProof.Rows L2

/-! ### tuples of which the first is empty -/
section
variable {prog : Program} {w : World} {A : Around} {E : Value → Shared → Prop} {s : Shared}
theorem tup_lt_call {l b : Addr} {xs ys : Array Value} {e r : Nat → Bool} {Q : Value → Shared → Prop} (hl : s.heap.IsTuple l xs) (hb : s.heap.IsTuple b ys)
    (he : ∀ j (h1 : j < xs.size) (h2 : j < ys.size), SeqAt.EqAt A.in1 s xs[j] ys[j] (e j)) (hr : ∀ j (h1 : j < xs.size) (h2 : j < ys.size), e j = false → SeqAt.RcLt A.in1 s xs[j] ys[j] (r j))
    (h : Q (.bool (SeqAt.firstLt e r (decide (xs.size < ys.size)) (List.range (min xs.size ys.size)))) s) : wpAny (model prog w) A (call (.builtin "tuple.__lt__") [.ref l, .ref b]) Q E s := by
  obtain ⟨⟨c1, d1, t1, z1⟩, g1, k1, n1, f1⟩ := id hl
  obtain ⟨⟨c2, d2, t2, z2⟩, g2, k2, n2, f2⟩ := id hb
  dsimp only at k1 f1 k2 f2
  subst k1 f1 k2 f2
  exact call_meets F.slot_tuple_lt ⟨_, g1, rfl⟩ F.entry_tuple_lt (F.args_tuple_lt_2 _ _) (SeqAt.tuple_ltAt l b xs ys n1 n2 d1 d2 z1 z2 e r) ⟨g1, g2, he, hr, h⟩
theorem one_lt_tup {xs ys : List PyData} {a b : Value} {as bs : List Addr} {Q : Bool → Shared → Prop} (ra : Reads s.heap a (.tuple xs) as) (rb : Reads s.heap b (.tuple ys) bs) (hal : PySem.W.alikeAll xs ys = true)
    (hu : A.units + min (PyData.tuple xs).depth (PyData.tuple ys).depth < cLine) (hq : Q (PySem.W.dataLt (.tuple xs) (.tuple ys)) s) : wpAny (model prog w) A (oneLt' true a b) Q E s := by
  cases ra with
  | @tuple l o us n _ _ h1 h2 h3 h4 =>
    cases rb with
    | @tuple l2 o2 vs m _ _ k1 k2 k3 k4 =>
      have n1 : us.size = xs.length := by simpa using SeqAt.ReadsAll.length _ _ _ h4
      have n2 : vs.size = ys.length := by simpa using SeqAt.ReadsAll.length _ _ _ k4
      rw [PySem.W.dataLt_tuple, ← PySem.W.firstLt_toks xs ys hal, ← n1, ← n2] at hq
      rw [oneLt'_eq]
      simp only [if_true]
      refine wpAny_bind (wpAny_cRoomFor (SeqAt.room_here hu) ?_)
      refine wpAny_bind (wpAny_callSpecialIfBound?_slot (T := "tuple") ⟨_, h1, h2⟩ F.slot_tuple_lt (tup_lt_call (e := PySem.SeqAt.pairEq xs ys) (r := fun j => PySem.W.dataLt (xs.getD j .none) (ys.getD j .none)) ⟨_, h1, h2, _, h3⟩ ⟨_, k1, k2, _, k3⟩ (fun j j1 j2 => ?_) (fun j j1 j2 hj => ?_) ?_))
      · have z := PySem.W.eqAt_alikeAll xs ys A.in1 s us.toList vs.toList _ _ h4 k4 hal (SeqAt.room_in hu) j (by simpa using j1) (by simpa using j2)
        simpa using z
      · have z := PySem.W.rcLt_alikeAll xs ys A.in1 s us.toList vs.toList _ _ h4 k4 hal (SeqAt.room_in hu) j (by simpa using j1) (by simpa using j2) hj
        simpa using z
      · exact wpAny_truthy_bool hq
end
section
variable {M : Model} {A : Around} {E : Value → Shared → Prop} {s : Shared}
/-- the values are tuples; the first item of each -/
inductive Firsts (h : Heap) : List Value → List (Option Value) → Prop where
  | nil : Firsts h [] []
  | cons {a : Addr} {o : Obj} {xs : Array Value} {n : Nat} {vs : List Value} {fs : List (Option Value)} (ho : h.get? a = some o) (hc : o.cls = .type "tuple") (hd : o.data = .seq xs n) (t : Firsts h vs fs) : Firsts h (.ref a :: vs) (xs[0]? :: fs)
theorem firsts_run : ∀ {vs : List Value} {fs : List (Option Value)} {Q : List (Option Value) → Shared → Prop}, Firsts s.heap vs fs → Q fs s → wpAny M A (vs.mapM firstOfTuple') Q E s
  | [], _, _, .nil, h => by
    rw [List.mapM_nil]
    exact wpAny_pure h
  | _ :: vs, _, Q, .cons (xs := xs) ho hc hd t, h => by
    rw [List.mapM_cons]
    refine wpAny_bind ?_
    rw [PySem.W.kas_first_eq]
    refine wpAny_bind (PySem.W.Looks.here ((PySem.W.Looks.ld ho).andThen .now) ?_)
    rw [hc, if_neg (by first | decide | simp)]
    refine wpAny_bind (listItems_at ho hd (wpAny_pure ?_))
    exact wpAny_bind (firsts_run (Q := fun bs s' => wpAny M A (pure (xs[0]? :: bs)) Q E s') t (wpAny_pure h))
theorem kind_tup0 {vs : List Value} {fs : List (Option Value)} {Q : SortKind → Shared → Prop} (t : Firsts s.heap vs (none :: fs)) (hne : vs ≠ []) (hT : ∀ v ∈ vs, PySem.W.Looks M s.heap (typeOf v) (.type "tuple")) (h : Q oneType' s) : wpAny M A (keyKind' vs.toArray) Q E s := by
  rw [keyKind'_eq, List.mapM_toArray, map_eq_pure_bind]
  refine wpAny_bind (wpAny_bind (firsts_run t (wpAny_pure ?_)))
  rw [if_neg (by simp), if_neg (by simp)]
  rw [oneTypeOnly'_eq, List.mapM_toArray, map_eq_pure_bind]
  refine wpAny_bind (wpAny_bind (wpAny_bind (PySem.W.kas_mapM (r := Value.type "tuple") _ (fun v hv Q' hq => (hT v hv).here hq) (wpAny_pure ?_))))
  have hall : ((List.map (fun _ => Value.type "tuple") vs).toArray.all fun x => x == Value.type "tuple") = true := by
    simp only [List.all_toArray, List.all_map, List.all_eq_true]
    intro _ _
    exact beq_self_eq_true _
  have h0 : (List.map (fun _ => Value.type "tuple") vs).toArray[0]? = some (Value.type "tuple") := by
    cases vs with
    | nil => exact absurd rfl hne
    | cons v r => simp
  rw [h0]
  simp only [hall, if_true]
  exact wpAny_pure (wpAny_pure h)
end
theorem firsts_of {h : Heap} : ∀ {vs : List Value} {ds : List PyData}, PySem.W.EachIs (fun v d => ∃ as, Reads h v d as) vs ds → (∀ d ∈ ds, ∃ xs, d = .tuple xs) → ∃ fs, Firsts h vs fs ∧ ∀ xs r, ds = .tuple xs :: r → xs = [] → ∃ gs, fs = none :: gs
  | _, _, .nil, _ => ⟨[], .nil, fun xs r e => by cases e⟩
  | _, _, .cons (b := d) ⟨as, r⟩ t, ht => by
    obtain ⟨fs, h1, _⟩ := firsts_of t fun d hd => ht d (List.mem_cons_of_mem _ hd)
    obtain ⟨xs, rfl⟩ := ht d List.mem_cons_self
    cases r with
    | @tuple a o us n _ _ ho hc hd hr =>
      refine ⟨_, .cons ho hc hd h1, fun ys r e ey => ?_⟩
      cases e
      subst ey
      have hz : us.toList = [] := by
        cases q : us.toList with
        | nil => rfl
        | cons u ur =>
          rw [q] at hr
          cases hr
      have : us = #[] := by simpa using hz
      subst this
      exact ⟨fs, rfl⟩
/-- sortable: as the library says, or tuples of which the first is empty -/
def Sortable2 (ds : List PyData) : Prop := PySem.W.Sortable ds ∨ ((∀ d ∈ ds, ∃ xs, d = .tuple xs) ∧ ∃ r, ds = .tuple [] :: r)
theorem sortsAt2 {prog : Program} {w : World} {A : Around} {s : Shared} {vs : List Value} {ds : List PyData} (e : PySem.W.EachIs (fun v d => ∃ as, Reads s.heap v d as) vs ds) (hal : PySem.W.AllAlike ds) (hk : Sortable2 ds) (hu : ∀ d, d ∈ ds → A.units + d.depth < cLine) :
    PySem.W.SortsAt prog w A s (PySem.W.dataKind s.heap ds) vs := by
  rcases hk with hk | ⟨ht, r, er⟩
  · exact PySem.W.SortsAt.data e hal hk hu
  · refine ⟨fun v hv => ?_, oneType', ?_, fun h2 E Q hq => ?_⟩
    · obtain ⟨d, hd, as, q⟩ := e.left v hv
      exact ⟨_, PySem.W.dataKind_some hal hd q⟩
    · intro E x y a b Q ha hb hq
      obtain ⟨d, as, hd, ra, rfl⟩ := PySem.W.dataKind_inv ha
      obtain ⟨d', as', hd', rb, rfl⟩ := PySem.W.dataKind_inv hb
      obtain ⟨xs, rfl⟩ := ht d hd
      obtain ⟨ys, rfl⟩ := ht d' hd'
      rw [keyLt'_oneType]
      exact one_lt_tup ra rb (by simpa [PySem.W.alike] using hal _ hd _ hd') (Nat.lt_of_le_of_lt (Nat.add_le_add_left (Nat.min_le_left _ _) _) (hu _ hd)) hq
    · obtain ⟨fs, f1, f2⟩ := firsts_of e ht
      obtain ⟨gs, eg⟩ := f2 [] r er rfl
      subst eg
      refine kind_tup0 f1 (fun z => by rw [z] at h2; exact absurd h2 (by simp)) (fun v hv => ?_) hq
      obtain ⟨d, hd, as, q⟩ := e.left v hv
      obtain ⟨xs, rfl⟩ := ht d hd
      exact PySem.W.looks_reads q

/-! ### sorted, behind what is gathered -/
section
variable {prog : Program} {w : World} {A : Around} {E : Value → Shared → Prop} {s : Shared}
theorem sorted_any {r : Value} {Q : Value → Shared → Prop} (hcol : wpAny (model prog w) A.in1 (collect r) (fun vs s1 => vs.length ≤ sizeLine ∧
      wpAny (model prog w) A.in1 (call (.builtin "list.sort") [.ref s1.heap.objs.size]) (fun _ s' => Q (.ref s1.heap.objs.size) s') E { s1 with heap := s1.heap.push { cls := .type "list", data := .seq vs.toArray } }) E s) :
    wpAny (model prog w) A (call (.builtin "sorted") [r]) Q E s := by
  refine Calls.call_function_entry kind_sorted plain_sorted entry_sorted (args_sorted1 _) ?_
  unfold Builtin.«sorted»
  refine wpAny_bind (m := checkCount "sorted" 1 1 _) (wpAny_pure ?_)
  refine wpAny_bind (wpAny_mono hcol (fun vs s1 ⟨hl, hs⟩ => ?_) fun _ _ e => e)
  refine wpAny_bind (wpAny_newList ?_ hl)
  refine wpAny_bind (wpAny_holding (wpAny_mono hs (fun _ s2 q => ?_) fun _ _ e => e))
  exact wpAny_pure ⟨_, rfl, q⟩
end
section
variable {X : Cx} {pins : List (Addr × Obj)} {σ : L2.St} {H : Hp} {s : Shared} {β : Type}
theorem dps_reads (I : Inv X pins σ H s) {g : β → V} {enc : β → PyData} {h' : Heap} (k : ∀ b o, s.heap.get? b = some o → h'.get? b = some o) : ∀ {bs : List β} {vs : List Value}, Vals (bs.map g) vs → (∀ b ∈ bs, Dp X.K H (g b) (enc b)) →
    PySem.W.EachIs (fun v b => ∃ as, Reads h' v (enc b) as) vs bs
  | [], _, .nil, _ => .nil
  | b :: bs, _, .cons r t, hd => by
    obtain ⟨as, q⟩ := Dp.reads I _ _ _ (hd b List.mem_cons_self) r
    exact .cons ⟨as, PyProof.Rows.Reads.keeps k q⟩ (dps_reads I k t fun b hb => hd b (List.mem_cons_of_mem _ hb))
theorem vals_each {g : β → V} : ∀ {bs : List β} {vs : List Value}, Vals (bs.map g) vs → PySem.W.EachIs (fun v b => RelV (g b) v) vs bs
  | [], _, .nil => .nil
  | _ :: _, _, .cons r t => .cons r (vals_each t)
theorem each_vals {g : β → V} : ∀ {bs : List β} {vs : List Value}, PySem.W.EachIs (fun v b => RelV (g b) v) vs bs → Vals (bs.map g) vs
  | _, _, .nil => .nil
  | _, _, .cons r t => .cons r (each_vals t)
theorem each_maps {R : Value → PyData → Prop} {enc : β → PyData} : ∀ {vs : List Value} {bs : List β}, PySem.W.EachIs (fun v b => R v (enc b)) vs bs → PySem.W.EachIs R vs (bs.map enc)
  | _, _, .nil => .nil
  | _, _, .cons r t => .cons r (each_maps t)
/-- what may be sorted: g tells the value, enc the data -/
structure SortOk (X : Cx) (H : Hp) (g : β → V) (enc : β → PyData) (bs : List β) : Prop where
  data : ∀ b ∈ bs, Dp X.K H (g b) (enc b)
  alike : PySem.W.AllAlike (bs.map enc)
  able : Sortable2 (bs.map enc)
  len : bs.length ≤ sizeLine
  room : ∀ b ∈ bs, X.A.units + 2 + (enc b).depth < cLine
theorem sort_tail {Q : VK} {E : Value → Shared → Prop} {g : β → V} {enc : β → PyData} {bs : List β} {vs : List Value} (I : Inv X pins σ H s) (r : Vals (bs.map g) vs) (O : SortOk X H g enc bs)
    (q : ∀ p, H p = none → Q (.ref p) (upd H p (.lst ((bs.mergeSort (PySem.W.dataLe false enc)).map g)))) :
    vs.length ≤ sizeLine ∧ wpAny (model X.prog X.w) X.A.in1 (call (.builtin "list.sort") [.ref s.heap.objs.size]) (fun _ s' => EP X pins σ Q (.ref s.heap.objs.size) s') E { s with heap := s.heap.push { cls := .type "list", data := .seq vs.toArray } } := by
  have hlen : vs.length = bs.length := by rw [← r.length, List.length_map]
  refine ⟨by rw [hlen]; exact O.len, ?_⟩
  have ho : (s.heap.push { cls := .type "list", data := .seq vs.toArray }).get? s.heap.objs.size = some (seqObj "list" vs.toArray 0) := Heap.get?_push_size _ rfl
  have old : ∀ b o, s.heap.get? b = some o → (PySem.W.sortingHeap (s.heap.push { cls := .type "list", data := .seq vs.toArray }) s.heap.objs.size vs).get? b = some o := fun b o e => PySem.W.sortingHeap_old (Nat.ne_of_lt (Heap.lt_size e)) (Heap.get?_push_of_some _ e)
  have er := dps_reads I old r O.data
  have hS : PySem.W.SortsAt X.prog X.w X.A.in1.in1 { s with heap := PySem.W.sortingHeap (s.heap.push { cls := .type "list", data := .seq vs.toArray }) s.heap.objs.size vs } (PySem.W.dataKind (PySem.W.sortingHeap (s.heap.push { cls := .type "list", data := .seq vs.toArray }) s.heap.objs.size vs) (bs.map enc)) vs :=
    sortsAt2 (each_maps er) O.alike O.able fun d hd => by
      obtain ⟨b, hb, rfl⟩ := List.mem_map.mp hd
      exact O.room b hb
  refine wpAny_call_entry slot_list_sort ⟨_, ho, rfl⟩ entry_list_sort (PySem.W.list_sort_vals ho hS (by rw [hlen]; exact O.len) ⟨.none, rfl, ?_⟩) (args_list_sort _)
  have eo := PySem.W.sortVals_data false (vals_each r) er O.alike
  have ol := PySem.W.sortVals_length (κ := PySem.W.dataKind (PySem.W.sortingHeap (s.heap.push { cls := .type "list", data := .seq vs.toArray }) s.heap.objs.size vs) (bs.map enc)) (ks := vs) (vs := vs) false rfl
  revert eo ol
  generalize PySem.W.sortVals (PySem.W.dataKind (PySem.W.sortingHeap (s.heap.push { cls := .type "list", data := .seq vs.toArray }) s.heap.objs.size vs) (bs.map enc)) false vs vs = out
  intro eo ol
  have rv := each_vals eo
  obtain ⟨c, hc⟩ := sortedHeap_at (vs := vs) (out := out.toArray) ho
  have kp : ∀ b o, s.heap.get? b = some o → (sortedHeap (s.heap.push { cls := .type "list", data := .seq vs.toArray }) s.heap.objs.size vs out.toArray).get? b = some o := fun b o e => by
    have hlt := Heap.lt_size e
    rw [sortedHeap_old (Nat.ne_of_lt hlt) (by rw [Heap.size_push]; exact Nat.lt_succ_of_lt hlt)]
    exact Heap.get?_push_of_some _ e
  have hn : H s.heap.objs.size = none := I.hok.fresh (Nat.le_refl _)
  have hl2 : ((bs.mergeSort (PySem.W.dataLe false enc)).map g).length ≤ sizeLine := by
    rw [List.length_map, List.length_mergeSort]
    exact O.len
  exact ⟨.ref s.heap.objs.size, _, I.laid (o := .lst ((bs.mergeSort (PySem.W.dataLe false enc)).map g)) (t' := s.toks) kp (Nat.le_refl _) ⟨hl2, out, c, rv, hc⟩, rfl, q _ hn⟩
/-- sorted of a tuple, of a list -/
def rSortSq (X : Cx) : List V → Hp → VK → Prop := fun us H Q => ∃ (β : Type) (g : β → V) (enc : β → PyData) (bs : List β) (a : Addr), us = [.ref a] ∧ (SqL X.K H a (bs.map g) ∨ SqT X.K H a (bs.map g)) ∧ SortOk X H g enc bs ∧
  ∀ p, H p = none → Q (.ref p) (upd H p (.lst ((bs.mergeSort (PySem.W.dataLe false enc)).map g)))
theorem cr_sortSq : CallR X (.builtin "sorted") (rSortSq X) := by
  intro pins s σ H us ws Q I r h
  obtain ⟨β, g, enc, bs, a, rfl, hs, O, q⟩ := h
  rw [Vals.ref1 r]
  refine sorted_any ?_
  rcases hs with hs | hs
  · obtain ⟨its, rv, ⟨o, n, e, c, _, d⟩, z⟩ := I.list hs
    refine wpAny_collect_seq a (.inl rfl) e c d (fun h' k => ?_) (by rw [List.size_toArray, ← rv.length]; exact z)
    exact sort_tail (I.kept (t' := s.toks) k) rv O q
  · obtain ⟨its, rv, ⟨o, e, c, n, d⟩, z⟩ := I.tuple hs
    refine wpAny_collect_seq a (.inr rfl) e c d (fun h' k => ?_) (by rw [List.size_toArray, ← rv.length]; exact z)
    exact sort_tail (I.kept (t' := s.toks) k) rv O q
end
end R5
/-! sorted(d.items()), sorted(d) of a dict with tuples of texts as keys, a display with one tuple as key. -/
namespace R5
open PySem PySem.Spec PyProof.Rows L2

/-! ### the items of a dict by texts, sorted -/
/-- a text and a number as an entry -/
def kvI (q : Str × Nat) : Key × V := (.inr q.1, .int q.2)
def encI (q : Str × Nat) : PyData := .tuple [.str q.1, .int q.2]
/-- the items in order -/
def srt (l : List (Str × Nat)) : List (Str × Nat) := l.mergeSort (PySem.W.dataLe false encI)
theorem srt_perm (l : List (Str × Nat)) : (srt l).Perm l := List.mergeSort_perm _ _
section
variable {X : Cx}
def rItemsK : V → List V → Hp → VK → Prop := fun x xs H Q => ∃ (a : Addr) (kvs : List (Key × V)), x = .ref a ∧ xs = [] ∧ H a = some (.dK kvs) ∧ ∀ p, H p = none → Q (.ref p) (upd H p (DX.itemsO p a))
theorem mt_itemsK : MtR X "dict.items" rItemsK := by
  intro pins s σ H x xs v us Q I rx rxs h
  obtain ⟨a, kvs, rfl, rfl, ha, q⟩ := h
  cases rx
  cases rxs
  obtain ⟨_, hd, vs, _, o, es, ep, ho, hx, hdat, _⟩ := dk_of I.hok ha
  refine DT.callItems (es := es) (ep := ep) hd ⟨o, ho, hx, hdat⟩ ?_
  exact ⟨.ref s.heap.objs.size, upd H s.heap.objs.size (DX.itemsO s.heap.objs.size a), I.laid (t' := s.toks) (fun b u e => Heap.get?_push_of_some _ e) (Nat.le_refl _) (DX.itemsO_ok (Heap.get?_push_size _ rfl)), rfl, q _ (I.hok.fresh (Nat.le_refl _))⟩
theorem alike_encI (a b : Str × Nat) : PySem.W.alike (encI a) (encI b) = true := by
  simp [encI, PySem.W.alike, PySem.W.alikeAll]
theorem depth_encI (a : Str × Nat) : (encI a).depth = 1 := by
  simp [encI, PyData.depth, PyData.depthAll]
theorem vals_as (as : List Addr) : ∀ ks : List (Str × Nat), as.length = ks.length → Vals ((as.zip ks).map fun b => V.ref b.1) (as.map Value.ref) := by
  induction as with
  | nil => intro ks _; exact .nil
  | cons a as ih =>
    intro ks h
    cases ks with
    | nil => cases h
    | cons k ks => exact .cons rfl (ih ks (by simpa using h))
/-- sorted(d.items()): a new list of new pairs -/
def rSortItems : List V → Hp → VK → Prop := fun us H Q => ∃ (p a : Addr) (l : List (Str × Nat)), us = [.ref p] ∧ H p = some (DX.itemsO p a) ∧ H a = some (.dK (l.map kvI)) ∧ l.length ≤ 1000 ∧
  ∀ (H' : Hp) (r : Addr) (ts : List Addr), Same H H' → H r = none → H' r = some (.lst (ts.map V.ref)) → (∀ t ∈ ts, H t = none) → Paired (fun (t : Addr) (q : Str × Nat) => H' t = some (.tup [.str q.1, .int q.2])) ts (srt l) → Q (.ref r) H'
theorem cr_sortItems (hc : X.calm = true) (hu : X.A.units + 64 < cLine) : CallR X (.builtin "sorted") rSortItems := by
  intro pins s σ H us ws Q I r h
  obtain ⟨p, a, l, rfl, hp, ha, hl, q⟩ := h
  rw [Vals.ref1 r]
  have view : s.heap.IsItemsView p a := (show ObjOk X.prog X.w H s.heap p (DX.itemsO p a) from I.hok p _ hp).1
  obtain ⟨_, hd, vs, kv, hdo⟩ := dk_of I.hok ha
  obtain ⟨ep, hat⟩ := hdo.dictAt
  have lk : l.length = vs.length := by
    have := Paired.length kv
    rw [List.length_map] at this
    exact this
  refine sorted_any (PySem.W.kdx_collect (knd := mixKind X.prog X.w) (kvs := vs) (ep := ep) (A := X.A.in1) (I.ok.hd hc) view hat (Nat.le_trans (by omega) (Nat.le_of_lt (small1000 (Nat.le_refl 1000)))) fun h' tk as hk hal hG => ?_)
  have lak : as.length = l.length := by omega
  have nd : as.Nodup := List.Pairwise.imp (fun h => Nat.ne_of_lt h) hG.rise
  have I1 : Inv X pins σ H { s with heap := h', toks := tk } := I.kept (t' := tk) hk
  have pr : ∀ (j : Nat) (b : Addr), as[j]? = some b → ∃ e : Str × Nat, l[j]? = some e ∧ ∃ u v, RelV (.str e.1) u ∧ RelV (.int e.2) v ∧ h'.get? b = some { cls := .type "tuple", data := .seq #[u, v] } := by
    intro j b hj
    obtain ⟨key, k, x, g1, g2, g3⟩ := hG.pairs j b hj
    have hjl : j < l.length := by
      have := (List.getElem?_eq_some_iff.mp g1).1
      omega
    obtain ⟨e, he⟩ : ∃ e, l[j]? = some e := ⟨_, List.getElem?_eq_getElem hjl⟩
    have hkv : (l.map kvI)[j]? = some (kvI e) := by rw [List.getElem?_map, he]; rfl
    obtain ⟨z, z1, z2⟩ := kv_get kv hkv
    rw [g1] at z1
    have z3 := Option.some.inj z1
    injection z3 with z4 z5
    subst z4 z5
    refine ⟨e, he, key, x, ?_, z2, g3⟩
    exact relV_key (k := .inr e.1) g2
  obtain ⟨H2, I2, g, qt⟩ := DX.takeT (P := fun b vs => ∃ (j : Nat) (e : Str × Nat), as[j]? = some b ∧ l[j]? = some e ∧ vs = [.str e.1, .int e.2]) I as H I1 nd fun b hb => by
    obtain ⟨j, hj⟩ := List.mem_iff_getElem?.mp hb
    obtain ⟨e, he, u, v, ru, rv, hg⟩ := pr j b hj
    have hbl : s.heap.objs.size ≤ b := Nat.le_of_lt (hG.above b hb)
    exact ⟨hbl, I.hok.fresh hbl, _, ⟨j, e, hj, he, rfl⟩, fun H3 => ⟨(by show 2 ≤ sizeLine; decide), [u, v], .cons ru (.cons rv .nil), ⟨_, hg, rfl, 0, rfl⟩⟩⟩
  have at2 : ∀ (j : Nat) (b : Addr) (e : Str × Nat), as[j]? = some b → l[j]? = some e → H2 b = some (.tup [.str e.1, .int e.2]) := by
    intro j b e hj he
    obtain ⟨vs', ⟨i, e', i1, i2, i3⟩, hH⟩ := qt b (List.mem_of_getElem? hj)
    have eij : i = j := (List.getElem?_inj (List.getElem?_eq_some_iff.mp i1).1 nd).mp (i1.trans hj.symm)
    subst eij
    rw [he] at i2
    cases i2
    rw [hH, i3]
  have mem2 : ∀ b ∈ as.zip l, H2 b.1 = some (.tup [.str b.2.1, .int b.2.2]) := by
    intro b hb
    obtain ⟨j, hj⟩ := List.mem_iff_getElem?.mp hb
    obtain ⟨j1, j2⟩ := List.getElem?_zip_eq_some.mp hj
    exact at2 j b.1 b.2 j1 j2
  refine sort_tail (g := fun b : Addr × (Str × Nat) => V.ref b.1) (enc := fun b => encI b.2) (bs := as.zip l) I2 (vals_as as l lak) ⟨fun b hb => ?_, ?_, ?_, ?_, fun b _ => ?_⟩ fun r hr => ?_
  · exact Dp.tup (SqT.of (mem2 b hb)) (.cons (.str _) (.cons (.int _) .nil))
  · exact PySem.W.AllAlike.of fun a b => alike_encI a.2 b.2
  · exact .inl (PySem.W.Sortable.tuples fun b => ⟨_, _, rfl⟩)
  · rw [List.length_zip]
    exact Nat.le_trans (Nat.min_le_right _ _) (Nat.le_of_lt (small1000 hl))
  · rw [depth_encI]
    omega
  · have em : ((as.zip l).mergeSort (PySem.W.dataLe false fun b => encI b.2)).map (·.2) = srt l := by
      have e1 : (as.zip l).map (·.2) = l := List.map_snd_zip (by omega)
      have e2 := List.map_mergeSort (r := PySem.W.dataLe false fun b : Addr × (Str × Nat) => encI b.2) (s := PySem.W.dataLe false encI) (f := fun b : Addr × (Str × Nat) => b.2) (l := as.zip l) (fun _ _ _ _ => rfl)
      rw [e1] at e2
      exact e2
    have hmem : ∀ b ∈ (as.zip l).mergeSort (PySem.W.dataLe false fun b => encI b.2), b ∈ as.zip l := fun b hb => (List.mergeSort_perm _ _).mem_iff.mp hb
    have hHr : H r = none := by
      cases e : H r with
      | none => rfl
      | some o => rw [g _ _ e] at hr; cases hr
    have put : ∀ t o, H2 t = some o → (upd H2 r (.lst (((as.zip l).mergeSort (PySem.W.dataLe false fun b => encI b.2)).map fun b => V.ref b.1))) t = some o := fun t o e => by
      rw [upd_ne (ne_of_none e hr)]
      exact e
    have pd : ∀ (ls : List (Addr × (Str × Nat))), (∀ b ∈ ls, b ∈ as.zip l) → Paired (fun (t : Addr) (q : Str × Nat) => (upd H2 r (.lst (((as.zip l).mergeSort (PySem.W.dataLe false fun b => encI b.2)).map fun b => V.ref b.1))) t = some (.tup [.str q.1, .int q.2])) (ls.map (·.1)) (ls.map (·.2)) := by
      intro ls
      induction ls with
      | nil => intro _; exact .nil
      | cons b ls ih => exact fun h => .cons (put _ _ (mem2 b (h b List.mem_cons_self))) (ih fun c hc => h c (List.mem_cons_of_mem _ hc))
    have fin := pd _ hmem
    rw [em] at fin
    refine q _ r (((as.zip l).mergeSort (PySem.W.dataLe false fun b => encI b.2)).map (·.1)) (fun b o e => put _ _ (g _ _ e)) hHr ?_ (fun t ht => ?_) fin
    · rw [upd_same, List.map_map]
      rfl
    · obtain ⟨b, hb, rfl⟩ := List.mem_map.mp ht
      obtain ⟨b1, b2⟩ := List.of_mem_zip (hmem b hb)
      exact I.hok.fresh (Nat.le_of_lt (hG.above _ b1))
end

/-! ### the keys of a dict by tuples of texts, sorted -/
def encT (k : List Str) : PyData := .tuple (k.map .str)
def srtT (ks : List (List Str)) : List (List Str) := ks.mergeSort (PySem.W.dataLe false encT)
theorem srtT_perm (l : List (List Str)) : (srtT l).Perm l := List.mergeSort_perm _ _
theorem alike_strs : ∀ a b : List Str, PySem.W.alikeAll (a.map .str) (b.map .str) = true
  | [], _ => by simp [PySem.W.alikeAll]
  | _ :: _, [] => by simp [PySem.W.alikeAll]
  | x :: a, y :: b => by
    rw [List.map_cons, List.map_cons, PySem.W.alikeAll, alike_strs a b]
    simp [PySem.W.alike]
theorem alike_encT (a b : List Str) : PySem.W.alike (encT a) (encT b) = true := by
  unfold encT
  rw [PySem.W.alike]
  exact alike_strs a b
theorem depth_strs : ∀ a : List Str, PyData.depthAll (a.map .str) = 0
  | [] => by simp [PyData.depthAll]
  | x :: a => by
    rw [List.map_cons, PyData.depthAll, depth_strs a]
    simp [PyData.depth]
theorem depth_encT (a : List Str) : (encT a).depth = 1 := by
  unfold encT
  rw [PyData.depth, depth_strs]
theorem dps_strs {K : PySem.W.Frag} {H : Hp} : ∀ a : List Str, DpAll K H (a.map V.str) (a.map .str)
  | [] => .nil
  | x :: a => .cons (.str x) (dps_strs a)
theorem kV_strs (a : List Str) : (a.map (Sum.inr : Str → Key)).map kV = a.map V.str := by
  rw [List.map_map]
  rfl
section
variable {X : Cx}
def rSortKeysT : List V → Hp → VK → Prop := fun us H Q => ∃ (a : Addr) (kvs : List (List Key × V)) (ks : List (List Str)), us = [.ref a] ∧ H a = some (.dT kvs) ∧ kvs.map (·.1) = ks.map (fun k => k.map Sum.inr) ∧ ks.length ≤ 1000 ∧ (∃ r, ks = [] :: r) ∧
  ∀ (r : Addr) (ts : List Addr), H r = none → Paired (fun (t : Addr) (k : List Str) => H t = some (.tup (k.map V.str))) ts (srtT ks) → Q (.ref r) (upd H r (.lst (ts.map V.ref)))
theorem cr_sortKeysT (hc : X.calm = true) (hu : X.A.units + 64 < cLine) : CallR X (.builtin "sorted") rSortKeysT := by
  intro pins s σ H us ws Q I r h
  obtain ⟨a, kvs, ks, rfl, ha, hks, hl, ⟨kr, hkr⟩, q⟩ := h
  rw [Vals.ref1 r]
  obtain ⟨z, hs, xs, pr, o, es, ep, ho, hx, hdt, he, hn⟩ := (show ObjOk X.prog X.w H s.heap a (.dT kvs) from I.hok a _ ha)
  have l1 : es.size = xs.length := size_of_entries he
  have l2 : kvs.length = xs.length := Paired.length pr
  have l3 : kvs.length = ks.length := by
    have := congrArg List.length hks
    rw [List.length_map, List.length_map] at this
    exact this
  refine sorted_any (PySem.W.kdu_collect (A := X.A.in1) (kdl_raw hs hx hdt) (I.ok.hd hc) ho (by omega) fun h' tk acc kp it => ?_)
  have ea : acc.toList = (xs.map fun x => x.2.1).map Value.ref := by
    have hl : acc.toList.length = xs.length := by rw [Array.length_toList, it.1]; exact l1
    apply List.ext_getElem?
    intro j
    rw [List.getElem?_map, List.getElem?_map]
    cases hj : acc.toList[j]? with
    | none =>
      have h1 := List.getElem?_eq_none_iff.mp hj
      rw [List.getElem?_eq_none (by omega)]
      rfl
    | some v =>
      obtain ⟨en, hen, hv⟩ := it.2 j v (by rw [← Array.getElem?_toList]; exact hj)
      have qe := entry_at he j
      rw [hen] at qe
      cases hb : xs[j]? with
      | none =>
        rw [hb] at qe
        exact nomatch (show some en = none from qe)
      | some b =>
        rw [hb] at qe
        have e2 : en = entryOfKey (tupleKind (mixKind X.prog X.w)) b := Option.some.inj qe
        rw [hv, e2]
        rfl
  have lz : (xs.map fun x => x.2.1).length = ks.length := by rw [List.length_map]; omega
  have mem2 : ∀ b ∈ (xs.map fun x => x.2.1).zip ks, H b.1 = some (.tup (b.2.map V.str)) := by
    intro b hb
    obtain ⟨j, hj⟩ := List.mem_iff_getElem?.mp hb
    obtain ⟨j1, j2⟩ := List.getElem?_zip_eq_some.mp hj
    rw [List.getElem?_map] at j1
    cases hxj : xs[j]? with
    | none => rw [hxj] at j1; cases j1
    | some x =>
      rw [hxj] at j1
      obtain ⟨e0, he0, r1, r2, r3⟩ := DX.pget pr hxj
      have e1 : (kvs.map (·.1))[j]? = some e0.1 := by rw [List.getElem?_map, he0]; rfl
      rw [hks, List.getElem?_map, j2] at e1
      have e2 : b.2.map Sum.inr = e0.1 := Option.some.inj e1
      rw [← e2, kV_strs] at r2
      have e3 : x.2.1 = b.1 := Option.some.inj j1
      rw [← e3]
      exact r2
  have rv : Vals (((xs.map fun x => x.2.1).zip ks).map fun b => V.ref b.1) acc.toList := by
    rw [ea]
    have e1 : ((xs.map fun x => x.2.1).zip ks).map (fun b : Addr × List Str => V.ref b.1) = (((xs.map fun x => x.2.1).zip ks).map Prod.fst).map V.ref := by
      rw [List.map_map]
      rfl
    rw [e1, List.map_fst_zip (by omega)]
    exact L2.vals_refs _
  have I1 : Inv X pins σ H { s with heap := h', toks := tk } := I.kept (t' := tk) kp
  refine sort_tail (g := fun b : Addr × List Str => V.ref b.1) (enc := fun b => encT b.2) (bs := (xs.map fun x => x.2.1).zip ks) I1 rv ⟨fun b hb => ?_, ?_, ?_, ?_, fun b _ => ?_⟩ fun r hr => ?_
  · exact Dp.tup (SqT.of (mem2 b hb)) (dps_strs _)
  · exact PySem.W.AllAlike.of fun a b => alike_encT a.2 b.2
  · refine .inr ⟨fun d hd => ?_, ?_⟩
    · obtain ⟨b, _, rfl⟩ := List.mem_map.mp hd
      exact ⟨_, rfl⟩
    · rw [hkr] at lz ⊢
      cases hxs : xs.map fun x => x.2.1 with
      | nil => rw [hxs] at lz; cases lz
      | cons y ys => exact ⟨_, rfl⟩
  · rw [List.length_zip]
    exact Nat.le_trans (Nat.min_le_right _ _) (Nat.le_of_lt (small1000 hl))
  · rw [depth_encT]
    omega
  · have em : (((xs.map fun x => x.2.1).zip ks).mergeSort (PySem.W.dataLe false fun b => encT b.2)).map (·.2) = srtT ks := by
      have e1 : ((xs.map fun x => x.2.1).zip ks).map (·.2) = ks := List.map_snd_zip (by omega)
      have e2 := List.map_mergeSort (r := PySem.W.dataLe false fun b : Addr × List Str => encT b.2) (s := PySem.W.dataLe false encT) (f := fun b : Addr × List Str => b.2) (l := (xs.map fun x => x.2.1).zip ks) (fun _ _ _ _ => rfl)
      rw [e1] at e2
      exact e2
    have hmem : ∀ b ∈ ((xs.map fun x => x.2.1).zip ks).mergeSort (PySem.W.dataLe false fun b => encT b.2), b ∈ (xs.map fun x => x.2.1).zip ks := fun b hb => (List.mergeSort_perm _ _).mem_iff.mp hb
    have pd : ∀ (ls : List (Addr × List Str)), (∀ b ∈ ls, b ∈ (xs.map fun x => x.2.1).zip ks) → Paired (fun (t : Addr) (k : List Str) => H t = some (.tup (k.map V.str))) (ls.map (·.1)) (ls.map (·.2)) := by
      intro ls
      induction ls with
      | nil => intro _; exact .nil
      | cons b ls ih => exact fun h => .cons (mem2 b (h b List.mem_cons_self)) (ih fun c hc => h c (List.mem_cons_of_mem _ hc))
    have fin := pd _ hmem
    rw [em] at fin
    have qq := q r _ hr fin
    rw [List.map_map] at qq
    exact qq
end

/-! ### {(..): v} -/
section
variable {X : Cx} {k v : Expr} {tk tv : TE} {pos : Pos}
def tDispT (tk tv : TE) : TE := fun σ H Q => ∀ p, H p = none → tk σ (upd H p (.dT [])) fun y H2 => tv σ H2 fun z H3 => ∃ (b : Addr) (ks : List Key), y = .ref b ∧ H3 b = some (.tup (ks.map kV)) ∧ H3 p = some (.dT []) ∧ Q (.ref p) (upd H3 p (.dT [(ks, z)]))
theorem pe_dispT (hu : X.A.units + 1 < cLine) (hk : PE X k tk) (hv : PE X v tv) : PE X (.Dict [some k] [v] pos) (tDispT tk tv) := by
  refine ⟨fun pins s σ H Q I h => ?_⟩
  have hn := I.hok.fresh (Nat.le_refl s.heap.objs.size)
  have I0 := I.laid (a := s.heap.objs.size) (o := .dT []) (h' := s.heap.push { cls := .type "dict", data := .dict #[] }) (t' := s.toks) (fun _ _ q => Heap.get?_push_of_some _ q) (Nat.le_refl _) (dt_empty s.heap I.big)
  rw [arm_eval_Dict, zip_pairTrees [some k] [v] X.env pos rfl rfl, dictDisplay_pairs (pairTrees [some k] [v] X.env pos) (by intro z; cases z) (by show 1 < 17; decide)]
  refine wpAny_bind (wpAny_standAt (wpAny_bind (wpAny_subDictH (knd := tupleKind (mixKind X.prog X.w)) (Q := fun d s' => wpAny (model X.prog X.w) X.A (pure (Value.ref d)) (EP X pins σ Q) X.xe s') (show X.A.units < cLine by omega) (by show 1 ≤ 15; decide) ?_)))
  refine pairTrees_cons_walk (thn (hk.run pins _ σ _ _ I0 (h _ hn)) fun u s1 ⟨y, H2, I1, ry, q1⟩ => thn (hv.run pins s1 σ H2 _ I1 q1) fun w2 s2 ⟨z, H3, I2, rz, b, ks, ey, hb, hp, q2⟩ => pairTrees_nil_walk ?_)
  subst ey
  cases (show u = Value.ref b from ry)
  obtain ⟨z0, hd, xs, rel, dd⟩ := dt_of I2.hok hp
  cases rel
  refine ⟨[(ks, b, w2)], ⟨rfl, rfl, key_of I2.hok hb, True.intro⟩, dd, fun h' tk dd' hs => wpAny_pure ⟨.ref s.heap.objs.size, _, ?_, rfl, q2⟩⟩
  have d2 : h'.DictOfH (tupleKind (mixKind X.prog X.w)) s.heap.objs.size [(ks, b, w2)] := dd'
  obtain ⟨o, es, ep, ho, h2, h3, h4, _, h5⟩ := d2
  refine d_write I2 (by rw [hp]; exact True.intro) hs ⟨o, ho⟩ ⟨(by show 1 ≤ sizeLine; decide), hd, [(ks, b, w2)], .cons ⟨rfl, ?_, rz⟩ .nil, o, es, ep, ho, h2, h3, h4, h5⟩
  rw [upd_ne (ne_of hb hp (fun z => nomatch z))]
  exact hb
end
end R5
/-! set(tuple of texts), its length, sorted of it. -/
namespace R5
open PySem PySem.Spec PyProof.Rows L2

/-- an entry of a set of texts -/
def txtOf (e : Int × Value) : Str := match e.2 with
  | .str x _ => x
  | _ => Str.empty
def GoodT (w : World) (e : Int × Value) : Prop := ∃ x tk, e.2 = Value.str x tk ∧ e.1 = hashStr w x
/-- the set of the texts xs stands at a; its table can be walked -/
structure TxtSet (w : World) (h : Heap) (a : Addr) (xs : List Str) (o : Obj) (es : Array (Int × Value)) (ep : Nat) (t : SetTable) : Prop where
  at_ : h.get? a = some o
  exact_ : o.ExactSet
  data : o.data = .set es ep t
  good : ∀ e ∈ es.toList, GoodT w e
  nodup : xs.Nodup
  perm : (es.toList.map txtOf).Perm xs
  few : es.size < scanBound
  fits : t.fits es.size = true
  ris : Ris t.place.toList
  led : w.params.followText "set-order" = true ∨ t.led = true
def SetT (w : World) (h : Heap) (a : Addr) (xs : List Str) : Prop := ∃ o es ep t, TxtSet w h a xs o es ep t
theorem SetT.moved {w : World} {h h' : Heap} {a : Addr} {xs : List Str} (R : SetT w h a xs) (k : ∀ o, h.get? a = some o → h'.get? a = some o) : SetT w h' a xs := by
  obtain ⟨o, es, ep, t, R⟩ := R
  exact ⟨o, es, ep, t, ⟨k o R.at_, R.exact_, R.data, R.good, R.nodup, R.perm, R.few, R.fits, R.ris, R.led⟩⟩
theorem goodT_elems {P : Program} {w : World} {l : List (Int × Value)} (g : ∀ e ∈ l, GoodT w e) : ElemsOf (PySem.strKind P w) l := by
  intro e he
  obtain ⟨x, tk, h1, h2⟩ := g e he
  refine ⟨⟨x, ?_, h2⟩, ?_⟩
  · rw [h1]
    exact strKind_is P w x tk
  · rw [h1]
    rfl
theorem goodT_is {P : Program} {w : World} {e : Int × Value} (g : GoodT w e) (x : Str) : (PySem.strKind P w).is x e.2 = true ↔ txtOf e = x := by
  obtain ⟨y, tk, h1, _⟩ := g
  unfold txtOf
  rw [h1]
  show Value.isStrOf x (.str y tk) = true ↔ y = x
  simp only [Value.isStrOf, beq_iff_eq, decide_eq_true_eq]
section
variable {P : Program} {w : World} {A : Around} {E : Value → Shared → Prop} {s : Shared} {a : Addr} {xs : List Str}

theorem store_end {g : Bool → Sem Unit} (hg : ∀ (b : Bool) (s1 : Shared) (Q' : Unit → Shared → Prop), Q' () s1 → wpAny (model P w) A (g b) Q' E s1) {o : Obj} {es es1 : Array (Int × Value)} {ep : Nat} {t t2 : SetTable} {ys : List Str} {wd : Bool} {R : Option Bool → Shared → Prop}
    (ho : s.heap.get? a = some o) (hex : o.ExactSet) (hd : o.data = .set es ep t) (g1 : ∀ e ∈ es1.toList, GoodT w e) (nd : ys.Nodup) (pm1 : (es1.toList.map txtOf).Perm ys) (hb1 : es1.size < scanBound) (hf2 : t2.fits es1.size = true)
    (hr : Ris t2.place.toList) (hl : w.params.followText "set-order" = true ∨ t2.led = true) (hR : ∀ h', Heap.SameBut a s.heap h' → SetT w h' a ys → R (some true) { s with heap := h' }) :
    wpAny (model P w) A (do
      storeSet a es1 t2
      if (!wd && t2.tooFull) = true then do
          g (relayAll t2 es1 (SetTable.grown es1.size)).2.2
          storeSet a (relayAll t2 es1 (SetTable.grown es1.size)).1 (relayAll t2 es1 (SetTable.grown es1.size)).2.1
          pure (some true)
        else pure (some true)) R E s := by
  refine wpAny_bind (wpAny_storeSet_of ho hd ?_ (fits_of_scanBound hb1))
  have q1 := store_at (es' := es1) (t' := t2) ho hd
  have b1 := Heap.SameBut.update s.heap a (Obj.putSet es1 t2)
  split
  · have pm := relayAll_perm t2 es1 (SetTable.grown es1.size)
    have f3 := relayAll_fits t2 es1 (SetTable.grown es1.size)
    have r3 := relayAll_ris t2 es1 (SetTable.grown es1.size)
    have l3 := relayAll_led t2 es1 (SetTable.grown es1.size)
    revert pm f3 r3 l3
    generalize relayAll t2 es1 (SetTable.grown es1.size) = Z
    obtain ⟨es2, t3, gave⟩ := Z
    intro pm f3 r3 l3
    dsimp only at pm f3 r3 l3 ⊢
    have sz : es2.size = es1.size := by rw [← Array.length_toList, pm.length_eq, Array.length_toList]
    have b2 : es2.size < scanBound := by rw [sz]; exact hb1
    refine wpAny_bind (hg _ _ _ (wpAny_bind (wpAny_storeSet_of q1 rfl ?_ (fits_of_scanBound b2))))
    have q2 := store_at (es' := es2) (t' := t3) q1 rfl
    refine wpAny_pure (hR _ (b1.trans (Heap.SameBut.update _ a _)) ⟨_, es2, _, t3, q2, hex, rfl, fun e he => g1 e (pm.mem_iff.mp he), nd, (pm.map txtOf).trans pm1, b2, f3, r3, ?_⟩)
    exact hl.imp _root_.id fun z => l3.trans z
  · exact wpAny_pure (hR _ b1 ⟨_, es1, _, t2, q1, hex, rfl, g1, nd, pm1, hb1, hf2, hr, hl⟩)

/-- one text added -/
theorem add_txt {x : Str} {tk : Tok} {Q : Bool → Shared → Prop} (R : SetT w s.heap a xs) (room : xs.length + 1 < scanBound)
    (hQ : ∀ (b : Bool) h', Heap.SameBut a s.heap h' → SetT w h' a (if x ∈ xs then xs else xs ++ [x]) → Q b { s with heap := h' }) : wpAny (model P w) A (setAddHashed a (.str x tk) ((PySem.strKind P w).hash x)) Q E s := by
  obtain ⟨o, es, ep, t, R⟩ := R
  have hkey : (PySem.strKind P w).is x (.str x tk) = true := strKind_is P w x tk
  have hsc : (Value.str x tk).scannable = true := rfl
  have hel : ElemsOf (PySem.strKind P w) es.toList := goodT_elems R.good
  have hsize : es.size = xs.length := by
    have := R.perm.length_eq
    rw [List.length_map, Array.length_toList] at this
    exact this
  unfold setAddHashed setAddHashedIn
  refine wpAny_holding (wpAny_bind (wpAny_setState_of R.at_ R.data R.fits ?_))
  dsimp only
  rw [byScan_of hsc R.few hel]
  simp only [↓reduceIte]
  unfold setAddByScan
  refine wpAny_bind (wpAny_bind (wpAny_rule (wpAny_bind (wpAny_setScan_of hkey R.at_ R.data R.fits hel ?_))))
  cases hfi : List.findIdx? (fun e => (PySem.strKind P w).is x e.2) es.toList with
  | some j =>
    dsimp only
    obtain ⟨hj, pj, _⟩ := List.findIdx?_eq_some_iff_getElem.mp hfi
    have hx : x ∈ xs := by
      have h1 := (goodT_is (P := P) (R.good _ (List.getElem_mem hj)) x).mp pj
      exact R.perm.mem_iff.mp (List.mem_map.mpr ⟨_, List.getElem_mem hj, h1⟩)
    refine wpAny_pure (wpAny_pure (hQ _ s.heap (Heap.SameBut.refl a s.heap) ?_))
    rw [if_pos hx]
    exact ⟨o, es, ep, t, R⟩
  | none =>
    dsimp only
    have hx : x ∉ xs := fun z => by
      obtain ⟨e, he, q⟩ := List.mem_map.mp (R.perm.mem_iff.mpr z)
      have c := List.findIdx?_eq_none_iff.mp hfi e he
      rw [(goodT_is (P := P) (R.good e he) x).mpr q] at c
      cases c
    have hgw : ∀ (b : Bool) {s1 : Shared} {Q' : Unit → Shared → Prop}, Q' () s1 → wpAny (model P w) A (match b with | true => rule "set.scan.the-table-gave-way" | false => pure ()) Q' E s1 := by
      intro b s1 Q' q
      cases b
      · exact wpAny_pure q
      · exact wpAny_rule q
    have pm := layNew_perm t es ((PySem.strKind P w).hash x) (.str x tk)
    have f1 := layNew_fits t es ((PySem.strKind P w).hash x) (.str x tk)
    have r1 := layNew_ris t es ((PySem.strKind P w).hash x) (.str x tk) R.ris
    have l1 := layNew_led t es ((PySem.strKind P w).hash x) (.str x tk)
    revert pm f1 r1 l1
    generalize layNew t es ((PySem.strKind P w).hash x) (.str x tk) = Z
    obtain ⟨es1, t1, wd, gave⟩ := Z
    intro pm f1 r1 l1
    dsimp only at pm f1 r1 l1 ⊢
    rw [Array.toList_push] at pm
    have g1 : ∀ e ∈ es1.toList, GoodT w e := by
      intro e he
      rcases List.mem_append.mp (pm.mem_iff.mp he) with z | z
      · exact R.good e z
      · rw [List.mem_singleton.mp z]
        exact ⟨x, tk, rfl, rfl⟩
    have p1 : (es1.toList.map txtOf).Perm (xs ++ [x]) := by
      have := pm.map txtOf
      rw [List.map_append] at this
      exact this.trans (R.perm.append_right _)
    have nd : (xs ++ [x]).Nodup := by
      rw [List.nodup_append]
      refine ⟨R.nodup, by simp, fun y hy z hz e => ?_⟩
      rw [List.mem_singleton.mp hz] at e
      exact hx (e ▸ hy)
    have sz : es1.size = xs.length + 1 := by
      have := pm.length_eq
      rw [Array.length_toList, List.length_append, Array.length_toList, hsize] at this
      exact this
    have b1 : es1.size < scanBound := by rw [sz]; exact room
    have led : w.params.followText "set-order" = true ∨ t1.led = true := R.led.imp _root_.id fun z => l1.trans z
    have fin : ∀ h', Heap.SameBut a s.heap h' → SetT w h' a (xs ++ [x]) → Q true { s with heap := h' } := fun h' sb r => hQ true h' sb (by rw [if_neg hx]; exact r)
    refine wpAny_bind (hgw _ ?_)
    split
    · refine wpAny_bind ?_
      rw [hashByValue_scannable 8 hsc]
      refine wpAny_pure ?_
      refine store_end (fun b s1 Q' q => ?_) R.at_ R.exact_ R.data g1 nd p1 b1 ?_ ?_ ?_ ?_
      · cases b
        · exact wpAny_pure q
        · exact wpAny_rule q
      · first | (split <;> first | exact f1 | exact SetTable.fits_plain_off f1) | exact f1
      · first | (split <;> exact r1) | exact r1
      · first | (split <;> exact led) | exact led
      · intro h' sb r
        dsimp only
        exact wpAny_pure (fin h' sb r)
    · refine wpAny_bind (wpAny_pure ?_)
      simp only [↓reduceIte]
      refine store_end (fun b s1 Q' q => ?_) R.at_ R.exact_ R.data g1 nd p1 b1 f1 r1 led ?_
      · cases b
        · exact wpAny_pure q
        · exact wpAny_rule q
      · intro h' sb r
        dsimp only
        exact wpAny_pure (fin h' sb r)

theorem setT_fresh (w : World) (h : Heap) : SetT w (h.push { cls := .type "set", dict := none, data := .set #[] 0 (.fresh 0 0 (!w.params.followText "set-order")) }) h.objs.size [] := by
  refine ⟨_, #[], 0, _, Heap.get?_push_size _ rfl, ⟨rfl, rfl, rfl⟩, rfl, fun e he => by simp at he, List.nodup_nil, List.Perm.refl _, by decide, rfl, List.Pairwise.nil, ?_⟩
  show _ ∨ (!w.params.followText "set-order") = true
  cases w.params.followText "set-order"
  · exact .inr rfl
  · exact .inl rfl
/-- the texts met, each once -/
def dedup (xs : List Str) : List Str := xs.foldl (fun acc x => if x ∈ acc then acc else acc ++ [x]) []
def dedupAt (xs : List Str) (i : Nat) : List Str := dedup (xs.take i)
theorem dedup_snoc (xs : List Str) (x : Str) : dedup (xs ++ [x]) = if x ∈ dedup xs then dedup xs else dedup xs ++ [x] := by
  unfold dedup
  rw [List.foldl_append]
  rfl
theorem dedup_len : ∀ i (xs : List Str), (dedup (xs.take i)).length ≤ i
  | 0, xs => by
    rw [List.take_zero]
    exact Nat.le_refl _
  | i + 1, xs => by
    have ih := dedup_len i xs
    rw [List.take_add_one]
    cases xs[i]? with
    | none =>
      show (dedup (xs.take i ++ [])).length ≤ _
      rw [List.append_nil]
      omega
    | some x =>
      show (dedup (xs.take i ++ [x])).length ≤ _
      rw [dedup_snoc]
      split
      · omega
      · rw [List.length_append, List.length_singleton]
        omega
theorem set_walk {R : Result → Shared → Prop} {I : Addr} {fp wr : List Addr} {G : Array GenState → Array GenState → Prop} {n : Nat} {Pv : Nat → Value → Prop} {St : Nat → Shared → Prop} (W : WalksS P w A.in1 I fp wr G n Pv St) (S : Addr) (hSf : S ∉ fp) (hn : xs.length = n) (hfew : n + 1 < scanBound)
    (hval : ∀ i v, Pv i v → ∃ x t, xs[i]? = some x ∧ v = .str x t) : ∀ (k i : Nat) (s : Shared), n - i = k → i ≤ n → St i s → SetT w s.heap S (dedup (xs.take i)) →
      (∀ s', Moved (S :: wr) G s s' → SetT w s'.heap S (dedup xs) → R (.ok (.ret .none)) s') → codeAny (model P w) A (.builtin "set.update.loop" ⟨[.ref S, .ref I], []⟩) R s := by
  have hSw : S ∉ wr := fun h => hSf (W.sub _ h)
  have hsub : ∀ b ∈ wr, b ∈ S :: wr := fun b hb => List.mem_cons_of_mem _ hb
  intro k
  induction k with
  | zero =>
    intro i s hk hi hst hS hR
    have hin : i = n := by omega
    refine codeAny_builtin F.entry_set_update_loop ?_
    rw [Around.under_plainId F.plain_set_update_loop _]
    subst hin
    refine wpAny_bind (W.done s _ _ hst fun s' hm => ?_)
    refine wpAny_pure (hR s' (hm.mono hsub) ?_)
    rw [← hn, List.take_length] at hS
    exact hS.moved fun o e => hm.heap S o hSw e
  | succ k ih =>
    intro i s hk hi hst hS hR
    have hlt : i < n := by omega
    refine codeAny_builtin F.entry_set_update_loop ?_
    rw [Around.under_plainId F.plain_set_update_loop _]
    refine wpAny_bind (W.item i s _ _ hlt hst fun v s' hP hst' hm => ?_)
    obtain ⟨x, t, hx, rfl⟩ := hval i v hP
    have hS' : SetT w s'.heap S (dedup (xs.take i)) := hS.moved fun o e => hm.heap S o hSw e
    show wpAny _ A.in1 (holding [Value.str x t] (setAdd S (.str x t)) >>= _) _ _ s'
    refine wpAny_bind (wpAny_holding ?_)
    unfold setAdd
    refine wpAny_holding (wpAny_bind ((PySem.strKind P w).pyHash (k := x) (strKind_is _ _ _ _) ?_))
    have hlen := dedup_len i xs
    refine add_txt (s := { s' with toks := s'.toks + 1 }) hS' (by omega) fun b h' hsb hS2 => ?_
    have e1 : (if x ∈ dedup (xs.take i) then dedup (xs.take i) else dedup (xs.take i) ++ [x]) = dedup (xs.take (i + 1)) := by
      rw [List.take_add_one, hx]
      exact (dedup_snoc _ _).symm
    rw [e1] at hS2
    refine wpAny_pure ⟨plainId_quiet F.plain_set_update_loop _, ih (i + 1) _ (by omega) hlt (W.frame _ s' _ _ hst' (Nat.le_succ _) fun b hb o e => ?_) hS2 fun s2 hm2 h2 => hR s2 (Moved.trans W.gtrans ((hm.mono hsub).then_heap (Nat.le_succ _) fun b o hb e => ?_) hm2) h2⟩
    · exact (hsb.2 b fun z => hSf (z ▸ hb)).trans e
    · exact (hsb.2 b fun z => hb (by rw [z]; exact List.mem_cons_self)).trans e

/-- set.__new__, its mark told -/
theorem code_new1 (v : Value) {Q₁ : Value → Shared → Prop} (h : Q₁ (.ref s.heap.objs.size) { s with heap := s.heap.push { cls := .type "set", dict := none, data := .set #[] 0 (.fresh 0 0 (!w.params.followText "set-order")) } }) :
    codeAny (model P w) A (.call (.builtin "set.__new__") ⟨[.type "set", v], []⟩) (wants Q₁ E) s := by
  refine codeAny_of_tree ?_
  show wpAny _ A.in1 (do checkBuiltinCall "set.__new__" ⟨[.type "set", v], []⟩; again (.builtin "set.__new__" ⟨[.type "set", v], []⟩)) _ _ s
  refine wpAny_bind (wpAny_of_eq (F.newCall_set_1 v) (wpAny_pure ⟨plainId_quiet F.plain_set_new _, codeAny_builtin F.entry_set_new ?_⟩))
  rw [Around.under_plainId F.plain_set_new _]
  unfold Builtin.«set.__new__» Builtin.Frozenset.newClass
  have hsub := sub_set_self
  obtain ⟨hp, g, d, tk, os⟩ := s
  dsimp only
  wp_walk
  refine wpAny_askSetting (wpAny_pure ?_)
  dsimp only
  simp only [newObj]
  exact wpAny_bind (wpAny_alloc (wpAny_pure (wpAny_pure h)))

set_option maxHeartbeats 3200000 in
theorem set_of_tuple {l : Addr} {items : Array Value} {Q : Value → Shared → Prop} (hh : A.handled = none) (hl : s.heap.IsTuple l items) (hi : StrsAre items.toList xs) (hfew : items.size + 1 < scanBound)
    (h : ∀ (h' : Heap) (tk : Nat), SetT w h' s.heap.objs.size (dedup xs) → (∀ b o, s.heap.get? b = some o → h'.get? b = some o) → Q (.ref s.heap.objs.size) { s with heap := h', toks := tk }) :
    wpAny (model P w) A (call (.type "set") [.ref l]) Q E s := by
  obtain ⟨c, tl, hmro⟩ := F.called_set.mro
  have hmade := F.called_set.made
  have hsub := F.called_set.sub
  refine wpAny_call (codeAny_of_tree ?_)
  show wpAny _ _ (callAny (.type "set") _) _ _ _
  refine wpAny_pure ⟨Code.quiet_builtin _ (by decide +kernel), codeAny_builtin F.entry_type_call ?_⟩
  rw [Around.under_plain (weight_type_call_type "set" [.ref l] []) rfl]
  have h1 := F.called_set.notType
  have h2 := F.called_set.canCreate
  have hct := F.typeCall_set_1 (.ref l)
  repeat (any_goals (first | assumption | wp_step))
  have fresh := setT_fresh w s.heap
  have mk := code_new1 (P := P) (w := w) (A := A.in1) (s := s) (.ref l) (E := E) (Q₁ := fun obj s₁ => obj = .ref s.heap.objs.size ∧ s₁ = { s with heap := s.heap.push { cls := .type "set", dict := none, data := .set #[] 0 (.fresh 0 0 (!w.params.followText "set-order")) } }) ⟨rfl, rfl⟩
  revert fresh mk
  generalize (!w.params.followText "set-order") = led0
  intro fresh mk
  refine codeAny_mono mk fun r s₁ hr => ?_
  cases r with
  | error e => exact hr
  | ok fl =>
    cases fl with
    | ret obj =>
      obtain ⟨rfl, rfl⟩ := hr
      have hS : (s.heap.push { cls := .type "set", dict := none, data := .set #[] 0 (.fresh 0 0 led0) }).get? s.heap.objs.size = some ({ cls := .type "set", dict := none, data := .set #[] 0 (.fresh 0 0 led0) } : Obj) := Heap.get?_push_size _ rfl
      have hT : Shared.TypeIs { s with heap := s.heap.push { cls := .type "set", dict := none, data := .set #[] 0 (.fresh 0 0 led0) } } (.ref s.heap.objs.size) "set" := ⟨_, hS, rfl⟩
      have hli := F.called_set.init.lookup
      have hbi := F.called_set.init.bind (.ref s.heap.objs.size)
      repeat (any_goals (first | assumption | wp_step))
      refine codeAny_mono (codeAny_call_builtin (R := wants (fun r s₂ => r = .none ∧ ∃ h' tk, s₂ = { s with heap := h', toks := tk } ∧ SetT w h' s.heap.objs.size (dedup xs) ∧ (∀ b o, s.heap.get? b = some o → h'.get? b = some o)) E)
        F.called_set.init.plain F.entry_set_init (check_set_init_1 hT ?_)) fun r₂ s₂ hr₂ => ?_
      · obtain ⟨ol, hol, hcl, nl, hdl⟩ := hl
        obtain ⟨ocls, odict, odata, oslots⟩ := ol
        simp only at hcl hdl
        subst hcl hdl
        have hol2 : (s.heap.push { cls := .type "set", dict := none, data := .set #[] 0 (.fresh 0 0 led0) }).get? l = some { cls := .type "tuple", dict := odict, data := .seq items nl, slots := oslots } := Heap.get?_push_of_some _ hol
        have hsls := F.sub_tuple_set
        have hslf := F.sub_tuple_frozenset
        have hne : (Value.type "tuple" == Value.type "dict") = false := by decide
        have hl1 : (s.heap.push { cls := .type "set", dict := none, data := .set #[] 0 (.fresh 0 0 led0) }).IsTuple l items := ⟨_, hol2, rfl, nl, rfl⟩
        unfold Builtin.«set.__init__» noKeywords Builtin.Frozenset.updateFrom
        generalize hPI : pyIter = PI
        wp_walk
        subst hPI
        refine wpAny_pyIter_tuple hl1 ?_
        refine wpAny_bind (wpAny_runValue ?_)
        have hlS : l < s.heap.objs.size := Heap.lt_size hol
        have hh3 : A.in1.in1.in1.handled = none := by simp [hh]
        have hz : (s.heap.push { cls := .type "set", dict := none, data := .set #[] 0 (.fresh 0 0 led0) }).objs.size = s.heap.objs.size + 1 := Heap.size_push ..
        have hneI : l ≠ (s.heap.push { cls := .type "set", dict := none, data := .set #[] 0 (.fresh 0 0 led0) }).objs.size := by
          rw [hz]
          exact Nat.ne_of_lt (Nat.lt_succ_of_lt hlS)
        have hSf : s.heap.objs.size ∉ [(s.heap.push { cls := .type "set", dict := none, data := .set #[] 0 (.fresh 0 0 led0) }).objs.size, l] := by
          rw [hz]
          simp only [List.mem_cons, List.not_mem_nil, or_false, not_or]
          exact ⟨Nat.ne_of_lt (Nat.lt_succ_self _), Nat.ne_of_gt hlS⟩
        have hlen : xs.length = items.size := by rw [← StrsAre.len_eq hi, Array.length_toList]
        refine set_walk (xs := xs) ((Walks.tuple hh3 _ l hneI items).toS) s.heap.objs.size hSf hlen hfew (fun i v hv => ?_) (items.size - 0) 0 _ (by omega) (Nat.zero_le _)
          ⟨⟨_, Heap.get?_push_size _ rfl, rfl, rfl⟩, (hl1.push _)⟩ ?_ ?_
        · have hv' : items[i]? = some v := hv
          obtain ⟨t, e⟩ := SS.strs_at hi i v (by rw [Array.getElem?_toList]; exact hv')
          have hil : i < xs.length := by
            rw [hlen]
            exact (Array.getElem?_eq_some_iff.mp hv').1
          refine ⟨xs[i], t, List.getElem?_eq_getElem hil, ?_⟩
          rw [e, List.getD_eq_getElem?_getD, List.getElem?_eq_getElem hil]
          rfl
        · rw [List.take_zero]
          exact fresh.moved fun o e => Heap.get?_push_of_some _ e
        · intro s' hm hS'
          obtain ⟨h', g', d', tk', os'⟩ := s'
          have eg : g' = s.gens := hm.gens
          have ed : d' = s.drawn := hm.drawn
          have eo : os' = s.os := hm.os
          subst eg ed eo
          refine wpAny_pure (wpAny_pure ⟨rfl, h', tk', rfl, hS', fun b o e => ?_⟩)
          have hb := Heap.lt_size e
          refine hm.heap b o ?_ (Heap.get?_push_of_some _ (Heap.get?_push_of_some _ e))
          simp only [List.mem_cons, List.not_mem_nil, or_false, not_or]
          exact ⟨Nat.ne_of_lt hb, by rw [hz]; exact Nat.ne_of_lt (Nat.lt_succ_of_lt hb)⟩
      · cases r₂ with
        | error e => exact hr₂
        | ok fl₂ =>
          cases fl₂ with
          | ret r =>
            obtain ⟨rfl, h', tk, rfl, hS', hk'⟩ := hr₂
            repeat (any_goals (first | assumption | wp_step))
            exact h _ _ hS' hk'
          | _ => exact hr₂.elim
    | _ => exact hr.elim
end

/-! ### over the layer -/
def TSet (w : World) (a : Addr) (xs : List Str) : HO := .ext fun h => SetT w h a xs
section
variable {X : Cx}
theorem tset_new {w : World} {P : Program} {H : Hp} {h : Heap} {a : Addr} {xs : List Str} (R : SetT w h a xs) : ObjOk P w H h a (TSet w a xs) := by
  obtain ⟨o, es, ep, t, R'⟩ := _root_.id R
  exact ⟨R, ⟨o, R'.at_⟩, fun h1 h2 p k => SetT.moved p k⟩
theorem tset_get {pins : List (Addr × Obj)} {σ : L2.St} {H : Hp} {s : Shared} {a : Addr} {xs : List Str} (I : Inv X pins σ H s) (ha : H a = some (TSet X.w a xs)) : SetT X.w s.heap a xs := (I.hok a _ ha).1
def rSetTup (K : PySem.W.Frag) (w : World) : List V → Hp → VK → Prop := fun us H Q => ∃ (a : Addr) (xs : List Str), us = [.ref a] ∧ SqT K H a (xs.map V.str) ∧ xs.length ≤ 1000 ∧ ∀ p, H p = none → Q (.ref p) (upd H p (TSet w p (dedup xs)))
theorem cr_setTup (hc : X.calm = true) : CallR X (.type "set") (rSetTup X.K X.w) := by
  intro pins s σ H us ws Q I r h
  obtain ⟨a, xs, rfl, hs, hl, q⟩ := h
  rw [Vals.ref1 r]
  obtain ⟨its, rv, pt, _⟩ := I.tuple hs
  have hlen : its.length = xs.length := by rw [← rv.length, List.length_map]
  refine set_of_tuple (xs := xs) (I.ok.hd hc) pt (by simpa using strsAre_of rv) (by rw [List.size_toArray, hlen]; unfold scanBound; omega) fun h' tk R k => ?_
  have hn : H s.heap.objs.size = none := I.hok.fresh (Nat.le_refl _)
  exact ⟨.ref s.heap.objs.size, _, I.laid (o := TSet X.w s.heap.objs.size (dedup xs)) (t' := tk) k (Nat.le_refl _) (tset_new R), rfl, q _ hn⟩
theorem TxtSet.len {w : World} {h : Heap} {a : Addr} {xs : List Str} {o : Obj} {es : Array (Int × Value)} {ep : Nat} {t : SetTable} (R : TxtSet w h a xs o es ep t) : es.size = xs.length := by
  have := R.perm.length_eq
  rw [List.length_map, Array.length_toList] at this
  exact this
def rLenTset (w : World) : List V → Hp → VK → Prop := fun us H Q => ∃ (a : Addr) (xs : List Str), us = [.ref a] ∧ H a = some (TSet w a xs) ∧ Q (.int xs.length) H
theorem cr_lenTset : CallR X (.builtin "len") (rLenTset X.w) := by
  intro pins s σ H us ws Q I r h
  obtain ⟨a, xs, rfl, ha, q⟩ := h
  rw [Vals.ref1 r]
  obtain ⟨o, es, ep, t, R⟩ := tset_get I ha
  have hf := R.few
  unfold scanBound at hf
  exact call_len_set R.at_ R.exact_ R.data R.fits (by omega) ⟨.int xs.length, H, I.tok _, ⟨_, by rw [R.len]⟩, q⟩
/-- sorted of such a set -/
def encS (x : Str) : PyData := .str x
def srtS (xs : List Str) : List Str := xs.mergeSort (PySem.W.dataLe false encS)
def rSortTset (w : World) : List V → Hp → VK → Prop := fun us H Q => ∃ (a : Addr) (xs : List Str), us = [.ref a] ∧ H a = some (TSet w a xs) ∧ xs.length ≤ 1000 ∧ ∀ p (ys : List Str), H p = none → ys.Perm xs → Q (.ref p) (upd H p (.lst (ys.map V.str)))
theorem cr_sortTset (hc : X.calm = true) (hu : X.A.units + 64 < cLine) : CallR X (.builtin "sorted") (rSortTset X.w) := by
  intro pins s σ H us ws Q I r h
  obtain ⟨a, xs, rfl, ha, hl, q⟩ := h
  rw [Vals.ref1 r]
  obtain ⟨o, es, ep, t, R⟩ := tset_get I ha
  refine sorted_any (collect_set (A := X.A.in1) (I.ok.hd hc) ⟨o, R.at_, R.exact_.1, R.data⟩ R.fits R.few R.ris R.led fun s1 vs k hz hg ho pm => ?_)
  have rv : Vals ((vs.map fun v => txtOf (0, v)).map V.str) vs := by
    have all : ∀ v ∈ vs, ∃ x tk, v = Value.str x tk := fun v hv => by
      obtain ⟨e, he, q⟩ := List.mem_map.mp (pm.mem_iff.mp hv)
      obtain ⟨x, tk, h1, _⟩ := R.good e he
      exact ⟨x, tk, by rw [← q]; exact h1⟩
    clear pm
    induction vs with
    | nil => exact .nil
    | cons v vs ih =>
      obtain ⟨x, tk, rfl⟩ := all v List.mem_cons_self
      exact .cons ⟨tk, rfl⟩ (ih fun u hu => all u (List.mem_cons_of_mem _ hu))
  have pm2 : (vs.map fun v => txtOf (0, v)).Perm xs := by
    have := pm.map fun v => txtOf (0, v)
    rw [List.map_map] at this
    exact this.trans R.perm
  have e1 : s1 = { s with heap := s1.heap, gens := s1.gens, drawn := s1.drawn, toks := s1.toks } := by
    cases s1
    cases s
    cases ho
    rfl
  have J : Inv X pins σ H { s with heap := s1.heap, gens := s1.gens, drawn := s1.drawn, toks := s1.toks } :=
    I.call (ch := []) (Un.kept k) (I.hok.kept k) (by rw [hg]; exact I.bare) (fun _ z => nomatch z)
  rw [← e1] at J
  refine sort_tail (g := fun x : Str => V.str x) (enc := encS) (bs := vs.map fun v => txtOf (0, v)) J rv ⟨fun b _ => Dp.str b, PySem.W.AllAlike.of fun a b => by simp [encS, PySem.W.alike], .inl (PySem.W.Sortable.others fun b => And.intro (by simp [encS]) (by simp [encS])), ?_, fun b _ => ?_⟩ fun p hp => ?_
  · rw [pm2.length_eq]
    exact Nat.le_of_lt (small1000 hl)
  · have : (encS b).depth = 0 := by simp [encS, PyData.depth]
    rw [this]
    omega
  · exact q p _ hp ((List.mergeSort_perm _ _).trans pm2)
end
end R5
/-! text * n, int of a long text, list of a text. -/
namespace R5
open PySem PySem.Spec PyProof.Rows L2

section
variable {X : Cx}
def rMulStr : R2 := fun x y H Q => ∃ (z : Str) (k : Int), x = .str z ∧ y = .int k ∧ 2 ≤ k ∧ k ≤ 1000 ∧ 1 ≤ z.length ∧ z.length ≤ 1000 ∧ Q (.str ⟨(List.replicate k.toNat z.cps).foldl (· ++ ·) #[]⟩) H
theorem rep_size (x : Array Nat) : ∀ (k : Nat) (acc : Array Nat), ((List.replicate k x).foldl (· ++ ·) acc).size = acc.size + k * x.size
  | 0, acc => by simp
  | k + 1, acc => by
    rw [List.replicate_succ, List.foldl_cons, rep_size x k, Array.size_append, Nat.succ_mul]
    omega
theorem op_mulStr : OpR X (binaryOp .Mult) rMulStr := by
  intro pins s σ H x y v u Q I rx ry h
  obtain ⟨z, k, rfl, rfl, h1, h2, h3, h4, q⟩ := h
  obtain ⟨t, rfl⟩ := rx
  obtain ⟨t', rfl⟩ := ry
  have hz : z.length * k.toNat ≤ 1000000 := by
    have : k.toNat ≤ 1000 := by omega
    calc z.length * k.toNat ≤ 1000 * 1000 := Nat.mul_le_mul h4 this
      _ = 1000000 := rfl
  have e1 : (k == 1 || z.length == 0) = false := by
    have a1 : (k == 1) = false := beq_eq_false_iff_ne.mpr (by omega)
    have a2 : (z.length == 0) = false := beq_eq_false_iff_ne.mpr (by omega)
    rw [a1, a2]
    rfl
  refine P.mul_str ?_ (fun _ _ => ?_) (fun _ _ => ?_) ?_
  · rw [decide_eq_false (by omega), decide_eq_false (by omega)]
    rfl
  · intro hc
    have h5 : (1000 : Int) ≤ (2 ^ 63 - 1) / k := by
      rw [Int.le_ediv_iff_mul_le (by omega)]
      omega
    omega
  · unfold Builtin.Str.tooLong
    have : z.length * k.toNat ≤ sizeLine := by rw [sizeLine_eq]; omega
    simpa using this
  · rw [if_neg (by omega), if_neg (by rw [e1]; exact Bool.false_ne_true)]
    refine ⟨?_, ⟨.str _, H, I.tok _, ⟨_, rfl⟩, q⟩⟩
    first
      | (show (⟨(List.replicate k.toNat z.cps).foldl (· ++ ·) #[]⟩ : Str).length ≤ sizeLine
         show ((List.replicate k.toNat z.cps).foldl (· ++ ·) #[]).size ≤ sizeLine
         rw [rep_size, sizeLine_eq]
         have : k.toNat * z.cps.size = z.length * k.toNat := Nat.mul_comm _ _
         simp only [Array.size_empty]
         omega)
      | trivial
end

/-! ### int of a long text -/
theorem text_run {M : Model} {A : Around} {E : Value → Shared → Prop} {s : Shared} {Q : Value → Shared → Prop} {v : Value} {text : List Nat} {n : Int} (hs : ¬ (text.takeWhile (· != 0)).length ≤ 640)
    (hlim : PySem.W.Looks M s.heap (nsGet cStatics "sys.int_max_str_digits") none) (hr : (int_private% "readNumeral") 4300 10 (text.takeWhile (· != 0)) = (int_private% "Numeral.value") n)
    (ha : ((text.takeWhile (· != 0)).length == text.length) = true) (h : Q (.int n s.toks) { s with toks := s.toks + 1 }) : wpAny M A ((int_private% "intFromText") v text 10) Q E s := by
  obtain ⟨hp, g, d, tk, os⟩ := s
  show wpAny M A (if (text.takeWhile (· != 0)).length ≤ 640 then _ else _) Q E _
  rw [if_neg hs]
  refine wpAny_bind ?_
  unfold Builtin.intMaxStrDigits
  refine wpAny_bind (hlim.here ?_)
  refine wpAny_pure ?_
  dsimp only
  rw [hr]
  dsimp only
  rw [if_pos ha]
  repeat (any_goals (first | assumption | wp_step))
structure Hide (p : Prop) : Prop where
  out : p
set_option maxHeartbeats 4000000 in
theorem meets_text {x : Str} {u : Tok} {n : Int} (h0 : ¬ (numSeenOf x).length ≤ 640) (hn : intText? x = some n) (hx : x.length ≤ sizeLine) :
    Meets (Builtin.«int.__new__» ⟨[.type "int", .str x u], []⟩) (fun _ R s => (∀ M, PySem.W.Looks M s.heap (nsGet cStatics "sys.int_max_str_digits") none) ∧ R (.ok (.ret (.int n s.toks))) { s with toks := s.toks + 1 }) :=
  .of_wp fun prog w A R s h => by
    obtain ⟨hp, g, d, tk, os⟩ := s
    obtain ⟨hlim, h⟩ := h
    have f1 := F.conv_sub_int
    have f2 := F.madeHere_int
    have f3 := PySem.W.KIN.str_int
    have f4 := PySem.W.KIN.str_idx
    have f5 := PySem.W.KIN.str_trunc
    have f6 : typeOf (.str x u) = pure (.type "str") := rfl
    have hr : ((numSeenOf x).length == (numTextOf x).length) = true ∧ (int_private% "readNumeral") 4300 10 (numSeenOf x) = (int_private% "Numeral.value") n := by
      rcases read4300 x hx with ⟨m, h1, h2, h3⟩ | ⟨h1, _⟩
      · rw [hn] at h1
        injection h1 with h1
        subst h1
        exact ⟨h2, h3⟩
      · rw [hn] at h1
        cases h1
    have hk := Hide.mk (And.intro h0 hr)
    clear h0 hr hn hx
    have hl := Hide.mk hlim
    clear hlim
    repeat (any_goals (first
      | assumption
      | ((with_reducible show wpAny _ _ ((int_private% "intFromText") _ _ _) _ _ _); refine text_run hk.out.1 (hl.out _) hk.out.2.2 hk.out.2.1 ?_)
      | wp_step))
    all_goals first | exact ⟨_, rfl, h⟩ | skip
section
variable {X : Cx}
def rIntText (K : PySem.W.Frag) : List V → Hp → VK → Prop := fun us H Q => ∃ (x : Str) (n : Int), us = [.str x] ∧ 640 < (numSeenOf x).length ∧ intText? x = some n ∧ x.length ≤ sizeLine ∧ PySem.W.nsIn K cStatics "sys.int_max_str_digits" = some none ∧ Q (.int n) H
theorem cr_intText : CallR X (.type "int") (rIntText X.K) := by
  intro pins s σ H us ws Q I r h
  obtain ⟨x, n, rfl, h0, hn, hx, hk, q⟩ := h
  obtain ⟨u, rfl, ⟨t, rfl⟩⟩ := vals1 r
  exact call_int_1 (meets_text (by omega) hn hx) ⟨fun M => PySem.W.looks_nsIn I.kIn hk, rfl, ⟨.int n, H, I.tok _, ⟨_, rfl⟩, q⟩⟩
end

/-! ### list of a text -/
theorem signs_vals {x : Str} {acc : Array Value} (h : ItemsOf (SignAt x) acc x.cps.size) : Vals (x.cps.toList.map fun c => V.str ⟨#[c]⟩) acc.toList := by
  refine vals_of_at ?_ fun j y u hy hu => ?_
  · rw [List.length_map, Array.length_toList, Array.length_toList, h.1]
  · obtain ⟨c, t, h1, h2⟩ := h.2 j u (by rw [← Array.getElem?_toList]; exact hu)
    rw [List.getElem?_map, Array.getElem?_toList, h1] at hy
    cases hy
    exact ⟨t, h2⟩
section
variable {X : Cx}
def rListStr : List V → Hp → VK → Prop := fun us H Q => ∃ x : Str, us = [.str x] ∧ x.length ≤ 1000 ∧ ∀ p, H p = none → Q (.ref p) (upd H p (.lst (x.cps.toList.map fun c => V.str ⟨#[c]⟩)))
theorem cr_listStr (hc : X.calm = true) : CallR X (.type "list") rListStr := by
  intro pins s σ H us ws Q I r h
  obtain ⟨x, rfl, hx, q⟩ := h
  obtain ⟨u, rfl, ⟨t, rfl⟩⟩ := vals1 r
  have hz : x.cps.size ≤ sizeLine := Nat.le_of_lt (small1000 hx)
  refine call_list_str (I.ok.hd hc) x t (fun h' tk acc c k e it => ?_) hz
  have rv := signs_vals it
  have hl : (x.cps.toList.map fun c => V.str ⟨#[c]⟩).length ≤ sizeLine := by
    rw [List.length_map, Array.length_toList]
    exact hz
  exact ⟨.ref s.heap.objs.size, _, I.laid (o := .lst (x.cps.toList.map fun c => V.str ⟨#[c]⟩)) (t' := tk) k (Nat.le_refl _) ⟨hl, acc.toList, c, rv, by rw [Array.toArray_toList]; exact e⟩, rfl, q _ (I.hok.fresh (Nat.le_refl _))⟩
end
end R5
/-! The walks: whole, place, backs, goings, onward. -/
namespace WK
open PySem PySem.Spec PyProof.Rows L2
/-! ### the text -/
def topS (i : Nat) : Stmt := PySem.Challenge.pw_woundwalks_k11_whole_stretches_and_other.main.body.getD i (.Pass ⟨0, 0, 0, 0⟩)
abbrev sWhole : Stmt := topS 4
abbrev sLook : Stmt := topS 6
abbrev sBacks : Stmt := topS 7
abbrev sGoings : Stmt := topS 8
abbrev sOnward : Stmt := topS 10
abbrev nWhole : List Str := ["thing", "low", "high"]
abbrev nLook : List Str := ["word", "place"]
abbrev nBacks : List Str := ["word", "place", "lower"]
abbrev nOnward : List Str := ["word", "place", "one"]
theorem scWhole : FnScope nWhole ["thing", "low", "high"] (defScope sWhole) := ⟨rfl, rfl, rfl, by decide +kernel, rfl, by decide +kernel, by decide +kernel⟩
theorem scLook : FnScope nLook ["word", "place"] (defScope sLook) := ⟨rfl, rfl, rfl, by decide +kernel, rfl, by decide +kernel, by decide +kernel⟩
theorem scBacks : FnScope nBacks ["word", "place"] (defScope sBacks) := ⟨rfl, rfl, rfl, by decide +kernel, rfl, by decide +kernel, by decide +kernel⟩
theorem scGoings : FnScope nLook ["word", "place"] (defScope sGoings) := ⟨rfl, rfl, rfl, by decide +kernel, rfl, by decide +kernel, by decide +kernel⟩
theorem scOnward : FnScope nOnward ["word", "place"] (defScope sOnward) := ⟨rfl, rfl, rfl, by decide +kernel, rfl, by decide +kernel, by decide +kernel⟩
/-! ### heaps -/
theorem same_upd {H : Hp} {p : Addr} {o : HO} (h : H p = none) : Same H (upd H p o) := fun b x e => by
  rw [upd_ne (ne_of_none e h)]
  exact e
theorem same_upd2 {H0 H : Hp} {p : Addr} {o : HO} (s : Same H0 H) (h : H0 p = none) : Same H0 (upd H p o) := fun b x e => by
  rw [upd_ne (ne_of_none e h)]
  exact s _ _ e
/-! ### built-in names -/
theorem bIsi : bootBuiltins "isinstance" = some (.builtin "isinstance") := by decide +kernel
theorem bInt : bootBuiltins "int" = some (.type "int") := by decide +kernel
theorem bBool : bootBuiltins "bool" = some (.type "bool") := by decide +kernel
theorem bTuple : bootBuiltins "tuple" = some (.type "tuple") := by decide +kernel
theorem bLen : bootBuiltins "len" = some (.builtin "len") := by decide +kernel
theorem bSorted : bootBuiltins "sorted" = some (.builtin "sorted") := by decide +kernel
theorem bMax : bootBuiltins "max" = some (.builtin "max") := by decide +kernel
theorem bMin : bootBuiltins "min" = some (.builtin "min") := by decide +kernel
theorem bSum : bootBuiltins "sum" = some (.builtin "sum") := by decide +kernel
theorem bAll : bootBuiltins "all" = some (.builtin "all") := by decide +kernel
theorem bAbs : bootBuiltins "abs" = some (.builtin "abs") := by decide +kernel
theorem bList : bootBuiltins "list" = some (.type "list") := by decide +kernel
theorem bSet : bootBuiltins "set" = some (.type "set") := by decide +kernel
section
variable {P : Program} {w : World} {K : PySem.W.Frag} {mg : Str → Option Value} {base : Heap}
/-! ### whole -/
def spWhole : Sp := fun vs H Q _ => ∃ i lo hi : Int, vs = [.int i, .int lo, .int hi] ∧ Q (.bl (decide (lo ≤ i) && decide (i ≤ hi))) H
theorem ok_whole {f : Addr} {fd : FuncData} {k : Nat} (F : Fun K "is_whole" "is_whole" sWhole f fd) (mi : mg "isinstance" = none) (mI : mg "int" = none) (mB : mg "bool" = none) : FnOk P w K mg base CX0 (k + 1) f fd ["thing", "low", "high"] spWhole := by
  refine F.ok scWhole (fun vs H Q E h => ?_) (fun cdv A outer s H vs Q E hr h => ?_)
  · obtain ⟨i, lo, hi, rfl, _⟩ := h
    rfl
  · obtain ⟨i, lo, hi, rfl, q⟩ := h
    refine ⟨_, pss_one (ps_ret (pe_and (pe_callB call_isi (by rfl) mi bIsi (pa_cons (pv 0) (pa_cons (pe_bltn (v := .ty "int") (by rfl) mI bInt rfl) pa_nil)))
      (pe_and (pe_not (pe_callB call_isi (by rfl) mi bIsi (pa_cons (pv 0) (pa_cons (pe_bltn (v := .ty "bool") (by rfl) mB bBool rfl) pa_nil))))
      (pe_one (pe_chain op_le op_le (pv 1) (pv 0) (pv 2)))))), ?_⟩
    refine ⟨.int i, rfl, .int i, .ty "int", .type "int", .type "int", true, rfl, .ty "int", .base (TyOf.int _), kit_ty (by decide +kernel), true, rfl, ?_⟩
    refine iteT ?_
    refine ⟨.int i, rfl, .int i, .ty "bool", .type "int", .type "bool", false, rfl, .ty "bool", .base (TyOf.int _), kit_ty (by decide +kernel), false, rfl, true, rfl, iteT ?_⟩
    refine ⟨.int lo, rfl, .int i, rfl, lo, i, rfl, rfl, decide (lo ≤ i), rfl, ?_⟩
    by_cases h1 : lo ≤ i
    · rw [decide_eq_true h1] at q ⊢
      refine iteT ⟨.int hi, rfl, i, hi, rfl, rfl, ?_⟩
      exact q
    · rw [decide_eq_false h1] at q ⊢
      exact iteF q
/-! ### place -/
def spLook : Sp := fun vs H Q _ => ∃ (a : Addr) (xs : List V) (p : Nat), vs = [.ref a, .int p] ∧ H a = some (.tup xs) ∧ p ≤ xs.length ∧ Q .non H
theorem ok_look {f fW : Addr} {fd fdW : FuncData} {k : Nat} (F : Fun K "look_place" "look_place" sLook f fd) (W : FnOk P w K mg base CX0 (k + 1) fW fdW ["thing", "low", "high"] spWhole) (kW : PySem.W.keepIn K (.ref fW) = true) (bW : Binds K fdW ["thing", "low", "high"] []) (gW : mg "is_whole" = some (.ref fW)) (ml : mg "len" = none) :
    FnOk P w K mg base CX0 (k + 2) f fd ["word", "place"] spLook := by
  refine F.ok scLook (fun vs H Q E h => ?_) (fun cdv A outer s H vs Q E hr h => ?_)
  · obtain ⟨a, xs, p, rfl, _⟩ := h
    rfl
  · obtain ⟨a, xs, p, rfl, ha, hp, q⟩ := h
    refine ⟨_, pss_one (ps_if (pt_not (pt_val (pe_call W hr (by rfl) gW kW bW .nil pass0 (pa_cons (pv 1) (pa_cons pe_int (pa_cons (pe_callB call_len_seq (by rfl) ml bLen (pa_cons (pv 0) pa_nil)) pa_nil)))))) (pss_one ps_never) pss_nil), ?_⟩
    refine ⟨.int p, rfl, .ref a, rfl, a, xs, rfl, .inr (.inl (.inl ha)), (p : Int), 0, (xs.length : Int), rfl, ?_⟩
    rw [decide_eq_true (by omega), decide_eq_true (by omega)]
    exact ⟨true, rfl, q⟩

/-! ### backs -/
def nats (ns : List Nat) : List V := ns.map fun (n : Nat) => V.int (n : Int)
theorem at_tup {w : List Str} {i : Int} {j : Nat} (e : i = (j : Int)) (h : j < w.length) : atI (w.map V.str) i = some (.str w[j]) := by
  rw [e]
  refine atI_nat ?_
  rw [List.getElem?_map, List.getElem?_eq_getElem h]
  rfl
theorem range_snoc (i : Nat) : List.range' 1 (i + 1) = List.range' 1 i ++ [1 + i] := by
  rw [List.range'_concat]
  simp
def spBacks : Sp := fun vs H Q _ => ∃ (a : Addr) (w : List Str) (p : Nat), vs = [.ref a, .int p] ∧ H a = some (.tup (w.map V.str)) ∧ p ≤ w.length ∧ w.length ≤ 1000 ∧ ∀ H' t, Same H H' → H' t = some (.tup (nats (WW.backs w p))) → Q (.ref t) H'
theorem ok_backs {f fL : Addr} {fd fdL : FuncData} {k : Nat} (F : Fun K "backs" "backs" sBacks f fd) (L : FnOk P w K mg base CX0 (k + 2) fL fdL ["word", "place"] spLook) (kL : PySem.W.keepIn K (.ref fL) = true) (bL : Binds K fdL ["word", "place"] []) (gL : mg "look_place" = some (.ref fL)) (mr : mg "range" = none) (mt : mg "tuple" = none) :
    FnOk P w K mg base CX0 (k + 3) f fd ["word", "place"] spBacks := by
  refine F.ok scBacks (fun vs H Q E h => ?_) (fun cdv A outer s H vs Q E hr h => ?_)
  · obtain ⟨a, w', p, rfl, _⟩ := h
    rfl
  · obtain ⟨a, w', p, rfl, ha, hp, hw, q⟩ := h
    refine ⟨_, pss_cons (ps_expr (pe_call L hr (by rfl) gL kL bL .nil pass0 (pa_cons (pv 0) (pa_cons (pv 1) pa_nil))))
      (pss_one (ps_ret (pe_callTy call_tuple_of (by rfl) mt bTuple (pa_cons (pe_lc (own := [("lower", 2)]) rfl scBacks.nd (pi_range2 (by rfl) mr (pa_cons pe_int (pa_cons (pv 1) pa_nil))) (blkOk_by (N := nBacks) (sc := defScope sBacks) (by decide +kernel))
        (fun _ _ _ _ _ => pg_name (i := 2) scBacks.nd rfl (.inl rfl))
        (fun _ _ _ _ _ => pts_one (pt_cmpR op_eq (pe_ix (r := rIxT K) ix_tup (pv 0) (pe_op op_sub (pv 2) pe_int) (fun _ _ => rfl)) (pe_ix (r := rIxT K) ix_tup (pv 0) (pe_op op_sub (pv 1) pe_int) (fun _ _ => rfl)) (nomark _)))
        (fun _ _ _ _ _ => pv 2)) pa_nil)))), ?_⟩
    refine ⟨.ref a, rfl, .int p, rfl, a, _, p, rfl, ha, by rw [List.length_map]; exact hp, ?_⟩
    refine ⟨.int p, rfl, 1, p, rfl, by omega, fun D nD => ?_⟩
    refine lc_range (fun i H3 => Same H H3 ∧ H3 D = some (.lst (nats ((List.range' 1 i).filter fun j => decide (w'[j - 1]? = w'[p - 1]?))))) ⟨same_upd nD, upd_same⟩ (fun i H3 hi hW => ?_) (fun H3 hW => ?_)
    · obtain ⟨sm, eD⟩ := hW
      have hA : SqT K H3 a (w'.map V.str) := .inl (.inl (sm _ _ ha))
      have h1 : i < w'.length := by omega
      have h2 : p - 1 < w'.length := by omega
      have g1 : w'[1 + i - 1]? = some w'[i] := by rw [show 1 + i - 1 = i by omega, List.getElem?_eq_getElem h1]
      have g2 : w'[p - 1]? = some w'[p - 1] := List.getElem?_eq_getElem h2
      refine ⟨rfl, .ref a, rfl, .int (1 + i), rfl, 1 + i, 1, rfl, rfl, a, _, _, .str w'[i], rfl, rfl, hA, at_tup (by omega) h1, .ref a, rfl, .int p, rfl, p, 1, rfl, rfl, a, _, _, .str w'[p - 1], rfl, rfl, hA, at_tup (by omega) h2, rfl, _, rfl, ?_⟩
      rw [range_snoc, List.filter_append]
      by_cases e : w'[i] = w'[p - 1]
      · rw [decide_eq_true (by rw [e])]
        refine iteT ⟨.int (1 + i), rfl, _, eD, ?_, ?_, ?_⟩
        · unfold nats
          rw [List.length_map]
          refine Nat.lt_of_le_of_lt (List.length_filter_le _ _) ?_
          rw [List.length_range']
          exact small1000 (by omega)
        · exact same_upd2 sm (by
            cases hD : H D with
            | none => rfl
            | some o => rw [nD] at hD; cases hD)
        · rw [upd_same]
          congr 2
          rw [List.filter_cons_of_pos (by rw [g1, g2, e]; simp), List.filter_nil]
          unfold nats
          rw [List.map_append]
          show _ = _ ++ [V.int ((1 + i : Nat) : Int)]
          rw [Int.natCast_add]
          rfl
      · rw [decide_eq_false (fun z => e (V.str.inj z))]
        refine iteF ⟨sm, ?_⟩
        rw [List.filter_cons_of_neg (by rw [g1, g2]; simp [e]), List.filter_nil, List.append_nil]
        exact eD
    · obtain ⟨sm, eD⟩ := hW
      refine ⟨D, _, rfl, .inl ⟨.inl (.inl eD), fun l nl => ?_⟩⟩
      refine q _ l (sm.trans (same_upd nl)) ?_
      rw [upd_same, show ((p : Int) - 1).toNat = p - 1 by omega]
      rfl
/-! ### goings -/
def spGoings : Sp := fun vs H Q _ => ∃ (a : Addr) (w : List Str) (p : Nat), vs = [.ref a, .int p] ∧ H a = some (.tup (w.map V.str)) ∧ p ≤ w.length ∧ w.length ≤ 1000 ∧ ∀ H' t, Same H H' → H' t = some (.tup (nats (WW.goings w p))) → Q (.ref t) H'
theorem ok_goings {f fB : Addr} {fd fdB : FuncData} {k : Nat} (F : Fun K "goings" "goings" sGoings f fd) (B : FnOk P w K mg base CX0 (k + 3) fB fdB ["word", "place"] spBacks) (kB : PySem.W.keepIn K (.ref fB) = true) (bB : Binds K fdB ["word", "place"] []) (gB : mg "backs" = some (.ref fB)) (ml : mg "len" = none) :
    FnOk P w K mg base CX0 (k + 4) f fd ["word", "place"] spGoings := by
  refine F.ok scGoings (fun vs H Q E h => ?_) (fun cdv A outer s H vs Q E hr h => ?_)
  · obtain ⟨a, w', p, rfl, _⟩ := h
    rfl
  · obtain ⟨a, w', p, rfl, ha, hp, hw, q⟩ := h
    refine ⟨_, pss_one (ps_ret (pe_op op_catA (pe_call B hr (by rfl) gB kB bB .nil pass0 (pa_cons (pv 0) (pa_cons (pv 1) pa_nil)))
      (pe_ifExp (pt_cmpR op_lt (pv 1) (pe_callB call_len_seq (by rfl) ml bLen (pa_cons (pv 0) pa_nil)) (nomark _)) (pe_tup (pa_cons (pv 1) pa_nil)) (pe_tup pa_nil)))), ?_⟩
    refine ⟨.ref a, rfl, .int p, rfl, a, w', p, rfl, ha, hp, hw, fun H1 t sm et => ?_⟩
    have hl : (nats (WW.backs w' p)).length ≤ 1000 := by
      unfold nats WW.backs
      rw [List.length_map]
      refine Nat.le_trans (List.length_filter_le _ _) ?_
      rw [List.length_range']
      omega
    refine ⟨.int p, rfl, .ref a, rfl, a, _, rfl, .inr (.inl (.inl (sm _ _ ha))), p, _, rfl, rfl, _, rfl, ?_⟩
    have fin : ∀ (g : List Nat) (z : Addr), H1 z = none → g.length ≤ 1 → WW.goings w' p = WW.backs w' p ++ g → rCatA K (.ref t) (.ref z) (upd H1 z (.tup (nats g))) Q := by
      intro g z nz hg eg
      have et' : (upd H1 z (.tup (nats g))) t = some (.tup (nats (WW.backs w' p))) := same_upd nz _ _ et
      have hz' : (nats g).length ≤ 1 := by unfold nats; rw [List.length_map]; exact hg
      refine ⟨t, z, _, _, rfl, rfl, .inl (.inl et'), .inl (.inl upd_same), by rw [sizeLine_eq]; omega, fun e => ?_, fun _ e => ?_, fun _ _ y ny => ?_⟩
      · refine q _ z (sm.trans (same_upd nz)) ?_
        rw [upd_same, eg]
        have : WW.backs w' p = [] := by
          cases hb : WW.backs w' p with
          | nil => rfl
          | cons x r => rw [hb] at e; cases e
        rw [this]
        rfl
      · refine q _ t (sm.trans (same_upd nz)) ?_
        rw [et', eg]
        have : g = [] := by
          cases hb : g with
          | nil => rfl
          | cons x r => rw [hb] at e; cases e
        rw [this, List.append_nil]
      · refine q _ y ((sm.trans (same_upd nz)).trans (same_upd ny)) ?_
        rw [upd_same, eg]
        unfold nats
        rw [List.map_append]
    by_cases hlt : p < w'.length
    · rw [decide_eq_true (by rw [List.length_map]; omega)]
      refine iteT ⟨.int p, rfl, (by decide : 1 ≤ sizeLine), fun z nz => fin [p] z nz (Nat.le_refl _) ?_⟩
      unfold WW.goings
      rw [if_pos hlt]
    · rw [decide_eq_false (by rw [List.length_map]; omega)]
      refine iteF ⟨Nat.zero_le _, fun z nz => fin [] z nz (Nat.zero_le _) ?_⟩
      unfold WW.goings
      rw [if_neg hlt]
end
end WK
/-! The walk of onward. -/
namespace WK
open PySem PySem.Spec PyProof.Rows L2
/-! ### sorted of rising numbers -/
def encN (n : Nat) : PyData := .int (n : Int)
theorem alike_encN (a b : Nat) : PySem.W.alike (encN a) (encN b) = true := rfl
theorem sortOk_nats {X : Cx} {H : Hp} (ns : List Nat) (hl : ns.length ≤ 1000) (hu : X.A.units + 64 < cLine) : R5.SortOk X H (fun n : Nat => V.int (n : Int)) encN ns where
  data := fun b _ => .int _
  alike := fun d hd d' hd' => by
    obtain ⟨a, _, rfl⟩ := List.mem_map.mp hd
    obtain ⟨b, _, rfl⟩ := List.mem_map.mp hd'
    exact alike_encN a b
  able := .inl (.inr fun d hd => by
    obtain ⟨a, _, rfl⟩ := List.mem_map.mp hd
    refine ⟨?_, fun xs => ?_⟩ <;> exact PyData.noConfusion)
  len := by rw [sizeLine_eq]; omega
  room := fun b _ => by
    show X.A.units + 2 + 0 < cLine
    omega
theorem sort_rise {ns : List Nat} (h : ns.Pairwise (· < ·)) : ns.mergeSort (PySem.W.dataLe false encN) = ns := by
  apply List.mergeSort_of_pairwise
  refine h.imp ?_
  intro a b hab
  unfold encN
  rw [PySem.W.dataLe_int (fun n : Nat => (n : Int))]
  exact decide_eq_true (by omega)
/-! ### tables -/
theorem put_kvI (l : List (Str × Nat)) (x : Str) (q : Nat) : putK (l.map R5.kvI) (.inr x) (.int q) = (WW.put l x q).map R5.kvI := by
  unfold putK WW.put
  have e : ((l.map R5.kvI).any fun kv => decide (kv.1 = Sum.inr x)) = l.any fun kv => decide (kv.1 = x) := by
    rw [List.any_map]
    congr 1
    funext kv
    show decide ((Sum.inr kv.1 : Key) = Sum.inr x) = decide (kv.1 = x)
    by_cases h : kv.1 = x
    · rw [h, decide_eq_true rfl, decide_eq_true rfl]
    · rw [decide_eq_false h, decide_eq_false (fun z => h (Sum.inr.inj z))]
  rw [e]
  by_cases h : (l.any fun kv => decide (kv.1 = x)) = true
  · simp only [h, if_true]
    rw [List.map_map, List.map_map]
    apply List.map_congr_left
    intro kv _
    show (if (Sum.inr kv.1 : Key) = Sum.inr x then _ else _) = R5.kvI (if kv.1 = x then _ else _)
    by_cases h : kv.1 = x
    · rw [if_pos h, if_pos (by rw [h])]
      rfl
    · rw [if_neg h, if_neg (fun z => h (Sum.inr.inj z))]
  · rw [if_neg h, if_neg h, List.map_append]
    rfl
theorem val_kvI : ∀ (l : List (Str × Nat)) (x : Str), valV (l.map R5.kvI) (.inr x) = (WW.get l x).map fun q => V.int (q : Int)
  | [], x => rfl
  | (a, q) :: r, x => by
    rw [List.map_cons, WW.get_cons]
    by_cases h : a = x
    · rw [if_pos h, valV_pos (show (R5.kvI (a, q)).1 = Sum.inr x from congrArg Sum.inr h)]
      rfl
    · rw [if_neg h, valV_neg (fun z => h (Sum.inr.inj z)), val_kvI r x]
theorem put_len (l : List (Str × Nat)) (x : Str) (q : Nat) : (WW.put l x q).length ≤ l.length + 1 := by
  unfold WW.put
  split
  · rw [List.length_map]; omega
  · rw [List.length_append, List.length_singleton]; omega
theorem onwOf_len (w : List Str) : ∀ (js : List Nat) (acc : List (Str × Nat)), (WW.onwOf w js acc).length ≤ acc.length + js.length
  | [], acc => Nat.le_refl _
  | j :: js, acc => by
    have e : WW.onwOf w (j :: js) acc = WW.onwOf w js (match w[j]? with | some x => WW.put acc x (j + 1) | none => acc) := by
      unfold WW.onwOf
      rw [List.foldl_cons]
      cases w[j]? <;> rfl
    rw [e]
    have h1 := onwOf_len w js (match w[j]? with | some x => WW.put acc x (j + 1) | none => acc)
    have h2 : (match w[j]? with | some x => WW.put acc x (j + 1) | none => acc).length ≤ acc.length + 1 := by
      cases w[j]? with
      | none => exact Nat.le_succ _
      | some x => exact put_len acc x _
    rw [List.length_cons]
    omega
theorem onwOf_snoc (w : List Str) (js : List Nat) (j : Nat) (acc : List (Str × Nat)) {x : Str} (hx : w[j]? = some x) : WW.onwOf w (js ++ [j]) acc = WW.put (WW.onwOf w js acc) x (j + 1) := by
  unfold WW.onwOf
  rw [List.foldl_append, List.foldl_cons, List.foldl_nil, hx]
theorem goings_len (w : List Str) {p : Nat} (hp : p ≤ w.length) : (WW.goings w p).length ≤ w.length := by
  unfold WW.goings WW.backs
  rw [List.length_append]
  have h1 : ((List.range' 1 (p - 1)).filter fun j => decide (w[j - 1]? = w[p - 1]?)).length ≤ p - 1 := by
    refine Nat.le_trans (List.length_filter_le _ _) ?_
    rw [List.length_range']
    exact Nat.le_refl _
  split
  · rw [List.length_singleton]; omega
  · rw [List.length_nil]; omega
theorem onw_len (w : List Str) {p : Nat} (hp : p ≤ w.length) : (WW.onw w p).length ≤ w.length := by
  have := onwOf_len w (WW.goings w p) []
  have := goings_len w hp
  unfold WW.onw
  rw [List.length_nil] at *
  omega
/-- over a list that the block leaves as it is -/
theorem dc_list {K : PySem.W.Frag} {a : Addr} {xs : List V} {g : TG} {tt : TT} {tk tv : TE} {vs : List Nat} {σ : L2.St} {H1 : Hp} {D : Addr} {Qd : Hp → Prop} (Pv : Nat → Hp → Prop) (h0 : Pv 0 (upd H1 D (.dK []))) (hl : ∀ i H, i ≤ xs.length → Pv i H → SqL K H a xs)
    (hs : ∀ i x H, xs[i]? = some x → Pv i H → g x (wipe σ vs) H fun σ2 H2 => wipe σ2 vs = wipe σ vs ∧ tt σ2 H2 fun b H3 =>
      if b = true then tk σ2 H3 fun y H4 => tv σ2 H4 fun z H5 => ∃ kvs k, y = kV k ∧ H5 D = some (.dK kvs) ∧ kvs.length < sizeLine ∧ Pv (i + 1) (upd H5 D (.dK (putK kvs k z))) else Pv (i + 1) H3) (hd : ∀ H, Pv xs.length H → Qd H) :
    ∃ W : Nat → Nat → Hp → Prop, (∃ m, W 0 m (upd H1 D (.dK []))) ∧ ∀ i m H, W i m H →
      ((Itl K a).stop i H ∧ Qd H) ∨ ((Itl K a).go i H ∧ ∃ Nx : Hp → Prop, (∀ H', Nx H' → ∃ m', m' < m ∧ W (i + 1) m' H') ∧ ∀ x H', (Itl K a).yld i H x H' → g x (wipe σ vs) H' fun σ2 H2 => wipe σ2 vs = wipe σ vs ∧ tt σ2 H2 fun b H3 =>
        if b = true then tk σ2 H3 fun y H4 => tv σ2 H4 fun z H5 => ∃ kvs k, y = kV k ∧ H5 D = some (.dK kvs) ∧ kvs.length < sizeLine ∧ Nx (upd H5 D (.dK (putK kvs k z))) else Nx H3) := by
  refine ⟨fun i m H => m = xs.length - i ∧ i ≤ xs.length ∧ Pv i H, ⟨xs.length, by simp, Nat.zero_le _, h0⟩, ?_⟩
  rintro i m H ⟨rfl, hi, p⟩
  have q := hl i H hi p
  by_cases hlt : i < xs.length
  · refine .inr ⟨⟨xs, xs[i], q, by simp [hlt]⟩, Pv (i + 1), fun H' p' => ⟨xs.length - (i + 1), by omega, rfl, hlt, p'⟩, fun x H' y => ?_⟩
    obtain ⟨e, y⟩ := y
    subst e
    exact hs i x _ (y xs q) p
  · have e : i = xs.length := by omega
    subst e
    exact .inl ⟨⟨xs, q, Nat.le_refl _⟩, hd H p⟩
section
variable {P : Program} {w : World} {K : PySem.W.Frag} {mg : Str → Option Value} {base : Heap}
def spOnward : Sp := fun vs H Q _ => ∃ (a : Addr) (w : List Str) (p : Nat), vs = [.ref a, .int p] ∧ H a = some (.tup (w.map V.str)) ∧ p ≤ w.length ∧ w.length ≤ 1000 ∧ ∀ H' t, Same H H' → H t = none → H' t = some (.dK ((WW.onw w p).map R5.kvI)) → Q (.ref t) H'
theorem ok_onward {f fG : Addr} {fd fdG : FuncData} {k : Nat} (F : Fun K "onward" "onward" sOnward f fd) (G : FnOk P w K mg base CX0 (k + 4) fG fdG ["word", "place"] spGoings) (kG : PySem.W.keepIn K (.ref fG) = true) (bG : Binds K fdG ["word", "place"] []) (gG : mg "goings" = some (.ref fG)) (ms : mg "sorted" = none) :
    FnOk P w K mg base CX0 (k + 5) f fd ["word", "place"] spOnward := by
  refine F.ok scOnward (fun vs H Q E h => ?_) (fun cdv A outer s H vs Q E hr h => ?_)
  · obtain ⟨a, w', p, rfl, _⟩ := h
    rfl
  · obtain ⟨a, w', p, rfl, ha, hp, hw, q⟩ := h
    refine ⟨_, pss_one (ps_ret (pe_dc (own := [("one", 2)]) rfl scOnward.nd (pi_list (pe_callB R5.cr_sortSq (by rfl) ms bSorted (pa_cons (pe_call G hr (by rfl) gG kG bG .nil pass0 (pa_cons (pv 0) (pa_cons (pv 1) pa_nil))) pa_nil))) (blkOk_by (N := nOnward) (sc := defScope sOnward) (by decide +kernel))
        (fun _ _ _ _ _ => pg_name (i := 2) scOnward.nd rfl (.inl rfl)) (fun _ _ _ _ _ => pts_nil)
        (fun _ _ _ _ _ => pe_ix (r := rIxT K) ix_tup (pv 0) (pv 2) (fun _ _ => rfl))
        (fun _ _ _ _ _ => pe_op op_add (pv 2) pe_int))), ?_⟩
    refine ⟨.ref a, rfl, .int p, rfl, a, w', p, rfl, ha, hp, hw, fun H1 t sm et => ?_⟩
    have hl : (WW.goings w' p).length ≤ 1000 := Nat.le_trans (goings_len w' hp) hw
    refine ⟨Nat, _, encN, WW.goings w' p, t, rfl, .inr (.inl (.inl et)), sortOk_nats _ hl hr.units, fun l nl => ?_⟩
    rw [sort_rise (WW.goings_rise w' p)]
    have s2 : Same H1 (upd H1 l (.lst ((WW.goings w' p).map fun n : Nat => V.int (n : Int)))) := same_upd nl
    refine ⟨l, rfl, ⟨_, .inl (.inl upd_same)⟩, fun D nD => ?_⟩
    have sD := (sm.trans s2).free nD
    refine dc_list (xs := (WW.goings w' p).map fun n : Nat => V.int (n : Int)) (fun i H3 => Same H H3 ∧ H3 l = some (.lst ((WW.goings w' p).map fun n : Nat => V.int (n : Int))) ∧ H3 D = some (.dK ((WW.onwOf w' ((WW.goings w' p).take i) []).map R5.kvI)))
      ⟨(sm.trans s2).trans (same_upd nD), ?_, upd_same⟩ (fun i H3 hi hW => .inl (.inl hW.2.1)) (fun i x H3 hx hW => ?_) (fun H3 hW => ?_)
    · rw [upd_ne, upd_same]
      intro e
      rw [← e, upd_same] at nD
      cases nD
    · obtain ⟨sm3, el, eD⟩ := hW
      have hi : i < (WW.goings w' p).length := by
        have := (List.getElem?_eq_some_iff.mp hx).1
        rw [List.length_map] at this
        exact this
      have ex : x = .int ((WW.goings w' p)[i] : Nat) := by
        rw [List.getElem?_map, List.getElem?_eq_getElem hi] at hx
        exact (Option.some.inj hx).symm
      subst ex
      have hj := WW.goings_lt hp (List.getElem_mem hi)
      refine ⟨rfl, .ref a, rfl, .int ((WW.goings w' p)[i] : Nat), rfl, a, _, _, .str w'[(WW.goings w' p)[i]], rfl, rfl, .inl (.inl (sm3 _ _ ha)), at_tup rfl hj.1, .int ((WW.goings w' p)[i] : Nat), rfl, _, 1, rfl, rfl, ?_⟩
      refine ⟨_, .inr w'[(WW.goings w' p)[i]], rfl, eD, ?_, same_upd2 sm3 sD, ?_, ?_⟩
      · rw [List.length_map]
        have := onwOf_len w' ((WW.goings w' p).take i) []
        rw [List.length_take, List.length_nil] at this
        exact small1000 (by omega)
      · rw [upd_ne]
        · exact el
        · intro e
          rw [e, eD] at el
          cases el
      · rw [upd_same, List.take_add_one, List.getElem?_eq_getElem hi]
        show some (HO.dK (putK _ _ (V.int (((WW.goings w' p)[i] : Nat) + 1 : Int)))) = some (HO.dK ((WW.onwOf w' ((WW.goings w' p).take i ++ [(WW.goings w' p)[i]]) []).map R5.kvI))
        rw [onwOf_snoc w' _ _ [] (List.getElem?_eq_getElem hj.1), ← put_kvI]
        rfl
    · obtain ⟨sm3, el, eD⟩ := hW
      refine q H3 D sm3 sD ?_
      rw [eD, List.length_map, List.take_length]
      rfl
end
end WK
/-! The walks of is_wound, counts_to, count_wound. -/
namespace WK
open PySem PySem.Spec PyProof.Rows L2
abbrev sWound : Stmt := topS 11
abbrev sCounts : Stmt := topS 12
abbrev sCount : Stmt := topS 13
abbrev nWound : List Str := ["word", "row", "place", "name"]
abbrev nCounts : List Str := ["word", "size", "ways", "found", "turn", "place", "later", "led"]
abbrev nCount : List Str := ["word", "size"]
theorem scWound : FnScope nWound ["word", "row", "place"] (defScope sWound) := ⟨rfl, rfl, rfl, by decide +kernel, rfl, by decide +kernel, by decide +kernel⟩
theorem scCounts : FnScope nCounts ["word", "size"] (defScope sCounts) := ⟨rfl, rfl, rfl, by decide +kernel, rfl, by decide +kernel, by decide +kernel⟩
theorem scCount : FnScope nCount ["word", "size"] (defScope sCount) := ⟨rfl, rfl, rfl, by decide +kernel, rfl, by decide +kernel, by decide +kernel⟩
abbrev WoundD (K : PySem.W.Frag) (f : Addr) (fd : FuncData) : Prop := FunD K "is_wound" "is_wound" (defArgs sWound) (defBody sWound) (defScope sWound) [] [("place", .int 0)] f fd
/-- a locked dict's values -/
theorem lc_vals {a : Addr} {o : Obj} {kvs : List (Key × V)} {g : TG} {tt : TT} {te : TE} {vs : List Nat} {σ : L2.St} {H1 : Hp} {D : Addr} {Qd : Hp → Prop} (Pv : Nat → Hp → Prop) (h0 : Pv 0 (upd H1 D (.lst []))) (hl : ∀ i H, i ≤ kvs.length → Pv i H → H a = some (.frz o (.dK kvs)))
    (hs : ∀ i k x H, kvs[i]? = some (k, x) → Pv i H → g x (wipe σ vs) H fun σ2 H2 => wipe σ2 vs = wipe σ vs ∧ tt σ2 H2 fun b H3 =>
      if b = true then te σ2 H3 fun y H4 => ∃ acc, H4 D = some (.lst acc) ∧ acc.length < sizeLine ∧ Pv (i + 1) (upd H4 D (.lst (acc ++ [y]))) else Pv (i + 1) H3) (hd : ∀ H, Pv kvs.length H → Qd H) :
    ∃ W : Nat → Nat → Hp → Prop, (∃ m, W 0 m (upd H1 D (.lst []))) ∧ ∀ i m H, W i m H →
      ((Itd a o kvs).stop i H ∧ Qd H) ∨ ((Itd a o kvs).go i H ∧ ∃ Nx : Hp → Prop, (∀ H', Nx H' → ∃ m', m' < m ∧ W (i + 1) m' H') ∧ ∀ x H', (Itd a o kvs).yld i H x H' → g x (wipe σ vs) H' fun σ2 H2 => wipe σ2 vs = wipe σ vs ∧ tt σ2 H2 fun b H3 =>
        if b = true then te σ2 H3 fun y H4 => ∃ acc, H4 D = some (.lst acc) ∧ acc.length < sizeLine ∧ Nx (upd H4 D (.lst (acc ++ [y]))) else Nx H3) := by
  refine ⟨fun i m H => m = kvs.length - i ∧ i ≤ kvs.length ∧ Pv i H, ⟨kvs.length, by simp, Nat.zero_le _, h0⟩, ?_⟩
  rintro i m H ⟨rfl, hi, p⟩
  have q := hl i H hi p
  by_cases hlt : i < kvs.length
  · refine .inr ⟨⟨q, hlt⟩, Pv (i + 1), fun H' p' => ⟨kvs.length - (i + 1), by omega, rfl, hlt, p'⟩, fun x H' y => ?_⟩
    obtain ⟨e, k, y⟩ := y
    subst e
    exact hs i k x _ y p
  · have e : i = kvs.length := by omega
    subst e
    exact .inl ⟨⟨q, Nat.le_refl _⟩, hd H p⟩
theorem same_unlock {H4 H5 : Hp} {d : Addr} {u : HO} {od : Obj} (hd : H4 d = some u) (sm : Same (upd H4 d (.frz od u)) H5) : Same H4 (upd H5 d u) := fun b x e => by
  by_cases hb : b = d
  · subst hb
    rw [upd_same, ← hd, e]
  · rw [upd_ne hb]
    refine sm _ _ ?_
    rw [upd_ne hb]
    exact e
theorem ne_at {H : Hp} {a b : Addr} {x y : HO} (h1 : H a = some x) (h2 : H b = some y) (h : x ≠ y) : a ≠ b := fun e => by
  subst e
  rw [h1] at h2
  exact h (Option.some.inj h2)
/-- a list of lists of ints: the counts for 0, 1, .. t steps -/
structure Rows (H : Hp) (w : List Str) (F : Addr) (rs : List Addr) : Prop where
  at_ : H F = some (.lst (rs.map V.ref))
  row : ∀ (j : Nat) (r : Addr), rs[j]? = some r → H r = some (.lst ((WW.cnts w j).map V.int)) ∧ r ≠ F
theorem Rows.same {H H' : Hp} {w : List Str} {F : Addr} {rs : List Addr} (R : Rows H w F rs) (sm : Same H H') : Rows H' w F rs := ⟨sm _ _ R.at_, fun j r h => ⟨sm _ _ (R.row j r h).1, (R.row j r h).2⟩⟩
/-- the list of dicts, one a place -/
structure Ways (H : Hp) (w : List Str) (D : Addr) (ds : List Addr) : Prop where
  at_ : H D = some (.lst (ds.map V.ref))
  led : ∀ (j : Nat) (d : Addr), ds[j]? = some d → H d = some (.dK ((WW.onw w j).map R5.kvI))
theorem Ways.same {H H' : Hp} {w : List Str} {D : Addr} {ds : List Addr} (R : Ways H w D ds) (sm : Same H H') : Ways H' w D ds := ⟨sm _ _ R.at_, fun j r h => sm _ _ (R.led j r h)⟩
theorem atL {xs : List Int} {j : Nat} (h : j < xs.length) : atI (xs.map V.int) (j : Int) = some (.int (xs.getD j 0)) := by
  refine atI_nat ?_
  rw [List.getElem?_map, List.getElem?_eq_getElem h, List.getD_eq_getElem?_getD, List.getElem?_eq_getElem h]
  rfl
theorem at_lastR {rs : List Addr} {r : Addr} (h : rs[rs.length - 1]? = some r) : atI (rs.map V.ref) (-1) = some (.ref r) := by
  have h0 : rs ≠ [] := fun z => by
    subst z
    cases h
  have e : rs = rs.dropLast ++ [r] := by
    have h1 := List.dropLast_concat_getLast h0
    have h2 : rs.getLast h0 = r := by
      have := List.getLast?_eq_getElem? (l := rs)
      rw [h, List.getLast?_eq_some_getLast h0] at this
      exact Option.some.inj this
    rw [h2] at h1
    exact h1.symm
  rw [e, List.map_append]
  exact atI_last _ _
theorem get_snoc {α : Type} {l : List α} {x y : α} {j : Nat} (h : (l ++ [x])[j]? = some y) : l[j]? = some y ∨ (j = l.length ∧ y = x) := by
  rw [List.getElem?_append] at h
  split at h
  · exact .inl h
  · rename_i hj
    have : j - l.length = 0 := by
      have := (List.getElem?_eq_some_iff.mp h).1
      rw [List.length_singleton] at this
      omega
    rw [this] at h
    exact .inr ⟨by omega, (Option.some.inj h).symm⟩
theorem flat_rep {α : Type} (x : α) : ∀ n : Nat, (List.replicate n [x]).flatten = List.replicate n x
  | 0 => rfl
  | n + 1 => by
    rw [List.replicate_succ, List.flatten_cons, flat_rep x n]
    rfl
theorem cntS_len (w : List Str) (row : List Int) : (WW.cntS w row).length = w.length + 1 := by
  unfold WW.cntS WW.ways
  rw [List.length_map, List.length_map, List.length_range]
theorem cntS_at (w : List Str) (row : List Int) {j : Nat} (h : j ≤ w.length) : (WW.cntS w row)[j]? = some ((WW.onw w j).map fun kv => row.getD kv.2 0).sum := by
  unfold WW.cntS WW.ways
  rw [List.getElem?_map, List.getElem?_map, List.getElem?_range (by omega)]
  rfl
def scLed : Scope := match (defBody sCounts).getD 2 (.Pass ⟨0, 0, 0, 0⟩) with
  | .For _ _ [.Expr (.Call _ [.ListComp _ _ sc _] _ _) _] _ _ => sc
  | _ => { kind := .function, names := [], isGenerator := false, isCoroutine := false }
section
variable {P : Program} {w : World} {K : PySem.W.Frag} {mg : Str → Option Value} {base : Heap}
theorem funD_ok {x qual : Str} {params : Arguments} {body : List Stmt} {scope : Scope} {dvs : List V} {kws : List (Str × V)} {f : Addr} {fd : FuncData} {N ps : List Str} {k : Nat} {sp : Sp} (F : FunD K x qual params body scope dvs kws f fd) (S : FnScope N ps scope) (len : ∀ vs H Q E, sp vs H Q E → vs.length = ps.length)
    (hbody : ∀ (cdv : Value) (A : Around) (outer : List Env) (s : Shared) (H : Hp) (vs : List V) (Q : VK) (E : XK), Room k (A.deeper (envOfC qual scope s.heap.objs.size f cdv)) → sp vs H Q E →
      ∃ t, PSs (cxOf CX0 P w K mg base N qual scope f cdv A outer s H E).nox body t ∧ t { nx := fun _ H' => Q .non H', rt := Q } (start N vs) H) : FnOk P w K mg base CX0 (k + 1) f fd ps sp :=
  F.ok S len fun cdv A outer s H vs Q E hr hsp => by
    obtain ⟨t, h, q⟩ := hbody cdv A outer s H vs Q E hr hsp
    exact ⟨t, h.nox, q⟩
def spWound : Sp := fun vs H Q _ => ∃ (a r : Addr) (w row : List Str) (p : Nat), vs = [.ref a, .ref r, .int p] ∧ H a = some (.tup (w.map V.str)) ∧ H r = some (.tup (row.map V.str)) ∧ p ≤ w.length ∧ w.length ≤ 1000 ∧ ∀ H', Same H H' → Q (.bl (decide (WW.run w p row = some w.length))) H'
theorem ok_wound {f fL fO : Addr} {fd fdL fdO : FuncData} {k : Nat} (F : WoundD K f fd) (L : FnOk P w K mg base CX0 (k + 5) fL fdL ["word", "place"] spLook) (kL : PySem.W.keepIn K (.ref fL) = true) (bL : Binds K fdL ["word", "place"] []) (gL : mg "look_place" = some (.ref fL))
    (O : FnOk P w K mg base CX0 (k + 5) fO fdO ["word", "place"] spOnward) (kO : PySem.W.keepIn K (.ref fO) = true) (bO : Binds K fdO ["word", "place"] []) (gO : mg "onward" = some (.ref fO)) (ml : mg "len" = none) :
    FnOk P w K mg base CX0 (k + 6) f fd ["word", "row", "place"] spWound := by
  refine funD_ok F scWound (fun vs H Q E h => ?_) (fun cdv A outer s H vs Q E hr h => ?_)
  · obtain ⟨a, r, w', row, p, rfl, _⟩ := h
    rfl
  · obtain ⟨a, r, w', row, p, rfl, ha, hrow, hp, hw, q⟩ := h
    refine ⟨_, pss_cons (ps_expr (pe_call L hr (by rfl) gL kL bL .nil pass0 (pa_cons (pv 0) (pa_cons (pv 2) pa_nil))))
      (pss_cons (ps_for PassesOwn.never rfl (pi_tup (pv 1)) (pg_name (i := 3) scWound.nd rfl (.inl rfl))
        (pss_cons (ps_set (i := 2) scWound.nd rfl (.inl rfl) (pe_dget1 (hu_of hr) (pe_call O hr (by rfl) gO kO bO .nil pass0 (pa_cons (pv 0) (pa_cons (pv 2) pa_nil))) (pv 3) ⟨by rfl, by rfl, by rfl, by rfl⟩))
        (pss_one (ps_if (pt_cmpR op_isN (pv 2) pe_non (nomark _)) (pss_one (ps_ret pe_bl)) pss_nil))))
      (pss_one (ps_ret (pe_cmpR op_eq (pv 2) (pe_callB call_len_seq (by rfl) ml bLen (pa_cons (pv 0) pa_nil)) (nomark _))))), ?_⟩
    refine ⟨.ref a, rfl, .int p, rfl, a, _, p, rfl, ha, by rw [List.length_map]; exact hp, ?_⟩
    refine ⟨.ref r, rfl, r, rfl, ⟨_, .inl (.inl hrow)⟩, ?_⟩
    refine for_tup (xs := row.map V.str) (fun i σ H3 => Same H H3 ∧ ∃ (m : Nat) (y : Option V), σ = [some (.ref a), some (.ref r), some (.int m), y] ∧ m ≤ w'.length ∧ WW.run w' p row = WW.run w' m (row.drop i)) ⟨Same.refl H, p, none, rfl, hp, rfl⟩
      (fun i σ H3 hi hW => .inl (.inl (hW.1 _ _ hrow))) (fun i x σ H3 hx hW => ?_) (fun σ H3 hW => ?_)
    · obtain ⟨sm, m, y, rfl, hm, er⟩ := hW
      have hi : i < row.length := by
        have := (List.getElem?_eq_some_iff.mp hx).1
        rw [List.length_map] at this
        exact this
      have ex : x = .str row[i] := by
        rw [List.getElem?_map, List.getElem?_eq_getElem hi] at hx
        exact (Option.some.inj hx).symm
      subst ex
      rw [List.drop_eq_getElem_cons hi] at er
      refine ⟨.ref a, rfl, .int m, rfl, a, w', m, rfl, sm _ _ ha, hm, hw, fun H4 t s4 nt et => ?_⟩
      refine ⟨t, rfl, .inl ⟨_, .inl et⟩, .str row[i], rfl, valV ((WW.onw w' m).map R5.kvI) (.inr row[i]), DGet.k (k := .inr row[i]) et, ?_⟩
      rw [val_kvI]
      cases hg : WW.get (WW.onw w' m) row[i] with
      | none =>
        refine ⟨.non, rfl, rfl, _, rfl, ?_⟩
        refine iteT ?_
        have e0 : WW.run w' p row = none := by
          rw [er]
          show (match WW.get (WW.onw w' m) row[i] with | none => none | some q => WW.run w' q (row.drop (i + 1))) = none
          rw [hg]
        have := q H4 (sm.trans s4)
        rw [e0, decide_eq_false (fun z => nomatch z)] at this
        exact this
      | some z =>
        refine ⟨.int z, rfl, rfl, _, rfl, ?_⟩
        refine iteF ⟨sm.trans s4, z, _, rfl, (WW.onw_le hm hg).2.1, ?_⟩
        rw [er, WW.run_cons hg]
    · obtain ⟨sm, m, y, rfl, hm, er⟩ := hW
      refine ⟨.int m, rfl, .ref a, rfl, a, _, rfl, .inr (.inl (.inl (sm _ _ ha))), rfl, ?_⟩
      have := q H3 sm
      rw [List.length_map, List.drop_length] at er
      rw [er] at this
      rw [List.length_map]
      have e2 : decide (WW.run w' m [] = some w'.length) = decide (V.int m = V.int w'.length) := by
        show decide (some m = some w'.length) = _
        by_cases e : m = w'.length
        · rw [e, decide_eq_true rfl, decide_eq_true rfl]
        · rw [decide_eq_false (fun z => e (Option.some.inj z)), decide_eq_false (fun z => e (by have := V.int.inj z; omega))]
      rw [e2] at this
      exact this

def spCounts : Sp := fun vs H Q _ => ∃ (a : Addr) (w : List Str) (m : Nat), vs = [.ref a, .int m] ∧ H a = some (.tup (w.map V.str)) ∧ w.length ≤ 1000 ∧ m ≤ 1000 ∧ ∀ H' F rs, Same H H' → Rows H' w F rs → rs.length = m + 1 → Q (.ref F) H'
theorem ok_counts {f fO : Addr} {fd fdO : FuncData} {k : Nat} (F : Fun K "counts_to" "counts_to" sCounts f fd)
    (O : FnOk P w K mg base CX0 (k + 5) fO fdO ["word", "place"] spOnward) (kO : PySem.W.keepIn K (.ref fO) = true) (bO : Binds K fdO ["word", "place"] []) (gO : mg "onward" = some (.ref fO)) (ml : mg "len" = none) (mr : mg "range" = none) (mm : mg "sum" = none) :
    FnOk P w K mg base CX0 (k + 6) f fd ["word", "size"] spCounts := by
  refine F.ok scCounts (fun vs H Q E h => ?_) (fun cdv A outer s H vs Q E hr h => ?_)
  · obtain ⟨a, w', m, rfl, _⟩ := h
    rfl
  · obtain ⟨a, w', m, rfl, ha, hw, hm, q⟩ := h
    refine ⟨_, pss_cons (ps_setLc (i := 2) (own := [("place", 5)]) (g := gName 5) (tt := tYes) rfl scCounts.nd rfl rfl (sw_true rfl rfl rfl (by decide +kernel))
          (pi_range1 (by rfl) mr (pa_cons (pe_op op_add (pe_callB call_len_seq (by rfl) ml bLen (pa_cons (pv 0) pa_nil)) pe_int) pa_nil)) (blkOk_by (N := nCounts) (sc := defScope sCounts) (by decide +kernel))
          (fun _ _ _ _ _ => pg_name (i := 5) scCounts.nd rfl (Or.inl rfl)) (fun _ _ _ _ _ => pts_nil) (fun _ _ _ _ _ => pe_call O hr (by rfl) gO kO bO .nil pass0 (pa_cons (pv 0) (pa_cons (pv 5) pa_nil))))
      (pss_cons (ps_set (i := 3) scCounts.nd rfl (.inr rfl) (pe_lst (pa_cons (pe_op op_cat (pe_op op_rep (pe_lst (pa_cons pe_int pa_nil)) (pe_callB call_len_seq (by rfl) ml bLen (pa_cons (pv 0) pa_nil))) (pe_lst (pa_cons pe_int pa_nil))) pa_nil)))
      (pss_cons (ps_for PassesOwn.never rfl (pi_range1 (by rfl) mr (pa_cons (pv 1) pa_nil)) (pg_name (i := 4) scCounts.nd rfl (.inl rfl))
        (pss_one (ps_expr (pe_bm PySem.F.plainAttrs_list PySem.F.slot_list_append PySem.F.type_list_append mt_append (pv 3) (pa_cons
          (pe_lc (own := [("led", 7)]) (g := gName 7) (tt := tYes) rfl scCounts.nd (pi_list (pv 2)) (blkOk_by (N := nCounts) (sc := defScope sCounts) (by decide +kernel))
            (fun _ _ _ _ _ => pg_name (i := 7) scCounts.nd rfl (Or.inl rfl)) (fun _ _ _ _ _ => pts_nil)
            (fun _ _ _ _ _ => pe_callB (r := rSum K) (cr_sum rfl) (by rfl) mm bSum (pa_cons (pe_lock
              (pe_lc (own := [("later", 6)]) (g := gName 6) (tt := tYes) rfl scCounts.nd (pi_values (pv 7)) (blkOk_by (N := nCounts) (sc := relS scLed (defScope sCounts)) (by decide +kernel))
                (fun _ _ _ _ _ => pg_name (i := 6) scCounts.nd rfl (Or.inl rfl)) (fun _ _ _ _ _ => pts_nil)
                (fun _ _ _ _ _ => pe_ix (r := rIxL K) ix_list (pe_ix (r := rIxL K) ix_list (pv 3) (pe_un un_neg pe_int) (fun _ _ => rfl)) (pv 6) (fun _ _ => rfl)))) pa_nil))) pa_nil)))))
      (pss_one (ps_ret (pv 3))))), ?_⟩
    -- ways
    refine ⟨.ref a, rfl, a, _, rfl, .inr (.inl (.inl ha)), _, 1, rfl, rfl, (((w'.map V.str).length : Nat) : Int) + 1, rfl, by omega, by rw [List.length_map]; omega, fun D nD => ?_⟩
    refine lc_range (fun i H3 => Same H H3 ∧ ∃ ds, ds.length = i ∧ Ways H3 w' D ds) ⟨same_upd nD, [], rfl, upd_same, fun j d h => by cases h⟩ (fun i H3 hi hW => ?_) (fun H3 hW => ?_)
    · obtain ⟨sm, ds, hds, hWs⟩ := hW
      have hi' : i ≤ w'.length := by
        rw [List.length_map] at hi
        omega
      refine ⟨rfl, .ref a, rfl, .int (0 + (i : Int)), rfl, a, w', i, by rw [Int.zero_add]; rfl, sm _ _ ha, hi', hw, fun H4 t s4 nt et => ?_⟩
      have nDt : t ≠ D := fun e => by
        rw [e, hWs.at_] at nt
        cases nt
      have W4 := hWs.same s4
      refine ⟨_, W4.at_, ?_, same_upd2 (sm.trans s4) nD, ds ++ [t], by rw [List.length_append, hds]; rfl, ?_, ?_⟩
      · rw [List.length_map]
        exact small1000 (by omega)
      · rw [upd_same, List.map_append]
        rfl
      · intro j d hd
        rcases get_snoc hd with h | ⟨h1, h2⟩
        · rw [upd_ne (ne_at (W4.led j d h) W4.at_ (fun z => nomatch z))]
          exact W4.led j d h
        · subst h2
          rw [upd_ne nDt, h1, hds]
          exact et

    · obtain ⟨s1, ds, hds, hWs⟩ := hW
      rw [List.length_map] at hds
      have hds' : ds.length = w'.length + 1 := by omega
      -- found
      refine ⟨Nat.succ_le_of_lt (small1000 (by omega : 0 ≤ 1000)), fun p1 n1 => ?_⟩
      have s2 := same_upd (o := .lst [.int 0]) n1
      refine ⟨.ref a, rfl, a, _, rfl, .inr (.inl (.inl (s2 _ _ (s1 _ _ ha)))), p1, _, _, rfl, rfl, upd_same, by omega, by rw [List.length_map]; omega, ?_, fun p2 n2 => ?_⟩
      · rw [List.length_map, sizeLine_eq]
        show 1 * (w'.length : Int).toNat ≤ _
        omega
      have s3 := same_upd (o := .lst (List.replicate (((w'.map V.str).length : Nat) : Int).toNat [V.int 0]).flatten) n2
      refine ⟨Nat.succ_le_of_lt (small1000 (by omega : 0 ≤ 1000)), fun p3 n3 => ?_⟩
      have s4 := same_upd (o := .lst [.int 1]) n3
      refine ⟨p2, p3, _, _, rfl, rfl, s4 _ _ upd_same, upd_same, ?_, fun p4 n4 => ?_⟩
      · rw [flat_rep, List.length_replicate, List.length_map, sizeLine_eq]
        show (w'.length : Int).toNat + 1 ≤ _
        omega
      have e0 : (List.replicate (((w'.map V.str).length : Nat) : Int).toNat [V.int 0]).flatten ++ [V.int 1] = (WW.cnts w' 0).map V.int := by
        show _ = (List.replicate w'.length (0 : Int) ++ [1]).map V.int
        rw [flat_rep, List.length_map, List.map_append, List.map_replicate]
        rfl
      rw [e0]
      have s5 := same_upd (o := .lst ((WW.cnts w' 0).map V.int)) n4
      refine ⟨Nat.succ_le_of_lt (small1000 (by omega : 0 ≤ 1000)), fun F n5 => ?_⟩
      have s6 := same_upd (o := .lst [V.ref p4]) n5
      have sA := (((s1.trans s2).trans s3).trans s4).trans s5
      have sB := ((s2.trans s3).trans s4).trans s5
      have nF : H F = none := sA.free n5
      have nDF : D ≠ F := fun e => by
        rw [← e, (hWs.same sB).at_] at n5
        cases n5
      have n4F : p4 ≠ F := fun e => by
        rw [← e, upd_same] at n5
        cases n5
      refine ⟨.int m, rfl, m, rfl, by omega, by omega, ?_⟩
      refine for_range (fun i σ H4 => ∃ y4 rs, σ = [some (.ref a), some (.int m), some (.ref D), some (.ref F), y4, none, none, none] ∧ Same H H4 ∧ Ways H4 w' D ds ∧ Rows H4 w' F rs ∧ rs.length = i + 1) ?_ (fun i σ H4 hi hW => ?_) (fun σ H4 hW => ?_)
      · refine ⟨none, [p4], rfl, sA.trans s6, (hWs.same sB).same s6, ⟨upd_same, fun j r h => ?_⟩, rfl⟩
        cases j with
        | succ j => cases h
        | zero =>
          cases h
          exact ⟨s6 _ _ upd_same, n4F⟩
      · obtain ⟨y4, rs, rfl, sm, W4, R4, hrs⟩ := hW
        have hr4 : ∃ r, rs[i]? = some r := ⟨rs[i], List.getElem?_eq_getElem (by omega)⟩
        obtain ⟨r, hrr⟩ := hr4
        refine ⟨.ref F, rfl, .inl ⟨rfl, _, .inl (.inl R4.at_)⟩, .ref D, rfl, D, rfl, ⟨_, .inl (.inl W4.at_)⟩, fun R nR => ?_⟩
        have nRF : R ≠ F := fun e => by
          rw [e, R4.at_] at nR
          cases nR
        refine lc_list (xs := ds.map V.ref) (fun j H5 => Same H4 H5 ∧ H5 R = some (.lst (((WW.cntS w' (WW.cnts w' i)).take j).map V.int))) ⟨same_upd nR, upd_same⟩ (fun j H5 hj hW => .inl (.inl (hW.1 _ _ W4.at_))) (fun j x H5 hx hW => ?_) (fun H5 hW => ?_)
        · obtain ⟨s5', eR⟩ := hW
          have hj : j < ds.length := by
            have := (List.getElem?_eq_some_iff.mp hx).1
            rw [List.length_map] at this
            exact this
          have hd : ds[j]? = some ds[j] := List.getElem?_eq_getElem hj
          generalize ds[j] = d at hd
          have ex : x = .ref d := by
            rw [List.getElem?_map, hd] at hx
            exact (Option.some.inj hx).symm
          subst ex
          have W5 := W4.same s5'
          have R5' := R4.same s5'
          have hdH := W5.led j d hd
          have rH := (R5'.row i r hrr).1
          have nrd : r ≠ d := ne_at rH hdH (fun z => nomatch z)
          have nFd : F ≠ d := ne_at R5'.at_ hdH (fun z => nomatch z)
          refine ⟨rfl, d, _, hdH, True.intro, fun od => ?_⟩
          refine ⟨.ref d, rfl, d, od, _, rfl, upd_same, fun R2 n2 => ?_⟩
          have nR2 : R2 ≠ d := fun e => by
            rw [e, upd_same] at n2
            cases n2
          refine lc_vals (fun l H6 => Same (upd H5 d (.frz od (.dK ((WW.onw w' j).map R5.kvI)))) H6 ∧ H6 R2 = some (.lst ((((WW.onw w' j).take l).map fun kv => (WW.cnts w' i).getD kv.2 0).map V.int))) ⟨same_upd n2, upd_same⟩ (fun l H6 hl hW => hW.1 _ _ upd_same) (fun l k x H6 hx hW => ?_) (fun H6 hW => ?_)
          · obtain ⟨s6', e2⟩ := hW
            have hl : l < (WW.onw w' j).length := by
              have := (List.getElem?_eq_some_iff.mp hx).1
              rw [List.length_map] at this
              exact this
            have hkv : (WW.onw w' j)[l]? = some (WW.onw w' j)[l] := List.getElem?_eq_getElem hl
            have hmem := List.getElem_mem hl
            generalize (WW.onw w' j)[l] = kv at hkv hmem
            obtain ⟨nm, z⟩ := kv
            have ex : x = .int z := by
              rw [List.getElem?_map, hkv] at hx
              have := Option.some.inj hx
              exact (congrArg Prod.snd this).symm
            subst ex
            have hz := WW.onw_le (by omega : j ≤ w'.length) ((WW.mem_get (WW.onw_keys w' j)).mp hmem)
            have aF : H6 F = some (.lst (rs.map V.ref)) := s6' _ _ (by rw [upd_ne nFd]; exact R5'.at_)
            have ar : H6 r = some (.lst ((WW.cnts w' i).map V.int)) := s6' _ _ (by rw [upd_ne nrd]; exact rH)
            refine ⟨rfl, .ref F, rfl, 1, rfl, F, _, -1, _, rfl, rfl, .inl (.inl aF), at_lastR (r := r) (by rw [hrs]; exact hrr), .int z, rfl, r, _, z, _, rfl, rfl, .inl (.inl ar), atL (by rw [WW.cnts_length]; omega), ?_⟩
            refine ⟨_, e2, ?_, same_upd2 s6' n2, ?_⟩
            · rw [List.length_map, List.length_map, List.length_take]
              have := onw_len w' (by omega : j ≤ w'.length)
              exact small1000 (by omega)
            · rw [upd_same, List.take_add_one, hkv, List.map_append, List.map_append]
              rfl
          · obtain ⟨s6', e2⟩ := hW
            have s7 := same_unlock hdH s6'
            rw [List.length_map, List.take_length] at e2
            refine ⟨s6' _ _ upd_same, R2, (WW.onw w' j).map (fun kv => (WW.cnts w' i).getD kv.2 0), rfl, .inl (.inl ?_), ?_⟩
            · rw [upd_ne nR2]
              exact e2
            · refine ⟨_, s7 _ _ eR, ?_, same_upd2 (s5'.trans s7) nR, ?_⟩
              · rw [List.length_map, List.length_take]
                exact small1000 (by omega)
              · rw [upd_same, List.take_add_one, cntS_at w' _ (by omega : j ≤ w'.length), List.map_append]
                rfl
        · obtain ⟨s5', eR⟩ := hW
          have W5 := W4.same s5'
          have R5' := R4.same s5'
          rw [List.length_map, List.take_of_length_le (by rw [cntS_len]; omega)] at eR
          refine ⟨F, _, .ref R, rfl, rfl, R5'.at_, ?_, ?_⟩
          · rw [List.length_map]
            exact small1000 (by omega)
          · refine ⟨_, rs ++ [R], rfl, same_upd2 (sm.trans s5') nF, ⟨?_, fun j d hd => ?_⟩, ⟨?_, fun j r hr => ?_⟩, ?_⟩
            · rw [upd_ne nDF]
              exact W5.at_
            · rw [upd_ne (ne_at (W5.led j d hd) R5'.at_ (fun z => nomatch z))]
              exact W5.led j d hd
            · rw [upd_same, List.map_append]
              rfl
            · rcases get_snoc hr with h | ⟨h1, h2⟩
              · obtain ⟨h3, h4⟩ := R5'.row j r h
                rw [upd_ne h4]
                exact ⟨h3, h4⟩
              · subst h2
                rw [upd_ne nRF]
                refine ⟨?_, nRF⟩
                rw [h1, hrs, eR]
                rfl
            · rw [List.length_append, hrs]
              rfl
      · obtain ⟨y4, rs, rfl, sm, W4, R4, hrs⟩ := hW
        refine ⟨.ref F, rfl, q H4 F rs sm R4 ?_⟩
        rw [hrs]
        omega

/-! ### count_wound -/
def spCount : Sp := fun vs H Q _ => ∃ (a : Addr) (w : List Str) (m : Nat), vs = [.ref a, .int m] ∧ H a = some (.tup (w.map V.str)) ∧ w.length ≤ 1000 ∧ m ≤ 1000 ∧ ∀ H', Same H H' → Q (.int (WW.cw w m)) H'
theorem ok_count {f fC : Addr} {fd fdC : FuncData} {k : Nat} (F : Fun K "count_wound" "count_wound" sCount f fd)
    (C : FnOk P w K mg base CX0 (k + 6) fC fdC ["word", "size"] spCounts) (kC : PySem.W.keepIn K (.ref fC) = true) (bC : Binds K fdC ["word", "size"] []) (gC : mg "counts_to" = some (.ref fC)) :
    FnOk P w K mg base CX0 (k + 7) f fd ["word", "size"] spCount := by
  refine F.ok scCount (fun vs H Q E h => ?_) (fun cdv A outer s H vs Q E hr h => ?_)
  · obtain ⟨a, w', m, rfl, _⟩ := h
    rfl
  · obtain ⟨a, w', m, rfl, ha, hw, hm, q⟩ := h
    refine ⟨_, pss_one (ps_ret (pe_ix ix_list (pe_ix ix_list (pe_call C hr (by rfl) gC kC bC .nil pass0 (pa_cons (pv 0) (pa_cons (pv 1) pa_nil))) (pv 1) (fun _ _ => rfl)) pe_int (fun _ _ => rfl))), ?_⟩
    refine ⟨.ref a, rfl, .int m, rfl, a, w', m, rfl, ha, hw, hm, fun H1 F rs sm R hrs => ?_⟩
    have hlt : m < rs.length := by omega
    have hrr : rs[m]? = some rs[m] := List.getElem?_eq_getElem hlt
    generalize rs[m] = r at hrr
    refine ⟨.int m, rfl, F, _, m, _, rfl, rfl, .inl (.inl R.at_), atI_nat (v := .ref r) (by rw [List.getElem?_map, hrr]; rfl), r, _, ((0 : Nat) : Int), _, rfl, rfl, .inl (.inl (R.row m r hrr).1), atL (by rw [WW.cnts_length]; omega), ?_⟩
    exact q H1 sm
end
end WK
/-! The walk of seen_behind. -/
namespace WK
open PySem PySem.Spec PyProof.Rows L2
abbrev sSeen : Stmt := topS 18
abbrev nSeen : List Str := ["word", "kind", "seen", "name", "many", "stretch", "size"]
theorem scSeen : FnScope nSeen ["word", "kind", "seen", "name"] (defScope sSeen) := ⟨rfl, rfl, rfl, by decide +kernel, rfl, by decide +kernel, by decide +kernel⟩
def kdS : WW.Kd → Str
  | .firm => "firm"
  | .late => "late"
  | .steady => "steady"
/-! ### texts of tuples -/
theorem eqvAll_strs : ∀ a b : List Str, PyData.eqvAll (a.map PyData.str) (b.map PyData.str) = decide (a = b)
  | [], [] => rfl
  | [], _ :: _ => rfl
  | _ :: _, [] => rfl
  | x :: a, y :: b => by
    rw [List.map_cons, List.map_cons, PyData.eqvAll, eqvAll_strs a b, PyData.eqv]
    by_cases h : x = y
    · subst h
      by_cases h2 : a = b
      · subst h2
        simp
      · rw [decide_eq_false h2, decide_eq_false (fun z => h2 (List.cons.inj z).2), Bool.and_false]
    · rw [decide_eq_false (fun z => h (List.cons.inj z).1), beq_eq_false_iff_ne.mpr h, Bool.false_and]
theorem eqv_encT (a b : List Str) : PyData.eqv (R5.encT a) (R5.encT b) = decide (a = b) := by
  unfold R5.encT
  rw [PyData.eqv]
  exact eqvAll_strs a b
def rEqTS (K : PySem.W.Frag) : R2 := fun x y H Q => ∃ (a b : Addr) (xs ys : List Str), x = .ref a ∧ y = .ref b ∧ SqT K H a (xs.map V.str) ∧ SqT K H b (ys.map V.str) ∧ Q (.bl (decide (xs = ys))) H
theorem str_at {xs : List Str} {its : List Value} (r : Vals (xs.map V.str) its) {j : Nat} (h : j < its.toArray.size) : ∃ (x : Str) (t : Tok), xs[j]? = some x ∧ its.toArray[j] = Value.str x t := by
  have hl : j < its.length := by rw [List.size_toArray] at h; exact h
  have hx : j < xs.length := by
    have := r.length
    rw [List.length_map] at this
    omega
  have e1 : (xs.map V.str)[j]? = some (.str xs[j]) := by
    rw [List.getElem?_map, List.getElem?_eq_getElem hx]
    rfl
  obtain ⟨u, hu, t, rfl⟩ := r.get e1
  refine ⟨xs[j], t, List.getElem?_eq_getElem hx, ?_⟩
  rw [List.getElem?_eq_getElem hl] at hu
  rw [List.getElem_toArray]
  exact Option.some.inj hu
theorem op_eqTS {X : Cx} (hu : X.A.units + 64 < cLine) : OpR X (compareOp .Eq) (rEqTS X.K) := by
  intro pins s σ H x y v u Q I rx ry h
  obtain ⟨a, b, xs, ys, rfl, rfl, ha, hb, q⟩ := h
  cases rx
  cases ry
  obtain ⟨its, r1, t1, _⟩ := I.tuple ha
  obtain ⟨jts, r2, t2, _⟩ := I.tuple hb
  have l1 : its.length = xs.length := by rw [← r1.length, List.length_map]
  have l2 : jts.length = ys.length := by rw [← r2.length, List.length_map]
  have e := SeqAt.RcAt.tuples (A := X.A) (e := PySem.SeqAt.pairEq (xs.map PyData.str) (ys.map PyData.str)) t1 t2 (by omega) (fun j h1 h2 => by
    obtain ⟨x, t, hx, ex⟩ := str_at r1 h1
    obtain ⟨y, t', hy, ey⟩ := str_at r2 h2
    rw [ex, ey]
    have : PySem.SeqAt.pairEq (xs.map PyData.str) (ys.map PyData.str) j = (x == y) := by
      show PyData.eqv ((xs.map PyData.str).getD j .none) ((ys.map PyData.str).getD j .none) = _
      rw [List.getD_eq_getElem?_getD, List.getD_eq_getElem?_getD, List.getElem?_map, List.getElem?_map, hx, hy]
      show PyData.eqv (.str x) (.str y) = _
      rw [PyData.eqv]
    rw [this]
    exact SeqAt.EqAt.str_str x t y t')
  refine PySem.EqBoolInt.of_rc e ?_
  have e2 := PySem.SeqAt.eqvAll_eq (xs.map PyData.str) (ys.map PyData.str)
  rw [List.length_map, List.length_map] at e2
  rw [List.size_toArray, List.size_toArray, l1, l2, e2, eqvAll_strs]
  exact ⟨.bl _, H, I, rfl, q⟩
/-! ### tuples -/
theorem cat_same {K : PySem.W.Frag} {H : Hp} {a b : Addr} {xs ys : List V} {Q : VK} (ha : H a = some (.tup xs)) (hb : H b = some (.tup ys)) (hl : xs.length + ys.length ≤ sizeLine) (q : ∀ z H', Same H H' → H' z = some (.tup (xs ++ ys)) → Q (.ref z) H') : rCatA K (.ref a) (.ref b) H Q := by
  refine ⟨a, b, xs, ys, rfl, rfl, .inl (.inl ha), .inl (.inl hb), hl, fun e => ?_, fun _ e => ?_, fun _ _ p np => ?_⟩
  · subst e
    exact q b H (Same.refl H) hb
  · subst e
    refine q a H (Same.refl H) ?_
    rw [List.append_nil]
    exact ha
  · exact q p _ (same_upd np) upd_same
theorem sl_same {K : PySem.W.Frag} {H : Hp} {a : Addr} {xs ys : List V} {lo hi : Option Int} {Q : VK} (ha : H a = some (.tup xs)) (e : cutV xs lo hi = ys) (q : ∀ z H', Same H H' → H' z = some (.tup ys) → Q (.ref z) H') : rSlA K (.ref a) lo hi H Q := by
  refine ⟨a, xs, rfl, .inl (.inl ha), fun w => ?_, fun _ p np => ?_⟩
  · refine q a H (Same.refl H) ?_
    rw [← e]
    unfold cutV
    rw [w.1, w.2, List.drop_zero, Nat.sub_zero, List.take_length]
    exact ha
  · refine q p _ (same_upd np) ?_
    rw [upd_same, e]
theorem cut_take {l : List Str} {s : Nat} (h : s ≤ l.length) : cutV (l.map V.str) none (some (s : Int)) = (l.take s).map V.str := by
  unfold cutV
  rw [HT.sIx_none, HT.sIx_nat, List.length_map, Nat.min_eq_left h, List.drop_zero, Nat.sub_zero, List.map_take]
theorem cut_drop {l : List Str} {s : Nat} {i : Int} (e : i = (s : Int)) (h : s ≤ l.length) : cutV (l.map V.str) (some i) none = (l.drop s).map V.str := by
  subst e
  unfold cutV
  rw [HT.sIx_none, HT.sIx_nat, List.length_map, Nat.min_eq_left h, List.map_drop]
  exact List.take_of_length_le (by rw [List.length_drop, List.length_map]; exact Nat.le_refl _)
section
variable {P : Program} {w : World} {K : PySem.W.Frag} {mg : Str → Option Value} {base : Heap}
def spSeen : Sp := fun vs H Q _ => ∃ (a : Addr) (kd : WW.Kd) (w : List Str) (sn : Int) (x : Str), vs = [.ref a, .str (kdS kd), .int sn, .str x] ∧ H a = some (.tup (w.map V.str)) ∧ w.length ≤ 1000 ∧ WW.Sn kd w sn ∧ ∀ H', Same H H' → Q (.int (WW.seenB kd w sn x)) H'
theorem ok_seen {f : Addr} {fd : FuncData} {k : Nat} {tF tS tL : Tok} (F : Fun K "seen_behind" "seen_behind" sSeen f fd) (gF : mg "FIRM" = some (Value.str "firm" tF)) (gS : mg "STEADY" = some (Value.str "steady" tS)) (gL : mg "LEFT" = some (Value.int (-1) tL))
    (ml : mg "len" = none) (mr : mg "range" = none) (mn : mg "min" = none) (mx : mg "max" = none) : FnOk P w K mg base CX0 (k + 1) f fd ["word", "kind", "seen", "name"] spSeen := by
  refine F.ok scSeen (fun vs H Q E h => ?_) (fun cdv A outer s H vs Q E hr h => ?_)
  · obtain ⟨a, kd, w', sn, x, rfl, _⟩ := h
    rfl
  · obtain ⟨a, kd, w', sn, x, rfl, ha, hw, hsn, q⟩ := h
    obtain ⟨tt, htt, qtt⟩ : ∃ t, PSs (cxOf CX0 P w K mg base nSeen "seen_behind" (defScope sSeen) f cdv A outer s H E).nox ((defBody sSeen).drop 3) t ∧ ∀ sN : Nat, sn = sN → WW.seenB kd w' sn x = (WW.seenL w' sN x : Nat) → t { nx := fun _ H' => Q .non H', rt := Q } [some (.ref a), some (.str (kdS kd)), some (.int sn), some (.str x), some (.int (w'.length : Nat)), none, none] H := by
      refine ⟨_, pss_cons (ps_set (i := 5) scSeen.nd rfl (.inr rfl) (pe_op op_catA (pe_slice sl_tupA (pv 0) po_none (po_some (pv 2))) (pe_tup (pa_cons (pv 3) pa_nil))))
      (pss_one (ps_ret (pe_callB (cr_max rfl) (by rfl) mx bMax (pa_cons (pe_lc (own := [("size", 6)]) (g := gName 6) rfl scSeen.nd
          (pi_range1 (by rfl) mr (pa_cons (pe_op op_add (pe_callB (call_min2 rfl) (by rfl) mn bMin (pa_cons (pv 4) (pa_cons (pe_op op_add (pv 2) pe_int) pa_nil))) pe_int) pa_nil)) (blkOk_by (N := nSeen) (sc := defScope sSeen) (by decide +kernel))
          (fun _ _ _ _ _ => pg_name (i := 6) scSeen.nd rfl (Or.inl rfl))
          (fun _ _ _ _ _ => pts_one (pt_cmpR (r := rEqTS K) (op_eqTS hr.units) (pe_slice (r := rSlA K) sl_tupA (pv 5) (po_some (pe_op op_sub (pe_callB (r := fun xs H Q => ∃ p ys, xs = [.ref p] ∧ (SqL K H p ys ∨ SqT K H p ys) ∧ Q (.int ys.length) H) call_len_seq (by rfl) ml bLen (pa_cons (pv 5) pa_nil)) (pv 6))) po_none) (pe_slice (r := rSlA K) sl_tupA (pv 0) po_none (po_some (pv 6))) (nomark _)))
          (fun _ _ _ _ _ => pv 6)) pa_nil)))), fun sN eN eS => ?_⟩
      subst eN
      have hle : sN ≤ w'.length := by have := hsn.1; omega
      refine ⟨.ref a, rfl, .int sN, rfl, sN, rfl, ?_⟩
      refine sl_same (ys := (w'.take sN).map V.str) ha (cut_take hle) fun z1 H1 s1 e1 => ?_
      refine ⟨.str x, rfl, (by decide : 1 ≤ sizeLine), fun z2 n2 => ?_⟩
      have s2 := same_upd (o := .tup [V.str x]) n2
      refine cat_same (s2 _ _ e1) upd_same (by rw [List.length_map, List.length_take, sizeLine_eq]; show min sN w'.length + 1 ≤ _; omega) fun z3 H3 s3 e3 => ?_
      have sm := (s1.trans s2).trans s3
      have e3' : H3 z3 = some (.tup ((w'.take sN ++ [x]).map V.str)) := by
        rw [e3, List.map_append]
        rfl
      have l3 : (w'.take sN ++ [x]).length = sN + 1 := by
        rw [List.length_append, List.length_take, Nat.min_eq_left hle]
        rfl
      refine ⟨.int (w'.length : Nat), rfl, .int sN, rfl, sN, 1, rfl, rfl, (w'.length : Nat), (sN : Int) + 1, rfl, _, 1, rfl, rfl, _, rfl, ?_⟩
      have em : (if (sN : Int) + 1 < (w'.length : Nat) then (sN : Int) + 1 else (w'.length : Nat)) + 1 = ((min w'.length (sN + 1) + 1 : Nat) : Int) := by
        split <;> omega
      rw [em]
      refine ⟨by omega, by omega, fun D nD => ?_⟩
      rw [Int.toNat_natCast]
      refine lc_range (fun i H4 => Same H3 H4 ∧ H4 D = some (.lst (nats ((List.range i).filter fun z => decide ((w'.take sN ++ [x]).drop (sN + 1 - z) = w'.take z))))) ⟨same_upd nD, upd_same⟩ (fun i H4 hi hW => ?_) (fun H4 hW => ?_)
      · obtain ⟨sm4, eD⟩ := hW
        have h1 : i ≤ w'.length := by omega
        have h2 : i ≤ sN + 1 := by omega
        have a4 : H4 a = some (.tup (w'.map V.str)) := sm4 _ _ (sm _ _ ha)
        have z4 : H4 z3 = some (.tup ((w'.take sN ++ [x]).map V.str)) := sm4 _ _ e3'
        refine ⟨rfl, .ref z3, rfl, .ref z3, rfl, z3, _, rfl, .inr (.inl (.inl z4)), .int (0 + (i : Int)), rfl, _, _, rfl, rfl, _, rfl, ?_⟩
        have hi' : (((((w'.take sN ++ [x]).map V.str).length : Nat) : Int) - (0 + (i : Int))) = ((sN + 1 - i : Nat) : Int) := by
          rw [List.length_map, l3]
          omega
        dsimp only [tNoPart]
        refine sl_same z4 (cut_drop (s := sN + 1 - i) hi' (by rw [l3]; omega)) fun y1 H5 s5 e5 => ?_
        refine ⟨.ref a, rfl, .int (0 + (i : Int)), rfl, _, rfl, ?_⟩
        rw [Int.zero_add]
        refine sl_same (s5 _ _ a4) (cut_take h1) fun y2 H6 s6 e6 => ?_
        refine ⟨y1, y2, _, _, rfl, rfl, .inl (.inl (s6 _ _ e5)), .inl (.inl e6), _, rfl, ?_⟩
        have sm6 := s5.trans s6
        rw [List.range_succ, List.filter_append]
        by_cases e : (w'.take sN ++ [x]).drop (sN + 1 - i) = w'.take i
        · rw [decide_eq_true e]
          refine iteT ⟨.int (i : Int), rfl, _, sm6 _ _ eD, ?_, same_upd2 (sm4.trans sm6) nD, ?_⟩
          · unfold nats
            rw [List.length_map]
            refine Nat.lt_of_le_of_lt (List.length_filter_le _ _) ?_
            rw [List.length_range]
            exact Nat.lt_of_le_of_lt h1 (small1000 hw)
          · rw [upd_same, List.filter_cons_of_pos (by rw [decide_eq_true e]), List.filter_nil]
            unfold nats
            rw [List.map_append]
            rfl
        · rw [decide_eq_false e]
          refine iteF ⟨sm4.trans sm6, ?_⟩
          rw [List.filter_cons_of_neg (by rw [decide_eq_false e]; exact Bool.false_ne_true), List.filter_nil, List.append_nil]
          exact sm6 _ _ eD
      · obtain ⟨sm4, eD⟩ := hW
        have esz : nats ((List.range (min w'.length (sN + 1) + 1)).filter fun z => decide ((w'.take sN ++ [x]).drop (sN + 1 - z) = w'.take z)) = ((WW.sizes w' sN x).map fun n : Nat => (n : Int)).map V.int := by
          unfold nats WW.sizes
          rw [List.map_map]
          rfl
        rw [esz] at eD
        refine ⟨D, (WW.sizes w' sN x).map fun n : Nat => (n : Int), rfl, .inl (.inl eD), ?_, fun m hm1 hm2 => ?_⟩
        · rw [List.length_map]
          exact List.length_pos_of_mem (WW.zero_sizes w' sN x hle)
        · obtain ⟨z, hz, rfl⟩ := List.mem_map.mp hm1
          have := WW.greatest_eq hz (fun b hb => by
            have := hm2 (b : Int) (List.mem_map.mpr ⟨b, hb, rfl⟩)
            omega)
          have q1 := q H4 (sm.trans sm4)
          rw [eS] at q1
          have e9 : WW.seenL w' sN x = z := this
          rw [e9] at q1
          exact q1
    refine ⟨_, pss_cons (ps_set (i := 4) scSeen.nd rfl (.inl rfl) (pe_callB call_len_seq (by rfl) ml bLen (pa_cons (pv 0) pa_nil)))
      (pss_cons (ps_if (pt_cmpR op_eq (pv 1) (pe_glob (v := .str "firm") (by rfl) gF ⟨_, rfl⟩) (nomark _))
        (pss_cons (ps_if (pt_cmpR op_in_seq (pv 2) (pe_tup (pa_cons (pe_glob (v := .int (-1)) (by rfl) gL ⟨_, rfl⟩) (pa_cons (pv 4) pa_nil))) (by first | exact nobehind _ (by decide) (by decide) | rfl)) (pss_one (ps_ret (pv 2))) pss_nil)
          (pss_one (ps_ret (pe_ifExp (pt_cmpR op_eq (pe_ix ix_tup (pv 0) (pv 2) (fun _ _ => rfl)) (pv 3) (nomark _)) (pe_op op_add (pv 2) pe_int) (pe_glob (v := .int (-1)) (by rfl) gL ⟨_, rfl⟩))))) pss_nil)
      (pss_cons (ps_if (PW.pt (pw_and (pt_cmpR op_eq (pv 1) (pe_glob (v := .str "steady") (by rfl) gS ⟨_, rfl⟩) (nomark _)) (pw_and1 (pt_cmpR op_eq (pv 2) (pv 4) (nomark _))))) (pss_one (ps_ret (pv 2))) pss_nil)
      htt)), ?_⟩
    refine ⟨.ref a, rfl, a, _, rfl, .inr (.inl (.inl ha)), ?_⟩
    rw [List.length_map]
    have hk : ∀ {B C : Prop} (g : Str) (kd' : WW.Kd), kdS kd' = g → (∀ kd'', kdS kd'' = kdS kd' → kd'' = kd') → (kd = kd' → B) → (kd ≠ kd' → C) → if decide (V.str (kdS kd) = V.str g) = true then B else C := by
      intro B C g kd' e inj h1 h2
      subst e
      by_cases hh : kd = kd'
      · subst hh
        rw [decide_eq_true rfl]
        exact iteT (h1 rfl)
      · rw [decide_eq_false (fun z => hh (inj _ (V.str.inj z)))]
        exact iteF (h2 hh)
    have injK : ∀ a b : WW.Kd, kdS a = kdS b → a = b := by
      intro a b
      cases a <;> cases b <;> decide
    refine ⟨.str (kdS kd), rfl, rfl, _, rfl, hk "firm" .firm rfl (fun _ => injK _ _) (fun e => ?_) (fun e1 => ?_)⟩
    · subst e
      -- firm
      refine ⟨.int sn, rfl, .int (w'.length : Nat), rfl, (by decide : 2 ≤ sizeLine), fun t nt => ?_⟩
      have s1 := same_upd (o := .tup [V.int (-1), V.int (w'.length : Nat)]) nt
      refine ⟨t, _, rfl, .inr (.inl (.inl upd_same)), rfl, rfl, _, rfl, ?_⟩
      have ein : inV (.int sn) [V.int (-1), V.int (w'.length : Nat)] = decide (sn = -1 ∨ sn = w'.length) := by
        show ((-1 : Int) == sn || (((w'.length : Nat) : Int) == sn || false)) = _
        by_cases h1 : sn = -1
        · subst h1
          simp
        · by_cases h2 : sn = w'.length
          · subst h2
            simp
          · rw [decide_eq_false (by omega), beq_eq_false_iff_ne.mpr (fun z => h1 z.symm), beq_eq_false_iff_ne.mpr (fun z => h2 z.symm)]
            rfl
      rw [show (if false = true then !inV (.int sn) [V.int (-1), V.int (w'.length : Nat)] else inV (.int sn) [V.int (-1), V.int (w'.length : Nat)]) = inV (.int sn) [V.int (-1), V.int (w'.length : Nat)] from rfl, ein]
      have q1 := q _ s1
      by_cases h : sn = -1 ∨ sn = w'.length
      · rw [decide_eq_true h]
        refine iteT ⟨.int sn, rfl, ?_⟩
        have e2 : WW.seenB .firm w' sn x = sn := by
          show (if sn = -1 ∨ sn = w'.length then sn else _) = sn
          rw [if_pos h]
        rw [e2] at q1
        exact q1
      · rw [decide_eq_false h]
        refine iteF ?_
        obtain ⟨h1, h2⟩ := hsn
        have h3 : sn = (sn.toNat : Int) := by omega
        have h4 : sn.toNat < w'.length := by omega
        have e2 : WW.seenB .firm w' sn x = if w'[sn.toNat]? = some x then sn + 1 else -1 := by
          show (if sn = -1 ∨ sn = w'.length then sn else _) = _
          rw [if_neg h]
        rw [e2, List.getElem?_eq_getElem h4] at q1
        refine ⟨.ref a, rfl, .int sn, rfl, a, _, sn, _, rfl, rfl, .inl (.inl (s1 _ _ ha)), at_tup h3 h4, .str x, rfl, rfl, _, rfl, ?_⟩
        by_cases h5 : w'[sn.toNat] = x
        · rw [if_pos (by rw [h5])] at q1
          rw [decide_eq_true (by rw [h5])]
          exact iteT ⟨.int sn, rfl, sn, 1, rfl, rfl, q1⟩
        · rw [if_neg (fun z => h5 (Option.some.inj z))] at q1
          rw [decide_eq_false (fun z => h5 (V.str.inj z))]
          exact iteF q1
    · -- late or steady
      have h0 : 0 ≤ sn := by
        rcases hsn.2 with z | z
        · exact z
        · exact absurd z.1 e1
      obtain ⟨sN, rfl⟩ : ∃ sN : Nat, sn = sN := ⟨sn.toNat, by omega⟩
      have hle : sN ≤ w'.length := by have := hsn.1; omega
      have rest : (kd = .steady → ((sN : Nat) : Int) ≠ w'.length) → WW.seenB kd w' sN x = (WW.seenL w' sN x : Nat) := by
        intro hne
        cases kd with
        | firm => exact absurd rfl e1
        | late =>
          show ((WW.seenL w' (sN : Int).toNat x : Nat) : Int) = _
          rw [Int.toNat_natCast]
        | steady =>
          show (if ((sN : Nat) : Int) = w'.length then ((sN : Nat) : Int) else (WW.seenL w' (sN : Int).toNat x : Nat)) = _
          rw [if_neg (hne rfl), Int.toNat_natCast]
      refine ⟨.str (kdS kd), rfl, rfl, _, rfl, ?_⟩
      by_cases hst : kd = .steady
      · subst hst
        rw [decide_eq_true (show V.str (kdS .steady) = V.str "steady" from rfl)]
        refine iteT ⟨.int sN, rfl, .int (w'.length : Nat), rfl, rfl, _, rfl, ?_⟩
        by_cases hn : (sN : Int) = (w'.length : Nat)
        · rw [decide_eq_true (by rw [hn])]
          refine iteT ⟨.int sN, rfl, ?_⟩
          have q1 := q H (Same.refl H)
          have e2 : WW.seenB .steady w' sN x = sN := by
            show (if ((sN : Nat) : Int) = w'.length then ((sN : Nat) : Int) else _) = _
            rw [if_pos hn]
          rw [e2] at q1
          exact q1
        · rw [decide_eq_false (fun z => hn (V.int.inj z))]
          exact iteF (qtt sN rfl (rest fun _ => hn))
      · rw [show decide (V.str (kdS kd) = V.str "steady") = false from decide_eq_false (fun z => hst (injK _ .steady (V.str.inj z)))]
        exact iteF (iteF (qtt sN rfl (rest fun z => absurd z hst)))
end
end WK
/-! The walks of lacking and is_kind. -/
namespace WK
open PySem PySem.Spec PyProof.Rows L2
abbrev sLack : Stmt := topS 19
abbrev sKind : Stmt := topS 20
abbrev nLack : List Str := ["word", "kind", "met", "level", "later_ones", "place", "seen", "row", "name", "later", "pair"]
abbrev nKind : List Str := ["word", "kind"]
theorem scLack : FnScope nLack ["word", "kind"] (defScope sLack) := ⟨rfl, rfl, rfl, by decide +kernel, rfl, by decide +kernel, by decide +kernel⟩
theorem scKind : FnScope nKind ["word", "kind"] (defScope sKind) := ⟨rfl, rfl, rfl, by decide +kernel, rfl, by decide +kernel, by decide +kernel⟩
/-! ### a list against the empty one -/
def rNeNil (K : PySem.W.Frag) : R2 := fun x y H Q => ∃ (a b : Addr) (xs : List V), x = .ref a ∧ y = .ref b ∧ SqL K H a xs ∧ SqL K H b [] ∧ Q (.bl (!xs.isEmpty)) H
theorem op_neNil {X : Cx} (hu : X.A.units + 64 < cLine) : OpR X (compareOp .NotEq) (rNeNil X.K) := by
  intro pins s σ H x y v u Q I rx ry h
  obtain ⟨a, b, xs, rfl, rfl, ha, hb, q⟩ := h
  cases rx
  cases ry
  obtain ⟨its, r1, t1, _⟩ := I.list ha
  obtain ⟨jts, r2, t2, _⟩ := I.list hb
  cases r2
  cases xs with
  | nil =>
    cases r1
    refine PySem.EqBoolInt.of_rcne (SeqAt.RcNeAt.lists (e := fun _ => true) t1.isList t2.isList rfl (by omega) (fun j h1 h2 => absurd h2 (Nat.not_lt_zero _))) ?_
    exact ⟨.bl _, H, I, rfl, q⟩
  | cons z r =>
    have l1 := r1.length
    refine PySem.EqBoolInt.of_rcne (SeqAt.RcNeAt.lists_lengths t1.isList t2.isList ?_ (by omega)) ?_
    · rw [List.size_toArray, ← l1]
      rfl
    · exact ⟨.bl _, H, I, rfl, q⟩
/-! ### what stands in the heap -/
def keyP (m : WW.Pr) : List Key := [.inl (m.1 : Int), .inl m.2]
theorem keyP_inj {a b : WW.Pr} (h : keyP a = keyP b) : a = b := by
  obtain ⟨a1, a2⟩ := a
  obtain ⟨b1, b2⟩ := b
  unfold keyP at h
  have h1 := (List.cons.inj h).1
  have h2 := (List.cons.inj (List.cons.inj h).2).1
  have h3 : ((a1 : Nat) : Int) = (b1 : Nat) := Sum.inl.inj h1
  have h4 : a2 = b2 := Sum.inl.inj h2
  rw [h4, Int.ofNat.inj h3]
def MetAt (H : Hp) (M : Addr) (ms : List WW.Pr) : Prop := ∃ kvs : List (List Key × V), H M = some (.dT kvs) ∧ kvs.map (·.1) = ms.map keyP
theorem MetAt.same {H H' : Hp} {M : Addr} {ms : List WW.Pr} (h : MetAt H M ms) (s : Same H H') : MetAt H' M ms := by
  obtain ⟨kvs, h1, h2⟩ := h
  exact ⟨kvs, s _ _ h1, h2⟩
theorem met_has {kvs : List (List Key × V)} {ms : List WW.Pr} (h : kvs.map (·.1) = ms.map keyP) (m : WW.Pr) : (valV kvs (keyP m)).isSome = decide (m ∈ ms) := by
  rw [← valV_any]
  have e : (kvs.any fun kv => decide (kv.1 = keyP m)) = (ms.map keyP).any fun k => decide (k = keyP m) := by
    rw [← h, List.any_map]
    rfl
  rw [e]
  by_cases hm : m ∈ ms
  · rw [decide_eq_true hm]
    exact List.any_eq_true.mpr ⟨keyP m, List.mem_map.mpr ⟨m, hm, rfl⟩, decide_eq_true rfl⟩
  · rw [decide_eq_false hm]
    refine List.any_eq_false.mpr fun k hk => ?_
    obtain ⟨n, hn, rfl⟩ := List.mem_map.mp hk
    rw [decide_eq_true_eq]
    intro z
    rw [keyP_inj z] at hn
    exact hm hn
def ElAt (H : Hp) (t : Addr) (e : WW.El Str) : Prop := ∃ t1 t2, H t = some (.tup [.ref t1, .ref t2]) ∧ H t1 = some (.tup [.int (e.1.1 : Nat), .int e.1.2]) ∧ H t2 = some (.tup (e.2.map V.str))
theorem ElAt.same {H H' : Hp} {t : Addr} {e : WW.El Str} (h : ElAt H t e) (s : Same H H') : ElAt H' t e := by
  obtain ⟨t1, t2, h1, h2, h3⟩ := h
  exact ⟨t1, t2, s _ _ h1, s _ _ h2, s _ _ h3⟩
def NoTup (H : Hp) (M : Addr) : Prop := ∀ xs, H M ≠ some (.tup xs)
theorem tup_upd {H : Hp} {M t : Addr} {o : HO} {xs : List V} (n : NoTup H M) (h : H t = some (.tup xs)) : upd H M o t = some (.tup xs) := by
  rw [upd_ne]
  · exact h
  · intro e
    rw [e] at h
    exact n _ h
theorem ElAt.upd {H : Hp} {t M : Addr} {o : HO} {e : WW.El Str} (h : ElAt H t e) (n : NoTup H M) : ElAt (upd H M o) t e := by
  obtain ⟨t1, t2, h1, h2, h3⟩ := h
  exact ⟨t1, t2, tup_upd n h1, tup_upd n h2, tup_upd n h3⟩
def LevAt (H : Hp) (Lv : Addr) (L : List (WW.El Str)) : Prop := ∃ ts : List Addr, H Lv = some (.lst (ts.map V.ref)) ∧ Paired (ElAt H) ts L
theorem LevAt.same {H H' : Hp} {Lv : Addr} {L : List (WW.El Str)} (h : LevAt H Lv L) (s : Same H H') : LevAt H' Lv L := by
  obtain ⟨ts, h1, h2⟩ := h
  exact ⟨ts, s _ _ h1, L2.Paired.mapP h2 fun _ _ z => z.same s⟩
theorem LevAt.upd {H : Hp} {Lv M : Addr} {o : HO} {L : List (WW.El Str)} (h : LevAt H Lv L) (n : NoTup H M) (ne : Lv ≠ M) : LevAt (upd H M o) Lv L := by
  obtain ⟨ts, h1, h2⟩ := h
  refine ⟨ts, ?_, L2.Paired.mapP h2 fun _ _ z => z.upd n⟩
  rw [upd_ne ne]
  exact h1
def ItAt (H : Hp) (t : Addr) (q : Str × Nat) : Prop := H t = some (.tup [.str q.1, .int q.2])
def ItsAt (H : Hp) (R : Addr) (its : List (Str × Nat)) : Prop := ∃ ts : List Addr, H R = some (.lst (ts.map V.ref)) ∧ Paired (ItAt H) ts its
theorem ItsAt.same {H H' : Hp} {Lv : Addr} {L : List (Str × Nat)} (h : ItsAt H Lv L) (s : Same H H') : ItsAt H' Lv L := by
  obtain ⟨ts, h1, h2⟩ := h
  exact ⟨ts, s _ _ h1, L2.Paired.mapP h2 fun _ _ z => s _ _ z⟩
theorem ItsAt.upd {H : Hp} {Lv M : Addr} {o : HO} {L : List (Str × Nat)} (h : ItsAt H Lv L) (n : NoTup H M) (ne : Lv ≠ M) : ItsAt (upd H M o) Lv L := by
  obtain ⟨ts, h1, h2⟩ := h
  refine ⟨ts, ?_, L2.Paired.mapP h2 fun _ _ z => tup_upd n z⟩
  rw [upd_ne ne]
  exact h1
theorem LevAt.noTup {H : Hp} {Lv : Addr} {L : List (WW.El Str)} (h : LevAt H Lv L) : NoTup H Lv := fun xs e => by
  obtain ⟨ts, h1, _⟩ := h
  rw [h1] at e
  cases e
theorem MetAt.noTup {H : Hp} {M : Addr} {ms : List WW.Pr} (h : MetAt H M ms) : NoTup H M := fun xs e => by
  obtain ⟨kvs, h1, _⟩ := h
  rw [h1] at e
  cases e
theorem LevAt.ne {H : Hp} {Lv M : Addr} {L : List (WW.El Str)} {ms : List WW.Pr} (h : LevAt H Lv L) (m : MetAt H M ms) : Lv ≠ M := by
  obtain ⟨ts, h1, _⟩ := h
  obtain ⟨kvs, h2, _⟩ := m
  exact ne_at h1 h2 (fun z => nomatch z)
theorem and_rest {c d : Bool} {A RET REST : Prop} (hA : (if d = true then RET else REST) → A) (h1 : c = true → d = true → RET) (h2 : (c && d) = false → REST) : if c = true then A else (if false = true then RET else REST) := by
  cases c with
  | false => exact iteF (iteF (h2 rfl))
  | true =>
    refine iteT (hA ?_)
    cases d with
    | true => exact iteT (h1 rfl rfl)
    | false => exact iteF (h2 rfl)
theorem foldl_snoc {α β : Type} (f : β → α → β) (b : β) (l : List α) {i : Nat} {x : α} (h : l[i]? = some x) : (l.take (i + 1)).foldl f b = f ((l.take i).foldl f b) x := by
  rw [List.take_add_one, h, List.foldl_append]
  rfl
section
variable {P : Program} {w : World} {K : PySem.W.Frag} {mg : Str → Option Value} {base : Heap}
def spLack : Sp := fun vs H Q _ => ∃ (a : Addr) (kd : WW.Kd) (w : List Str), vs = [.ref a, .str (kdS kd)] ∧ H a = some (.tup (w.map V.str)) ∧ w.length ≤ 100 ∧ (∀ H', Same H H' → WW.Is kd w → Q .non H') ∧ (∀ H' t r, Same H H' → H' t = some (.tup (r.map V.str)) → WW.Short kd w r → r.length ≤ 100000 → Q (.ref t) H')
theorem ok_lack {f fO fS : Addr} {fd fdO fdS : FuncData} {k : Nat} (F : Fun K "lacking" "lacking" sLack f fd)
    (O : FnOk P w K mg base CX0 (k + 5) fO fdO ["word", "place"] spOnward) (kO : PySem.W.keepIn K (.ref fO) = true) (bO : Binds K fdO ["word", "place"] []) (gO : mg "onward" = some (.ref fO))
    (S : FnOk P w K mg base CX0 (k + 5) fS fdS ["word", "kind", "seen", "name"] spSeen) (kS : PySem.W.keepIn K (.ref fS) = true) (bS : Binds K fdS ["word", "kind", "seen", "name"] []) (gS : mg "seen_behind" = some (.ref fS))
    (ml : mg "len" = none) (ms : mg "sorted" = none) : FnOk P w K mg base CX0 (k + 6) f fd ["word", "kind"] spLack := by
  refine F.ok scLack (fun vs H Q E h => ?_) (fun cdv A outer s H vs Q E hr h => ?_)
  · obtain ⟨a, kd, w', rfl, _⟩ := h
    rfl
  · obtain ⟨a, kd, w', rfl, ha, hw, qI, qS⟩ := h
    refine ⟨_, pss_cons (ps_par (i := 2) (j := 3) rfl scLack.nd rfl rfl (by decide) rfl rfl
        (pa_cons (R5.pe_dispT (hu_of hr) (pe_tup (pa_cons pe_int (pa_cons pe_int pa_nil))) pe_bl) (pa_cons (pe_lst (pa_cons (pe_tup (pa_cons (pe_tup (pa_cons pe_int (pa_cons pe_int pa_nil))) (pa_cons (pe_tup pa_nil) pa_nil))) pa_nil)) pa_nil)) rfl)
      (pss_cons (ps_while PassesOwn.never (pt_cmpR (op_neNil hr.units) (pv 3) (pe_lst pa_nil) (nomark _))
        (pss_cons (ps_set (i := 4) scLack.nd rfl (.inl rfl) (pe_lst pa_nil))
        (pss_cons (ps_for PassesOwn.never rfl (pi_list (pv 3)) (pg_tup rfl (pgs_cons (pg_tup rfl (pgs_cons (pg_name (i := 5) scLack.nd rfl (.inl rfl)) (pgs_cons (pg_name (i := 6) scLack.nd rfl (.inl rfl)) pgs_nil))) (pgs_cons (pg_name (i := 7) scLack.nd rfl (.inl rfl)) pgs_nil)))
          (pss_cons (ps_if (PW.pt (pw_and (pt_cmpR op_eq (pv 5) (pe_callB call_len_seq (by rfl) ml bLen (pa_cons (pv 0) pa_nil)) (nomark _)) (pw_and1 (pt_cmpR op_ne (pv 6) (pe_callB call_len_seq (by rfl) ml bLen (pa_cons (pv 0) pa_nil)) (nomark _))))) (pss_one (ps_ret (pv 7))) pss_nil)
          (pss_one (ps_for PassesOwn.never rfl (pi_list (pe_callB (R5.cr_sortItems rfl hr.units) (by rfl) ms bSorted (pa_cons (pe_bm0 PySem.F.plainAttrs_dict PySem.F.slot_dict_items PySem.F.type_dict_items R5.mt_itemsK (pe_call O hr (by rfl) gO kO bO .nil pass0 (pa_cons (pv 0) (pa_cons (pv 5) pa_nil)))) pa_nil)))
              (pg_tup rfl (pgs_cons (pg_name (i := 8) scLack.nd rfl (.inl rfl)) (pgs_cons (pg_name (i := 9) scLack.nd rfl (.inl rfl)) pgs_nil)))
            (pss_cons (ps_set (i := 10) scLack.nd rfl (.inl rfl) (pe_tup (pa_cons (pv 9) (pa_cons (pe_call S hr (by rfl) gS kS bS .nil pass0 (pa_cons (pv 0) (pa_cons (pv 1) (pa_cons (pv 6) (pa_cons (pv 8) pa_nil))))) pa_nil))))
            (pss_one (ps_if (pt_cmp (pc_dnotin (hu_of hr) (pv 10) (pv 2))) (pss_cons (ps_dput (hu_of hr) (pv 2) (pv 10) pe_bl rfl)
              (pss_one (ps_expr (pe_bm PySem.F.plainAttrs_list PySem.F.slot_list_append PySem.F.type_list_append mt_append (pv 4) (pa_cons (pe_tup (pa_cons (pv 10) (pa_cons (pe_op op_catA (pv 7) (pe_tup (pa_cons (pv 8) pa_nil))) pa_nil))) pa_nil)))) ) pss_nil)))))))
        (pss_one (ps_set (i := 3) scLack.nd rfl (.inl rfl) (pv 4))))))
      (pss_one (ps_ret pe_non))), ?_⟩
    refine fun M nM => ⟨(by decide : 2 ≤ sizeLine), fun p1 n1 => ?_⟩
    have s1 := same_upd (o := .dT []) nM
    have s2 := same_upd (o := .tup [V.int 0, V.int 0]) n1
    refine ⟨p1, keyP (0, 0), rfl, upd_same, s2 _ _ upd_same, ?_⟩
    have sM := same_upd2 (o := .dT [(keyP (0, 0), V.bl true)]) (s1.trans s2) nM
    refine ⟨(by decide : 2 ≤ sizeLine), fun p2 n2 => ⟨Nat.zero_le _, fun p3 n3 => ⟨(by decide : 2 ≤ sizeLine), fun p4 n4 => ⟨(by decide : 1 ≤ sizeLine), fun Lv0 nL => ⟨.ref M, .ref Lv0, rfl, ?_⟩⟩⟩⟩⟩
    have s3 := same_upd (o := .tup [V.int 0, V.int 0]) n2
    have s4 := same_upd (o := .tup []) n3
    have s5 := same_upd (o := .tup [V.ref p2, V.ref p3]) n4
    have s6 := same_upd (o := .lst [V.ref p4]) nL
    have eM : MetAt (upd (upd (upd (upd (upd (upd (upd H M (.dT [])) p1 (.tup [V.int 0, V.int 0])) M (.dT [(keyP (0, 0), V.bl true)])) p2 (.tup [V.int 0, V.int 0])) p3 (.tup [])) p4 (.tup [V.ref p2, V.ref p3])) Lv0 (.lst [V.ref p4])) M [(0, 0)] := MetAt.same ⟨_, upd_same, rfl⟩ (((s3.trans s4).trans s5).trans s6)
    have eL : LevAt (upd (upd (upd (upd (upd (upd (upd H M (.dT [])) p1 (.tup [V.int 0, V.int 0])) M (.dT [(keyP (0, 0), V.bl true)])) p2 (.tup [V.int 0, V.int 0])) p3 (.tup [])) p4 (.tup [V.ref p2, V.ref p3])) Lv0 (.lst [V.ref p4])) Lv0 [((0, 0), [])] := ⟨[p4], upd_same, .cons ⟨p2, p3, s6 _ _ upd_same, s6 _ _ (s5 _ _ (s4 _ _ upd_same)), s6 _ _ (s5 _ _ upd_same)⟩ .nil⟩
    have sAll : Same H (upd (upd (upd (upd (upd (upd (upd H M (.dT [])) p1 (.tup [V.int 0, V.int 0])) M (.dT [(keyP (0, 0), V.bl true)])) p2 (.tup [V.int 0, V.int 0])) p3 (.tup [])) p4 (.tup [V.ref p2, V.ref p3])) Lv0 (.lst [V.ref p4])) := sM.trans (((s3.trans s4).trans s5).trans s6)
    revert eM eL sAll
    generalize upd (upd (upd (upd (upd (upd (upd H M (.dT [])) p1 (.tup [V.int 0, V.int 0])) M (.dT [(keyP (0, 0), V.bl true)])) p2 (.tup [V.int 0, V.int 0])) p3 (.tup [])) p4 (.tup [V.ref p2, V.ref p3])) Lv0 (.lst [V.ref p4]) = H0'
    intro eM eL sAll
    refine ⟨fun m σ H3 => ∃ (d : Nat) (ms : List WW.Pr) (L : List (WW.El Str)) (Lv : Addr) (y4 y5 y6 y7 y8 y9 y10 : Option V), σ = [some (.ref a), some (.str (kdS kd)), some (.ref M), some (.ref Lv), y4, y5, y6, y7, y8, y9, y10] ∧ Same H H3 ∧ MetAt H3 M ms ∧ LevAt H3 Lv L ∧ WW.Bfs kd w' d ms L ∧ m = 2 * WW.left w'.length ms + L.length.min 1,
      ⟨_, 0, [(0, 0)], [((0, 0), [])], Lv0, none, none, none, none, none, none, none, rfl, sAll, eM, eL, WW.bfs_start kd w', rfl⟩, fun m σ H3 hW => ?_⟩
    obtain ⟨d, ms, L, Lv, y4, y5, y6, y7, y8, y9, y10, rfl, sm, hM, hL, B, em⟩ := hW
    obtain ⟨ts, hLv, hts⟩ := hL
    refine ⟨.ref Lv, rfl, Nat.zero_le _, fun z nz => ?_⟩
    have sz := same_upd (o := .lst []) nz
    refine ⟨Lv, z, ts.map V.ref, rfl, rfl, .inl (.inl (sz _ _ hLv)), .inl (.inl upd_same), _, rfl, ?_⟩
    have sm4 := sm.trans sz
    have hM4 := hM.same sz
    have hL4 : LevAt _ Lv L := LevAt.same ⟨ts, hLv, hts⟩ sz
    revert sm4 hM4 hL4
    generalize upd H3 z (.lst []) = H4
    intro sm4 hM4 hL4
    have lts : ts.length = L.length := hts.length
    by_cases hLe : L = []
    · subst hLe
      have : ts = [] := List.eq_nil_of_length_eq_zero lts
      subst this
      refine iteF ?_
      exact qI H4 sm4 B.is
    · have : (!(ts.map V.ref).isEmpty) = true := by
        cases ts with
        | nil => exact absurd (List.eq_nil_of_length_eq_zero lts.symm) hLe
        | cons _ _ => rfl
      rw [this]
      refine iteT ⟨_, fun σ' H' h => h, ?_⟩
      clear hLv hts hM sm
      obtain ⟨ts', hLv, hts⟩ := hL4
      refine ⟨Nat.zero_le _, fun Lo nLo => ?_⟩
      have sLo := same_upd (o := .lst []) nLo
      have nLoH : H Lo = none := sm4.free nLo
      have nLoM : Lo ≠ M := fun e => by
        obtain ⟨kvs, h1, _⟩ := hM4
        rw [e, h1] at nLo
        cases nLo
      have nLoLv : Lo ≠ Lv := fun e => by
        rw [e, hLv] at nLo
        cases nLo
      have nLvM : Lv ≠ M := LevAt.ne ⟨ts', hLv, hts⟩ hM4
      refine ⟨.ref Lv, rfl, Lv, rfl, ⟨_, .inl (.inl (sLo _ _ hLv))⟩, ?_⟩
      refine for_list (xs := ts'.map V.ref) (fun i σ H6 => ∃ (y5 y6 y7 y8 y9 y10 : Option V), σ = [some (.ref a), some (.str (kdS kd)), some (.ref M), some (.ref Lv), some (.ref Lo), y5, y6, y7, y8, y9, y10] ∧ Same H H6 ∧
          MetAt H6 M ((L.take i).foldl (WW.lev kd w' R5.srt) (ms, [])).1 ∧ LevAt H6 Lo ((L.take i).foldl (WW.lev kd w' R5.srt) (ms, [])).2 ∧ (H6 Lv = some (.lst (ts'.map V.ref)) ∧ Paired (ElAt H6) ts' L) ∧ ∀ e ∈ L.take i, ¬ WW.Bad w' e.1)
        ⟨y5, y6, y7, y8, y9, y10, rfl, sm4.trans sLo, hM4.same sLo, ⟨[], upd_same, .nil⟩, ⟨sLo _ _ hLv, L2.Paired.mapP hts fun _ _ z => z.same sLo⟩, fun e he => (nomatch (show e ∈ [] from he))⟩
        (fun i σ H6 hi hW => ?_) (fun i x σ H6 hx hW => ?_) (fun σ H6 hW => ?_)
      · obtain ⟨_, _, _, _, _, _, _, _, _, _, h, _⟩ := hW
        exact .inl (.inl h.1)
      · obtain ⟨y5, y6, y7, y8, y9, y10, rfl, sm6, hM6, hLo6, ⟨hLv6, hts6⟩, nb⟩ := hW
        have hi : i < ts'.length := by
          have := (List.getElem?_eq_some_iff.mp hx).1
          rw [List.length_map] at this
          exact this
        have ht : ts'[i]? = some ts'[i] := List.getElem?_eq_getElem hi
        generalize ts'[i] = t at ht
        have ex : x = .ref t := by
          rw [List.getElem?_map, ht] at hx
          exact (Option.some.inj hx).symm
        subst ex
        obtain ⟨e, he, t1, t2, h1, h2, h3⟩ := paired_get hts6 ht
        have heL : e ∈ L := List.mem_of_getElem? he
        have hR := B.rows e heL
        obtain ⟨⟨p, sn⟩, row⟩ := e
        have hp : p ≤ w'.length := hR.le
        have hsn : WW.Sn kd w' sn := hR.sn
        have ha6 := sm6 _ _ ha
        refine ⟨t, _, rfl, .inl (.inl h1), rfl, .ref t1, [.ref t2], rfl, t1, _, rfl, .inl (.inl h2), rfl, .int (p : Nat), [.int sn], rfl, .int sn, [], rfl, rfl, .ref t2, [], rfl, rfl, ?_⟩
        refine ⟨.int (p : Nat), rfl, .ref a, rfl, a, _, rfl, .inr (.inl (.inl ha6)), rfl, _, rfl, ?_⟩
        rw [List.length_map]
        refine and_rest (d := !decide (V.int sn = V.int (w'.length : Nat))) (fun z => ⟨.int sn, rfl, .ref a, rfl, a, _, rfl, .inr (.inl (.inl ha6)), rfl, _, rfl, ?_⟩) (fun c1 d1 => ?_) (fun cd => ?_)
        · rw [List.length_map]
          exact z
        · -- a lacking row
          have e1 : p = w'.length := by
            have := V.int.inj (of_decide_eq_true c1)
            omega
          have e2 : sn ≠ (w'.length : Nat) := fun z => by
            rw [z, decide_eq_true rfl] at d1
            cases d1
          refine ⟨.ref t2, rfl, ?_⟩
          refine qS H6 t2 row sm6 h3 (B.short heL ⟨e1, e2⟩) ?_
          have hlen : row.length = d := hR.len
          rw [hlen]
          have hb := WW.len_box w'.length
          have h4 : (w'.length + 1) * (w'.length + 2) ≤ 101 * 102 := Nat.mul_le_mul (by omega) (by omega)
          rcases B.room with r | r
          · exact absurd r hLe
          · omega
        · have nbad : ¬ WW.Bad w' ((p, sn) : WW.Pr) := by
            rintro ⟨b1, b2⟩
            have c1 : decide (V.int ((p : Nat) : Int) = V.int (w'.length : Nat)) = true := decide_eq_true (by rw [show p = w'.length from b1])
            have d1 : (!decide (V.int sn = V.int (w'.length : Nat))) = true := by
              rw [decide_eq_false (fun z => b2 (V.int.inj z))]
              rfl
            rw [c1, d1] at cd
            cases cd
          refine ⟨.ref a, rfl, .int (p : Nat), rfl, a, w', p, rfl, ha6, hp, by omega, fun H7 dd s7 nt et => ?_⟩
          refine ⟨.inr (.inr (.inl ⟨rfl, .inl ⟨_, et⟩⟩)), dd, _, rfl, rfl, et, fun pp npp => ?_⟩
          have s7' := same_upd (o := DX.itemsO pp dd) npp
          refine ⟨pp, dd, WW.onw w' p, rfl, upd_same, s7' _ _ et, Nat.le_trans (onw_len w' hp) (by omega), fun H8 R its s8 nR eR nts hits => ?_⟩
          have s68 := (s7.trans s7').trans s8
          have hM8 := hM6.same s68
          have nRM : R ≠ M := fun e => by
            obtain ⟨kvs, h1, _⟩ := hM6.same (s7.trans s7')
            rw [e, h1] at nR
            cases nR
          have nRLo : R ≠ Lo := fun e => by
            obtain ⟨kvs, h1, _⟩ := hLo6.same (s7.trans s7')
            rw [e, h1] at nR
            cases nR
          refine ⟨R, rfl, ⟨_, .inl (.inl eR)⟩, ?_⟩
          refine for_list (xs := its.map V.ref) (fun j σ H9 => ∃ (y8 y9 y10 : Option V), σ = [some (.ref a), some (.str (kdS kd)), some (.ref M), some (.ref Lv), some (.ref Lo), some (.int (p : Nat)), some (.int sn), some (.ref t2), y8, y9, y10] ∧ Same H H9 ∧
              MetAt H9 M (((R5.srt (WW.onw w' p)).take j).foldl (WW.inn kd w' ((p, sn), row)) ((L.take i).foldl (WW.lev kd w' R5.srt) (ms, []))).1 ∧
              LevAt H9 Lo (((R5.srt (WW.onw w' p)).take j).foldl (WW.inn kd w' ((p, sn), row)) ((L.take i).foldl (WW.lev kd w' R5.srt) (ms, []))).2 ∧
              (H9 Lv = some (.lst (ts'.map V.ref)) ∧ Paired (ElAt H9) ts' L) ∧ H9 t2 = some (.tup (row.map V.str)) ∧ (H9 R = some (.lst (its.map V.ref)) ∧ Paired (ItAt H9) its (R5.srt (WW.onw w' p))))
            ⟨y8, y9, y10, rfl, sm6.trans s68, hM8, hLo6.same s68, ⟨s68 _ _ hLv6, L2.Paired.mapP hts6 fun _ _ z => z.same s68⟩, s68 _ _ h3, eR, hits⟩
            (fun j σ H9 hj hW => ?_) (fun j x σ H9 hx hW => ?_) (fun σ H9 hW => ?_)
          · obtain ⟨_, _, _, _, _, _, _, _, _, h⟩ := hW
            exact .inl (.inl h.1)
          · obtain ⟨y8, y9, y10, rfl, sm9, hM9, hLo9, ⟨hLv9, hts9⟩, hrow9, hR9, hits9⟩ := hW
            have hj : j < its.length := by
              have := (List.getElem?_eq_some_iff.mp hx).1
              rw [List.length_map] at this
              exact this
            have hg : its[j]? = some its[j] := List.getElem?_eq_getElem hj
            generalize its[j] = g at hg
            have ex : x = .ref g := by
              rw [List.getElem?_map, hg] at hx
              exact (Option.some.inj hx).symm
            subst ex
            obtain ⟨xq, hq, hxq⟩ := paired_get hits9 hg
            have hq' : xq ∈ R5.srt (WW.onw w' p) := List.mem_of_getElem? hq
            obtain ⟨nm, q2⟩ := xq
            have hgo : WW.get (WW.onw w' p) nm = some q2 := (WW.srt_get R5.srt_perm).mp hq'
            have mid0 := WW.Mid.levs (L := L.take i) R5.srt_perm (fun e' h' => B.rows e' (List.mem_of_mem_take h')) (WW.Mid.start B)
            have mid := WW.Mid.its hR (its := (R5.srt (WW.onw w' p)).take j) (fun xq h' => (WW.srt_get R5.srt_perm).mp (List.mem_of_mem_take h')) mid0
            rw [foldl_snoc _ _ _ hq]
            revert hM9 hLo9 mid
            generalize ((R5.srt (WW.onw w' p)).take j).foldl (WW.inn kd w' ((p, sn), row)) ((L.take i).foldl (WW.lev kd w' R5.srt) (ms, [])) = st
            intro hM9 hLo9 mid
            have hlen := mid.len
            have hbox : (w'.length + 1) * (w'.length + 2) ≤ 101 * 102 := Nat.mul_le_mul (by omega) (by omega)
            refine ⟨g, _, rfl, .inl (.inl hxq), rfl, .str nm, [.int (q2 : Nat)], rfl, .int (q2 : Nat), [], rfl, rfl, ?_⟩
            refine ⟨.int (q2 : Nat), rfl, .ref a, rfl, .str (kdS kd), rfl, .int sn, rfl, .str nm, rfl, a, kd, w', sn, nm, rfl, sm9 _ _ ha, by omega, hsn, fun H10 s10 => ⟨(by decide : 2 ≤ sizeLine), fun pr npr => ?_⟩⟩
            have spr := same_upd (o := .tup [V.int (q2 : Nat), V.int (WW.seenB kd w' sn nm)]) npr
            have hM11 := (hM9.same s10).same spr
            have hLo11 := (hLo9.same s10).same spr
            have s11 := s10.trans spr
            have epr : (upd H10 pr (.tup [V.int (q2 : Nat), V.int (WW.seenB kd w' sn nm)])) pr = some (.tup ((keyP (q2, WW.seenB kd w' sn nm)).map kV)) := upd_same
            have sm11 := sm9.trans s11
            revert hM11 hLo11 s11 epr sm11
            generalize upd H10 pr (.tup [V.int (q2 : Nat), V.int (WW.seenB kd w' sn nm)]) = H11
            intro hM11 hLo11 s11 epr sm11
            have hM11' := hM11
            obtain ⟨kvs, hkv, hks⟩ := hM11
            have hkl : kvs.length = st.1.length := by
              have := congrArg List.length hks
              rw [List.length_map, List.length_map] at this
              exact this
            refine ⟨.ref pr, rfl, .ref M, rfl, M, _, rfl, DGet.t hkv epr, _, rfl, ?_⟩
            rw [met_has hks]
            by_cases hm : ((q2, WW.seenB kd w' sn nm) : WW.Pr) ∈ st.1
            · rw [decide_eq_true hm]
              refine iteF ?_
              have e0 : WW.inn kd w' ((p, sn), row) st (nm, q2) = st := by
                unfold WW.inn
                exact if_pos hm
              rw [e0]
              exact ⟨_, _, _, rfl, sm11, hM11', hLo11, ⟨s11 _ _ hLv9, L2.Paired.mapP hts9 fun _ _ z => z.same s11⟩, s11 _ _ hrow9, s11 _ _ hR9, L2.Paired.mapP hits9 fun _ _ z => s11 _ _ z⟩
            · rw [decide_eq_false hm]
              refine iteT ?_
              have e0 : WW.inn kd w' ((p, sn), row) st (nm, q2) = (st.1 ++ [(q2, WW.seenB kd w' sn nm)], st.2 ++ [((q2, WW.seenB kd w' sn nm), row ++ [nm])]) := by
                unfold WW.inn
                exact if_neg hm
              rw [e0]
              have hnone : valV kvs (keyP (q2, WW.seenB kd w' sn nm)) = none := by
                have := met_has hks (q2, WW.seenB kd w' sn nm)
                rw [decide_eq_false hm] at this
                cases hv : valV kvs (keyP (q2, WW.seenB kd w' sn nm)) with
                | none => rfl
                | some v => rw [hv] at this; cases this
              refine ⟨.ref M, rfl, .ref pr, rfl, M, _, rfl, DPut.t hkv epr (by rw [hkl, sizeLine_eq]; omega), ?_⟩
              rw [putK_new _ hnone]
              have noM : NoTup H11 M := hM11'.noTup
              have sm12 := same_upd2 (o := .dT (kvs ++ [(keyP (q2, WW.seenB kd w' sn nm), V.bl true)])) sm11 nM
              have hM12 : MetAt (upd H11 M (.dT (kvs ++ [(keyP (q2, WW.seenB kd w' sn nm), V.bl true)]))) M (st.1 ++ [(q2, WW.seenB kd w' sn nm)]) := ⟨_, upd_same, by rw [List.map_append, List.map_append, hks]; rfl⟩
              have hLo12 := LevAt.upd (o := .dT (kvs ++ [(keyP (q2, WW.seenB kd w' sn nm), V.bl true)])) hLo11 noM nLoM
              have hLv12 : (upd H11 M (.dT (kvs ++ [(keyP (q2, WW.seenB kd w' sn nm), V.bl true)]))) Lv = some (.lst (ts'.map V.ref)) := by
                rw [upd_ne nLvM]
                exact s11 _ _ hLv9
              have hts12 : Paired (ElAt (upd H11 M (.dT (kvs ++ [(keyP (q2, WW.seenB kd w' sn nm), V.bl true)])))) ts' L := L2.Paired.mapP hts9 fun _ _ z => (z.same s11).upd noM
              have hrow12 := tup_upd (o := .dT (kvs ++ [(keyP (q2, WW.seenB kd w' sn nm), V.bl true)])) noM (s11 _ _ hrow9)
              have hR12 : (upd H11 M (.dT (kvs ++ [(keyP (q2, WW.seenB kd w' sn nm), V.bl true)]))) R = some (.lst (its.map V.ref)) := by
                rw [upd_ne nRM]
                exact s11 _ _ hR9
              have hits12 : Paired (ItAt (upd H11 M (.dT (kvs ++ [(keyP (q2, WW.seenB kd w' sn nm), V.bl true)])))) its (R5.srt (WW.onw w' p)) := L2.Paired.mapP hits9 fun _ _ z => tup_upd noM (s11 _ _ z)
              have epr12 := tup_upd (o := .dT (kvs ++ [(keyP (q2, WW.seenB kd w' sn nm), V.bl true)])) noM epr
              revert sm12 hM12 hLo12 hLv12 hts12 hrow12 hR12 hits12 epr12
              generalize upd H11 M (.dT (kvs ++ [(keyP (q2, WW.seenB kd w' sn nm), V.bl true)])) = H12
              intro sm12 hM12 hLo12 hLv12 hts12 hrow12 hR12 hits12 epr12
              have hLo12' := hLo12
              obtain ⟨ls, hls, hlp⟩ := hLo12'
              refine ⟨.ref Lo, rfl, .inl ⟨rfl, _, .inl (.inl hls)⟩, .ref pr, rfl, .ref t2, rfl, .str nm, rfl, (by decide : 1 ≤ sizeLine), fun z1 nz1 => ?_⟩
              have sz1 := same_upd (o := .tup [V.str nm]) nz1
              have hrl : row.length = d := hR.len
              have hd : d ≤ 101 * 102 := by
                have hb := WW.len_box w'.length
                rcases B.room with r | r
                · exact absurd r hLe
                · omega
              refine cat_same (sz1 _ _ hrow12) upd_same (by rw [List.length_map, hrl, sizeLine_eq]; show d + 1 ≤ _; omega) fun z2 H14 s14 e14 => ⟨(by decide : 2 ≤ sizeLine), fun z3 nz3 => ?_⟩
              have sz3 := same_upd (o := .tup [V.ref pr, V.ref z2]) nz3
              have s15 := (sz1.trans s14).trans sz3
              have el : ElAt (upd H14 z3 (.tup [V.ref pr, V.ref z2])) z3 ((q2, WW.seenB kd w' sn nm), row ++ [nm]) := ⟨pr, z2, upd_same, s15 _ _ epr12, by
                rw [List.map_append]
                exact sz3 _ _ e14⟩
              have hls15 := s15 _ _ hls
              have hLo15 := hLo12.same s15
              have noLo : NoTup (upd H14 z3 (.tup [V.ref pr, V.ref z2])) Lo := hLo15.noTup
              have hll : ls.length = st.2.length := hlp.length
              refine ⟨Lo, _, .ref z3, rfl, rfl, hls15, by rw [List.length_map, hll, sizeLine_eq]; omega, ?_⟩
              refine ⟨_, _, _, rfl, same_upd2 (sm12.trans s15) nLoH, ?_, ?_, ⟨?_, ?_⟩, ?_, ?_, ?_⟩
              · obtain ⟨kv', h1, h2⟩ := hM12.same s15
                refine ⟨kv', ?_, h2⟩
                rw [upd_ne nLoM.symm]
                exact h1
              · refine ⟨ls ++ [z3], ?_, Paired.snoc (L2.Paired.mapP hlp fun _ _ z => (z.same s15).upd noLo) (el.upd noLo)⟩
                rw [upd_same, List.map_append]
                rfl
              · rw [upd_ne nLoLv.symm]
                exact s15 _ _ hLv12
              · exact L2.Paired.mapP hts12 fun _ _ z => (z.same s15).upd noLo
              · exact tup_upd noLo (s15 _ _ hrow12)
              · rw [upd_ne nRLo]
                exact s15 _ _ hR12
              · exact L2.Paired.mapP hits12 fun _ _ z => tup_upd noLo (s15 _ _ z)
          · obtain ⟨y8, y9, y10, rfl, sm9, hM9, hLo9, hL9, _, _⟩ := hW
            have ll : (its.map V.ref).length = (R5.srt (WW.onw w' p)).length := by
              rw [List.length_map]
              exact hits.length
            rw [ll, List.take_length] at hM9 hLo9
            refine ⟨_, _, _, _, _, _, rfl, sm9, ?_, ?_, hL9, fun e' h' => ?_⟩
            · rw [foldl_snoc _ _ _ he]
              exact hM9
            · rw [foldl_snoc _ _ _ he]
              exact hLo9
            · rw [List.take_add_one, he] at h'
              rcases List.mem_append.mp h' with h' | h'
              · exact nb e' h'
              · rw [List.mem_singleton.mp h']
                exact nbad
      · obtain ⟨y5, y6, y7, y8, y9, y10, rfl, sm6, hM6, hLo6, _, nb⟩ := hW
        have ll : (ts'.map V.ref).length = L.length := by
          rw [List.length_map]
          exact hts.length
        rw [ll, List.take_length] at hM6 hLo6 nb
        obtain ⟨B', fall⟩ := B.next R5.srt_perm hLe nb rfl
        refine ⟨.ref Lo, rfl, 2 * WW.left w'.length (L.foldl (WW.lev kd w' R5.srt) (ms, [])).1 + (L.foldl (WW.lev kd w' R5.srt) (ms, [])).2.length.min 1, ?_, _, _, _, Lo, _, _, _, _, _, _, _, rfl, sm6, hM6, hLo6, B', rfl⟩
        have hl1 : L.length.min 1 = 1 := by
          cases L with
          | nil => exact absurd rfl hLe
          | cons _ _ =>
            show min (_ + 1) 1 = 1
            omega
        rw [em, hl1]
        have mid := WW.Mid.levs R5.srt_perm B.rows (WW.Mid.start B)
        revert fall mid
        generalize L.foldl (WW.lev kd w' R5.srt) (ms, []) = st
        intro fall mid
        have hmin : st.2.length.min 1 ≤ 1 := Nat.min_le_right _ _
        rcases fall with f | f
        · rw [mid.eq, f]
          show 2 * WW.left w'.length (ms ++ []) + 0 < _
          rw [List.append_nil]
          omega
        · omega
/-! ### is_kind -/
def spKind : Sp := fun vs H Q _ => ∃ (a : Addr) (kd : WW.Kd) (w : List Str), vs = [.ref a, .str (kdS kd)] ∧ H a = some (.tup (w.map V.str)) ∧ w.length ≤ 100 ∧ ∀ H' b, Same H H' → (b = true ↔ WW.Is kd w) → Q (.bl b) H'
theorem ok_kind {f fL : Addr} {fd fdL : FuncData} {k : Nat} (F : Fun K "is_kind" "is_kind" sKind f fd)
    (L : FnOk P w K mg base CX0 (k + 6) fL fdL ["word", "kind"] spLack) (kL : PySem.W.keepIn K (.ref fL) = true) (bL : Binds K fdL ["word", "kind"] []) (gL : mg "lacking" = some (.ref fL)) : FnOk P w K mg base CX0 (k + 7) f fd ["word", "kind"] spKind := by
  refine F.ok scKind (fun vs H Q E h => ?_) (fun cdv A outer s H vs Q E hr h => ?_)
  · obtain ⟨a, kd, w', rfl, _⟩ := h
    rfl
  · obtain ⟨a, kd, w', rfl, ha, hw, q⟩ := h
    refine ⟨_, pss_one (ps_ret (pe_cmpR op_isN (pe_call L hr (by rfl) gL kL bL .nil pass0 (pa_cons (pv 0) (pa_cons (pv 1) pa_nil))) pe_non (nomark _))), ?_⟩
    refine ⟨.ref a, rfl, .str (kdS kd), rfl, a, kd, w', rfl, ha, hw, fun H1 s1 hI => ?_, fun H1 t r s1 et hS hl => ?_⟩
    · refine ⟨rfl, q H1 _ s1 ?_⟩
      exact ⟨fun _ => hI, fun _ => rfl⟩
    · refine ⟨rfl, q H1 _ s1 ?_⟩
      refine ⟨fun z => (nomatch (show V.ref t = V.non from of_decide_eq_true z)), fun z => absurd z (WW.short_not hS)⟩
end
end WK
/-! The walks of the law's pot. -/
namespace WK
open PySem PySem.Spec PyProof.Rows L2
abbrev sPot : Stmt := topS 22
abbrev sTake : Stmt := topS 23
abbrev sOf : Stmt := topS 24
abbrev nPot : List Str := ["_law_script", "_law_k", "_law_cell", "_law_great"]
abbrev nTake : List Str := ["_law_pot_here", "_law_upto", "_law_digit"]
abbrev nOf : List Str := ["_law_pot_here", "_law_some"]
theorem scPot : FnScope nPot ["_law_script", "_law_k"] (defScope sPot) := ⟨rfl, rfl, rfl, by decide +kernel, rfl, by decide +kernel, by decide +kernel⟩
theorem scTake : FnScope nTake ["_law_pot_here", "_law_upto"] (defScope sTake) := ⟨rfl, rfl, rfl, by decide +kernel, rfl, by decide +kernel, by decide +kernel⟩
theorem scOf : FnScope nOf ["_law_pot_here", "_law_some"] (defScope sOf) := ⟨rfl, rfl, rfl, by decide +kernel, rfl, by decide +kernel, by decide +kernel⟩
/-! ### the great number of 901 figures -/
def zeros : Str := ⟨(List.replicate (900 : Int).toNat (PySem.Str.ofString "0").cps).foldl (· ++ ·) #[]⟩
def big : Str := (PySem.Str.ofString "1") ++ zeros
theorem rep_list (z : Array Nat) (c : Nat) (hz : z.toList = [c]) : ∀ (n : Nat) (acc : Array Nat), ((List.replicate n z).foldl (· ++ ·) acc).toList = acc.toList ++ List.replicate n c
  | 0, acc => by simp
  | n + 1, acc => by
    rw [List.replicate_succ, List.foldl_cons, rep_list z c hz n, Array.toList_append, hz, List.replicate_succ, List.append_assoc]
    rfl
theorem big_eq : big.cps.toList = 49 :: List.replicate 900 48 := by
  show ((PySem.Str.ofString "1").cps ++ zeros.cps).toList = _
  rw [Array.toList_append]
  unfold zeros
  rw [rep_list _ 48 (by decide +kernel)]
  have h1 : (PySem.Str.ofString "1").cps.toList = [49] := by decide +kernel
  rw [h1]
  rfl
theorem dv_pos : ∀ (cs : List Nat) (acc : Nat), 0 < acc → 0 < cs.foldl (fun acc c => acc * 10 + (c - 48)) acc
  | [], _, h => h
  | c :: cs, acc, h => dv_pos cs _ (Nat.lt_of_lt_of_le (Nat.mul_pos h (by decide)) (Nat.le_add_right _ _))
theorem big_digits : NumText.AllDigits big.cps.toList := by
  rw [big_eq]
  intro c hc
  rcases List.mem_cons.mp hc with e | e
  · rw [e]; decide
  · rw [List.eq_of_mem_replicate e]; decide
theorem big_len : big.cps.toList.length = 901 := by
  rw [big_eq, List.length_cons, List.length_replicate]
theorem big_length : big.length = 901 := by
  have : big.length = big.cps.toList.length := Array.length_toList.symm
  rw [this, big_len]
theorem big_seen : 640 < (numSeenOf big).length := by
  rw [(numText_signs fun c hc => Or.inr (big_digits c hc)).2, big_len]
  decide
theorem big_int : ∃ n : Int, intText? big = some n ∧ 0 < n := by
  refine ⟨_, intText_digits big_digits (by rw [big_eq]; exact List.cons_ne_nil _ _) (by rw [big_length]; decide), ?_⟩
  rw [big_eq]
  unfold NumText.digitsVal
  rw [List.foldl_cons]
  have := dv_pos (List.replicate 900 48) (0 * 10 + (49 - 48)) (by decide)
  omega

/-! ### the pot -/
def PotAt (H : Hp) (p : Addr) : Prop := ∃ g r : Int, H p = some (.lst [.int g, .int r]) ∧ 0 ≤ r ∧ r < 2 ^ 62
/-- all but the pot is as it was -/
def SamP (p : Addr) (H H' : Hp) : Prop := ∀ b o, b ≠ p → H b = some o → H' b = some o
theorem SamP.refl (p : Addr) (H : Hp) : SamP p H H := fun _ _ _ h => h
theorem SamP.trans {p : Addr} {H H1 H2 : Hp} (a : SamP p H H1) (b : SamP p H1 H2) : SamP p H H2 := fun c o n h => b c o n (a c o n h)
theorem SamP.of {p : Addr} {H H' : Hp} (s : Same H H') : SamP p H H' := fun b o _ h => s b o h
theorem SamP.upd {p : Addr} {H : Hp} {o : HO} : SamP p H (upd H p o) := fun b x n h => by
  rw [upd_ne n]
  exact h
theorem SamP.upd2 {p q : Addr} {H0 H : Hp} {o : HO} (s : SamP p H0 H) (h : H0 q = none) : SamP p H0 (L2.upd H q o) := fun b x n e => by
  rw [upd_ne (ne_of_none e h)]
  exact s _ _ n e
theorem SamP.free {p q : Addr} {H0 H : Hp} (s : SamP p H0 H) (n : q ≠ p) (h : H q = none) : H0 q = none := by
  cases e : H0 q with
  | none => rfl
  | some o =>
    rw [s _ _ n e] at h
    cases h
theorem PotAt.same {p : Addr} {H H' : Hp} (h : PotAt H p) (s : Same H H') : PotAt H' p := by
  obtain ⟨g, r, h1, h2⟩ := h
  exact ⟨g, r, s _ _ h1, h2⟩
theorem PotAt.ne {p q : Addr} {H : Hp} (h : PotAt H p) (n : H q = none) : q ≠ p := fun e => by
  obtain ⟨g, r, h1, h2⟩ := h
  rw [e, h1] at n
  cases n
theorem PotAt.upd {p q : Addr} {H : Hp} {o : HO} (h : PotAt H p) (n : q ≠ p) : PotAt (L2.upd H q o) p := by
  obtain ⟨g, r, h1, h2⟩ := h
  refine ⟨g, r, ?_, h2⟩
  rw [upd_ne n.symm]
  exact h1
section
variable {P : Program} {w : World} {K : PySem.W.Frag} {mg : Str → Option Value} {base : Heap}
def spPot (K : PySem.W.Frag) : Sp := fun vs H Q _ => ∃ (a : Addr) (ns : List Int) (k : Nat), vs = [.ref a, .int k] ∧ SqL K H a (ns.map V.int) ∧ ns.length ≤ 1000 ∧ k ≤ 1000 ∧ ∀ H' p, Same H H' → H p = none → PotAt H' p → Q (.ref p) H'
theorem ok_pot {f : Addr} {fd : FuncData} {k : Nat} (F : Fun K "_law_pot" "_law_pot" sPot f fd) (ml : mg "len" = none) (mb : mg "abs" = none) (mi : mg "int" = none) (hD : PySem.W.nsIn K cStatics "sys.int_max_str_digits" = some none) : FnOk P w K mg base CX0 (k + 1) f fd ["_law_script", "_law_k"] (spPot K) := by
  refine F.ok scPot (fun vs H Q E h => ?_) (fun cdv A outer s H vs Q E hr h => ?_)
  · obtain ⟨a, ns, k, rfl, _⟩ := h
    rfl
  · obtain ⟨a, ns, k', rfl, ha, hl, hk, q⟩ := h
    obtain ⟨tt, htt, qtt⟩ : ∃ t, PSs (cxOf CX0 P w K mg base nPot "_law_pot" (defScope sPot) f cdv A outer s H E).nox ((defBody sPot).drop 2) t ∧ ∀ c : Int, t { nx := fun _ H' => Q .non H', rt := Q } [some (.ref a), some (.int k'), some (.int c), none] H := by
      refine ⟨_, pss_cons (ps_set (i := 3) scPot.nd rfl (.inl rfl) (pe_op op_mul (pe_op op_mod (pe_callB call_abs (by rfl) mb bAbs (pa_cons (pv 2) pa_nil)) (pe_callTy R5.cr_intText (by rfl) mi bInt (pa_cons (pe_op op_add_str pe_str (pe_op R5.op_mulStr pe_str pe_int)) pa_nil)))
          (pe_callTy call_int1 (by rfl) mi bInt (pa_cons (pe_cmpR op_ge (pe_callB call_abs (by rfl) mb bAbs (pa_cons (pv 2) pa_nil)) (pe_op op_pow pe_int pe_int) (nomark _)) pa_nil))))
        (pss_one (ps_ret (pe_lst (pa_cons (pv 3) (pa_cons (pe_op op_mod (pe_op op_mul (pe_op op_add (pe_op op_add (pe_op op_mod (pv 2) pe_int) (pe_op op_mul (pe_op op_mul pe_int (pv 1)) (pv 1))) pe_int) pe_int) pe_int) pa_nil))))), fun c => ?_⟩
      obtain ⟨n, hn, hn0⟩ := big_int
      refine ⟨.int c, rfl, c, rfl, "0", 900, rfl, rfl, by decide, by decide, by decide +kernel, by decide +kernel, ?_⟩
      refine ⟨"1", zeros, rfl, rfl, ?_, ?_⟩
      · have h1 : zeros.length = 900 := by
          have h2 := big_length
          have h3 : big.length = (PySem.Str.ofString "1").length + zeros.length := by
            show ((PySem.Str.ofString "1").cps ++ zeros.cps).size = _
            rw [Array.size_append]
            rfl
          have h4 : (PySem.Str.ofString "1").length = 1 := by decide +kernel
          omega
        have h4 : (PySem.Str.ofString "1").length = 1 := by decide +kernel
        show (PySem.Str.ofString "1").length + zeros.length ≤ _
        rw [h1, h4, sizeLine_eq]
        decide
      · refine ⟨big, n, rfl, big_seen, hn, ?_, hD, ?_⟩
        · rw [big_length, sizeLine_eq]
          decide
        · refine ⟨_, n, rfl, rfl, hn0, ?_⟩
          refine ⟨.int c, rfl, c, rfl, 10, 18, rfl, rfl, ⟨by decide, by decide, by decide⟩, _, _, rfl, rfl, .inr ⟨_, rfl, _, _, rfl, rfl, .inr ?_, ?_⟩⟩
          · have hb : ∀ b : Bool, -(2 ^ 64) < (if b = true then (1 : Int) else 0) ∧ (if b = true then (1 : Int) else 0) < 2 ^ 64 := by
              intro b
              cases b <;> decide
            exact hb _
          · refine ⟨_, rfl, .int c, rfl, c, 2305843009213693951, rfl, rfl, (by decide : (0 : Int) < 2305843009213693951), ?_⟩
            have h0 := Int.emod_nonneg c (by decide : (2305843009213693951 : Int) ≠ 0)
            have h1 := Int.emod_lt_of_pos c (by decide : (0 : Int) < 2305843009213693951)
            refine ⟨.int k', rfl, 7919, k', rfl, rfl, .inl (by decide), .int k', rfl, _, k', rfl, rfl, .inr (by omega), _, _, rfl, rfl, _, 11, rfl, rfl, _, 48271, rfl, rfl, .inr (by decide), _, 2305843009213693951, rfl, rfl, (by decide : (0 : Int) < 2305843009213693951), ?_⟩
            refine ⟨(by decide : 2 ≤ sizeLine), fun p np => ?_⟩
            refine q _ p (same_upd np) np ⟨_, _, upd_same, ?_, ?_⟩
            · exact Int.emod_nonneg _ (by decide)
            · exact Int.lt_trans (Int.emod_lt_of_pos _ (by decide)) (by decide)
    refine ⟨_, pss_cons (ps_set (i := 2) scPot.nd rfl (.inl rfl) (pe_op op_add (pe_op op_mul pe_int (pv 1)) (pe_callB call_len_seq (by rfl) ml bLen (pa_cons (pv 0) pa_nil))))
      (pss_cons (ps_if (pt_cmpR op_lt (pv 1) (pe_callB call_len_seq (by rfl) ml bLen (pa_cons (pv 0) pa_nil)) (nomark _)) (pss_one (ps_set (i := 2) scPot.nd rfl (.inl rfl) (pe_ix ix_list (pv 0) (pv 1) (fun _ _ => rfl)))) pss_nil) htt), ?_⟩
    refine ⟨.int k', rfl, 3, k', rfl, rfl, .inl (by decide), .ref a, rfl, a, _, rfl, .inl ha, _, _, rfl, rfl, ?_⟩
    refine ⟨.int k', rfl, .ref a, rfl, a, _, rfl, .inl ha, k', _, rfl, rfl, _, rfl, ?_⟩
    by_cases hlt : k' < ns.length
    · rw [decide_eq_true (by rw [List.length_map]; omega)]
      refine iteT ⟨.ref a, rfl, .int k', rfl, a, _, k', .int ns[k'], rfl, rfl, ha, atI_nat ?_, qtt _⟩
      rw [List.getElem?_map, List.getElem?_eq_getElem hlt]
      rfl
    · rw [decide_eq_false (by rw [List.length_map]; omega)]
      exact iteF (qtt _)
/-! ### take -/
def spTake : Sp := fun vs H Q _ => ∃ (p : Addr) (u : Nat), vs = [.ref p, .int u] ∧ PotAt H p ∧ 1 ≤ u ∧ u ≤ 1000 ∧ ∀ H' (d : Nat), SamP p H H' → PotAt H' p → (∀ b, H b = none → H' b = none) → d < u → Q (.int d) H'
theorem upd_none {H : Hp} {p b : Addr} {o x : HO} (h : H p = some x) (n : H b = none) : upd H p o b = none := by
  rw [upd_ne]
  · exact n
  · intro e
    rw [e, h] at n
    cases n
theorem ok_take {f : Addr} {fd : FuncData} {k : Nat} (F : Fun K "_law_take" "_law_take" sTake f fd) : FnOk P w K mg base CX0 (k + 1) f fd ["_law_pot_here", "_law_upto"] spTake := by
  refine F.ok scTake (fun vs H Q E h => ?_) (fun cdv A outer s H vs Q E hr h => ?_)
  · obtain ⟨p, u, rfl, _⟩ := h
    rfl
  · obtain ⟨p, u, rfl, ⟨g, r, hp, hr0, hr1⟩, hu, hu2, q⟩ := h
    refine ⟨_, pss_cons (ps_if (pt_cmpR op_gt (pe_ix ix_list (pv 0) pe_int (fun _ _ => rfl)) pe_int (nomark _))
        (pss_cons (ps_set (i := 2) scTake.nd rfl (.inl rfl) (pe_op op_mod (pe_ix ix_list (pv 0) pe_int (fun _ _ => rfl)) (pv 1)))
        (pss_cons (ps_asg (pe_op op_fdiv (pe_ix ix_list (pv 0) pe_int (fun _ _ => rfl)) (pv 1)) (pg_sub (pv 0) pe_int set_list))
        (pss_one (ps_ret (pv 2))))) pss_nil)
      (pss_cons (ps_asg (pe_op op_mod (pe_op op_add (pe_op op_mul (pe_ix ix_list (pv 0) pe_int (fun _ _ => rfl)) pe_int) pe_int) pe_int) (pg_sub (pv 0) pe_int set_list))
      (pss_one (ps_ret (pe_op op_mod (pe_op op_fdiv (pe_op op_mod (pe_op op_mul (pe_op op_fdiv (pe_ix ix_list (pv 0) pe_int (fun _ _ => rfl)) pe_int) (pe_op op_add (pe_op op_mod (pe_ix ix_list (pv 0) pe_int (fun _ _ => rfl)) pe_int) pe_int)) pe_int) pe_int) (pv 1))))), ?_⟩
    have a0 : ∀ {x y : Int}, atI [V.int x, V.int y] 0 = some (.int x) := fun {x y} => atI_nat (j := 0) rfl
    have a1 : ∀ {x y : Int}, atI [V.int x, V.int y] 1 = some (.int y) := fun {x y} => atI_nat (j := 1) rfl
    have hup : (0 : Int) < (u : Int) := by omega
    refine ⟨.ref p, rfl, p, _, 0, _, rfl, rfl, .inl (.inl hp), a0, g, 0, rfl, rfl, _, rfl, ?_⟩
    by_cases hg : 0 < g
    · rw [decide_eq_true hg]
      refine iteT ⟨.ref p, rfl, p, _, 0, _, rfl, rfl, .inl (.inl hp), a0, .int u, rfl, g, u, rfl, rfl, hup, ?_⟩
      refine ⟨.ref p, rfl, p, _, 0, _, rfl, rfl, .inl (.inl hp), a0, .int u, rfl, g, u, rfl, rfl, ⟨hup, by omega⟩, ?_⟩
      refine ⟨.ref p, rfl, p, _, 0, 0, rfl, rfl, hp, rfl, .int (g % u), rfl, ?_⟩
      have h1 := Int.emod_nonneg g (show (u : Int) ≠ 0 by omega)
      have h2 := Int.emod_lt_of_pos g hup
      have := q (upd H p (.lst [.int (g / u), .int r])) (g % u).toNat SamP.upd ⟨_, _, upd_same, hr0, hr1⟩ (fun b n => upd_none hp n) (by omega)
      rw [Int.toNat_of_nonneg h1] at this
      exact this
    · rw [decide_eq_false hg]
      refine iteF ⟨.ref p, rfl, p, _, 1, _, rfl, rfl, .inl (.inl hp), a1, r, 1181783497276652981, rfl, rfl, .inr (by decide), _, 12345678910987, rfl, rfl, _, 2305843009213693951, rfl, rfl, (by decide : (0 : Int) < 2305843009213693951), ?_⟩
      have h1 : 0 ≤ ((r * 1181783497276652981 + 12345678910987) % 2305843009213693951) := Int.emod_nonneg _ (by decide)
      have h2 : ((r * 1181783497276652981 + 12345678910987) % 2305843009213693951) < 2305843009213693951 := Int.emod_lt_of_pos _ (by decide)
      refine ⟨.ref p, rfl, p, _, 1, 1, rfl, rfl, hp, rfl, ?_⟩
      have e1 : (upd H p (.lst [.int g, .int ((r * 1181783497276652981 + 12345678910987) % 2305843009213693951)])) p = some (.lst [.int g, .int ((r * 1181783497276652981 + 12345678910987) % 2305843009213693951)]) := upd_same
      have h3 := Int.emod_nonneg ((r * 1181783497276652981 + 12345678910987) % 2305843009213693951) (by decide : (65537 : Int) ≠ 0)
      have h4 := Int.emod_lt_of_pos ((r * 1181783497276652981 + 12345678910987) % 2305843009213693951) (by decide : (0 : Int) < 65537)
      refine ⟨.ref p, rfl, p, _, 1, _, rfl, rfl, .inl (.inl e1), a1, ((r * 1181783497276652981 + 12345678910987) % 2305843009213693951), 65537, rfl, rfl, ⟨by decide, by decide⟩, .ref p, rfl, p, _, 1, _, rfl, rfl, .inl (.inl e1), a1, ((r * 1181783497276652981 + 12345678910987) % 2305843009213693951), 65537, rfl, rfl, (by decide : (0 : Int) < 65537), _, 3, rfl, rfl, _, _, rfl, rfl, .inr (by omega), _, 2305843009213693921, rfl, rfl, (by decide : (0 : Int) < 2305843009213693921), _, 97, rfl, rfl, ⟨by decide, by decide⟩, .int u, rfl, _, u, rfl, rfl, hup, ?_⟩
      generalize ((r * 1181783497276652981 + 12345678910987) % 2305843009213693951) / 65537 * (((r * 1181783497276652981 + 12345678910987) % 2305843009213693951) % 65537 + 3) % 2305843009213693921 / 97 = z
      have h1' := Int.emod_nonneg z (show (u : Int) ≠ 0 by omega)
      have h2' := Int.emod_lt_of_pos z hup
      have := q (upd H p (.lst [.int g, .int ((r * 1181783497276652981 + 12345678910987) % 2305843009213693951)])) (z % u).toNat SamP.upd ⟨_, _, e1, h1, Int.lt_trans h2 (by decide)⟩ (fun b n => upd_none hp n) (by omega)
      rw [Int.toNat_of_nonneg h1'] at this
      exact this
/-! ### of -/
def spOf : Sp := fun vs H Q _ => ∃ (p s : Addr) (xs : List V), vs = [.ref p, .ref s] ∧ PotAt H p ∧ s ≠ p ∧ H s = some (.lst xs) ∧ 1 ≤ xs.length ∧ xs.length ≤ 1000 ∧ ∀ H' x, SamP p H H' → PotAt H' p → (∀ b, H b = none → H' b = none) → x ∈ xs → Q x H'
theorem ok_of {f fT : Addr} {fd fdT : FuncData} {k : Nat} (F : Fun K "_law_of" "_law_of" sOf f fd) (T : FnOk P w K mg base CX0 (k + 1) fT fdT ["_law_pot_here", "_law_upto"] spTake) (kT : PySem.W.keepIn K (.ref fT) = true) (bT : Binds K fdT ["_law_pot_here", "_law_upto"] []) (gT : mg "_law_take" = some (.ref fT)) (ml : mg "len" = none) : FnOk P w K mg base CX0 (k + 2) f fd ["_law_pot_here", "_law_some"] spOf := by
  refine F.ok scOf (fun vs H Q E h => ?_) (fun cdv A outer s H vs Q E hr h => ?_)
  · obtain ⟨p, s, xs, rfl, _⟩ := h
    rfl
  · obtain ⟨p, s', xs, rfl, hp, hne, hs, h1, h2, q⟩ := h
    refine ⟨_, pss_one (ps_ret (pe_ix ix_list (pv 1) (pe_call T hr (by rfl) gT kT bT .nil pass0 (pa_cons (pv 0) (pa_cons (pe_callB call_len_seq (by rfl) ml bLen (pa_cons (pv 1) pa_nil)) pa_nil))) (fun _ _ => rfl))), ?_⟩
    refine ⟨.ref s', rfl, .ref p, rfl, .ref s', rfl, s', xs, rfl, .inl (.inl (.inl hs)), p, xs.length, rfl, hp, h1, h2, fun H1 d s1 p1 n1 hd => ?_⟩
    have hx : xs[d]? = some xs[d] := List.getElem?_eq_getElem hd
    exact ⟨s', xs, d, _, rfl, rfl, .inl (.inl (s1 _ _ hne hs)), atI_nat hx, q H1 _ s1 p1 n1 (List.getElem_mem hd)⟩
end
end WK
/-! The walk of the law's names. -/
namespace WK
open PySem PySem.Spec PyProof.Rows L2
abbrev sNames : Stmt := topS 25
abbrev nNames : List Str := ["_law_pot_here", "_law_many", "_law_stem", "_law_at", "_law_first", "_law_leap", "_law_letters", "_law_k", "_law_letter"]
theorem scNames : FnScope nNames ["_law_pot_here", "_law_many"] (defScope sNames) := ⟨rfl, rfl, rfl, by decide +kernel, rfl, by decide +kernel, by decide +kernel⟩
/-! ### texts -/
theorem join_len : ∀ ys : List Str, (Str.join (PySem.Str.ofString "") ys).length = (ys.map (·.length)).sum
  | [] => rfl
  | [x] => by
    show x.length = x.length + 0
    rfl
  | x :: z :: r => by
    have ih := join_len (z :: r)
    show ((x.cps ++ (PySem.Str.ofString "").cps) ++ (Str.join (PySem.Str.ofString "") (z :: r)).cps).size = x.length + ((z :: r).map (·.length)).sum
    rw [← ih, Array.size_append, Array.size_append]
    show x.cps.size + 0 + (Str.join (PySem.Str.ofString "") (z :: r)).cps.size = x.cps.size + (Str.join (PySem.Str.ofString "") (z :: r)).cps.size
    rfl
theorem ones_sum : ∀ ys : List Str, (∀ y ∈ ys, y.length = 1) → (ys.map (·.length)).sum = ys.length
  | [], _ => rfl
  | y :: ys, h => by
    rw [List.map_cons, List.sum_cons, ones_sum ys fun z hz => h z (List.mem_cons_of_mem _ hz), h y List.mem_cons_self, List.length_cons]
    omega
theorem al_at : ∀ n : Fin 26, atI (PySem.Str.ofString "abcdefghijklmnopqrstuvwxyz").cps.toList ((n.val : Nat) : Int) = some (97 + n.val) := by decide +kernel
theorem al_at' {n : Nat} (h : n < 26) : atI (PySem.Str.ofString "abcdefghijklmnopqrstuvwxyz").cps.toList (n : Int) = some (97 + n) := al_at ⟨n, h⟩
def letter (f l k : Nat) : Str := ⟨#[97 + (f + l * k) % 26]⟩
def named (st : Str) (at_ : Nat) (c : Str) : Str := (cutS st none (some (at_ : Int)) ++ c) ++ cutS st (some (at_ : Int)) none
theorem letter_inj {f l i j : Nat} (hl : l ∈ [1, 3, 5, 7, 9, 11]) (hi : i < 26) (hj : j < 26) (h : letter f l i = letter f l j) : i = j := by
  unfold letter at h
  have h1 := congrArg (fun z : Str => z.cps.toList) h
  have h2 : 97 + (f + l * i) % 26 = 97 + (f + l * j) % 26 := (List.cons.inj h1).1
  simp only [List.mem_cons, List.not_mem_nil, or_false] at hl
  rcases hl with e | e | e | e | e | e <;> subst e <;> omega
theorem named_inj {st : Str} {a : Nat} {c d : Str} (h : named st a c = named st a d) : c = d := by
  have h1 : ((cutS st none (some (a : Int))).cps ++ c.cps) ++ (cutS st (some (a : Int)) none).cps = ((cutS st none (some (a : Int))).cps ++ d.cps) ++ (cutS st (some (a : Int)) none).cps := congrArg Str.cps h
  have h2 := congrArg Array.toList h1
  rw [Array.toList_append, Array.toList_append, Array.toList_append, Array.toList_append] at h2
  have h3 := List.append_cancel_left (List.append_cancel_right h2)
  obtain ⟨x⟩ := c
  obtain ⟨y⟩ := d
  have : x = y := Array.ext' h3
  rw [this]
theorem names_nodup (st : Str) (a f l : Nat) (hl : l ∈ [1, 3, 5, 7, 9, 11]) {m : Nat} (hm : m ≤ 26) : ((List.range m).map fun k => named st a (letter f l k)).Nodup := by
  refine List.pairwise_map.mpr (List.Pairwise.imp_of_mem ?_ List.pairwise_lt_range)
  intro i j hi hj hlt e
  rw [List.mem_range] at hi hj
  have := letter_inj hl (by omega) (by omega) (named_inj e)
  omega
theorem cutS_len (z : Str) (lo hi : Option Int) : (cutS z lo hi).length ≤ z.length := by
  unfold cutS
  show (List.toArray _).size ≤ z.cps.size
  rw [List.size_toArray, List.length_take, List.length_drop, Array.length_toList]
  omega
section
variable {P : Program} {w : World} {K : PySem.W.Frag} {mg : Str → Option Value} {base : Heap}
def spNames : Sp := fun vs H Q _ => ∃ (p : Addr) (m : Nat), vs = [.ref p, .int m] ∧ PotAt H p ∧ m ≤ 26 ∧ ∀ (H' : Hp) (t : Addr) (ns : List Str), SamP p H H' → PotAt H' p → H t = none → H' t = some (.lst (ns.map V.str)) → ns.length = m → ns.Nodup → Q (.ref t) H'
theorem ok_names {f fT fO : Addr} {fd fdT fdO : FuncData} {k : Nat} (F : Fun K "_law_names" "_law_names" sNames f fd)
    (T : FnOk P w K mg base CX0 (k + 2) fT fdT ["_law_pot_here", "_law_upto"] spTake) (kT : PySem.W.keepIn K (.ref fT) = true) (bT : Binds K fdT ["_law_pot_here", "_law_upto"] []) (gT : mg "_law_take" = some (.ref fT))
    (O : FnOk P w K mg base CX0 (k + 2) fO fdO ["_law_pot_here", "_law_some"] spOf) (kO : PySem.W.keepIn K (.ref fO) = true) (bO : Binds K fdO ["_law_pot_here", "_law_some"] []) (gO : mg "_law_of" = some (.ref fO))
    (ml : mg "len" = none) (mr : mg "range" = none) (mL : mg "list" = none) (ms : mg "sorted" = none) : FnOk P w K mg base CX0 (k + 3) f fd ["_law_pot_here", "_law_many"] spNames := by
  refine F.ok scNames (fun vs H Q E h => ?_) (fun cdv A outer s H vs Q E hr h => ?_)
  · obtain ⟨p, m, rfl, _⟩ := h
    rfl
  · obtain ⟨p, m, rfl, hp, hm, q⟩ := h
    refine ⟨_, pss_cons (ps_set (i := 2) scNames.nd rfl (.inr rfl) (pe_join pe_str (pe_lc (own := [("_law_k", 7)]) (g := gName 7) (tt := tYes) rfl scNames.nd
          (pi_range1 (by rfl) mr (pa_cons (pe_call T hr (by rfl) gT kT bT .nil pass0 (pa_cons (pv 0) (pa_cons pe_int pa_nil))) pa_nil)) (blkOk_by (N := nNames) (sc := defScope sNames) (by decide +kernel))
          (fun _ _ _ _ _ => pg_name (i := 7) scNames.nd rfl (Or.inl rfl)) (fun _ _ _ _ _ => pts_nil)
          (fun _ _ _ _ _ => pe_call O hr (by rfl) gO kO bO .nil pass0 (pa_cons (pv 0) (pa_cons (pe_callTy (r := R5.rListStr) (R5.cr_listStr rfl) (by rfl) mL bList (pa_cons pe_str pa_nil)) pa_nil))))))
      (pss_cons (ps_asg (pe_tup (pa_cons (pe_call T hr (by rfl) gT kT bT .nil pass0 (pa_cons (pv 0) (pa_cons (pe_op op_add (pe_callB call_len_str (by rfl) ml bLen (pa_cons (pv 2) pa_nil)) pe_int) pa_nil)))
          (pa_cons (pe_call T hr (by rfl) gT kT bT .nil pass0 (pa_cons (pv 0) (pa_cons pe_int pa_nil)))
          (pa_cons (pe_call O hr (by rfl) gO kO bO .nil pass0 (pa_cons (pv 0) (pa_cons (pe_lst (pa_cons pe_int (pa_cons pe_int (pa_cons pe_int (pa_cons pe_int (pa_cons pe_int (pa_cons pe_int pa_nil))))))) pa_nil))) pa_nil))))
        (pg_tup rfl (pgs_cons (pg_name (i := 3) scNames.nd rfl (.inr rfl)) (pgs_cons (pg_name (i := 4) scNames.nd rfl (.inr rfl)) (pgs_cons (pg_name (i := 5) scNames.nd rfl (.inr rfl)) pgs_nil)))))
      (pss_cons (ps_setLc (i := 6) (own := [("_law_k", 7)]) (g := gName 7) (tt := tYes) rfl scNames.nd rfl rfl (sw_true rfl rfl rfl (by decide +kernel))
          (pi_range1 (by rfl) mr (pa_cons (pv 1) pa_nil)) (blkOk_by (N := nNames) (sc := defScope sNames) (by decide +kernel))
          (fun _ _ _ _ _ => pg_name (i := 7) scNames.nd rfl (Or.inl rfl)) (fun _ _ _ _ _ => pts_nil)
          (fun _ _ _ _ _ => pe_ix (r := rIxS) ix_str pe_str (pe_op op_mod (pe_op op_add (pv 4) (pe_op op_mul (pv 5) (pv 7))) pe_int) (fun _ _ => rfl)))
      (pss_one (ps_ret (pe_callB cr_sortedS (by rfl) ms bSorted (pa_cons (pe_lc (own := [("_law_letter", 8)]) (g := gName 8) (tt := tYes) rfl scNames.nd (pi_list (pv 6)) (blkOk_by (N := nNames) (sc := defScope sNames) (by decide +kernel))
          (fun _ _ _ _ _ => pg_name (i := 8) scNames.nd rfl (Or.inl rfl)) (fun _ _ _ _ _ => pts_nil)
          (fun _ _ _ _ _ => pe_op op_add_str (pe_op op_add_str (pe_slice sl_str (pv 2) po_none (po_some (pv 3))) (pv 8)) (pe_slice sl_str (pv 2) (po_some (pv 3)) po_none))) pa_nil)))))), ?_⟩
    -- the stem
    refine ⟨⟨_, rfl⟩, .ref p, rfl, p, 6, rfl, hp, by decide, by decide, fun H1 d s1 p1 n1 hd => ⟨(d : Int), rfl, by omega, by omega, fun D nD => ?_⟩⟩
    have nDp : D ≠ p := p1.ne nD
    have nDH : H D = none := s1.free nDp nD
    refine lc_range (fun i H3 => SamP p H H3 ∧ PotAt H3 p ∧ ∃ ys : List Str, ys.length = i ∧ (∀ y ∈ ys, y.length = 1) ∧ H3 D = some (.lst (ys.map V.str))) ⟨s1.trans (SamP.of (same_upd nD)), p1.upd nDp, [], rfl, fun y h => (nomatch h), upd_same⟩ (fun i H3 hi hW => ?_) (fun H3 hW => ?_)
    · obtain ⟨sm, pt, ys, hy, h1, eD⟩ := hW
      refine ⟨rfl, .ref p, rfl, "abcxyz", rfl, by decide +kernel, fun l nl => ?_⟩
      have sl := same_upd (o := .lst ((PySem.Str.ofString "abcxyz").cps.toList.map fun c => V.str ⟨#[c]⟩)) nl
      have lne := pt.ne nl
      refine ⟨p, l, (PySem.Str.ofString "abcxyz").cps.toList.map fun c => V.str ⟨#[c]⟩, rfl, pt.upd lne, lne, upd_same, by rw [List.length_map]; decide +kernel, by rw [List.length_map]; decide +kernel, fun H5 x s5 p5 n5 hx => ?_⟩
      obtain ⟨c, _, rfl⟩ := List.mem_map.mp hx
      refine ⟨_, s5 _ _ nDp (sl _ _ eD), ?_, SamP.upd2 ((sm.trans (SamP.of sl)).trans s5) nDH, p5.upd nDp, ys ++ [⟨#[c]⟩], ?_, fun y h => ?_, ?_⟩
      · rw [List.length_map]
        exact small1000 (by omega)
      · rw [List.length_append, hy]
        rfl
      · rcases List.mem_append.mp h with h | h
        · exact h1 y h
        · rw [List.mem_singleton.mp h]
          rfl
      · rw [upd_same, List.map_append]
        rfl
    · obtain ⟨sm, pt, ys, hy, h1, eD⟩ := hW
      have hsum := ones_sum ys h1
      refine ⟨_, D, ys, rfl, rfl, .inl (.inl (.inl eD)), ?_, ?_⟩
      · have h0 : (PySem.Str.ofString "").length = 0 := by decide +kernel
        rw [hsum, h0]
        omega
      have hst : (Txt.join (PySem.Str.ofString "") ys).length = ys.length := by
        rw [TL.join_eq, join_len, hsum]
      revert hst
      generalize Txt.join (PySem.Str.ofString "") ys = st
      intro hst
      have hst5 : st.length ≤ 5 := by omega
      -- at, first, leap
      refine ⟨.ref p, rfl, .str st, rfl, st, rfl, Nat.le_of_lt (small1000 (by omega)), _, 1, rfl, rfl, p, st.length + 1, rfl, pt, by omega, by omega, fun H4 d1 s4 p4 n4 hd1 => ?_⟩
      refine ⟨.ref p, rfl, p, 26, rfl, p4, by decide, by decide, fun H5 d2 s5 p5 n5 hd2 => ?_⟩
      refine ⟨.ref p, rfl, (by decide : 6 ≤ sizeLine), fun l nl => ?_⟩
      have sl := same_upd (o := .lst [V.int 1, V.int 3, V.int 5, V.int 7, V.int 9, V.int 11]) nl
      have lne := p5.ne nl
      refine ⟨p, l, _, rfl, p5.upd lne, lne, upd_same, by decide, by decide, fun H6 x s6 p6 n6 hx => ⟨(by decide : 3 ≤ sizeLine), fun tp ntp => ?_⟩⟩
      obtain ⟨lp, hlp, rfl⟩ : ∃ lp : Nat, lp ∈ [1, 3, 5, 7, 9, 11] ∧ x = .int lp := by
        simp only [List.mem_cons, List.not_mem_nil, or_false] at hx
        rcases hx with e | e | e | e | e | e
        · exact ⟨1, by decide, e⟩
        · exact ⟨3, by decide, e⟩
        · exact ⟨5, by decide, e⟩
        · exact ⟨7, by decide, e⟩
        · exact ⟨9, by decide, e⟩
        · exact ⟨11, by decide, e⟩
      have hlp11 : lp ≤ 11 := by
        simp only [List.mem_cons, List.not_mem_nil, or_false] at hlp
        omega
      have stp := same_upd (o := .tup [V.int d1, V.int d2, V.int lp]) ntp
      have p7 := p6.same stp
      have sm7 := (((sm.trans s4).trans s5).trans (SamP.of sl)).trans (s6.trans (SamP.of stp))
      refine ⟨tp, _, rfl, .inl (.inl upd_same), rfl, .int d1, _, rfl, .int d2, _, rfl, .int lp, [], rfl, rfl, ?_⟩
      revert sm7 p7
      generalize upd H6 tp (.tup [V.int d1, V.int d2, V.int lp]) = H7
      intro p7 sm7
      -- the letters
      refine ⟨.int m, rfl, m, rfl, by omega, by omega, fun D2 nD2 => ?_⟩
      refine lc_range (fun i H8 => Same H7 H8 ∧ H8 D2 = some (.lst ((List.range i).map fun k => V.str (letter d2 lp k)))) ⟨same_upd nD2, upd_same⟩ (fun i H8 hi hW => ?_) (fun H8 hW => ?_)
      · obtain ⟨s8, e8⟩ := hW
        have hi' : i < m := by omega
        have hidx : ((d2 : Int) + (lp : Int) * (0 + (i : Int))) % 26 = (((d2 + lp * i) % 26 : Nat) : Int) := by
          rw [Int.zero_add]
          norm_cast
        refine ⟨rfl, .int d2, rfl, .int lp, rfl, .int (0 + (i : Int)), rfl, lp, 0 + (i : Int), rfl, rfl, .inl (by omega), d2, _, rfl, rfl, _, 26, rfl, rfl, (by decide : (0 : Int) < 26), _, _, 97 + (d2 + lp * i) % 26, rfl, rfl, by decide +kernel, ?_, _, e8, ?_, same_upd2 s8 nD2, ?_⟩
        · have := al_at' (n := (d2 + lp * i) % 26) (Nat.mod_lt _ (by decide))
          rw [← hidx] at this
          exact this
        · rw [List.length_map, List.length_range]
          exact small1000 (by omega)
        · rw [upd_same, List.range_succ, List.map_append]
          rfl
      · obtain ⟨s8, e8⟩ := hW
        have em : (((m : Nat) : Int)).toNat = m := Int.toNat_natCast m
        rw [em] at e8
        -- the names
        refine ⟨.ref D2, rfl, D2, rfl, ⟨_, .inl (.inl e8)⟩, fun D3 nD3 => ?_⟩
        refine lc_list (xs := (List.range m).map fun k => V.str (letter d2 lp k)) (fun i H9 => Same H8 H9 ∧ H9 D3 = some (.lst (((List.range i).map fun k => named st d1 (letter d2 lp k)).map V.str))) ⟨same_upd nD3, upd_same⟩ (fun i H9 hi hW => .inl (.inl (hW.1 _ _ e8))) (fun i x H9 hx hW => ?_) (fun H9 hW => ?_)
        · obtain ⟨s9, e9⟩ := hW
          have hi : i < m := by
            have := (List.getElem?_eq_some_iff.mp hx).1
            rw [List.length_map, List.length_range] at this
            exact this
          have ex : x = .str (letter d2 lp i) := by
            rw [List.getElem?_map, List.getElem?_range hi] at hx
            exact (Option.some.inj hx).symm
          subst ex
          have c1 := cutS_len st none (some (d1 : Int))
          have c2 := cutS_len st (some (d1 : Int)) none
          have c3 : (letter d2 lp i).length = 1 := rfl
          have c4 : (cutS st none (some (d1 : Int)) ++ letter d2 lp i).length = (cutS st none (some (d1 : Int))).length + 1 := Array.size_append
          refine ⟨rfl, .str st, rfl, .int d1, rfl, d1, rfl, st, rfl, Nat.le_of_lt (small1000 (by omega)), .str (letter d2 lp i), rfl, _, _, rfl, rfl, Nat.le_of_lt (small1000 (by omega)), .str st, rfl, .int d1, rfl, d1, rfl, ?_⟩
          dsimp only [tNoPart]
          refine ⟨st, rfl, Nat.le_of_lt (small1000 (by omega)), _, _, rfl, rfl, Nat.le_of_lt (small1000 (by omega)), _, e9, ?_, same_upd2 s9 nD3, ?_⟩
          · rw [List.length_map, List.length_map, List.length_range]
            exact small1000 (by omega)
          · rw [upd_same, List.range_succ, List.map_append, List.map_append]
            rfl
        · obtain ⟨s9, e9⟩ := hW
          rw [List.length_map, List.length_range] at e9
          refine ⟨D3, _, rfl, .inl (.inl e9), by rw [List.length_map, List.length_range]; omega, fun zs tt hp hs ntt => ?_⟩
          have sA : Same H7 (upd H9 tt (.lst (zs.map V.str))) := (s8.trans s9).trans (same_upd ntt)
          have nt7 : H7 tt = none := (s8.trans s9).free ntt
          refine q _ tt zs (sm7.trans (SamP.of sA)) (p7.same sA) (sm7.free (p7.ne nt7) nt7) upd_same ?_ ?_
          · rw [hp.length_eq, List.length_map, List.length_range]
          · exact (List.Perm.pairwise_iff (fun h e => h e.symm) hp).mpr (names_nodup st d1 d2 lp hlp hm)
end
end WK
/-! The walk of the law's word. -/
namespace WK
open PySem PySem.Spec PyProof.Rows L2
abbrev sWord : Stmt := topS 26
abbrev nWord : List Str := ["_law_pot_here", "_law_names_here", "_law_most", "_law_many", "_law_way", "_law_turn", "_law_ring", "_law_found", "_law_k"]
theorem scWord : FnScope nWord ["_law_pot_here", "_law_names_here", "_law_most"] (defScope sWord) := ⟨rfl, rfl, rfl, by decide +kernel, rfl, by decide +kernel, by decide +kernel⟩
section
variable {P : Program} {w : World} {K : PySem.W.Frag} {mg : Str → Option Value} {base : Heap}
def spWord : Sp := fun vs H Q _ => ∃ (p n : Addr) (ns : List Str) (m : Nat), vs = [.ref p, .ref n, .int m] ∧ PotAt H p ∧ H n = some (.lst (ns.map V.str)) ∧ n ≠ p ∧ 1 ≤ ns.length ∧ ns.length ≤ 1000 ∧ m ≤ 900 ∧ ∀ (H' : Hp) (t : Addr) (wd : List Str), SamP p H H' → PotAt H' p → H' t = some (.tup (wd.map V.str)) → wd.length ≤ m → Q (.ref t) H'
theorem ok_word {f fT fO : Addr} {fd fdT fdO : FuncData} {k : Nat} (F : Fun K "_law_word" "_law_word" sWord f fd)
    (T : FnOk P w K mg base CX0 (k + 2) fT fdT ["_law_pot_here", "_law_upto"] spTake) (kT : PySem.W.keepIn K (.ref fT) = true) (bT : Binds K fdT ["_law_pot_here", "_law_upto"] []) (gT : mg "_law_take" = some (.ref fT))
    (O : FnOk P w K mg base CX0 (k + 2) fO fdO ["_law_pot_here", "_law_some"] spOf) (kO : PySem.W.keepIn K (.ref fO) = true) (bO : Binds K fdO ["_law_pot_here", "_law_some"] []) (gO : mg "_law_of" = some (.ref fO))
    (mr : mg "range" = none) (mt : mg "tuple" = none) : FnOk P w K mg base CX0 (k + 3) f fd ["_law_pot_here", "_law_names_here", "_law_most"] spWord := by
  refine F.ok scWord (fun vs H Q E h => ?_) (fun cdv A outer s H vs Q E hr h => ?_)
  · obtain ⟨p, n, ns, m, rfl, _⟩ := h
    rfl
  · obtain ⟨p, n, ns, m, rfl, hp, hn, hnp, hl1, hl2, hm, q⟩ := h
    -- _law_of(pot, names), in the def's own context
    have goOf : ∀ {H3 : Hp} {Q3 : VK}, SamP p H H3 → PotAt H3 p → (∀ (H4 : Hp) (x : Str), SamP p H3 H4 → PotAt H4 p → (∀ b, H3 b = none → H4 b = none) → Q3 (.str x) H4) → spOf [.ref p, .ref n] H3 Q3 E0 := by
      intro H3 Q3 sm pt hq
      refine ⟨p, n, ns.map V.str, rfl, pt, hnp, sm _ _ hnp hn, by rw [List.length_map]; exact hl1, by rw [List.length_map]; exact hl2, fun H4 x s4 p4 n4 hx => ?_⟩
      obtain ⟨z, _, rfl⟩ := List.mem_map.mp hx
      exact hq H4 z s4 p4 n4
    obtain ⟨t6, ht6, q6⟩ : ∃ t, PSs (cxOf CX0 P w K mg base nWord "_law_word" (defScope sWord) f cdv A outer s H E).nox ((defBody sWord).drop 5) t ∧ ∀ (H3 : Hp) (D : Addr) (fs : List Str) (way : Nat) (y5 y6 y8 : Option V), SamP p H H3 → PotAt H3 p → H D = none → D ≠ p → H3 D = some (.lst (fs.map V.str)) → fs.length ≤ m →
        t { nx := fun _ H' => Q .non H', rt := Q } [some (.ref p), some (.ref n), some (.int m), some (.int (fs.length : Nat)), some (.int way), y5, y6, some (.ref D), y8] H3 := by
      refine ⟨_, pss_cons (ps_if (PW.pt (pw_and (pt_cmpR op_eq (pv 4) pe_int (nomark _)) (pw_and1 (pt_cmpR op_gt (pv 3) pe_int (nomark _)))))
          (pss_one (ps_asg (pe_call O hr (by rfl) gO kO bO .nil pass0 (pa_cons (pv 0) (pa_cons (pv 1) pa_nil))) (pg_sub (pv 7) pe_int set_list))) pss_nil)
        (pss_one (ps_ret (pe_callTy call_tuple_of (by rfl) mt bTuple (pa_cons (pv 7) pa_nil)))), fun H3 D fs way y5 y6 y8 sm pt nD nDp eD hfs => ?_⟩
      refine ⟨.int way, rfl, rfl, _, rfl, ?_⟩
      refine and_rest (d := decide ((2 : Int) < (fs.length : Nat))) (fun z => ⟨.int (fs.length : Nat), rfl, _, 2, rfl, rfl, _, rfl, z⟩) (fun c1 d1 => ?_) (fun cd => ?_)
      · have hf : (2 : Int) < (fs.length : Nat) := of_decide_eq_true d1
        refine ⟨.ref p, rfl, .ref n, rfl, goOf sm pt fun H4 x s4 p4 n4 => ?_⟩
        have eD4 := s4 _ _ nDp eD
        refine ⟨.ref D, rfl, D, _, 0, 0, rfl, rfl, eD4, ?_, ?_⟩
        · unfold ixN
          rw [if_pos (by omega), List.length_map, if_pos (by omega)]
          rfl
        · refine ⟨.ref D, rfl, D, _, rfl, .inl ⟨.inl (.inl upd_same), fun l nl => ?_⟩⟩
          have nlp := (p4.upd (o := .lst ((fs.map V.str).set 0 (.str x))) nDp).ne nl
          refine q _ l (fs.set 0 x) (((sm.trans s4).upd2 nD).trans (SamP.of (same_upd nl))) ((p4.upd nDp).upd nlp) ?_ ?_
          · rw [upd_same, List.map_set]
          · rw [List.length_set]
            exact hfs
      · refine ⟨.ref D, rfl, D, _, rfl, .inl ⟨.inl (.inl eD), fun l nl => ?_⟩⟩
        refine q _ l fs (sm.trans (SamP.of (same_upd nl))) (pt.upd (pt.ne nl)) upd_same hfs
    refine ⟨_, pss_cons (ps_asg (pe_tup (pa_cons (pe_call T hr (by rfl) gT kT bT .nil pass0 (pa_cons (pv 0) (pa_cons (pe_op op_add (pv 2) pe_int) pa_nil)))
          (pa_cons (pe_call T hr (by rfl) gT kT bT .nil pass0 (pa_cons (pv 0) (pa_cons pe_int pa_nil)))
          (pa_cons (pe_op op_add pe_int (pe_call T hr (by rfl) gT kT bT .nil pass0 (pa_cons (pv 0) (pa_cons pe_int pa_nil)))) pa_nil))))
        (pg_tup rfl (pgs_cons (pg_name (i := 3) scWord.nd rfl (.inl rfl)) (pgs_cons (pg_name (i := 4) scWord.nd rfl (.inl rfl)) (pgs_cons (pg_name (i := 5) scWord.nd rfl (.inr rfl)) pgs_nil)))))
      (pss_cons (ps_set (i := 6) scWord.nd rfl (.inr rfl) (pe_lc (own := [("_law_k", 8)]) (g := gName 8) (tt := tYes) rfl scWord.nd
          (pi_range1 (by rfl) mr (pa_cons (pv 5) pa_nil)) (blkOk_by (N := nWord) (sc := defScope sWord) (by decide +kernel))
          (fun _ _ _ _ _ => pg_name (i := 8) scWord.nd rfl (Or.inl rfl)) (fun _ _ _ _ _ => pts_nil)
          (fun _ _ _ _ _ => pe_call O hr (by rfl) gO kO bO .nil pass0 (pa_cons (pv 0) (pa_cons (pv 1) pa_nil)))))
      (pss_cons (ps_if (pt_cmpR op_eq (pv 4) pe_int (nomark _)) (pss_one (ps_ret (pe_callTy call_tuple_of (by rfl) mt bTuple (pa_cons (pe_lc (own := [("_law_k", 8)]) (g := gName 8) (tt := tYes) rfl scWord.nd
          (pi_range1 (by rfl) mr (pa_cons (pv 3) pa_nil)) (blkOk_by (N := nWord) (sc := defScope sWord) (by decide +kernel))
          (fun _ _ _ _ _ => pg_name (i := 8) scWord.nd rfl (Or.inl rfl)) (fun _ _ _ _ _ => pts_nil)
          (fun _ _ _ _ _ => pe_call O hr (by rfl) gO kO bO .nil pass0 (pa_cons (pv 0) (pa_cons (pv 1) pa_nil)))) pa_nil)))) pss_nil)
      (pss_cons (ps_setLc (i := 7) (own := [("_law_k", 8)]) (g := gName 8) (tt := tYes) rfl scWord.nd rfl rfl (sw_true rfl rfl rfl (by decide +kernel))
          (pi_range1 (by rfl) mr (pa_cons (pv 3) pa_nil)) (blkOk_by (N := nWord) (sc := defScope sWord) (by decide +kernel))
          (fun _ _ _ _ _ => pg_name (i := 8) scWord.nd rfl (Or.inl rfl)) (fun _ _ _ _ _ => pts_nil)
          (fun _ _ _ _ _ => pe_ix (r := rIxL K) ix_list (pv 6) (pe_op op_mod (pv 8) (pv 5)) (fun _ _ => rfl)))
      (pss_cons (ps_if (PW.pt (pw_and (pt_cmpR op_gt (pv 4) pe_int (nomark _)) (pw_and1 (pt_cmpR op_gt (pv 3) pe_int (nomark _)))))
          (pss_one (ps_asg (pe_call O hr (by rfl) gO kO bO .nil pass0 (pa_cons (pv 0) (pa_cons (pv 1) pa_nil))) (pg_sub (pv 7) (pe_un un_neg pe_int) set_list))) pss_nil)
      ht6)))), ?_⟩
    refine ⟨.ref p, rfl, .int m, rfl, _, 1, rfl, rfl, p, m + 1, rfl, hp, by omega, by omega, fun H1 many s1 p1 n1 hmany => ?_⟩
    refine ⟨.ref p, rfl, p, 4, rfl, p1, by decide, by decide, fun H2 way s2 p2 n2 hway => ?_⟩
    refine ⟨.ref p, rfl, p, 3, rfl, p2, by decide, by decide, fun H3 tn s3 p3 n3 htn => ⟨1, _, rfl, rfl, (by decide : 3 ≤ sizeLine), fun tp ntp => ?_⟩⟩
    have et : (1 : Int) + (tn : Nat) = ((1 + tn : Nat) : Int) := by omega
    have stp := same_upd (o := .tup [V.int (many : Nat), V.int (way : Nat), V.int (1 + (tn : Int))]) ntp
    have sm4 := ((s1.trans s2).trans s3).trans (SamP.of stp)
    have p4 := p3.same stp
    refine ⟨tp, _, rfl, .inl (.inl upd_same), rfl, .int (many : Nat), _, rfl, .int (way : Nat), _, rfl, .int (1 + (tn : Int)), [], rfl, rfl, ?_⟩
    revert sm4 p4
    generalize upd H3 tp (.tup [V.int (many : Nat), V.int (way : Nat), V.int (1 + (tn : Int))]) = H4
    intro sm4 p4
    -- the ring
    refine ⟨.int (1 + (tn : Int)), rfl, _, rfl, by omega, by omega, fun D nD => ?_⟩
    have nDp : D ≠ p := p4.ne nD
    have nDH : H D = none := sm4.free nDp nD
    refine lc_range (fun i H5 => SamP p H H5 ∧ PotAt H5 p ∧ ∃ ys : List Str, ys.length = i ∧ H5 D = some (.lst (ys.map V.str))) ⟨sm4.trans (SamP.of (same_upd nD)), p4.upd nDp, [], rfl, upd_same⟩ (fun i H5 hi hW => ?_) (fun H5 hW => ?_)
    · obtain ⟨sm, pt, ys, hy, eD⟩ := hW
      refine ⟨rfl, .ref p, rfl, .ref n, rfl, goOf sm pt fun H6 x s6 p6 n6 => ⟨_, s6 _ _ nDp eD, ?_, (sm.trans s6).upd2 nDH, p6.upd nDp, ys ++ [x], ?_, ?_⟩⟩
      · rw [List.length_map]
        exact small1000 (by omega)
      · rw [List.length_append, hy]
        rfl
      · rw [upd_same, List.map_append]
        rfl
    · obtain ⟨sm, pt, ys, hy, eD⟩ := hW
      rw [et, Int.toNat_natCast] at hy
      have hmany' : many ≤ m := by omega
      refine ⟨.int (way : Nat), rfl, rfl, _, rfl, ite2 (fun hw0 => ?_) (fun hw0 => ?_)⟩
      · -- all of them anew
        refine ⟨.int (many : Nat), rfl, _, rfl, by omega, by omega, fun D2 nD2 => ?_⟩
        have nD2p : D2 ≠ p := pt.ne nD2
        have nD2H : H D2 = none := sm.free nD2p nD2
        refine lc_range (fun i H6 => SamP p H H6 ∧ PotAt H6 p ∧ ∃ zs : List Str, zs.length = i ∧ H6 D2 = some (.lst (zs.map V.str))) ⟨sm.trans (SamP.of (same_upd nD2)), pt.upd nD2p, [], rfl, upd_same⟩ (fun i H6 hi hW => ?_) (fun H6 hW => ?_)
        · obtain ⟨sm6, pt6, zs, hz, eD2⟩ := hW
          refine ⟨rfl, .ref p, rfl, .ref n, rfl, goOf sm6 pt6 fun H7 x s7 p7 n7 => ⟨_, s7 _ _ nD2p eD2, ?_, (sm6.trans s7).upd2 nD2H, p7.upd nD2p, zs ++ [x], ?_, ?_⟩⟩
          · rw [List.length_map]
            exact small1000 (by omega)
          · rw [List.length_append, hz]
            rfl
          · rw [upd_same, List.map_append]
            rfl
        · obtain ⟨sm6, pt6, zs, hz, eD2⟩ := hW
          refine ⟨D2, _, rfl, .inl ⟨.inl (.inl eD2), fun l nl => ?_⟩⟩
          refine q _ l zs (sm6.trans (SamP.of (same_upd nl))) (pt6.upd (pt6.ne nl)) upd_same ?_
          rw [hz, Int.toNat_natCast]
          exact hmany'
      · -- the ring again and again
        refine ⟨.int (many : Nat), rfl, _, rfl, by omega, by omega, fun D2 nD2 => ?_⟩
        have nD2p : D2 ≠ p := pt.ne nD2
        have nD2H : H D2 = none := sm.free nD2p nD2
        refine lc_range (fun i H6 => Same H5 H6 ∧ ∃ zs : List Str, zs.length = i ∧ H6 D2 = some (.lst (zs.map V.str))) ⟨same_upd nD2, [], rfl, upd_same⟩ (fun i H6 hi hW => ?_) (fun H6 hW => ?_)
        · obtain ⟨s6, zs, hz, eD2⟩ := hW
          have hidx : (0 + (i : Int)) % (1 + (tn : Int)) = ((i % (1 + tn) : Nat) : Int) := by
            rw [Int.zero_add, et]
            norm_cast
          have hlt : i % (1 + tn) < ys.length := by
            rw [hy]
            exact Nat.mod_lt _ (by omega)
          refine ⟨rfl, .ref D, rfl, .int (0 + (i : Int)), rfl, .int (1 + (tn : Int)), rfl, _, _, rfl, rfl, (by omega : (0 : Int) < (1 + (tn : Int))), D, _, _, .str ys[i % (1 + tn)], rfl, rfl, .inl (.inl (s6 _ _ eD)), ?_, _, eD2, ?_, same_upd2 s6 nD2, zs ++ [ys[i % (1 + tn)]], ?_, ?_⟩
          · rw [hidx]
            refine atI_nat ?_
            rw [List.getElem?_map, List.getElem?_eq_getElem hlt]
            rfl
          · rw [List.length_map]
            exact small1000 (by omega)
          · rw [List.length_append, hz]
            rfl
          · rw [upd_same, List.map_append]
            rfl
        · obtain ⟨s6, zs, hz, eD2⟩ := hW
          rw [Int.toNat_natCast] at hz
          have sm6 := sm.trans (SamP.of s6)
          have pt6 := pt.same s6
          refine ⟨.int (way : Nat), rfl, way, 1, rfl, rfl, _, rfl, ?_⟩
          subst hz
          refine and_rest (d := decide ((1 : Int) < (zs.length : Nat))) (fun z => ⟨.int (zs.length : Nat), rfl, _, 1, rfl, rfl, _, rfl, z⟩) (fun c1 d1 => ?_) (fun cd => ?_)
          · have hf : (1 : Int) < (zs.length : Nat) := of_decide_eq_true d1
            refine ⟨.ref p, rfl, .ref n, rfl, goOf sm6 pt6 fun H7 x s7 p7 n7 => ?_⟩
            have eD7 := s7 _ _ nD2p eD2
            refine ⟨.ref D2, rfl, 1, rfl, D2, _, -1, zs.length - 1, rfl, rfl, eD7, ?_, ?_⟩
            · unfold ixN
              rw [if_neg (by omega), List.length_map, if_pos (by omega)]
              congr 1
              omega
            · have := q6 (upd H7 D2 (.lst ((zs.map V.str).set (zs.length - 1) (.str x)))) D2 (zs.set (zs.length - 1) x) way (some (.int (1 + (tn : Int)))) (some (.ref D)) none ((sm6.trans s7).upd2 nD2H) (p7.upd nD2p) nD2H nD2p (by rw [upd_same, List.map_set]) (by rw [List.length_set]; exact hmany')
              rw [List.length_set] at this
              exact this
          · exact q6 H6 D2 zs way _ _ _ sm6 pt6 nD2H nD2p eD2 hmany'
end
end WK
/-! The walks of the law's stretches and of its other names. -/
namespace WK
open PySem PySem.Spec PyProof.Rows L2
abbrev sStr : Stmt := topS 27
abbrev sCalled : Stmt := topS 28
abbrev nStr : List Str := ["_law_word_here", "_law_found", "_law_low", "_law_high"]
abbrev nCalled : List Str := ["_law_pot_here", "_law_word_here", "_law_names_here", "_law_others", "_law_called_so", "_law_name"]
theorem scStr : FnScope nStr ["_law_word_here"] (defScope sStr) := ⟨rfl, rfl, rfl, by decide +kernel, rfl, by decide +kernel, by decide +kernel⟩
theorem scCalled : FnScope nCalled ["_law_pot_here", "_law_word_here"] (defScope sCalled) := ⟨rfl, rfl, rfl, by decide +kernel, rfl, by decide +kernel, by decide +kernel⟩
/-! ### the stretches' table -/
def Stretch (w k : List Str) : Prop := ∃ a m, k = (w.drop a).take m
def keyT (k : List Str) : List Key := k.map Sum.inr
theorem keyT_inj {a b : List Str} (h : keyT a = keyT b) : a = b := by
  unfold keyT at h
  exact List.map_inj_right (fun x y e => Sum.inr.inj e) |>.mp h
structure Tab (w : List Str) (kvs : List (List Key × V)) (ks : List (List Str)) (n : Nat) : Prop where
  keys : kvs.map (·.1) = ks.map keyT
  str : ∀ k ∈ ks, Stretch w k
  len : ks.length ≤ n
theorem tab_put {w : List Str} {kvs : List (List Key × V)} {ks : List (List Str)} {n : Nat} (T : Tab w kvs ks n) {k : List Str} (hk : Stretch w k) (v : V) :
    ∃ ks', Tab w (putK kvs (keyT k) v) ks' (n + 1) ∧ (ks' = ks ∨ ks' = ks ++ [k]) := by
  cases h : valV kvs (keyT k) with
  | none =>
    refine ⟨ks ++ [k], ⟨?_, ?_, ?_⟩, .inr rfl⟩
    · rw [putK_new v h, List.map_append, List.map_append, T.keys]
      rfl
    · intro z hz
      rcases List.mem_append.mp hz with h | h
      · exact T.str z h
      · rw [List.mem_singleton.mp h]
        exact hk
    · rw [List.length_append]
      have := T.len
      show _ + 1 ≤ _
      omega
  | some x =>
    refine ⟨ks, ⟨?_, T.str, Nat.le_succ_of_le T.len⟩, .inl rfl⟩
    have ha : (kvs.any fun kv => decide (kv.1 = keyT k)) = true := by
      rw [valV_any, h]
      rfl
    unfold putK
    rw [if_pos ha, List.map_map, ← T.keys]
    apply List.map_congr_left
    intro kv _
    show (if kv.1 = keyT k then (kv.1, v) else kv).1 = kv.1
    split <;> rfl
theorem cut_mid {l : List Str} {i j : Nat} (h : i + j ≤ l.length) : cutV (l.map V.str) (some (i : Int)) (some ((i + j : Nat) : Int)) = ((l.drop i).take j).map V.str := by
  unfold cutV
  rw [HT.sIx_nat, HT.sIx_nat, List.length_map, Nat.min_eq_left h, Nat.min_eq_left (by omega : i ≤ l.length), List.map_take, List.map_drop]
  congr 1
  omega
section
variable {P : Program} {w : World} {K : PySem.W.Frag} {mg : Str → Option Value} {base : Heap}
def StrAt (H : Hp) (t : Addr) (k : List Str) : Prop := H t = some (.tup (k.map V.str))
def spStr : Sp := fun vs H Q _ => ∃ (a : Addr) (w : List Str), vs = [.ref a] ∧ H a = some (.tup (w.map V.str)) ∧ w.length ≤ 12 ∧ ∀ (H' : Hp) (r : Addr) (ts : List Addr) (ks : List (List Str)), Same H H' → H' r = some (.lst (ts.map V.ref)) → Paired (StrAt H') ts ks → (∀ k ∈ ks, Stretch w k) → ks.length ≤ 1000 → Q (.ref r) H'
theorem ok_str {f : Addr} {fd : FuncData} {k : Nat} (F : Fun K "_law_stretches" "_law_stretches" sStr f fd) (ml : mg "len" = none) (mr : mg "range" = none) (ms : mg "sorted" = none) : FnOk P w K mg base CX0 (k + 1) f fd ["_law_word_here"] spStr := by
  refine F.ok scStr (fun vs H Q E h => ?_) (fun cdv A outer s H vs Q E hr h => ?_)
  · obtain ⟨a, w', rfl, _⟩ := h
    rfl
  · obtain ⟨a, w', rfl, ha, hw, q⟩ := h
    refine ⟨_, pss_cons (ps_set (i := 1) scStr.nd rfl (.inl rfl) pe_dnewT)
      (pss_cons (ps_for PassesOwn.never rfl (pi_range1 (by rfl) mr (pa_cons (pe_op op_add (pe_callB call_len_seq (by rfl) ml bLen (pa_cons (pv 0) pa_nil)) pe_int) pa_nil)) (pg_name (i := 2) scStr.nd rfl (.inl rfl))
        (pss_one (ps_for PassesOwn.never rfl (pi_range2 (by rfl) mr (pa_cons (pv 2) (pa_cons (pe_op op_add (pe_callB call_len_seq (by rfl) ml bLen (pa_cons (pv 0) pa_nil)) pe_int) pa_nil))) (pg_name (i := 3) scStr.nd rfl (.inl rfl))
          (pss_one (ps_dput (hu_of hr) (pv 1) (pe_slice sl_tupA (pv 0) (po_some (pv 2)) (po_some (pv 3))) pe_bl rfl)))))
      (pss_one (ps_ret (pe_callB (R5.cr_sortKeysT rfl hr.units) (by rfl) ms bSorted (pa_cons (pv 1) pa_nil))))), ?_⟩
    refine fun D nD => ?_
    have sD := same_upd (o := .dT []) nD
    refine ⟨.ref a, rfl, a, _, rfl, .inr (.inl (.inl (sD _ _ ha))), _, 1, rfl, rfl, _, rfl, by omega, by rw [List.length_map]; omega, ?_⟩
    have en : ((((w'.map V.str).length : Nat) : Int) + 1).toNat = w'.length + 1 := by
      rw [List.length_map]
      omega
    rw [en]
    refine for_range (fun i σ H3 => ∃ y2 y3 kvs ks, σ = [some (.ref a), some (.ref D), y2, y3] ∧ Same H H3 ∧ H3 D = some (.dT kvs) ∧ Tab w' kvs ks (i * 13) ∧ ((i = 0 ∧ ks = []) ∨ ∃ r, ks = [] :: r)) ⟨none, none, [], [], rfl, sD, upd_same, ⟨rfl, fun k h => (nomatch h), Nat.zero_le _⟩, .inl ⟨rfl, rfl⟩⟩ (fun i σ H3 hi hW => ?_) (fun σ H3 hW => ?_)
    · obtain ⟨y2, y3, kvs, ks, rfl, sm, eD, hT, hh⟩ := hW
      refine ⟨.int (0 + (i : Int)), rfl, .ref a, rfl, a, _, rfl, .inr (.inl (.inl (sm _ _ ha))), _, 1, rfl, rfl, _, _, rfl, ⟨by omega, by omega, by omega, by rw [List.length_map]; omega⟩, ?_⟩
      have en2 : ((((w'.map V.str).length : Nat) : Int) + 1 - (0 + (i : Int))).toNat = w'.length + 1 - i := by
        rw [List.length_map]
        omega
      rw [en2]
      refine for_range (fun j σ H4 => ∃ y3 kvs ks, σ = [some (.ref a), some (.ref D), some (.int (0 + (i : Int))), y3] ∧ Same H H4 ∧ H4 D = some (.dT kvs) ∧ Tab w' kvs ks (i * 13 + j) ∧ ((i = 0 ∧ j = 0 ∧ ks = []) ∨ ∃ r, ks = [] :: r)) ⟨y3, kvs, ks, rfl, sm, eD, hT, ?_⟩ (fun j σ H4 hj hW => ?_) (fun σ H4 hW => ?_)
      · rcases hh with h | h
        · exact .inl ⟨h.1, rfl, h.2⟩
        · exact .inr h
      · obtain ⟨y3, kvs, ks, rfl, sm4, eD4, hT4, hh4⟩ := hW
        refine ⟨.ref D, rfl, .ref a, rfl, .int (0 + (i : Int)), rfl, _, rfl, .int (0 + (i : Int) + (j : Int)), rfl, _, rfl, ?_⟩
        have e1 : (0 : Int) + (i : Int) = (i : Nat) := by omega
        have e2 : (0 : Int) + (i : Int) + (j : Int) = ((i + j : Nat) : Int) := by omega
        rw [e2, e1]
        refine sl_same (sm4 _ _ ha) (cut_mid (by omega)) fun z H5 s5 e5 => ?_
        have eD5 := s5 _ _ eD4
        have hkl : kvs.length = ks.length := by
          have := congrArg List.length hT4.keys
          rw [List.length_map, List.length_map] at this
          exact this
        have h13 : i * 13 ≤ 12 * 13 := Nat.mul_le_mul (by omega) (Nat.le_refl _)
        have e5' : H5 z = some (.tup ((keyT ((w'.drop i).take j)).map kV)) := by
          rw [e5]
          unfold keyT
          rw [R5.kV_strs]
        refine ⟨D, _, rfl, DPut.t eD5 e5' (by rw [hkl, sizeLine_eq]; have := hT4.len; omega), ?_⟩
        obtain ⟨ks', hT', hks'⟩ := tab_put hT4 (k := (w'.drop i).take j) ⟨i, j, rfl⟩ (.bl true)
        refine ⟨_, _, ks', rfl, same_upd2 (sm4.trans s5) nD, upd_same, hT', .inr ?_⟩
        rcases hh4 with ⟨h1, h2, h3⟩ | ⟨r, h⟩
        · subst h1
          subst h2
          subst h3
          rcases hks' with e | e
          · have := hT'.keys
            rw [e] at this
            have hne : putK kvs (keyT ((w'.drop 0).take 0)) (V.bl true) ≠ [] := by
              have hkv : kvs = [] := List.eq_nil_of_length_eq_zero hkl
              subst hkv
              exact List.cons_ne_nil _ _
            exact absurd (List.map_eq_nil_iff.mp this) hne
          · refine ⟨[], ?_⟩
            rw [e]
            rfl
        · rcases hks' with e | e
          · exact ⟨r, e.trans h⟩
          · exact ⟨r ++ [(w'.drop i).take j], by rw [e, h]; rfl⟩
      · obtain ⟨y3, kvs, ks, rfl, sm4, eD4, hT4, hh4⟩ := hW
        refine ⟨_, y3, kvs, ks, rfl, sm4, eD4, ⟨hT4.keys, hT4.str, ?_⟩, ?_⟩
        · have := hT4.len
          have h2 : (i + 1) * 13 = i * 13 + 13 := Nat.succ_mul i 13
          omega
        · rcases hh4 with ⟨h1, h2, h3⟩ | h
          · omega
          · exact .inr h
    · obtain ⟨y2, y3, kvs, ks, rfl, sm, eD, hT, hh⟩ := hW
      have hlen := hT.len
      have h13 : (w'.length + 1) * 13 ≤ 13 * 13 := Nat.mul_le_mul (by omega) (Nat.le_refl _)
      have hh' : ∃ r, ks = [] :: r := by
        rcases hh with ⟨h1, _⟩ | h
        · omega
        · exact h
      refine ⟨.ref D, rfl, D, kvs, ks, rfl, eD, hT.keys, by omega, hh', fun r ts nr hts => ?_⟩
      refine q _ r ts (R5.srtT ks) (sm.trans (same_upd nr)) upd_same (L2.Paired.mapP hts fun t k h => same_upd nr _ _ h) (fun k hk => hT.str k ((R5.srtT_perm ks).mem_iff.mp hk)) ?_
      rw [(R5.srtT_perm ks).length_eq]
      omega
end
end WK
/-! The walk of the law's other names. -/
namespace WK
open PySem PySem.Spec PyProof.Rows L2
/-! ### each once -/
theorem fold_nodup : ∀ (xs acc : List Str), acc.Nodup → (xs.foldl (fun acc x => if x ∈ acc then acc else acc ++ [x]) acc).Nodup
  | [], acc, h => h
  | x :: xs, acc, h => by
    rw [List.foldl_cons]
    refine fold_nodup xs _ ?_
    split
    · exact h
    · rename_i hn
      rw [List.nodup_append]
      refine ⟨h, by simp, ?_⟩
      intro a ha b hb e
      rw [List.mem_singleton.mp hb] at e
      exact hn (e ▸ ha)
theorem fold_mem : ∀ (xs acc : List Str) (z : Str), z ∈ xs.foldl (fun acc x => if x ∈ acc then acc else acc ++ [x]) acc ↔ z ∈ acc ∨ z ∈ xs
  | [], acc, z => by simp
  | x :: xs, acc, z => by
    rw [List.foldl_cons, fold_mem xs _ z, List.mem_cons]
    by_cases h : x ∈ acc
    · rw [if_pos h]
      constructor
      · rintro (a | a)
        · exact .inl a
        · exact .inr (.inr a)
      · rintro (a | a | a)
        · exact .inl a
        · rw [a]; exact .inl h
        · exact .inr a
    · rw [if_neg h, List.mem_append, List.mem_singleton]
      constructor
      · rintro ((a | a) | a)
        · exact .inl a
        · exact .inr (.inl a)
        · exact .inr (.inr a)
      · rintro (a | a | a)
        · exact .inl (.inl a)
        · exact .inl (.inr a)
        · exact .inr a
theorem dedup_nodup (xs : List Str) : (R5.dedup xs).Nodup := fold_nodup xs [] List.nodup_nil
theorem mem_dedup {xs : List Str} {z : Str} : z ∈ R5.dedup xs ↔ z ∈ xs := by
  unfold R5.dedup
  rw [fold_mem]
  simp
theorem dedup_le (xs : List Str) : (R5.dedup xs).length ≤ xs.length := by
  have := R5.dedup_len xs.length xs
  rw [List.take_length] at this
  exact this
theorem fold_len : ∀ (xs acc : List Str), (xs.foldl (fun acc x => if x ∈ acc then acc else acc ++ [x]) acc).length ≤ acc.length + xs.length
  | [], acc => Nat.le_refl _
  | x :: xs, acc => by
    rw [List.foldl_cons, List.length_cons]
    have := fold_len xs (if x ∈ acc then acc else acc ++ [x])
    have h2 : (if x ∈ acc then acc else acc ++ [x]).length ≤ acc.length + 1 := by
      split
      · omega
      · rw [List.length_append, List.length_singleton]
        omega
    omega
theorem fold_full : ∀ (xs acc : List Str), (xs.foldl (fun acc x => if x ∈ acc then acc else acc ++ [x]) acc).length = acc.length + xs.length → xs.Nodup ∧ ∀ x ∈ xs, x ∉ acc
  | [], acc, _ => ⟨List.nodup_nil, fun _ h => (nomatch h)⟩
  | x :: xs, acc, h => by
    rw [List.foldl_cons, List.length_cons] at h
    by_cases hx : x ∈ acc
    · rw [if_pos hx] at h
      have := fold_len xs acc
      omega
    · rw [if_neg hx] at h
      have e : (acc ++ [x]).length = acc.length + 1 := by
        rw [List.length_append]
        rfl
      obtain ⟨h1, h2⟩ := fold_full xs (acc ++ [x]) (by rw [h, e]; omega)
      refine ⟨List.nodup_cons.mpr ⟨fun z => h2 x z (List.mem_append_right _ (List.mem_singleton.mpr rfl)), h1⟩, fun y hy => ?_⟩
      rcases List.mem_cons.mp hy with e | hy
      · rw [e]; exact hx
      · exact fun z => h2 y hy (List.mem_append_left _ z)
theorem dedup_full {xs : List Str} (h : (R5.dedup xs).length = xs.length) : xs.Nodup := (fold_full xs [] (by rw [List.length_nil, Nat.zero_add]; exact h)).1
/-! ### the table of other names -/
def kvS (q : Str × Str) : Key × V := (.inr q.1, .str q.2)
theorem val_none {ps : List (Str × Str)} {x : Str} (h : x ∉ ps.map (·.1)) : valV (ps.map kvS) (.inr x) = none := by
  have : ((ps.map kvS).any fun kv => decide (kv.1 = (Sum.inr x : Key))) = false := by
    refine List.any_eq_false.mpr fun kv hkv => ?_
    obtain ⟨q, hq, rfl⟩ := List.mem_map.mp hkv
    rw [decide_eq_true_eq]
    intro z
    exact h (List.mem_map.mpr ⟨q, hq, Sum.inr.inj z⟩)
  rw [valV_any] at this
  cases hv : valV (ps.map kvS) (.inr x) with
  | none => rfl
  | some v => rw [hv] at this; cases this
/-- the other name -/
def oth (ps : List (Str × Str)) (x : Str) : Str := ((ps.find? fun q => decide (q.1 = x)).map (·.2)).getD x
theorem val_oth : ∀ {ps : List (Str × Str)} {x : Str}, x ∈ ps.map (·.1) → valV (ps.map kvS) (.inr x) = some (.str (oth ps x))
  | [], x, h => nomatch h
  | (a, b) :: r, x, h => by
    by_cases e : a = x
    · subst e
      rw [List.map_cons, valV_pos (show (kvS (a, b)).1 = Sum.inr a from rfl)]
      unfold oth
      rw [List.find?_cons, decide_eq_true rfl]
      rfl
    · have hr : x ∈ r.map (·.1) := by
        rcases List.mem_cons.mp h with z | z
        · exact absurd z.symm e
        · exact z
      rw [List.map_cons, valV_neg (show ¬ (kvS (a, b)).1 = Sum.inr x from fun z => e (Sum.inr.inj z)), val_oth hr]
      unfold oth
      rw [List.find?_cons, decide_eq_false e]
theorem oth_mem : ∀ {ps : List (Str × Str)} {x : Str}, x ∈ ps.map (·.1) → (x, oth ps x) ∈ ps
  | [], x, h => nomatch h
  | (a, b) :: r, x, h => by
    by_cases e : a = x
    · subst e
      unfold oth
      rw [List.find?_cons, decide_eq_true rfl]
      exact List.mem_cons_self
    · have hr : x ∈ r.map (·.1) := by
        rcases List.mem_cons.mp h with z | z
        · exact absurd z.symm e
        · exact z
      have := oth_mem hr
      unfold oth at this ⊢
      rw [List.find?_cons, decide_eq_false e]
      exact List.mem_cons_of_mem _ this
theorem oth_inj {ps : List (Str × Str)} (h2 : (ps.map (·.2)).Nodup) {x y : Str} (hx : x ∈ ps.map (·.1)) (hy : y ∈ ps.map (·.1)) (e : oth ps x = oth ps y) : x = y := by
  have a := oth_mem hx
  have b := oth_mem hy
  rw [← e] at b
  clear hx hy e
  revert a b
  generalize oth ps x = z
  intro a b
  induction ps with
  | nil => cases a
  | cons q r ih =>
    rw [List.map_cons, List.nodup_cons] at h2
    rcases List.mem_cons.mp a with ea | a
    · rcases List.mem_cons.mp b with eb | b
      · exact congrArg Prod.fst (ea.trans eb.symm)
      · exact absurd (List.mem_map.mpr ⟨_, b, (congrArg Prod.snd ea : z = q.2)⟩) h2.1
    · rcases List.mem_cons.mp b with eb | b
      · exact absurd (List.mem_map.mpr ⟨_, a, (congrArg Prod.snd eb : z = q.2)⟩) h2.1
      · exact ih h2.2 a b
theorem erase_nodup {os : List Str} {qs : List Str} {d : Nat} {y : Str} (h : (qs ++ os).Nodup) (hd : os[d]? = some y) : ((qs ++ [y]) ++ os.eraseIdx d).Nodup := by
  have hd' : d < os.length := (List.getElem?_eq_some_iff.mp hd).1
  have e1 : os = os.take d ++ y :: os.drop (d + 1) := by
    have := (List.take_append_drop d os).symm
    rw [List.drop_eq_getElem_cons hd'] at this
    rw [List.getElem?_eq_getElem hd'] at hd
    rw [Option.some.inj hd] at this
    exact this
  have e2 : os.eraseIdx d = os.take d ++ os.drop (d + 1) := List.eraseIdx_eq_take_drop_succ os d
  rw [e2]
  have hp : ((qs ++ [y]) ++ (os.take d ++ os.drop (d + 1))).Perm (qs ++ os) := by
    refine List.Perm.trans ?_ (List.Perm.append_left qs (List.Perm.of_eq e1.symm))
    rw [List.append_assoc]
    refine List.Perm.append_left qs ?_
    show (y :: (os.take d ++ os.drop (d + 1))).Perm _
    exact List.perm_middle.symm
  exact (List.Perm.pairwise_iff (fun h e => h e.symm) hp).mpr h
section
variable {P : Program} {w : World} {K : PySem.W.Frag} {mg : Str → Option Value} {base : Heap}
def spCalled : Sp := fun vs H Q _ => ∃ (p a : Addr) (wd : List Str), vs = [.ref p, .ref a] ∧ PotAt H p ∧ H a = some (.tup (wd.map V.str)) ∧ wd.length ≤ 12 ∧ ∀ (H' : Hp) (C : Addr) (ps : List (Str × Str)), SamP p H H' → PotAt H' p → H' C = some (.dK (ps.map kvS)) → (ps.map (·.2)).Nodup → (∀ x ∈ wd, x ∈ ps.map (·.1)) → Q (.ref C) H'
theorem ok_called {f fT fN : Addr} {fd fdT fdN : FuncData} {k : Nat} (F : Fun K "_law_called" "_law_called" sCalled f fd)
    (T : FnOk P w K mg base CX0 (k + 3) fT fdT ["_law_pot_here", "_law_upto"] spTake) (kT : PySem.W.keepIn K (.ref fT) = true) (bT : Binds K fdT ["_law_pot_here", "_law_upto"] []) (gT : mg "_law_take" = some (.ref fT))
    (N : FnOk P w K mg base CX0 (k + 3) fN fdN ["_law_pot_here", "_law_many"] spNames) (kN : PySem.W.keepIn K (.ref fN) = true) (bN : Binds K fdN ["_law_pot_here", "_law_many"] []) (gN : mg "_law_names" = some (.ref fN))
    (ml : mg "len" = none) (ms : mg "sorted" = none) (mS : mg "set" = none) : FnOk P w K mg base CX0 (k + 4) f fd ["_law_pot_here", "_law_word_here"] spCalled := by
  refine F.ok scCalled (fun vs H Q E h => ?_) (fun cdv A outer s H vs Q E hr h => ?_)
  · obtain ⟨p, a, wd, rfl, _⟩ := h
    rfl
  · obtain ⟨p, a, wd, rfl, hp, ha, hw, q⟩ := h
    refine ⟨_, pss_cons (ps_set (i := 2) scCalled.nd rfl (.inl rfl) (pe_callB (R5.cr_sortTset rfl hr.units) (by rfl) ms bSorted (pa_cons (pe_callTy (R5.cr_setTup rfl) (by rfl) mS bSet (pa_cons (pv 1) pa_nil)) pa_nil)))
      (pss_cons (ps_par (i := 3) (j := 4) rfl scCalled.nd rfl rfl (by decide) rfl rfl (pa_cons (pe_call N hr (by rfl) gN kN bN .nil pass0 (pa_cons (pv 0) (pa_cons (pe_callB call_len_seq (by rfl) ml bLen (pa_cons (pv 2) pa_nil)) pa_nil))) (pa_cons pe_dnewK pa_nil)) rfl)
      (pss_cons (ps_for PassesOwn.never rfl (pi_list (pv 2)) (pg_name (i := 5) scCalled.nd rfl (.inl rfl))
        (pss_one (ps_dput (hu_of hr) (pv 4) (pv 5) (pe_bm PySem.F.plainAttrs_list PySem.F.slot_list_pop PySem.F.type_list_pop mt_popAt (pv 3) (pa_cons (pe_call T hr (by rfl) gT kT bT .nil pass0 (pa_cons (pv 0) (pa_cons (pe_callB call_len_seq (by rfl) ml bLen (pa_cons (pv 3) pa_nil)) pa_nil))) pa_nil)) rfl)))
      (pss_one (ps_ret (pv 4))))), ?_⟩
    refine ⟨.ref a, rfl, a, wd, rfl, .inl (.inl ha), by omega, fun S nS => ?_⟩
    have sS := same_upd (o := R5.TSet w S (R5.dedup wd)) nS
    have hdl := dedup_le wd
    refine ⟨S, R5.dedup wd, rfl, upd_same, by omega, fun Y ys nY hys => ?_⟩
    have sY := same_upd (o := .lst (ys.map V.str)) nY
    have sm2 := sS.trans sY
    have p2 := hp.same sm2
    have eY : ∀ {H0 : Hp}, upd H0 Y (.lst (ys.map V.str)) Y = some (.lst (ys.map V.str)) := upd_same
    have nYp : Y ≠ p := fun e => by
      obtain ⟨g, r, h1, _⟩ := p2
      rw [← e, eY] at h1
      have h2 := HO.lst.inj (Option.some.inj h1)
      cases ys with
      | nil => cases h2
      | cons y r => exact nomatch (List.cons.inj h2).1
    have hyl : ys.length ≤ 12 := by
      rw [hys.length_eq]
      omega
    have hyn : ys.Nodup := (List.Perm.pairwise_iff (fun h e => h e.symm) hys).mpr (dedup_nodup wd)
    have hym : ∀ x ∈ wd, x ∈ ys := fun x hx => hys.mem_iff.mpr (mem_dedup.mpr hx)
    refine ⟨.ref p, rfl, .ref Y, rfl, Y, _, rfl, .inl (.inl (.inl eY)), p, ys.length, ?_, p2, by omega, fun H3 O ns s3 p3 nO eO hnl hnn => ?_⟩
    · rw [List.length_map]
      rfl
    refine fun C nC => ⟨.ref O, .ref C, rfl, ?_⟩
    have sC := same_upd (o := .dK []) nC
    have nOp := p2.ne nO
    have nCp := p3.ne nC
    have nOH : H O = none := sm2.free nO
    have nCH : H C = none := sm2.free (s3.free nCp nC)
    have nYO : Y ≠ O := fun e => by
      rw [← e, eY] at nO
      cases nO
    have nYC : Y ≠ C := fun e => by
      have := s3 _ _ nYp eY
      rw [e, nC] at this
      cases this
    have nOC : O ≠ C := fun e => by
      rw [e, nC] at eO
      cases eO
    have eY3 := s3 _ _ nYp eY
    refine ⟨.ref Y, rfl, Y, rfl, ⟨_, .inl (.inl (sC _ _ eY3))⟩, ?_⟩
    refine for_list (xs := ys.map V.str) (fun i σ H4 => ∃ (y5 : Option V) (os : List Str) (ps : List (Str × Str)), σ = [some (.ref p), some (.ref a), some (.ref Y), some (.ref O), some (.ref C), y5] ∧ SamP p H H4 ∧ PotAt H4 p ∧ H4 Y = some (.lst (ys.map V.str)) ∧ H4 O = some (.lst (os.map V.str)) ∧ H4 C = some (.dK (ps.map kvS)) ∧
        ps.map (·.1) = ys.take i ∧ os.length + i = ys.length ∧ (ps.map (·.2) ++ os).Nodup)
      ⟨none, ns, [], rfl, ((SamP.of sm2).trans s3).trans (SamP.of sC), p3.upd nCp, sC _ _ eY3, sC _ _ eO, upd_same, rfl, by omega, hnn⟩
      (fun i σ H4 hi hW => ?_) (fun i x σ H4 hx hW => ?_) (fun σ H4 hW => ?_)
    · obtain ⟨_, _, _, _, _, _, h, _⟩ := hW
      exact .inl (.inl h)
    · obtain ⟨y5, os, ps, rfl, sm, pt, eY4, eO4, eC4, hf, hl, hnd⟩ := hW
      have hi : i < ys.length := by
        have := (List.getElem?_eq_some_iff.mp hx).1
        rw [List.length_map] at this
        exact this
      have hyi : ys[i]? = some ys[i] := List.getElem?_eq_getElem hi
      have ex : x = .str ys[i] := by
        rw [List.getElem?_map, hyi] at hx
        exact (Option.some.inj hx).symm
      subst ex
      refine ⟨.ref O, rfl, .inl ⟨rfl, _, .inl (.inl eO4)⟩, .ref p, rfl, .ref O, rfl, O, _, rfl, .inl (.inl (.inl eO4)), p, os.length, by rw [List.length_map]; rfl, pt, by omega, by omega, fun H5 d s5 p5 n5 hd => ?_⟩
      have eO5 := s5 _ _ nOp eO4
      have hod : os[d]? = some os[d] := List.getElem?_eq_getElem hd
      refine ⟨O, _, d, d, .str os[d], rfl, rfl, eO5, by omega, by omega, ?_, by rw [List.getElem?_map, hod]; rfl, ?_⟩
      · exact (ixN_seq (by
          unfold ixN
          rw [if_pos (by omega), List.length_map, if_pos (by omega), Int.toNat_natCast])).1
      · have hnew : ys[i] ∉ ps.map (·.1) := by
          rw [hf]
          intro hmem
          obtain ⟨j, hj⟩ := List.mem_iff_getElem?.mp hmem
          rw [List.getElem?_take] at hj
          split at hj
          · rename_i hji
            have hjl := (List.getElem?_eq_some_iff.mp hj).1
            rw [List.getElem?_eq_getElem hjl] at hj
            have := List.pairwise_iff_getElem.mp hyn j i hjl hi hji
            exact this (Option.some.inj hj)
          · cases hj
        have eC5 := s5 _ _ nCp eC4
        have hpl : ps.length = i := by
          have := congrArg List.length hf
          rw [List.length_map, List.length_take] at this
          omega
        have eC6 : (upd H5 O (.lst ((os.map V.str).eraseIdx d))) C = some (.dK (ps.map kvS)) := by
          rw [upd_ne nOC.symm]
          exact eC5
        refine ⟨.ref C, rfl, .str ys[i], rfl, C, _, rfl, DPut.k (k := .inr ys[i]) eC6 (by rw [List.length_map, hpl]; exact small1000 (by omega)), ?_⟩
        rw [putK_new _ (val_none hnew)]
        refine ⟨_, os.eraseIdx d, ps ++ [(ys[i], os[d])], rfl, ((sm.trans s5).upd2 nOH).upd2 nCH, (p5.upd nOp).upd nCp, ?_, ?_, ?_, ?_, ?_, ?_⟩
        · rw [upd_ne nYC, upd_ne nYO]
          exact s5 _ _ nYp eY4
        · rw [upd_ne nOC, upd_same]
          congr 2
          rw [List.eraseIdx_eq_take_drop_succ, List.eraseIdx_eq_take_drop_succ, List.map_append, List.map_take, List.map_drop]
        · rw [upd_same, List.map_append]
          rfl
        · rw [List.map_append, hf, List.take_add_one, hyi]
          rfl
        · rw [List.length_eraseIdx_of_lt hd]
          omega
        · rw [List.map_append]
          exact erase_nodup hnd hod
    · obtain ⟨y5, os, ps, rfl, sm, pt, eY4, eO4, eC4, hf, hl, hnd⟩ := hW
      rw [List.length_map, List.take_length] at hf
      refine ⟨.ref C, rfl, q H4 C ps sm pt eC4 (List.nodup_append.mp hnd).1 (fun x hx => ?_)⟩
      rw [hf]
      exact hym x hx
end
end WK
/-! The walk of the law's right. -/
namespace WK
open PySem PySem.Spec PyProof.Rows L2
abbrev sRight : Stmt := topS 29
abbrev nRight : List Str := ["_law_pot_here", "_law_word_here", "_law_kinds", "_law_called_so", "_law_other", "_law_one", "_law_two", "_law_turned", "_law_sizes", "_law_kind", "_law_part", "_law_name", "_law_size"]
theorem scRight : FnScope nRight ["_law_pot_here", "_law_word_here"] (defScope sRight) := ⟨rfl, rfl, rfl, by decide +kernel, rfl, by decide +kernel, by decide +kernel⟩
def vK (kd : WW.Kd) : V := .str (kdS kd)
abbrev kds : List WW.Kd := [.firm, .late, .steady]
theorem kdS_inj : ∀ a b : WW.Kd, kdS a = kdS b → a = b := by
  intro a b
  cases a <;> cases b <;> decide
theorem inK (kd : WW.Kd) (l : List WW.Kd) : inV (vK kd) (l.map vK) = decide (kd ∈ l) := by
  unfold inV
  rw [List.any_map]
  by_cases h : kd ∈ l
  · rw [decide_eq_true h]
    refine List.any_eq_true.mpr ⟨kd, h, ?_⟩
    show (kdS kd == kdS kd) = true
    simp
  · rw [decide_eq_false h]
    refine List.any_eq_false.mpr fun k hk e => ?_
    have e' : (kdS k == kdS kd) = true := e
    have := kdS_inj _ _ (eq_of_beq e')
    rw [this] at hk
    exact h hk
theorem flat_K (l : List WW.Kd) : (l.map vK).all flatV = true := by
  rw [List.all_map]
  exact List.all_eq_true.mpr fun _ _ => rfl
/-! ### lists of ints -/
theorem dps_ints {K : PySem.W.Frag} {H : Hp} : ∀ l : List Int, DpAll K H (l.map V.int) (l.map PyData.int)
  | [] => .nil
  | i :: r => .cons (.int i) (dps_ints r)
theorem depth_ints : ∀ l : List Int, PyData.depthAll (l.map PyData.int) = 0
  | [] => rfl
  | i :: r => by
    rw [List.map_cons, PyData.depthAll, depth_ints r]
    rfl
theorem lay_ints : ∀ l : List Int, PyData.canLayAll0 (l.map PyData.int) = true
  | [] => rfl
  | i :: r => by
    rw [List.map_cons, PyData.canLayAll0, lay_ints r]
    rfl
theorem shaped_ints (l : List Int) : SeqAt.shaped (.list (l.map PyData.int)) = true := by
  unfold SeqAt.shaped
  rw [Bool.and_eq_true]
  refine ⟨?_, decide_eq_true ?_⟩
  · rw [PyData.canLay0]
    exact lay_ints l
  · rw [PyData.depth, depth_ints]
    decide
theorem eqv_ints (l : List Int) : PyData.eqv (.list (l.map PyData.int)) (.list (l.map PyData.int)) = true := SeqAt.eqv_refl _ (SeqAt.canLay_of_shaped (shaped_ints l))
theorem if_no {c : Bool} {A B : Prop} (hc : c = false) (h : B) : if c = true then A else B := by
  subst hc
  exact iteF h
theorem if_yes {c : Bool} {A B : Prop} (hc : c = true) (h : A) : if c = true then A else B := by
  subst hc
  exact iteT h
theorem get_oth {H : Hp} {C : Addr} {ps : List (Str × Str)} {x : Str} (e : H C = some (.dK (ps.map kvS))) (hx : x ∈ ps.map (·.1)) : DGet H C (.str x) (some (.str (oth ps x))) := by
  have h := DGet.k (k := .inr x) e
  rw [val_oth hx] at h
  exact h
section
variable {P : Program} {w : World} {K : PySem.W.Frag} {mg : Str → Option Value} {base : Heap}
def spRight : Sp := fun vs H Q _ => ∃ (p a : Addr) (wd : List Str), vs = [.ref p, .ref a] ∧ PotAt H p ∧ H a = some (.tup (wd.map V.str)) ∧ wd.length ≤ 12 ∧ ∀ (H' : Hp), SamP p H H' → PotAt H' p → Q (.bl true) H'
theorem ok_right {f fK fL fS fC fW fN : Addr} {fd fdK fdL fdS fdC fdW fdN : FuncData} {k : Nat} {ds : List Value} (F : Fun K "_law_right" "_law_right" sRight f fd)
    (KI : FnOk P w K mg base CX0 (k + 7) fK fdK ["word", "kind"] spKind) (kK : PySem.W.keepIn K (.ref fK) = true) (bK : Binds K fdK ["word", "kind"] []) (gK : mg "is_kind" = some (.ref fK))
    (LA : FnOk P w K mg base CX0 (k + 7) fL fdL ["word", "kind"] spLack) (kL : PySem.W.keepIn K (.ref fL) = true) (bL : Binds K fdL ["word", "kind"] []) (gL : mg "lacking" = some (.ref fL))
    (ST : FnOk P w K mg base CX0 (k + 7) fS fdS ["_law_word_here"] spStr) (kS : PySem.W.keepIn K (.ref fS) = true) (bS : Binds K fdS ["_law_word_here"] []) (gS : mg "_law_stretches" = some (.ref fS))
    (CA : FnOk P w K mg base CX0 (k + 7) fC fdC ["_law_pot_here", "_law_word_here"] spCalled) (kC : PySem.W.keepIn K (.ref fC) = true) (bC : Binds K fdC ["_law_pot_here", "_law_word_here"] []) (gC : mg "_law_called" = some (.ref fC))
    (WO : FnOk P w K mg base CX0 (k + 7) fW fdW ["word", "row", "place"] spWound) (kW : PySem.W.keepIn K (.ref fW) = true) (bW : Binds K fdW ["word", "row", "place"] ds) (vW : Vals [V.int 0] ds) (gW : mg "is_wound" = some (.ref fW))
    (CN : FnOk P w K mg base CX0 (k + 7) fN fdN ["word", "size"] spCount) (kN : PySem.W.keepIn K (.ref fN) = true) (bN : Binds K fdN ["word", "size"] []) (gN : mg "count_wound" = some (.ref fN))
    (ml : mg "len" = none) (mS : mg "set" = none) (mA : mg "all" = none) (mt : mg "tuple" = none) : FnOk P w K mg base CX0 (k + 8) f fd ["_law_pot_here", "_law_word_here"] spRight := by
  refine F.ok scRight (fun vs H Q E h => ?_) (fun cdv A outer s H vs Q E hr h => ?_)
  · obtain ⟨p, a, wd, rfl, _⟩ := h
    rfl
  · obtain ⟨p, a, wd, rfl, hp, ha, hw, q⟩ := h
    -- the counts
    obtain ⟨t6, h6, q6⟩ : ∃ t, PSs (cxOf CX0 P w K mg base nRight "_law_right" (defScope sRight) f cdv A outer s H E).nox ((defBody sRight).drop 6) t ∧ ∀ (H3 : Hp) (O : Addr) (g : Str → Str) (y2 y3 y5 y6 y7 y9 : Option V), SamP p H H3 → PotAt H3 p → H3 a = some (.tup (wd.map V.str)) → H3 O = some (.tup ((wd.map g).map V.str)) → WW.InjOn g wd →
        t { nx := fun _ H' => Q .non H', rt := Q } [some (.ref p), some (.ref a), y2, y3, some (.ref O), y5, y6, y7, none, y9, none, none, none] H3 := by
      refine ⟨_, pss_cons (ps_set (i := 8) scRight.nd rfl (.inl rfl) (pe_lst (pa_cons (pe_callB call_len_seq (by rfl) ml bLen (pa_cons (pv 1) pa_nil)) (pa_cons (pe_op op_add (pe_callB call_len_seq (by rfl) ml bLen (pa_cons (pv 1) pa_nil)) pe_int) (pa_cons pe_int (pa_cons pe_int pa_nil))))))
        (pss_one (ps_ret (pe_cmpR (op_eqD hr.units)
          (pe_lc (own := [("_law_size", 12)]) (g := gName 12) (tt := tYes) rfl scRight.nd (pi_list (pv 8)) (blkOk_by (N := nRight) (sc := defScope sRight) (by decide +kernel))
            (fun _ _ _ _ _ => pg_name (i := 12) scRight.nd rfl (Or.inl rfl)) (fun _ _ _ _ _ => pts_nil) (fun _ _ _ _ _ => pe_call CN hr (by rfl) gN kN bN .nil pass0 (pa_cons (pv 1) (pa_cons (pv 12) pa_nil))))
          (pe_lc (own := [("_law_size", 12)]) (g := gName 12) (tt := tYes) rfl scRight.nd (pi_list (pv 8)) (blkOk_by (N := nRight) (sc := defScope sRight) (by decide +kernel))
            (fun _ _ _ _ _ => pg_name (i := 12) scRight.nd rfl (Or.inl rfl)) (fun _ _ _ _ _ => pts_nil) (fun _ _ _ _ _ => pe_call CN hr (by rfl) gN kN bN .nil pass0 (pa_cons (pv 4) (pa_cons (pv 12) pa_nil)))) (nomark _)))), fun H3 O g y2 y3 y5 y6 y7 y9 sm pt ea eO hg => ?_⟩
      refine ⟨.ref a, rfl, a, _, rfl, .inr (.inl (.inl ea)), .ref a, rfl, a, _, rfl, .inr (.inl (.inl ea)), _, 2, rfl, rfl, (by decide : 4 ≤ sizeLine), fun Z nZ => ?_⟩
      have sZ := same_upd (o := .lst (nats [wd.length, wd.length + 2, 30, 400])) nZ
      have eZ : [V.int ((wd.map V.str).length : Nat), V.int (((wd.map V.str).length : Nat) + 2), V.int 30, V.int 400] = nats [wd.length, wd.length + 2, 30, 400] := by
        rw [List.length_map]
        rfl
      have sm4 := sm.trans (SamP.of sZ)
      have p4 := pt.same sZ
      have ea4 := sZ _ _ ea
      have eO4 := sZ _ _ eO
      have eZ4 : (upd H3 Z (.lst (nats [wd.length, wd.length + 2, 30, 400]))) Z = some (.lst (nats [wd.length, wd.length + 2, 30, 400])) := upd_same
      rw [← eZ] at sm4 p4 ea4 eO4 eZ4
      revert sm4 p4 ea4 eO4 eZ4
      generalize upd H3 Z (.lst [V.int ((wd.map V.str).length : Nat), V.int (((wd.map V.str).length : Nat) + 2), V.int 30, V.int 400]) = H4
      intro sm4 p4 ea4 eO4 eZ4
      rw [eZ] at eZ4
      have hsz : ∀ (i z : Nat), [wd.length, wd.length + 2, 30, 400][i]? = some z → z ≤ 1000 := by
        intro i z hz
        have := List.mem_of_getElem? hz
        simp only [List.mem_cons, List.not_mem_nil, or_false] at this
        omega
      have hszl : [wd.length, wd.length + 2, 30, 400].length ≤ 1000 := (by decide : 4 ≤ 1000)
      generalize [wd.length, wd.length + 2, 30, 400] = szs at eZ4 hsz hszl
      refine ⟨.ref Z, rfl, Z, rfl, ⟨_, .inl (.inl eZ4)⟩, fun D1 n1 => ?_⟩
      refine lc_list (xs := nats szs) (fun i H5 => Same H4 H5 ∧ H5 D1 = some (.lst (((szs.take i).map (WW.cw wd)).map V.int))) ⟨same_upd n1, upd_same⟩ (fun i H5 hi hW => .inl (.inl (hW.1 _ _ eZ4))) (fun i x H5 hx hW => ?_) (fun H5 hW => ?_)
      · obtain ⟨s5, e5⟩ := hW
        have hi : i < szs.length := by
          have := (List.getElem?_eq_some_iff.mp hx).1
          unfold nats at this
          rw [List.length_map] at this
          exact this
        have hzi : szs[i]? = some szs[i] := List.getElem?_eq_getElem hi
        generalize szs[i] = z at hzi
        have ex : x = .int (z : Nat) := by
          unfold nats at hx
          rw [List.getElem?_map, hzi] at hx
          exact (Option.some.inj hx).symm
        subst ex
        refine ⟨rfl, .ref a, rfl, .int (z : Nat), rfl, a, wd, z, rfl, s5 _ _ ea4, by omega, hsz i z hzi, fun H6 s6 => ⟨_, s6 _ _ e5, ?_, same_upd2 (s5.trans s6) n1, ?_⟩⟩
        · rw [List.length_map, List.length_map, List.length_take]
          exact small1000 (by omega)
        · rw [upd_same, List.take_add_one, hzi, List.map_append, List.map_append]
          rfl
      · obtain ⟨s5, e5⟩ := hW
        have en : (nats szs).length = szs.length := by
          unfold nats
          rw [List.length_map]
        rw [en, List.take_length] at e5
        refine ⟨.ref Z, rfl, Z, rfl, ⟨_, .inl (.inl (s5 _ _ eZ4))⟩, fun D2 n2 => ?_⟩
        refine lc_list (xs := nats szs) (fun i H6 => Same H5 H6 ∧ H6 D2 = some (.lst (((szs.take i).map (WW.cw wd)).map V.int))) ⟨same_upd n2, upd_same⟩ (fun i H6 hi hW => .inl (.inl (hW.1 _ _ (s5 _ _ eZ4)))) (fun i x H6 hx hW => ?_) (fun H6 hW => ?_)
        · obtain ⟨s6, e6⟩ := hW
          have hi : i < szs.length := by
            have := (List.getElem?_eq_some_iff.mp hx).1
            rw [en] at this
            exact this
          have hzi : szs[i]? = some szs[i] := List.getElem?_eq_getElem hi
          generalize szs[i] = z at hzi
          have ex : x = .int (z : Nat) := by
            unfold nats at hx
            rw [List.getElem?_map, hzi] at hx
            exact (Option.some.inj hx).symm
          subst ex
          refine ⟨rfl, .ref O, rfl, .int (z : Nat), rfl, O, wd.map g, z, rfl, s6 _ _ (s5 _ _ eO4), by rw [List.length_map]; omega, hsz i z hzi, fun H7 s7 => ⟨_, s7 _ _ e6, ?_, same_upd2 (s6.trans s7) n2, ?_⟩⟩
          · rw [List.length_map, List.length_map, List.length_take]
            exact small1000 (by omega)
          · rw [WW.cw_ren hg, upd_same, List.take_add_one, hzi, List.map_append, List.map_append]
            rfl
        · obtain ⟨s6, e6⟩ := hW
          rw [en, List.take_length] at e6
          refine ⟨_, _, .lst (.inl (.inl (s6 _ _ e5))) (dps_ints _), .lst (.inl (.inl e6)) (dps_ints _), shaped_ints _, shaped_ints _, ?_⟩
          rw [eqv_ints]
          exact q H6 (sm4.trans (SamP.of (s5.trans s6))) (p4.same (s5.trans s6))
    obtain ⟨b, hb⟩ : ∃ b : WW.Kd → Bool, ∀ kd, b kd = true ↔ WW.Is kd wd := ⟨fun kd => @decide _ (Classical.propDecidable (WW.Is kd wd)), fun kd => @decide_eq_true_iff (WW.Is kd wd) (Classical.propDecidable _)⟩
    have hin : ∀ kd : WW.Kd, decide (kd ∈ kds.filter b) = b kd := by
      intro kd
      have : kd ∈ kds.filter b ↔ b kd = true := by
        rw [List.mem_filter]
        refine ⟨fun h => h.2, fun h => ⟨?_, h⟩⟩
        cases kd <;> decide
      cases e : b kd with
      | true => exact decide_eq_true (this.mpr e)
      | false =>
        refine decide_eq_false fun z => ?_
        rw [this.mp z] at e
        cases e
    -- each kind
    obtain ⟨t5, h5, q5⟩ : ∃ t, PSs (cxOf CX0 P w K mg base nRight "_law_right" (defScope sRight) f cdv A outer s H E).nox ((defBody sRight).drop 5) t ∧ ∀ (H3 : Hp) (L C O : Addr) (ps : List (Str × Str)) (y9 : Option V), SamP p H H3 → PotAt H3 p → H3 a = some (.tup (wd.map V.str)) → H3 L = some (.lst ((kds.filter b).map vK)) → H3 C = some (.dK (ps.map kvS)) →
        H3 O = some (.tup ((wd.map (oth ps)).map V.str)) → (ps.map (·.2)).Nodup → (∀ x ∈ wd, x ∈ ps.map (·.1)) →
        t { nx := fun _ H' => Q .non H', rt := Q } [some (.ref p), some (.ref a), some (.ref L), some (.ref C), some (.ref O), none, none, none, none, y9, none, none, none] H3 := by
      refine ⟨_, pss_cons (ps_for PassesOwn.never rfl (pi_tup (pe_tup (pa_cons pe_str (pa_cons pe_str (pa_cons pe_str pa_nil))))) (pg_name (i := 9) scRight.nd rfl (.inr rfl))
          (pss_cons (ps_par (i := 5) (j := 6) rfl scRight.nd rfl rfl (by decide) rfl rfl (pa_cons (pe_call LA hr (by rfl) gL kL bL .nil pass0 (pa_cons (pv 1) (pa_cons (pv 9) pa_nil))) (pa_cons (pe_call LA hr (by rfl) gL kL bL .nil pass0 (pa_cons (pv 4) (pa_cons (pv 9) pa_nil))) pa_nil)) rfl)
          (pss_cons (ps_if (PW.pt (pw_or (pt_cmpR op_ne (pe_cmpR op_isN (pv 5) pe_non (nomark _)) (pe_cmpR op_isN (pv 6) pe_non (nomark _)) (nomark _))
              (pw_or1 (pt_cmpR op_ne (pe_call KI hr (by rfl) gK kK bK .nil pass0 (pa_cons (pv 4) (pa_cons (pv 9) pa_nil))) (pe_cmpR op_in_seq (pv 9) (pv 2) (by first | exact nobehind _ (by decide) (by decide) | rfl)) (nomark _))))) (pss_one (ps_ret pe_bl)) pss_nil)
          (pss_cons (ps_if (pt_cmpR op_isN (pv 5) pe_non (nomark _)) (pss_one ps_continue) pss_nil)
          (pss_cons (ps_set (i := 7) scRight.nd rfl (.inl rfl) (pe_callTy call_tuple_of (by rfl) mt bTuple (pa_cons (pe_lc (own := [("_law_name", 11)]) (g := gName 11) (tt := tYes) rfl scRight.nd (pi_tup (pv 5)) (blkOk_by (N := nRight) (sc := defScope sRight) (by decide +kernel))
            (fun _ _ _ _ _ => pg_name (i := 11) scRight.nd rfl (Or.inl rfl)) (fun _ _ _ _ _ => pts_nil) (fun _ _ _ _ _ => pe_dget (hu_of hr) (pv 3) (pv 11) (by intro _ _; rfl))) pa_nil)))
          (pss_one (ps_if (PW.pt (pw_or (pt_cmpR op_ne (pe_callB call_len_seq (by rfl) ml bLen (pa_cons (pv 5) pa_nil)) (pe_callB call_len_seq (by rfl) ml bLen (pa_cons (pv 6) pa_nil)) (nomark _))
              (pw_or1 (pt_not (pt_val (pe_call WO hr (by rfl) gW kW bW vW pass0 (pa_cons (pv 4) (pa_cons (pv 7) pa_nil)))))))) (pss_one (ps_ret pe_bl)) pss_nil)))))))
        h6, fun H3 L C O ps y9 sm pt ea eL eC eO hnd hmem => ?_⟩
      have hg : WW.InjOn (oth ps) wd := fun x hx y hy e => oth_inj hnd (hmem x hx) (hmem y hy) e
      have hwg : (wd.map (oth ps)).length ≤ 100 := by
        rw [List.length_map]
        omega
      refine ⟨(by decide : 3 ≤ sizeLine), fun tp ntp => ⟨tp, rfl, ⟨_, .inl (.inl upd_same)⟩, ?_⟩⟩
      have stp := same_upd (o := .tup (kds.map vK)) ntp
      refine for_tup (xs := kds.map vK) (fun i σ H4 => ∃ (y5 y6 y7 y9 : Option V), σ = [some (.ref p), some (.ref a), some (.ref L), some (.ref C), some (.ref O), y5, y6, y7, none, y9, none, none, none] ∧ Same (upd H3 tp (.tup (kds.map vK))) H4)
        ⟨none, none, none, y9, rfl, Same.refl _⟩ (fun i σ H4 hi hW => ?_) (fun i x σ H4 hx hW => ?_) (fun σ H4 hW => ?_)
      · obtain ⟨_, _, _, _, _, s4⟩ := hW
        exact .inl (.inl (s4 _ _ upd_same))
      · obtain ⟨y5, y6, y7, y9, rfl, s4⟩ := hW
        have hi : i < kds.length := by
          have := (List.getElem?_eq_some_iff.mp hx).1
          rw [List.length_map] at this
          exact this
        have hki : kds[i]? = some kds[i] := List.getElem?_eq_getElem hi
        generalize kds[i] = kd at hki
        have ex : x = .str (kdS kd) := by
          rw [List.getElem?_map, hki] at hx
          exact (Option.some.inj hx).symm
        subst ex
        have s34 := stp.trans s4
        have ea4 := s34 _ _ ea
        have eO4 := s34 _ _ eO
        -- the second test of the first if
        have test2 : ∀ (z5 z6 : V) (H6 : Hp) (NX RT : Hp → Prop), Same H4 H6 → (∀ H7, Same H6 H7 → NX H7) →
            tTest (tOp rNe (tCall spKind [] E0 (tCons (tVar 4) (tCons (tVar 9) tNil))) (tOp (rIn K false) (tVar 9) (tVar 2))) [some (.ref p), some (.ref a), some (.ref L), some (.ref C), some (.ref O), some z5, some z6, y7, none, some (.str (kdS kd)), none, none, none] H6 (fun c H8 => if c = true then RT H8 else NX H8) := by
          intro z5 z6 H6 NX RT s46 nx
          refine ⟨.ref O, rfl, .str (kdS kd), rfl, O, kd, wd.map (oth ps), rfl, s46 _ _ eO4, hwg, fun H7 b' s7 hb' => ⟨.str (kdS kd), rfl, .ref L, rfl, L, _, rfl, .inl (.inl (.inl (s7 _ _ (s46 _ _ (s34 _ _ eL))))), rfl, flat_K _, rfl, _, rfl, ?_⟩⟩
          refine if_no ?_ (nx H7 s7)
          have e1 : inV (.str (kdS kd)) ((kds.filter b).map vK) = b kd := (inK kd _).trans (hin kd)
          have e2 : b' = b kd := by
            have h1 : b' = true ↔ b kd = true := hb'.trans ((WW.is_ren hg).trans (hb kd).symm)
            cases hb1 : b' <;> cases hb2 : b kd
            · rfl
            · rw [hb1, hb2] at h1
              exact absurd (h1.mpr rfl) Bool.false_ne_true
            · rw [hb1, hb2] at h1
              exact absurd (h1.mp rfl) Bool.false_ne_true
            · rfl
          show (!decide (V.bl b' = V.bl (inV (.str (kdS kd)) ((kds.filter b).map vK)))) = false
          rw [e1, e2, decide_eq_true rfl]
          rfl
        refine ⟨.ref a, rfl, .str (kdS kd), rfl, a, kd, wd, rfl, ea4, by omega, fun H5 s5 hI => ?_, fun H5 t r s5 et hS hl => ?_⟩
        · -- none is lacking
          refine ⟨.ref O, rfl, .str (kdS kd), rfl, O, kd, wd.map (oth ps), rfl, s5 _ _ eO4, hwg, fun H6 s6 hI2 => ?_, fun H6 t2 r2 s6 et2 hS2 hl2 => absurd ((WW.is_ren hg).mpr hI) (WW.short_not hS2)⟩
          refine ⟨.non, .non, rfl, .non, rfl, rfl, .non, rfl, rfl, rfl, _, rfl, ?_⟩
          refine if_no (by rfl) (test2 .non .non H6 _ _ (s5.trans s6) fun H7 s7 => ?_)
          refine ⟨.non, rfl, rfl, _, rfl, if_yes (by rfl) ?_⟩
          exact ⟨_, _, _, _, rfl, ((s4.trans s5).trans s6).trans s7⟩
        · -- a lacking row
          refine ⟨.ref O, rfl, .str (kdS kd), rfl, O, kd, wd.map (oth ps), rfl, s5 _ _ eO4, hwg, fun H6 s6 hI2 => absurd ((WW.is_ren hg).mp hI2) (WW.short_not hS), fun H6 t2 r2 s6 et2 hS2 hl2 => ?_⟩
          refine ⟨.ref t, .ref t2, rfl, .ref t, rfl, rfl, .ref t2, rfl, rfl, rfl, _, rfl, ?_⟩
          refine if_no (by rfl) (test2 (.ref t) (.ref t2) H6 _ _ (s5.trans s6) fun H7 s7 => ?_)
          have s67 := s6.trans s7
          have s47 := (s4.trans s5).trans s67
          have s37 := stp.trans s47
          have et7 := s67 _ _ et
          have et27 := s7 _ _ et2
          have hrw : ∀ x ∈ r, x ∈ wd := WW.run_in hS.1.1
          refine ⟨.ref t, rfl, rfl, _, rfl, if_no (by rfl) ?_⟩
          refine ⟨.ref t, rfl, t, rfl, ⟨_, .inl (.inl et7)⟩, fun D nD => ?_⟩
          refine lc_tup (xs := r.map V.str) (fun j H8 => Same H7 H8 ∧ H8 D = some (.lst (((r.take j).map (oth ps)).map V.str))) ⟨same_upd nD, upd_same⟩ (fun j H8 hj hW => .inl (.inl (hW.1 _ _ et7))) (fun j x H8 hx hW => ?_) (fun H8 hW => ?_)
          · obtain ⟨s8, e8⟩ := hW
            have hj : j < r.length := by
              have := (List.getElem?_eq_some_iff.mp hx).1
              rw [List.length_map] at this
              exact this
            have hrj : r[j]? = some r[j] := List.getElem?_eq_getElem hj
            have hrm := List.getElem_mem hj
            generalize r[j] = z at hrj hrm
            have ex : x = .str z := by
              rw [List.getElem?_map, hrj] at hx
              exact (Option.some.inj hx).symm
            subst ex
            refine ⟨rfl, .ref C, rfl, .str z, rfl, C, .str (oth ps z), rfl, get_oth (s8 _ _ (s37 _ _ eC)) (hmem z (hrw z hrm)), _, e8, ?_, same_upd2 s8 nD, ?_⟩
            · rw [List.length_map, List.length_map, List.length_take, sizeLine_eq]
              omega
            · rw [upd_same, List.take_add_one, hrj, List.map_append, List.map_append]
              rfl
          · obtain ⟨s8, e8⟩ := hW
            rw [List.length_map, List.take_length] at e8
            refine ⟨D, _, rfl, .inl ⟨.inl (.inl e8), fun l nl => ?_⟩⟩
            have sl := same_upd (o := .tup ((r.map (oth ps)).map V.str)) nl
            have s79 := s8.trans sl
            refine ⟨.ref t, rfl, t, _, rfl, .inr (.inl (.inl (s79 _ _ et7))), .ref t2, rfl, t2, _, rfl, .inr (.inl (.inl (s79 _ _ et27))), rfl, _, rfl, ?_⟩
            have hlen : r.length = r2.length := WW.short_ren hg hS hS2
            refine if_no ?_ ?_
            · rw [List.length_map, List.length_map, hlen, decide_eq_true rfl]
              rfl
            · refine ⟨.ref O, rfl, .ref l, rfl, O, l, wd.map (oth ps), r.map (oth ps), 0, rfl, s79 _ _ (s37 _ _ eO), upd_same, Nat.zero_le _, by omega, fun H9 s9 => ⟨_, rfl, ?_⟩⟩
              refine if_no ?_ ?_
              · rw [decide_eq_true (show WW.run (wd.map (oth ps)) 0 (r.map (oth ps)) = some (wd.map (oth ps)).length from WW.wound_ren hg hS.1.1)]
                rfl
              · exact ⟨_, _, _, _, rfl, (s47.trans s79).trans s9⟩
      · obtain ⟨y5, y6, y7, y9, rfl, s4⟩ := hW
        have s34 := stp.trans s4
        exact q6 H4 O (oth ps) _ _ y5 y6 y7 y9 (sm.trans (SamP.of s34)) (pt.same s34) (s34 _ _ ea) (s34 _ _ eO) hg
    -- the other names
    obtain ⟨t3, h3, q3⟩ : ∃ t, PSs (cxOf CX0 P w K mg base nRight "_law_right" (defScope sRight) f cdv A outer s H E).nox ((defBody sRight).drop 3) t ∧ ∀ (H3 : Hp) (L : Addr) (y9 : Option V), SamP p H H3 → PotAt H3 p → H3 a = some (.tup (wd.map V.str)) → H3 L = some (.lst ((kds.filter b).map vK)) → L ≠ p →
        t { nx := fun _ H' => Q .non H', rt := Q } [some (.ref p), some (.ref a), some (.ref L), none, none, none, none, none, none, y9, none, none, none] H3 := by
      refine ⟨_, pss_cons (ps_set (i := 3) scRight.nd rfl (.inr rfl) (pe_call CA hr (by rfl) gC kC bC .nil pass0 (pa_cons (pv 0) (pa_cons (pv 1) pa_nil))))
        (pss_cons (ps_set (i := 4) scRight.nd rfl (.inr rfl) (pe_callTy call_tuple_of (by rfl) mt bTuple (pa_cons (pe_lc (own := [("_law_name", 11)]) (g := gName 11) (tt := tYes) rfl scRight.nd (pi_tup (pv 1)) (blkOk_by (N := nRight) (sc := defScope sRight) (by decide +kernel))
          (fun _ _ _ _ _ => pg_name (i := 11) scRight.nd rfl (Or.inl rfl)) (fun _ _ _ _ _ => pts_nil) (fun _ _ _ _ _ => pe_dget (hu_of hr) (pv 3) (pv 11) (by intro _ _; rfl))) pa_nil)))
        h5), fun H3 L y9 sm pt ea eL nLp => ?_⟩
      have nap : a ≠ p := by
        obtain ⟨g, r, e, _⟩ := pt
        exact ne_at ea e (fun z => nomatch z)
      refine ⟨.ref p, rfl, .ref a, rfl, p, a, wd, rfl, pt, ea, hw, fun H4 C ps s4 p4 eC hnd hmem => ?_⟩
      have ea4 := s4 _ _ nap ea
      refine ⟨.ref a, rfl, a, rfl, ⟨_, .inl (.inl ea4)⟩, fun D nD => ?_⟩
      refine lc_tup (xs := wd.map V.str) (fun j H8 => Same H4 H8 ∧ H8 D = some (.lst (((wd.take j).map (oth ps)).map V.str))) ⟨same_upd nD, upd_same⟩ (fun j H8 hj hW => .inl (.inl (hW.1 _ _ ea4))) (fun j x H8 hx hW => ?_) (fun H8 hW => ?_)
      · obtain ⟨s8, e8⟩ := hW
        have hj : j < wd.length := by
          have := (List.getElem?_eq_some_iff.mp hx).1
          rw [List.length_map] at this
          exact this
        have hrj : wd[j]? = some wd[j] := List.getElem?_eq_getElem hj
        have hrm := List.getElem_mem hj
        generalize wd[j] = z at hrj hrm
        have ex : x = .str z := by
          rw [List.getElem?_map, hrj] at hx
          exact (Option.some.inj hx).symm
        subst ex
        refine ⟨rfl, .ref C, rfl, .str z, rfl, C, .str (oth ps z), rfl, get_oth (s8 _ _ eC) (hmem z hrm), _, e8, ?_, same_upd2 s8 nD, ?_⟩
        · rw [List.length_map, List.length_map, List.length_take]
          exact small1000 (by omega)
        · rw [upd_same, List.take_add_one, hrj, List.map_append, List.map_append]
          rfl
      · obtain ⟨s8, e8⟩ := hW
        rw [List.length_map, List.take_length] at e8
        refine ⟨D, _, rfl, .inl ⟨.inl (.inl e8), fun l nl => ?_⟩⟩
        have sl := same_upd (o := .tup ((wd.map (oth ps)).map V.str)) nl
        have s49 := s8.trans sl
        exact q5 _ L C l ps y9 ((sm.trans s4).trans (SamP.of s49)) (p4.same s49) (s49 _ _ ea4) (s49 _ _ (s4 _ _ nLp eL)) (s49 _ _ eC) upd_same hnd hmem
    -- the kinds
    refine ⟨_, pss_cons (ps_setLc (i := 2) (own := [("_law_kind", 9)]) (g := gName 9) rfl scRight.nd rfl rfl (sw_true rfl rfl rfl (by decide +kernel))
          (pi_tup (pe_tup (pa_cons pe_str (pa_cons pe_str (pa_cons pe_str pa_nil))))) (blkOk_by (N := nRight) (sc := defScope sRight) (by decide +kernel))
          (fun _ _ _ _ _ => pg_name (i := 9) scRight.nd rfl (Or.inl rfl)) (fun _ _ _ _ _ => pts_one (pt_val (pe_call KI hr (by rfl) gK kK bK .nil pass0 (pa_cons (pv 1) (pa_cons (pv 9) pa_nil)))))
          (fun _ _ _ _ _ => pv 9))
      (pss_cons (ps_if (PW.pt (pw_or (PW.pt (pw_and (pt_cmpR (op_neNil hr.units) (pv 2) (pe_lst pa_nil) (nomark _)) (pw_and1 (pt_cmpR op_notIn_seq pe_str (pv 2) (by first | exact nobehind _ (by decide) (by decide) | rfl)))))
          (pw_or1 (PW.pt (pw_and (pt_cmpR op_eq (pe_callB R5.cr_lenTset (by rfl) ml bLen (pa_cons (pe_callTy (R5.cr_setTup rfl) (by rfl) mS bSet (pa_cons (pv 1) pa_nil)) pa_nil)) (pe_callB call_len_seq (by rfl) ml bLen (pa_cons (pv 1) pa_nil)) (nomark _))
            (pw_and1 (pt_cmpR op_lt (pe_callB call_len_seq (by rfl) ml bLen (pa_cons (pv 2) pa_nil)) pe_int (nomark _)))))))) (pss_one (ps_ret pe_bl)) pss_nil)
      (pss_cons (ps_for PassesOwn.never rfl (pi_list (pv 2)) (pg_name (i := 9) scRight.nd rfl (.inr rfl))
        (pss_one (ps_if (PW.pt (pw_and (pt_cmpR op_ne (pv 9) pe_str (nomark _)) (pw_and1 (pt_not (pt_val (pe_callB (cr_all rfl) (by rfl) mA bAll (pa_cons
            (pe_lc (own := [("_law_part", 10)]) (g := gName 10) (tt := tYes) rfl scRight.nd (pi_list (pe_call ST hr (by rfl) gS kS bS .nil pass0 (pa_cons (pv 1) pa_nil))) (blkOk_by (N := nRight) (sc := defScope sRight) (by decide +kernel))
              (fun _ _ _ _ _ => pg_name (i := 10) scRight.nd rfl (Or.inl rfl)) (fun _ _ _ _ _ => pts_nil) (fun _ _ _ _ _ => pe_call KI hr (by rfl) gK kK bK .nil pass0 (pa_cons (pv 10) (pa_cons (pv 9) pa_nil)))) pa_nil)))))))
          (pss_one (ps_ret pe_bl)) pss_nil)))
      h3)), ?_⟩
    have eqb : ∀ (kd : WW.Kd) (b' : Bool), (b' = true ↔ WW.Is kd wd) → b' = b kd := by
      intro kd b' hb'
      have h1 : b' = true ↔ b kd = true := hb'.trans (hb kd).symm
      cases hb1 : b' <;> cases hb2 : b kd
      · rfl
      · rw [hb1, hb2] at h1
        exact absurd (h1.mpr rfl) Bool.false_ne_true
      · rw [hb1, hb2] at h1
        exact absurd (h1.mp rfl) Bool.false_ne_true
      · rfl
    refine ⟨(by decide : 3 ≤ sizeLine), fun tp ntp => ⟨tp, rfl, ⟨_, .inl (.inl upd_same)⟩, fun L nL => ?_⟩⟩
    have stp := same_upd (o := .tup (kds.map vK)) ntp
    refine lc_tup (xs := kds.map vK) (fun i H3 => Same (upd H tp (.tup (kds.map vK))) H3 ∧ H3 L = some (.lst (((kds.take i).filter b).map vK))) ⟨same_upd nL, upd_same⟩ (fun i H3 hi hW => .inl (.inl (hW.1 _ _ upd_same))) (fun i x H3 hx hW => ?_) (fun H3 hW => ?_)
    · obtain ⟨s3, e3⟩ := hW
      have hi : i < kds.length := by
        have := (List.getElem?_eq_some_iff.mp hx).1
        rw [List.length_map] at this
        exact this
      have hki : kds[i]? = some kds[i] := List.getElem?_eq_getElem hi
      generalize kds[i] = kd at hki
      have ex : x = .str (kdS kd) := by
        rw [List.getElem?_map, hki] at hx
        exact (Option.some.inj hx).symm
      subst ex
      refine ⟨rfl, .ref a, rfl, .str (kdS kd), rfl, a, kd, wd, rfl, s3 _ _ (stp _ _ ha), by omega, fun H4 b' s4 hb' => ⟨b', rfl, ?_⟩⟩
      have e := eqb kd b' hb'
      cases hbk : b kd with
      | true =>
        refine if_yes (e.trans hbk) ⟨.str (kdS kd), rfl, _, s4 _ _ e3, ?_, same_upd2 (s3.trans s4) nL, ?_⟩
        · rw [List.length_map]
          refine Nat.lt_of_le_of_lt (List.length_filter_le _ _) ?_
          rw [List.length_take]
          exact Nat.lt_of_le_of_lt (Nat.min_le_right _ _) (by decide : 3 < sizeLine)
        · rw [upd_same, List.take_add_one, hki, List.filter_append, List.map_append]
          show _ = some (HO.lst (_ ++ ([kd].filter b).map vK))
          rw [List.filter_cons_of_pos hbk]
          rfl
      | false =>
        refine if_no (e.trans hbk) ⟨s3.trans s4, ?_⟩
        rw [List.take_add_one, hki, List.filter_append]
        show _ = some (HO.lst ((_ ++ [kd].filter b).map vK))
        rw [List.filter_cons_of_neg (by rw [hbk]; exact Bool.false_ne_true), List.filter_nil, List.append_nil]
        exact s4 _ _ e3
    · obtain ⟨s3, e3⟩ := hW
      rw [show (kds.map vK).length = kds.length from List.length_map _, List.take_length] at e3
      have nLp : L ≠ p := (hp.same stp).ne nL
      have hst : ∀ kd, kd ∈ kds.filter b → WW.Kd.steady ∈ kds.filter b := by
        intro kd hk
        have h1 := (hb kd).mp (List.mem_filter.mp hk).2
        refine List.mem_filter.mpr ⟨by decide, (hb .steady).mpr ?_⟩
        cases kd with
        | firm => exact WW.firm_steady h1
        | late => exact WW.late_steady h1
        | steady => exact h1
      have s03 := stp.trans s3
      refine ⟨.ref L, rfl, Nat.zero_le _, fun z nz => ⟨L, z, (kds.filter b).map vK, rfl, rfl, .inl (.inl (same_upd nz _ _ e3)), .inl (.inl upd_same), _, rfl, ?_⟩⟩
      have sz := same_upd (o := .lst []) nz
      have s04 := s03.trans sz
      have e4 := sz _ _ e3
      revert s04 e4
      generalize upd H3 z (.lst []) = H4
      intro s04 e4
      refine and_rest (d := !inV (vK .steady) ((kds.filter b).map vK)) (fun z => ⟨.ref L, rfl, L, _, rfl, .inl (.inl (.inl e4)), rfl, flat_K _, _, rfl, z⟩) (fun c1 d1 => ?_) (fun _ => ?_)
      · -- kinds, steady not among them
        rw [inK] at d1
        cases hk : kds.filter b with
        | nil =>
          rw [hk] at c1
          cases c1
        | cons kd r =>
          have := hst kd (by rw [hk]; exact List.mem_cons_self)
          rw [decide_eq_true this] at d1
          cases d1
      · refine ⟨.ref a, rfl, a, wd, rfl, .inl (.inl (s04 _ _ ha)), by omega, fun S nS => ?_⟩
        have sS := same_upd (o := R5.TSet w S (R5.dedup wd)) nS
        refine ⟨S, R5.dedup wd, rfl, upd_same, .ref a, rfl, a, _, rfl, .inr (.inl (.inl (sS _ _ (s04 _ _ ha)))), rfl, _, rfl, ?_⟩
        refine and_rest (d := decide ((((kds.filter b).map vK).length : Int) < 3)) (fun z => ⟨.ref L, rfl, L, _, rfl, .inl (.inl (.inl (sS _ _ e4))), _, 3, rfl, rfl, _, rfl, z⟩) (fun c1 d1 => ?_) (fun _ => ?_)
        · -- no name twice, and fewer kinds than three
          have h1 : (R5.dedup wd).length = wd.length := by
            have := V.int.inj (of_decide_eq_true c1)
            rw [List.length_map] at this
            omega
          have h2 := dedup_full h1
          have h3 : kds.filter b = kds := List.filter_eq_self.mpr fun kd _ => (hb kd).mpr (WW.nodup_all h2 kd)
          rw [h3] at d1
          exact absurd d1 (by decide)
        · have s05 := s04.trans sS
          have e5 := sS _ _ e4
          refine ⟨.ref L, rfl, L, rfl, ⟨_, .inl (.inl e5)⟩, ?_⟩
          refine for_list (xs := (kds.filter b).map vK) (fun i σ H6 => ∃ (y9 : Option V), σ = [some (.ref p), some (.ref a), some (.ref L), none, none, none, none, none, none, y9, none, none, none] ∧ Same H H6 ∧ H6 L = some (.lst ((kds.filter b).map vK)))
            ⟨none, rfl, s05, e5⟩ (fun i σ H6 hi hW => ?_) (fun i x σ H6 hx hW => ?_) (fun σ H6 hW => ?_)
          · obtain ⟨_, _, _, h⟩ := hW
            exact .inl (.inl h)
          · obtain ⟨y9, rfl, s6, e6⟩ := hW
            have hi : i < (kds.filter b).length := by
              have := (List.getElem?_eq_some_iff.mp hx).1
              rw [List.length_map] at this
              exact this
            have hki : (kds.filter b)[i]? = some (kds.filter b)[i] := List.getElem?_eq_getElem hi
            have hkm := List.getElem_mem hi
            generalize (kds.filter b)[i] = kd at hki hkm
            have ex : x = .str (kdS kd) := by
              rw [List.getElem?_map, hki] at hx
              exact (Option.some.inj hx).symm
            subst ex
            have hIs := (hb kd).mp (List.mem_filter.mp hkm).2
            refine ⟨.str (kdS kd), rfl, rfl, _, rfl, ?_⟩
            by_cases hks : kd = .steady
            · subst hks
              exact if_no (by rfl) (if_no rfl ⟨_, rfl, s6, e6⟩)
            · refine if_yes ?_ ?_
              · rw [show decide (V.str (kdS kd) = V.str (PySem.Str.ofString "steady")) = false from decide_eq_false (fun z => hks (kdS_inj _ .steady (V.str.inj z)))]
                rfl
              · refine ⟨.ref a, rfl, a, wd, rfl, s6 _ _ ha, hw, fun H7 r ts ks s7 er hts hks' hkl => ⟨r, rfl, ⟨_, .inl (.inl er)⟩, fun D nD => ?_⟩⟩
                refine lc_list (xs := ts.map V.ref) (fun j H8 => Same H7 H8 ∧ H8 D = some (.lst ((List.replicate j true).map V.bl))) ⟨same_upd nD, upd_same⟩ (fun j H8 hj hW => .inl (.inl (hW.1 _ _ er))) (fun j x H8 hx hW => ?_) (fun H8 hW => ?_)
                · obtain ⟨s8, e8⟩ := hW
                  have hj : j < ts.length := by
                    have := (List.getElem?_eq_some_iff.mp hx).1
                    rw [List.length_map] at this
                    exact this
                  have htj : ts[j]? = some ts[j] := List.getElem?_eq_getElem hj
                  generalize ts[j] = t at htj
                  have ex : x = .ref t := by
                    rw [List.getElem?_map, htj] at hx
                    exact (Option.some.inj hx).symm
                  subst ex
                  obtain ⟨kk, hkj, hkt⟩ := paired_get hts htj
                  obtain ⟨a0, m0, hcut⟩ := hks' kk (List.mem_of_getElem? hkj)
                  have hkl2 : kk.length ≤ 100 := by
                    rw [hcut, List.length_take, List.length_drop]
                    omega
                  have hIk : WW.Is kd kk := by
                    rw [hcut]
                    cases kd with
                    | firm => exact WW.firm_cut hIs a0 m0
                    | late => exact WW.late_cut hIs a0 m0
                    | steady => exact absurd rfl hks
                  have htl : ts.length = ks.length := hts.length
                  refine ⟨rfl, .ref t, rfl, .str (kdS kd), rfl, t, kd, kk, rfl, s8 _ _ hkt, hkl2, fun H9 b' s9 hb' => ⟨_, s9 _ _ e8, ?_, same_upd2 (s8.trans s9) nD, ?_⟩⟩
                  · rw [List.length_map, List.length_replicate]
                    exact small1000 (by omega)
                  · rw [hb'.mpr hIk, upd_same, List.replicate_succ', List.map_append]
                    rfl
                · obtain ⟨s8, e8⟩ := hW
                  refine ⟨D, _, rfl, .inl (.inl e8), _, rfl, ?_⟩
                  have hall : (List.replicate (ts.map V.ref).length true).all id = true := List.all_eq_true.mpr fun z hz => List.eq_of_mem_replicate hz
                  refine if_no ?_ ⟨_, rfl, (s6.trans s7).trans s8, s8 _ _ (s7 _ _ e6)⟩
                  rw [hall]
                  rfl
          · obtain ⟨y9, rfl, s6, e6⟩ := hW
            exact q3 H6 L y9 (SamP.of s6) (hp.same s6) (s6 _ _ ha) e6 nLp
end
end WK
/-! The walk of the law. -/
namespace WK
open PySem PySem.Spec PyProof.Rows L2
abbrev sLaw : Stmt := topS 30
abbrev nLaw : List Str := ["_law_script", "_law_k", "_law_pot_here", "_law_turn"]
theorem scLaw : FnScope nLaw ["_law_script"] (defScope sLaw) := ⟨rfl, rfl, rfl, by decide +kernel, rfl, by decide +kernel, by decide +kernel⟩
theorem same_pot {H H1 H2 : Hp} {p : Addr} (s : Same H H1) (t : SamP p H1 H2) (n : H p = none) : Same H H2 := fun b o e => t b o (ne_of_none e n) (s b o e)
section
variable {P : Program} {w : World} {K : PySem.W.Frag} {mg : Str → Option Value} {base : Heap}
def spLaw (K : PySem.W.Frag) : Sp := fun vs H Q _ => ∃ (a : Addr) (ns : List Int), vs = [.ref a] ∧ SqL K H a (ns.map V.int) ∧ ns.length ≤ 63 ∧ ∀ H', Q (.bl true) H'
theorem ok_law {f fP fT fN fW fR : Addr} {fd fdP fdT fdN fdW fdR : FuncData} {k : Nat} (F : Fun K "law" "law" sLaw f fd)
    (PO : FnOk P w K mg base CX0 (k + 8) fP fdP ["_law_script", "_law_k"] (spPot K)) (kP : PySem.W.keepIn K (.ref fP) = true) (bP : Binds K fdP ["_law_script", "_law_k"] []) (gP : mg "_law_pot" = some (.ref fP))
    (T : FnOk P w K mg base CX0 (k + 8) fT fdT ["_law_pot_here", "_law_upto"] spTake) (kT : PySem.W.keepIn K (.ref fT) = true) (bT : Binds K fdT ["_law_pot_here", "_law_upto"] []) (gT : mg "_law_take" = some (.ref fT))
    (N : FnOk P w K mg base CX0 (k + 8) fN fdN ["_law_pot_here", "_law_many"] spNames) (kN : PySem.W.keepIn K (.ref fN) = true) (bN : Binds K fdN ["_law_pot_here", "_law_many"] []) (gN : mg "_law_names" = some (.ref fN))
    (WD : FnOk P w K mg base CX0 (k + 8) fW fdW ["_law_pot_here", "_law_names_here", "_law_most"] spWord) (kW : PySem.W.keepIn K (.ref fW) = true) (bW : Binds K fdW ["_law_pot_here", "_law_names_here", "_law_most"] []) (gW : mg "_law_word" = some (.ref fW))
    (R : FnOk P w K mg base CX0 (k + 8) fR fdR ["_law_pot_here", "_law_word_here"] spRight) (kR : PySem.W.keepIn K (.ref fR) = true) (bR : Binds K fdR ["_law_pot_here", "_law_word_here"] []) (gR : mg "_law_right" = some (.ref fR))
    (ml : mg "len" = none) (mr : mg "range" = none) (mn : mg "min" = none) (mx : mg "max" = none) : FnOk P w K mg base CX0 (k + 9) f fd ["_law_script"] (spLaw K) := by
  refine F.ok scLaw (fun vs H Q E h => ?_) (fun cdv A outer s H vs Q E hr h => ?_)
  · obtain ⟨a, ns, rfl, _⟩ := h
    rfl
  · obtain ⟨a, ns, rfl, hS, hl, q⟩ := h
    refine ⟨_, pss_cons (ps_for PassesOwn.never rfl (pi_range1 (by rfl) mr (pa_cons (pe_callB (call_max2 rfl) (by rfl) mx bMax (pa_cons pe_int (pa_cons (pe_callB (call_min2 rfl) (by rfl) mn bMin (pa_cons pe_int (pa_cons (pe_callB call_len_seq (by rfl) ml bLen (pa_cons (pv 0) pa_nil)) pa_nil))) pa_nil))) pa_nil)) (pg_name (i := 1) scLaw.nd rfl (.inl rfl))
        (pss_cons (ps_set (i := 2) scLaw.nd rfl (.inl rfl) (pe_call PO hr (by rfl) gP kP bP .nil pass0 (pa_cons (pv 0) (pa_cons (pv 1) pa_nil))))
        (pss_one (ps_for PassesOwn.never rfl (pi_range1 (by rfl) mr (pa_cons pe_int pa_nil)) (pg_name (i := 3) scLaw.nd rfl (.inl rfl))
          (pss_one (ps_if (pt_not (pt_val (pe_call R hr (by rfl) gR kR bR .nil pass0 (pa_cons (pv 2) (pa_cons (pe_call WD hr (by rfl) gW kW bW .nil pass0 (pa_cons (pv 2) (pa_cons (pe_call N hr (by rfl) gN kN bN .nil pass0 (pa_cons (pv 2) (pa_cons (pe_op op_add pe_int (pe_call T hr (by rfl) gT kT bT .nil pass0 (pa_cons (pv 2) (pa_cons pe_int pa_nil)))) pa_nil))) (pa_cons pe_int pa_nil)))) pa_nil))))) (pss_one (ps_ret pe_bl)) pss_nil))))))
      (pss_one (ps_ret pe_bl)), ?_⟩
    have hmin : ∀ n : Int, 0 ≤ n → n ≤ 63 → 0 ≤ (if n < 4 then n else 4) ∧ (if n < 4 then n else 4) ≤ 4 := by
      intro n h1 h2
      split <;> omega
    have hmax : ∀ n : Int, 0 ≤ n → n ≤ 4 → 1 ≤ (if n > 1 then n else 1) ∧ (if n > 1 then n else 1) ≤ 4 := by
      intro n h1 h2
      split <;> omega
    refine ⟨.ref a, rfl, a, _, rfl, .inl hS, 4, _, rfl, 1, _, rfl, _, rfl, ?_⟩
    obtain ⟨m1, m2⟩ := hmin (((ns.map V.int).length : Nat) : Int) (Int.natCast_nonneg _) (by rw [List.length_map]; omega)
    obtain ⟨m3, m4⟩ := hmax _ m1 m2
    refine ⟨by omega, by omega, ?_⟩
    have hn4 : (if (if (((ns.map V.int).length : Nat) : Int) < 4 then (((ns.map V.int).length : Nat) : Int) else 4) > 1 then (if (((ns.map V.int).length : Nat) : Int) < 4 then (((ns.map V.int).length : Nat) : Int) else 4) else 1).toNat ≤ 4 := by omega
    refine for_range (fun i σ H4 => ∃ y1 y2 y3, σ = [some (.ref a), y1, y2, y3] ∧ Same H H4) ⟨none, none, none, rfl, Same.refl H⟩ (fun i σ H4 hi hW => ?_) (fun σ H4 hW => ?_)
    · obtain ⟨y1, y2, y3, rfl, s4⟩ := hW
      have hi4 := Nat.lt_of_lt_of_le hi hn4
      refine ⟨.ref a, rfl, .int (0 + (i : Int)), rfl, a, ns, i, by rw [Int.zero_add]; rfl, s4.seq hS, by omega, by omega, fun H5 p s5 np pt => ?_⟩
      have npH : H p = none := s4.free np
      refine ⟨3, rfl, by decide, by decide, ?_⟩
      refine for_range (fun j σ H6 => ∃ y3, σ = [some (.ref a), some (.int (0 + (i : Int))), some (.ref p), y3] ∧ Same H H6 ∧ PotAt H6 p) ⟨y3, rfl, s4.trans s5, pt⟩ (fun j σ H6 hj hW => ?_) (fun σ H6 hW => ?_)
      · obtain ⟨y3, rfl, s6, p6⟩ := hW
        refine ⟨.ref p, rfl, .ref p, rfl, .ref p, rfl, .ref p, rfl, p, 4, rfl, p6, by decide, by decide, fun H7 d s7 p7 n7 hd => ⟨1, d, rfl, rfl, p, 1 + d, ?_, p7, by omega, fun H8 t ns' s8 p8 nt et hnl hnd => ?_⟩⟩
        · show [V.ref p, V.int (1 + (d : Int))] = _
          rw [show (1 : Int) + (d : Int) = ((1 + d : Nat) : Int) by omega]
        · have ntp : t ≠ p := p7.ne nt
          refine ⟨p, t, ns', 12, rfl, p8, et, ntp, by omega, by omega, by decide, fun H9 tw wd s9 p9 ew hwl => ?_⟩
          refine ⟨p, tw, wd, rfl, p9, ew, hwl, fun H10 s10 p10 => ⟨true, rfl, iteF ?_⟩⟩
          exact ⟨_, rfl, same_pot s6 (((s7.trans s8).trans s9).trans s10) npH, p10⟩
      · obtain ⟨y3, rfl, s6, p6⟩ := hW
        exact ⟨_, _, _, rfl, s6⟩
    · exact q H4
end
end WK
/-! What the top has written; the law's own head. -/
namespace WK
open PySem PySem.Spec PyProof.Rows L2
theorem wound_binds {K : PySem.W.Frag} {f : Addr} {fd : FuncData} (F : WoundD K f fd) : ∃ ds, Vals [V.int 0] ds ∧ Binds K fd ["word", "row", "place"] ds :=
  FunD.binds0 F 2 (List.cons_ne_nil _ _) rfl fun D doc pm an cdv ct us ks hu hk => match us, hu, ks, hk with
    | [_, _], _, [_], _ => ⟨_, _, _, _, _, _, rfl, rfl, rfl⟩
theorem all_mk {l : PySem.W.OpenLaw} {w : World} {K : PySem.W.Frag} {h : Heap} {mg : Str → Option Value} (X : K.In h) (G : h.Ns mainGlobals mg)
    {f1 f2 f3 f4 f5 f6 f7 f8 f9 f10 f11 f12 f13 f14 f15 f16 f17 f18 f19 f20 dW : Addr} {od1 an1 od2 an2 od3 an3 od4 an4 od5 an5 od6 an6 od7 an7 od8 an8 od9 an9 od10 an10 od11 an11 od12 an12 od13 an13 od14 an14 od15 an15 od16 an16 od17 an17 od18 an18 od19 an19 od20 an20 : Option Addr} {sl1 sl2 sl3 sl4 sl5 sl6 sl7 sl8 sl9 sl10 sl11 sl12 sl13 sl14 sl15 sl16 sl17 sl18 sl19 sl20 : Array (Option Value)}
    {oc1 kV1 dc1 pm1 cd1 ct1 oc2 kV2 dc2 pm2 cd2 ct2 oc3 kV3 dc3 pm3 cd3 ct3 oc4 kV4 dc4 pm4 cd4 ct4 oc5 kV5 dc5 pm5 cd5 ct5 oc6 dc6 pm6 cd6 ct6 oc7 kV7 dc7 pm7 cd7 ct7 oc8 kV8 dc8 pm8 cd8 ct8 oc9 kV9 dc9 pm9 cd9 ct9 oc10 kV10 dc10 pm10 cd10 ct10 oc11 kV11 dc11 pm11 cd11 ct11 oc12 kV12 dc12 pm12 cd12 ct12 oc13 kV13 dc13 pm13 cd13 ct13 oc14 kV14 dc14 pm14 cd14 ct14 oc15 kV15 dc15 pm15 cd15 ct15 oc16 kV16 dc16 pm16 cd16 ct16 oc17 kV17 dc17 pm17 cd17 ct17 oc18 kV18 dc18 pm18 cd18 ct18 oc19 kV19 dc19 pm19 cd19 ct19 oc20 kV20 dc20 pm20 cd20 ct20 : Value} {tF tS tL tW : Tok} {fa : Addr} (hfa : mg "law" = some (.ref fa))
    (a1 : PySem.W.nsIn K mainGlobals "is_whole" = some (some (.ref f1))) (l1 : K.lookup f1 = some ⟨oc1, od1, .func (PySem.W.fnOf "is_whole" "is_whole" (defArgs sWhole) (defBody sWhole) (defScope sWhole) .none (kV1) dc1 pm1 an1 cd1 ct1), sl1⟩) (c1 : PySem.W.codeIn K cd1 "is_whole" = true) (k1 : PySem.W.keepIn K (.ref f1) = true)
    (a2 : PySem.W.nsIn K mainGlobals "look_place" = some (some (.ref f2))) (l2 : K.lookup f2 = some ⟨oc2, od2, .func (PySem.W.fnOf "look_place" "look_place" (defArgs sLook) (defBody sLook) (defScope sLook) .none (kV2) dc2 pm2 an2 cd2 ct2), sl2⟩) (c2 : PySem.W.codeIn K cd2 "look_place" = true) (k2 : PySem.W.keepIn K (.ref f2) = true)
    (a3 : PySem.W.nsIn K mainGlobals "backs" = some (some (.ref f3))) (l3 : K.lookup f3 = some ⟨oc3, od3, .func (PySem.W.fnOf "backs" "backs" (defArgs sBacks) (defBody sBacks) (defScope sBacks) .none (kV3) dc3 pm3 an3 cd3 ct3), sl3⟩) (c3 : PySem.W.codeIn K cd3 "backs" = true) (k3 : PySem.W.keepIn K (.ref f3) = true)
    (a4 : PySem.W.nsIn K mainGlobals "goings" = some (some (.ref f4))) (l4 : K.lookup f4 = some ⟨oc4, od4, .func (PySem.W.fnOf "goings" "goings" (defArgs sGoings) (defBody sGoings) (defScope sGoings) .none (kV4) dc4 pm4 an4 cd4 ct4), sl4⟩) (c4 : PySem.W.codeIn K cd4 "goings" = true) (k4 : PySem.W.keepIn K (.ref f4) = true)
    (a5 : PySem.W.nsIn K mainGlobals "onward" = some (some (.ref f5))) (l5 : K.lookup f5 = some ⟨oc5, od5, .func (PySem.W.fnOf "onward" "onward" (defArgs sOnward) (defBody sOnward) (defScope sOnward) .none (kV5) dc5 pm5 an5 cd5 ct5), sl5⟩) (c5 : PySem.W.codeIn K cd5 "onward" = true) (k5 : PySem.W.keepIn K (.ref f5) = true)
    (a6 : PySem.W.nsIn K mainGlobals "is_wound" = some (some (.ref f6))) (l6 : K.lookup f6 = some ⟨oc6, od6, .func (PySem.W.fnOf "is_wound" "is_wound" (defArgs sWound) (defBody sWound) (defScope sWound) .none (.ref dW) dc6 pm6 an6 cd6 ct6), sl6⟩) (c6 : PySem.W.codeIn K cd6 "is_wound" = true) (k6 : PySem.W.keepIn K (.ref f6) = true)
    (a7 : PySem.W.nsIn K mainGlobals "counts_to" = some (some (.ref f7))) (l7 : K.lookup f7 = some ⟨oc7, od7, .func (PySem.W.fnOf "counts_to" "counts_to" (defArgs sCounts) (defBody sCounts) (defScope sCounts) .none (kV7) dc7 pm7 an7 cd7 ct7), sl7⟩) (c7 : PySem.W.codeIn K cd7 "counts_to" = true) (k7 : PySem.W.keepIn K (.ref f7) = true)
    (a8 : PySem.W.nsIn K mainGlobals "count_wound" = some (some (.ref f8))) (l8 : K.lookup f8 = some ⟨oc8, od8, .func (PySem.W.fnOf "count_wound" "count_wound" (defArgs sCount) (defBody sCount) (defScope sCount) .none (kV8) dc8 pm8 an8 cd8 ct8), sl8⟩) (c8 : PySem.W.codeIn K cd8 "count_wound" = true) (k8 : PySem.W.keepIn K (.ref f8) = true)
    (a9 : PySem.W.nsIn K mainGlobals "seen_behind" = some (some (.ref f9))) (l9 : K.lookup f9 = some ⟨oc9, od9, .func (PySem.W.fnOf "seen_behind" "seen_behind" (defArgs sSeen) (defBody sSeen) (defScope sSeen) .none (kV9) dc9 pm9 an9 cd9 ct9), sl9⟩) (c9 : PySem.W.codeIn K cd9 "seen_behind" = true) (k9 : PySem.W.keepIn K (.ref f9) = true)
    (a10 : PySem.W.nsIn K mainGlobals "lacking" = some (some (.ref f10))) (l10 : K.lookup f10 = some ⟨oc10, od10, .func (PySem.W.fnOf "lacking" "lacking" (defArgs sLack) (defBody sLack) (defScope sLack) .none (kV10) dc10 pm10 an10 cd10 ct10), sl10⟩) (c10 : PySem.W.codeIn K cd10 "lacking" = true) (k10 : PySem.W.keepIn K (.ref f10) = true)
    (a11 : PySem.W.nsIn K mainGlobals "is_kind" = some (some (.ref f11))) (l11 : K.lookup f11 = some ⟨oc11, od11, .func (PySem.W.fnOf "is_kind" "is_kind" (defArgs sKind) (defBody sKind) (defScope sKind) .none (kV11) dc11 pm11 an11 cd11 ct11), sl11⟩) (c11 : PySem.W.codeIn K cd11 "is_kind" = true) (k11 : PySem.W.keepIn K (.ref f11) = true)
    (a12 : PySem.W.nsIn K mainGlobals "_law_pot" = some (some (.ref f12))) (l12 : K.lookup f12 = some ⟨oc12, od12, .func (PySem.W.fnOf "_law_pot" "_law_pot" (defArgs sPot) (defBody sPot) (defScope sPot) .none (kV12) dc12 pm12 an12 cd12 ct12), sl12⟩) (c12 : PySem.W.codeIn K cd12 "_law_pot" = true) (k12 : PySem.W.keepIn K (.ref f12) = true)
    (a13 : PySem.W.nsIn K mainGlobals "_law_take" = some (some (.ref f13))) (l13 : K.lookup f13 = some ⟨oc13, od13, .func (PySem.W.fnOf "_law_take" "_law_take" (defArgs sTake) (defBody sTake) (defScope sTake) .none (kV13) dc13 pm13 an13 cd13 ct13), sl13⟩) (c13 : PySem.W.codeIn K cd13 "_law_take" = true) (k13 : PySem.W.keepIn K (.ref f13) = true)
    (a14 : PySem.W.nsIn K mainGlobals "_law_of" = some (some (.ref f14))) (l14 : K.lookup f14 = some ⟨oc14, od14, .func (PySem.W.fnOf "_law_of" "_law_of" (defArgs sOf) (defBody sOf) (defScope sOf) .none (kV14) dc14 pm14 an14 cd14 ct14), sl14⟩) (c14 : PySem.W.codeIn K cd14 "_law_of" = true) (k14 : PySem.W.keepIn K (.ref f14) = true)
    (a15 : PySem.W.nsIn K mainGlobals "_law_names" = some (some (.ref f15))) (l15 : K.lookup f15 = some ⟨oc15, od15, .func (PySem.W.fnOf "_law_names" "_law_names" (defArgs sNames) (defBody sNames) (defScope sNames) .none (kV15) dc15 pm15 an15 cd15 ct15), sl15⟩) (c15 : PySem.W.codeIn K cd15 "_law_names" = true) (k15 : PySem.W.keepIn K (.ref f15) = true)
    (a16 : PySem.W.nsIn K mainGlobals "_law_word" = some (some (.ref f16))) (l16 : K.lookup f16 = some ⟨oc16, od16, .func (PySem.W.fnOf "_law_word" "_law_word" (defArgs sWord) (defBody sWord) (defScope sWord) .none (kV16) dc16 pm16 an16 cd16 ct16), sl16⟩) (c16 : PySem.W.codeIn K cd16 "_law_word" = true) (k16 : PySem.W.keepIn K (.ref f16) = true)
    (a17 : PySem.W.nsIn K mainGlobals "_law_stretches" = some (some (.ref f17))) (l17 : K.lookup f17 = some ⟨oc17, od17, .func (PySem.W.fnOf "_law_stretches" "_law_stretches" (defArgs sStr) (defBody sStr) (defScope sStr) .none (kV17) dc17 pm17 an17 cd17 ct17), sl17⟩) (c17 : PySem.W.codeIn K cd17 "_law_stretches" = true) (k17 : PySem.W.keepIn K (.ref f17) = true)
    (a18 : PySem.W.nsIn K mainGlobals "_law_called" = some (some (.ref f18))) (l18 : K.lookup f18 = some ⟨oc18, od18, .func (PySem.W.fnOf "_law_called" "_law_called" (defArgs sCalled) (defBody sCalled) (defScope sCalled) .none (kV18) dc18 pm18 an18 cd18 ct18), sl18⟩) (c18 : PySem.W.codeIn K cd18 "_law_called" = true) (k18 : PySem.W.keepIn K (.ref f18) = true)
    (a19 : PySem.W.nsIn K mainGlobals "_law_right" = some (some (.ref f19))) (l19 : K.lookup f19 = some ⟨oc19, od19, .func (PySem.W.fnOf "_law_right" "_law_right" (defArgs sRight) (defBody sRight) (defScope sRight) .none (kV19) dc19 pm19 an19 cd19 ct19), sl19⟩) (c19 : PySem.W.codeIn K cd19 "_law_right" = true) (k19 : PySem.W.keepIn K (.ref f19) = true)
    (a20 : PySem.W.nsIn K mainGlobals "law" = some (some (.ref f20))) (l20 : K.lookup f20 = some ⟨oc20, od20, .func (PySem.W.fnOf "law" "law" (defArgs sLaw) (defBody sLaw) (defScope sLaw) .none (kV20) dc20 pm20 an20 cd20 ct20), sl20⟩) (c20 : PySem.W.codeIn K cd20 "law" = true) (k20 : PySem.W.keepIn K (.ref f20) = true)
    (dw : PySem.W.nsIn K dW "place" = some (some (.int 0 tW)))
    (gF : PySem.W.nsIn K mainGlobals "FIRM" = some (some (.str "firm" tF))) (gS : PySem.W.nsIn K mainGlobals "STEADY" = some (some (.str "steady" tS))) (gL : PySem.W.nsIn K mainGlobals "LEFT" = some (some (.int (-1) tL)))
    (z_isinstance : PySem.W.nsIn K mainGlobals "isinstance" = some none)
    (z_int : PySem.W.nsIn K mainGlobals "int" = some none)
    (z_bool : PySem.W.nsIn K mainGlobals "bool" = some none)
    (z_len : PySem.W.nsIn K mainGlobals "len" = some none)
    (z_range : PySem.W.nsIn K mainGlobals "range" = some none)
    (z_tuple : PySem.W.nsIn K mainGlobals "tuple" = some none)
    (z_sorted : PySem.W.nsIn K mainGlobals "sorted" = some none)
    (z_sum : PySem.W.nsIn K mainGlobals "sum" = some none)
    (z_min : PySem.W.nsIn K mainGlobals "min" = some none)
    (z_max : PySem.W.nsIn K mainGlobals "max" = some none)
    (z_abs : PySem.W.nsIn K mainGlobals "abs" = some none)
    (z_list : PySem.W.nsIn K mainGlobals "list" = some none)
    (z_set : PySem.W.nsIn K mainGlobals "set" = some none)
    (z_all : PySem.W.nsIn K mainGlobals "all" = some none)
    (zd : PySem.W.nsIn K cStatics "sys.int_max_str_digits" = some none) :
    ∃ fd : FuncData, (∀ (s : Shared) (v : Value), BindsTo s fd ⟨[v], []⟩ [("_law_script", v)]) ∧ ∀ base : Heap, K.In base → base.Ns mainGlobals mg → FnOk l.prog w K mg base CX0 9 fa fd ["_law_script"] (spLaw K) := by
  have e := hfa.symm.trans (PySem.W.mg_of X G a20)
  cases e
  have F1 := fun_mk (st := sWhole) l1 c1 k1
  have b1 := F1.binds (ps := ["thing", "low", "high"]) fun _ _ _ _ _ _ us hl => match us, hl with | [_, _, _], _ => rfl
  have m1 := PySem.W.mg_of X G a1
  have F2 := fun_mk (st := sLook) l2 c2 k2
  have b2 := F2.binds (ps := ["word", "place"]) fun _ _ _ _ _ _ us hl => match us, hl with | [_, _], _ => rfl
  have m2 := PySem.W.mg_of X G a2
  have F3 := fun_mk (st := sBacks) l3 c3 k3
  have b3 := F3.binds (ps := ["word", "place"]) fun _ _ _ _ _ _ us hl => match us, hl with | [_, _], _ => rfl
  have m3 := PySem.W.mg_of X G a3
  have F4 := fun_mk (st := sGoings) l4 c4 k4
  have b4 := F4.binds (ps := ["word", "place"]) fun _ _ _ _ _ _ us hl => match us, hl with | [_, _], _ => rfl
  have m4 := PySem.W.mg_of X G a4
  have F5 := fun_mk (st := sOnward) l5 c5 k5
  have b5 := F5.binds (ps := ["word", "place"]) fun _ _ _ _ _ _ us hl => match us, hl with | [_, _], _ => rfl
  have m5 := PySem.W.mg_of X G a5
  have F6 : WoundD K f6 _ := ⟨⟨oc6, od6, .none, .ref dW, dc6, pm6, an6, cd6, ct6, sl6, rfl, l6, c6, .inl ⟨rfl, rfl⟩, .inr ⟨dW, rfl, fun q hq => by
    rw [List.mem_singleton.mp hq]
    exact ⟨_, dw, tW, rfl⟩⟩⟩, k6⟩
  obtain ⟨ds6, v6, b6⟩ := wound_binds F6
  have m6 := PySem.W.mg_of X G a6
  have F7 := fun_mk (st := sCounts) l7 c7 k7
  have b7 := F7.binds (ps := ["word", "size"]) fun _ _ _ _ _ _ us hl => match us, hl with | [_, _], _ => rfl
  have m7 := PySem.W.mg_of X G a7
  have F8 := fun_mk (st := sCount) l8 c8 k8
  have b8 := F8.binds (ps := ["word", "size"]) fun _ _ _ _ _ _ us hl => match us, hl with | [_, _], _ => rfl
  have m8 := PySem.W.mg_of X G a8
  have F9 := fun_mk (st := sSeen) l9 c9 k9
  have b9 := F9.binds (ps := ["word", "kind", "seen", "name"]) fun _ _ _ _ _ _ us hl => match us, hl with | [_, _, _, _], _ => rfl
  have m9 := PySem.W.mg_of X G a9
  have F10 := fun_mk (st := sLack) l10 c10 k10
  have b10 := F10.binds (ps := ["word", "kind"]) fun _ _ _ _ _ _ us hl => match us, hl with | [_, _], _ => rfl
  have m10 := PySem.W.mg_of X G a10
  have F11 := fun_mk (st := sKind) l11 c11 k11
  have b11 := F11.binds (ps := ["word", "kind"]) fun _ _ _ _ _ _ us hl => match us, hl with | [_, _], _ => rfl
  have m11 := PySem.W.mg_of X G a11
  have F12 := fun_mk (st := sPot) l12 c12 k12
  have b12 := F12.binds (ps := ["_law_script", "_law_k"]) fun _ _ _ _ _ _ us hl => match us, hl with | [_, _], _ => rfl
  have m12 := PySem.W.mg_of X G a12
  have F13 := fun_mk (st := sTake) l13 c13 k13
  have b13 := F13.binds (ps := ["_law_pot_here", "_law_upto"]) fun _ _ _ _ _ _ us hl => match us, hl with | [_, _], _ => rfl
  have m13 := PySem.W.mg_of X G a13
  have F14 := fun_mk (st := sOf) l14 c14 k14
  have b14 := F14.binds (ps := ["_law_pot_here", "_law_some"]) fun _ _ _ _ _ _ us hl => match us, hl with | [_, _], _ => rfl
  have m14 := PySem.W.mg_of X G a14
  have F15 := fun_mk (st := sNames) l15 c15 k15
  have b15 := F15.binds (ps := ["_law_pot_here", "_law_many"]) fun _ _ _ _ _ _ us hl => match us, hl with | [_, _], _ => rfl
  have m15 := PySem.W.mg_of X G a15
  have F16 := fun_mk (st := sWord) l16 c16 k16
  have b16 := F16.binds (ps := ["_law_pot_here", "_law_names_here", "_law_most"]) fun _ _ _ _ _ _ us hl => match us, hl with | [_, _, _], _ => rfl
  have m16 := PySem.W.mg_of X G a16
  have F17 := fun_mk (st := sStr) l17 c17 k17
  have b17 := F17.binds (ps := ["_law_word_here"]) fun _ _ _ _ _ _ us hl => match us, hl with | [_], _ => rfl
  have m17 := PySem.W.mg_of X G a17
  have F18 := fun_mk (st := sCalled) l18 c18 k18
  have b18 := F18.binds (ps := ["_law_pot_here", "_law_word_here"]) fun _ _ _ _ _ _ us hl => match us, hl with | [_, _], _ => rfl
  have m18 := PySem.W.mg_of X G a18
  have F19 := fun_mk (st := sRight) l19 c19 k19
  have b19 := F19.binds (ps := ["_law_pot_here", "_law_word_here"]) fun _ _ _ _ _ _ us hl => match us, hl with | [_, _], _ => rfl
  have m19 := PySem.W.mg_of X G a19
  have F20 := fun_mk (st := sLaw) l20 c20 k20
  have n_isinstance := PySem.W.mg_none_of X G z_isinstance
  have n_int := PySem.W.mg_none_of X G z_int
  have n_bool := PySem.W.mg_none_of X G z_bool
  have n_len := PySem.W.mg_none_of X G z_len
  have n_range := PySem.W.mg_none_of X G z_range
  have n_tuple := PySem.W.mg_none_of X G z_tuple
  have n_sorted := PySem.W.mg_none_of X G z_sorted
  have n_sum := PySem.W.mg_none_of X G z_sum
  have n_min := PySem.W.mg_none_of X G z_min
  have n_max := PySem.W.mg_none_of X G z_max
  have n_abs := PySem.W.mg_none_of X G z_abs
  have n_list := PySem.W.mg_none_of X G z_list
  have n_set := PySem.W.mg_none_of X G z_set
  have n_all := PySem.W.mg_none_of X G z_all
  have mF := PySem.W.mg_of X G gF
  have mS := PySem.W.mg_of X G gS
  have mL := PySem.W.mg_of X G gL
  refine ⟨PySem.W.fnOf "law" "law" (defArgs sLaw) (defBody sLaw) (defScope sLaw) .none kV20 dc20 pm20 an20 cd20 ct20, fun s v => .of_eq rfl, fun base _ _ => ?_⟩
  have G1 : ∀ k, FnOk l.prog w K mg base CX0 (k + 1) f1 _ _ spWhole := fun k => ok_whole F1 n_isinstance n_int n_bool
  have G2 : ∀ k, FnOk l.prog w K mg base CX0 (k + 2) f2 _ _ spLook := fun k => ok_look F2 (G1 k) k1 b1 m1 n_len
  have G3 : ∀ k, FnOk l.prog w K mg base CX0 (k + 3) f3 _ _ spBacks := fun k => ok_backs F3 (G2 k) k2 b2 m2 n_range n_tuple
  have G4 : ∀ k, FnOk l.prog w K mg base CX0 (k + 4) f4 _ _ spGoings := fun k => ok_goings F4 (G3 k) k3 b3 m3 n_len
  have G5 : ∀ k, FnOk l.prog w K mg base CX0 (k + 5) f5 _ _ spOnward := fun k => ok_onward F5 (G4 k) k4 b4 m4 n_sorted
  have G6 : ∀ k, FnOk l.prog w K mg base CX0 (k + 6) f6 _ _ spWound := fun k => ok_wound F6 (G2 (k + 3)) k2 b2 m2 (G5 k) k5 b5 m5 n_len
  have G7 : ∀ k, FnOk l.prog w K mg base CX0 (k + 6) f7 _ _ spCounts := fun k => ok_counts F7 (G5 k) k5 b5 m5 n_len n_range n_sum
  have G8 : ∀ k, FnOk l.prog w K mg base CX0 (k + 7) f8 _ _ spCount := fun k => ok_count F8 (G7 k) k7 b7 m7
  have G9 : ∀ k, FnOk l.prog w K mg base CX0 (k + 1) f9 _ _ spSeen := fun k => ok_seen F9 mF mS mL n_len n_range n_min n_max
  have G10 : ∀ k, FnOk l.prog w K mg base CX0 (k + 6) f10 _ _ spLack := fun k => ok_lack F10 (G5 k) k5 b5 m5 (G9 (k + 4)) k9 b9 m9 n_len n_sorted
  have G11 : ∀ k, FnOk l.prog w K mg base CX0 (k + 7) f11 _ _ spKind := fun k => ok_kind F11 (G10 k) k10 b10 m10
  have G12 : ∀ k, FnOk l.prog w K mg base CX0 (k + 1) f12 _ _ (spPot K) := fun k => ok_pot F12 n_len n_abs n_int zd
  have G13 : ∀ k, FnOk l.prog w K mg base CX0 (k + 1) f13 _ _ spTake := fun k => ok_take F13
  have G14 : ∀ k, FnOk l.prog w K mg base CX0 (k + 2) f14 _ _ spOf := fun k => ok_of F14 (G13 k) k13 b13 m13 n_len
  have G15 : ∀ k, FnOk l.prog w K mg base CX0 (k + 3) f15 _ _ spNames := fun k => ok_names F15 (G13 (k + 1)) k13 b13 m13 (G14 k) k14 b14 m14 n_len n_range n_list n_sorted
  have G16 : ∀ k, FnOk l.prog w K mg base CX0 (k + 3) f16 _ _ spWord := fun k => ok_word F16 (G13 (k + 1)) k13 b13 m13 (G14 k) k14 b14 m14 n_range n_tuple
  have G17 : ∀ k, FnOk l.prog w K mg base CX0 (k + 1) f17 _ _ spStr := fun k => ok_str F17 n_len n_range n_sorted
  have G18 : ∀ k, FnOk l.prog w K mg base CX0 (k + 4) f18 _ _ spCalled := fun k => ok_called F18 (G13 (k + 2)) k13 b13 m13 (G15 k) k15 b15 m15 n_len n_sorted n_set
  have G19 : ∀ k, FnOk l.prog w K mg base CX0 (k + 8) f19 _ _ spRight := fun k => ok_right F19 (G11 k) k11 b11 m11 (G10 (k + 1)) k10 b10 m10 (G17 (k + 6)) k17 b17 m17 (G18 (k + 3)) k18 b18 m18 (G6 (k + 1)) k6 b6 v6 m6 (G8 k) k8 b8 m8 n_len n_set n_all n_tuple
  exact ok_law (k := 0) F20 (G12 7) k12 b12 m12 (G13 7) k13 b13 m13 (G15 5) k15 b15 m15 (G16 5) k16 b16 m16 (G19 0) k19 b19 m19 n_len n_range n_min n_max
end WK
open PySem PySem.W PyProof.Rows
set_option maxRecDepth 100000 in
set_option maxHeartbeats 0 in
theorem PySem.Challenge.cw_woundwalks_k11_whole_stretches_and_other_holds : PySem.Challenge.rw_woundwalks_k11_whole_stretches_and_other.Holds := by
  w_on; o_law; k_head; (case hw => w_witness2)
  k_fill
  refine L2.walk_of (l := PySem.Challenge.rw_woundwalks_k11_whole_stretches_and_other) (n := 63) (k := 9) (x := "_law_script") (CX := fun _ => L2.CX0) (sp := fun w => WK.spLaw _) rfl (by decide) rfl ⟨rfl, by decide, by decide⟩ (fun w h Y => PySem.W.kIn_of Y) ?F (fun _ _ a ns hl _ hS => ⟨a, ns, rfl, hS, hl, fun _ => rfl⟩) (fun _ _ _ _ _ h => h)
  case F =>
    intro w mg fa h KX G hmg
    refine' WK.all_mk KX G hmg ?a1 ?l1 ?c1 ?k1 ?a2 ?l2 ?c2 ?k2 ?a3 ?l3 ?c3 ?k3 ?a4 ?l4 ?c4 ?k4 ?a5 ?l5 ?c5 ?k5 ?a6 ?l6 ?c6 ?k6 ?a7 ?l7 ?c7 ?k7 ?a8 ?l8 ?c8 ?k8 ?a9 ?l9 ?c9 ?k9 ?a10 ?l10 ?c10 ?k10 ?a11 ?l11 ?c11 ?k11 ?a12 ?l12 ?c12 ?k12 ?a13 ?l13 ?c13 ?k13 ?a14 ?l14 ?c14 ?k14 ?a15 ?l15 ?c15 ?k15 ?a16 ?l16 ?c16 ?k16 ?a17 ?l17 ?c17 ?k17 ?a18 ?l18 ?c18 ?k18 ?a19 ?l19 ?c19 ?k19 ?a20 ?l20 ?c20 ?k20 ?dw ?gF ?gS ?gL ?z_isinstance ?z_int ?z_bool ?z_len ?z_range ?z_tuple ?z_sorted ?z_sum ?z_min ?z_max ?z_abs ?z_list ?z_set ?z_all ?zd
    (case a1 => k_is); (case l1 => k_is); (case c1 => k_is); (case k1 => k_is); (case a2 => k_is); (case l2 => k_is); (case c2 => k_is); (case k2 => k_is); (case a3 => k_is); (case l3 => k_is); (case c3 => k_is); (case k3 => k_is); (case a4 => k_is); (case l4 => k_is); (case c4 => k_is); (case k4 => k_is); (case a5 => k_is); (case l5 => k_is); (case c5 => k_is); (case k5 => k_is); (case a6 => k_is); (case l6 => k_is); (case c6 => k_is); (case k6 => k_is); (case a7 => k_is); (case l7 => k_is); (case c7 => k_is); (case k7 => k_is); (case a8 => k_is); (case l8 => k_is); (case c8 => k_is); (case k8 => k_is); (case a9 => k_is); (case l9 => k_is); (case c9 => k_is); (case k9 => k_is); (case a10 => k_is); (case l10 => k_is); (case c10 => k_is); (case k10 => k_is); (case a11 => k_is); (case l11 => k_is); (case c11 => k_is); (case k11 => k_is); (case a12 => k_is); (case l12 => k_is); (case c12 => k_is); (case k12 => k_is); (case a13 => k_is); (case l13 => k_is); (case c13 => k_is); (case k13 => k_is); (case a14 => k_is); (case l14 => k_is); (case c14 => k_is); (case k14 => k_is); (case a15 => k_is); (case l15 => k_is); (case c15 => k_is); (case k15 => k_is); (case a16 => k_is); (case l16 => k_is); (case c16 => k_is); (case k16 => k_is); (case a17 => k_is); (case l17 => k_is); (case c17 => k_is); (case k17 => k_is); (case a18 => k_is); (case l18 => k_is); (case c18 => k_is); (case k18 => k_is); (case a19 => k_is); (case l19 => k_is); (case c19 => k_is); (case k19 => k_is); (case a20 => k_is); (case l20 => k_is); (case c20 => k_is); (case k20 => k_is); (case dw => k_is); (case gF => k_is); (case gS => k_is); (case gL => k_is); (case z_isinstance => k_is); (case z_int => k_is); (case z_bool => k_is); (case z_len => k_is); (case z_range => k_is); (case z_tuple => k_is); (case z_sorted => k_is); (case z_sum => k_is); (case z_min => k_is); (case z_max => k_is); (case z_abs => k_is); (case z_list => k_is); (case z_set => k_is); (case z_all => k_is); (case zd => k_is)
