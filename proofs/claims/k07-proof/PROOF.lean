import PyProof.Rows.All
import Wide.All
import OpenK.AllK
import Wide.FinOn
import HandS.ForMost
import HandS.Words
import HandS.WordsDict
import HandS.WordsExc
import HandS.Flow
import HandS.Style
import HandS.Set
import HandS.Strs
import HandS.Conv
import HandS.Wide
import HandS.WideMore
import HandS.Defaults
import HandS.MakeKwOnly
import HandS.Star
import HandS.Slots
import HandS.SlotsOwn
import HandS.DictTup
import HandS.DictComp
import HandS.IsInst
import HandS.TupAny
import HandS.TupLe
import HandS.TupLen
import HandS.TupSets
import HandS.SortInts
import HandS.SortRule
import HandS.Zip
import HandS.Deep
import HandS.NoneIn
import HandS.Small
import HandS.More
import PySem.Challenge.RW_mendwide_k07_whole_rows_behind_any_row
import KE.GoesMore
import KE.KTupSum
import KE.DataMinMax
import HandS.SetFor
import KE.KDictList
import KE.SortData
import KE.KDictItemsList
import KE.KDictPairs
import KE.KDictKeyed
import HandS.ListItems
import KE.KDictWalk
import KE.KDictSum
import KE.KItemsList
import HandS.SetBool
import PyProof.CollectStr
import HandS.TryOnly
import HandS.Head0
import HandS.Head1
import HandS.Head2
import HandS.HeadEnd
import HandS.HeadHook1
import HandS.HeadHook2
section
set_option linter.all false
/-! Cheapest ways over a partial table: plain mathematics. -/
namespace K7
section fw
variable {α : Type} [DecidableEq α]
abbrev Tab (α : Type) := α → α → Option Int
def tput (T : Tab α) (i j : α) (v : Int) : Tab α := fun x y => if x = i ∧ y = j then some v else T x y
def mn (x y : Int) : Int := if y < x then y else x
theorem mn_le_l (x y : Int) : mn x y ≤ x := by unfold mn; split <;> omega
theorem mn_le_r (x y : Int) : mn x y ≤ y := by unfold mn; split <;> omega
theorem mn_or (x y : Int) : mn x y = x ∨ mn x y = y := by unfold mn; split <;> simp
theorem mn_self (x : Int) : mn x x = x := by unfold mn; split <;> omega
theorem mn_of_le {x y : Int} (h : y ≤ x) : mn x y = y := by unfold mn; split <;> omega
/-- what one look at a middle leaves of an entry -/
def comb (a b c : Option Int) : Option Int := match a, b with
  | some x, some y => some (mn (x + y) (c.getD (x + y)))
  | _, _ => c
def relax (m i j : α) (T : Tab α) : Tab α :=
  if i = j then T else match T i m, T m j with
    | some a, some b => tput T i j (mn (a + b) ((T i j).getD (a + b)))
    | _, _ => T
def passI (m i : α) (js : List α) (T : Tab α) : Tab α := js.foldl (fun T j => relax m i j T) T
def pass (ns : List α) (m : α) (is : List α) (T : Tab α) : Tab α := is.foldl (fun T i => passI m i ns T) T
def fw (ns : List α) (ms : List α) (T : Tab α) : Tab α := ms.foldl (fun T m => pass ns m ns T) T

def NoDiag (T : Tab α) : Prop := ∀ i, T i i = none
theorem relax_at (m i j : α) (T : Tab α) (x y : α) : relax m i j T x y = if x = i ∧ y = j ∧ i ≠ j then comb (T i m) (T m j) (T i j) else T x y := by
  unfold relax comb
  by_cases e : i = j
  · simp [e]
  · rw [if_neg e]
    cases h1 : T i m <;> cases h2 : T m j <;> simp [tput, e] <;> (try split) <;> simp_all
theorem relax_nd {m i j : α} {T : Tab α} (h : NoDiag T) : NoDiag (relax m i j T) := by
  intro x
  rw [relax_at]
  split
  · rename_i q; exact absurd (q.1.symm.trans q.2.1) q.2.2
  · exact h x
theorem relax_row {m i j : α} {T : Tab α} (h : NoDiag T) (y : α) : relax m i j T m y = T m y := by
  rw [relax_at]
  split
  · rename_i q
    obtain ⟨rfl, rfl, _⟩ := q
    rw [h m]; rfl
  · rfl
theorem relax_col {m i j : α} {T : Tab α} (h : NoDiag T) (x : α) : relax m i j T x m = T x m := by
  rw [relax_at]
  split
  · rename_i q
    obtain ⟨rfl, rfl, _⟩ := q
    rw [h m]
    unfold comb
    split <;> simp_all
  · rfl
theorem passI_spec {m i : α} : ∀ {js : List α} {T : Tab α}, NoDiag T → js.Nodup →
    NoDiag (passI m i js T) ∧ (∀ y, passI m i js T m y = T m y) ∧ (∀ x, passI m i js T x m = T x m) ∧
    ∀ x y, passI m i js T x y = if x = i ∧ y ∈ js ∧ i ≠ y then comb (T i m) (T m y) (T i y) else T x y
  | [], T, h, _ => ⟨h, fun _ => rfl, fun _ => rfl, fun x y => by simp [passI]⟩
  | j :: r, T, h, hn => by
    obtain ⟨hj, hr⟩ := List.nodup_cons.mp hn
    obtain ⟨a1, a2, a3, a4⟩ := passI_spec (js := r) (relax_nd (m := m) (i := i) (j := j) h) hr
    have e : passI m i (j :: r) T = passI m i r (relax m i j T) := rfl
    rw [e]
    refine ⟨a1, fun y => (a2 y).trans (relax_row h y), fun x => (a3 x).trans (relax_col h x), fun x y => ?_⟩
    rw [a4, relax_row h, relax_col h, relax_at, relax_at]
    by_cases hx : x = i
    · subst hx
      by_cases hy : y = j
      · subst hy
        simp [hj]
      · have hy' : ¬ (y = j ∧ x ≠ j) := fun q => hy q.1
        simp [hy, List.mem_cons]
    · simp [hx]
theorem pass_spec {ns : List α} {m : α} (hns : ns.Nodup) : ∀ {is : List α} {T : Tab α}, NoDiag T → is.Nodup →
    NoDiag (pass ns m is T) ∧ (∀ y, pass ns m is T m y = T m y) ∧ (∀ x, pass ns m is T x m = T x m) ∧
    ∀ x y, pass ns m is T x y = if x ∈ is ∧ y ∈ ns ∧ x ≠ y then comb (T x m) (T m y) (T x y) else T x y
  | [], T, h, _ => ⟨h, fun _ => rfl, fun _ => rfl, fun x y => by simp [pass]⟩
  | i :: r, T, h, hn => by
    obtain ⟨hi, hr⟩ := List.nodup_cons.mp hn
    obtain ⟨b1, b2, b3, b4⟩ := passI_spec (m := m) (i := i) (js := ns) h hns
    obtain ⟨a1, a2, a3, a4⟩ := pass_spec hns (is := r) (m := m) b1 hr
    have e : pass ns m (i :: r) T = pass ns m r (passI m i ns T) := rfl
    rw [e]
    refine ⟨a1, fun y => (a2 y).trans (b2 y), fun x => (a3 x).trans (b3 x), fun x y => ?_⟩
    rw [a4, b2, b3, b4]
    by_cases hx : x = i
    · subst hx
      simp [hi]
    · simp [hx, List.mem_cons]

/-- numbers are at least 1 -/
def TPos (T : Tab α) : Prop := ∀ i j v, T i j = some v → 1 ≤ v
theorem comb_pos {a b c : Option Int} {v : Int} (ha : ∀ x, a = some x → 1 ≤ x) (hb : ∀ x, b = some x → 1 ≤ x) (hc : ∀ x, c = some x → 1 ≤ x) (h : comb a b c = some v) : 1 ≤ v := by
  unfold comb at h
  split at h
  · rename_i x y
    injection h with h
    have hx := ha x rfl
    have hy := hb y rfl
    cases c with
    | none => simp [mn_self] at h; omega
    | some z => have hz := hc z rfl; simp at h; rcases mn_or (x + y) z with q | q <;> omega
  · exact hc v h
theorem pass_pos {ns : List α} {m : α} {T : Tab α} (hns : ns.Nodup) (h : NoDiag T) (p : TPos T) : TPos (pass ns m ns T) := by
  intro i j v hv
  rw [(pass_spec hns h hns).2.2.2] at hv
  split at hv
  · exact comb_pos (p _ _) (p _ _) (p _ _) hv
  · exact p _ _ _ hv
/-- an entry that stands stays, no greater -/
theorem comb_le {a b c : Option Int} {v : Int} (h : c = some v) : ∃ u, comb a b c = some u ∧ u ≤ v := by
  unfold comb
  split
  · exact ⟨_, rfl, by rw [h]; exact mn_le_r _ _⟩
  · exact ⟨v, h, Int.le_refl _⟩
theorem pass_le {ns : List α} {m : α} {T : Tab α} (hns : ns.Nodup) (h : NoDiag T) {i j : α} {v : Int} (e : T i j = some v) : ∃ u, pass ns m ns T i j = some u ∧ u ≤ v := by
  rw [(pass_spec hns h hns).2.2.2]
  split
  · exact comb_le e
  · exact ⟨v, e, Int.le_refl _⟩
/-- the way over m is no cheaper -/
def Tri (ns : List α) (T : Tab α) (S : List α) : Prop := ∀ m ∈ S, ∀ i j, i ∈ ns → j ∈ ns → i ≠ j → ∀ a b, T i m = some a → T m j = some b → ∃ c, T i j = some c ∧ c ≤ a + b
theorem comb_bound {a b c : Option Int} {x y : Int} (ha : a = some x) (hb : b = some y) : ∃ u, comb a b c = some u ∧ u ≤ x + y := by
  rw [ha, hb]
  exact ⟨_, rfl, mn_le_l _ _⟩
theorem comb_cases {a b c : Option Int} {v : Int} (h : comb a b c = some v) : (c = some v) ∨ ∃ x y, a = some x ∧ b = some y ∧ v = x + y := by
  unfold comb at h
  split at h
  · rename_i x y
    injection h with h
    cases c with
    | none => simp [mn_self] at h; exact .inr ⟨x, y, rfl, rfl, h.symm⟩
    | some z =>
      simp at h
      rcases mn_or (x + y) z with q | q
      · exact .inr ⟨x, y, rfl, rfl, by omega⟩
      · exact .inl (by rw [← h, q])
  · exact .inl h
theorem pass_tri {ns S : List α} {m : α} {T : Tab α} (hns : ns.Nodup) (hm : m ∈ ns) (hS : ∀ x ∈ S, x ∈ ns) (h : NoDiag T) (p : TPos T) (t : Tri ns T S) : Tri ns (pass ns m ns T) (m :: S) := by
  have sp := (pass_spec (m := m) hns h hns).2.2.2
  intro k hk i j hi hj hij a b ha hb
  rw [sp] at ha hb ⊢
  rw [if_pos ⟨hi, hj, hij⟩]
  -- cheapest known: over m, or as it stood
  rcases List.mem_cons.mp hk with rfl | hk
  · -- over m itself
    have ha' : T i k = some a := by
      split at ha
      · rw [h k] at ha
        unfold comb at ha
        split at ha <;> simp_all
      · exact ha
    have hb' : T k j = some b := by
      split at hb
      · rw [h k] at hb
        unfold comb at hb
        split at hb <;> simp_all
      · exact hb
    exact comb_bound ha' hb'
  · have hkn := hS k hk
    have key : ∀ x y, T i k = some x → T k j = some y → ∃ u, comb (T i m) (T m j) (T i j) = some u ∧ u ≤ x + y := fun x y hx hy => by
      obtain ⟨c, hc, hl⟩ := t k hk i j hi hj hij x y hx hy
      obtain ⟨u, hu, hl2⟩ := comb_le (a := T i m) (b := T m j) hc
      exact ⟨u, hu, by omega⟩
    have ca : (T i k = some a) ∨ ∃ x y, T i m = some x ∧ T m k = some y ∧ a = x + y := by
      split at ha
      · exact comb_cases ha
      · exact .inl ha
    have cb : (T k j = some b) ∨ ∃ x y, T k m = some x ∧ T m j = some y ∧ b = x + y := by
      split at hb
      · exact comb_cases hb
      · exact .inl hb
    rcases ca with ca | ⟨x, y, hx, hy, rfl⟩
    · rcases cb with cb | ⟨x', y', hx', hy', rfl⟩
      · exact key a b ca cb
      · -- a: i to k; k to m, m to j
        by_cases him : i = m
        · subst him
          have := p _ _ _ ca
          have := p _ _ _ hx'
          obtain ⟨u, hu, hl⟩ := comb_le (a := T i i) (b := T i j) hy'
          exact ⟨u, hu, by omega⟩
        · obtain ⟨c, hc, hl⟩ := t k hk i m hi hm him a x' ca hx'
          obtain ⟨u, hu, hl2⟩ := comb_bound (c := T i j) hc hy'
          exact ⟨u, hu, by omega⟩
    · rcases cb with cb | ⟨x', y', hx', hy', rfl⟩
      · by_cases hjm : m = j
        · subst hjm
          have := p _ _ _ cb
          have := p _ _ _ hy
          obtain ⟨u, hu, hl⟩ := comb_le (a := T i m) (b := T m m) hx
          exact ⟨u, hu, by omega⟩
        · obtain ⟨c, hc, hl⟩ := t k hk m j hm hj hjm y b hy cb
          obtain ⟨u, hu, hl2⟩ := comb_bound (c := T i j) hx hc
          exact ⟨u, hu, by omega⟩
      · have := p _ _ _ hy
        have := p _ _ _ hx'
        obtain ⟨u, hu, hl2⟩ := comb_bound (c := T i j) hx hy'
        exact ⟨u, hu, by omega⟩
theorem fw_spec {ns : List α} (hns : ns.Nodup) : ∀ {ms S : List α} {T : Tab α}, (∀ m ∈ ms, m ∈ ns) → (∀ m ∈ S, m ∈ ns) → NoDiag T → TPos T → Tri ns T S →
    NoDiag (fw ns ms T) ∧ TPos (fw ns ms T) ∧ (∀ i j v, T i j = some v → ∃ u, fw ns ms T i j = some u ∧ u ≤ v) ∧ ∀ m, (m ∈ ms ∨ m ∈ S) → Tri ns (fw ns ms T) [m]
  | [], S, T, _, _, h, p, t => ⟨h, p, fun i j v e => ⟨v, e, Int.le_refl _⟩, fun m hm => by
      rcases hm with hm | hm
      · simp at hm
      · intro k hk
        simp at hk
        subst hk
        exact t k hm⟩
  | m :: r, S, T, hm, hS, h, p, t => by
    have hmn := hm m List.mem_cons_self
    obtain ⟨a1, a2, a3, a4⟩ := fw_spec hns (ms := r) (S := m :: S) (T := pass ns m ns T) (fun x hx => hm x (List.mem_cons_of_mem _ hx)) (fun x hx => by
      rcases List.mem_cons.mp hx with rfl | hx
      · exact hmn
      · exact hS x hx) (pass_spec hns h hns).1 (pass_pos hns h p) (pass_tri hns hmn hS h p t)
    have e : fw ns (m :: r) T = fw ns r (pass ns m ns T) := rfl
    rw [e]
    refine ⟨a1, a2, fun i j v q => ?_, fun x hx => ?_⟩
    · obtain ⟨u, hu, hl⟩ := pass_le (m := m) hns h q
      obtain ⟨u', hu', hl'⟩ := a3 i j u hu
      exact ⟨u', hu', by omega⟩
    · refine a4 x ?_
      rcases hx with hx | hx
      · rcases List.mem_cons.mp hx with rfl | hx
        · exact .inr List.mem_cons_self
        · exact .inl hx
      · exact .inr (List.mem_cons_of_mem _ hx)
/-- a table whose ways over others are no cheaper stays as it is -/
theorem pass_stay {ns : List α} {m : α} {T : Tab α} (hns : ns.Nodup) (h : NoDiag T) (t : Tri ns T [m]) : pass ns m ns T = T := by
  funext x y
  rw [(pass_spec hns h hns).2.2.2]
  split
  · rename_i q
    obtain ⟨hx, hy, hxy⟩ := q
    unfold comb
    split
    · rename_i a b ha hb
      obtain ⟨c, hc, hl⟩ := t m (by simp) x y hx hy hxy a b ha hb
      rw [hc]
      show some (mn (a + b) c) = some c
      rw [mn_of_le hl]
    · rfl
  · rfl
theorem fw_stay {ns : List α} (hns : ns.Nodup) : ∀ {ms : List α} {T : Tab α}, NoDiag T → (∀ m ∈ ms, Tri ns T [m]) → fw ns ms T = T
  | [], _, _, _ => rfl
  | m :: r, T, h, t => by
    have e : fw ns (m :: r) T = fw ns r (pass ns m ns T) := rfl
    rw [e, pass_stay hns h (t m List.mem_cons_self)]
    exact fw_stay hns h fun x hx => t x (List.mem_cons_of_mem _ hx)
/-- entries outside the nodes stay -/
theorem fw_out {ns : List α} (hns : ns.Nodup) : ∀ {ms : List α} {T : Tab α}, NoDiag T → ∀ x y, ¬ (x ∈ ns ∧ y ∈ ns) → fw ns ms T x y = T x y
  | [], _, _, _, _, _ => rfl
  | m :: r, T, h, x, y, q => by
    have e : fw ns (m :: r) T = fw ns r (pass ns m ns T) := rfl
    rw [e, fw_out hns (pass_spec hns h hns).1 x y q, (pass_spec hns h hns).2.2.2, if_neg fun z => q ⟨z.1, z.2.1⟩]
end fw
end K7
end

section
set_option linter.all false
/-! Cheapest ways between the states of a small machine: by a matrix, and by turns. Plain mathematics. -/
namespace K7
section ways
variable {σ : Type} (n : Nat) (mv : Nat → List (σ × Nat)) (c : σ → Int)
/-- a move from s to t that costs k -/
def Ed (s t : Nat) (k : Int) : Prop := s < n ∧ ∃ e ∈ mv s, e.2 = t ∧ c e.1 = k
inductive Pth (p : Nat) : Nat → Int → Prop where
  | nil : Pth p p 0
  | snoc {s t : Nat} {v k : Int} : Pth p s v → Ed n mv c s t k → Pth p t (v + k)
structure MOk : Prop where
  n6 : n ≤ 6
  to : ∀ s, s < n → ∀ e ∈ mv s, e.2 < n
  lo : ∀ s, s < n → ∀ e ∈ mv s, 1 ≤ c e.1 ∧ c e.1 ≤ 9
abbrev far : Int := 100000000
def low (M : Nat → Nat → Int) (m : Nat) : Nat → Nat → Int := fun p t => mn (M p t) (M p m + M m t)
def lows : Nat → (Nat → Nat → Int) → (Nat → Nat → Int)
  | 0, M => M
  | k + 1, M => low (lows k M) k
/-- how the matrix begins -/
structure Ini (M : Nat → Nat → Int) : Prop where
  diag : ∀ p, p < n → M p p = 0
  le : ∀ p t k, Ed n mv c p t k → p ≠ t → M p t ≤ k
  or : ∀ p t, p < n → t < n → p ≠ t → M p t = far ∨ Ed n mv c p t (M p t)
variable {n mv c}
theorem Ed.lt (o : MOk n mv c) {s t : Nat} {k : Int} (e : Ed n mv c s t k) : t < n := by
  obtain ⟨h, x, hx, rfl, _⟩ := e
  exact o.to _ h _ hx
theorem Ed.cost (o : MOk n mv c) {s t : Nat} {k : Int} (e : Ed n mv c s t k) : 1 ≤ k ∧ k ≤ 9 := by
  obtain ⟨h, x, hx, _, rfl⟩ := e
  exact o.lo _ h _ hx
theorem Pth.lt (o : MOk n mv c) {p t : Nat} {v : Int} (hp : p < n) (h : Pth n mv c p t v) : t < n := by
  cases h with
  | nil => exact hp
  | snoc _ e => exact e.lt o
theorem Pth.append {p q t : Nat} {v w : Int} (h : Pth n mv c p q v) (g : Pth n mv c q t w) : Pth n mv c p t (v + w) := by
  induction g with
  | nil => rw [Int.add_zero]; exact h
  | snoc _ e ih => rw [← Int.add_assoc]; exact .snoc ih e
/-- what holds of the matrix behind the first k middles -/
structure Mid (k : Nat) (M : Nat → Nat → Int) : Prop where
  diag : ∀ p, p < n → M p p = 0
  nn : ∀ p t, p < n → t < n → 0 ≤ M p t
  le : ∀ p t j, Ed n mv c p t j → p ≠ t → M p t ≤ j
  tri : ∀ m, m < k → ∀ p t, p < n → t < n → M p t ≤ M p m + M m t
  or : ∀ p t, p < n → t < n → M p t = far ∨ (Pth n mv c p t (M p t) ∧ M p t ≤ 9 * 2 ^ k)
theorem Mid.begin (o : MOk n mv c) {M : Nat → Nat → Int} (i : Ini n mv c M) : Mid (n := n) (mv := mv) (c := c) 0 M where
  diag := i.diag
  nn := fun p t hp ht => by
    by_cases e : p = t
    · subst e; rw [i.diag p hp]; exact Int.le_refl _
    · rcases i.or p t hp ht e with q | q
      · rw [q]; decide
      · have := q.cost o; omega
  le := i.le
  tri := fun m hm => absurd hm (Nat.not_lt_zero _)
  or := fun p t hp ht => by
    by_cases e : p = t
    · subst e; rw [i.diag p hp]; exact .inr ⟨.nil, by decide⟩
    · rcases i.or p t hp ht e with q | q
      · exact .inl q
      · have z := q.cost o
        refine .inr ⟨?_, by omega⟩
        have := Pth.snoc (n := n) (mv := mv) (c := c) (p := p) .nil q
        rwa [Int.zero_add] at this
theorem p64 {k : Nat} (h : k ≤ 6) : (2 : Int) ^ k ≤ 64 := by
  rcases (show k = 0 ∨ k = 1 ∨ k = 2 ∨ k = 3 ∨ k = 4 ∨ k = 5 ∨ k = 6 by omega) with rfl | rfl | rfl | rfl | rfl | rfl | rfl <;> decide
theorem Mid.step (o : MOk n mv c) {k : Nat} {M : Nat → Nat → Int} (hk : k < n) (i : Mid (n := n) (mv := mv) (c := c) k M) : Mid (n := n) (mv := mv) (c := c) (k + 1) (low M k) where
  diag := fun p hp => by
    unfold low mn
    have h1 := i.diag p hp
    have h2 := i.nn p k hp hk
    have h3 := i.nn k p hk hp
    split <;> omega
  nn := fun p t hp ht => by
    unfold low mn
    have h1 := i.nn p t hp ht
    have h2 := i.nn p k hp hk
    have h3 := i.nn k t hk ht
    split <;> omega
  le := fun p t j e hne => by
    have := i.le p t j e hne
    have := mn_le_l (M p t) (M p k + M k t)
    unfold low
    omega
  tri := fun m hm p t hp ht => by
    have kk := i.diag k hk
    have a1 := i.nn p k hp hk
    have a2 := i.nn k t hk ht
    have hmn : m < n := by omega
    have b1 := i.nn m k hmn hk
    have b2 := i.nn k m hk hmn
    have l1 := mn_le_l (M p t) (M p k + M k t)
    have l2 := mn_le_r (M p t) (M p k + M k t)
    unfold low
    by_cases e : m = k
    · subst e
      have u1 : mn (M p m) (M p m + M m m) = M p m := by unfold mn; split <;> omega
      have u2 : mn (M m t) (M m m + M m t) = M m t := by unfold mn; split <;> omega
      rw [u1, u2]
      exact l2
    · have hm' : m < k := by omega
      have t1 := i.tri m hm' p t hp ht
      have t2 := i.tri m hm' p k hp hk
      have t3 := i.tri m hm' k t hk ht
      rcases mn_or (M p m) (M p k + M k m) with q1 | q1 <;> rcases mn_or (M m t) (M m k + M k t) with q2 | q2 <;> rw [q1, q2] <;> omega
  or := fun p t hp ht => by
    unfold low
    have e2 : (2 : Int) ^ (k + 1) = 2 * 2 ^ k := by rw [Int.pow_succ, Int.mul_comm]
    have pos : (0 : Int) < 2 ^ k := Int.pow_pos (by decide)
    rcases mn_or (M p t) (M p k + M k t) with q | q
    · rw [q]
      rcases i.or p t hp ht with z | ⟨z1, z2⟩
      · exact .inl z
      · exact .inr ⟨z1, by rw [e2]; omega⟩
    · have h1 := i.nn p k hp hk
      have h2 := i.nn k t hk ht
      have h3 := mn_le_l (M p t) (M p k + M k t)
      rw [q] at h3
      rcases i.or p k hp hk with z | ⟨z1, z2⟩
      · -- far: then the entry is far too, or the sum is not less
        rcases i.or p t hp ht with y | ⟨y1, y2⟩
        · exact .inl (by rw [q]; omega)
        · have e : M p k + M k t = M p t := by
            have : (2 : Int) ^ k ≤ 64 := p64 (by have := o.n6; omega)
            have : (9 : Int) * 2 ^ k ≤ 576 := by omega
            unfold far at z
            omega
          refine .inr ⟨?_, ?_⟩
          · rw [q, e]; exact y1
          · rw [q, e, e2]; omega
      · rcases i.or k t hk ht with w | ⟨w1, w2⟩
        · rcases i.or p t hp ht with y | ⟨y1, y2⟩
          · exact .inl (by rw [q]; omega)
          · have e : M p k + M k t = M p t := by
              have : (2 : Int) ^ k ≤ 64 := p64 (by have := o.n6; omega)
              have : (9 : Int) * 2 ^ k ≤ 576 := by omega
              unfold far at w
              omega
            refine .inr ⟨?_, ?_⟩
            · rw [q, e]; exact y1
            · rw [q, e, e2]; omega
        · refine .inr ⟨?_, ?_⟩
          · rw [q]; exact z1.append w1
          · rw [q, e2]; omega
theorem mid_lows (o : MOk n mv c) {M : Nat → Nat → Int} (i : Ini n mv c M) : ∀ k, k ≤ n → Mid (n := n) (mv := mv) (c := c) k (lows k M)
  | 0, _ => Mid.begin o i
  | k + 1, h => Mid.step o (by omega) (mid_lows o i k (by omega))
/-- the matrix of cheapest ways -/
structure Ways (M : Nat → Nat → Int) : Prop where
  ok : MOk n mv c
  mid : Mid (n := n) (mv := mv) (c := c) n M
theorem ways_of (o : MOk n mv c) {M : Nat → Nat → Int} (i : Ini n mv c M) : Ways (n := n) (mv := mv) (c := c) (lows n M) := ⟨o, mid_lows o i n (Nat.le_refl _)⟩
variable {M : Nat → Nat → Int}
theorem pow6 (o : MOk n mv c) : (9 : Int) * 2 ^ n ≤ 576 := by
  have : (2 : Int) ^ n ≤ 64 := p64 o.n6
  omega
theorem Ways.small (w : Ways (n := n) (mv := mv) (c := c) M) {p t : Nat} (hp : p < n) (ht : t < n) (h : M p t < far) : Pth n mv c p t (M p t) ∧ M p t ≤ 576 := by
  rcases w.mid.or p t hp ht with q | ⟨q1, q2⟩
  · omega
  · exact ⟨q1, Int.le_trans q2 (pow6 w.ok)⟩
theorem Ways.edge (w : Ways (n := n) (mv := mv) (c := c) M) {p s t : Nat} {k : Int} (hp : p < n) (e : Ed n mv c s t k) : M p t ≤ M p s + k := by
  have hs := e.1
  have ht := e.lt w.ok
  have z := e.cost w.ok
  by_cases q : s = t
  · subst q; omega
  · have h1 := w.mid.le s t k e q
    have h2 := w.mid.tri s hs p t hp ht
    omega
theorem Ways.path (w : Ways (n := n) (mv := mv) (c := c) M) {p t : Nat} {v : Int} (hp : p < n) (h : Pth n mv c p t v) : M p t < far ∧ M p t ≤ v := by
  induction h with
  | nil => rw [w.mid.diag p hp]; exact ⟨by decide, Int.le_refl _⟩
  | @snoc s t v k g e ih =>
    have h1 := w.edge hp e
    have h2 := (w.small hp e.1 ih.1).2
    have z := e.cost w.ok
    unfold far
    exact ⟨by omega, by omega⟩
theorem Ways.pred (w : Ways (n := n) (mv := mv) (c := c) M) {p t : Nat} (hp : p < n) (ht : t < n) (hne : p ≠ t) (h : M p t < far) : ∃ s k, Ed n mv c s t k ∧ M p s < far ∧ M p t = M p s + k := by
  have h1 := (w.small hp ht h).1
  generalize hv : M p t = v at h1
  cases h1 with
  | nil => exact absurd rfl hne
  | @snoc s _ v k g e =>
    obtain ⟨a1, a2⟩ := w.path hp g
    have a3 := w.edge hp e
    exact ⟨s, k, e, a1, by omega⟩
/-- how many states are nearer -/
def rk (n : Nat) (M : Nat → Nat → Int) (p t : Nat) : Nat := (List.range n).countP fun s => decide (M p s < M p t)
theorem countP_lt {α : Type} {f g : α → Bool} {l : List α} (h : ∀ x ∈ l, f x = true → g x = true) {a : α} (ha : a ∈ l) (hf : f a = false) (hg : g a = true) : l.countP f < l.countP g := by
  induction l with
  | nil => simp at ha
  | cons b r ih =>
    have hb := h b List.mem_cons_self
    have hr : ∀ x ∈ r, f x = true → g x = true := fun x hx => h x (List.mem_cons_of_mem _ hx)
    have hle : r.countP f ≤ r.countP g := List.countP_mono_left hr
    rw [List.countP_cons, List.countP_cons]
    rcases List.mem_cons.mp ha with e | e
    · subst e
      rw [hf, hg]
      simp
      omega
    · have := ih hr e
      cases hfb : f b with
      | true => rw [hb hfb]; simp; omega
      | false => cases g b <;> simp <;> omega
theorem rk_lt {p s t : Nat} (hs : s < n) (h : M p s < M p t) : rk n M p s < rk n M p t := by
  unfold rk
  refine countP_lt (a := s) (fun x _ hx => ?_) (List.mem_range.mpr hs) (by simp) (by simpa using h)
  have hx : M p x < M p s := by simpa using hx
  simp
  omega
theorem rk_top {p t : Nat} (ht : t < n) : rk n M p t < n := by
  unfold rk
  have h : (List.range n).countP (fun s => decide (M p s < M p t)) < (List.range n).countP (fun _ => true) := countP_lt (a := t) (fun _ _ _ => rfl) (List.mem_range.mpr ht) (by simp) rfl
  rwa [List.countP_true, List.length_range] at h
theorem Ways.low9 (w : Ways (n := n) (mv := mv) (c := c) M) {p : Nat} (hp : p < n) : ∀ (r t : Nat), t < n → M p t < far → rk n M p t ≤ r → M p t ≤ 9 * (r : Int)
  | r, t, ht, h, hr => by
    by_cases e : p = t
    · subst e; rw [w.mid.diag p hp]; omega
    · obtain ⟨s, k, he, h1, h2⟩ := w.pred hp ht e h
      have z := he.cost w.ok
      have hlt := rk_lt (M := M) (p := p) he.1 (show M p s < M p t by omega)
      match r, hr with
      | 0, hr => omega
      | r + 1, hr =>
        have := Ways.low9 w hp r s he.1 h1 (by omega)
        omega
theorem Ways.le45 (w : Ways (n := n) (mv := mv) (c := c) M) {p t : Nat} (hp : p < n) (ht : t < n) (h : M p t < far) : M p t ≤ 45 := by
  have h1 := rk_top (M := M) (p := p) ht
  have h2 := w.low9 hp (n - 1) t ht h (by omega)
  have := w.ok.n6
  omega

/-! ### by turns -/
abbrev Fd := Nat → Nat → Option Int
/-- all that was found is a way -/
def Snd (n : Nat) (mv : Nat → List (σ × Nat)) (c : σ → Int) (f : Fd) : Prop := ∀ p t v, f p t = some v → p < n ∧ Pth n mv c p t v
/-- what a turn does -/
structure Turn (f f' : Fd) : Prop where
  mono : ∀ p t v, f p t = some v → ∃ u, f' p t = some u ∧ u ≤ v
  relaxed : ∀ p s t v k, f p s = some v → Ed n mv c s t k → ∃ u, f' p t = some u ∧ u ≤ v + k
  snd : Snd n mv c f'
def Settled (n : Nat) (M : Nat → Nat → Int) (k : Nat) (f : Fd) : Prop := ∀ p t, p < n → t < n → M p t < far → rk n M p t ≤ k → f p t = some (M p t)
theorem settled_begin (w : Ways (n := n) (mv := mv) (c := c) M) {f : Fd} (h : ∀ p, p < n → f p p = some 0) : Settled n M 0 f := by
  intro p t hp ht h1 h2
  by_cases e : p = t
  · subst e; rw [h p hp, w.mid.diag p hp]
  · obtain ⟨s, k, he, a1, a2⟩ := w.pred hp ht e h1
    have z := he.cost w.ok
    have := rk_lt (M := M) (p := p) he.1 (show M p s < M p t by omega)
    omega
theorem settled_turn (w : Ways (n := n) (mv := mv) (c := c) M) {f f' : Fd} {k : Nat} (h : Settled n M k f) (tn : Turn (n := n) (mv := mv) (c := c) f f') : Settled n M (k + 1) f' := by
  intro p t hp ht h1 h2
  have up : ∀ u, f' p t = some u → M p t ≤ u := fun u hu => (w.path hp (tn.snd p t u hu).2).2
  by_cases e : p = t
  · subst e
    have h0 := h p p hp hp h1 (by
      have : rk n M p p = 0 := by
        unfold rk
        rw [List.countP_eq_zero]
        intro x hx
        have := w.mid.nn p x hp (List.mem_range.mp hx)
        have := w.mid.diag p hp
        simp
        omega
      omega)
    obtain ⟨u, hu, hl⟩ := tn.mono p p _ h0
    have := up u hu
    rw [hu]
    exact congrArg some (by omega)
  · obtain ⟨s, j, he, a1, a2⟩ := w.pred hp ht e h1
    have z := he.cost w.ok
    have hlt := rk_lt (M := M) (p := p) he.1 (show M p s < M p t by omega)
    have h0 := h p s hp he.1 a1 (by omega)
    obtain ⟨u, hu, hl⟩ := tn.relaxed p s t _ j h0 he
    have := up u hu
    rw [hu]
    exact congrArg some (by omega)
/-- behind as many turns as there are states all is found -/
theorem settled_all (w : Ways (n := n) (mv := mv) (c := c) M) {f : Fd} (h : Settled n M n f) (s : Snd n mv c f) (p t : Nat) (ht : t < n) : f p t = if p < n ∧ M p t < far then some (M p t) else none := by
  by_cases q : p < n ∧ M p t < far
  · rw [if_pos q]
    exact h p t q.1 ht q.2 (Nat.le_of_lt (rk_top ht))
  · rw [if_neg q]
    cases e : f p t with
    | none => rfl
    | some v =>
      obtain ⟨h1, h2⟩ := s p t v e
      exact absurd ⟨h1, (w.path h1 h2).1⟩ q
end ways
end K7
end

section
set_option linter.all false
/-! A row behind a row and a sign, as the least of all ways. Plain mathematics. -/
namespace K7
def MinOf (S : Int → Prop) (m : Int) : Prop := S m ∧ ∀ x, S x → m ≤ x
theorem MinOf.uniq {S : Int → Prop} {a b : Int} (h : MinOf S a) (g : MinOf S b) : a = b := by
  have := h.2 b g.1
  have := g.2 a h.1
  omega
theorem MinOf.congr {S S' : Int → Prop} {a : Int} (h : MinOf S a) (e : ∀ x, S x ↔ S' x) : MinOf S' a := ⟨(e a).mp h.1, fun x hx => h.2 x ((e x).mpr hx)⟩
section rows
variable {σ : Type} {n : Nat} {mv : Nat → List (σ × Nat)} {c sw : σ → Int} {out : Int} {M : Nat → Nat → Int} {r s r' s' f : Nat → Int}
/-- the sign goes, or is changed into the sign of a move -/
def E1 (mv : Nat → List (σ × Nat)) (sw : σ → Int) (out : Int) (p q : Nat) (e : Int) : Prop := (p = q ∧ e = out) ∨ ∃ x ∈ mv p, x.2 = q ∧ e = sw x.1
/-- the row behind it -/
def Beh (n : Nat) (mv : Nat → List (σ × Nat)) (sw : σ → Int) (out : Int) (M : Nat → Nat → Int) (r r' : Nat → Int) : Prop :=
  ∀ t, t < n → MinOf (fun x => ∃ p q e, p < n ∧ q < n ∧ E1 mv sw out p q e ∧ M q t < far ∧ x = r p + e + M q t) (r' t)
/-- before signs are put in -/
def First (n : Nat) (mv : Nat → List (σ × Nat)) (sw : σ → Int) (out : Int) (r f : Nat → Int) : Prop :=
  ∀ q, q < n → MinOf (fun x => ∃ p e, p < n ∧ E1 mv sw out p q e ∧ x = r p + e) (f q)
theorem beh_least (h : First n mv sw out r f) (g : ∀ t, t < n → MinOf (fun x => ∃ q, q < n ∧ M q t < far ∧ x = f q + M q t) (r' t)) : Beh n mv sw out M r r' := by
  intro t ht
  obtain ⟨⟨q, hq, hm, e⟩, least⟩ := g t ht
  obtain ⟨⟨p, k, hp, h1, h2⟩, _⟩ := h q hq
  refine ⟨⟨p, q, k, hp, hq, h1, hm, by omega⟩, ?_⟩
  rintro x ⟨p', q', e', hp', hq', h1', hm', rfl⟩
  have := (h q' hq').2 _ ⟨p', e', hp', h1', rfl⟩
  have := least _ ⟨q', hq', hm', rfl⟩
  omega
theorem beh_fill (w : Ways (n := n) (mv := mv) (c := c) M) (h : First n mv sw out r f) (hb : ∀ q, q < n → 0 ≤ f q ∧ f q < 1000000) (g : ∀ t, t < n → MinOf (fun x => ∃ q, q < n ∧ x = f q + M q t) (r' t)) : Beh n mv sw out M r r' := by
  refine beh_least h fun t ht => ?_
  obtain ⟨⟨q, hq, e⟩, least⟩ := g t ht
  have h0 := least _ ⟨t, ht, rfl⟩
  rw [w.mid.diag t ht] at h0
  have b1 := hb t ht
  have b2 := hb q hq
  refine ⟨⟨q, hq, by unfold far; omega, e⟩, ?_⟩
  rintro x ⟨q', hq', _, rfl⟩
  exact least _ ⟨q', hq', rfl⟩
theorem Beh.uniq (h : Beh n mv sw out M r r') (g : Beh n mv sw out M r s') (t : Nat) (ht : t < n) : r' t = s' t := (h t ht).uniq (g t ht)
theorem Beh.le (w : Ways (n := n) (mv := mv) (c := c) M) (h : Beh n mv sw out M r r') {t : Nat} (ht : t < n) : r' t ≤ r t + out := by
  have z := w.mid.diag t ht
  have := (h t ht).2 (r t + out + M t t) ⟨t, t, out, ht, ht, .inl ⟨rfl, rfl⟩, by rw [z]; decide, rfl⟩
  omega
theorem E1.nn (ho : 0 ≤ out) (hs : ∀ p, p < n → ∀ x ∈ mv p, 0 ≤ sw x.1) {p q : Nat} {e : Int} (hp : p < n) (h : E1 mv sw out p q e) : 0 ≤ e := by
  rcases h with ⟨_, rfl⟩ | ⟨x, hx, _, rfl⟩
  · exact ho
  · exact hs p hp x hx
theorem Beh.nn (w : Ways (n := n) (mv := mv) (c := c) M) (ho : 0 ≤ out) (hs : ∀ p, p < n → ∀ x ∈ mv p, 0 ≤ sw x.1) (hr : ∀ p, p < n → 0 ≤ r p) (h : Beh n mv sw out M r r') {t : Nat} (ht : t < n) : 0 ≤ r' t := by
  obtain ⟨⟨p, q, e, hp, hq, h1, _, h2⟩, _⟩ := h t ht
  have := E1.nn ho hs hp h1
  have := hr p hp
  have := w.mid.nn q t hq ht
  omega
theorem Beh.mono (hrs : ∀ p, p < n → r p ≤ s p) (h : Beh n mv sw out M r r') (g : Beh n mv sw out M s s') {t : Nat} (ht : t < n) : r' t ≤ s' t := by
  obtain ⟨⟨p, q, e, hp, hq, h1, hm, h2⟩, _⟩ := g t ht
  have := (h t ht).2 _ ⟨p, q, e, hp, hq, h1, hm, rfl⟩
  have := hrs p hp
  omega
theorem mn_min (x y : Int) : mn x y = min x y := by unfold mn; split <;> omega
theorem Beh.cut (w : Ways (n := n) (mv := mv) (c := c) M) (ho : 0 ≤ out) (hs : ∀ p, p < n → ∀ x ∈ mv p, 0 ≤ sw x.1) {L : Int} (hc : ∀ p, p < n → s p = mn (r p) L) (h : Beh n mv sw out M r r') (g : Beh n mv sw out M s s') {t : Nat} (ht : t < n) :
    mn (s' t) L = mn (r' t) L := by
  obtain ⟨⟨p, q, e, hp, hq, h1, hm, h2⟩, l2⟩ := g t ht
  obtain ⟨⟨p', q', e', hp', hq', h1', hm', h2'⟩, l2'⟩ := h t ht
  have a1 := l2' _ ⟨p, q, e, hp, hq, h1, hm, rfl⟩
  have a2 := l2 _ ⟨p', q', e', hp', hq', h1', hm', rfl⟩
  have b1 := E1.nn ho hs hp h1
  have b2 := E1.nn ho hs hp' h1'
  have d1 := w.mid.nn q t hq ht
  have d2 := w.mid.nn q' t hq' ht
  have c1 := hc p hp
  have c2 := hc p' hp'
  unfold mn at c1 c2 ⊢
  split at c1 <;> split at c2 <;> split <;> split <;> omega
/-- a row that is told by the numbers of one that is the same -/
theorem Beh.congr {r1 r1' : Nat → Int} (h : Beh n mv sw out M r r') (e : ∀ p, p < n → r p = r1 p) (e' : ∀ p, p < n → r' p = r1' p) : Beh n mv sw out M r1 r1' := by
  intro t ht
  rw [← e' t ht]
  refine (h t ht).congr fun x => ⟨?_, ?_⟩
  · rintro ⟨p, q, k, hp, hq, h1, hm, rfl⟩
    exact ⟨p, q, k, hp, hq, h1, hm, by rw [e p hp]⟩
  · rintro ⟨p, q, k, hp, hq, h1, hm, rfl⟩
    exact ⟨p, q, k, hp, hq, h1, hm, by rw [e p hp]⟩
end rows
end K7
end

section
set_option linter.all false
/-! A drawn machine made useful, and what the program asks of it. Plain mathematics. -/
namespace K7
section trim
variable {σ : Type}
abbrev Mach (σ : Type) := List (List (σ × Nat) × Bool)
def succs (st : Mach σ) (s : Nat) : List Nat := ((st[s]?.map (·.1)).getD []).map (·.2)
def lastOf (st : Mach σ) (s : Nat) : Bool := (st[s]?.map (·.2)).getD false
def addNew (f : List Nat) (t : Nat) : List Nat := if t ∈ f then f else f ++ [t]
def addAll (f ts : List Nat) : List Nat := ts.foldl addNew f
def turnF (st : Mach σ) (f : List Nat) : List Nat := f.foldl (fun acc s => addAll acc (succs st s)) f
def turnsF (st : Mach σ) : Nat → List Nat → List Nat
  | 0, f => f
  | k + 1, f => turnsF st k (turnF st f)
def goodT (st : Mach σ) (found good : List Nat) : List Nat := found.filter fun s => decide (s ∈ good) || (succs st s).any fun t => decide (t ∈ good)
def turnsG (st : Mach σ) (found : List Nat) : Nat → List Nat → List Nat
  | 0, g => g
  | k + 1, g => turnsG st found k (goodT st found g)
inductive Rch (st : Mach σ) (a : Nat) : Nat → Prop where
  | nil : Rch st a a
  | snoc {s t : Nat} : Rch st a s → t ∈ succs st s → Rch st a t
theorem Rch.cons {st : Mach σ} {a b t : Nat} (h : b ∈ succs st a) (g : Rch st b t) : Rch st a t := by
  induction g with
  | nil => exact .snoc .nil h
  | snoc _ e ih => exact .snoc ih e
theorem addNew_sub {f : List Nat} {t x : Nat} : x ∈ addNew f t ↔ x ∈ f ∨ x = t := by
  unfold addNew
  split
  · rename_i h
    constructor
    · exact .inl
    · rintro (q | rfl)
      · exact q
      · exact h
  · simp
theorem addNew_nd {f : List Nat} {t : Nat} (h : f.Nodup) : (addNew f t).Nodup := by
  unfold addNew
  split
  · exact h
  · rename_i q
    rw [List.nodup_append]
    exact ⟨h, by simp, by intro a ha b hb; simp at hb; subst hb; rintro rfl; exact q ha⟩
theorem addAll_mem : ∀ {ts f : List Nat} {x : Nat}, x ∈ addAll f ts ↔ x ∈ f ∨ x ∈ ts
  | [], f, x => by simp [addAll]
  | t :: r, f, x => by
    have e : addAll f (t :: r) = addAll (addNew f t) r := rfl
    rw [e, addAll_mem, addNew_sub, List.mem_cons, or_assoc]
theorem addAll_nd : ∀ {ts f : List Nat}, f.Nodup → (addAll f ts).Nodup
  | [], f, h => h
  | t :: r, f, h => addAll_nd (ts := r) (addNew_nd h)
theorem addAll_pre : ∀ {ts f : List Nat}, ∃ m, addAll f ts = f ++ m
  | [], f => ⟨[], by simp [addAll]⟩
  | t :: r, f => by
    obtain ⟨m, e⟩ := addAll_pre (ts := r) (f := addNew f t)
    have e2 : addAll f (t :: r) = addAll (addNew f t) r := rfl
    rw [e2, e]
    unfold addNew
    split
    · exact ⟨m, rfl⟩
    · exact ⟨[t] ++ m, by simp⟩
theorem fold_mem {st : Mach σ} : ∀ {ss f : List Nat} {x : Nat}, x ∈ ss.foldl (fun acc s => addAll acc (succs st s)) f ↔ x ∈ f ∨ ∃ s ∈ ss, x ∈ succs st s
  | [], f, x => by simp
  | s :: r, f, x => by
    rw [List.foldl_cons, fold_mem, addAll_mem]
    simp only [List.mem_cons, exists_eq_or_imp, or_assoc]
theorem fold_nd {st : Mach σ} : ∀ {ss f : List Nat}, f.Nodup → (ss.foldl (fun acc s => addAll acc (succs st s)) f).Nodup
  | [], f, h => h
  | s :: r, f, h => by
    rw [List.foldl_cons]
    exact fold_nd (ss := r) (addAll_nd h)
theorem fold_pre {st : Mach σ} : ∀ {ss f : List Nat}, ∃ m, ss.foldl (fun acc s => addAll acc (succs st s)) f = f ++ m
  | [], f => ⟨[], by simp⟩
  | s :: r, f => by
    rw [List.foldl_cons]
    obtain ⟨m1, e1⟩ := addAll_pre (ts := succs st s) (f := f)
    obtain ⟨m2, e2⟩ := fold_pre (st := st) (ss := r) (f := addAll f (succs st s))
    exact ⟨m1 ++ m2, by rw [e2, e1, List.append_assoc]⟩
def Clo (st : Mach σ) (f : List Nat) : Prop := ∀ s ∈ f, ∀ t ∈ succs st s, t ∈ f
/-- lists of different numbers below n -/
theorem nd_len : ∀ {n : Nat} {l : List Nat}, l.Nodup → (∀ x ∈ l, x < n) → l.length ≤ n
  | 0, [], _, _ => Nat.le_refl _
  | 0, a :: _, _, h => absurd (h a List.mem_cons_self) (Nat.not_lt_zero _)
  | n + 1, l, hn, h => by
    have h1 : (l.filter (fun x => decide (x ≠ n))).length ≤ n := nd_len (hn.filter _) fun x hx => by
      obtain ⟨a, b⟩ := List.mem_filter.mp hx
      have := h x a
      have b : x ≠ n := by simpa using b
      omega
    have h2 : l.length ≤ (l.filter (fun x => decide (x ≠ n))).length + 1 := by
      clear h h1
      induction l with
      | nil => simp
      | cons a r ih =>
        obtain ⟨ha, hr⟩ := List.nodup_cons.mp hn
        by_cases e : a = n
        · subst e
          have : r.filter (fun x => decide (x ≠ a)) = r := List.filter_eq_self.mpr fun x hx => by
            simp
            rintro rfl
            exact ha hx
          rw [List.filter_cons_of_neg (by simp), this]
          simp
        · rw [List.filter_cons_of_pos (by simpa using e)]
          have := ih hr
          simpa using this
    omega
theorem turnF_facts {st : Mach σ} {f : List Nat} (hn : f.Nodup) : (turnF st f).Nodup ∧ (∃ m, turnF st f = f ++ m) ∧ (∀ x, x ∈ turnF st f ↔ x ∈ f ∨ ∃ s ∈ f, x ∈ succs st s) ∧ (Clo st f → turnF st f = f) ∧ (¬ Clo st f → f.length < (turnF st f).length) := by
  obtain ⟨m, e⟩ := fold_pre (st := st) (ss := f) (f := f)
  have hm : ∀ x, x ∈ turnF st f ↔ x ∈ f ∨ ∃ s ∈ f, x ∈ succs st s := fun x => fold_mem
  have hnd : (turnF st f).Nodup := fold_nd hn
  have e : turnF st f = f ++ m := e
  refine ⟨hnd, ⟨m, e⟩, hm, fun c => ?_, fun c => ?_⟩
  · cases m with
    | nil => rw [e]; simp
    | cons a r =>
      have ha : a ∈ turnF st f := by rw [e]; simp
      have : a ∈ f := by
        rcases (hm a).mp ha with q | ⟨s, hs, q⟩
        · exact q
        · exact c s hs a q
      rw [e, List.nodup_append] at hnd
      exact absurd rfl (hnd.2.2 a this a List.mem_cons_self)
  · cases m with
    | nil =>
      refine absurd (fun s hs t ht => ?_) c
      have : t ∈ turnF st f := (hm t).mpr (.inr ⟨s, hs, ht⟩)
      rw [e] at this
      simpa using this
    | cons a r => rw [e]; simp
def MTo (st : Mach σ) : Prop := ∀ s t, t ∈ succs st s → t < st.length
theorem turnsF_facts {st : Mach σ} (ht : MTo st) : ∀ (k : Nat) (f : List Nat), f.Nodup → (∀ x ∈ f, x < st.length) → (turnsF st k f).Nodup ∧ (∀ x ∈ turnsF st k f, x < st.length) ∧ (∃ m, turnsF st k f = f ++ m) ∧ (∀ x ∈ turnsF st k f, ∃ a ∈ f, Rch st a x) ∧ (Clo st (turnsF st k f) ∨ f.length + k ≤ (turnsF st k f).length)
  | 0, f, hn, hx => ⟨hn, hx, ⟨[], by simp [turnsF]⟩, fun x h => ⟨x, h, .nil⟩, .inr (Nat.le_refl _)⟩
  | k + 1, f, hn, hx => by
    obtain ⟨a1, ⟨m1, e1⟩, a3, a4, a5⟩ := turnF_facts (st := st) hn
    have hx1 : ∀ x ∈ turnF st f, x < st.length := fun x h => by
      rcases (a3 x).mp h with q | ⟨s, _, q⟩
      · exact hx x q
      · exact ht s x q
    obtain ⟨b1, b2, ⟨m2, e2⟩, b4, b5⟩ := turnsF_facts ht k (turnF st f) a1 hx1
    have e : turnsF st (k + 1) f = turnsF st k (turnF st f) := rfl
    rw [e]
    refine ⟨b1, b2, ⟨m1 ++ m2, by rw [e2, e1, List.append_assoc]⟩, fun x h => ?_, ?_⟩
    · obtain ⟨a, ha, r⟩ := b4 x h
      rcases (a3 a).mp ha with q | ⟨s, hs, q⟩
      · exact ⟨a, q, r⟩
      · exact ⟨s, hs, .cons q r⟩
    · rcases b5 with q | q
      · exact .inl q
      · by_cases c : Clo st f
        · left
          have e3 := a4 c
          rw [e3]
          have : ∀ j, turnsF st j f = f := fun j => by
            induction j with
            | zero => rfl
            | succ j ih => show turnsF st j (turnF st f) = f; rw [e3]; exact ih
          rw [this k]
          exact c
        · right
          have := a5 c
          omega
/-- all that can be met from 0 -/
theorem found_facts {st : Mach σ} (ht : MTo st) (h0 : 0 < st.length) : ∃ f m, turnsF st st.length [0] = f ∧ f = 0 :: m ∧ f.Nodup ∧ (∀ x ∈ f, x < st.length) ∧ Clo st f ∧ ∀ x ∈ f, Rch st 0 x := by
  obtain ⟨b1, b2, ⟨m, e⟩, b4, b5⟩ := turnsF_facts ht st.length [0] (by simp) (by simpa using h0)
  refine ⟨_, m, rfl, by simpa using e, b1, b2, ?_, fun x h => ?_⟩
  · rcases b5 with q | q
    · exact q
    · have := nd_len b1 b2
      simp at q
      omega
  · obtain ⟨a, ha, r⟩ := b4 x h
    simp at ha
    subst ha
    exact r
/-- those of found from which a last one can be met -/
def GClo (st : Mach σ) (found good : List Nat) : Prop := ∀ s ∈ found, ∀ t ∈ succs st s, t ∈ good → s ∈ good
inductive Ends (st : Mach σ) : Nat → Prop where
  | last {s : Nat} : lastOf st s = true → Ends st s
  | step {s t : Nat} : t ∈ succs st s → Ends st t → Ends st s
theorem goodT_facts {st : Mach σ} {found good : List Nat} (hf : found.Nodup) (hs : ∃ f : Nat → Bool, good = found.filter f) : (∀ x, x ∈ goodT st found good ↔ x ∈ found ∧ (x ∈ good ∨ ∃ t ∈ succs st x, t ∈ good)) ∧ (GClo st found good → goodT st found good = good) ∧ (¬ GClo st found good → good.length < (goodT st found good).length) ∧ ∃ f : Nat → Bool, goodT st found good = found.filter f := by
  obtain ⟨f, rfl⟩ := hs
  have hm : ∀ x, x ∈ goodT st found (found.filter f) ↔ x ∈ found ∧ (x ∈ found.filter f ∨ ∃ t ∈ succs st x, t ∈ found.filter f) := fun x => by
    unfold goodT
    rw [List.mem_filter]
    simp
  refine ⟨hm, fun c => ?_, fun c => ?_, ⟨_, rfl⟩⟩
  · unfold goodT
    refine List.filter_congr fun x hx => ?_
    by_cases q : f x = true
    · rw [q]
      simp [hx, q]
    · have q' : f x = false := by simpa using q
      rw [q']
      have h1 : ¬ x ∈ found.filter f := fun z => q (List.mem_filter.mp z).2
      simp only [Bool.or_eq_false_iff, decide_eq_false_iff_not, List.any_eq_false]
      refine ⟨h1, fun t ht => ?_⟩
      simp only [decide_eq_true_eq]
      exact fun z => h1 (c x hx t ht z)
  · have hsub : ∀ x ∈ found, f x = true → (decide (x ∈ found.filter f) || (succs st x).any fun t => decide (t ∈ found.filter f)) = true := fun x hx q => by
      simp [hx, q]
    have hex : ∃ x ∈ found, f x = false ∧ (decide (x ∈ found.filter f) || (succs st x).any fun t => decide (t ∈ found.filter f)) = true := by
      refine Classical.byContradiction fun z => c fun s hs t ht hg => Classical.byContradiction fun hn => z ⟨s, hs, ?_, ?_⟩
      · cases e : f s with
        | false => rfl
        | true => exact absurd (List.mem_filter.mpr ⟨hs, e⟩) hn
      · simp only [Bool.or_eq_true, List.any_eq_true, decide_eq_true_eq]
        exact .inr ⟨t, ht, hg⟩
    obtain ⟨x, hx, h1, h2⟩ := hex
    unfold goodT
    rw [← List.countP_eq_length_filter, ← List.countP_eq_length_filter]
    clear c hm
    generalize hg : (fun s => decide (s ∈ found.filter f) || (succs st s).any fun t => decide (t ∈ found.filter f)) = g at *
    have hsub' : ∀ y ∈ found, f y = true → g y = true := fun y hy q => by rw [← hg]; exact hsub y hy q
    have h2' : g x = true := by rw [← hg]; exact h2
    clear hsub h2 hg hf
    induction found with
    | nil => simp at hx
    | cons b r ih =>
      have hb := hsub' b List.mem_cons_self
      have hr : ∀ y ∈ r, f y = true → g y = true := fun y hy => hsub' y (List.mem_cons_of_mem _ hy)
      have hle : r.countP f ≤ r.countP g := List.countP_mono_left hr
      rw [List.countP_cons, List.countP_cons]
      rcases List.mem_cons.mp hx with e | e
      · subst e
        rw [h1, h2']
        simp
        omega
      · have := ih e hr
        cases hfb : f b with
        | true => rw [hb hfb]; simp; omega
        | false => cases g b <;> simp <;> omega
theorem turnsG_facts {st : Mach σ} {found : List Nat} (hf : found.Nodup) : ∀ (k : Nat) (good : List Nat), (∃ f : Nat → Bool, good = found.filter f) → (∀ x ∈ good, Ends st x) → (∀ x ∈ found, lastOf st x = true → x ∈ good) →
    (∃ f : Nat → Bool, turnsG st found k good = found.filter f) ∧ (∀ x ∈ turnsG st found k good, Ends st x) ∧ (∀ x ∈ found, lastOf st x = true → x ∈ turnsG st found k good) ∧ (GClo st found (turnsG st found k good) ∨ good.length + k ≤ (turnsG st found k good).length)
  | 0, good, h1, h2, h3 => ⟨h1, h2, h3, .inr (Nat.le_refl _)⟩
  | k + 1, good, h1, h2, h3 => by
    obtain ⟨a1, a2, a3, a4⟩ := goodT_facts (st := st) hf h1
    obtain ⟨b1, b2, b3, b4⟩ := turnsG_facts hf k (goodT st found good) a4 (fun x hx => by
      obtain ⟨_, q | ⟨t, ht, q⟩⟩ := (a1 x).mp hx
      · exact h2 x q
      · exact .step ht (h2 t q)) (fun x hx hl => (a1 x).mpr ⟨hx, .inl (h3 x hx hl)⟩)
    have e : turnsG st found (k + 1) good = turnsG st found k (goodT st found good) := rfl
    rw [e]
    refine ⟨b1, b2, b3, ?_⟩
    rcases b4 with q | q
    · exact .inl q
    · by_cases c : GClo st found good
      · left
        have e3 := a2 c
        rw [e3]
        have : ∀ j, turnsG st found j good = good := fun j => by
          induction j with
          | zero => rfl
          | succ j ih => show turnsG st found j (goodT st found good) = good; rw [e3]; exact ih
        rw [this k]
        exact c
      · right
        have := a3 c
        omega
def movesOf (st : Mach σ) (s : Nat) : List (σ × Nat) := (st[s]?.map (·.1)).getD []
def foundOf (st : Mach σ) : List Nat := turnsF st st.length [0]
def goodOf (st : Mach σ) : List Nat := turnsG st (foundOf st) st.length ((foundOf st).filter (lastOf st))
def trimRow (st : Mach σ) (good : List Nat) (s : Nat) : List (σ × Nat) := (movesOf st s).filterMap fun e => if e.2 ∈ good then some (e.1, good.idxOf e.2) else none
def trimmed (st : Mach σ) : Mach σ := if 0 ∈ goodOf st then (goodOf st).map fun s => (trimRow st (goodOf st) s, lastOf st s) else []
/-- what the program asks of a machine -/
structure Useful (R : Mach σ) : Prop where
  pos : 0 < R.length
  to : MTo R
  rch : ∀ s, s < R.length → Rch R 0 s
  ends : ∀ s, s < R.length → Ends R s
theorem succs_eq (st : Mach σ) (s : Nat) : succs st s = (movesOf st s).map (·.2) := rfl
theorem trimmed_useful {st : Mach σ} (ht : MTo st) (h0 : 0 < st.length) (hg : 0 ∈ goodOf st) : Useful (trimmed st) ∧ (trimmed st).length ≤ st.length := by
  obtain ⟨found, m, e1, e2, f1, f2, f3, f4⟩ := found_facts ht h0
  have e1 : foundOf st = found := e1
  obtain ⟨b1, b2, b3, b4⟩ := turnsG_facts (st := st) f1 st.length (found.filter (lastOf st)) ⟨_, rfl⟩ (fun x hx => .last (List.mem_filter.mp hx).2) (fun x hx hl => List.mem_filter.mpr ⟨hx, hl⟩)
  have hG : goodOf st = turnsG st found st.length (found.filter (lastOf st)) := by unfold goodOf; rw [e1]
  rw [← hG] at b1 b2 b3 b4
  generalize hGG : goodOf st = G at *
  obtain ⟨f, hf⟩ := b1
  have gnd : G.Nodup := by rw [hf]; exact f1.filter _
  have gin : ∀ x ∈ G, x ∈ found := fun x hx => by rw [hf] at hx; exact (List.mem_filter.mp hx).1
  have glt : ∀ x ∈ G, x < st.length := fun x hx => f2 x (gin x hx)
  have clo : GClo st found G := by
    rcases b4 with q | q
    · exact q
    · have l1 := nd_len gnd glt
      -- no room for a further turn: then none was last, but 0 is good
      have : (found.filter (lastOf st)).length = 0 := by omega
      have hz : found.filter (lastOf st) = [] := List.length_eq_zero_iff.mp this
      have none_last : ∀ x ∈ found, lastOf st x = false := fun x hx => by
        cases e : lastOf st x with
        | false => rfl
        | true =>
          have : x ∈ found.filter (lastOf st) := List.mem_filter.mpr ⟨hx, e⟩
          rw [hz] at this
          simp at this
      have no_end : ∀ x, Ends st x → x ∈ found → False := fun x hx => by
        induction hx with
        | last h => exact fun hm => by rw [none_last _ hm] at h; cases h
        | step ht' _ ih => exact fun hm => ih (f3 _ hm _ ht')
      exact (no_end 0 (b2 0 hg) (gin 0 hg)).elim
  have eg : ∀ x, Ends st x → x ∈ found → x ∈ G := fun x hx => by
    induction hx with
    | last h => exact fun hm => b3 _ hm h
    | step ht' _ ih => exact fun hm => clo _ hm _ ht' (ih (f3 _ hm _ ht'))
  have g0 : ∃ r, G = 0 :: r := by
    rw [hf, e2] at hg ⊢
    by_cases q : f 0 = true
    · exact ⟨m.filter f, by rw [List.filter_cons_of_pos q]⟩
    · rw [List.filter_cons_of_neg q] at hg
      have hm0 : (0 :: m).Nodup := by rw [← e2]; exact f1
      exact absurd (List.mem_filter.mp hg).1 (List.nodup_cons.mp hm0).1
  obtain ⟨r, hr⟩ := g0
  have ix0 : G.idxOf 0 = 0 := by rw [hr]; simp
  have hT : trimmed st = G.map fun s => (trimRow st G s, lastOf st s) := by
    unfold trimmed
    rw [hGG, if_pos hg]
  have hlen : (trimmed st).length = G.length := by rw [hT, List.length_map]
  have at_ : ∀ x ∈ G, (trimmed st)[G.idxOf x]? = some (trimRow st G x, lastOf st x) := fun x hx => by
    rw [hT, List.getElem?_map]
    have h1 : G.idxOf x < G.length := List.idxOf_lt_length_iff.mpr hx
    rw [List.getElem?_eq_getElem h1, List.getElem_idxOf h1]
    rfl
  have ge : ∀ i, i < G.length → ∃ x ∈ G, G.idxOf x = i := fun i hi => ⟨G[i], List.getElem_mem hi, gnd.idxOf_getElem i hi⟩
  have sx : ∀ x ∈ G, ∀ j, j ∈ succs (trimmed st) (G.idxOf x) ↔ ∃ t ∈ succs st x, t ∈ G ∧ G.idxOf t = j := fun x hx j => by
    rw [succs_eq, movesOf, at_ x hx]
    simp only [Option.map_some, Option.getD_some]
    rw [succs_eq]
    unfold trimRow
    simp only [List.mem_map, List.mem_filterMap]
    constructor
    · rintro ⟨a, ⟨b, hb, hba⟩, rfl⟩
      split at hba
      · rename_i q
        injection hba with hba
        subst hba
        exact ⟨b.2, ⟨b, hb, rfl⟩, q, rfl⟩
      · cases hba
    · rintro ⟨t, ⟨b, hb, rfl⟩, hG', rfl⟩
      exact ⟨(b.1, G.idxOf b.2), ⟨b, hb, by rw [if_pos hG']⟩, rfl⟩
  have lx : ∀ x ∈ G, lastOf (trimmed st) (G.idxOf x) = lastOf st x := fun x hx => by
    unfold lastOf
    rw [at_ x hx]
    rfl
  have hto : MTo (trimmed st) := fun s t hs => by
    rw [hlen]
    by_cases q : s < G.length
    · obtain ⟨x, hx, rfl⟩ := ge s q
      obtain ⟨y, _, hy, rfl⟩ := (sx x hx t).mp hs
      exact List.idxOf_lt_length_iff.mpr hy
    · have : (trimmed st)[s]? = none := List.getElem?_eq_none (by rw [hlen]; omega)
      rw [succs_eq, movesOf, this] at hs
      simp at hs
  have hrch : ∀ x, Rch st 0 x → x ∈ G → Rch (trimmed st) 0 (G.idxOf x) := fun x hx => by
    induction hx with
    | nil => exact fun _ => by rw [ix0]; exact .nil
    | @snoc s t g e ih =>
      intro hm
      have hsf : ∀ y, Rch st 0 y → y ∈ found := fun y hy => by
        induction hy with
        | nil => rw [e2]; exact List.mem_cons_self
        | snoc _ e' ih' => exact f3 _ ih' _ e'
      have hs : s ∈ G := clo s (hsf s g) t e hm
      exact .snoc (ih hs) ((sx s hs _).mpr ⟨t, e, hm, rfl⟩)
  have hends : ∀ x, Ends st x → x ∈ G → Ends (trimmed st) (G.idxOf x) := fun x hx => by
    induction hx with
    | last h => exact fun hm => .last (by rw [lx _ hm]; exact h)
    | @step s t e g ih =>
      intro hm
      have hs : t ∈ G := eg t g (f3 s (gin s hm) t e)
      exact .step ((sx s hm _).mpr ⟨t, e, hs, rfl⟩) (ih hs)
  refine ⟨⟨by rw [hlen, hr]; simp, hto, fun s hs => ?_, fun s hs => ?_⟩, by rw [hlen]; exact nd_len gnd glt⟩
  · rw [hlen] at hs
    obtain ⟨x, hx, rfl⟩ := ge s hs
    exact hrch x (f4 x (gin x hx)) hx
  · rw [hlen] at hs
    obtain ⟨x, hx, rfl⟩ := ge s hs
    exact hends x (b2 x hx) hx
/-- the signs of a row's moves are among those of the row it comes of, in their sequence -/
theorem trimRow_sub (st : Mach σ) (G : List Nat) (s : Nat) : ((trimRow st G s).map (·.1)).Sublist ((movesOf st s).map (·.1)) := by
  unfold trimRow
  induction movesOf st s with
  | nil => simp
  | cons a r ih =>
    rw [List.filterMap_cons]
    split
    · exact ih.trans (List.sublist_cons_self _ _)
    · rename_i b hb
      split at hb
      · injection hb with hb
        subst hb
        exact ih.cons_cons _
      · cases hb
theorem sub_len : ∀ {l k : List Nat}, l.Nodup → (∀ x ∈ l, x ∈ k) → l.length ≤ k.length
  | [], _, _, _ => Nat.zero_le _
  | a :: r, k, hn, h => by
    obtain ⟨h1, h2⟩ := List.nodup_cons.mp hn
    have ha := h a List.mem_cons_self
    have := sub_len (l := r) (k := k.erase a) h2 fun x hx => (List.mem_erase_of_ne (by rintro rfl; exact h1 hx)).mpr (h x (List.mem_cons_of_mem _ hx))
    rw [List.length_erase_of_mem ha] at this
    have := List.length_pos_of_mem ha
    simp
    omega
/-- the met ones are all -/
theorem met_all {R : Mach σ} (u : Useful R) {met : List Nat} (hn : met.Nodup) (hlt : ∀ x ∈ met, x < R.length) (h0 : 0 ∈ met) (hc : Clo R met) : met.length = R.length := by
  have hm : ∀ s, Rch R 0 s → s ∈ met := fun s hs => by
    induction hs with
    | nil => exact h0
    | snoc _ e ih => exact hc _ ih _ e
  have h1 := nd_len hn hlt
  have h2 := sub_len (l := List.range R.length) (k := met) List.nodup_range fun x hx => hm x (u.rch x (List.mem_range.mp hx))
  rw [List.length_range] at h2
  omega
/-- marks that no turn raises are all set -/
theorem useful_all {R : Mach σ} (u : Useful R) {F : Nat → Bool} (hl : ∀ s, s < R.length → lastOf R s = true → F s = true) (hc : ∀ s, s < R.length → ∀ t ∈ succs R s, F t = true → F s = true) : ∀ s, s < R.length → F s = true := fun s hs => by
  have h := u.ends s hs
  induction h with
  | last e => exact hl _ hs e
  | step e _ ih => exact hc _ hs _ e (ih (u.to _ _ e))
end trim
end K7
end

section
set_option Elab.async false
set_option linter.all false
set_option maxRecDepth 100000
/-! The texts by their places, the names by slot. -/
namespace K7
open PySem PySem.Spec PyProof.Rows L2
def top (i : Nat) : Stmt := PySem.Challenge.pw_mendwide_k07_whole_rows_behind_any_row.main.body.getD i (.Pass ⟨0, 0, 0, 0⟩)
abbrev s_is_integer : Stmt := top 14
abbrev n_is_integer : List Str := ["value"]
theorem sc_is_integer : FnScope n_is_integer ["value"] (defScope s_is_integer) := ⟨rfl, rfl, rfl, by decide +kernel, rfl, by decide +kernel, by decide +kernel⟩
abbrev s_is_sign : Stmt := top 15
abbrev n_is_sign : List Str := ["value"]
theorem sc_is_sign : FnScope n_is_sign ["value"] (defScope s_is_sign) := ⟨rfl, rfl, rfl, by decide +kernel, rfl, by decide +kernel, by decide +kernel⟩
abbrev s_is_word : Stmt := top 16
abbrev n_is_word : List Str := ["value", "sign"]
theorem sc_is_word : FnScope n_is_word ["value"] (defScope s_is_word) := ⟨rfl, rfl, rfl, by decide +kernel, rfl, by decide +kernel, by decide +kernel⟩
abbrev s_require_word : Stmt := top 17
abbrev n_require_word : List Str := ["value"]
theorem sc_require_word : FnScope n_require_word ["value"] (defScope s_require_word) := ⟨rfl, rfl, rfl, by decide +kernel, rfl, by decide +kernel, by decide +kernel⟩
abbrev s_require_number : Stmt := top 18
abbrev n_require_number : List Str := ["value", "low", "high"]
theorem sc_require_number : FnScope n_require_number ["value", "low", "high"] (defScope s_require_number) := ⟨rfl, rfl, rfl, by decide +kernel, rfl, by decide +kernel, by decide +kernel⟩
abbrev s_is_price : Stmt := top 22
abbrev n_is_price : List Str := ["value", "most"]
theorem sc_is_price : FnScope n_is_price ["value", "most"] (defScope s_is_price) := ⟨rfl, rfl, rfl, by decide +kernel, rfl, by decide +kernel, by decide +kernel⟩
abbrev s_is_pair : Stmt := top 23
abbrev n_is_pair : List Str := ["value", "signs", "sign"]
theorem sc_is_pair : FnScope n_is_pair ["value", "signs"] (defScope s_is_pair) := ⟨rfl, rfl, rfl, by decide +kernel, rfl, by decide +kernel, by decide +kernel⟩
abbrev s_are_prices : Stmt := top 24
abbrev n_are_prices : List Str := ["put", "out", "swap", "table", "sign", "price", "pair"]
theorem sc_are_prices : FnScope n_are_prices ["put", "out", "swap"] (defScope s_are_prices) := ⟨rfl, rfl, rfl, by decide +kernel, rfl, by decide +kernel, by decide +kernel⟩
abbrev s_Closed_init : Stmt := inClass (top 25) 1
abbrev n_Closed_init : List Str := ["self", "table", "signs", "sign", "one", "other"]
theorem sc_Closed_init : FnScope n_Closed_init ["self", "table", "signs"] (defScope s_Closed_init) := ⟨rfl, rfl, rfl, by decide +kernel, rfl, by decide +kernel, by decide +kernel⟩
abbrev s_closed_of : Stmt := top 26
abbrev n_closed_of : List Str := ["prices", "signs", "table", "sign", "nodes", "middle", "one", "other", "price", "pair"]
theorem sc_closed_of : FnScope n_closed_of ["prices"] (defScope s_closed_of) := ⟨rfl, rfl, rfl, by decide +kernel, rfl, by decide +kernel, by decide +kernel⟩
abbrev s_Prices_init : Stmt := inClass (top 27) 1
abbrev n_Prices_init : List Str := ["self", "put", "out", "swap", "sign", "pair"]
theorem sc_Prices_init : FnScope n_Prices_init ["self", "put", "out", "swap"] (defScope s_Prices_init) := ⟨rfl, rfl, rfl, by decide +kernel, rfl, by decide +kernel, by decide +kernel⟩
abbrev s_Prices_closed : Stmt := inClass (top 27) 8
abbrev n_Prices_closed : List Str := ["self", "found"]
theorem sc_Prices_closed : FnScope n_Prices_closed ["self"] (defScope s_Prices_closed) := ⟨rfl, rfl, rfl, by decide +kernel, rfl, by decide +kernel, by decide +kernel⟩
abbrev s_Prices_contains : Stmt := inClass (top 27) 14
abbrev n_Prices_contains : List Str := ["self", "value"]
theorem sc_Prices_contains : FnScope n_Prices_contains ["self", "value"] (defScope s_Prices_contains) := ⟨rfl, rfl, rfl, by decide +kernel, rfl, by decide +kernel, by decide +kernel⟩
abbrev s_require_prices : Stmt := top 28
abbrev n_require_prices : List Str := ["value"]
theorem sc_require_prices : FnScope n_require_prices ["value"] (defScope s_require_prices) := ⟨rfl, rfl, rfl, by decide +kernel, rfl, by decide +kernel, by decide +kernel⟩
abbrev s_useful_states : Stmt := top 31
abbrev n_useful_states : List Str := ["moves", "lasts", "found", "many", "last", "row", "to"]
theorem sc_useful_states : FnScope n_useful_states ["moves", "lasts"] (defScope s_useful_states) := ⟨rfl, rfl, rfl, by decide +kernel, rfl, by decide +kernel, by decide +kernel⟩
abbrev s_are_useful : Stmt := top 32
abbrev n_are_useful : List Str := ["moves", "lasts", "met", "more", "state", "to"]
theorem sc_are_useful : FnScope n_are_useful ["moves", "lasts"] (defScope s_are_useful) := ⟨rfl, rfl, rfl, by decide +kernel, rfl, by decide +kernel, by decide +kernel⟩
abbrev s_is_state : Stmt := top 48
abbrev n_is_state : List Str := ["value", "many", "moves", "last", "sign", "to"]
theorem sc_is_state : FnScope n_is_state ["value", "many"] (defScope s_is_state) := ⟨rfl, rfl, rfl, by decide +kernel, rfl, by decide +kernel, by decide +kernel⟩
abbrev s_are_states : Stmt := top 49
abbrev n_are_states : List Str := ["value", "pair", "moves", "last"]
theorem sc_are_states : FnScope n_are_states ["value"] (defScope s_are_states) := ⟨rfl, rfl, rfl, by decide +kernel, rfl, by decide +kernel, by decide +kernel⟩
abbrev s_in_order : Stmt := top 50
abbrev n_in_order : List Str := ["moves", "sign"]
theorem sc_in_order : FnScope n_in_order ["moves"] (defScope s_in_order) := ⟨rfl, rfl, rfl, by decide +kernel, rfl, by decide +kernel, by decide +kernel⟩
abbrev s_Form_init : Stmt := inClass (top 51) 1
abbrev n_Form_init : List Str := ["self", "states", "moves", "last"]
theorem sc_Form_init : FnScope n_Form_init ["self", "states"] (defScope s_Form_init) := ⟨rfl, rfl, rfl, by decide +kernel, rfl, by decide +kernel, by decide +kernel⟩
abbrev s_Form_signs : Stmt := inClass (top 51) 5
abbrev n_Form_signs : List Str := ["self", "moves", "sign"]
theorem sc_Form_signs : FnScope n_Form_signs ["self"] (defScope s_Form_signs) := ⟨rfl, rfl, rfl, by decide +kernel, rfl, by decide +kernel, by decide +kernel⟩
abbrev s_Form_len : Stmt := inClass (top 51) 24
abbrev n_Form_len : List Str := ["self"]
theorem sc_Form_len : FnScope n_Form_len ["self"] (defScope s_Form_len) := ⟨rfl, rfl, rfl, by decide +kernel, rfl, by decide +kernel, by decide +kernel⟩
abbrev s_require_form : Stmt := top 53
abbrev n_require_form : List Str := ["value"]
theorem sc_require_form : FnScope n_require_form ["value"] (defScope s_require_form) := ⟨rfl, rfl, rfl, by decide +kernel, rfl, by decide +kernel, by decide +kernel⟩
abbrev s_require_small : Stmt := top 65
abbrev n_require_small : List Str := ["form"]
theorem sc_require_small : FnScope n_require_small ["form"] (defScope s_require_small) := ⟨rfl, rfl, rfl, by decide +kernel, rfl, by decide +kernel, by decide +kernel⟩
abbrev s_require_priced : Stmt := top 66
abbrev n_require_priced : List Str := ["prices", "signs", "sign"]
theorem sc_require_priced : FnScope n_require_priced ["prices", "signs"] (defScope s_require_priced) := ⟨rfl, rfl, rfl, by decide +kernel, rfl, by decide +kernel, by decide +kernel⟩
abbrev s_require_target : Stmt := top 67
abbrev n_require_target : List Str := ["target", "prices", "word", "sign"]
theorem sc_require_target : FnScope n_require_target ["target", "prices", "word", "sign"] (defScope s_require_target) := ⟨rfl, rfl, rfl, by decide +kernel, rfl, by decide +kernel, by decide +kernel⟩
abbrev s_lowered_ways : Stmt := top 68
abbrev n_lowered_ways : List Str := ["ways", "middle", "many", "p", "t"]
theorem sc_lowered_ways : FnScope n_lowered_ways ["ways", "middle"] (defScope s_lowered_ways) := ⟨rfl, rfl, rfl, by decide +kernel, rfl, by decide +kernel, by decide +kernel⟩
abbrev s_put_ways : Stmt := top 69
abbrev n_put_ways : List Str := ["moves", "puts", "far", "ways", "p", "row", "sign", "t", "middle"]
theorem sc_put_ways : FnScope n_put_ways ["moves", "puts", "far"] (defScope s_put_ways) := ⟨rfl, rfl, rfl, by decide +kernel, rfl, by decide +kernel, by decide +kernel⟩
abbrev s_Steps_init : Stmt := inClass (top 70) 1
abbrev n_Steps_init : List Str := ["self", "target", "prices"]
theorem sc_Steps_init : FnScope n_Steps_init ["self", "target", "prices"] (defScope s_Steps_init) := ⟨rfl, rfl, rfl, by decide +kernel, rfl, by decide +kernel, by decide +kernel⟩
abbrev s_Steps_price_of_swap : Stmt := inClass (top 70) 3
abbrev n_Steps_price_of_swap : List Str := ["self", "sign", "other"]
theorem sc_Steps_price_of_swap : FnScope n_Steps_price_of_swap ["self", "sign", "other"] (defScope s_Steps_price_of_swap) := ⟨rfl, rfl, rfl, by decide +kernel, rfl, by decide +kernel, by decide +kernel⟩
abbrev s_Steps_filled : Stmt := inClass (top 70) 4
abbrev n_Steps_filled : List Str := ["self", "row", "ways", "t", "p", "number"]
theorem sc_Steps_filled : FnScope n_Steps_filled ["self", "row"] (defScope s_Steps_filled) := ⟨rfl, rfl, rfl, by decide +kernel, rfl, by decide +kernel, by decide +kernel⟩
abbrev s_Steps_behind : Stmt := inClass (top 70) 5
abbrev n_Steps_behind : List Str := ["self", "row", "sign", "found", "p", "moves", "other", "t", "number"]
theorem sc_Steps_behind : FnScope n_Steps_behind ["self", "row", "sign"] (defScope s_Steps_behind) := ⟨rfl, rfl, rfl, by decide +kernel, rfl, by decide +kernel, by decide +kernel⟩
abbrev s_Steps_end : Stmt := inClass (top 70) 6
abbrev n_Steps_end : List Str := ["self", "row", "number", "last"]
theorem sc_Steps_end : FnScope n_Steps_end ["self", "row"] (defScope s_Steps_end) := ⟨rfl, rfl, rfl, by decide +kernel, rfl, by decide +kernel, by decide +kernel⟩
abbrev s_Steps_row_of_word : Stmt := inClass (top 70) 7
abbrev n_Steps_row_of_word : List Str := ["self", "word", "row", "sign"]
theorem sc_Steps_row_of_word : FnScope n_Steps_row_of_word ["self", "word"] (defScope s_Steps_row_of_word) := ⟨rfl, rfl, rfl, by decide +kernel, rfl, by decide +kernel, by decide +kernel⟩
abbrev s_is_plain_row : Stmt := top 71
abbrev n_is_plain_row : List Str := ["value", "number"]
theorem sc_is_plain_row : FnScope n_is_plain_row ["value"] (defScope s_is_plain_row) := ⟨rfl, rfl, rfl, by decide +kernel, rfl, by decide +kernel, by decide +kernel⟩
abbrev s_require_plain_row : Stmt := top 72
abbrev n_require_plain_row : List Str := ["value"]
theorem sc_require_plain_row : FnScope n_require_plain_row ["value"] (defScope s_require_plain_row) := ⟨rfl, rfl, rfl, by decide +kernel, rfl, by decide +kernel, by decide +kernel⟩
abbrev s_require_row : Stmt := top 73
abbrev n_require_row : List Str := ["target", "value"]
theorem sc_require_row : FnScope n_require_row ["target", "value"] (defScope s_require_row) := ⟨rfl, rfl, rfl, by decide +kernel, rfl, by decide +kernel, by decide +kernel⟩
abbrev s_is_row : Stmt := top 74
abbrev n_is_row : List Str := ["target", "value"]
theorem sc_is_row : FnScope n_is_row ["target", "value"] (defScope s_is_row) := ⟨rfl, rfl, rfl, by decide +kernel, rfl, by decide +kernel, by decide +kernel⟩
abbrev s_start_row : Stmt := top 75
abbrev n_start_row : List Str := ["target", "prices"]
theorem sc_start_row : FnScope n_start_row ["target", "prices"] (defScope s_start_row) := ⟨rfl, rfl, rfl, by decide +kernel, rfl, by decide +kernel, by decide +kernel⟩
abbrev s_row_of : Stmt := top 76
abbrev n_row_of : List Str := ["target", "prices", "word"]
theorem sc_row_of : FnScope n_row_of ["target", "prices", "word"] (defScope s_row_of) := ⟨rfl, rfl, rfl, by decide +kernel, rfl, by decide +kernel, by decide +kernel⟩
abbrev s_row_behind : Stmt := top 77
abbrev n_row_behind : List Str := ["target", "prices", "row", "sign"]
theorem sc_row_behind : FnScope n_row_behind ["target", "prices", "row", "sign"] (defScope s_row_behind) := ⟨rfl, rfl, rfl, by decide +kernel, rfl, by decide +kernel, by decide +kernel⟩
abbrev s_end_cost : Stmt := top 78
abbrev n_end_cost : List Str := ["target", "row", "number", "last"]
theorem sc_end_cost : FnScope n_end_cost ["target", "row"] (defScope s_end_cost) := ⟨rfl, rfl, rfl, by decide +kernel, rfl, by decide +kernel, by decide +kernel⟩
abbrev s_cut_row : Stmt := top 79
abbrev n_cut_row : List Str := ["row", "limit", "number"]
theorem sc_cut_row : FnScope n_cut_row ["row", "limit"] (defScope s_cut_row) := ⟨rfl, rfl, rfl, by decide +kernel, rfl, by decide +kernel, by decide +kernel⟩
abbrev s_stands_above : Stmt := top 80
abbrev n_stands_above : List Str := ["one", "other", "number", "less"]
theorem sc_stands_above : FnScope n_stands_above ["one", "other"] (defScope s_stands_above) := ⟨rfl, rfl, rfl, by decide +kernel, rfl, by decide +kernel, by decide +kernel⟩
abbrev s_cost_in : Stmt := top 82
abbrev n_cost_in : List Str := ["steps", "word"]
theorem sc_cost_in : FnScope n_cost_in ["steps", "word"] (defScope s_cost_in) := ⟨rfl, rfl, rfl, by decide +kernel, rfl, by decide +kernel, by decide +kernel⟩
abbrev s_require_cost : Stmt := top 83
abbrev n_require_cost : List Str := ["word", "target", "prices"]
theorem sc_require_cost : FnScope n_require_cost ["word", "target", "prices"] (defScope s_require_cost) := ⟨rfl, rfl, rfl, by decide +kernel, rfl, by decide +kernel, by decide +kernel⟩
abbrev s_cost : Stmt := top 84
abbrev n_cost : List Str := ["word", "target", "prices"]
theorem sc_cost : FnScope n_cost ["word", "target", "prices"] (defScope s_cost) := ⟨rfl, rfl, rfl, by decide +kernel, rfl, by decide +kernel, by decide +kernel⟩
abbrev s__law_dice : Stmt := top 86
abbrev n__law_dice : List Str := ["script", "spot", "cell", "great"]
theorem sc__law_dice : FnScope n__law_dice ["script", "spot"] (defScope s__law_dice) := ⟨rfl, rfl, rfl, by decide +kernel, rfl, by decide +kernel, by decide +kernel⟩
abbrev s__law_roll : Stmt := top 87
abbrev n__law_roll : List Str := ["dice", "total", "found"]
theorem sc__law_roll : FnScope n__law_roll ["dice", "total"] (defScope s__law_roll) := ⟨rfl, rfl, rfl, by decide +kernel, rfl, by decide +kernel, by decide +kernel⟩
abbrev s__law_pick : Stmt := top 88
abbrev n__law_pick : List Str := ["dice", "items"]
theorem sc__law_pick : FnScope n__law_pick ["dice", "items"] (defScope s__law_pick) := ⟨rfl, rfl, rfl, by decide +kernel, rfl, by decide +kernel, by decide +kernel⟩
abbrev s__law_trimmed : Stmt := top 89
abbrev n__law_trimmed : List Str := ["states", "found", "turn", "one", "to", "good", "rows", "at", "moves", "sign"]
theorem sc__law_trimmed : FnScope n__law_trimmed ["states"] (defScope s__law_trimmed) := ⟨rfl, rfl, rfl, by decide +kernel, rfl, by decide +kernel, by decide +kernel⟩
abbrev s__law_machine : Stmt := top 90
abbrev n__law_machine : List Str := ["dice", "signs", "most", "many", "rows", "at", "moves", "sign"]
theorem sc__law_machine : FnScope n__law_machine ["dice", "signs", "most"] (defScope s__law_machine) := ⟨rfl, rfl, rfl, by decide +kernel, rfl, by decide +kernel, by decide +kernel⟩
abbrev s__law_closed : Stmt := top 91
abbrev n__law_closed : List Str := ["rows", "puts", "outs", "swaps", "found", "nodes", "sign", "middle", "one", "other", "price"]
theorem sc__law_closed : FnScope n__law_closed ["rows"] (defScope s__law_closed) := ⟨rfl, rfl, rfl, by decide +kernel, rfl, by decide +kernel, by decide +kernel⟩
abbrev s__law_ways : Stmt := top 92
abbrev n__law_ways : List Str := ["states", "closed", "found", "turn", "one", "at", "sign", "to", "price"]
theorem sc__law_ways : FnScope n__law_ways ["states", "closed"] (defScope s__law_ways) := ⟨rfl, rfl, rfl, by decide +kernel, rfl, by decide +kernel, by decide +kernel⟩
abbrev s__law_prices : Stmt := top 93
abbrev n__law_prices : List Str := ["dice", "signs", "puts", "outs", "swaps", "turn", "one", "other", "sign"]
theorem sc__law_prices : FnScope n__law_prices ["dice", "signs"] (defScope s__law_prices) := ⟨rfl, rfl, rfl, by decide +kernel, rfl, by decide +kernel, by decide +kernel⟩
abbrev s__law_price : Stmt := top 94
abbrev n__law_price : List Str := ["closed", "one", "other"]
theorem sc__law_price : FnScope n__law_price ["closed", "one", "other"] (defScope s__law_price) := ⟨rfl, rfl, rfl, by decide +kernel, rfl, by decide +kernel, by decide +kernel⟩
abbrev s__law_end : Stmt := top 95
abbrev n__law_end : List Str := ["target", "row", "number", "moves", "last"]
theorem sc__law_end : FnScope n__law_end ["target", "row"] (defScope s__law_end) := ⟨rfl, rfl, rfl, by decide +kernel, rfl, by decide +kernel, by decide +kernel⟩
abbrev s__law_least : Stmt := top 96
abbrev n__law_least : List Str := ["target", "ways", "many", "found", "to", "at"]
theorem sc__law_least : FnScope n__law_least ["target", "ways", "many"] (defScope s__law_least) := ⟨rfl, rfl, rfl, by decide +kernel, rfl, by decide +kernel, by decide +kernel⟩
abbrev s__law_behind : Stmt := top 97
abbrev n__law_behind : List Str := ["target", "closed", "ways", "row", "sign", "first", "to", "some", "at", "moves", "other"]
theorem sc__law_behind : FnScope n__law_behind ["target", "closed", "ways", "row", "sign"] (defScope s__law_behind) := ⟨rfl, rfl, rfl, by decide +kernel, rfl, by decide +kernel, by decide +kernel⟩
abbrev s__law_any_row : Stmt := top 98
abbrev n__law_any_row : List Str := ["dice", "size", "most", "at"]
theorem sc__law_any_row : FnScope n__law_any_row ["dice", "size"] (defScope s__law_any_row) := ⟨rfl, rfl, rfl, by decide +kernel, rfl, by decide +kernel, by decide +kernel⟩
abbrev s__law_is_over : Stmt := top 99
abbrev n__law_is_over : List Str := ["one", "other", "more", "less"]
theorem sc__law_is_over : FnScope n__law_is_over ["one", "other"] (defScope s__law_is_over) := ⟨rfl, rfl, rfl, by decide +kernel, rfl, by decide +kernel, by decide +kernel⟩
abbrev s__law_word_right : Stmt := top 100
abbrev n__law_word_right : List Str := ["dice", "signs", "target", "form", "prices", "closed", "ways", "row", "word", "turn", "sign", "due", "to"]
theorem sc__law_word_right : FnScope n__law_word_right ["dice", "signs", "target", "form", "prices", "closed"] (defScope s__law_word_right) := ⟨rfl, rfl, rfl, by decide +kernel, rfl, by decide +kernel, by decide +kernel⟩
abbrev s__law_any_right : Stmt := top 101
abbrev n__law_any_right : List Str := ["dice", "signs", "target", "form", "prices", "closed", "ways", "row", "sign", "due", "more", "limit", "cut", "short", "number"]
theorem sc__law_any_right : FnScope n__law_any_right ["dice", "signs", "target", "form", "prices", "closed"] (defScope s__law_any_right) := ⟨rfl, rfl, rfl, by decide +kernel, rfl, by decide +kernel, by decide +kernel⟩
abbrev s__law_right : Stmt := top 102
abbrev n__law_right : List Str := ["dice", "signs", "rows", "target", "form", "prices", "closed", "turn"]
theorem sc__law_right : FnScope n__law_right ["dice"] (defScope s__law_right) := ⟨rfl, rfl, rfl, by decide +kernel, rfl, by decide +kernel, by decide +kernel⟩
abbrev s_law : Stmt := top 103
abbrev n_law : List Str := ["script", "spot", "dice", "turn"]
theorem sc_law : FnScope n_law ["script"] (defScope s_law) := ⟨rfl, rfl, rfl, by decide +kernel, rfl, by decide +kernel, by decide +kernel⟩
end K7
end

section
set_option Elab.async false
set_option linter.all false
set_option maxRecDepth 100000
/-! What the top holds, by names; small words. -/
namespace K7
open PySem PySem.Spec PyProof.Rows L2
/-- all that the walk asks of the written part -/
structure Txt (K : PySem.W.Frag) (mg : Str → Option Value) where
  a_is_integer : Addr
  d_is_integer : FuncData
  F_is_integer : FunD K "is_integer" "is_integer" (defArgs s_is_integer) (defBody s_is_integer) (defScope s_is_integer) [] [] a_is_integer d_is_integer
  g_is_integer : mg "is_integer" = some (.ref a_is_integer)
  a_is_sign : Addr
  d_is_sign : FuncData
  F_is_sign : FunD K "is_sign" "is_sign" (defArgs s_is_sign) (defBody s_is_sign) (defScope s_is_sign) [] [] a_is_sign d_is_sign
  g_is_sign : mg "is_sign" = some (.ref a_is_sign)
  a_is_word : Addr
  d_is_word : FuncData
  F_is_word : FunD K "is_word" "is_word" (defArgs s_is_word) (defBody s_is_word) (defScope s_is_word) [] [] a_is_word d_is_word
  g_is_word : mg "is_word" = some (.ref a_is_word)
  a_require_word : Addr
  d_require_word : FuncData
  F_require_word : FunD K "require_word" "require_word" (defArgs s_require_word) (defBody s_require_word) (defScope s_require_word) [] [] a_require_word d_require_word
  g_require_word : mg "require_word" = some (.ref a_require_word)
  a_require_number : Addr
  d_require_number : FuncData
  F_require_number : FunD K "require_number" "require_number" (defArgs s_require_number) (defBody s_require_number) (defScope s_require_number) [] [] a_require_number d_require_number
  g_require_number : mg "require_number" = some (.ref a_require_number)
  a_is_price : Addr
  d_is_price : FuncData
  F_is_price : FunD K "is_price" "is_price" (defArgs s_is_price) (defBody s_is_price) (defScope s_is_price) [] [] a_is_price d_is_price
  g_is_price : mg "is_price" = some (.ref a_is_price)
  a_is_pair : Addr
  d_is_pair : FuncData
  F_is_pair : FunD K "is_pair" "is_pair" (defArgs s_is_pair) (defBody s_is_pair) (defScope s_is_pair) [] [] a_is_pair d_is_pair
  g_is_pair : mg "is_pair" = some (.ref a_is_pair)
  a_are_prices : Addr
  d_are_prices : FuncData
  F_are_prices : FunD K "are_prices" "are_prices" (defArgs s_are_prices) (defBody s_are_prices) (defScope s_are_prices) [] [] a_are_prices d_are_prices
  g_are_prices : mg "are_prices" = some (.ref a_are_prices)
  a_Closed_init : Addr
  d_Closed_init : FuncData
  F_Closed_init : FunD K "__init__" "Closed.__init__" (defArgs s_Closed_init) (defBody s_Closed_init) (defScope s_Closed_init) [] [] a_Closed_init d_Closed_init
  a_closed_of : Addr
  d_closed_of : FuncData
  F_closed_of : FunD K "closed_of" "closed_of" (defArgs s_closed_of) (defBody s_closed_of) (defScope s_closed_of) [] [] a_closed_of d_closed_of
  g_closed_of : mg "closed_of" = some (.ref a_closed_of)
  a_Prices_init : Addr
  d_Prices_init : FuncData
  F_Prices_init : FunD K "__init__" "Prices.__init__" (defArgs s_Prices_init) (defBody s_Prices_init) (defScope s_Prices_init) [] [] a_Prices_init d_Prices_init
  a_Prices_closed : Addr
  d_Prices_closed : FuncData
  F_Prices_closed : FunD K "closed" "Prices.closed" (defArgs s_Prices_closed) (defBody s_Prices_closed) (defScope s_Prices_closed) [] [] a_Prices_closed d_Prices_closed
  a_Prices_contains : Addr
  d_Prices_contains : FuncData
  F_Prices_contains : FunD K "__contains__" "Prices.__contains__" (defArgs s_Prices_contains) (defBody s_Prices_contains) (defScope s_Prices_contains) [] [] a_Prices_contains d_Prices_contains
  a_require_prices : Addr
  d_require_prices : FuncData
  F_require_prices : FunD K "require_prices" "require_prices" (defArgs s_require_prices) (defBody s_require_prices) (defScope s_require_prices) [] [] a_require_prices d_require_prices
  g_require_prices : mg "require_prices" = some (.ref a_require_prices)
  a_useful_states : Addr
  d_useful_states : FuncData
  F_useful_states : FunD K "useful_states" "useful_states" (defArgs s_useful_states) (defBody s_useful_states) (defScope s_useful_states) [] [] a_useful_states d_useful_states
  g_useful_states : mg "useful_states" = some (.ref a_useful_states)
  a_are_useful : Addr
  d_are_useful : FuncData
  F_are_useful : FunD K "are_useful" "are_useful" (defArgs s_are_useful) (defBody s_are_useful) (defScope s_are_useful) [] [] a_are_useful d_are_useful
  g_are_useful : mg "are_useful" = some (.ref a_are_useful)
  a_is_state : Addr
  d_is_state : FuncData
  F_is_state : FunD K "is_state" "is_state" (defArgs s_is_state) (defBody s_is_state) (defScope s_is_state) [] [] a_is_state d_is_state
  g_is_state : mg "is_state" = some (.ref a_is_state)
  a_are_states : Addr
  d_are_states : FuncData
  F_are_states : FunD K "are_states" "are_states" (defArgs s_are_states) (defBody s_are_states) (defScope s_are_states) [] [] a_are_states d_are_states
  g_are_states : mg "are_states" = some (.ref a_are_states)
  a_in_order : Addr
  d_in_order : FuncData
  F_in_order : FunD K "in_order" "in_order" (defArgs s_in_order) (defBody s_in_order) (defScope s_in_order) [] [] a_in_order d_in_order
  g_in_order : mg "in_order" = some (.ref a_in_order)
  a_Form_init : Addr
  d_Form_init : FuncData
  F_Form_init : FunD K "__init__" "Form.__init__" (defArgs s_Form_init) (defBody s_Form_init) (defScope s_Form_init) [] [] a_Form_init d_Form_init
  a_Form_signs : Addr
  d_Form_signs : FuncData
  F_Form_signs : FunD K "signs" "Form.signs" (defArgs s_Form_signs) (defBody s_Form_signs) (defScope s_Form_signs) [] [] a_Form_signs d_Form_signs
  a_Form_len : Addr
  d_Form_len : FuncData
  F_Form_len : FunD K "__len__" "Form.__len__" (defArgs s_Form_len) (defBody s_Form_len) (defScope s_Form_len) [] [] a_Form_len d_Form_len
  a_require_form : Addr
  d_require_form : FuncData
  F_require_form : FunD K "require_form" "require_form" (defArgs s_require_form) (defBody s_require_form) (defScope s_require_form) [] [] a_require_form d_require_form
  g_require_form : mg "require_form" = some (.ref a_require_form)
  a_require_small : Addr
  d_require_small : FuncData
  F_require_small : FunD K "require_small" "require_small" (defArgs s_require_small) (defBody s_require_small) (defScope s_require_small) [] [] a_require_small d_require_small
  g_require_small : mg "require_small" = some (.ref a_require_small)
  a_require_priced : Addr
  d_require_priced : FuncData
  F_require_priced : FunD K "require_priced" "require_priced" (defArgs s_require_priced) (defBody s_require_priced) (defScope s_require_priced) [] [] a_require_priced d_require_priced
  g_require_priced : mg "require_priced" = some (.ref a_require_priced)
  a_require_target : Addr
  d_require_target : FuncData
  F_require_target : FunD K "require_target" "require_target" (defArgs s_require_target) (defBody s_require_target) (defScope s_require_target) [.str "", .str ""] [] a_require_target d_require_target
  g_require_target : mg "require_target" = some (.ref a_require_target)
  a_lowered_ways : Addr
  d_lowered_ways : FuncData
  F_lowered_ways : FunD K "lowered_ways" "lowered_ways" (defArgs s_lowered_ways) (defBody s_lowered_ways) (defScope s_lowered_ways) [] [] a_lowered_ways d_lowered_ways
  g_lowered_ways : mg "lowered_ways" = some (.ref a_lowered_ways)
  a_put_ways : Addr
  d_put_ways : FuncData
  F_put_ways : FunD K "put_ways" "put_ways" (defArgs s_put_ways) (defBody s_put_ways) (defScope s_put_ways) [] [] a_put_ways d_put_ways
  g_put_ways : mg "put_ways" = some (.ref a_put_ways)
  a_Steps_init : Addr
  d_Steps_init : FuncData
  F_Steps_init : FunD K "__init__" "Steps.__init__" (defArgs s_Steps_init) (defBody s_Steps_init) (defScope s_Steps_init) [] [] a_Steps_init d_Steps_init
  a_Steps_price_of_swap : Addr
  d_Steps_price_of_swap : FuncData
  F_Steps_price_of_swap : FunD K "price_of_swap" "Steps.price_of_swap" (defArgs s_Steps_price_of_swap) (defBody s_Steps_price_of_swap) (defScope s_Steps_price_of_swap) [] [] a_Steps_price_of_swap d_Steps_price_of_swap
  a_Steps_filled : Addr
  d_Steps_filled : FuncData
  F_Steps_filled : FunD K "filled" "Steps.filled" (defArgs s_Steps_filled) (defBody s_Steps_filled) (defScope s_Steps_filled) [] [] a_Steps_filled d_Steps_filled
  a_Steps_behind : Addr
  d_Steps_behind : FuncData
  F_Steps_behind : FunD K "behind" "Steps.behind" (defArgs s_Steps_behind) (defBody s_Steps_behind) (defScope s_Steps_behind) [] [] a_Steps_behind d_Steps_behind
  a_Steps_end : Addr
  d_Steps_end : FuncData
  F_Steps_end : FunD K "end" "Steps.end" (defArgs s_Steps_end) (defBody s_Steps_end) (defScope s_Steps_end) [] [] a_Steps_end d_Steps_end
  a_Steps_row_of_word : Addr
  d_Steps_row_of_word : FuncData
  F_Steps_row_of_word : FunD K "row_of_word" "Steps.row_of_word" (defArgs s_Steps_row_of_word) (defBody s_Steps_row_of_word) (defScope s_Steps_row_of_word) [] [] a_Steps_row_of_word d_Steps_row_of_word
  a_is_plain_row : Addr
  d_is_plain_row : FuncData
  F_is_plain_row : FunD K "is_plain_row" "is_plain_row" (defArgs s_is_plain_row) (defBody s_is_plain_row) (defScope s_is_plain_row) [] [] a_is_plain_row d_is_plain_row
  g_is_plain_row : mg "is_plain_row" = some (.ref a_is_plain_row)
  a_require_plain_row : Addr
  d_require_plain_row : FuncData
  F_require_plain_row : FunD K "require_plain_row" "require_plain_row" (defArgs s_require_plain_row) (defBody s_require_plain_row) (defScope s_require_plain_row) [] [] a_require_plain_row d_require_plain_row
  g_require_plain_row : mg "require_plain_row" = some (.ref a_require_plain_row)
  a_require_row : Addr
  d_require_row : FuncData
  F_require_row : FunD K "require_row" "require_row" (defArgs s_require_row) (defBody s_require_row) (defScope s_require_row) [] [] a_require_row d_require_row
  g_require_row : mg "require_row" = some (.ref a_require_row)
  a_is_row : Addr
  d_is_row : FuncData
  F_is_row : FunD K "is_row" "is_row" (defArgs s_is_row) (defBody s_is_row) (defScope s_is_row) [] [] a_is_row d_is_row
  g_is_row : mg "is_row" = some (.ref a_is_row)
  a_start_row : Addr
  d_start_row : FuncData
  F_start_row : FunD K "start_row" "start_row" (defArgs s_start_row) (defBody s_start_row) (defScope s_start_row) [] [] a_start_row d_start_row
  g_start_row : mg "start_row" = some (.ref a_start_row)
  a_row_of : Addr
  d_row_of : FuncData
  F_row_of : FunD K "row_of" "row_of" (defArgs s_row_of) (defBody s_row_of) (defScope s_row_of) [] [] a_row_of d_row_of
  g_row_of : mg "row_of" = some (.ref a_row_of)
  a_row_behind : Addr
  d_row_behind : FuncData
  F_row_behind : FunD K "row_behind" "row_behind" (defArgs s_row_behind) (defBody s_row_behind) (defScope s_row_behind) [] [] a_row_behind d_row_behind
  g_row_behind : mg "row_behind" = some (.ref a_row_behind)
  a_end_cost : Addr
  d_end_cost : FuncData
  F_end_cost : FunD K "end_cost" "end_cost" (defArgs s_end_cost) (defBody s_end_cost) (defScope s_end_cost) [] [] a_end_cost d_end_cost
  g_end_cost : mg "end_cost" = some (.ref a_end_cost)
  a_cut_row : Addr
  d_cut_row : FuncData
  F_cut_row : FunD K "cut_row" "cut_row" (defArgs s_cut_row) (defBody s_cut_row) (defScope s_cut_row) [] [] a_cut_row d_cut_row
  g_cut_row : mg "cut_row" = some (.ref a_cut_row)
  a_stands_above : Addr
  d_stands_above : FuncData
  F_stands_above : FunD K "stands_above" "stands_above" (defArgs s_stands_above) (defBody s_stands_above) (defScope s_stands_above) [] [] a_stands_above d_stands_above
  g_stands_above : mg "stands_above" = some (.ref a_stands_above)
  a_cost_in : Addr
  d_cost_in : FuncData
  F_cost_in : FunD K "cost_in" "cost_in" (defArgs s_cost_in) (defBody s_cost_in) (defScope s_cost_in) [] [] a_cost_in d_cost_in
  g_cost_in : mg "cost_in" = some (.ref a_cost_in)
  a_require_cost : Addr
  d_require_cost : FuncData
  F_require_cost : FunD K "require_cost" "require_cost" (defArgs s_require_cost) (defBody s_require_cost) (defScope s_require_cost) [] [] a_require_cost d_require_cost
  g_require_cost : mg "require_cost" = some (.ref a_require_cost)
  a_cost : Addr
  d_cost : FuncData
  F_cost : FunD K "cost" "cost" (defArgs s_cost) (defBody s_cost) (defScope s_cost) [] [] a_cost d_cost
  g_cost : mg "cost" = some (.ref a_cost)
  a__law_dice : Addr
  d__law_dice : FuncData
  F__law_dice : FunD K "_law_dice" "_law_dice" (defArgs s__law_dice) (defBody s__law_dice) (defScope s__law_dice) [] [] a__law_dice d__law_dice
  g__law_dice : mg "_law_dice" = some (.ref a__law_dice)
  a__law_roll : Addr
  d__law_roll : FuncData
  F__law_roll : FunD K "_law_roll" "_law_roll" (defArgs s__law_roll) (defBody s__law_roll) (defScope s__law_roll) [] [] a__law_roll d__law_roll
  g__law_roll : mg "_law_roll" = some (.ref a__law_roll)
  a__law_pick : Addr
  d__law_pick : FuncData
  F__law_pick : FunD K "_law_pick" "_law_pick" (defArgs s__law_pick) (defBody s__law_pick) (defScope s__law_pick) [] [] a__law_pick d__law_pick
  g__law_pick : mg "_law_pick" = some (.ref a__law_pick)
  a__law_trimmed : Addr
  d__law_trimmed : FuncData
  F__law_trimmed : FunD K "_law_trimmed" "_law_trimmed" (defArgs s__law_trimmed) (defBody s__law_trimmed) (defScope s__law_trimmed) [] [] a__law_trimmed d__law_trimmed
  g__law_trimmed : mg "_law_trimmed" = some (.ref a__law_trimmed)
  a__law_machine : Addr
  d__law_machine : FuncData
  F__law_machine : FunD K "_law_machine" "_law_machine" (defArgs s__law_machine) (defBody s__law_machine) (defScope s__law_machine) [] [] a__law_machine d__law_machine
  g__law_machine : mg "_law_machine" = some (.ref a__law_machine)
  a__law_closed : Addr
  d__law_closed : FuncData
  F__law_closed : FunD K "_law_closed" "_law_closed" (defArgs s__law_closed) (defBody s__law_closed) (defScope s__law_closed) [] [] a__law_closed d__law_closed
  g__law_closed : mg "_law_closed" = some (.ref a__law_closed)
  a__law_ways : Addr
  d__law_ways : FuncData
  F__law_ways : FunD K "_law_ways" "_law_ways" (defArgs s__law_ways) (defBody s__law_ways) (defScope s__law_ways) [] [] a__law_ways d__law_ways
  g__law_ways : mg "_law_ways" = some (.ref a__law_ways)
  a__law_prices : Addr
  d__law_prices : FuncData
  F__law_prices : FunD K "_law_prices" "_law_prices" (defArgs s__law_prices) (defBody s__law_prices) (defScope s__law_prices) [] [] a__law_prices d__law_prices
  g__law_prices : mg "_law_prices" = some (.ref a__law_prices)
  a__law_price : Addr
  d__law_price : FuncData
  F__law_price : FunD K "_law_price" "_law_price" (defArgs s__law_price) (defBody s__law_price) (defScope s__law_price) [] [] a__law_price d__law_price
  g__law_price : mg "_law_price" = some (.ref a__law_price)
  a__law_end : Addr
  d__law_end : FuncData
  F__law_end : FunD K "_law_end" "_law_end" (defArgs s__law_end) (defBody s__law_end) (defScope s__law_end) [] [] a__law_end d__law_end
  g__law_end : mg "_law_end" = some (.ref a__law_end)
  a__law_least : Addr
  d__law_least : FuncData
  F__law_least : FunD K "_law_least" "_law_least" (defArgs s__law_least) (defBody s__law_least) (defScope s__law_least) [] [] a__law_least d__law_least
  g__law_least : mg "_law_least" = some (.ref a__law_least)
  a__law_behind : Addr
  d__law_behind : FuncData
  F__law_behind : FunD K "_law_behind" "_law_behind" (defArgs s__law_behind) (defBody s__law_behind) (defScope s__law_behind) [] [] a__law_behind d__law_behind
  g__law_behind : mg "_law_behind" = some (.ref a__law_behind)
  a__law_any_row : Addr
  d__law_any_row : FuncData
  F__law_any_row : FunD K "_law_any_row" "_law_any_row" (defArgs s__law_any_row) (defBody s__law_any_row) (defScope s__law_any_row) [] [] a__law_any_row d__law_any_row
  g__law_any_row : mg "_law_any_row" = some (.ref a__law_any_row)
  a__law_is_over : Addr
  d__law_is_over : FuncData
  F__law_is_over : FunD K "_law_is_over" "_law_is_over" (defArgs s__law_is_over) (defBody s__law_is_over) (defScope s__law_is_over) [] [] a__law_is_over d__law_is_over
  g__law_is_over : mg "_law_is_over" = some (.ref a__law_is_over)
  a__law_word_right : Addr
  d__law_word_right : FuncData
  F__law_word_right : FunD K "_law_word_right" "_law_word_right" (defArgs s__law_word_right) (defBody s__law_word_right) (defScope s__law_word_right) [] [] a__law_word_right d__law_word_right
  g__law_word_right : mg "_law_word_right" = some (.ref a__law_word_right)
  a__law_any_right : Addr
  d__law_any_right : FuncData
  F__law_any_right : FunD K "_law_any_right" "_law_any_right" (defArgs s__law_any_right) (defBody s__law_any_right) (defScope s__law_any_right) [] [] a__law_any_right d__law_any_right
  g__law_any_right : mg "_law_any_right" = some (.ref a__law_any_right)
  a__law_right : Addr
  d__law_right : FuncData
  F__law_right : FunD K "_law_right" "_law_right" (defArgs s__law_right) (defBody s__law_right) (defScope s__law_right) [] [] a__law_right d__law_right
  g__law_right : mg "_law_right" = some (.ref a__law_right)
  a_law : Addr
  d_law : FuncData
  F_law : FunD K "law" "law" (defArgs s_law) (defBody s_law) (defScope s_law) [] [] a_law d_law
  g_law : mg "law" = some (.ref a_law)
  C_Closed : Addr
  g_Closed : mg "Closed" = some (.ref C_Closed)
  S_Closed : SlX.SCls K C_Closed
  mk_Closed : Mk K C_Closed a_Closed_init
  p_Closed_own_out : Addr
  sl_Closed_own_out : SlX.Slot1 K C_Closed "own_out" p_Closed_own_out 0
  p_Closed_own_put : Addr
  sl_Closed_own_put : SlX.Slot1 K C_Closed "own_put" p_Closed_own_put 1
  p_Closed_own_swap : Addr
  sl_Closed_own_swap : SlX.Slot1 K C_Closed "own_swap" p_Closed_own_swap 2
  C_Prices : Addr
  g_Prices : mg "Prices" = some (.ref C_Prices)
  S_Prices : SlX.SCls K C_Prices
  mk_Prices : Mk K C_Prices a_Prices_init
  p_Prices_own_out : Addr
  sl_Prices_own_out : SlX.Slot1 K C_Prices "own_out" p_Prices_own_out 0
  p_Prices_own_put : Addr
  sl_Prices_own_put : SlX.Slot1 K C_Prices "own_put" p_Prices_own_put 1
  p_Prices_own_swap : Addr
  sl_Prices_own_swap : SlX.Slot1 K C_Prices "own_swap" p_Prices_own_swap 2
  C_Form : Addr
  g_Form : mg "Form" = some (.ref C_Form)
  S_Form : SlX.SCls K C_Form
  mk_Form : Mk K C_Form a_Form_init
  p_Form_own_lasts : Addr
  sl_Form_own_lasts : SlX.Slot1 K C_Form "own_lasts" p_Form_own_lasts 0
  p_Form_own_moves : Addr
  sl_Form_own_moves : SlX.Slot1 K C_Form "own_moves" p_Form_own_moves 1
  C_Steps : Addr
  g_Steps : mg "Steps" = some (.ref C_Steps)
  S_Steps : SlX.SCls K C_Steps
  mk_Steps : Mk K C_Steps a_Steps_init
  p_Steps_own_closed : Addr
  sl_Steps_own_closed : SlX.Slot1 K C_Steps "own_closed" p_Steps_own_closed 0
  p_Steps_own_lasts : Addr
  sl_Steps_own_lasts : SlX.Slot1 K C_Steps "own_lasts" p_Steps_own_lasts 1
  p_Steps_own_moves : Addr
  sl_Steps_own_moves : SlX.Slot1 K C_Steps "own_moves" p_Steps_own_moves 2
  p_Steps_own_start : Addr
  sl_Steps_own_start : SlX.Slot1 K C_Steps "own_start" p_Steps_own_start 3
  p_Steps_own_ways : Addr
  sl_Steps_own_ways : SlX.Slot1 K C_Steps "own_ways" p_Steps_own_ways 4
  I_Prices : SlX.SIsi K C_Prices
  k_Prices : PySem.W.kitOne K (.ref C_Prices) (.ref C_Prices) = some true
  I_Form : SlX.SIsi K C_Form
  k_Form : PySem.W.kitOne K (.ref C_Form) (.ref C_Form) = some true
  me_Prices_closed : Meth K C_Prices "closed" a_Prices_closed
  me_Prices_contains : Meth K C_Prices "__contains__" a_Prices_contains
  me_Form_len : Meth K C_Form "__len__" a_Form_len
  me_Steps_price_of_swap : Meth K C_Steps "price_of_swap" a_Steps_price_of_swap
  me_Steps_filled : Meth K C_Steps "filled" a_Steps_filled
  me_Steps_behind : Meth K C_Steps "behind" a_Steps_behind
  me_Steps_end : Meth K C_Steps "end" a_Steps_end
  me_Steps_row_of_word : Meth K C_Steps "row_of_word" a_Steps_row_of_word
  p_signs : Addr
  pr_at : PySem.W.findIn K (.ref C_Form) "signs" = some (some (.ref p_signs))
  pr_get : PySem.W.specialIn K (.ref p_signs) "__get__" = some (some (.builtin "property.__get__"))
  pr_tk : PySem.W.takesIn K (.ref p_signs) = some true
  pr_rc : ∃ rest, PySem.W.recIn K p_signs "property" = some (.ref a_Form_signs :: rest)
  c_SIGNS : ∃ u, mg "SIGNS" = some u ∧ RelV (.str "abcde") u
  c_MAX_WORD : ∃ u, mg "MAX_WORD" = some u ∧ RelV (.int 1000) u
  c_GREATEST : ∃ u, mg "GREATEST" = some u ∧ RelV (.int (10 ^ 60)) u
  c_MAX_PRICE : ∃ u, mg "MAX_PRICE" = some u ∧ RelV (.int 9) u
  c_MAX_SWAP : ∃ u, mg "MAX_SWAP" = some u ∧ RelV (.int 18) u
  c_MAX_WRITTEN : ∃ u, mg "MAX_WRITTEN" = some u ∧ RelV (.int 8) u
  c_MAX_SIDE : ∃ u, mg "MAX_SIDE" = some u ∧ RelV (.int 6) u
  c_BEYOND : ∃ u, mg "BEYOND" = some u ∧ RelV (.int 10000) u
  n_len : mg "len" = none
  n_isinstance : mg "isinstance" = none
  n_str : mg "str" = none
  n_int : mg "int" = none
  n_bool : mg "bool" = none
  n_tuple : mg "tuple" = none
  n_dict : mg "dict" = none
  n_list : mg "list" = none
  n_all : mg "all" = none
  n_any : mg "any" = none
  n_sum : mg "sum" = none
  n_sorted : mg "sorted" = none
  n_set : mg "set" = none
  n_enumerate : mg "enumerate" = none
  n_range : mg "range" = none
  n_zip : mg "zip" = none
  n_min : mg "min" = none
  n_max : mg "max" = none
  n_abs : mg "abs" = none
/-! ### short words -/
section
variable {X : Cx}
theorem pe_k {x : Str} {v : V} {pos : Pos} (hg : Gl X x) (h : ∃ u, X.mg x = some u ∧ RelV v u) (hd : (x == ("__debug__" : Str)) = false := by decide) : PE X (.Name x pos) (tC v) := by
  obtain ⟨u, h1, h2⟩ := h
  exact pe_glob hg h1 h2 (hd := hd)
end
section
variable {P : Program} {w : World} {K : PySem.W.Frag} {mg : Str → Option Value} {base : Heap}
theorem raw0 {CX : CXT} {k : Nat} {f : Addr} {fd : FuncData} {ps : List Str} {sp : Sp} (F : FnOk P w K mg base CX k f fd ps sp) (hb : Binds K fd ps []) : FnR P w K mg base CX k f sp := by
  refine (F.raw hb .nil).imp fun vs H Q E h => ?_
  rw [List.append_nil]
  exact h
theorem pass0s {X : Cx} : ∀ (H : Hp) (s : Shared) (e : Value) (s' : Shared), CX0 X.stack H s E0 e s' → False := fun _ _ _ _ h => h
theorem same_upd {H : Hp} {p : Addr} {o : HO} (h : H p = none) : Same H (upd H p o) := fun b x e => by
  rw [upd_ne (ne_of_none e h)]
  exact e
/-- an object that H does not know may change -/
theorem same_mut {H H' : Hp} {p : Addr} {o : HO} (e : Same H H') (h : H p = none) : Same H (upd H' p o) := fun a u ha => by
  rw [upd_ne (ne_of_none ha h)]
  exact e a u ha
theorem sq {K : PySem.W.Frag} {H : Hp} {a : Addr} {xs : List V} (h : H a = some (.lst xs)) : SqL K H a xs := .inl (.inl h)
theorem sqt {K : PySem.W.Frag} {H : Hp} {a : Addr} {xs : List V} (h : H a = some (.tup xs)) : SqT K H a xs := .inl (.inl h)
theorem szlt {n : Nat} (h : n < 100000) : n < sizeLine := Nat.lt_of_lt_of_le h (by decide)
theorem szle {n : Nat} (h : n ≤ 100000) : n ≤ sizeLine := Nat.le_trans h (by decide)
theorem b_is_integer (T : Txt K mg) : Binds K T.d_is_integer ["value"] [] := T.F_is_integer.bindsN fun _ _ _ _ _ _ us hl => match us, hl with | [_], _ => rfl
theorem b_is_sign (T : Txt K mg) : Binds K T.d_is_sign ["value"] [] := T.F_is_sign.bindsN fun _ _ _ _ _ _ us hl => match us, hl with | [_], _ => rfl
theorem b_is_word (T : Txt K mg) : Binds K T.d_is_word ["value"] [] := T.F_is_word.bindsN fun _ _ _ _ _ _ us hl => match us, hl with | [_], _ => rfl
theorem b_require_word (T : Txt K mg) : Binds K T.d_require_word ["value"] [] := T.F_require_word.bindsN fun _ _ _ _ _ _ us hl => match us, hl with | [_], _ => rfl
theorem b_require_number (T : Txt K mg) : Binds K T.d_require_number ["value", "low", "high"] [] := T.F_require_number.bindsN fun _ _ _ _ _ _ us hl => match us, hl with | [_, _, _], _ => rfl
theorem b_is_price (T : Txt K mg) : Binds K T.d_is_price ["value", "most"] [] := T.F_is_price.bindsN fun _ _ _ _ _ _ us hl => match us, hl with | [_, _], _ => rfl
theorem b_is_pair (T : Txt K mg) : Binds K T.d_is_pair ["value", "signs"] [] := T.F_is_pair.bindsN fun _ _ _ _ _ _ us hl => match us, hl with | [_, _], _ => rfl
theorem b_are_prices (T : Txt K mg) : Binds K T.d_are_prices ["put", "out", "swap"] [] := T.F_are_prices.bindsN fun _ _ _ _ _ _ us hl => match us, hl with | [_, _, _], _ => rfl
theorem b_Closed_init (T : Txt K mg) : Binds K T.d_Closed_init ["self", "table", "signs"] [] := T.F_Closed_init.bindsN fun _ _ _ _ _ _ us hl => match us, hl with | [_, _, _], _ => rfl
theorem b_closed_of (T : Txt K mg) : Binds K T.d_closed_of ["prices"] [] := T.F_closed_of.bindsN fun _ _ _ _ _ _ us hl => match us, hl with | [_], _ => rfl
theorem b_Prices_closed (T : Txt K mg) : Binds K T.d_Prices_closed ["self"] [] := T.F_Prices_closed.bindsN fun _ _ _ _ _ _ us hl => match us, hl with | [_], _ => rfl
theorem b_Prices_contains (T : Txt K mg) : Binds K T.d_Prices_contains ["self", "value"] [] := T.F_Prices_contains.bindsN fun _ _ _ _ _ _ us hl => match us, hl with | [_, _], _ => rfl
theorem b_require_prices (T : Txt K mg) : Binds K T.d_require_prices ["value"] [] := T.F_require_prices.bindsN fun _ _ _ _ _ _ us hl => match us, hl with | [_], _ => rfl
theorem b_useful_states (T : Txt K mg) : Binds K T.d_useful_states ["moves", "lasts"] [] := T.F_useful_states.bindsN fun _ _ _ _ _ _ us hl => match us, hl with | [_, _], _ => rfl
theorem b_are_useful (T : Txt K mg) : Binds K T.d_are_useful ["moves", "lasts"] [] := T.F_are_useful.bindsN fun _ _ _ _ _ _ us hl => match us, hl with | [_, _], _ => rfl
theorem b_is_state (T : Txt K mg) : Binds K T.d_is_state ["value", "many"] [] := T.F_is_state.bindsN fun _ _ _ _ _ _ us hl => match us, hl with | [_, _], _ => rfl
theorem b_are_states (T : Txt K mg) : Binds K T.d_are_states ["value"] [] := T.F_are_states.bindsN fun _ _ _ _ _ _ us hl => match us, hl with | [_], _ => rfl
theorem b_in_order (T : Txt K mg) : Binds K T.d_in_order ["moves"] [] := T.F_in_order.bindsN fun _ _ _ _ _ _ us hl => match us, hl with | [_], _ => rfl
theorem b_Form_init (T : Txt K mg) : Binds K T.d_Form_init ["self", "states"] [] := T.F_Form_init.bindsN fun _ _ _ _ _ _ us hl => match us, hl with | [_, _], _ => rfl
theorem b_Form_signs (T : Txt K mg) : Binds K T.d_Form_signs ["self"] [] := T.F_Form_signs.bindsN fun _ _ _ _ _ _ us hl => match us, hl with | [_], _ => rfl
theorem b_Form_len (T : Txt K mg) : Binds K T.d_Form_len ["self"] [] := T.F_Form_len.bindsN fun _ _ _ _ _ _ us hl => match us, hl with | [_], _ => rfl
theorem b_require_form (T : Txt K mg) : Binds K T.d_require_form ["value"] [] := T.F_require_form.bindsN fun _ _ _ _ _ _ us hl => match us, hl with | [_], _ => rfl
theorem b_require_small (T : Txt K mg) : Binds K T.d_require_small ["form"] [] := T.F_require_small.bindsN fun _ _ _ _ _ _ us hl => match us, hl with | [_], _ => rfl
theorem b_require_priced (T : Txt K mg) : Binds K T.d_require_priced ["prices", "signs"] [] := T.F_require_priced.bindsN fun _ _ _ _ _ _ us hl => match us, hl with | [_, _], _ => rfl
theorem b_lowered_ways (T : Txt K mg) : Binds K T.d_lowered_ways ["ways", "middle"] [] := T.F_lowered_ways.bindsN fun _ _ _ _ _ _ us hl => match us, hl with | [_, _], _ => rfl
theorem b_put_ways (T : Txt K mg) : Binds K T.d_put_ways ["moves", "puts", "far"] [] := T.F_put_ways.bindsN fun _ _ _ _ _ _ us hl => match us, hl with | [_, _, _], _ => rfl
theorem b_Steps_init (T : Txt K mg) : Binds K T.d_Steps_init ["self", "target", "prices"] [] := T.F_Steps_init.bindsN fun _ _ _ _ _ _ us hl => match us, hl with | [_, _, _], _ => rfl
theorem b_Steps_price_of_swap (T : Txt K mg) : Binds K T.d_Steps_price_of_swap ["self", "sign", "other"] [] := T.F_Steps_price_of_swap.bindsN fun _ _ _ _ _ _ us hl => match us, hl with | [_, _, _], _ => rfl
theorem b_Steps_filled (T : Txt K mg) : Binds K T.d_Steps_filled ["self", "row"] [] := T.F_Steps_filled.bindsN fun _ _ _ _ _ _ us hl => match us, hl with | [_, _], _ => rfl
theorem b_Steps_behind (T : Txt K mg) : Binds K T.d_Steps_behind ["self", "row", "sign"] [] := T.F_Steps_behind.bindsN fun _ _ _ _ _ _ us hl => match us, hl with | [_, _, _], _ => rfl
theorem b_Steps_end (T : Txt K mg) : Binds K T.d_Steps_end ["self", "row"] [] := T.F_Steps_end.bindsN fun _ _ _ _ _ _ us hl => match us, hl with | [_, _], _ => rfl
theorem b_Steps_row_of_word (T : Txt K mg) : Binds K T.d_Steps_row_of_word ["self", "word"] [] := T.F_Steps_row_of_word.bindsN fun _ _ _ _ _ _ us hl => match us, hl with | [_, _], _ => rfl
theorem b_is_plain_row (T : Txt K mg) : Binds K T.d_is_plain_row ["value"] [] := T.F_is_plain_row.bindsN fun _ _ _ _ _ _ us hl => match us, hl with | [_], _ => rfl
theorem b_require_plain_row (T : Txt K mg) : Binds K T.d_require_plain_row ["value"] [] := T.F_require_plain_row.bindsN fun _ _ _ _ _ _ us hl => match us, hl with | [_], _ => rfl
theorem b_require_row (T : Txt K mg) : Binds K T.d_require_row ["target", "value"] [] := T.F_require_row.bindsN fun _ _ _ _ _ _ us hl => match us, hl with | [_, _], _ => rfl
theorem b_is_row (T : Txt K mg) : Binds K T.d_is_row ["target", "value"] [] := T.F_is_row.bindsN fun _ _ _ _ _ _ us hl => match us, hl with | [_, _], _ => rfl
theorem b_start_row (T : Txt K mg) : Binds K T.d_start_row ["target", "prices"] [] := T.F_start_row.bindsN fun _ _ _ _ _ _ us hl => match us, hl with | [_, _], _ => rfl
theorem b_row_of (T : Txt K mg) : Binds K T.d_row_of ["target", "prices", "word"] [] := T.F_row_of.bindsN fun _ _ _ _ _ _ us hl => match us, hl with | [_, _, _], _ => rfl
theorem b_row_behind (T : Txt K mg) : Binds K T.d_row_behind ["target", "prices", "row", "sign"] [] := T.F_row_behind.bindsN fun _ _ _ _ _ _ us hl => match us, hl with | [_, _, _, _], _ => rfl
theorem b_end_cost (T : Txt K mg) : Binds K T.d_end_cost ["target", "row"] [] := T.F_end_cost.bindsN fun _ _ _ _ _ _ us hl => match us, hl with | [_, _], _ => rfl
theorem b_cut_row (T : Txt K mg) : Binds K T.d_cut_row ["row", "limit"] [] := T.F_cut_row.bindsN fun _ _ _ _ _ _ us hl => match us, hl with | [_, _], _ => rfl
theorem b_stands_above (T : Txt K mg) : Binds K T.d_stands_above ["one", "other"] [] := T.F_stands_above.bindsN fun _ _ _ _ _ _ us hl => match us, hl with | [_, _], _ => rfl
theorem b_cost_in (T : Txt K mg) : Binds K T.d_cost_in ["steps", "word"] [] := T.F_cost_in.bindsN fun _ _ _ _ _ _ us hl => match us, hl with | [_, _], _ => rfl
theorem b_require_cost (T : Txt K mg) : Binds K T.d_require_cost ["word", "target", "prices"] [] := T.F_require_cost.bindsN fun _ _ _ _ _ _ us hl => match us, hl with | [_, _, _], _ => rfl
theorem b_cost (T : Txt K mg) : Binds K T.d_cost ["word", "target", "prices"] [] := T.F_cost.bindsN fun _ _ _ _ _ _ us hl => match us, hl with | [_, _, _], _ => rfl
theorem b__law_dice (T : Txt K mg) : Binds K T.d__law_dice ["script", "spot"] [] := T.F__law_dice.bindsN fun _ _ _ _ _ _ us hl => match us, hl with | [_, _], _ => rfl
theorem b__law_roll (T : Txt K mg) : Binds K T.d__law_roll ["dice", "total"] [] := T.F__law_roll.bindsN fun _ _ _ _ _ _ us hl => match us, hl with | [_, _], _ => rfl
theorem b__law_pick (T : Txt K mg) : Binds K T.d__law_pick ["dice", "items"] [] := T.F__law_pick.bindsN fun _ _ _ _ _ _ us hl => match us, hl with | [_, _], _ => rfl
theorem b__law_trimmed (T : Txt K mg) : Binds K T.d__law_trimmed ["states"] [] := T.F__law_trimmed.bindsN fun _ _ _ _ _ _ us hl => match us, hl with | [_], _ => rfl
theorem b__law_machine (T : Txt K mg) : Binds K T.d__law_machine ["dice", "signs", "most"] [] := T.F__law_machine.bindsN fun _ _ _ _ _ _ us hl => match us, hl with | [_, _, _], _ => rfl
theorem b__law_closed (T : Txt K mg) : Binds K T.d__law_closed ["rows"] [] := T.F__law_closed.bindsN fun _ _ _ _ _ _ us hl => match us, hl with | [_], _ => rfl
theorem b__law_ways (T : Txt K mg) : Binds K T.d__law_ways ["states", "closed"] [] := T.F__law_ways.bindsN fun _ _ _ _ _ _ us hl => match us, hl with | [_, _], _ => rfl
theorem b__law_prices (T : Txt K mg) : Binds K T.d__law_prices ["dice", "signs"] [] := T.F__law_prices.bindsN fun _ _ _ _ _ _ us hl => match us, hl with | [_, _], _ => rfl
theorem b__law_price (T : Txt K mg) : Binds K T.d__law_price ["closed", "one", "other"] [] := T.F__law_price.bindsN fun _ _ _ _ _ _ us hl => match us, hl with | [_, _, _], _ => rfl
theorem b__law_end (T : Txt K mg) : Binds K T.d__law_end ["target", "row"] [] := T.F__law_end.bindsN fun _ _ _ _ _ _ us hl => match us, hl with | [_, _], _ => rfl
theorem b__law_least (T : Txt K mg) : Binds K T.d__law_least ["target", "ways", "many"] [] := T.F__law_least.bindsN fun _ _ _ _ _ _ us hl => match us, hl with | [_, _, _], _ => rfl
theorem b__law_behind (T : Txt K mg) : Binds K T.d__law_behind ["target", "closed", "ways", "row", "sign"] [] := T.F__law_behind.bindsN fun _ _ _ _ _ _ us hl => match us, hl with | [_, _, _, _, _], _ => rfl
theorem b__law_any_row (T : Txt K mg) : Binds K T.d__law_any_row ["dice", "size"] [] := T.F__law_any_row.bindsN fun _ _ _ _ _ _ us hl => match us, hl with | [_, _], _ => rfl
theorem b__law_is_over (T : Txt K mg) : Binds K T.d__law_is_over ["one", "other"] [] := T.F__law_is_over.bindsN fun _ _ _ _ _ _ us hl => match us, hl with | [_, _], _ => rfl
theorem b__law_word_right (T : Txt K mg) : Binds K T.d__law_word_right ["dice", "signs", "target", "form", "prices", "closed"] [] := T.F__law_word_right.bindsN fun _ _ _ _ _ _ us hl => match us, hl with | [_, _, _, _, _, _], _ => rfl
theorem b__law_any_right (T : Txt K mg) : Binds K T.d__law_any_right ["dice", "signs", "target", "form", "prices", "closed"] [] := T.F__law_any_right.bindsN fun _ _ _ _ _ _ us hl => match us, hl with | [_, _, _, _, _, _], _ => rfl
theorem b__law_right (T : Txt K mg) : Binds K T.d__law_right ["dice"] [] := T.F__law_right.bindsN fun _ _ _ _ _ _ us hl => match us, hl with | [_], _ => rfl
theorem b_law (T : Txt K mg) : Binds K T.d_law ["script"] [] := T.F_law.bindsN fun _ _ _ _ _ _ us hl => match us, hl with | [_], _ => rfl
end
end K7
end

section
set_option Elab.async false
set_option linter.all false
set_option maxRecDepth 100000
/-! The rules again, with the written part named: in a comprehension's block it is not to be read off the block's own context. -/
namespace K7
open PySem PySem.Spec PyProof.Rows L2 SlX
section
variable {X : Cx} (K : PySem.W.Frag)
theorem ix_listK (h : X.K = K := by rfl) : IxR X (rIxL K) := h ▸ ix_list
theorem ix_tupK (h : X.K = K := by rfl) : IxR X (rIxT K) := h ▸ ix_tup
theorem ix_seqK (h : X.K = K := by rfl) : IxR X (rIx K) := h ▸ ix_seq
theorem sl_listK (h : X.K = K := by rfl) : SlR X (rSlL K) := h ▸ sl_list
theorem sl_tupAK (h : X.K = K := by rfl) : L2.SlR X (rSlA K) := h ▸ sl_tupA
theorem op_inK (h : X.K = K := by rfl) : OpR X (compareOp .In) (rIn K false) := h ▸ op_in_seq
theorem op_notInK (h : X.K = K := by rfl) : OpR X (compareOp .NotIn) (rIn K true) := h ▸ op_notIn_seq
theorem op_eqDK (hu : X.A.units + 64 < cLine) (h : X.K = K := by rfl) : OpR X (compareOp .Eq) (rEqD K) := h ▸ op_eqD hu
theorem op_neDK (hu : X.A.units + 64 < cLine) (h : X.K = K := by rfl) : OpR X (compareOp .NotEq) (rNeD K) := h ▸ op_neD hu
theorem call_isiK2 (h : X.K = K := by rfl) : CallR X (.builtin "isinstance") (rIsi K) := h ▸ call_isi
theorem call_isiSlK (u : Value) (h : X.K = K := by rfl) : CallR X (.builtin "isinstance") (rIsiSl K u) := h ▸ call_isiSl u
theorem cr_sumK (hc : X.calm = true) (h : X.K = K := by rfl) : CallR X (.builtin "sum") (rSum K) := h ▸ cr_sum hc
theorem cr_maxK (hc : X.calm = true) (h : X.K = K := by rfl) : CallR X (.builtin "max") (rMax K) := h ▸ cr_max hc
theorem cr_minK (hc : X.calm = true) (h : X.K = K := by rfl) : CallR X (.builtin "min") (rMin K) := h ▸ cr_min hc
theorem cr_anyK (hc : X.calm = true) (h : X.K = K := by rfl) : CallR X (.builtin "any") (rAny K) := h ▸ cr_any hc
theorem cr_allK (hc : X.calm = true) (h : X.K = K := by rfl) : CallR X (.builtin "all") (rAll K) := h ▸ cr_all hc
theorem mt_indexK (h : X.K = K := by rfl) : MtR X "list.index" (rIndex K) := h ▸ mt_index
def rLenQ (K : PySem.W.Frag) : List V → Hp → VK → Prop := fun xs H Q => ∃ p ys, xs = [.ref p] ∧ (SqL K H p ys ∨ SqT K H p ys) ∧ Q (.int ys.length) H
theorem call_lenK (h : X.K = K := by rfl) : CallR X (.builtin "len") (rLenQ K) := h ▸ call_len_seq
def rListQ (K : PySem.W.Frag) : List V → Hp → VK → Prop := fun xs H Q => ∃ p ys, xs = [.ref p] ∧ (SqL K H p ys ∨ SqT K H p ys) ∧ ∀ l, H l = none → Q (.ref l) (upd H l (.lst ys))
theorem call_listK (h : X.K = K := by rfl) : CallR X (.type "list") (rListQ K) := h ▸ call_list_of
def rTupQ (K : PySem.W.Frag) : List V → Hp → VK → Prop := fun xs H Q => ∃ p ys, xs = [.ref p] ∧ ((SqL K H p ys ∧ ∀ l, H l = none → Q (.ref l) (upd H l (.tup ys))) ∨ (SqT K H p ys ∧ Q (.ref p) H))
theorem call_tupK (h : X.K = K := by rfl) : CallR X (.type "tuple") (rTupQ K) := h ▸ call_tuple_of
theorem pe_slK {e : Expr} {f : Str} {pos : Pos} {ta : TE} (he : PE X e ta) (h : X.K = K := by rfl) (hb : attributeBase e f X.env (eval e X.env) = eval e X.env := by rfl) : PE X (.Attribute e f pos) (tSl K ta f) := h ▸ pe_sl he hb
theorem pi_listK {tg l : Expr} {tl : TE} (hl : PE X l tl) (h : X.K = K := by rfl) : PI X tg l (iList K tl) := h ▸ pi_list hl
theorem pi_tupK {tg l : Expr} {tl : TE} (hl : PE X l tl) (h : X.K = K := by rfl) : PI X tg l (iTup K tl) := h ▸ pi_tup hl
theorem pg_tupK {es : List Expr} {k : Nat} {pos : Pos} {t : TGs} {n : Nat} (hc : X.calm = true) (ht : PGs X es t) (h : X.K = K := by rfl)
    (hn : (assignEach es X.env).length = n := by rfl) (hst : (assignEach es X.env).findIdx? (·.1) = none := by rfl) : PG X (.Tuple es k pos) (gTup K n t) := h ▸ pg_tup hc ht hn hst
theorem pi_enumK {e : Expr} {ta : TA} {p pos tpos : Pos} {elts : List Expr} {kk : Nat} (hg : Gl X "enumerate") (hm : X.mg "enumerate" = none) (ha : PA X [e] ta) (h : X.K = K := by rfl) (hs : starEach [e] X.env = [(false, eval e X.env)] := by rfl) :
    PI X (.Tuple elts kk tpos) (.Call (.Name "enumerate" p) [e] [] pos) (iEnum K ta) := h ▸ pi_enum hg hm ha hs
theorem pi_zipK {e e2 : Expr} {ta : TA} {p pos tpos : Pos} {elts : List Expr} {kk : Nat} (hg : Gl X "zip") (hm : X.mg "zip" = none) (ha : PA X [e, e2] ta) (h : X.K = K := by rfl)
    (hs : starEach [e, e2] X.env = (false, eval e X.env) :: starEach [e2] X.env := by rfl) (hpl : (backTo pos (starEach [e2] X.env)).any (·.1) = false := by rfl) :
    PI X (.Tuple elts kk tpos) (.Call (.Name "zip" p) [e, e2] [] pos) (RZ.iZipA K ta) := h ▸ RZ.pi_zipA hg hm ha hs hpl
theorem pe_bmK {T : String} {name : Str} {id : String} {r : V → List V → Hp → VK → Prop} {o e : Expr} {es : List Expr} {to : TE} {t : TA} {apos cpos : Pos}
    (pa : PlainAttrs T) (slot : Slot T name id) (hty : typeOf (.builtin id) = pure (.type "method_descriptor")) (hm : MtR X id r) (ho : PE X o to) (ha : PA X (e :: es) t) (h : X.K = K := by rfl)
    (h1 : attributeBase o name X.env (eval o X.env) = eval o X.env := by rfl)
    (h2 : ((backTo cpos (starEach (e :: es) X.env)).all (fun x => !x.1) && (backToKw cpos (keywordEach [] X.env)).all (fun x => x.1.isSome) && decide ((e :: es).length + ([] : List Keyword).length + (if ([] : List Keyword).isEmpty then 0 else 1) < 30)) = true := by rfl)
    (h3 : (apos.endLine == cpos.line) = true := by rfl) (h4 : starEach (e :: es) X.env = (false, eval e X.env) :: starEach es X.env := by rfl) (h5 : (backTo cpos (starEach es X.env)).any (·.1) = false := by rfl) :
    PE X (.Call (.Attribute o name apos) (e :: es) [] cpos) (tBM K T r to t) := h ▸ pe_bm pa slot hty hm ho ha h1 h2 h3 h4 h5
end
end K7
end

section
set_option Elab.async false
set_option linter.all false
set_option maxRecDepth 100000
/-! Loops and comprehensions over anything that stands still. -/
namespace K7
open PySem PySem.Spec PyProof.Rows L2
theorem bl_of {Q : VK} {H : Hp} {b c : Bool} (e : b = c) (q : Q (.bl c) H) : Q (.bl b) H := e ▸ q
theorem int_of {Q : VK} {H : Hp} {b c : Int} (e : b = c) (q : Q (.int c) H) : Q (.int b) H := e ▸ q
/-- J walks n items while S holds; the i-th is told by it -/
structure Wk (J : It) (n : Nat) (S : Hp → Prop) (it : Nat → V → Hp → Hp → Prop) : Prop where
  go : ∀ i H, S H → i < n → J.go i H
  stop : ∀ H, S H → J.stop n H
  yld : ∀ i H x H', S H → i < n → J.yld i H x H' → it i x H H'
section
variable {K : PySem.W.Frag}
theorem getE_of {α : Type} {xs : List α} {i : Nat} (h : i < xs.length) : ∃ x, xs[i]? = some x := ⟨xs[i], by simp [h]⟩
theorem Wk.list {a : Addr} {xs : List V} : Wk (Itl K a) xs.length (fun H => SqL K H a xs) (fun i x H H' => H' = H ∧ xs[i]? = some x) where
  go := fun i H s h => let ⟨x, e⟩ := getE_of h; ⟨xs, x, s, e⟩
  stop := fun H s => ⟨xs, s, Nat.le_refl _⟩
  yld := fun i H x H' s _ y => ⟨y.1, y.2 xs s⟩
theorem Wk.tup {a : Addr} {xs : List V} : Wk (Itt K a) xs.length (fun H => SqT K H a xs) (fun i x H H' => H' = H ∧ xs[i]? = some x) where
  go := fun i H s h => let ⟨x, e⟩ := getE_of h; ⟨xs, x, s, e⟩
  stop := fun H s => ⟨xs, s, Nat.le_refl _⟩
  yld := fun i H x H' s _ y => ⟨y.1, y.2 xs s⟩
theorem Wk.range {lo : Int} {n : Nat} : Wk (Itr lo n) n (fun _ => True) (fun i x H H' => H' = H ∧ x = .int (lo + i)) where
  go := fun i H _ h => h
  stop := fun H _ => Nat.le_refl _
  yld := fun i H x H' _ _ y => y
theorem Wk.text {z : Str} : Wk (Its z) z.cps.size (fun _ => True) (fun i x H H' => H' = H ∧ ∃ c, z.cps[i]? = some c ∧ x = .str ⟨#[c]⟩) where
  go := fun i H _ h => h
  stop := fun H _ => Nat.le_refl _
  yld := fun i H x H' _ _ y => y
theorem Wk.keys {d : Addr} {o : Obj} {kvs : List (Key × V)} : Wk (Itk d o kvs) kvs.length (fun H => H d = some (.frz o (.dK kvs))) (fun i x H H' => H' = H ∧ ∃ k v, kvs[i]? = some (k, v) ∧ x = kV k) where
  go := fun i H s h => ⟨s, h⟩
  stop := fun H s => ⟨s, Nat.le_refl _⟩
  yld := fun i H x H' _ _ y => y
theorem Wk.keysT {d : Addr} {o : Obj} {kvs : List (List Key × V)} : Wk (Itkt d o kvs) kvs.length (fun H => H d = some (.frz o (.dT kvs))) (fun i x H H' => H' = H ∧ ∃ (k : List Key) (v : V) (q : Addr), kvs[i]? = some (k, v) ∧ x = .ref q ∧ H q = some (.tup (k.map kV))) where
  go := fun i H s h => ⟨s, h⟩
  stop := fun H s => ⟨s, Nat.le_refl _⟩
  yld := fun i H x H' _ _ y => y
theorem Wk.vals {d : Addr} {o : Obj} {kvs : List (Key × V)} : Wk (Itd d o kvs) kvs.length (fun H => H d = some (.frz o (.dK kvs))) (fun i x H H' => H' = H ∧ ∃ k, kvs[i]? = some (k, x)) where
  go := fun i H s h => ⟨s, h⟩
  stop := fun H s => ⟨s, Nat.le_refl _⟩
  yld := fun i H x H' _ _ y => y
theorem Wk.items {d : Addr} {o : Obj} {kvs : List (Key × V)} : Wk (Iti d o kvs) kvs.length (fun H => H d = some (.frz o (.dK kvs))) (fun i x H H' => ∃ T k v, kvs[i]? = some (k, v) ∧ x = .ref T ∧ H T = none ∧ H' = upd H T (.tup [kV k, v])) where
  go := fun i H s h => ⟨s, h⟩
  stop := fun H s => ⟨s, Nat.le_refl _⟩
  yld := fun i H x H' _ _ y => y
theorem Wk.enum {a : Addr} {xs : List V} : Wk (Ite K a) xs.length (fun H => SqL K H a xs) (fun i v H H' => ∃ T x, v = .ref T ∧ H T = none ∧ H' = upd H T (.tup [.int (i : Nat), x]) ∧ xs[i]? = some x) where
  go := fun i H s h => let ⟨x, e⟩ := getE_of h; ⟨xs, x, s, e⟩
  stop := fun H s => ⟨xs, s, Nat.le_refl _⟩
  yld := fun i H v H' s _ ⟨T, x, h1, h2, h3, h4⟩ => ⟨T, x, h1, h2, h3, h4 xs s⟩
theorem Wk.zip {a b : Addr} {xs ys : List V} (hl : xs.length = ys.length) : Wk (Itz K a b) xs.length (fun H => SqL K H a xs ∧ SqL K H b ys) (fun i v H H' => ∃ T x y, v = .ref T ∧ H T = none ∧ H' = upd H T (.tup [x, y]) ∧ xs[i]? = some x ∧ ys[i]? = some y) where
  go := fun i H s h => let ⟨x, e⟩ := getE_of h; let ⟨y, e'⟩ := getE_of (xs := ys) (by omega : i < ys.length); ⟨xs, ys, x, y, s.1, s.2, e, e'⟩
  stop := fun H s => ⟨xs, ys, s.1, s.2, .inl (Nat.le_refl _)⟩
  yld := fun i H v H' s _ ⟨T, x, y, h1, h2, h3, h4, h5⟩ => ⟨T, x, y, h1, h2, h3, h4 xs s.1, h5 ys s.2⟩
theorem Wk.zipT {a b : Addr} {xs ys : List V} (hl : xs.length = ys.length) : Wk (RZ.ItzT K a b) xs.length (fun H => SqT K H a xs ∧ SqT K H b ys) (fun i v H H' => ∃ T x y, v = .ref T ∧ H T = none ∧ H' = upd H T (.tup [x, y]) ∧ xs[i]? = some x ∧ ys[i]? = some y) where
  go := fun i H s h => let ⟨x, e⟩ := getE_of h; let ⟨y, e'⟩ := getE_of (xs := ys) (by omega : i < ys.length); ⟨xs, ys, x, y, s.1, s.2, e, e'⟩
  stop := fun H s => ⟨xs, ys, s.1, s.2, .inl (Nat.le_refl _)⟩
  yld := fun i H v H' s _ ⟨T, x, y, h1, h2, h3, h4, h5⟩ => ⟨T, x, y, h1, h2, h3, h4 xs s.1, h5 ys s.2⟩
end
/-- a for statement -/
theorem for_wk {J : It} {n : Nat} {S : Hp → Prop} {it : Nat → V → Hp → Hp → Prop} {g : TG} {tb : TS} {D : L2.Ends} {σ : L2.St} {H : Hp} (k : Wk J n S it) (Pv : Nat → L2.St → Hp → Prop) (h0 : Pv 0 σ H) (hS : ∀ i σ H, i ≤ n → Pv i σ H → S H)
    (hs : ∀ i x σ H H', i < n → Pv i σ H → it i x H H' → g x σ H' fun σ2 H2 => tb { D with nx := Pv (i + 1), ct := Pv (i + 1), bk := D.nx } σ2 H2) (hd : ∀ σ H, Pv n σ H → D.nx σ H) :
    ∃ W : Nat → Nat → L2.St → Hp → Prop, (∃ m, W 0 m σ H) ∧ ∀ i m σ H, W i m σ H →
      (J.stop i H ∧ D.nx σ H) ∨ (J.go i H ∧ ∃ N : L2.St → Hp → Prop, (∀ σ' H', N σ' H' → ∃ m', m' < m ∧ W (i + 1) m' σ' H') ∧ ∀ x H', J.yld i H x H' → g x σ H' fun σ2 H2 => tb { D with nx := N, ct := N, bk := D.nx } σ2 H2) := by
  refine ⟨fun i m σ H => m = n - i ∧ i ≤ n ∧ Pv i σ H, ⟨n, by simp, Nat.zero_le _, h0⟩, ?_⟩
  rintro i m σ H ⟨rfl, hi, p⟩
  have s := hS i σ H hi p
  by_cases hlt : i < n
  · exact .inr ⟨k.go i H s hlt, Pv (i + 1), fun σ' H' p' => ⟨n - (i + 1), by omega, rfl, hlt, p'⟩, fun x H' y => hs i x σ H H' hlt p (k.yld i H x H' s hlt y)⟩
  · have e : i = n := by omega
    subst e
    exact .inl ⟨k.stop H s, hd σ H p⟩
/-- a list comprehension's state: R tells what is made so far; it must not speak of D -/
def LcP (H1 : Hp) (D : Addr) (R : Nat → List V → Hp → Prop) (i : Nat) (H : Hp) : Prop := ∃ l, Same H1 H ∧ H D = some (.lst l) ∧ l.length ≤ i ∧ R i l H
/-- R does not look at D -/
def Off (D : Addr) (R : Nat → List V → Hp → Prop) : Prop := ∀ i l H H', (∀ b o, b ≠ D → H b = some o → H' b = some o) → R i l H → R i l H'
theorem lc_put {H1 H4 : Hp} {D : Addr} {R : Nat → List V → Hp → Prop} {i : Nat} {l : List V} {y : V} (of : Off D R) (hD : H1 D = none) (hi : i < 100000) (sm : Same H1 H4) (hl : H4 D = some (.lst l)) (hz : l.length ≤ i) (r : R (i + 1) (l ++ [y]) H4) :
    ∃ acc, H4 D = some (.lst acc) ∧ acc.length < sizeLine ∧ LcP H1 D R (i + 1) (upd H4 D (.lst (acc ++ [y]))) :=
  ⟨l, hl, szlt (by omega), l ++ [y], same_mut sm hD, upd_same, by simp; omega, of _ _ H4 _ (fun b o hb e => by rw [upd_ne hb]; exact e) r⟩
theorem lc_wk {J : It} {n : Nat} {S : Hp → Prop} {it : Nat → V → Hp → Hp → Prop} {g : TG} {tt : TT} {te : TE} {vs : List Nat} {σ : L2.St} {H1 : Hp} {D : Addr} {Qd : Hp → Prop} (k : Wk J n S it) (hD : H1 D = none)
    (R : Nat → List V → Hp → Prop) (of : Off D R) (r0 : R 0 [] H1) (hS : ∀ H, Same H1 H → S H)
    (hs : ∀ i l x H H', i < n → Same H1 H → H D = some (.lst l) → l.length ≤ i → R i l H → it i x H H' → g x (wipe σ vs) H' fun σ2 H2 => wipe σ2 vs = wipe σ vs ∧ tt σ2 H2 fun b H3 =>
      if b = true then te σ2 H3 fun y H4 => ∃ acc, H4 D = some (.lst acc) ∧ acc.length < sizeLine ∧ LcP H1 D R (i + 1) (upd H4 D (.lst (acc ++ [y]))) else LcP H1 D R (i + 1) H3)
    (hd : ∀ l H, Same H1 H → H D = some (.lst l) → l.length ≤ n → R n l H → Qd H) :
    ∃ W : Nat → Nat → Hp → Prop, (∃ m, W 0 m (upd H1 D (.lst []))) ∧ ∀ i m H, W i m H →
      (J.stop i H ∧ Qd H) ∨ (J.go i H ∧ ∃ Nx : Hp → Prop, (∀ H', Nx H' → ∃ m', m' < m ∧ W (i + 1) m' H') ∧ ∀ x H', J.yld i H x H' → g x (wipe σ vs) H' fun σ2 H2 => wipe σ2 vs = wipe σ vs ∧ tt σ2 H2 fun b H3 =>
        if b = true then te σ2 H3 fun y H4 => ∃ acc, H4 D = some (.lst acc) ∧ acc.length < sizeLine ∧ Nx (upd H4 D (.lst (acc ++ [y]))) else Nx H3) := by
  refine ⟨fun i m H => m = n - i ∧ i ≤ n ∧ LcP H1 D R i H, ⟨n, by simp, Nat.zero_le _, [], same_upd hD, upd_same, Nat.le_refl _, of _ _ H1 _ (fun b o hb e => by rw [upd_ne hb]; exact e) r0⟩, ?_⟩
  rintro i m H ⟨rfl, hi, l, sm, hl, hz, r⟩
  have s := hS H sm
  by_cases hlt : i < n
  · exact .inr ⟨k.go i H s hlt, LcP H1 D R (i + 1), fun H' p => ⟨n - (i + 1), by omega, rfl, hlt, p⟩, fun x H' y => hs i l x H H' hlt sm hl hz r (k.yld i H x H' s hlt y)⟩
  · have e : i = n := by omega
    subst e
    exact .inl ⟨k.stop H s, hd l H sm hl hz r⟩
theorem seqT {K : PySem.W.Frag} {H H' : Hp} {a : Addr} {xs : List V} (e : Same H H') (h : SqT K H a xs) : SqT K H' a xs := by
  rcases h with (h | ⟨o, h⟩) | h
  · exact .inl (.inl (e _ _ h))
  · exact .inl (.inr ⟨o, e _ _ h⟩)
  · exact .inr h
theorem ite_of {c : Bool} {A B : Prop} (e : c = true) (h : A) : if c = true then A else B := by
  rw [if_pos e]
  exact h
theorem ite_no {c : Bool} {A B : Prop} (e : c = false) (h : B) : if c = true then A else B := by
  rw [if_neg (by rw [e]; decide)]
  exact h
/-- no test in a comprehension -/
theorem yes1 {te : TE} {σ : L2.St} {H : Hp} {P : V → Hp → Prop} {N : Hp → Prop} (h : te σ H P) : tYes σ H (fun b H3 => if b = true then te σ H3 P else N H3) := by
  show if true = true then te σ H P else N H
  rw [if_pos rfl]
  exact h
/-- the items are told ahead -/
theorem off_pure {D : Addr} {f : Nat → List V → Prop} : Off D (fun i l _ => f i l) := fun _ _ _ _ _ r => r
end K7
end

section
set_option Elab.async false
set_option linter.all false
set_option maxRecDepth 100000
namespace K7
open PySem PySem.Spec PyProof.Rows L2 SlX
/-! The walk: words, numbers. -/
/-- a sign of the program -/
def IsSg (x : Str) : Prop := ∃ c, 97 ≤ c ∧ c ≤ 101 ∧ x = ⟨#[c]⟩
def IsWd (x : Str) : Prop := ∀ c ∈ x.cps.toList, 97 ≤ c ∧ c ≤ 101
theorem sgs_in {c : Nat} (h : 97 ≤ c ∧ c ≤ 101) : decide (c ∈ (("abcde" : Str)).cps.toList) = true := by
  have e : (("abcde" : Str)).cps.toList = [97, 98, 99, 100, 101] := by decide +kernel
  rw [e]
  simp
  omega
/-- so many times True -/
abbrev Tru : Nat → List V → Hp → Prop := fun i l _ => l = (List.replicate i true).map V.bl
theorem tru_snoc {i : Nat} {l : List V} {H : Hp} {b : Bool} (h : Tru i l H) (e : b = true) : Tru (i + 1) (l ++ [.bl b]) H := by
  show l ++ [.bl b] = (List.replicate (i + 1) true).map V.bl
  rw [show l = (List.replicate i true).map V.bl from h, e, List.replicate_succ', List.map_append]
  rfl
theorem all_rep (n : Nat) : (List.replicate n true).all id = true := by simp
/-! ### is_integer -/
def sp_is_integer {K : PySem.W.Frag} {mg : Str → Option Value} (T : Txt K mg) : Sp := fun vs H Q _ => ∃ i : Int, vs = [.int i] ∧ -(10 ^ 60) < i ∧ i < 10 ^ 60 ∧ Q (.bl true) H
set_option maxHeartbeats 4000000 in
theorem ok_is_integer {P : Program} {w : World} {K : PySem.W.Frag} {mg : Str → Option Value} {base : Heap} (T : Txt K mg) : FnOk P w K mg base CX0 1 T.a_is_integer T.d_is_integer ["value"] (sp_is_integer T) := by
  refine T.F_is_integer.ok sc_is_integer (fun vs H Q E h => ?_) (fun cdv A outer s H vs Q E hr h => ?_)
  · obtain ⟨i, rfl, h1, h2, q⟩ := h
    rfl
  · obtain ⟨i, rfl, h1, h2, q⟩ := h
    refine ⟨_, PSs.nox (pss_one (ps_ret (pe_and (pe_callB (call_isiK2 K) (by rfl) T.n_isinstance (by decide +kernel) (pa_cons (pv 0) (pa_cons (pe_bltn (v := .ty "int") (by rfl) T.n_int (by decide +kernel) rfl) pa_nil))) (pe_and (pe_not (pe_callB (call_isiK2 K) (by rfl) T.n_isinstance (by decide +kernel) (pa_cons (pv 0) (pa_cons (pe_bltn (v := .ty "bool") (by rfl) T.n_bool (by decide +kernel) rfl) pa_nil)))) (pe_one (pe_chain op_lt op_lt (pe_un un_neg (pe_k (by rfl) T.c_GREATEST)) (pv 0) (pe_k (by rfl) T.c_GREATEST))))))), ?_⟩
    refine ⟨_, rfl, _, _, _, _, true, rfl, .ty _, .base (.int _), kit_ty (by decide +kernel), true, rfl, iteT ?_⟩
    refine ⟨_, rfl, _, _, _, _, false, rfl, .ty _, .base (.int _), kit_ty (by decide +kernel), false, rfl, true, rfl, iteT ?_⟩
    refine ⟨_, rfl, _, rfl, _, _, rfl, rfl, _, rfl, ?_⟩
    rw [decide_eq_true h1]
    refine iteT ⟨_, _, rfl, rfl, ?_⟩
    exact bl_of (decide_eq_true h2) q
/-! ### is_sign -/
def sp_is_sign {K : PySem.W.Frag} {mg : Str → Option Value} (T : Txt K mg) : Sp := fun vs H Q _ => ∃ x : Str, vs = [.str x] ∧ IsSg x ∧ Q (.bl true) H
set_option maxHeartbeats 4000000 in
theorem ok_is_sign {P : Program} {w : World} {K : PySem.W.Frag} {mg : Str → Option Value} {base : Heap} (T : Txt K mg) : FnOk P w K mg base CX0 1 T.a_is_sign T.d_is_sign ["value"] (sp_is_sign T) := by
  refine T.F_is_sign.ok sc_is_sign (fun vs H Q E h => ?_) (fun cdv A outer s H vs Q E hr h => ?_)
  · obtain ⟨x, rfl, hx, q⟩ := h
    rfl
  · obtain ⟨x, rfl, hx, q⟩ := h
    refine ⟨_, PSs.nox (pss_one (ps_ret (pe_and (pe_callB (call_isiK2 K) (by rfl) T.n_isinstance (by decide +kernel) (pa_cons (pv 0) (pa_cons (pe_bltn (v := .ty "str") (by rfl) T.n_str (by decide +kernel) rfl) pa_nil))) (pe_and (pe_cmpR op_eq (pe_callB call_len_str (by rfl) T.n_len (by decide +kernel) (pa_cons (pv 0) pa_nil)) pe_int (nomark _)) (pe_one (pe_cmpR op_in_sign (pv 0) (pe_k (by rfl) T.c_SIGNS) rfl)))))), ?_⟩
    obtain ⟨c, h1, h2, rfl⟩ := hx
    refine ⟨_, rfl, _, _, _, _, true, rfl, .ty _, .base (.str _), kit_ty (by decide +kernel), true, rfl, iteT ?_⟩
    refine ⟨_, rfl, _, rfl, szle (show 1 ≤ 100000 by decide), rfl, true, rfl, iteT ?_⟩
    refine ⟨_, rfl, c, _, rfl, rfl, ?_⟩
    exact bl_of (sgs_in ⟨h1, h2⟩) q
/-! ### is_word -/
def sp_is_word {K : PySem.W.Frag} {mg : Str → Option Value} (T : Txt K mg) : Sp := fun vs H Q _ => ∃ x : Str, vs = [.str x] ∧ IsWd x ∧ x.cps.size ≤ 1000 ∧ ∀ H', Same H H' → Q (.bl true) H'
set_option maxHeartbeats 4000000 in
theorem ok_is_word {P : Program} {w : World} {K : PySem.W.Frag} {mg : Str → Option Value} {base : Heap} (T : Txt K mg) : FnOk P w K mg base CX0 1 T.a_is_word T.d_is_word ["value"] (sp_is_word T) := by
  refine T.F_is_word.ok sc_is_word (fun vs H Q E h => ?_) (fun cdv A outer s H vs Q E hr h => ?_)
  · obtain ⟨x, rfl, hx, hz, q⟩ := h
    rfl
  · obtain ⟨x, rfl, hx, hz, q⟩ := h
    refine ⟨_, PSs.nox (pss_one (ps_ret (pe_and (pe_callB (call_isiK2 K) (by rfl) T.n_isinstance (by decide +kernel) (pa_cons (pv 0) (pa_cons (pe_bltn (v := .ty "str") (by rfl) T.n_str (by decide +kernel) rfl) pa_nil))) (pe_one (pe_callB (cr_allK K rfl) (by rfl) T.n_all (by decide +kernel) (pa_cons (pe_lc (own := [("sign", 1)]) rfl sc_is_word.nd (pi_str (pv 0)) (blkOk_by (own := [("sign", 1)]) (N := n_is_word) (sc := defScope s_is_word) (by decide +kernel)) (fun _ _ _ _ _ => (pg_name (i := 1) sc_is_word.nd rfl (by first | exact .inl rfl | exact .inr rfl))) (fun _ _ _ _ _ => pts_nil) (fun _ _ _ _ _ => (pe_cmpR op_in_sign (pv 1) (pe_k (by rfl) T.c_SIGNS) rfl))) pa_nil)))))), ?_⟩
    refine ⟨_, rfl, _, _, _, _, true, rfl, .ty _, .base (.str _), kit_ty (by decide +kernel), true, rfl, iteT ?_⟩
    refine ⟨_, rfl, _, rfl, fun D hD => ?_⟩
    refine lc_wk Wk.text hD Tru off_pure rfl (fun _ _ => trivial) ?_ ?_
    · rintro i l y H3 H4 hi sm hl hz' r ⟨rfl, c, hc, rfl⟩
      refine ⟨rfl, yes1 ?_⟩
      refine ⟨_, rfl, c, _, rfl, rfl, lc_put off_pure hD (by omega) sm hl hz' (tru_snoc r (sgs_in (hx c ?_)))⟩
      exact List.mem_of_getElem? (by rw [Array.getElem?_toList]; exact hc)
    · intro l H3 sm hl hz' r
      subst r
      exact ⟨_, _, rfl, sq hl, bl_of (all_rep _) (q _ sm)⟩
/-! ### require_word -/
def sp_require_word {K : PySem.W.Frag} {mg : Str → Option Value} (T : Txt K mg) : Sp := fun vs H Q _ => ∃ x : Str, vs = [.str x] ∧ IsWd x ∧ x.cps.size ≤ 1000 ∧ ∀ H', Same H H' → Q .non H'
set_option maxHeartbeats 4000000 in
theorem ok_require_word {P : Program} {w : World} {K : PySem.W.Frag} {mg : Str → Option Value} {base : Heap} (T : Txt K mg) : FnOk P w K mg base CX0 2 T.a_require_word T.d_require_word ["value"] (sp_require_word T) := by
  refine T.F_require_word.ok sc_require_word (fun vs H Q E h => ?_) (fun cdv A outer s H vs Q E hr h => ?_)
  · obtain ⟨x, rfl, hx, hz, q⟩ := h
    rfl
  · obtain ⟨x, rfl, hx, hz, q⟩ := h
    refine ⟨_, PSs.nox (pss_one (ps_if (PW.pt (pw_or (pt_not (pt_val (pe_call (ok_is_word T) (hr.mono (by decide)) (by rfl) T.g_is_word T.F_is_word.kp (b_is_word T) .nil pass0 (pa_cons (pv 0) pa_nil)))) (pw_or1 (pt_cmpR op_gt (pe_callB call_len_str (by rfl) T.n_len (by decide +kernel) (pa_cons (pv 0) pa_nil)) (pe_k (by rfl) T.c_MAX_WORD) (nomark _))))) pss_never pss_nil)), ?_⟩
    refine ⟨_, rfl, x, rfl, hx, hz, fun H' sm => ?_⟩
    refine ⟨true, rfl, iteF ⟨_, rfl, _, rfl, szle (show x.cps.size ≤ 100000 by omega), _, _, rfl, rfl, _, rfl, ?_⟩⟩
    have e : decide ((1000 : Int) < (x.cps.size : Int)) = false := decide_eq_false (by omega)
    show if decide ((1000 : Int) < (x.cps.size : Int)) = true then _ else _
    rw [e]
    exact iteF (q _ sm)
/-! ### require_number -/
def sp_require_number {K : PySem.W.Frag} {mg : Str → Option Value} (T : Txt K mg) : Sp := fun vs H Q _ => ∃ i a b : Int, vs = [.int i, .int a, .int b] ∧ 0 ≤ a ∧ a ≤ i ∧ i ≤ b ∧ b ≤ 1000000 ∧ Q .non H
set_option maxHeartbeats 4000000 in
theorem ok_require_number {P : Program} {w : World} {K : PySem.W.Frag} {mg : Str → Option Value} {base : Heap} (T : Txt K mg) : FnOk P w K mg base CX0 2 T.a_require_number T.d_require_number ["value", "low", "high"] (sp_require_number T) := by
  refine T.F_require_number.ok sc_require_number (fun vs H Q E h => ?_) (fun cdv A outer s H vs Q E hr h => ?_)
  · obtain ⟨i, a, b, rfl, h1, h2, h3, h4, q⟩ := h
    rfl
  · obtain ⟨i, a, b, rfl, h1, h2, h3, h4, q⟩ := h
    refine ⟨_, PSs.nox (pss_one (ps_if (PW.pt (pw_or (pt_not (pt_val (pe_call (ok_is_integer T) (hr.mono (by decide)) (by rfl) T.g_is_integer T.F_is_integer.kp (b_is_integer T) .nil pass0 (pa_cons (pv 0) pa_nil)))) (pw_or1 (pt_not (pt_chain op_le op_le (pv 1) (pv 0) (pv 2)))))) pss_never pss_nil)), ?_⟩
    refine ⟨_, rfl, i, rfl, by omega, by omega, true, rfl, iteF ?_⟩
    refine ⟨_, rfl, _, rfl, _, _, rfl, rfl, _, rfl, ?_⟩
    rw [decide_eq_true h2]
    refine iteT ⟨_, rfl, _, _, rfl, rfl, _, rfl, ?_⟩
    rw [decide_eq_true h3]
    exact iteF q
/-! ### is_price -/
def sp_is_price {K : PySem.W.Frag} {mg : Str → Option Value} (T : Txt K mg) : Sp := fun vs H Q _ => ∃ i b : Int, vs = [.int i, .int b] ∧ 1 ≤ i ∧ i ≤ b ∧ b ≤ 1000000 ∧ Q (.bl true) H
set_option maxHeartbeats 4000000 in
theorem ok_is_price {P : Program} {w : World} {K : PySem.W.Frag} {mg : Str → Option Value} {base : Heap} (T : Txt K mg) : FnOk P w K mg base CX0 2 T.a_is_price T.d_is_price ["value", "most"] (sp_is_price T) := by
  refine T.F_is_price.ok sc_is_price (fun vs H Q E h => ?_) (fun cdv A outer s H vs Q E hr h => ?_)
  · obtain ⟨i, b, rfl, h1, h2, h3, q⟩ := h
    rfl
  · obtain ⟨i, b, rfl, h1, h2, h3, q⟩ := h
    refine ⟨_, PSs.nox (pss_one (ps_ret (pe_and (pe_call (ok_is_integer T) (hr.mono (by decide)) (by rfl) T.g_is_integer T.F_is_integer.kp (b_is_integer T) .nil pass0 (pa_cons (pv 0) pa_nil)) (pe_one (pe_chain op_le op_le pe_int (pv 0) (pv 1)))))), ?_⟩
    refine ⟨_, rfl, i, rfl, by omega, by omega, true, rfl, iteT ?_⟩
    refine ⟨_, rfl, _, _, rfl, rfl, _, rfl, ?_⟩
    rw [decide_eq_true h1]
    refine iteT ⟨_, rfl, _, _, rfl, rfl, ?_⟩
    exact bl_of (decide_eq_true h2) q
end K7
end

section
set_option Elab.async false
set_option linter.all false
set_option maxRecDepth 100000
namespace K7
open PySem PySem.Spec PyProof.Rows L2 SlX
/-! The walk: pairs, plain rows. -/
/-! ### is_pair -/
def sp_is_pair {K : PySem.W.Frag} {mg : Str → Option Value} (T : Txt K mg) : Sp := fun vs H Q _ => ∃ (p d : Addr) (a b : Str) (kvs : List (Key × V)), vs = [.ref p, .ref d] ∧ H p = some (.tup [.str a, .str b]) ∧ H d = some (.dK kvs) ∧ IsSg a ∧ IsSg b ∧ a ≠ b ∧ (valV kvs (.inr a)).isSome = true ∧ (valV kvs (.inr b)).isSome = true ∧ ∀ H', Same H H' → Q (.bl true) H'
set_option maxHeartbeats 4000000 in
theorem ok_is_pair {P : Program} {w : World} {K : PySem.W.Frag} {mg : Str → Option Value} {base : Heap} (T : Txt K mg) : FnOk P w K mg base CX0 2 T.a_is_pair T.d_is_pair ["value", "signs"] (sp_is_pair T) := by
  refine T.F_is_pair.ok sc_is_pair (fun vs H Q E h => ?_) (fun cdv A outer s H vs Q E hr h => ?_)
  · obtain ⟨p, d, a, b, kvs, rfl, hp, hd, ga, gb, hab, va, vb, q⟩ := h
    rfl
  · obtain ⟨p, d, a, b, kvs, rfl, hp, hd, ga, gb, hab, va, vb, q⟩ := h
    refine ⟨_, PSs.nox (pss_cons (ps_if (PW.pt (pw_or (pt_not (pt_val (pe_callB (call_isiK2 K) (by rfl) T.n_isinstance (by decide +kernel) (pa_cons (pv 0) (pa_cons (pe_bltn (v := .ty "tuple") (by rfl) T.n_tuple (by decide +kernel) rfl) pa_nil))))) (pw_or (pt_cmpR op_ne (pe_callB (call_lenK K) (by rfl) T.n_len (by decide +kernel) (pa_cons (pv 0) pa_nil)) pe_int (nomark _)) (pw_or1 (pt_not (pt_val (pe_callB (cr_allK K rfl) (by rfl) T.n_all (by decide +kernel) (pa_cons (pe_lc (own := [("sign", 2)]) rfl sc_is_pair.nd (pi_tupK K (pv 0)) (blkOk_by (own := [("sign", 2)]) (N := n_is_pair) (sc := defScope s_is_pair) (by decide +kernel)) (fun _ _ _ _ _ => (pg_name (i := 2) sc_is_pair.nd rfl (by first | exact .inl rfl | exact .inr rfl))) (fun _ _ _ _ _ => pts_nil) (fun _ _ _ _ _ => (pe_call (ok_is_sign T) (hr.mono (by decide)) (by rfl) T.g_is_sign T.F_is_sign.kp (b_is_sign T) .nil pass0 (pa_cons (pv 2) pa_nil)))) pa_nil)))))))) (pss_one (ps_ret pe_bl)) pss_nil)
      (pss_one (ps_ret (pe_and (pe_cmp (pc_din (hu_of hr) (pe_ix (ix_tupK K) (pv 0) pe_int (fun _ _ => rfl)) (pv 1)) rfl) (pe_and (pe_cmp (pc_din (hu_of hr) (pe_ix (ix_tupK K) (pv 0) pe_int (fun _ _ => rfl)) (pv 1)) rfl) (pe_one (pe_cmpR op_ne (pe_ix (ix_tupK K) (pv 0) pe_int (fun _ _ => rfl)) (pe_ix (ix_tupK K) (pv 0) pe_int (fun _ _ => rfl)) (nomark _)))))))), ?_⟩
    refine ⟨_, rfl, _, _, _, _, true, rfl, .ty _, .base (.tup hp), kit_ty (by decide +kernel), true, rfl, iteF ?_⟩
    refine ⟨_, rfl, p, _, rfl, .inr (sqt hp), rfl, _, rfl, iteNS rfl ?_⟩
    refine ⟨_, rfl, _, rfl, ⟨_, sqt hp⟩, fun D hD => ?_⟩
    refine lc_wk Wk.tup hD Tru off_pure rfl (fun _ s => seqT s (sqt hp)) ?_ ?_
    · rintro i l y H3 H4 hi sm hl hz' r ⟨rfl, hy⟩
      have hs : ∃ x, y = .str x ∧ IsSg x := by
        match i, hy with
        | 0, e => exact ⟨a, (Option.some.inj e).symm, ga⟩
        | 1, e => exact ⟨b, (Option.some.inj e).symm, gb⟩
      obtain ⟨x, rfl, hx⟩ := hs
      refine ⟨rfl, yes1 ?_⟩
      exact ⟨_, rfl, x, rfl, hx, lc_put off_pure hD (by simp at hi; omega) sm hl hz' (tru_snoc r rfl)⟩
    · intro l H3 sm hl hz' r
      subst r
      refine ⟨_, _, rfl, sq hl, _, rfl, ite_no (by rw [all_rep]; rfl) ?_⟩
      refine ⟨_, rfl, p, _, _, _, rfl, rfl, sqt (sm _ _ hp), rfl, _, rfl, d, _, rfl, DGet.k (k := .inr a) (sm _ _ hd), _, rfl, ite_of va ?_⟩
      refine ⟨_, rfl, p, _, _, _, rfl, rfl, sqt (sm _ _ hp), rfl, _, rfl, d, _, rfl, DGet.k (k := .inr b) (sm _ _ hd), _, rfl, ite_of vb ?_⟩
      refine ⟨_, rfl, p, _, _, _, rfl, rfl, sqt (sm _ _ hp), rfl, _, rfl, p, _, _, _, rfl, rfl, sqt (sm _ _ hp), rfl, rfl, ?_⟩
      refine bl_of ?_ (q _ sm)
      rw [decide_eq_false (by intro e; injection e with e; exact hab e)]
      rfl
/-! ### is_plain_row -/
def sp_is_plain_row {K : PySem.W.Frag} {mg : Str → Option Value} (T : Txt K mg) : Sp := fun vs H Q _ => ∃ (p : Addr) (r : List Int), vs = [.ref p] ∧ H p = some (.tup (r.map V.int)) ∧ 1 ≤ r.length ∧ r.length ≤ 6 ∧ (∀ x ∈ r, 0 ≤ x ∧ x < 10000) ∧ ∀ H', Same H H' → Q (.bl true) H'
set_option maxHeartbeats 4000000 in
theorem ok_is_plain_row {P : Program} {w : World} {K : PySem.W.Frag} {mg : Str → Option Value} {base : Heap} (T : Txt K mg) : FnOk P w K mg base CX0 2 T.a_is_plain_row T.d_is_plain_row ["value"] (sp_is_plain_row T) := by
  refine T.F_is_plain_row.ok sc_is_plain_row (fun vs H Q E h => ?_) (fun cdv A outer s H vs Q E hr h => ?_)
  · obtain ⟨p, r, rfl, hp, h1, h2, hrow, q⟩ := h
    rfl
  · obtain ⟨p, r, rfl, hp, h1, h2, hrow, q⟩ := h
    refine ⟨_, PSs.nox (pss_cons (ps_if (PW.pt (pw_or (pt_not (pt_val (pe_callB (call_isiK2 K) (by rfl) T.n_isinstance (by decide +kernel) (pa_cons (pv 0) (pa_cons (pe_bltn (v := .ty "tuple") (by rfl) T.n_tuple (by decide +kernel) rfl) pa_nil))))) (pw_or1 (pt_not (pt_chain op_le op_le pe_int (pe_callB (call_lenK K) (by rfl) T.n_len (by decide +kernel) (pa_cons (pv 0) pa_nil)) (pe_k (by rfl) T.c_MAX_SIDE)))))) (pss_one (ps_ret pe_bl)) pss_nil)
      (pss_one (ps_ret (pe_callB (cr_allK K rfl) (by rfl) T.n_all (by decide +kernel) (pa_cons (pe_lc (own := [("number", 1)]) rfl sc_is_plain_row.nd (pi_tupK K (pv 0)) (blkOk_by (own := [("number", 1)]) (N := n_is_plain_row) (sc := defScope s_is_plain_row) (by decide +kernel)) (fun _ _ _ _ _ => (pg_name (i := 1) sc_is_plain_row.nd rfl (by first | exact .inl rfl | exact .inr rfl))) (fun _ _ _ _ _ => pts_nil) (fun _ _ _ _ _ => (pe_and (pe_call (ok_is_integer T) (hr.mono (by decide)) (by rfl) T.g_is_integer T.F_is_integer.kp (b_is_integer T) .nil pass0 (pa_cons (pv 1) pa_nil)) (pe_one (pe_chain op_le op_lt pe_int (pv 1) (pe_k (by rfl) T.c_BEYOND)))))) pa_nil))))), ?_⟩
    refine ⟨_, rfl, _, _, _, _, true, rfl, .ty _, .base (.tup hp), kit_ty (by decide +kernel), true, rfl, iteF ?_⟩
    have hl : ((r.map V.int).length : Int) = (r.length : Int) := by rw [List.length_map]
    refine ⟨_, rfl, p, _, rfl, .inr (sqt hp), _, _, rfl, rfl, _, rfl, ite_of (decide_eq_true (by omega)) ?_⟩
    refine ⟨_, _, rfl, rfl, _, rfl, ?_⟩
    refine ite_no (by rw [decide_eq_true (by omega)]; rfl) ?_
    refine ⟨_, rfl, _, rfl, ⟨_, sqt hp⟩, fun D hD => ?_⟩
    refine lc_wk Wk.tup hD Tru off_pure rfl (fun _ s => seqT s (sqt hp)) ?_ ?_
    · rintro i l y H3 H4 hi sm hl hz' r' ⟨rfl, hy⟩
      rw [List.getElem?_map] at hy
      cases e : r[i]? with
      | none => rw [e] at hy; cases hy
      | some x =>
        rw [e] at hy
        obtain rfl : V.int x = y := Option.some.inj hy
        obtain ⟨b1, b2⟩ := hrow x (List.mem_of_getElem? e)
        refine ⟨rfl, yes1 ?_⟩
        refine ⟨_, rfl, x, rfl, by omega, by omega, true, rfl, iteT ?_⟩
        refine ⟨_, rfl, _, _, rfl, rfl, _, rfl, ite_of (decide_eq_true b1) ?_⟩
        refine ⟨_, _, rfl, rfl, ?_⟩
        refine lc_put off_pure hD (by rw [List.length_map] at hi; omega) sm hl hz' (tru_snoc r' (decide_eq_true b2))
    · intro l H3 sm hl hz' r'
      subst r'
      exact ⟨_, _, rfl, sq hl, bl_of (all_rep _) (q _ sm)⟩
/-! ### require_plain_row -/
def sp_require_plain_row {K : PySem.W.Frag} {mg : Str → Option Value} (T : Txt K mg) : Sp := fun vs H Q _ => ∃ (p : Addr) (r : List Int), vs = [.ref p] ∧ H p = some (.tup (r.map V.int)) ∧ 1 ≤ r.length ∧ r.length ≤ 6 ∧ (∀ x ∈ r, 0 ≤ x ∧ x < 10000) ∧ ∀ H', Same H H' → Q .non H'
set_option maxHeartbeats 4000000 in
theorem ok_require_plain_row {P : Program} {w : World} {K : PySem.W.Frag} {mg : Str → Option Value} {base : Heap} (T : Txt K mg) : FnOk P w K mg base CX0 3 T.a_require_plain_row T.d_require_plain_row ["value"] (sp_require_plain_row T) := by
  refine T.F_require_plain_row.ok sc_require_plain_row (fun vs H Q E h => ?_) (fun cdv A outer s H vs Q E hr h => ?_)
  · obtain ⟨p, r, rfl, hp, h1, h2, hrow, q⟩ := h
    rfl
  · obtain ⟨p, r, rfl, hp, h1, h2, hrow, q⟩ := h
    refine ⟨_, PSs.nox (pss_one (ps_if (pt_not (pt_val (pe_call (ok_is_plain_row T) (hr.mono (by decide)) (by rfl) T.g_is_plain_row T.F_is_plain_row.kp (b_is_plain_row T) .nil pass0 (pa_cons (pv 0) pa_nil)))) pss_never pss_nil)), ?_⟩
    exact ⟨_, rfl, p, r, rfl, hp, h1, h2, hrow, fun H' sm => ⟨true, rfl, iteF (q _ sm)⟩⟩
end K7
end

section
set_option Elab.async false
set_option linter.all false
set_option maxRecDepth 100000
/-! What stands in the heap, as data. -/
namespace K7
open PySem PySem.Spec PyProof.Rows L2
/-! ### signs in sequence -/
def sg (c : Nat) : Str := ⟨#[c]⟩
theorem sg_inj {a b : Nat} (h : sg a = sg b) : a = b := by
  have h1 : (sg a).cps.toList = (sg b).cps.toList := by rw [h]
  have h2 : [a] = [b] := h1
  injection h2
def Asc (l : List Str) : Prop := ∃ cs : List Nat, l = cs.map sg ∧ cs.Pairwise (· < ·) ∧ ∀ c ∈ cs, 97 ≤ c ∧ c ≤ 101
theorem Asc.isSg {l : List Str} (h : Asc l) {x : Str} (hx : x ∈ l) : IsSg x := by
  obtain ⟨cs, rfl, _, h2⟩ := h
  obtain ⟨c, hc, rfl⟩ := List.mem_map.mp hx
  exact ⟨c, (h2 c hc).1, (h2 c hc).2, rfl⟩
theorem Asc.nodup {l : List Str} (h : Asc l) : l.Nodup := by
  obtain ⟨cs, rfl, h1, _⟩ := h
  have : cs.Nodup := h1.imp fun {a b} q => Nat.ne_of_lt q
  refine List.Pairwise.map _ (fun a b q => ?_) this
  exact fun e => q (sg_inj e)
theorem Asc.sub {l k : List Str} (h : Asc l) (s : k.Sublist l) : Asc k := by
  obtain ⟨cs, rfl, h1, h2⟩ := h
  obtain ⟨ds, hs, rfl⟩ := List.sublist_map_iff.mp s
  exact ⟨ds, rfl, h1.sublist hs, fun c hc => h2 c (hs.subset hc)⟩
theorem rising_codes : ∀ (cs : List Nat) (p : Nat), risingS (sg p) (cs.map sg) = true → (p :: cs).Pairwise (· ≤ ·)
  | [], p, _ => by simp
  | c :: r, p, h => by
    have h' : (!ltCps [c] [p] && risingS (sg c) (r.map sg)) = true := h
    rw [Bool.and_eq_true] at h'
    have ih := rising_codes r c h'.2
    have h1 : p ≤ c := by
      have q := h'.1
      unfold ltCps at q
      simp at q
      omega
    refine List.pairwise_cons.mpr ⟨fun x hx => ?_, ih⟩
    rcases List.mem_cons.mp hx with rfl | hx
    · exact h1
    · have := (List.pairwise_cons.mp ih).1 x hx
      omega
/-- sorted again: the same -/
theorem Asc.sorted {l ys : List Str} (h : Asc l) (p : ys.Perm l) (s : sortedS ys = true) : ys = l := by
  obtain ⟨cs, rfl, h1, h2⟩ := h
  have hy : ∃ ds : List Nat, ys = ds.map sg := by
    refine ⟨ys.map fun x => x.cps.toList.headD 0, ?_⟩
    rw [List.map_map]
    have : ∀ x ∈ ys, (sg ∘ fun x : Str => x.cps.toList.headD 0) x = x := fun x hx => by
      obtain ⟨c, _, rfl⟩ := List.mem_map.mp (p.subset hx)
      rfl
    exact (List.map_congr_left this |>.trans (List.map_id _)).symm
  obtain ⟨ds, rfl⟩ := hy
  have hp : ds.Perm cs := by
    have := p.map fun x : Str => x.cps.toList.headD 0
    rw [List.map_map, List.map_map] at this
    have e : ∀ l : List Nat, l.map ((fun x : Str => x.cps.toList.headD 0) ∘ sg) = l := fun l => (List.map_congr_left fun x _ => rfl).trans (List.map_id _)
    rwa [e, e] at this
  have hd : ds.Pairwise (· ≤ ·) := by
    cases ds with
    | nil => exact .nil
    | cons d r => exact rising_codes r d s
  rw [hp.eq_of_pairwise (le := (· ≤ ·)) (fun a b _ _ x y => Nat.le_antisymm x y) hd (h1.imp fun {a b} q => Nat.le_of_lt q)]
/-! ### heaps: all but the dice stay -/
def Keep (H H' : Hp) : Prop := ∀ b o, H b = some o → (∀ x y, o ≠ .lst [.int x, .int y]) → H' b = some o
theorem Keep.refl (H : Hp) : Keep H H := fun _ _ h _ => h
theorem Keep.trans {H H1 H2 : Hp} (a : Keep H H1) (b : Keep H1 H2) : Keep H H2 := fun c o h n => b c o (a c o h n) n
theorem keep_of {H H' : Hp} (s : Same H H') : Keep H H' := fun b o h _ => s b o h
theorem keep_dk {H H' : Hp} (k : Keep H H') {d : Addr} {kvs : List (Key × V)} (h : H d = some (.dK kvs)) : H' d = some (.dK kvs) := k _ _ h fun _ _ e => nomatch e
theorem keep_dt {H H' : Hp} (k : Keep H H') {d : Addr} {kvs : List (List Key × V)} (h : H d = some (.dT kvs)) : H' d = some (.dT kvs) := k _ _ h fun _ _ e => nomatch e
theorem keep_tup {H H' : Hp} (k : Keep H H') {d : Addr} {xs : List V} (h : H d = some (.tup xs)) : H' d = some (.tup xs) := k _ _ h fun _ _ e => nomatch e
theorem keep_refs {H H' : Hp} (k : Keep H H') {d : Addr} {xs : List Addr} (h : H d = some (.lst (xs.map V.ref))) : H' d = some (.lst (xs.map V.ref)) := k _ _ h fun x y e => by
  injection e with e
  cases xs with
  | nil => cases e
  | cons a r => injection e with e _; cases e
theorem keep_bls {H H' : Hp} (k : Keep H H') {d : Addr} {xs : List Bool} (h : H d = some (.lst (xs.map V.bl))) : H' d = some (.lst (xs.map V.bl)) := k _ _ h fun x y e => by
  injection e with e
  cases xs with
  | nil => cases e
  | cons a r => injection e with e _; cases e
theorem keep_slt {H H' : Hp} (k : Keep H H') {a C dx : Addr} {v : Option V} {vs : List (Option V)} (h : SlX.Slt H a C dx (v :: vs)) : SlX.Slt H' a C dx (v :: vs) := by
  rcases h with ⟨_, h⟩ | ⟨h1, h2⟩
  · cases h
  · exact .inr ⟨k _ _ h1 (fun _ _ e => by unfold SlX.SlO at e; cases e), k _ _ h2 fun _ _ e => nomatch e⟩
/-! ### tables of prices -/
abbrev k2 (a b : Str) : List Key := [Sum.inr a, Sum.inr b]
structure TabOk (kvs : List (List Key × V)) (f : Tab Str) : Prop where
  get : ∀ a b, valV kvs (k2 a b) = (f a b).map V.int
  form : ∀ e ∈ kvs, ∃ a b v, e = (k2 a b, V.int v) ∧ f a b = some v
def TabAt (H : Hp) (d : Addr) (f : Tab Str) : Prop := ∃ kvs, H d = some (.dT kvs) ∧ kvs.length ≤ 1000 ∧ TabOk kvs f
theorem TabAt.keep {H H' : Hp} (k : Keep H H') {d : Addr} {f : Tab Str} (h : TabAt H d f) : TabAt H' d f := let ⟨kvs, h1, h2⟩ := h; ⟨kvs, keep_dt k h1, h2⟩
theorem k2_inj {a b c d : Str} : k2 a b = k2 c d ↔ a = c ∧ b = d := by
  constructor
  · intro e
    injection e with e1 e2
    injection e2 with e2 _
    exact ⟨Sum.inr.inj e1, Sum.inr.inj e2⟩
  · rintro ⟨rfl, rfl⟩
    rfl
theorem TabOk.put {kvs : List (List Key × V)} {f : Tab Str} (h : TabOk kvs f) (a b : Str) (v : Int) : TabOk (putK kvs (k2 a b) (.int v)) (tput f a b v) where
  get := fun x y => by
    rw [valV_put]
    unfold tput
    by_cases e : x = a ∧ y = b
    · obtain ⟨rfl, rfl⟩ := e
      simp
    · rw [if_neg (fun q => e (k2_inj.mp q)), if_neg e, h.get]
  form := fun e he => by
    unfold putK at he
    unfold tput
    split at he
    · obtain ⟨e', he', rfl⟩ := List.mem_map.mp he
      obtain ⟨x, y, z, rfl, hz⟩ := h.form e' he'
      by_cases c : x = a ∧ y = b
      · rw [if_pos (k2_inj.mpr c)]
        exact ⟨x, y, v, rfl, if_pos c⟩
      · rw [if_neg (fun q => c (k2_inj.mp q))]
        exact ⟨x, y, z, rfl, by rw [if_neg c]; exact hz⟩
    · rename_i nn
      rcases List.mem_append.mp he with q | q
      · obtain ⟨x, y, z, rfl, hz⟩ := h.form e q
        refine ⟨x, y, z, rfl, ?_⟩
        rw [if_neg (fun c => nn (List.any_eq_true.mpr ⟨_, q, decide_eq_true (k2_inj.mpr c)⟩))]
        exact hz
      · simp at q
        exact ⟨a, b, v, q, if_pos ⟨rfl, rfl⟩⟩
theorem TabOk.nil : TabOk [] (fun _ _ => none) := ⟨fun _ _ => rfl, fun e he => by simp at he⟩
/-! ### prices -/
structure PrM where
  sgs : List Str
  put : Str → Int
  out : Str → Int
  swap : Tab Str
abbrev dkS (l : List Str) (f : Str → Int) : List (Key × V) := l.map fun s => (Sum.inr s, V.int (f s))
/-- a small table -/
def TabS (H : Hp) (d : Addr) (f : Tab Str) : Prop := ∃ kvs, H d = some (.dT kvs) ∧ kvs.length ≤ 50 ∧ TabOk kvs f
theorem TabS.keep {H H' : Hp} (k : Keep H H') {d : Addr} {f : Tab Str} (h : TabS H d f) : TabS H' d f := let ⟨kvs, h1, h2⟩ := h; ⟨kvs, keep_dt k h1, h2⟩
def PrAt (C : Addr) (H : Hp) (a : Addr) (m : PrM) : Prop := ∃ dx dO dP dS, SlX.Slt H a C dx [some (.ref dO), some (.ref dP), some (.ref dS)] ∧ H dO = some (.dK (dkS m.sgs m.out)) ∧ H dP = some (.dK (dkS m.sgs m.put)) ∧ TabS H dS m.swap
theorem PrAt.keep {C : Addr} {H H' : Hp} (k : Keep H H') {a : Addr} {m : PrM} (h : PrAt C H a m) : PrAt C H' a m := by
  obtain ⟨dx, dO, dP, dS, h1, h2, h3, h4⟩ := h
  exact ⟨dx, dO, dP, dS, keep_slt k h1, keep_dk k h2, keep_dk k h3, h4.keep k⟩
structure PrOk (m : PrM) : Prop where
  asc : Asc m.sgs
  ne : m.sgs ≠ []
  put : ∀ s ∈ m.sgs, 1 ≤ m.put s ∧ m.put s ≤ 9
  out : ∀ s ∈ m.sgs, 1 ≤ m.out s ∧ m.out s ≤ 9
  swap : ∀ a b v, m.swap a b = some v → a ∈ m.sgs ∧ b ∈ m.sgs ∧ a ≠ b ∧ 1 ≤ v ∧ v ≤ 18
theorem valV_dkS (f : Str → Int) (x : Str) : ∀ l : List Str, valV (dkS l f) (Sum.inr x) = if x ∈ l then some (.int (f x)) else none
  | [] => rfl
  | s :: r => by
    by_cases e : s = x
    · subst e
      rw [show dkS (s :: r) f = ((Sum.inr s : Key), V.int (f s)) :: dkS r f from rfl, valV_pos rfl]
      simp
    · rw [show dkS (s :: r) f = ((Sum.inr s : Key), V.int (f s)) :: dkS r f from rfl, valV_neg (fun q => e (Sum.inr.inj q)), valV_dkS f x r]
      have e' : ¬ x = s := fun q => e q.symm
      simp [e']
/-! ### machines, forms, targets -/
abbrev mvD (l : List (Str × Nat)) : List (Key × V) := l.map fun e => (Sum.inr e.1, V.int (e.2 : Nat))
abbrev MachS := Mach Str
/-- the dicts of moves, in the list at lm -/
def MvsAt (H : Hp) (lm : Addr) (tg : MachS) : Prop := ∃ ds : List Addr, H lm = some (.lst (ds.map V.ref)) ∧ ds.length = tg.length ∧ ∀ (i : Nat) (row : List (Str × Nat) × Bool), tg[i]? = some row → ∃ d, ds[i]? = some d ∧ H d = some (.dK (mvD row.1))
theorem MvsAt.keep {H H' : Hp} (k : Keep H H') {lm : Addr} {tg : MachS} (h : MvsAt H lm tg) : MvsAt H' lm tg := by
  obtain ⟨ds, h1, h2, h3⟩ := h
  refine ⟨ds, keep_refs k h1, h2, fun i row e => ?_⟩
  obtain ⟨d, a, b⟩ := h3 i row e
  exact ⟨d, a, keep_dk k b⟩
def FormAt (C : Addr) (H : Hp) (a : Addr) (tg : MachS) : Prop := ∃ dx ll lm, SlX.Slt H a C dx [some (.ref ll), some (.ref lm)] ∧ H ll = some (.lst ((tg.map (·.2)).map V.bl)) ∧ MvsAt H lm tg
theorem FormAt.keep {C : Addr} {H H' : Hp} (k : Keep H H') {a : Addr} {tg : MachS} (h : FormAt C H a tg) : FormAt C H' a tg := by
  obtain ⟨dx, ll, lm, h1, h2, h3⟩ := h
  exact ⟨dx, ll, lm, keep_slt k h1, keep_bls k h2, h3.keep k⟩
/-- as the law tells it: a tuple of pairs -/
def TgAt (H : Hp) (p : Addr) (tg : MachS) : Prop := ∃ rs : List Addr, H p = some (.tup (rs.map V.ref)) ∧ rs.length = tg.length ∧ ∀ (i : Nat) (row : List (Str × Nat) × Bool), tg[i]? = some row → ∃ r d, rs[i]? = some r ∧ H r = some (.tup [.ref d, .bl row.2]) ∧ H d = some (.dK (mvD row.1))
theorem TgAt.keep {H H' : Hp} (k : Keep H H') {p : Addr} {tg : MachS} (h : TgAt H p tg) : TgAt H' p tg := by
  obtain ⟨rs, h1, h2, h3⟩ := h
  refine ⟨rs, keep_tup k h1, h2, fun i row e => ?_⟩
  obtain ⟨r, d, a, b, c⟩ := h3 i row e
  exact ⟨r, d, a, keep_tup k b, keep_dk k c⟩
/-- what holds of the drawn machines -/
structure TgOk (tg : MachS) : Prop where
  useful : Useful tg
  six : tg.length ≤ 6
  asc : ∀ row ∈ tg, Asc (row.1.map (·.1))
end K7
end

section
set_option Elab.async false
set_option linter.all false
set_option maxRecDepth 100000
/-! x in o, len(o) by an own def of a class with slots. -/
namespace K7
open PySem PySem.Spec PyProof.Rows L2 SlX
section
variable {X : Cx} {CX : CXT} {C g : Addr} {sp : Sp} {E : XK} {n : Nat}
/-- x in o -/
def rInOwn (C : Addr) (sp : Sp) (E : XK) : R2 := fun x y H Q => ∃ a dx vs, y = .ref a ∧ Slt H a C dx vs ∧ sp [y, x] H (fun z H' => ∃ b, z = .bl b ∧ Q (.bl b) H') E
theorem op_inOwn (hm : Meth X.K C "__contains__" g) (F : FnR X.prog X.w X.K X.mg X.base CX n g sp) (hr : Room n X.A) (hx : Passes CX X E) : OpR X (compareOp .In) (rInOwn C sp E) := by
  intro pins s σ H x y v u Q I rx ry h
  obtain ⟨a, dx, vs, rfl, hs, q⟩ := h
  cases (show u = Value.ref a from ry)
  obtain ⟨sl, od, _, J, _⟩ := slt_inst I hs
  obtain ⟨m, hF⟩ := I.fr
  refine PySem.W.in_K hF I.ok.mod.kin J hm.at_ hm.fn ?_
  refine wpAny_mono (wpAny_call (run_fnR (us := [.ref a, v]) (vs := [.ref a, x]) F hr hx I (.cons rfl (.cons rx .nil)) q)) (fun r s' z => ?_) fun _ _ e => e
  obtain ⟨z', H', I', rz, b, eb, qb⟩ := z
  subst eb
  cases (show r = Value.bool b from rz)
  exact wpAny_truthy_bool ⟨.bl b, H', I', rfl, qb⟩
theorem room_in1 {k : Nat} {A : Around} (h : Room (k + 1) A) : Room k A.in1 := Room.in1 h
/-- len(o) -/
def rLenOwn (C : Addr) (sp : Sp) (E : XK) : List V → Hp → VK → Prop := fun xs H Q => ∃ a dx vs, xs = [V.ref a] ∧ Slt H a C dx vs ∧ sp [.ref a] H (fun z H' => ∃ k : Nat, z = .int k ∧ k < 1000 ∧ Q (.int k) H') E
theorem call_lenOwn (hm : Meth X.K C "__len__" g) (F : FnR X.prog X.w X.K X.mg X.base CX n g sp) (hr : Room (n + 1) X.A) (hx : Passes CX X E) : CallR X (.builtin "len") (rLenOwn C sp E) := by
  intro pins s σ H xs us Q I r h
  obtain ⟨a, dx, vs, rfl, hs, q⟩ := h
  obtain ⟨u, rfl, ru⟩ := vals1 r
  cases (show u = Value.ref a from ru)
  obtain ⟨sl, od, _, J, _⟩ := slt_inst I hs
  refine Calls.call_function_entry kind_len plain_len entry_len (args_len1 _) ?_
  unfold Builtin.«len»
  refine wpAny_bind (m := oneArg "len" _) (wpAny_pure ?_)
  refine wpAny_bind (m := callSpecial? (.ref a) (PySem.Str.ofString "__len__")) (PySem.W.special_fn I.kIn J hm.at_ (beq_iff_eq.mp hm.fn) ?_)
  refine wpAny_mono (wpAny_call (run_at (us := [.ref a]) (ws := [.ref a]) F (room_in1 hr) I.env0.in1 hx I (.cons rfl .nil) q)) (fun w s' z => ?_) fun _ _ e => e
  obtain ⟨z', H', I', rz, k, ek, hk, qz⟩ := z
  subst ek
  obtain ⟨t, et⟩ := (show ∃ t, w = Value.int k t from rz)
  cases et
  refine wpAny_bind (wpAny_holding (wpAny_pure ?_))
  refine wpAny_bind (wpAny_letGo ?_)
  show wpAny _ _ (if ((k : Nat) : Int) < 0 then _ else _) _ _ _
  rw [if_neg (by omega)]
  show wpAny _ _ (if ((k : Nat) : Int) ≥ 2 ^ 63 then _ else _) _ _ _
  rw [if_neg (by omega)]
  exact wpAny_bind (wpAny_mkInt (wpAny_pure ⟨_, rfl, ⟨.int k, H', I'.tok _, ⟨_, rfl⟩, qz⟩⟩))
end
end K7
end

section
set_option Elab.async false
set_option linter.all false
set_option maxRecDepth 100000
namespace K7
open PySem PySem.Spec PyProof.Rows L2 SlX
/-! The walk: small defs over prices and forms. -/
theorem k2_of (a b : Str) : ([V.str a, V.str b] : List V) = (k2 a b).map kV := rfl
/-! ### Prices.__contains__ -/
def sp_Prices_contains {K : PySem.W.Frag} {mg : Str → Option Value} (T : Txt K mg) : Sp := fun vs H Q _ => ∃ (a : Addr) (m : PrM) (x : Str), vs = [.ref a, .str x] ∧ PrAt T.C_Prices H a m ∧ PrOk m ∧ x ∈ m.sgs ∧ Q (.bl true) H
set_option maxHeartbeats 4000000 in
theorem ok_Prices_contains {P : Program} {w : World} {K : PySem.W.Frag} {mg : Str → Option Value} {base : Heap} (T : Txt K mg) : FnOk P w K mg base CX0 2 T.a_Prices_contains T.d_Prices_contains ["self", "value"] (sp_Prices_contains T) := by
  refine T.F_Prices_contains.ok sc_Prices_contains (fun vs H Q E h => ?_) (fun cdv A outer s H vs Q E hr h => ?_)
  · obtain ⟨a, m, x, rfl, hp, ok, hx, q⟩ := h
    rfl
  · obtain ⟨a, m, x, rfl, hp, ok, hx, q⟩ := h
    refine ⟨_, PSs.nox (pss_one (ps_ret (pe_and (pe_call (ok_is_sign T) (hr.mono (by decide)) (by rfl) T.g_is_sign T.F_is_sign.kp (b_is_sign T) .nil pass0 (pa_cons (pv 1) pa_nil)) (pe_one (pe_cmp (pc_din (hu_of hr) (pv 1) (pe_slK K (pv 0))) rfl))))), ?_⟩
    obtain ⟨dx, dO, dP, dS, h1, h2, h3, h4⟩ := hp
    refine ⟨_, rfl, x, rfl, ok.asc.isSg hx, true, rfl, iteT ?_⟩
    refine ⟨_, rfl, _, rfl, a, _, dx, _, _, _, _, rfl, h1, T.S_Prices, T.sl_Prices_own_put, rfl, dP, _, rfl, DGet.k (k := .inr x) h3, ?_⟩
    refine bl_of ?_ q
    rw [valV_dkS, if_pos hx]
    rfl
/-! ### require_prices -/
def sp_require_prices {K : PySem.W.Frag} {mg : Str → Option Value} (T : Txt K mg) : Sp := fun vs H Q _ => ∃ (a : Addr) (m : PrM), vs = [.ref a] ∧ PrAt T.C_Prices H a m ∧ Q .non H
set_option maxHeartbeats 4000000 in
theorem ok_require_prices {P : Program} {w : World} {K : PySem.W.Frag} {mg : Str → Option Value} {base : Heap} (T : Txt K mg) : FnOk P w K mg base CX0 1 T.a_require_prices T.d_require_prices ["value"] (sp_require_prices T) := by
  refine T.F_require_prices.ok sc_require_prices (fun vs H Q E h => ?_) (fun cdv A outer s H vs Q E hr h => ?_)
  · obtain ⟨a, m, rfl, hp, q⟩ := h
    rfl
  · obtain ⟨a, m, rfl, hp, q⟩ := h
    refine ⟨_, PSs.nox (pss_one (ps_if (pt_not (pt_val (pe_callB (call_isiSlK K (.ref T.C_Prices)) (by rfl) T.n_isinstance (by decide +kernel) (pa_cons (pv 0) (pa_cons (pe_k (v := .ref T.C_Prices) (by rfl) ⟨_, T.g_Prices, rfl⟩) pa_nil))))) pss_never pss_nil)), ?_⟩
    obtain ⟨dx, dO, dP, dS, h1, h2, h3, h4⟩ := hp
    exact ⟨_, rfl, a, _, dx, _, _, true, rfl, rfl, fun w e => e, h1, T.S_Prices, T.I_Prices, T.k_Prices, true, rfl, iteF q⟩
/-! ### require_form -/
def sp_require_form {K : PySem.W.Frag} {mg : Str → Option Value} (T : Txt K mg) : Sp := fun vs H Q _ => ∃ (a : Addr) (tg : MachS), vs = [.ref a] ∧ FormAt T.C_Form H a tg ∧ Q .non H
set_option maxHeartbeats 4000000 in
theorem ok_require_form {P : Program} {w : World} {K : PySem.W.Frag} {mg : Str → Option Value} {base : Heap} (T : Txt K mg) : FnOk P w K mg base CX0 1 T.a_require_form T.d_require_form ["value"] (sp_require_form T) := by
  refine T.F_require_form.ok sc_require_form (fun vs H Q E h => ?_) (fun cdv A outer s H vs Q E hr h => ?_)
  · obtain ⟨a, tg, rfl, hp, q⟩ := h
    rfl
  · obtain ⟨a, tg, rfl, hp, q⟩ := h
    refine ⟨_, PSs.nox (pss_one (ps_if (pt_not (pt_val (pe_callB (call_isiSlK K (.ref T.C_Form)) (by rfl) T.n_isinstance (by decide +kernel) (pa_cons (pv 0) (pa_cons (pe_k (v := .ref T.C_Form) (by rfl) ⟨_, T.g_Form, rfl⟩) pa_nil))))) pss_never pss_nil)), ?_⟩
    obtain ⟨dx, ll, lm, h1, h2, h3⟩ := hp
    exact ⟨_, rfl, a, _, dx, _, _, true, rfl, rfl, fun w e => e, h1, T.S_Form, T.I_Form, T.k_Form, true, rfl, iteF q⟩
/-! ### Form.__len__ -/
def sp_Form_len {K : PySem.W.Frag} {mg : Str → Option Value} (T : Txt K mg) : Sp := fun vs H Q _ => ∃ (a : Addr) (tg : MachS), vs = [.ref a] ∧ FormAt T.C_Form H a tg ∧ Q (.int (tg.length : Nat)) H
set_option maxHeartbeats 4000000 in
theorem ok_Form_len {P : Program} {w : World} {K : PySem.W.Frag} {mg : Str → Option Value} {base : Heap} (T : Txt K mg) : FnOk P w K mg base CX0 1 T.a_Form_len T.d_Form_len ["self"] (sp_Form_len T) := by
  refine T.F_Form_len.ok sc_Form_len (fun vs H Q E h => ?_) (fun cdv A outer s H vs Q E hr h => ?_)
  · obtain ⟨a, tg, rfl, hp, q⟩ := h
    rfl
  · obtain ⟨a, tg, rfl, hp, q⟩ := h
    refine ⟨_, PSs.nox (pss_one (ps_ret (pe_callB (call_lenK K) (by rfl) T.n_len (by decide +kernel) (pa_cons (pe_slK K (pv 0)) pa_nil)))), ?_⟩
    obtain ⟨dx, ll, lm, h1, h2, ds, h3, h4, h5⟩ := hp
    refine ⟨_, rfl, a, _, dx, _, _, _, _, rfl, h1, T.S_Form, T.sl_Form_own_moves, rfl, lm, _, rfl, .inl (sq h3), ?_⟩
    refine int_of ?_ q
    rw [List.length_map, h4]
/-! ### require_small -/
def sp_require_small {K : PySem.W.Frag} {mg : Str → Option Value} (T : Txt K mg) : Sp := fun vs H Q _ => ∃ (a : Addr) (tg : MachS), vs = [.ref a] ∧ FormAt T.C_Form H a tg ∧ tg.length ≤ 6 ∧ Q .non H
set_option maxHeartbeats 4000000 in
theorem ok_require_small {P : Program} {w : World} {K : PySem.W.Frag} {mg : Str → Option Value} {base : Heap} (T : Txt K mg) : FnOk P w K mg base CX0 4 T.a_require_small T.d_require_small ["form"] (sp_require_small T) := by
  refine T.F_require_small.ok sc_require_small (fun vs H Q E h => ?_) (fun cdv A outer s H vs Q E hr h => ?_)
  · obtain ⟨a, tg, rfl, hp, h6, q⟩ := h
    rfl
  · obtain ⟨a, tg, rfl, hp, h6, q⟩ := h
    refine ⟨_, PSs.nox (pss_one (ps_if (pt_cmpR op_gt (pe_callB (call_lenOwn T.me_Form_len (raw0 (ok_Form_len T) (b_Form_len T)) (hr.mono (by decide)) pass0) (by rfl) T.n_len (by decide +kernel) (pa_cons (pv 0) pa_nil)) (pe_k (by rfl) T.c_MAX_SIDE) (nomark _)) pss_never pss_nil)), ?_⟩
    obtain ⟨dx, ll, lm, h1, h2, h3⟩ := id hp
    refine ⟨_, rfl, a, dx, _, rfl, h1, a, tg, rfl, hp, tg.length, rfl, by omega, ?_⟩
    refine ⟨_, _, rfl, rfl, _, rfl, ite_no (decide_eq_false (by omega)) q⟩
/-! ### _law_price -/
def sp__law_price {K : PySem.W.Frag} {mg : Str → Option Value} (T : Txt K mg) : Sp := fun vs H Q _ => ∃ (d : Addr) (f : Tab Str) (x y : Str) (k : Int), vs = [.ref d, .str x, .str y] ∧ TabAt H d f ∧ (x ≠ y → f x y = some k) ∧ (x = y → k = 0) ∧ ∀ H', Same H H' → Q (.int k) H'
set_option maxHeartbeats 4000000 in
theorem ok__law_price {P : Program} {w : World} {K : PySem.W.Frag} {mg : Str → Option Value} {base : Heap} (T : Txt K mg) : FnOk P w K mg base CX0 1 T.a__law_price T.d__law_price ["closed", "one", "other"] (sp__law_price T) := by
  refine T.F__law_price.ok sc__law_price (fun vs H Q E h => ?_) (fun cdv A outer s H vs Q E hr h => ?_)
  · obtain ⟨d, f, x, y, k, rfl, hd, h1, h2, q⟩ := h
    rfl
  · obtain ⟨d, f, x, y, k, rfl, hd, h1, h2, q⟩ := h
    refine ⟨_, PSs.nox (pss_one (ps_ret (pe_ifExp (pt_cmpR op_eq (pv 1) (pv 2) (nomark _)) pe_int (pe_dget (hu_of hr) (pv 0) (pe_tup (pa_cons (pv 1) (pa_cons (pv 2) pa_nil))) (fun _ _ => rfl))))), ?_⟩
    obtain ⟨kvs, hk, _, ok⟩ := hd
    refine ⟨_, rfl, _, rfl, rfl, _, rfl, ?_⟩
    by_cases e : x = y
    · refine ite_of (decide_eq_true (by rw [e])) ?_
      rw [h2 e] at q
      exact q _ (Same.refl _)
    · refine ite_no (decide_eq_false (by intro z; injection z with z; exact e z)) ?_
      refine ⟨_, rfl, _, rfl, _, rfl, szle (by simp), fun p hp => ?_⟩
      refine ⟨d, .int k, rfl, ?_, q _ (same_upd hp)⟩
      have g := ok.get x y
      rw [h1 e] at g
      have := DGet.t (b := p) (k := k2 x y) (same_upd hp _ _ hk) upd_same
      rw [g] at this
      exact this
/-! ### cut_row -/
def sp_cut_row {K : PySem.W.Frag} {mg : Str → Option Value} (T : Txt K mg) : Sp := fun vs H Q _ => ∃ (p : Addr) (r : List Int) (L : Int), vs = [.ref p, .int L] ∧ H p = some (.tup (r.map V.int)) ∧ 1 ≤ r.length ∧ r.length ≤ 6 ∧ (∀ x ∈ r, 0 ≤ x ∧ x < 10000) ∧ 0 ≤ L ∧ L < 10000 ∧ ∀ H' t, Same H H' → H' t = some (.tup ((r.map (mn · L)).map V.int)) → Q (.ref t) H'
set_option maxHeartbeats 4000000 in
theorem ok_cut_row {P : Program} {w : World} {K : PySem.W.Frag} {mg : Str → Option Value} {base : Heap} (T : Txt K mg) : FnOk P w K mg base CX0 4 T.a_cut_row T.d_cut_row ["row", "limit"] (sp_cut_row T) := by
  refine T.F_cut_row.ok sc_cut_row (fun vs H Q E h => ?_) (fun cdv A outer s H vs Q E hr h => ?_)
  · obtain ⟨p, r, L, rfl, hp, h1, h2, hrow, l0, l1, q⟩ := h
    rfl
  · obtain ⟨p, r, L, rfl, hp, h1, h2, hrow, l0, l1, q⟩ := h
    refine ⟨_, PSs.nox (pss_cons (ps_expr (pe_call (ok_require_plain_row T) (hr.mono (by decide)) (by rfl) T.g_require_plain_row T.F_require_plain_row.kp (b_require_plain_row T) .nil pass0 (pa_cons (pv 0) pa_nil)))
      (pss_cons (ps_expr (pe_call (ok_require_number T) (hr.mono (by decide)) (by rfl) T.g_require_number T.F_require_number.kp (b_require_number T) .nil pass0 (pa_cons (pv 1) (pa_cons pe_int (pa_cons (pe_op op_sub (pe_k (by rfl) T.c_BEYOND) pe_int) pa_nil)))))
      (pss_one (ps_ret (pe_callTy (call_tupK K) (by rfl) T.n_tuple (by decide +kernel) (pa_cons (pe_lc (own := [("number", 2)]) rfl sc_cut_row.nd (pi_tupK K (pv 0)) (blkOk_by (own := [("number", 2)]) (N := n_cut_row) (sc := defScope s_cut_row) (by decide +kernel)) (fun _ _ _ _ _ => (pg_name (i := 2) sc_cut_row.nd rfl (by first | exact .inl rfl | exact .inr rfl))) (fun _ _ _ _ _ => pts_nil) (fun _ _ _ _ _ => (pe_callB (call_min2 rfl) (by rfl) T.n_min (by decide +kernel) (pa_cons (pv 2) (pa_cons (pv 1) pa_nil))))) pa_nil)))))), ?_⟩
    refine ⟨_, rfl, p, r, rfl, hp, h1, h2, hrow, fun H1 s1 => ?_⟩
    refine ⟨_, rfl, _, _, rfl, rfl, L, 0, 9999, rfl, by omega, l0, by omega, by omega, ?_⟩
    refine ⟨_, rfl, _, rfl, ⟨_, sqt (s1 _ _ hp)⟩, fun D hD => ?_⟩
    refine lc_wk Wk.tup hD (fun i l _ => l = ((r.map (mn · L)).take i).map V.int) off_pure rfl (fun _ s => seqT s (sqt (s1 _ _ hp))) ?_ ?_
    · rintro i l y H3 H4 hi sm hl hz' e ⟨rfl, hy⟩
      rw [List.getElem?_map] at hy
      cases e1 : r[i]? with
      | none => rw [e1] at hy; cases hy
      | some x =>
        rw [e1] at hy
        obtain rfl : V.int x = y := Option.some.inj hy
        refine ⟨rfl, yes1 ?_⟩
        refine ⟨_, rfl, _, rfl, _, _, rfl, lc_put off_pure hD (by rw [List.length_map] at hi; omega) sm hl hz' ?_⟩
        rw [e, List.take_add_one, List.getElem?_map, e1, List.map_append]
        rfl
    · intro l H3 sm hl hz' e
      refine ⟨D, l, rfl, .inl ⟨sq hl, fun t ht => ?_⟩⟩
      refine q _ t ((s1.trans sm).trans (same_upd ht)) ?_
      rw [upd_same, e, List.take_of_length_le (by rw [List.length_map, List.length_map]; exact Nat.le_refl _)]
end K7
end

section
set_option Elab.async false
set_option linter.all false
set_option maxRecDepth 100000
namespace K7
open PySem PySem.Spec PyProof.Rows L2 SlX
/-! The walk: the law's draws. -/
/-- the dice: two numbers -/
def Dice (H : Hp) (a : Addr) : Prop := ∃ x y : Int, H a = some (.lst [.int x, .int y]) ∧ 0 ≤ x ∧ x < 10 ^ 400 ∧ 0 ≤ y ∧ y < 18446744073709551616
/-- all but what stands at a stays -/
def SameX (a : Addr) (H H' : Hp) : Prop := ∀ b o, b ≠ a → H b = some o → H' b = some o
theorem SameX.refl (a : Addr) (H : Hp) : SameX a H H := fun _ _ _ h => h
theorem SameX.trans {a : Addr} {H H1 H2 : Hp} (x : SameX a H H1) (y : SameX a H1 H2) : SameX a H H2 := fun b o n h => y b o n (x b o n h)
theorem Same.x {H H' : Hp} (a : Addr) (s : Same H H') : SameX a H H' := fun b o _ h => s b o h
theorem SameX.upd {a : Addr} {H H' : Hp} {o : HO} (s : SameX a H H') : SameX a H (upd H' a o) := fun b u n h => by
  rw [upd_ne n]
  exact s b u n h
theorem SameX.mut {a p : Addr} {H H' : Hp} {o : HO} (s : SameX a H H') (h : H p = none) : SameX a H (L2.upd H' p o) := fun b u n hb => by
  rw [upd_ne (ne_of_none hb h)]
  exact s b u n hb
theorem Dice.keep {a : Addr} {H H' : Hp} (d : Dice H a) (s : SameX a H H') : Keep H H' := fun b o e n => by
  obtain ⟨x, y, h, _⟩ := d
  by_cases z : b = a
  · subst z
    rw [h] at e
    exact absurd (Option.some.inj e).symm (n x y)
  · exact s b o z e
theorem Dice.same {a : Addr} {H H' : Hp} (d : Dice H a) (s : Same H H') : Dice H' a := let ⟨x, y, h, r⟩ := d; ⟨x, y, s _ _ h, r⟩
theorem Dice.some {a : Addr} {H : Hp} (d : Dice H a) : ∃ o, H a = some o := let ⟨_, _, h, _⟩ := d; ⟨_, h⟩
/-- a comprehension whose turns throw the dice at a -/
def LcX (a : Addr) (H1 : Hp) (D : Addr) (R : Nat → List V → Hp → Prop) (i : Nat) (H : Hp) : Prop := ∃ l, SameX a H1 H ∧ Dice H a ∧ H D = some (.lst l) ∧ l.length ≤ i ∧ R i l H
theorem lcx_put {a : Addr} {H1 H4 : Hp} {D : Addr} {R : Nat → List V → Hp → Prop} {i : Nat} {l : List V} {y : V} (of : Off D R) (hD : H1 D = none) (ha : D ≠ a) (hi : i < 100000) (sm : SameX a H1 H4) (d : Dice H4 a) (hl : H4 D = some (.lst l)) (hz : l.length ≤ i) (r : R (i + 1) (l ++ [y]) H4) :
    ∃ acc, H4 D = some (.lst acc) ∧ acc.length < sizeLine ∧ LcX a H1 D R (i + 1) (upd H4 D (.lst (acc ++ [y]))) :=
  ⟨l, hl, szlt (by omega), l ++ [y], sm.mut hD, let ⟨x, z, h, q⟩ := d; ⟨x, z, by rw [upd_ne (Ne.symm ha)]; exact h, q⟩, upd_same, by simp; omega, of _ _ H4 _ (fun b o hb e => by rw [upd_ne hb]; exact e) r⟩
theorem lcx_wk {a : Addr} {J : It} {n : Nat} {S : Hp → Prop} {it : Nat → V → Hp → Hp → Prop} {g : TG} {tt : TT} {te : TE} {vs : List Nat} {σ : L2.St} {H1 : Hp} {D : Addr} {Qd : Hp → Prop} (k : Wk J n S it) (hD : H1 D = none) (hd1 : Dice H1 a)
    (R : Nat → List V → Hp → Prop) (of : Off D R) (r0 : R 0 [] H1) (hS : ∀ H, SameX a H1 H → S H)
    (hs : ∀ i l x H H', i < n → SameX a H1 H → Dice H a → D ≠ a → H D = some (.lst l) → l.length ≤ i → R i l H → it i x H H' → g x (wipe σ vs) H' fun σ2 H2 => wipe σ2 vs = wipe σ vs ∧ tt σ2 H2 fun b H3 =>
      if b = true then te σ2 H3 fun y H4 => ∃ acc, H4 D = some (.lst acc) ∧ acc.length < sizeLine ∧ LcX a H1 D R (i + 1) (upd H4 D (.lst (acc ++ [y]))) else LcX a H1 D R (i + 1) H3)
    (hd : ∀ l H, SameX a H1 H → Dice H a → H D = some (.lst l) → l.length ≤ n → R n l H → Qd H) :
    ∃ W : Nat → Nat → Hp → Prop, (∃ m, W 0 m (upd H1 D (.lst []))) ∧ ∀ i m H, W i m H →
      (J.stop i H ∧ Qd H) ∨ (J.go i H ∧ ∃ Nx : Hp → Prop, (∀ H', Nx H' → ∃ m', m' < m ∧ W (i + 1) m' H') ∧ ∀ x H', J.yld i H x H' → g x (wipe σ vs) H' fun σ2 H2 => wipe σ2 vs = wipe σ vs ∧ tt σ2 H2 fun b H3 =>
        if b = true then te σ2 H3 fun y H4 => ∃ acc, H4 D = some (.lst acc) ∧ acc.length < sizeLine ∧ Nx (upd H4 D (.lst (acc ++ [y]))) else Nx H3) := by
  have ha : D ≠ a := fun z => by
    obtain ⟨o, e⟩ := hd1.some
    rw [← z, hD] at e
    cases e
  refine ⟨fun i m H => m = n - i ∧ i ≤ n ∧ LcX a H1 D R i H, ⟨n, by simp, Nat.zero_le _, [], (SameX.refl a H1).mut hD, hd1.same (same_upd hD), upd_same, Nat.le_refl _, of _ _ H1 _ (fun b o hb e => by rw [upd_ne hb]; exact e) r0⟩, ?_⟩
  rintro i m H ⟨rfl, hi, l, sm, dd, hl, hz, r⟩
  have s := hS H sm
  by_cases hlt : i < n
  · exact .inr ⟨k.go i H s hlt, LcX a H1 D R (i + 1), fun H' p => ⟨n - (i + 1), by omega, rfl, hlt, p⟩, fun x H' y => hs i l x H H' hlt sm dd ha hl hz r (k.yld i H x H' s hlt y)⟩
  · have e : i = n := by omega
    subst e
    exact .inl ⟨k.stop H s, hd l H sm dd hl hz r⟩
/-! ### _law_roll -/
def sp__law_roll {K : PySem.W.Frag} {mg : Str → Option Value} (T : Txt K mg) : Sp := fun vs H Q _ => ∃ (a : Addr) (n : Int), vs = [.ref a, .int n] ∧ Dice H a ∧ 1 ≤ n ∧ n ≤ 100000 ∧ ∀ H' (k : Int), SameX a H H' → Dice H' a → 0 ≤ k → k < n → Q (.int k) H'
set_option maxHeartbeats 4000000 in
theorem ok__law_roll {P : Program} {w : World} {K : PySem.W.Frag} {mg : Str → Option Value} {base : Heap} (T : Txt K mg) : FnOk P w K mg base CX0 1 T.a__law_roll T.d__law_roll ["dice", "total"] (sp__law_roll T) := by
  refine T.F__law_roll.ok sc__law_roll (fun vs H Q E h => ?_) (fun cdv A outer s H vs Q E hr h => ?_)
  · obtain ⟨a, n, rfl, ⟨x, y, ha, x0, x1, y0, y1⟩, n1, n2, q⟩ := h
    rfl
  · obtain ⟨a, n, rfl, ⟨x, y, ha, x0, x1, y0, y1⟩, n1, n2, q⟩ := h
    refine ⟨_, PSs.nox (pss_cons (ps_if (pt_cmpR op_gt (pe_ix (ix_listK K) (pv 0) pe_int (fun _ _ => rfl)) pe_int (nomark _)) (pss_cons (ps_set (i := 2) sc__law_roll.nd rfl (by first | exact .inl rfl | exact .inr rfl) (pe_op op_mod (pe_callTy call_int1 (by rfl) T.n_int (by decide +kernel) (pa_cons (pe_ix (ix_listK K) (pv 0) pe_int (fun _ _ => rfl)) pa_nil)) (pv 1)))
      (pss_cons (ps_asg (pe_op op_fdivW (pe_ix (ix_listK K) (pv 0) pe_int (fun _ _ => rfl)) (pv 1)) (pg_sub (pv 0) pe_int set_list))
      (pss_one (ps_ret (pv 2))))) pss_nil)
      (pss_cons (ps_asg (pe_op op_mod (pe_op op_add (pe_op op_mul (pe_ix (ix_listK K) (pv 0) pe_int (fun _ _ => rfl)) pe_int) pe_int) pe_int) (pg_sub (pv 0) pe_int set_list))
      (pss_one (ps_ret (pe_op op_mod (pe_callTy call_int1 (by rfl) T.n_int (by decide +kernel) (pa_cons (pe_op op_fdivW (pe_ix (ix_listK K) (pv 0) pe_int (fun _ _ => rfl)) pe_int) pa_nil)) (pv 1)))))), ?_⟩
    have hd : ∀ H' u v, H' = upd H a (.lst [.int u, .int v]) → SameX a H H' := fun H' u v e => by rw [e]; exact (SameX.refl a H).upd
    refine ⟨_, rfl, a, _, 0, _, rfl, rfl, sq ha, rfl, _, _, rfl, rfl, _, rfl, ?_⟩
    refine ite2 (fun c => ?_) (fun c => ?_)
    · have x2 : 0 < x := by simpa using c
      refine ⟨_, rfl, a, _, 0, _, rfl, rfl, sq ha, rfl, .inl ⟨_, rfl, _, rfl, _, _, rfl, rfl, by omega, ?_⟩⟩
      refine ⟨_, rfl, a, _, 0, _, rfl, rfl, sq ha, rfl, _, rfl, _, _, rfl, rfl, wide_div (by omega) (show n.natAbs < 2 ^ 20 by omega) (by decide) (by decide), ?_⟩
      refine ⟨_, rfl, a, _, 0, 0, rfl, rfl, ha, rfl, ?_⟩
      refine ⟨_, rfl, q _ _ (hd _ _ _ rfl) ⟨_, _, upd_same, Int.ediv_nonneg (by omega) (by omega), Int.lt_of_le_of_lt (Int.ediv_le_self _ (by omega)) x1, y0, y1⟩ (Int.emod_nonneg _ (by omega)) (Int.emod_lt_of_pos _ (by omega))⟩
    · refine ⟨_, rfl, a, _, 1, _, rfl, rfl, sq ha, rfl, _, _, rfl, rfl, .inr (by decide), _, _, rfl, rfl, _, _, rfl, rfl, (by show (0 : Int) < 18446744073709551616; decide), ?_⟩
      have z0 : 0 ≤ (y * 6364136223846793005 + 1442695040888963407) % 18446744073709551616 := Int.emod_nonneg _ (by decide)
      have z1 : (y * 6364136223846793005 + 1442695040888963407) % 18446744073709551616 < 18446744073709551616 := Int.emod_lt_of_pos _ (by decide)
      refine ⟨_, rfl, a, _, 1, 1, rfl, rfl, ha, rfl, ?_⟩
      refine ⟨_, rfl, a, _, 1, _, rfl, rfl, sq upd_same, rfl, _, _, rfl, rfl, wide_div (by decide) (show (4294967296 : Int).natAbs < 2 ^ 40 by decide) (by decide) (by decide), ?_⟩
      refine .inl ⟨_, rfl, _, rfl, _, _, rfl, rfl, by omega, ?_⟩
      exact q (upd H a (.lst [.int x, .int ((y * 6364136223846793005 + 1442695040888963407) % 18446744073709551616)])) _ (hd _ _ _ rfl) ⟨_, _, upd_same, x0, x1, z0, z1⟩ (Int.emod_nonneg _ (by omega)) (Int.emod_lt_of_pos _ (by omega))
/-! ### _law_pick -/
def sp__law_pick {K : PySem.W.Frag} {mg : Str → Option Value} (T : Txt K mg) : Sp := fun vs H Q _ => ∃ (a b : Addr) (xs : List V), vs = [.ref a, .ref b] ∧ Dice H a ∧ (H b = some (.lst xs) ∨ H b = some (.tup xs)) ∧ b ≠ a ∧ 1 ≤ xs.length ∧ xs.length ≤ 1000 ∧ ∀ H' v, SameX a H H' → Dice H' a → v ∈ xs → Q v H'
set_option maxHeartbeats 4000000 in
theorem ok__law_pick {P : Program} {w : World} {K : PySem.W.Frag} {mg : Str → Option Value} {base : Heap} (T : Txt K mg) : FnOk P w K mg base CX0 2 T.a__law_pick T.d__law_pick ["dice", "items"] (sp__law_pick T) := by
  refine T.F__law_pick.ok sc__law_pick (fun vs H Q E h => ?_) (fun cdv A outer s H vs Q E hr h => ?_)
  · obtain ⟨a, b, xs, rfl, da, hb, hne, l1, l2, q⟩ := h
    rfl
  · obtain ⟨a, b, xs, rfl, da, hb, hne, l1, l2, q⟩ := h
    refine ⟨_, PSs.nox (pss_one (ps_ret (pe_ix (ix_seqK K) (pv 1) (pe_call (ok__law_roll T) (hr.mono (by decide)) (by rfl) T.g__law_roll T.F__law_roll.kp (b__law_roll T) .nil pass0 (pa_cons (pv 0) (pa_cons (pe_callB (call_lenK K) (by rfl) T.n_len (by decide +kernel) (pa_cons (pv 1) pa_nil)) pa_nil))) (fun _ _ => rfl)))), ?_⟩
    have hl : ∀ H', SameX a H H' → (SqL K H' b xs ∨ SqT K H' b xs) := fun H' k => by
      rcases hb with e | e
      · exact .inl (sq (k _ _ hne e))
      · exact .inr (sqt (k _ _ hne e))
    have fin : ∀ H' (k : Int), SameX a H H' → Dice H' a → 0 ≤ k → k < (xs.length : Int) → rIx K (.ref b) (.int k) H' Q := fun H' k kp d k0 k1 => by
      obtain ⟨j, rfl⟩ : ∃ j : Nat, k = j := ⟨k.toNat, by omega⟩
      have hj : j < xs.length := by omega
      have e : atI xs (j : Int) = some xs[j] := by
        unfold atI ixN
        rw [if_pos (by omega), if_pos (by omega)]
        simp [hj]
      have qq := q H' xs[j] kp d (List.getElem_mem hj)
      rcases hl H' kp with s | s
      · exact .inl ⟨b, xs, j, _, rfl, rfl, s, e, qq⟩
      · exact .inr (.inl ⟨b, xs, j, _, rfl, rfl, s, e, qq⟩)
    refine ⟨_, rfl, _, rfl, _, rfl, b, xs, rfl, hl H (SameX.refl a H), ?_⟩
    exact ⟨a, xs.length, rfl, da, by omega, by omega, fun H' k kp d k0 k1 => fin H' k kp d k0 k1⟩
/-! ### _law_any_row -/
def sp__law_any_row {K : PySem.W.Frag} {mg : Str → Option Value} (T : Txt K mg) : Sp := fun vs H Q _ => ∃ (a : Addr) (n : Nat), vs = [.ref a, .int (n : Nat)] ∧ Dice H a ∧ 1 ≤ n ∧ n ≤ 6 ∧ ∀ H' p (r : List Int), SameX a H H' → Dice H' a → H' p = some (.tup (r.map V.int)) → r.length = n → (∀ x ∈ r, 0 ≤ x ∧ x < 10000) → Q (.ref p) H'
set_option maxHeartbeats 4000000 in
theorem ok__law_any_row {P : Program} {w : World} {K : PySem.W.Frag} {mg : Str → Option Value} {base : Heap} (T : Txt K mg) : FnOk P w K mg base CX0 3 T.a__law_any_row T.d__law_any_row ["dice", "size"] (sp__law_any_row T) := by
  refine T.F__law_any_row.ok sc__law_any_row (fun vs H Q E h => ?_) (fun cdv A outer s H vs Q E hr h => ?_)
  · obtain ⟨a, n, rfl, da, n1, n6, q⟩ := h
    rfl
  · obtain ⟨a, n, rfl, da, n1, n6, q⟩ := h
    refine ⟨_, PSs.nox (pss_cons (ps_set (i := 2) sc__law_any_row.nd rfl (by first | exact .inl rfl | exact .inr rfl) (pe_call (ok__law_pick T) (hr.mono (by decide)) (by rfl) T.g__law_pick T.F__law_pick.kp (b__law_pick T) .nil pass0 (pa_cons (pv 0) (pa_cons (pe_lst (pa_cons pe_int (pa_cons pe_int (pa_cons pe_int (pa_cons pe_int pa_nil))))) pa_nil))))
      (pss_one (ps_ret (pe_callTy (call_tupK K) (by rfl) T.n_tuple (by decide +kernel) (pa_cons (pe_lc (own := [("at", 3)]) rfl sc__law_any_row.nd (pi_range1 (by rfl) T.n_range (pa_cons (pv 1) pa_nil)) (blkOk_by (own := [("at", 3)]) (N := n__law_any_row) (sc := defScope s__law_any_row) (by decide +kernel)) (fun _ _ _ _ _ => (pg_name (i := 3) sc__law_any_row.nd rfl (by first | exact .inl rfl | exact .inr rfl))) (fun _ _ _ _ _ => pts_nil) (fun _ _ _ _ _ => (pe_call (ok__law_pick T) (hr.mono (by decide)) (by rfl) T.g__law_pick T.F__law_pick.kp (b__law_pick T) .nil pass0 (pa_cons (pv 0) (pa_cons (pe_lst (pa_cons pe_int (pa_cons (pe_op op_sub (pv 2) pe_int) (pa_cons (pe_call (ok__law_roll T) (hr.mono (by decide)) (by rfl) T.g__law_roll T.F__law_roll.kp (b__law_roll T) .nil pass0 (pa_cons (pv 0) (pa_cons (pv 2) pa_nil))) pa_nil)))) pa_nil))))) pa_nil))))), ?_⟩
    have na : ∀ {H' : Hp} {p : Addr}, Dice H' a → H' p = none → p ≠ a := fun {H' p} d h z => by
      obtain ⟨o, e⟩ := d.some
      rw [← z, h] at e
      cases e
    refine ⟨_, rfl, Nat.le_trans (show 4 ≤ 100000 by decide) (by decide), fun l hl => ?_⟩
    refine ⟨a, l, _, rfl, da.same (same_upd hl), .inl upd_same, na da hl, by decide, by decide, fun H1 v s1 d1 hv => ?_⟩
    have sa : SameX a H H1 := ((Same.x a (same_upd hl))).trans s1
    obtain ⟨m, rfl, m1, m2⟩ : ∃ m : Int, v = .int m ∧ 2 ≤ m ∧ m ≤ 10000 := by
      simp only [List.mem_cons, List.not_mem_nil, or_false] at hv
      rcases hv with rfl | rfl | rfl | rfl
      · exact ⟨2, rfl, by decide, by decide⟩
      · exact ⟨9, rfl, by decide, by decide⟩
      · exact ⟨60, rfl, by decide, by decide⟩
      · exact ⟨10000, rfl, by decide, by decide⟩
    refine ⟨_, rfl, n, rfl, by omega, by omega, fun D hD => ?_⟩
    refine lcx_wk (Wk.range (lo := 0)) hD d1 (fun i l _ => ∃ r : List Int, l = r.map V.int ∧ r.length = i ∧ ∀ x ∈ r, 0 ≤ x ∧ x < 10000) off_pure ⟨[], rfl, rfl, fun x hx => by simp at hx⟩ (fun _ _ => trivial) ?_ ?_
    · rintro i l y H3 H4 hi sm dd hDa hl3 hz ⟨r, rfl, hr1, hr2⟩ ⟨rfl, rfl⟩
      refine ⟨rfl, yes1 ?_⟩
      refine ⟨_, rfl, _, rfl, _, _, rfl, rfl, _, rfl, _, rfl, a, m, rfl, dd, by omega, by omega, fun H5 k s5 d5 k0 k1 => ?_⟩
      refine ⟨Nat.le_trans (show 3 ≤ 100000 by decide) (by decide), fun l' hl' => ?_⟩
      refine ⟨a, l', _, rfl, d5.same (same_upd hl'), .inl upd_same, na d5 hl', (by simp), (by simp), fun H6 v s6 d6 hv => ?_⟩
      have sl : SameX a H4 H6 := (s5.trans (Same.x a (same_upd hl'))).trans s6
      obtain ⟨x, rfl, x1, x2⟩ : ∃ x : Int, v = .int x ∧ 0 ≤ x ∧ x < 10000 := by
        simp only [List.mem_cons, List.not_mem_nil, or_false] at hv
        rcases hv with rfl | rfl | rfl
        · exact ⟨0, rfl, by decide, by decide⟩
        · exact ⟨m - 1, rfl, by omega, by omega⟩
        · exact ⟨k, rfl, by omega, by omega⟩
      refine lcx_put off_pure hD hDa (by omega) (sm.trans sl) d6 (sl _ _ hDa hl3) hz ⟨r ++ [x], by simp, by simp [hr1], fun z hz => ?_⟩
      rcases List.mem_append.mp hz with q | q
      · exact hr2 z q
      · simp at q
        subst q
        exact ⟨x1, x2⟩
    · rintro l H3 sm dd hl3 hz ⟨r, rfl, hr1, hr2⟩
      refine ⟨D, _, rfl, .inl ⟨sq hl3, fun t ht => ?_⟩⟩
      exact q _ t r ((sa.trans sm).trans (Same.x a (same_upd ht))) (dd.same (same_upd ht)) upd_same hr1 hr2
end K7
end

section
set_option Elab.async false
set_option linter.all false
set_option maxRecDepth 100000
namespace K7
open PySem PySem.Spec PyProof.Rows L2 SlX
def ItzM (K : PySem.W.Frag) (a b : Addr) : It :=
  ⟨fun i H => ∃ (xs ys : List V) (x y : V), SqT K H a xs ∧ SqL K H b ys ∧ xs[i]? = some x ∧ ys[i]? = some y,
   fun i H v H' => ∃ T x y, v = .ref T ∧ H T = none ∧ H' = upd H T (.tup [x, y]) ∧ (∀ xs, SqT K H a xs → xs[i]? = some x) ∧ ∀ ys, SqL K H b ys → ys[i]? = some y,
   fun i H => ∃ xs ys : List V, SqT K H a xs ∧ SqL K H b ys ∧ i ≤ xs.length ∧ i ≤ ys.length ∧ (xs.length ≤ i ∨ ys.length ≤ i)⟩
theorem Wk.zipM {K : PySem.W.Frag} {a b : Addr} {xs ys : List V} (hl : xs.length = ys.length) : Wk (ItzM K a b) xs.length (fun H => SqT K H a xs ∧ SqL K H b ys) (fun i v H H' => ∃ T x y, v = .ref T ∧ H T = none ∧ H' = upd H T (.tup [x, y]) ∧ xs[i]? = some x ∧ ys[i]? = some y) where
  go := fun i H s h => let ⟨x, e⟩ := getE_of h; let ⟨y, e'⟩ := getE_of (xs := ys) (by omega : i < ys.length); ⟨xs, ys, x, y, s.1, s.2, e, e'⟩
  stop := fun H s => ⟨xs, ys, s.1, s.2, Nat.le_refl _, by omega, .inl (Nat.le_refl _)⟩
  yld := fun i H v H' s _ ⟨T, x, y, h1, h2, h3, h4, h5⟩ => ⟨T, x, y, h1, h2, h3, h4 xs s.1, h5 ys s.2⟩
def iZipM (K : PySem.W.Frag) (ta : TA) : TI := fun σ H R => ta σ H fun vs H1 => ∃ a b xs ys, vs = [.ref a, .ref b] ∧ SqT K H1 a xs ∧ SqL K H1 b ys ∧ R (ItzM K a b) H1
theorem notin2 {c x y : Nat} (h1 : c ≠ x) (h2 : c ≠ y) : (c : Addr) ∉ ([x, y] : List Addr) := fun h => by
  rcases List.mem_cons.mp h with e | h
  · exact h1 e
  · exact h2 (List.mem_singleton.mp h)
theorem sepM {n a b : Nat} (la : a < n) (lb : b < n) : ZipSep2 (n + 4) (n + 2) (n + 3) n (n + 1) [n, a] [n + 1, b] where
  TIz := by show n + 2 ≠ n + 4; omega
  TOz := by show n + 3 ≠ n + 4; omega
  TITO := by show n + 2 ≠ n + 3; omega
  TIi1 := by show n + 2 ≠ n; omega
  mem1 := by simp
  zf1 := notin2 (by omega) (by omega)
  Tf1 := notin2 (by omega) (by omega)
  TIi2 := by show n + 2 ≠ n + 1; omega
  mem2 := by simp
  zf2 := notin2 (by omega) (by omega)
  Tf2 := notin2 (by omega) (by omega)
  sep1_2 := notin2 (by omega) (by omega)
  sep2_1 := notin2 (by omega) (by omega)
theorem turn_zipM {P : Program} {w : World} {K : PySem.W.Frag} {elts : List Expr} {kk : Nat} {tpos : Pos} {a b z TI TO i1 i2 : Addr} (D : ZipSep2 z TI TO i1 i2 [i1, a] [i2, b]) (na : a ≠ i1) (nb : b ≠ i2) :
    L2.Turn P w K (.Tuple elts kk tpos) (ItzM K a b) [z, TI, TO, i1, i2] z (fun i h => IsZip h z TI TO .none ∧ IsTupOf2 h TI (.ref i1) (.ref i2) ∧ (∃ x y, IsTupOf2 h TO x y) ∧ h.IsTupleIter i1 a i ∧ h.IsListIter i2 b i) where
  mem := by simp
  obj := fun i h st c hc => by
    obtain ⟨hz, hTI, ⟨x, y, hTO⟩, ⟨o1, e1, _, d1⟩, ⟨o2, e2, _, d2⟩⟩ := st
    have e' : c = z ∨ c = TI ∨ c = TO ∨ c = i1 ∨ c = i2 := by simpa using hc
    rcases e' with q | q | q | q | q
    · rw [q]; exact ⟨_, hz, fun v q => nomatch q⟩
    · rw [q]; exact ⟨_, hTI, fun v q => nomatch q⟩
    · rw [q]; exact ⟨_, hTO, fun v q => nomatch q⟩
    · rw [q]; exact ⟨o1, e1, fun v q => by rw [d1] at q; cases q⟩
    · rw [q]; exact ⟨o2, e2, fun v q => by rw [d2] at q; cases q⟩
  keep := fun i h h' st k => by
    obtain ⟨hz, hTI, ⟨x, y, hTO⟩, h1, h2⟩ := st
    exact ⟨k z (by simp) _ hz, k TI (by simp) _ hTI, ⟨x, y, k TO (by simp) _ hTO⟩, h1.at fun o q => k i1 (by simp) o q, h2.at fun o q => k i2 (by simp) o q⟩
  item := by
    intro X hP hw hK hc i pins s σ H E I hf st hg
    subst hP hw hK
    obtain ⟨hz, hTI, ⟨x0, y0, hTO⟩, h1, h2⟩ := st
    obtain ⟨xs, ys, x, y, hqx, hqy, hx, hy⟩ := hg
    obtain ⟨its, rv, p, _⟩ := I.tuple hqx
    obtain ⟨its2, rv2, p2, _⟩ := I.list hqy
    obtain ⟨u, hu, ru⟩ := rv.get hx
    obtain ⟨u2, hu2, ru2⟩ := rv2.get hy
    have hh : X.A.in1.handled = none := I.ok.hd hc
    have hzl : z < s.heap.objs.size := Heap.lt_size hz
    have D1 := Draws.tuple (prog := X.prog) (w := X.w) hh i1 a na its.toArray
    have D2 := Draws.list (prog := X.prog) (w := X.w) hh i2 b nb its2.toArray
    have l1 : xs.length = its.length := rv.length
    have l2 : ys.length = its2.length := rv2.length
    have lx : i < xs.length := (List.getElem?_eq_some_iff.mp hx).1
    have ly : i < ys.length := (List.getElem?_eq_some_iff.mp hy).1
    refine wpAny_pyNext_zipD2_item D D1 D2 hz hTI hTO ⟨h1, p⟩ ⟨h2, p2.isList⟩ (by simp; omega) (by simp; omega) fun x1 x2 h' tk y1 y2 z' TO' h1' h2' hT hsz hk => ?_
    have hu' : its.toArray[i]? = some u := by simpa using hu
    have hu2' : its2.toArray[i]? = some u2 := by simpa using hu2
    rw [hu'] at y1
    rw [hu2'] at y2
    obtain rfl := Option.some.inj y1
    obtain rfl := Option.some.inj y2
    refine ⟨_, rfl, wpAny_letOwnedTupleGo_zip (s := { s with heap := h', toks := tk }) z' fun h'' z'' sb => ?_⟩
    have hT2 : h''.get? s.heap.objs.size = some { cls := .type "tuple", data := .seq #[u, u2] } := (sb.2 _ (Nat.ne_of_gt hzl)).trans hT
    have new : ObjOk X.prog X.w (upd H s.heap.objs.size (.tup [x, y])) h'' s.heap.objs.size (.tup [x, y]) :=
      ⟨by show 2 ≤ sizeLine; decide, [u, u2], .cons ru (.cons ru2 .nil), ⟨_, hT2, rfl, _, rfl⟩⟩
    have I1 : Inv X pins σ (upd H s.heap.objs.size (.tup [x, y])) { s with heap := h'', toks := tk } :=
      I.turnedNew (t' := tk) (ch := [z, TI, TO, i1, i2]) (fun c o hb q => (sb.2 c (fun q' => hb (by simp [q']))).trans (hk c o (fun q' => hb (by simp [q'])) (fun q' => hb (by simp [q'])) (fun q' => hb (by simp [q'])) (fun q' => hb (by simp [q'])) q)) hf (Nat.le_refl _) new
    refine ⟨.ref s.heap.objs.size, _, I1, rfl, ⟨_, x, y, rfl, I.hok.fresh (Nat.le_refl _), rfl, fun l hl => by rw [I.tuple_inj hl hqx]; exact hx, fun l hl => by rw [I.list_inj hl hqy]; exact hy⟩, ⟨z'', ?_, ⟨u, u2, ?_⟩, ?_, ?_⟩, fun c hcm => ?_⟩
    · exact (sb.2 _ D.TIz).trans (hk _ _ D.TIz D.TITO D.TIi1 D.TIi2 hTI)
    · exact (sb.2 _ D.TOz).trans TO'
    · exact h1'.1.at fun o q => (sb.2 _ D.zi1.symm).trans q
    · exact h2'.1.at fun o q => (sb.2 _ D.zi2.symm).trans q
    · have hlt : c < s.heap.objs.size := by
        have e' : c = z ∨ c = TI ∨ c = TO ∨ c = i1 ∨ c = i2 := by simpa using hcm
        rcases e' with q | q | q | q | q
        · rw [q]; exact hzl
        · rw [q]; exact Heap.lt_size hTI
        · rw [q]; exact Heap.lt_size hTO
        · rw [q]; obtain ⟨_, e1, _⟩ := h1; exact Heap.lt_size e1
        · rw [q]; obtain ⟨_, e2, _⟩ := h2; exact Heap.lt_size e2
      rw [upd_ne (Nat.ne_of_lt hlt)]
      exact (hf c hcm).1
  done := by
    intro X hP hw hK hc i pins s σ H E I hf st hg
    subst hP hw hK
    obtain ⟨hz, hTI, ⟨x0, y0, hTO⟩, h1, h2⟩ := st
    obtain ⟨xs, ys, hqx, hqy, lx, ly, hend⟩ := hg
    obtain ⟨its, rv, p, _⟩ := I.tuple hqx
    obtain ⟨its2, rv2, p2, _⟩ := I.list hqy
    have l1 : xs.length = its.length := rv.length
    have l2 : ys.length = its2.length := rv2.length
    have hh : X.A.in1.handled = none := I.ok.hd hc
    have D1 := Draws.tuple (prog := X.prog) (w := X.w) hh i1 a na its.toArray
    have D2 := Draws.list (prog := X.prog) (w := X.w) hh i2 b nb its2.toArray
    exact wpAny_pyNext_zipD2_end D D1 D2 hz hTI hTO ⟨h1, p⟩ ⟨h2, p2.isList⟩ (by simp; omega) (by simp; omega) (by simp; omega) fun h' tk hk => ⟨rfl, I.turnedL (t' := tk) (ch := [z, TI, TO, i1, i2]) (fun c o hb q =>
      hk c o (fun q' => hb (by simp [q'])) (fun q' => hb (by simp [q'])) (fun q' => hb (by simp [q'])) (fun q' => hb (by simp [q'])) q) hf⟩
  self := fun A i s Q E st h => wpAny_pyIter_zip st.1 h
theorem pi_zipM (K : PySem.W.Frag) {X : Cx} {e e2 : Expr} {ta : TA} {p pos tpos : Pos} {elts : List Expr} {kk : Nat} (hg : Gl X "zip") (hm : X.mg "zip" = none) (ha : PA X [e, e2] ta) (h : X.K = K := by rfl)
    (hs : starEach [e, e2] X.env = (false, eval e X.env) :: starEach [e2] X.env := by rfl) (hpl : (backTo pos (starEach [e2] X.env)).any (·.1) = false := by rfl) :
    PI X (.Tuple elts kk tpos) (.Call (.Name "zip" p) [e, e2] [] pos) (iZipM K ta) := by
  subst h
  refine ⟨fun pins s σ H R I h => ?_⟩
  refine Call_ (ld_blt I hg hm PyProof.Rows.boot_zip (PyProof.Rows.callWith_type1 (thn (ha.run pos pins s σ H _ I h) fun us s1 ⟨vs, H1, I1, r1, q1⟩ => ?_) hs hpl))
  obtain ⟨a, b, xs, ys, ex, hqx, hqy, q⟩ := q1
  subst ex
  cases r1 with
  | cons r rr =>
    cases rr with
    | cons r' rr =>
      cases rr
      cases r
      cases r'
      have fresh5 : ∀ c, c ∈ [s1.heap.objs.size + 4, s1.heap.objs.size + 2, s1.heap.objs.size + 3, s1.heap.objs.size, s1.heap.objs.size + 1] → FpOk X pins H1 c := fun c hcm => by
        have e' : c = s1.heap.objs.size + 4 ∨ c = s1.heap.objs.size + 2 ∨ c = s1.heap.objs.size + 3 ∨ c = s1.heap.objs.size ∨ c = s1.heap.objs.size + 1 := by simpa using hcm
        have hle : s1.heap.objs.size ≤ c := by
          rcases e' with z | z | z | z | z
          · rw [z]; exact Nat.le_add_right _ _
          · rw [z]; exact Nat.le_add_right _ _
          · rw [z]; exact Nat.le_add_right _ _
          · rw [z]; exact Nat.le_refl _
          · rw [z]; exact Nat.le_add_right _ _
        exact I1.fpOk hle (I1.hok.fresh hle)
      obtain ⟨its, rv, p1, _⟩ := I1.tuple hqx
      obtain ⟨its2, rv2, p2, _⟩ := I1.list hqy
      obtain ⟨o1, ho1, _⟩ := id p1
      obtain ⟨o2, ho2, _⟩ := id p2.isList
      have la : a < s1.heap.objs.size := Heap.lt_size ho1
      have lb : b < s1.heap.objs.size := Heap.lt_size ho2
      refine zip_begins2 (begins_tuple a its.toArray) (begins_list b its2.toArray) p1 p2.isList fun h' hz hTI hTO h1 h2 hsz hk => wpAny_pyIter_zip hz ?_
      have I2 : Inv X pins σ H1 { s1 with heap := h' } := I1.kept (t' := s1.toks) hk
      have ad : ∀ k, s1.heap.objs.size ≤ s1.heap.objs.size + k := fun k => Nat.le_add_right _ _
      have na : a ≠ s1.heap.objs.size := Nat.ne_of_lt la
      have nb : b ≠ s1.heap.objs.size + 1 := Nat.ne_of_lt (Nat.lt_of_lt_of_le lb (ad 1))
      have lt_ne : ∀ {c k : Nat}, c < s1.heap.objs.size → s1.heap.objs.size + k ≠ c := fun h => Nat.ne_of_gt (Nat.lt_of_lt_of_le h (ad _))
      refine ⟨s1.heap.objs.size + 4, [s1.heap.objs.size + 4, s1.heap.objs.size + 2, s1.heap.objs.size + 3, s1.heap.objs.size, s1.heap.objs.size + 1], _, _, H1, rfl, I2, turn_zipM (i1 := s1.heap.objs.size) (i2 := s1.heap.objs.size + 1) (sepM la lb) na nb, ⟨hz, hTI, ⟨_, _, hTO⟩, ?_, ?_⟩, fresh5, q⟩
      · exact ⟨_, h1, rfl, rfl⟩
      · exact ⟨_, h2, rfl, rfl⟩
end K7
end

section
set_option Elab.async false
set_option linter.all false
set_option maxRecDepth 100000
namespace K7
open PySem PySem.Spec PyProof.Rows L2 SlX
def cntN (f : Nat → Bool) : Nat → Int
  | 0 => 0
  | i + 1 => cntN f i + (if f i then 1 else 0)
theorem cntN_bd (f : Nat → Bool) : ∀ i, 0 ≤ cntN f i ∧ cntN f i ≤ (i : Int)
  | 0 => ⟨Int.le_refl _, Int.le_refl _⟩
  | i + 1 => by
    have := cntN_bd f i
    unfold cntN
    split <;> omega
section
variable {prog : Program} {w : World} {A : Around} {R : Result → Shared → Prop} {I : Addr} {fp wr : List Addr} {G : Array GenState → Array GenState → Prop} {n : Nat} {P : Nat → Value → Prop} {St : Nat → Shared → Prop}
theorem sumB_loop (W : WalksS prog w A.in1 I fp wr G n P St) (f : Nat → Bool) (hf : ∀ i v, P i v → v = .bool (f i)) (hn : n ≤ 1000) (S : Addr) (hSf : S ∉ fp) :
    ∀ (k i : Nat) (s : Shared) (tA : Tok) (c : Nat), n - i = k → i ≤ n → St i s → s.heap.get? S = some { cls := .type "list", dict := none, data := .seq #[.int (cntN f i) tA] c, slots := #[] } →
    (∀ s' t', Moved (S :: wr) G s s' → R (.ok (.ret (.int (cntN f n) t'))) s') → codeAny (model prog w) A (.builtin "sum.loop" ⟨[.ref I, .ref S, rawInt 0, rawInt 0], []⟩) R s := by
  have nS : S ∉ wr := fun z => hSf (W.sub _ z)
  have sb : ∀ b ∈ wr, b ∈ S :: wr := fun b z => List.mem_cons_of_mem _ z
  intro k
  induction k with
  | zero =>
    intro i s tA c hk hi st hS q
    obtain rfl : i = n := by omega
    refine codeAny_builtin F.entry_sum_loop ?_
    rw [Around.under_plainId F.plain_sum_loop _]
    show wpAny _ A.in1 (seqItems? (.ref S) >>= _) _ _ s
    refine wpAny_bind (wpAny_seqItems hS rfl ?_)
    show wpAny _ A.in1 (tryCatch (pyNext (.ref I)) _ >>= _) _ _ s
    exact wpAny_bind (wpAny_tryCatch (W.done s _ _ st fun s' m => wpAny_pure (q s' tA (m.mono sb))))
  | succ k ih =>
    intro i s tA c hk hi st hS q
    have lt : i < n := by omega
    refine codeAny_builtin F.entry_sum_loop ?_
    rw [Around.under_plainId F.plain_sum_loop _]
    show wpAny _ A.in1 (seqItems? (.ref S) >>= _) _ _ s
    refine wpAny_bind (wpAny_seqItems hS rfl ?_)
    show wpAny _ A.in1 (tryCatch (pyNext (.ref I)) _ >>= _) _ _ s
    refine wpAny_bind (wpAny_tryCatch (W.item i s _ _ lt st fun v s' hP st' m => ?_))
    obtain rfl := hf i v hP
    have hS' := m.heap S _ nS hS
    have b1 := cntN_bd f i
    have b2 := cntN_bd f (i + 1)
    have fit : ∀ z : Int, cntN f (i + 1) = cntN f i + z → 0 ≤ z → z ≤ 1 → ((decide (-(2 ^ 63 : Int) ≤ z) && decide (z < 2 ^ 63)) && (decide (-(2 ^ 63 : Int) ≤ cntN f i + z) && decide (cntN f i + z < 2 ^ 63))) = true := fun z e z0 z1 => by
      rw [← e, decide_eq_true (by omega), decide_eq_true (by omega), decide_eq_true (by omega), decide_eq_true (by omega)]
      rfl
    have e1 : cntN f (i + 1) = cntN f i + (if f i = true then 1 else 0) := rfl
    show wpAny _ A.in1 (if (_ : Bool) = true then (mkInt (cntN f (i + 1)) >>= _) else _) _ _ _
    split
    · rename_i hfi
      rw [if_pos hfi] at e1
      split
      rotate_left
      · rename_i no
        exact absurd (fit 1 e1 (by decide) (by decide)) no
      refine wpAny_bind (wpAny_mkInt ?_)
      show wpAny _ A.in1 (updateSeq S (fun _ => #[.int (cntN f (i + 1)) s'.toks]) >>= _) _ _ _
      refine wpAny_bind ?_
      refine wpAny_updateSeq hS' rfl (wpAny_pure ⟨plainId_quiet F.plain_sum_loop _, ih (i + 1) _ s'.toks _ (by omega) lt (W.frame _ s' _ _ st' (by first | exact Nat.le_refl _ | exact Nat.le_succ _ | omega) fun b hb o e => ?_) (Heap.get?_update_self _ hS' rfl) fun s2 t2 m2 => ?_⟩)
      · exact (Heap.get?_update_other _ _ (fun z : S = b => hSf (z ▸ hb))).trans e
      · refine q s2 t2 (Moved.trans W.gtrans ((m.mono sb).then_heap (by first | exact Nat.le_refl _ | exact Nat.le_succ _ | omega) fun b o hb e => ?_) m2)
        exact (Heap.get?_update_other _ _ (fun z : S = b => hb (z ▸ List.mem_cons_self))).trans e
    · rename_i hfi
      rw [if_neg hfi] at e1
      split
      rotate_left
      · rename_i no
        exact absurd (fit 0 e1 (by decide) (by decide)) no
      refine wpAny_bind (wpAny_mkInt ?_)
      show wpAny _ A.in1 (updateSeq S (fun _ => #[.int (cntN f (i + 1)) s'.toks]) >>= _) _ _ _
      refine wpAny_bind ?_
      refine wpAny_updateSeq hS' rfl (wpAny_pure ⟨plainId_quiet F.plain_sum_loop _, ih (i + 1) _ s'.toks _ (by omega) lt (W.frame _ s' _ _ st' (by first | exact Nat.le_refl _ | exact Nat.le_succ _ | omega) fun b hb o e => ?_) (Heap.get?_update_self _ hS' rfl) fun s2 t2 m2 => ?_⟩)
      · exact (Heap.get?_update_other _ _ (fun z : S = b => hSf (z ▸ hb))).trans e
      · refine q s2 t2 (Moved.trans W.gtrans ((m.mono sb).then_heap (by first | exact Nat.le_refl _ | exact Nat.le_succ _ | omega) fun b o hb e => ?_) m2)
        exact (Heap.get?_update_other _ _ (fun z : S = b => hb (z ▸ List.mem_cons_self))).trans e
end
section
variable {X : Cx}
def cntB (bs : List Bool) : Nat := bs.countP id
theorem cntN_take (bs : List Bool) : ∀ i, i ≤ bs.length → cntN (fun j => bs.getD j false) i = ((bs.take i).countP id : Nat)
  | 0, _ => by simp [cntN]
  | i + 1, h => by
    have e : bs[i]? = some (bs.getD i false) := by
      rw [List.getD_eq_getElem?_getD, List.getElem?_eq_getElem (by omega)]
      rfl
    unfold cntN
    rw [cntN_take bs i (by omega), List.take_add_one, e, Option.toList_some, List.countP_append]
    cases bs.getD i false <;> simp
/-- sum of a list of truth values -/
def rSumB (K : PySem.W.Frag) : List V → Hp → VK → Prop := fun vs H Q => ∃ (a : Addr) (bs : List Bool), vs = [V.ref a] ∧ SqL K H a (bs.map V.bl) ∧ bs.length ≤ 1000 ∧ Q (.int (cntB bs : Nat)) H
theorem cr_sumBK (K : PySem.W.Frag) (hc : X.calm = true) (h : X.K = K := by rfl) : CallR X (.builtin "sum") (rSumB K) := by
  subst h
  intro pins s σ H vs us Q I r h
  obtain ⟨a, bs, rfl, hs, hz, q⟩ := h
  obtain ⟨its, rv, hl, _⟩ := I.list hs
  rw [Vals.ref1 r]
  have hh : X.A.in1.handled = none := I.ok.hd hc
  have hl' := hl.isList
  obtain ⟨o, ho, _⟩ := id hl'
  have lt : a < s.heap.objs.size := Heap.lt_size ho
  have ne : a ≠ s.heap.objs.size := Nat.ne_of_lt lt
  have len : bs.length = its.length := by
    have := rv.length
    rwa [List.length_map] at this
  have W := (Walks.list (prog := X.prog) (w := X.w) (A := X.A.in1) hh s.heap.objs.size a ne its.toArray).toS
  have e0 := cntN_take bs bs.length (Nat.le_refl _)
  rw [List.take_of_length_le (Nat.le_refl _)] at e0
  have f1 : isSubtype (.type "int") (.type "str") = pure false := PySem.sub_int_str
  have f0 : Builtin.Builtins.bindParams "sum" ["start"] 0 {} = pure [none] := rfl
  refine call_function_tree F.kind_sum F.plain_sum F.entry_sum (F.args_sum1 _) ?_
  unfold Builtin.«sum»
  simp only [List.length_cons, List.length_nil, if_neg (show ¬ ((0 + 1 + 0 : Nat) > 2) by decide)]
  first | rw [if_neg (by decide)] | skip
  refine wpAny_bind (wpAny_of_eq f0 (wpAny_bind (wpAny_pyIter_list hl' (wpAny_bind (wpAny_mkInt (wpAny_bind (wpAny_pure ?_)))))))
  simp only [List.forIn_cons, List.forIn_nil]
  refine wpAny_bind (wpAny_bind (wpAny_bind (wpAny_isInstance (b := false) (typeIs_int _ _ _) f1 ?_)))
  rw [if_neg (by decide)]
  refine wpAny_pure (wpAny_bind (wpAny_bind (wpAny_isInstance (b := false) (typeIs_int _ _ _) sub_int_bytes ?_)))
  rw [if_neg (by decide)]
  refine wpAny_pure (wpAny_bind (wpAny_bind (wpAny_isInstance (b := false) (typeIs_int _ _ _) sub_int_bytearray ?_)))
  rw [if_neg (by decide)]
  refine wpAny_pure (wpAny_pure (wpAny_bind (wpAny_newObj_type ?_)))
  have sz : (s.heap.push { cls := .type "list_iterator", data := .fields #[.ref a, .int 0 0] }).objs.size = s.heap.objs.size + 1 := Heap.size_push ..
  have at0 : ((s.heap.push { cls := .type "list_iterator", data := .fields #[.ref a, .int 0 0] }).push { cls := .type "list", data := .seq #[.int 0 s.toks] }).get? s.heap.objs.size = some { cls := .type "list_iterator", data := .fields #[.ref a, .int 0 0] } := Heap.get?_push_of_some _ (Heap.get?_push_size _ rfl)
  have old : ∀ b u, s.heap.get? b = some u → ((s.heap.push { cls := .type "list_iterator", data := .fields #[.ref a, .int 0 0] }).push { cls := .type "list", data := .seq #[.int 0 s.toks] }).get? b = some u := fun b u e => Heap.get?_push_of_some _ (Heap.get?_push_of_some _ e)
  have nS : (s.heap.push { cls := .type "list_iterator", data := .fields #[.ref a, .int 0 0] }).objs.size ∉ [s.heap.objs.size, a] := fun z => by
    rw [sz] at z
    rcases List.mem_cons.mp z with z | z
    · exact Nat.succ_ne_self _ z
    · exact Nat.ne_of_gt (Nat.lt_succ_of_lt lt) (List.mem_singleton.mp z)
  refine wpAny_pure ⟨plainId_quiet F.plain_sum_loop _, sumB_loop W (fun j => bs.getD j false) (fun i v hv => ?_) (by simp; omega) _ nS its.length 0 _ s.toks 0 (by simp) (Nat.zero_le _) ⟨⟨_, at0, rfl, rfl⟩, hl'.at fun u e => old _ _ e⟩ (Heap.get?_push_size _ rfl) fun s' t' m => ?_⟩
  · have hi : i < bs.length := by
      rcases Nat.lt_or_ge i its.length with z | z
      · omega
      · rw [Array.getElem?_eq_none (by simpa using z)] at hv
        cases hv
    obtain ⟨u, hu, ru⟩ := rv.get (i := i) (x := V.bl (bs.getD i false)) (by rw [List.getElem?_map, List.getD_eq_getElem?_getD, List.getElem?_eq_getElem hi]; rfl)
    have hu' : its.toArray[i]? = some u := by simpa using hu
    rw [hu'] at hv
    obtain rfl := Option.some.inj hv
    exact ru
  · obtain ⟨h', g', d', tk', os'⟩ := s'
    obtain rfl : g' = s.gens := m.gens
    obtain rfl : d' = s.drawn := m.drawn
    obtain rfl : os' = s.os := m.os
    refine ⟨V.int (cntB bs : Nat), H, I.kept (t' := tk') fun b u e => m.heap b u (fun z => ?_) (old _ _ e), ⟨t', ?_⟩, q⟩
    · have lb := Heap.lt_size e
      rcases List.mem_cons.mp z with z | z
      · rw [z, sz] at lb
        exact absurd lb (Nat.not_lt.mpr (Nat.le_succ _))
      · rw [List.mem_singleton.mp z] at lb
        exact Nat.lt_irrefl _ lb
    · rw [show its.toArray.size = bs.length by simp [len], e0]
      rfl
/-- max of a tuple of numbers -/
def rMaxT (K : PySem.W.Frag) : List V → Hp → VK → Prop := fun vs H Q => ∃ (a : Addr) (ns : List Int), vs = [V.ref a] ∧ SqT K H a (ns.map V.int) ∧ 0 < ns.length ∧ ns.length ≤ 60 ∧ ∀ m, m ∈ ns → (∀ y, y ∈ ns → y ≤ m) → Q (.int m) H
theorem cr_maxTK (K : PySem.W.Frag) (hc : X.calm = true) (h : X.K = K := by rfl) : CallR X (.builtin "max") (rMaxT K) := by
  subst h
  intro pins s σ H vs us Q I r h
  obtain ⟨a, ns, rfl, hs, n0, _, q⟩ := h
  obtain ⟨its, rv, hl, _⟩ := I.tuple hs
  rw [Vals.ref1 r]
  have hh : X.A.in1.handled = none := I.ok.hd hc
  obtain ⟨o, ho, _⟩ := id hl
  have lt : a < s.heap.objs.size := Heap.lt_size ho
  have len : ns.length = its.length := by
    have := rv.length
    rwa [List.length_map] at this
  have at_ : ∀ i v, its.toArray[i]? = some v → ∃ t, v = Value.int (ns.getD i 0) t := fun i v hv => by
    have hi : i < ns.length := by
      rcases Nat.lt_or_ge i its.length with z | z
      · omega
      · rw [Array.getElem?_eq_none (by simpa using z)] at hv
        cases hv
    obtain ⟨u, hu, ru⟩ := rv.get (i := i) (x := V.int (ns.getD i 0)) (by rw [List.getElem?_map, List.getD_eq_getElem?_getD, List.getElem?_eq_getElem hi]; rfl)
    have hu' : its.toArray[i]? = some u := by simpa using hu
    rw [hu'] at hv
    obtain rfl := Option.some.inj hv
    exact ru
  have na : a ≠ s.heap.objs.size := Nat.ne_of_lt lt
  refine call_max_walk (wpAny_pyIter_tuple (show s.heap.IsTuple a its.toArray from hl) ?_)
  refine ⟨s.heap.objs.size, [s.heap.objs.size, a], [s.heap.objs.size], its.toArray.size, fun i v => its.toArray[i]? = some v, _, fun i j => decide (ns.getD i 0 > ns.getD j 0), rfl, Walks.tuple (A := X.A.in1) hh s.heap.objs.size a na its.toArray, ⟨⟨_, Heap.get?_push_size _ rfl, rfl, rfl⟩, (show s.heap.IsTuple a its.toArray from hl).push _⟩, fun b hb => ?_, by simp; omega, CmpOf.ints_gt (fun i => ns.getD i 0) at_, fun v h' tk hv hk => ?_⟩
  · show b < (s.heap.push _).objs.size
    rw [size_push']
    rcases List.mem_cons.mp hb with z | z
    · exact z ▸ Nat.lt_succ_self _
    · exact (List.mem_singleton.mp z) ▸ Nat.lt_succ_of_lt lt
  · have sz : its.toArray.size = ns.length := by simp [len]
    obtain ⟨t, rfl⟩ := at_ _ v hv
    obtain ⟨m1', m2'⟩ := argBest_gt (fun i => ns.getD i 0) (its.toArray.size - 1)
    have m1 : argBest (fun i j => decide (ns.getD i 0 > ns.getD j 0)) (its.toArray.size - 1) ≤ its.toArray.size - 1 := m1'
    have m2 : ∀ j, j ≤ its.toArray.size - 1 → ns.getD j 0 ≤ ns.getD (argBest (fun i j => decide (ns.getD i 0 > ns.getD j 0)) (its.toArray.size - 1)) 0 := m2'
    generalize argBest (fun i j => decide (ns.getD i 0 > ns.getD j 0)) (its.toArray.size - 1) = k at m1 m2 ⊢
    have gt : ∀ j, j < ns.length → ns.getD j 0 ∈ ns := fun j hj => by
      rw [List.getD_eq_getElem?_getD, List.getElem?_eq_getElem hj]
      exact List.getElem_mem hj
    refine ⟨V.int (ns.getD k 0), H, I.kept (t' := tk) (fun b u e => hk b u (fun z => ?_) (Heap.get?_push_of_some _ e)), ⟨t, rfl⟩, q _ (gt k (by omega)) fun y hy => ?_⟩
    · rw [List.mem_singleton.mp z] at e
      exact absurd (Heap.lt_size e) (Nat.lt_irrefl _)
    · obtain ⟨j, hj, rfl⟩ := List.getElem_of_mem hy
      have := m2 j (by omega)
      rwa [show ns.getD j 0 = ns[j] by rw [List.getD_eq_getElem?_getD, List.getElem?_eq_getElem hj]; rfl] at this
end
end K7
end

section
set_option Elab.async false
set_option linter.all false
set_option maxRecDepth 100000
namespace K7
open PySem PySem.Spec PyProof.Rows L2 SlX
theorem vals_app {vs ws : List V} {us xs : List Value} (h : Vals vs us) (g : Vals ws xs) : Vals (vs ++ ws) (us ++ xs) := by
  induction h with
  | nil => exact g
  | cons a _ ih => exact .cons a ih
theorem kb_Prices_init {K : PySem.W.Frag} {mg : Str → Option Value} (T : Txt K mg) : KBn K T.d_Prices_init ["self", "put", "out", "swap"] 1 ["put", "out", "swap"] (fun us ws => us ++ ws) (fun vs zs => vs ++ zs) := by
  obtain ⟨oc, od, dV, kV, doc, pm, an, cdv, ct, osl, e, lk, hcd, hD, hK⟩ := T.F_Prices_init.ex
  rcases hD with ⟨_, rfl⟩ | ⟨z, _⟩
  · refine ⟨fun s us ws X l1 l2 => BindsTo.of_looks fun M => ?_, fun r1 r2 => vals_app r1 r2⟩
    rw [e]
    match us, ws, l1, l2 with
    | [u], [a, b, c], _, _ => exact .of_pure rfl
  · exact absurd rfl z
end K7
end

section
set_option Elab.async false
set_option linter.all false
set_option maxRecDepth 100000
namespace K7
open PySem PySem.Spec PyProof.Rows L2 SlX
section
variable {P : Program} {w : World} {A : Around} {E : Value → Shared → Prop} {s : Shared}
abbrev set0 (w : World) : Obj := { cls := .type "set", dict := none, data := .set #[] 0 (.fresh 0 0 (!w.params.followText "set-order")) }
set_option maxHeartbeats 3200000 in
/-- set(xs), xs a list of numbers -/
theorem call_setL {l : Addr} {items : Array Value} (ns : List Int) {Q : Value → Shared → Prop} (hh : A.handled = none) (hl : s.heap.IsList l items) (hit : IntsAre items.toList ns) (hb : ns.length + 1 < scanBound)
    (h : ∀ (h' : Heap) (tk c : Nat), SetR w h' s.heap.objs.size (fun j => decide (j ∈ ns)) c → c ≤ ns.length → (∀ b o, s.heap.get? b = some o → h'.get? b = some o) → Q (.ref s.heap.objs.size) { s with heap := h', toks := tk }) :
    wpAny (model P w) A (call (.type "set") [.ref l]) Q E s := by
  have len : items.size = ns.length := (Array.length_toList (xs := items)).symm.trans (IntsAre.length hit)
  obtain ⟨c, tl, hmro⟩ := F.called_set.mro
  have hmade := F.called_set.made
  have hsub := F.called_set.sub
  refine wpAny_call (codeAny_of_tree ?_)
  show wpAny _ _ (callAny (.type "set") _) _ _ _
  refine wpAny_pure ⟨Code.quiet_builtin _ (by decide +kernel), codeAny_builtin F.entry_type_call ?_⟩
  rw [Around.under_plain (weight_type_call_type "set" [.ref l] []) rfl]
  have h1 := F.called_set.notType
  have h2 := F.called_set.canCreate
  have hct := F.typeCall_set_1 (.ref l)
  repeat (any_goals (first | assumption | wp_step))
  refine codeAny_mono (code_set_led1 (.ref l) (E := E) (Q₁ := fun obj s₁ => obj = .ref s.heap.objs.size ∧ s₁ = { s with heap := s.heap.push (set0 w) }) ⟨rfl, rfl⟩) fun r s₁ hr => ?_
  cases r with
  | error e => exact hr
  | ok fl =>
    cases fl with
    | ret obj =>
      obtain ⟨rfl, rfl⟩ := hr
      have hS : (s.heap.push (set0 w)).get? s.heap.objs.size = some (set0 w) := Heap.get?_push_size _ rfl
      have hT : Shared.TypeIs { s with heap := s.heap.push (set0 w) } (.ref s.heap.objs.size) "set" := ⟨_, hS, rfl⟩
      have hli := F.called_set.init.lookup
      have hbi := F.called_set.init.bind (.ref s.heap.objs.size)
      repeat (any_goals (first | assumption | wp_step))
      refine codeAny_mono (codeAny_call_builtin (R := wants (fun r s₂ => r = .none ∧ ∃ h' tk c, s₂ = { s with heap := h', toks := tk } ∧ SetR w h' s.heap.objs.size (fun j => decide (j ∈ ns)) c ∧ c ≤ ns.length ∧
          (∀ b o, s.heap.get? b = some o → h'.get? b = some o)) E) F.called_set.init.plain F.entry_set_init (check_set_init_1 hT ?_)) fun r₂ s₂ hr₂ => ?_
      · obtain ⟨⟨ocls, odict, odata, oslots⟩, hol, hcl, nl, hdl⟩ := hl
        simp only at hcl hdl
        subst hcl hdl
        have up : (s.heap.push (set0 w)).get? l = some { cls := .type "list", dict := odict, data := .seq items nl, slots := oslots } := Heap.get?_push_of_some _ hol
        have i1 := F.sub_list_set
        have i2 := F.sub_list_frozenset
        have i3 : (Value.type "list" == Value.type "dict") = false := by decide
        have hl1 : (s.heap.push (set0 w)).IsList l items := ⟨_, up, rfl, nl, rfl⟩
        unfold Builtin.«set.__init__» noKeywords Builtin.Frozenset.updateFrom
        generalize hPI : pyIter = PI
        wp_walk
        subst hPI
        refine wpAny_pyIter_list hl1 ?_
        refine wpAny_bind (wpAny_runValue ?_)
        have hlS : l < s.heap.objs.size := Heap.lt_size hol
        have h3 : A.in1.in1.in1.handled = none := by simp [hh]
        have sz : (s.heap.push (set0 w)).objs.size = s.heap.objs.size + 1 := Heap.size_push ..
        have nI : l ≠ (s.heap.push (set0 w)).objs.size := by rw [sz]; exact Nat.ne_of_lt (Nat.lt_succ_of_lt hlS)
        have nS : s.heap.objs.size ∉ [(s.heap.push (set0 w)).objs.size, l] := fun z => by
          rw [sz] at z
          rcases List.mem_cons.mp z with z | z
          · exact Nat.succ_ne_self _ z.symm
          · exact Nat.ne_of_gt hlS (List.mem_singleton.mp z)
        have val : ∀ (i : Nat) (v : Value), items[i]? = some v → ∃ k t, ns[i]? = some k ∧ v = .int k t := fun i v hv => by
          have hi : i < ns.length := by rw [← len]; exact (Array.getElem?_eq_some_iff.mp hv).1
          obtain ⟨t, e⟩ := IntsAre.int_at hit i v (by rw [Array.getElem?_toList]; exact hv)
          exact ⟨ns[i], t, List.getElem?_eq_getElem hi, by rw [e, List.getD_eq_getElem?_getD, List.getElem?_eq_getElem hi]; rfl⟩
        refine set_update_ints ((Walks.list h3 _ l nI items).toS) s.heap.objs.size nS ns len hb val (items.size - 0) 0 _ (by omega) (Nat.zero_le _) ⟨⟨_, Heap.get?_push_size _ rfl, rfl, rfl⟩, hl1.push _⟩ ?a0 ?a1
        case a0 => exact ⟨0, Nat.le_refl 0, setR_new_at (Heap.get?_push_of_some _ hS)⟩
        case a1 =>
          rintro ⟨h', g2, d', tk', os'⟩ c' m hc' hS'
          obtain rfl : g2 = s.gens := m.gens
          obtain rfl : d' = s.drawn := m.drawn
          obtain rfl : os' = s.os := m.os
          show wpAny _ _ _ _ _ _
          refine wpAny_pure ?_
          show wpAny _ _ (ret Value.none) _ _ _
          rw [len] at hc'
          refine wpAny_pure ⟨rfl, h', tk', c', rfl, hS', hc', fun b o e => m.heap b o (fun z => ?_) (Heap.get?_push_of_some _ (Heap.get?_push_of_some _ e))⟩
          have lb := Heap.lt_size e
          rcases List.mem_cons.mp z with z | z
          · exact Nat.lt_irrefl _ (z ▸ lb)
          · rw [List.mem_singleton.mp z, sz] at lb
            exact Nat.not_lt.mpr (Nat.le_succ _) lb
      · cases r₂ with
        | error e => exact hr₂
        | ok f2 =>
          cases f2 with
          | ret r =>
            obtain ⟨rfl, h', tk, c', rfl, a1, a2, a3⟩ := hr₂
            repeat (any_goals (first | assumption | wp_step))
            exact h _ _ _ a1 a2 a3
          | _ => exact hr₂.elim
    | _ => exact hr.elim
end
section
variable {X : Cx}
/-- set of a list of numbers -/
def rSetOf (K : PySem.W.Frag) (w : World) : List V → Hp → VK → Prop := fun vs H Q => ∃ (a : Addr) (ns : List Int), vs = [V.ref a] ∧ SqL K H a (ns.map V.int) ∧ ns.length ≤ 60 ∧
  ∀ p S n, H p = none → (∀ k, S k = true ↔ k ∈ ns) → n ≤ ns.length → Q (.ref p) (upd H p (SetO w p S n))
theorem cr_setOf (K : PySem.W.Frag) (hc : X.calm = true) (h : X.K = K := by rfl) : CallR X (.type "set") (rSetOf K X.w) := by
  subst h
  intro pins s σ H vs us Q I r h
  obtain ⟨a, ns, rfl, hs, hz, q⟩ := h
  obtain ⟨its, rv, hl, _⟩ := I.list hs
  rw [Vals.ref1 r]
  refine call_setL ns (I.ok.hd hc) hl.isList (by simpa using rv.ints) (by unfold scanBound; omega) fun h' tk c R1 hcn k => ?_
  exact ⟨.ref s.heap.objs.size, _, I.laid (t' := tk) k (Nat.le_refl _) (setO_new R1), rfl, q _ _ _ (I.hok.fresh (Nat.le_refl _)) (fun k => by rw [decide_eq_true_eq]) hcn⟩
end
end K7
end

section
set_option Elab.async false
set_option linter.all false
set_option maxRecDepth 100000
namespace K7
open PySem PySem.Spec PyProof.Rows L2 SlX
section
variable {X : Cx}
theorem kv_vals : ∀ {kvs : List (Key × V)} {vs : List (Key × Value)}, KV kvs vs → Vals (kvs.map (·.2)) (vs.map (·.2))
  | _, _, .nil => .nil
  | _, _, .cons h t => .cons h.2 (kv_vals t)
/-- list(d.values()) -/
def tListVals (td : TE) : TE := fun σ H Q => td σ H fun x H1 => ∃ d kvs, x = .ref d ∧ H1 d = some (.dK kvs) ∧ ∀ p, H1 p = none → Q (.ref p) (upd H1 p (.lst (kvs.map (·.2))))
theorem pe_listVals {e : Expr} {td : TE} {p apos cpos pos : PySem.Pos} (hc : X.calm = true) (he : PE X e td) (hg : Gl X "list") (hm : X.mg "list" = none) (hbase : attributeBase e "values" X.env (eval e X.env) = eval e X.env := by rfl) (hline : (apos.endLine == cpos.line) = true := by rfl)
    (hs : starEach [.Call (.Attribute e "values" apos) [] [] cpos] X.env = (false, eval (.Call (.Attribute e "values" apos) [] [] cpos) X.env) :: starEach [] X.env := by rfl) :
    PE X (.Call (.Name "list" p) [.Call (.Attribute e "values" apos) [] [] cpos] [] pos) (tListVals td) := by
  refine ⟨fun pins s σ H Q I hq => ?_⟩
  refine wpAny_Call_Name_kw (ld_blt I hg hm (show bootBuiltins "list" = some (.type "list") by rfl) ?_)
  refine PyProof.Rows.callWith_type1 ?_ hs rfl
  rw [hs]
  show wpAny _ _ (spliced ((false, eval (.Call (.Attribute e "values" apos) [] [] cpos) X.env) :: backTo pos (starEach [] X.env))) _ _ s
  refine Calls.spliced_cons ?_
  refine wpAny_Call_method (T := "dict") (id := "dict.values") hbase rfl hline F.plainAttrs_dict F.slot_dict_values F.type_dict_values (thn (he.run pins s σ H _ I hq) fun u s1 ⟨x, H1, I1, rx, d, kvs, ex, hd, q⟩ => ?_)
  subst ex
  obtain rfl : u = Value.ref d := rx
  obtain ⟨hz, hs0, vs, kv, hdo⟩ := I1.hok d _ hd
  obtain ⟨ep, hat⟩ := hdo.dictAt
  have lk : kvs.length = vs.length := Paired.length kv
  have I2 : Inv X pins σ H1 { s1 with heap := s1.heap.push { cls := .type "dict_values", data := .fields #[.ref d] } } := I1.kept (t' := s1.toks) fun b ob q => Heap.get?_push_of_some _ q
  refine ⟨hdo.typeIs, hdo.mapOf.noDict, ?_⟩
  show wpAny _ _ (callWith cpos (.builtin "dict.values") [.ref d] [] []) _ X.xe s1
  refine method_meetsIn F.slot_dict_values F.entry_dict_values rfl (PySem.evalArgs_none ⟨rfl, hdo.typeIs, F.args_dict_values_1 _, _, meets_dict_values (mixKind X.prog X.w) d hs0, ⟨vs, hdo⟩, ?_⟩)
  refine Calls.spliced_nil ?_
  refine PySem.W.kdl_call (PySem.W.kdl_values (knd := mixKind X.prog X.w) (kvs := vs) (ep := ep)) (I1.ok.hd hc) ⟨⟨_, Heap.get?_push_size _ rfl, rfl, rfl⟩, hat.push _⟩ (by omega) fun h' tk acc c hk hS hacc => ?_
  have ea : acc.toList = vs.map (·.2) := PySem.W.kdl_vals_eq acc.toList (by rw [Array.length_toList]; exact hacc.1) fun j v e => hacc.2 j v (by rw [← Array.getElem?_toList]; exact e)
  refine ⟨.ref _, _, I2.laid (t' := tk) (o := .lst (kvs.map (·.2))) hk (Nat.le_refl _) ⟨by rw [List.length_map]; exact hz, acc.toList, c, by rw [ea]; exact kv_vals kv, by rw [Array.toArray_toList]; exact hS⟩, rfl, q _ (I2.hok.fresh (Nat.le_refl _))⟩
end
end K7
end

section
set_option Elab.async false
set_option linter.all false
set_option maxRecDepth 100000
namespace K7
open PySem PySem.Spec PyProof.Rows L2 SlX
section
variable {X : Cx}
theorem pick_all {α β : Type} {P : α → β → Prop} : ∀ (l : List α), (∀ a ∈ l, ∃ b, P a b) → ∃ ds : List (α × β), ds.map (·.1) = l ∧ ∀ d ∈ ds, P d.1 d.2
  | [], _ => ⟨[], rfl, fun _ h => nomatch h⟩
  | a :: l, h => by
    obtain ⟨b, hb⟩ := h a List.mem_cons_self
    obtain ⟨ds, e, hd⟩ := pick_all l fun x hx => h x (List.mem_cons_of_mem _ hx)
    exact ⟨(a, b) :: ds, by simp [e], fun d hd' => by
      rcases List.mem_cons.mp hd' with z | z
      · rw [z]; exact hb
      · exact hd d z⟩
theorem refs_each {β : Type} {ad : β → Addr} {R : Value → β → Prop} : ∀ (ds : List β), (∀ d ∈ ds, R (.ref (ad d)) d) → PySem.W.EachIs R (ds.map fun d => Value.ref (ad d)) ds
  | [], _ => .nil
  | d :: ds, h => .cons (h d List.mem_cons_self) (refs_each ds fun x hx => h x (List.mem_cons_of_mem _ hx))
theorem vals_refs_eq : ∀ {bs : List Addr} {us : List Value}, Vals (bs.map V.ref) us → us = bs.map Value.ref
  | [], _, .nil => rfl
  | _ :: _, _, .cons h t => by rw [vals_refs_eq t, show _ = Value.ref _ from h]; rfl
theorem reads_ss {P : Program} {w : World} {H : Hp} {h : Heap} {b : Addr} {x y : Str} (o : ObjOk P w H h b (.tup [.str x, .str y])) : ∃ as, Reads h (.ref b) (.tuple [.str x, .str y]) as := by
  obtain ⟨_, us, rv, ob, ho, hc, n, hd⟩ := o
  cases rv with
  | cons h1 t =>
    cases t with
    | cons h2 t =>
      cases t
      obtain ⟨t1, e1⟩ := h1
      obtain ⟨t2, e2⟩ := h2
      subst e1 e2
      exact ⟨_, .tuple ho hc hd (.cons (.str _ _) (.cons (.str _ _) .nil))⟩
theorem each_refs_eq {β : Type} {ad : β → Addr} : ∀ {us : List Value} {ds : List β}, PySem.W.EachIs (fun v d => v = Value.ref (ad d)) us ds → us = ds.map fun d => Value.ref (ad d)
  | _, _, .nil => rfl
  | _, _, .cons h t => by rw [each_refs_eq t, h]; rfl
/-- sorted of a list of pairs of texts: in some order -/
def rSortedPS (K : PySem.W.Frag) : List V → Hp → VK → Prop := fun vs H Q => ∃ (a : Addr) (bs : List Addr), vs = [V.ref a] ∧ SqL K H a (bs.map V.ref) ∧ bs.length < 64 ∧ (∀ b ∈ bs, ∃ x y, H b = some (.tup [.str x, .str y])) ∧
  ∀ (cs : List Addr) p, cs.Perm bs → H p = none → Q (.ref p) (upd H p (.lst (cs.map V.ref)))
theorem cr_sortedPS (hc : X.calm = true) (hu : X.A.units + 64 < cLine) : CallR X (.builtin "sorted") (rSortedPS X.K) := by
  intro pins s σ H vs us Q I r h
  obtain ⟨a, bs, rfl, hs, hz, hb, q⟩ := h
  obtain ⟨its, rv, hl, _⟩ := I.list hs
  rw [Vals.ref1 r]
  obtain ⟨ds, ed, hd⟩ := pick_all (P := fun (b : Addr) (p : Str × Str) => H b = some (.tup [.str p.1, .str p.2])) bs fun b hb' => let ⟨x, y, e⟩ := hb b hb'; ⟨(x, y), e⟩
  have ei : its = ds.map fun d => Value.ref d.1 := by
    rw [vals_refs_eq rv, ← ed, List.map_map]
    all_goals rfl
  have ln : ds.length = bs.length := by rw [← ed, List.length_map]
  refine PySem.W.sorted_data (R := fun v (d : Addr × Str × Str) => v = Value.ref d.1) (enc := fun d => .tuple [.str d.2.1, .str d.2.2]) (bs := ds) (vs := its) hl.isList
    (by rw [ei]; exact refs_each (ad := fun d : Addr × Str × Str => d.1) ds fun d _ => rfl) (by rw [ei]; exact refs_each (ad := fun d : Addr × Str × Str => d.1) ds fun d hd' => reads_ss (I.hok _ _ (hd d hd')))
    (PySem.W.AllAlike.of fun _ _ => by simp [PySem.W.alike, PySem.W.alikeAll]) (PySem.W.Sortable.tuples fun _ => ⟨_, _, rfl⟩) (by rw [sizeLine_eq]; omega) (fun b _ => ?_) fun out ho eo => ?_
  · have hd : (PyData.tuple [.str b.2.1, .str b.2.2]).depth = 1 := by simp [PyData.depth, PyData.depthAll]
    omega
  · obtain ⟨c, hc'⟩ := PyProof.Rows.sortedAll_at s.heap its out.toArray
    have eout := each_refs_eq (ad := fun d : Addr × Str × Str => d.1) eo
    have pm : (ds.mergeSort (PySem.W.dataLe false fun d : Addr × Str × Str => .tuple [.str d.2.1, .str d.2.2])).Perm ds := List.mergeSort_perm _ _
    have e2 : out = ((ds.mergeSort (PySem.W.dataLe false fun d : Addr × Str × Str => .tuple [.str d.2.1, .str d.2.2])).map (·.1)).map Value.ref := by rw [eout, List.map_map]; all_goals rfl
    refine ⟨.ref (s.heap.objs.size + 1), _, I.laid (t' := s.toks) (o := .lst (((ds.mergeSort (PySem.W.dataLe false fun d : Addr × Str × Str => .tuple [.str d.2.1, .str d.2.2])).map (·.1)).map V.ref)) (fun b o e => PyProof.Rows.sortedAll_old e) (Nat.le_succ _) ?_, rfl,
      q _ _ (by rw [← ed]; exact pm.map _) (I.hok.fresh (Nat.le_succ _))⟩
    refine ⟨?_, out, c, by rw [e2]; exact vals_refs _, hc'⟩
    rw [List.length_map, List.length_map, pm.length_eq, sizeLine_eq]
    omega
end
end K7
end

section
set_option Elab.async false
set_option linter.all false
set_option maxRecDepth 100000
namespace K7
open PySem PySem.Spec PyProof.Rows L2 SlX
/-! ### new tuples laid, many at once -/
def putP : Hp → List Addr → List HO → Hp
  | H, a :: as, p :: ps => putP (upd H a p) as ps
  | H, _, _ => H
theorem putP_off {b : Addr} : ∀ (as : List Addr) (ps : List HO) (H : Hp), b ∉ as → putP H as ps b = H b
  | [], _, _, _ => rfl
  | _ :: _, [], _, _ => rfl
  | a :: as, p :: ps, H, h => by
    show putP (upd H a p) as ps b = H b
    rw [putP_off as ps _ (fun z => h (List.mem_cons_of_mem _ z)), upd_ne (fun z => h (by rw [z]; exact List.mem_cons_self))]
theorem putP_at : ∀ (as : List Addr) (ps : List HO) (H : Hp), as.length = ps.length → as.Nodup → Paired (fun (t : Addr) (p : HO) => putP H as ps t = some p) as ps
  | [], [], _, _, _ => .nil
  | [], _ :: _, _, h, _ => by cases h
  | _ :: _, [], _, h, _ => by cases h
  | a :: as, p :: ps, H, h, hn => by
    have hn' := List.nodup_cons.mp hn
    have ih := putP_at as ps (upd H a p) (Nat.succ.inj h) hn'.2
    refine .cons ?_ ih
    show putP (upd H a p) as ps a = some p
    rw [putP_off as ps _ hn'.1, upd_same]
section
variable {X : Cx} {pins : List (Addr × Obj)} {σ : L2.St} {H : Hp} {s : Shared} {h' : Heap} {tk : Nat}
/-- what stands at as is new; h' holds it -/
theorem many_laid {as : List Addr} {ps : List HO} (I : Inv X pins σ H s) (hk : ∀ b o, s.heap.get? b = some o → h'.get? b = some o) (hl : as.length = ps.length) (nd : as.Nodup) (new : ∀ t ∈ as, s.heap.objs.size ≤ t)
    (hG : ∀ (j : Nat) (a : Addr) (p : HO), as[j]? = some a → ps[j]? = some p → ∀ H' : Hp, ObjOk X.prog X.w H' h' a p) :
    ∃ H' : Hp, (∀ b o, H b = some o → H' b = some o) ∧ (∀ t ∈ as, H t = none) ∧ (∀ b, b ∉ as → H' b = H b) ∧ Paired (fun (t : Addr) (p : HO) => H' t = some p) as ps ∧ Inv X pins σ H' { s with heap := h', toks := tk } := by
  have newH : ∀ t ∈ as, H t = none := fun t ht => I.hok.fresh (new t ht)
  have atP := putP_at as ps H hl nd
  have off : ∀ b, b ∉ as → putP H as ps b = H b := fun b h1 => putP_off as ps _ h1
  have low : ∀ b o, s.heap.get? b = some o → b ∉ as := fun b o e z => absurd (Heap.lt_size e) (Nat.not_lt.mpr (new b z))
  have kp : ∀ b u, H b = some u → (putP H as ps) b = some u := fun b u e => by
    rw [off b (fun z => by rw [newH b z] at e; cases e)]
    exact e
  refine ⟨putP H as ps, kp, newH, off, atP, ?_⟩
  refine I.call' (ch := []) rfl ⟨fun b o q _ _ _ => hk b o q, fun b o q _ _ _ => ⟨o.slots, hk b o q⟩, fun b o q n _ => ?_, fun b o q _ => ⟨o, hk b o q⟩, fun b xs q => kp b _ q, fun b o u q => kp b _ q, fun b ps' q => ⟨#[], by rw [kp b _ q]; simp⟩⟩ (fun b u q => ?_) I.bare fun b z => by simp at z
  · rw [off b (low b o q)]
    exact n
  · by_cases hb : b ∈ as
    · obtain ⟨j, p, e1, e2, e3⟩ := LiI.paired_ix atP hb
      rw [e3] at q
      cases q
      exact hG j b _ e1 e2 _
    · rw [off b hb] at q
      exact (I.hok b u q).stay (fun d v _ y => hk d v y) (fun d y => kp d _ y) fun d xs y => kp d _ y
theorem objOk_tup {P : Program} {w : World} {H : Hp} {h : Heap} {a : Addr} {xs : List V} {us : List Value} {o : Obj} {n : Nat} (z : xs.length ≤ sizeLine) (rv : Vals xs us) (h1 : h.get? a = some o) (h2 : o.cls = .type "tuple") (h3 : o.data = .seq us.toArray n) : ObjOk P w H h a (.tup xs) := ⟨z, us, rv, o, h1, h2, n, h3⟩
theorem objOk_lst {P : Program} {w : World} {H : Hp} {h : Heap} {a : Addr} {xs : List V} {us : List Value} {c : Nat} (z : xs.length ≤ sizeLine) (rv : Vals xs us) (h1 : h.get? a = some { cls := .type "list", dict := none, data := .seq us.toArray c, slots := #[] }) : ObjOk P w H h a (.lst xs) := ⟨z, us, c, rv, h1⟩
theorem paired_mapR {α β γ : Type} {F : α → γ → Prop} (f : β → γ) : ∀ {xs : List α} {ys : List β}, Paired F xs (ys.map f) → Paired (fun a b => F a (f b)) xs ys
  | xs, [], h => by
    have h' : Paired F xs [] := h
    cases h'
    exact .nil
  | xs, y :: ys, h => by
    have h' : Paired F xs (f y :: ys.map f) := h
    cases h' with
    | cons h1 h2 => exact .cons h1 (paired_mapR f h2)
end
section
variable {X : Cx}
/-- the state's tracked dict with tuples as keys, as its entries tell -/
theorem dt_ents {P : Program} {w : World} {H : Hp} {h : Heap} {d : Addr} {kvs : List (List Key × V)} (ok : HOk P w H h) (e : Rd H d (.dT kvs)) :
    kvs.length ≤ sizeLine ∧ (d == sysModules) = false ∧ (kvs.map (·.1)).Nodup ∧ ∃ es ep, h.DictRaw d es ep ∧ es.size = kvs.length ∧ ∃ qs : List Addr, qs.length = kvs.length ∧
      ∀ (j : Nat) (k : List Key) (v : V), kvs[j]? = some (k, v) → ∃ (en : DictEntry) (q : Addr), es[j]? = some en ∧ qs[j]? = some q ∧ en.key = .ref q ∧ RelV v en.val ∧ H q = some (.tup (k.map kV)) := by
  obtain ⟨z, hs, ks, pr, o, es, ep, ho, hx, hdt, he, hn⟩ := (show ObjOk P w H h d (.dT kvs) from e.ok ok)
  have l1 : es.size = ks.length := size_of_entries he
  have l2 : kvs.length = ks.length := Paired.length pr
  have xk : ∀ {l : List (List Key × V)} {m : List (List Key × Addr × Value)}, KT H l m → m.map (·.1) = l.map (·.1) := by
    intro l m z
    induction z with
    | nil => rfl
    | @cons p y ps' qs' h t ih => rw [List.map_cons, List.map_cons, ih, h.1]
  refine ⟨z, hs, by rw [← xk pr]; exact hn, es, ep, ⟨o, ho, hx, hdt⟩, l1.trans l2.symm, ks.map fun x => x.2.1, by rw [List.length_map]; exact l2.symm, fun j k v e => ?_⟩
  obtain ⟨b, hb, e1, e2, e3⟩ := paired_get pr e
  have q := entry_at he j
  rw [hb] at q
  exact ⟨_, b.2.1, q, by rw [List.getElem?_map, hb]; rfl, rfl, e3, e2⟩
def rItemsT : V → Hp → VK → Prop := fun x H Q => ∃ (d : Addr) (kvs : List (List Key × V)), x = .ref d ∧ H d = some (.dT kvs) ∧
  ∀ (H' : Hp) (p : Addr) (ts : List Addr), Same H H' → H p = none → (∀ t ∈ ts, H t = none) → p ∉ ts → H' p = some (.lst (ts.map V.ref)) → (kvs.map (·.1)).Nodup →
    Paired (fun (t : Addr) (q : List Key × V) => ∃ a, H' t = some (.tup [.ref a, q.2]) ∧ H' a = some (.tup (q.1.map kV))) ts kvs → Q (.ref p) H'
def tListItemsT (te : TE) : TE := fun σ H Q => te σ H fun x H1 => rItemsT x H1 Q
theorem vals_ref1 (b : Addr) : RelV (V.ref b) (Value.ref b) := rfl
/-- list(e.items()), tuples as keys -/
theorem pe_listItemsT {e : Expr} {te : TE} {p apos cpos pos : PySem.Pos} (hc : X.calm = true) (he : PE X e te) (hg : Gl X "list") (hm : X.mg "list" = none) (hbase : attributeBase e "items" X.env (eval e X.env) = eval e X.env := by rfl) (hline : (apos.endLine == cpos.line) = true := by rfl)
    (hs : starEach [.Call (.Attribute e "items" apos) [] [] cpos] X.env = (false, eval (.Call (.Attribute e "items" apos) [] [] cpos) X.env) :: starEach [] X.env := by rfl) :
    PE X (.Call (.Name "list" p) [.Call (.Attribute e "items" apos) [] [] cpos] [] pos) (tListItemsT te) := by
  refine ⟨fun pins s σ H Q I hq => ?_⟩
  refine wpAny_Call_Name_kw (ld_blt I hg hm (show bootBuiltins "list" = some (.type "list") by rfl) ?_)
  refine PyProof.Rows.callWith_type1 ?_ hs rfl
  rw [hs]
  show wpAny _ _ (spliced ((false, eval (.Call (.Attribute e "items" apos) [] [] cpos) X.env) :: backTo pos (starEach [] X.env))) _ _ s
  refine Calls.spliced_cons ?_
  refine wpAny_Call_method (T := "dict") (id := "dict.items") hbase rfl hline F.plainAttrs_dict F.slot_dict_items F.type_dict_items (thn (he.run pins s σ H _ I hq) fun u s1 ⟨x, H1, I1, rx, d, kvs, ex, hd, q⟩ => ?_)
  subst ex
  obtain rfl : u = Value.ref d := rx
  obtain ⟨z, hs0, ndk, es, ep, hraw, hsz, qs, hql, ent⟩ := dt_ents I1.hok (.inl hd)
  have noD : ∀ a, Value.ref d = Value.ref a → ∃ ob, s1.heap.get? a = some ob ∧ ob.dict = none := fun a ea => by
    cases ea
    obtain ⟨o', ho', hx, _⟩ := hraw
    exact ⟨o', ho', hx.2.1⟩
  have I2 : Inv X pins σ H1 { s1 with heap := s1.heap.push { cls := .type "dict_items", data := .fields #[.ref d] } } := I1.kept (t' := s1.toks) fun b ob q => Heap.get?_push_of_some _ q
  refine ⟨hraw.typeIs, noD, ?_⟩
  show wpAny _ _ (callWith cpos (.builtin "dict.items") [.ref d] [] []) _ X.xe s1
  refine method_meetsIn F.slot_dict_items F.entry_dict_items rfl (PySem.evalArgs_none ⟨rfl, hraw.typeIs, F.args_dict_items_1 _, _, meets_dict_items_raw d hs0, ⟨es, ep, hraw⟩, ?_⟩)
  refine Calls.spliced_nil ?_
  refine PySem.W.dil_call (es := es) (ep := ep) (I1.ok.hd hc) ⟨_, Heap.get?_push_size _ rfl, rfl, rfl⟩ (hraw.push _) (by omega) fun h' tk acc c as hk hS hl hG hacc => ?_
  generalize eS : (s1.heap.push { cls := .type "dict_items", data := .fields #[.ref d] }) = hp at *
  have hlk : as.length = kvs.length := hl.trans hsz
  have pn : hp.objs.size ∉ as := fun z => Nat.lt_irrefl _ (hG.above _ z)
  have hzl : (List.zip qs kvs).length = kvs.length := by rw [List.length_zip]; omega
  have zk : ∀ {j : Nat} {x : Addr × List Key × V}, (List.zip qs kvs)[j]? = some x → qs[j]? = some x.1 ∧ kvs[j]? = some x.2 := fun {j x} e => by
    obtain ⟨q, kv⟩ := x
    exact List.getElem?_zip_eq_some.mp e
  obtain ⟨H', k1, k2, k3, k4, J⟩ := many_laid (tk := tk) (as := hp.objs.size :: as) (ps := .lst (as.map V.ref) :: (List.zip qs kvs).map fun x => .tup [V.ref x.1, x.2.2]) I2 hk (by rw [List.length_cons, List.length_cons, List.length_map, hzl, hlk])
    (List.nodup_cons.mpr ⟨pn, List.Pairwise.imp (fun {a b} (h : a < b) => Nat.ne_of_lt h) hG.rise⟩) (fun t ht => by
      rcases List.mem_cons.mp ht with z | z
      · rw [z]; exact Nat.le_refl _
      · exact Nat.le_of_lt (hG.above t z)) fun j a p' e1 e2 H' => by
    cases j with
    | zero =>
      cases e1
      cases e2
      exact objOk_lst (by rw [List.length_map]; omega) (us := acc.toList) (by rw [hacc]; exact vals_refs _) (by rw [Array.toArray_toList]; exact hS)
    | succ j =>
      have e1' : as[j]? = some a := e1
      have e2' : ((List.zip qs kvs).map fun x => HO.tup [V.ref x.1, x.2.2])[j]? = some p' := e2
      obtain ⟨hj, e3⟩ := hG.pairs j a e1'
      rw [List.getElem?_map] at e2'
      cases ez : (List.zip qs kvs)[j]? with
      | none => rw [ez] at e2'; cases e2'
      | some x =>
        rw [ez] at e2'
        cases e2'
        obtain ⟨z1, z2⟩ := zk ez
        obtain ⟨en, q', f1, f2, f3, f4, f5⟩ := ent j x.2.1 x.2.2 z2
        rw [z1] at f2
        cases f2
        have f6 : es[j] = en := by
          rw [Array.getElem?_eq_getElem hj] at f1
          exact Option.some.inj f1
        refine objOk_tup (by show 2 ≤ sizeLine; decide) (us := [.ref x.1, en.val]) (n := 0) (.cons rfl (.cons f4 .nil)) e3 rfl ?_
        rw [f6, f3]
  cases k4 with
  | cons g1 g2 =>
    refine ⟨.ref _, H', J, rfl, q H' _ as k1 (k2 _ List.mem_cons_self) (fun t ht => k2 t (List.mem_cons_of_mem _ ht)) pn g1 ndk ?_⟩
    have g3 := paired_mapR _ g2
    have tel : ∀ (xs : List (Addr × List Key × V)) (ls : List (List Key × V)) (bs : List Addr), Paired (fun t (x : Addr × List Key × V) => H' t = some (HO.tup [V.ref x.1, x.2.2])) bs xs → xs.map (·.2) = ls → (∀ x ∈ xs, H' x.1 = some (.tup (x.2.1.map kV))) →
        Paired (fun (t : Addr) (q : List Key × V) => ∃ a, H' t = some (.tup [.ref a, q.2]) ∧ H' a = some (.tup (q.1.map kV))) bs ls := by
      intro xs ls bs pr
      induction pr generalizing ls with
      | nil => intro e _; subst e; exact .nil
      | @cons b x bs' xs' h t ih =>
        intro e hx
        subst e
        exact .cons ⟨x.1, h, hx x List.mem_cons_self⟩ (ih _ rfl fun y hy => hx y (List.mem_cons_of_mem _ hy))
    refine tel _ _ _ g3 (by rw [List.map_snd_zip]; omega) fun x hx => ?_
    obtain ⟨j, hj⟩ := List.mem_iff_getElem?.mp hx
    obtain ⟨z1, z2⟩ := zk hj
    obtain ⟨en, q', f1, f2, f3, f4, f5⟩ := ent j x.2.1 x.2.2 z2
    rw [z1] at f2
    cases f2
    exact k1 _ _ f5
/-- a stronger word for what is told of a part -/
def tMono (td : TE) : TE := fun σ H Q => ∃ A : VK, td σ H A ∧ ∀ x H1, A x H1 → Q x H1
theorem pe_mono {e : Expr} {td : TE} (h : PE X e td) : PE X e (tMono td) := ⟨fun pins s σ H Q I hq => by
  obtain ⟨A, h1, h2⟩ := hq
  exact thn (h.run pins s σ H _ I h1) fun u s1 ⟨x, H1, I1, rx, a⟩ => ⟨x, H1, I1, rx, h2 x H1 a⟩⟩
theorem pairsT_of {P : Program} {w : World} {H : Hp} {h : Heap} (ok : HOk P w H h) : ∀ {ps : List Addr} {kvs : List (List Key × V)}, Paired (fun p kv => ∃ q, H p = some (.tup [.ref q, kv.2]) ∧ H q = some (.tup (kv.1.map kV))) ps kvs →
    ∃ xs : List (List Key × Addr × Value), KT H kvs xs ∧ Paired (fun T x => h.IsTuple T #[.ref x.2.1, x.2.2]) ps xs
  | _, _, .nil => ⟨[], .nil, .nil⟩
  | _, _, .cons (a := p) (b := kv) ⟨q, h1, h2⟩ t => by
    obtain ⟨xs, a, b⟩ := pairsT_of ok t
    obtain ⟨_, us, rv, o, ho, hc, n, hd⟩ := (show ObjOk P w H h p (.tup [.ref q, kv.2]) from ok _ _ h1)
    cases rv with
    | cons r1 t =>
      cases t with
      | cons r2 t =>
        cases t
        cases r1
        exact ⟨(kv.1, q, _) :: xs, .cons ⟨rfl, h2, r2⟩ a, .cons ⟨o, ho, hc, n, hd⟩ b⟩
/-- dict of a list of pairs, tuples as keys -/
def rDictPT (K : PySem.W.Frag) : List V → Hp → VK → Prop := fun xs H Q => ∃ (a : Addr) (ps : List Addr) (kvs : List (List Key × V)), xs = [.ref a] ∧ SqL K H a (ps.map V.ref) ∧ ps.length ≤ 1000 ∧ (kvs.map (·.1)).Nodup ∧
  Paired (fun p kv => ∃ q, H p = some (.tup [.ref q, kv.2]) ∧ H q = some (.tup (kv.1.map kV))) ps kvs ∧ ∀ p, H p = none → Q (.ref p) (upd H p (.dT kvs))
theorem vals_refs_eq' : ∀ {bs : List Addr} {us : List Value}, Vals (bs.map V.ref) us → us = bs.map Value.ref
  | [], _, .nil => rfl
  | _ :: _, _, .cons h t => by rw [vals_refs_eq' t, show _ = Value.ref _ from h]; rfl
theorem call_dictPT (hc : X.calm = true) (hu : X.A.units + 64 < cLine) : CallR X (.type "dict") (rDictPT X.K) := by
  intro pins s σ H vs us Q I r h
  obtain ⟨a, ps, kvs, rfl, hs, hz, nd, pr, q⟩ := h
  obtain ⟨its, rv, hl, _⟩ := I.list hs
  rw [Vals.ref1 r]
  have ei := vals_refs_eq' rv
  subst ei
  obtain ⟨xs, kt, pt⟩ := pairsT_of I.hok pr
  have l1 : ps.length = xs.length := Paired.length pt
  have l2 : kvs.length = xs.length := Paired.length kt
  obtain ⟨o, n, ho, hcl, hdn, hdat⟩ := hl
  have at' : ∀ {j : Nat} {T : Addr}, ps[j]? = some T → ∃ x, xs[j]? = some x ∧ s.heap.IsTuple T #[.ref x.2.1, x.2.2] := fun e => paired_get pt e
  have items : PairItems s.heap (ps.map Value.ref).toArray (fun j => (ps[j]?).getD 0) (xs.map fun x => (Value.ref x.2.1, x.2.2)) := by
    refine ⟨by simp [l1], fun j k v e => ?_⟩
    rw [List.getElem?_map] at e
    cases ex : xs[j]? with
    | none => rw [ex] at e; cases e
    | some x =>
      rw [ex] at e
      cases e
      have hj : j < ps.length := by rw [l1]; exact (List.getElem?_eq_some_iff.mp ex).1
      obtain ⟨T, eT⟩ := getE_of hj
      obtain ⟨x', e1, e2⟩ := at' eT
      rw [ex] at e1
      cases e1
      refine ⟨by simp [eT], .inl ?_⟩
      show s.heap.IsTuple ((ps[j]?).getD 0) _
      rw [eT]
      exact e2
  have hkey : ∀ x ∈ xs, H x.2.1 = some (.tup (x.1.map kV)) := by
    have : ∀ {l : List (List Key × V)} {m : List (List Key × Addr × Value)}, KT H l m → ∀ x ∈ m, H x.2.1 = some (.tup (x.1.map kV)) := by
      intro l m z
      induction z with
      | nil => intro x hx; exact nomatch hx
      | @cons p y ps' qs' h t ih =>
        intro x hx
        rcases List.mem_cons.mp hx with e | e
        · subst e
          rw [← h.1]
          exact h.2.1
        · exact ih x e
    exact this kt
  have xk : xs.map (·.1) = kvs.map (·.1) := by
    have : ∀ {l : List (List Key × V)} {m : List (List Key × Addr × Value)}, KT H l m → m.map (·.1) = l.map (·.1) := by
      intro l m z
      induction z with
      | nil => rfl
      | @cons p y ps' qs' h t ih => rw [List.map_cons, List.map_cons, ih, h.1]
    exact this kt
  refine PySem.call_dict_pairsH (knd := tupleKind (mixKind X.prog X.w)) (ps := xs) (PairArg.list a (ps.map Value.ref).toArray (fun j => (ps[j]?).getD 0) (xs.map fun x => (Value.ref x.2.1, x.2.2))) (I.ok.hd hc) (show X.A.in1.in1.units < cLine by simp; omega) ⟨⟨o, n, ho, hcl, hdn, hdat⟩, items⟩
    ⟨by rw [List.length_map], fun i key v e => ?_⟩ (fun h2 hk x hx => ?_) (by rw [List.length_map, sizeLine_eq]; omega) fun h' tk hd' hk => ?_
  · have e' : (xs.map fun x => (Value.ref x.2.1, x.2.2))[i]? = some (key, v) := e
    rw [List.getElem?_map] at e'
    cases ex : xs[i]? with
    | none => rw [ex] at e'; cases e'
    | some x =>
      rw [ex] at e'
      cases e'
      exact ⟨x.1, x.2.1, rfl, rfl⟩
  · obtain ⟨o', its', n', h1, h2', h3, h4⟩ := key_of I.hok (hkey x hx)
    exact ⟨o', its', n', hk _ _ (Nat.ne_of_lt (Heap.lt_size h1)) (by simp) h1, h2', h3, h4⟩
  · have hm : (s.heap.objs.size == sysModules) = false := beq_eq_false_iff_ne.mpr (Nat.ne_of_gt I.big)
    have fr : H s.heap.objs.size = none := I.hok.fresh (Nat.le_refl _)
    rw [storedAllH_nil_of_nodup xs (by rw [xk]; exact nd)] at hd'
    have kt' : KT (upd H s.heap.objs.size (.dT kvs)) kvs xs := by
      have : ∀ {l : List (List Key × V)} {m : List (List Key × Addr × Value)}, KT H l m → KT (upd H s.heap.objs.size (.dT kvs)) l m := by
        intro l m z
        induction z with
        | nil => exact .nil
        | @cons p y ps' qs' h t ih =>
          refine .cons ⟨h.1, ?_, h.2.2⟩ ih
          rw [upd_ne (fun z => by rw [z, fr] at h; cases h.2.1)]
          exact h.2.1
      exact this kt
    obtain ⟨od, es, ep, g1, g2, g3, g4, g5, g6⟩ := hd'
    exact ⟨.ref s.heap.objs.size, upd H s.heap.objs.size (.dT kvs), I.laid (t' := tk) (fun b o e => hk b o (by simp) e) (Nat.le_refl _) (show ObjOk X.prog X.w _ _ _ (.dT kvs) from ⟨by rw [sizeLine_eq]; omega, hm, xs, kt', od, es, ep, g1, g2, g3, g4, g6⟩), rfl, q _ fr⟩
/-- dict(list(d.items())), tuples as keys -/
def tDictItemsT (td : TE) : TE := fun σ H Q => td σ H fun x H1 => ∃ d kvs, x = .ref d ∧ H1 d = some (.dT kvs) ∧ kvs.length ≤ 1000 ∧ ∀ H2 p, Same H1 H2 → H1 p = none → H2 p = some (.dT kvs) → Q (.ref p) H2
theorem pe_dictItemsT {e : Expr} {td : TE} {q p apos cpos lpos pos : PySem.Pos} (hc : X.calm = true) (hu : X.A.units + 64 < cLine) (he : PE X e td) (hg : Gl X "list") (hm : X.mg "list" = none) (hg2 : Gl X "dict") (hm2 : X.mg "dict" = none) (hbase : attributeBase e "items" X.env (eval e X.env) = eval e X.env := by rfl) (hline : (apos.endLine == cpos.line) = true := by rfl)
    (hs : starEach [.Call (.Attribute e "items" apos) [] [] cpos] X.env = (false, eval (.Call (.Attribute e "items" apos) [] [] cpos) X.env) :: starEach [] X.env := by rfl)
    (hs2 : starEach [.Call (.Name "list" p) [.Call (.Attribute e "items" apos) [] [] cpos] [] lpos] X.env = (false, eval (.Call (.Name "list" p) [.Call (.Attribute e "items" apos) [] [] cpos] [] lpos) X.env) :: starEach [] X.env := by rfl) :
    PE X (.Call (.Name "dict" q) [.Call (.Name "list" p) [.Call (.Attribute e "items" apos) [] [] cpos] [] lpos] [] pos) (tDictItemsT td) := by
  have base := pe_callTy (p := q) (pos := pos) (call_dictPT hc hu) hg2 hm2 (by decide +kernel) (pa_cons (pe_listItemsT (p := p) (pos := lpos) hc (pe_mono he) hg hm hbase hline hs) pa_nil hs2)
  refine ⟨fun pins s σ H Q I h => base.run pins s σ H Q I ?_⟩
  refine ⟨_, h, fun x H1 ⟨d, kvs, ex, hd, hz, q⟩ => ⟨d, kvs, ex, hd, fun H' p' ts sm hn hts hpt hl nd pr => ?_⟩⟩
  refine ⟨p', ts, kvs, rfl, .inl (.inl hl), by rw [Paired.length pr]; exact hz, nd, pr, fun p2 hp2 => ?_⟩
  refine q _ p2 (fun b o e => ?_) ?_ upd_same
  · have e' := sm b o e
    rw [upd_ne (fun z => by rw [z, hp2] at e'; cases e')]
    exact e'
  · cases e : H1 p2 with
    | none => rfl
    | some o => rw [sm _ _ e] at hp2; cases hp2
end
end K7
end

section
set_option Elab.async false
set_option linter.all false
set_option maxRecDepth 100000
namespace K7
open PySem PySem.Spec PyProof.Rows L2 SlX
/-- the items of a dict with tuples as keys, as it is walked -/
def ItiT (d : Addr) (o : Obj) (kvs : List (List Key × V)) : It :=
  ⟨fun i H => H d = some (.frz o (.dT kvs)) ∧ i < kvs.length,
   fun i H x H' => ∃ T k v q, kvs[i]? = some (k, v) ∧ x = .ref T ∧ H T = none ∧ H q = some (.tup (k.map kV)) ∧ H' = upd H T (.tup [.ref q, v]),
   fun i H => H d = some (.frz o (.dT kvs)) ∧ kvs.length ≤ i⟩
theorem Wk.itemsT {d : Addr} {o : Obj} {kvs : List (List Key × V)} : Wk (ItiT d o kvs) kvs.length (fun H => H d = some (.frz o (.dT kvs))) (fun i x H H' => ∃ T k v q, kvs[i]? = some (k, v) ∧ x = .ref T ∧ H T = none ∧ H q = some (.tup (k.map kV)) ∧ H' = upd H T (.tup [.ref q, v])) where
  go := fun i H s h => ⟨s, h⟩
  stop := fun H s => ⟨s, Nat.le_refl _⟩
  yld := fun i H x H' _ _ y => y
section
variable {X : Cx} {pins : List (Addr × Obj)} {σ : L2.St} {H : Hp} {s : Shared}
theorem frzT_ents {d : Addr} {o : Obj} {kvs : List (List Key × V)} (I : Inv X pins σ H s) (h : H d = some (.frz o (.dT kvs))) :
    (d == sysModules) = false ∧ s.heap.get? d = some o ∧ o.ExactDict ∧ ∃ (es : Array DictEntry) (ep : Nat), o.data = .dict es ep ∧ es.size = kvs.length ∧
      ∀ (i : Nat) (k : List Key) (v : V), kvs[i]? = some (k, v) → ∃ (en : DictEntry) (q : Addr), es[i]? = some en ∧ en.key = .ref q ∧ H q = some (.tup (k.map kV)) ∧ RelV v en.val := by
  obtain ⟨hd, z, hs, xs, pr, o', es, ep, ho, hx, hdt, he, _⟩ := I.hok d _ h
  rw [hd] at ho
  cases ho
  refine ⟨hs, hd, hx, es, ep, hdt, ?_, fun i k v e => ?_⟩
  · have l1 : es.size = xs.length := size_of_entries he
    have l2 : kvs.length = xs.length := Paired.length pr
    omega
  · obtain ⟨b, hb, e1, e2, e3⟩ := paired_get pr e
    have q := entry_at he i
    rw [hb] at q
    exact ⟨_, b.2.1, q, rfl, e2, e3⟩
end
section
variable {P : Program} {w : World} {K : PySem.W.Frag} {d : Addr} {o : Obj} {es : Array DictEntry} {ep : Nat}
theorem turn_itemsT {kvs : List (List Key × V)} {elts : List Expr} {kk : Nat} {tpos : PySem.Pos} (it : Addr) (hod : o.data = .dict es ep) :
    L2.Turn P w K (.Tuple elts kk tpos) (ItiT d o kvs) [it] it (fun i h => ∃ ok ov, IsItemIter h it d i kvs.length ep ok ov) where
  mem := by simp
  obj := fun i h st b hb => by
    have e : b = it := by simpa using hb
    subst e
    obtain ⟨ok, ov, e⟩ := st
    exact ⟨_, e, fun v z => nomatch z⟩
  keep := fun i h h' st k => let ⟨ok, ov, e⟩ := st; ⟨ok, ov, k it (by simp) _ e⟩
  item := by
    intro X hP hw hK hc i pins s σ H E I hf st hg
    subst hP hw hK
    obtain ⟨hd, hi⟩ := hg
    obtain ⟨hs, hgd, hx, es', ep', hdt, hsz, ent⟩ := frzT_ents I hd
    obtain ⟨rfl, rfl⟩ := dict_ep hod hdt
    obtain ⟨⟨k, v⟩, hkv⟩ : ∃ p, kvs[i]? = some p := ⟨kvs[i], List.getElem?_eq_getElem hi⟩
    obtain ⟨en, q, hen, hkey, hq, ru⟩ := ent i k v hkv
    have hie : i < es'.size := by omega
    have hen' : es'[i] = en := by
      rw [Array.getElem?_eq_getElem hie] at hen
      exact Option.some.inj hen
    obtain ⟨ok, ov, he⟩ := st
    rw [← hsz] at he
    have hlt : it < s.heap.objs.size := Heap.lt_size he
    refine wpAny_pyNext_items_item_raw he ⟨o, hgd, hx, hdt⟩ hie fun h' ho hT hz hk => ?_
    refine ⟨_, rfl, wpAny_letOwnedTupleGo_items (s := { s with heap := h' }) ho fun h'' he' sb => ?_⟩
    have hT2 : h''.get? s.heap.objs.size = some { cls := .type "tuple", data := .seq #[es'[i].key, es'[i].val] } := (sb.2 _ (Nat.ne_of_gt hlt)).trans hT
    have new : ObjOk X.prog X.w (upd H s.heap.objs.size (.tup [.ref q, v])) h'' s.heap.objs.size (.tup [.ref q, v]) :=
      ⟨by show 2 ≤ sizeLine; decide, [.ref q, en.val], .cons rfl (.cons ru .nil), ⟨_, hT2, rfl, _, by rw [hen', hkey]⟩⟩
    have I1 : Inv X pins σ (upd H s.heap.objs.size (.tup [.ref q, v])) { s with heap := h'' } :=
      I.turnedNew (t' := s.toks) (ch := [it]) (fun b ob hb e => (sb.2 b (by simpa using hb)).trans (hk b ob (by simpa using hb) e)) hf (Nat.le_refl _) new
    refine ⟨.ref s.heap.objs.size, _, I1, rfl, ⟨_, k, v, q, hkv, rfl, I.hok.fresh (Nat.le_refl _), hq, rfl⟩, ⟨es'[i].key, es'[i].val, ?_⟩, fun b hb => ?_⟩
    · rw [← hsz]; exact he'
    · have e : b = it := by simpa using hb
      rw [e, upd_ne (Nat.ne_of_lt hlt)]
      exact (hf it (by simp)).1
  done := by
    intro X hP hw hK hc i pins s σ H E I hf st hg
    subst hP hw hK
    obtain ⟨hd, hi⟩ := hg
    obtain ⟨f0, f1, f2, f3, f4, f5⟩ := hf it (by simp)
    obtain ⟨hs, hgd, hx, es', ep', hdt, hsz, ent⟩ := frzT_ents I hd
    obtain ⟨rfl, rfl⟩ := dict_ep hod hdt
    obtain ⟨ok, ov, he⟩ := st
    rw [← hsz] at he
    exact wpAny_pyNext_items_end_raw (I.ok.hd hc) he ⟨o, hgd, hx, hdt⟩ (by omega) fun h' eb => ⟨rfl, I.turned (t' := s.toks) (fun b ob hb e => eb b ob hb e) f0 f1 f3 f4 f5⟩
  self := fun A i s Q E st h => let ⟨_, _, e⟩ := st; PySem.W.kcp_self e h
end
section
variable {X : Cx}
def iItemsT (td : TE) : TI := fun σ H R => td σ H fun x H1 => ∃ d o kvs, x = .ref d ∧ H1 d = some (.frz o (.dT kvs)) ∧ R (ItiT d o kvs) H1
theorem pi_itemsT {elts : List Expr} {kk : Nat} {tpos : PySem.Pos} {e : Expr} {td : TE} {apos cpos : PySem.Pos} (he : PE X e td) (hbase : attributeBase e "items" X.env (eval e X.env) = eval e X.env := by rfl) (hline : (apos.endLine == cpos.line) = true := by rfl) : PI X (.Tuple elts kk tpos) (.Call (.Attribute e "items" apos) [] [] cpos) (iItemsT td) := by
  refine ⟨fun pins s σ H R I h => ?_⟩
  refine wpAny_Call_method (T := "dict") (id := "dict.items") hbase rfl hline F.plainAttrs_dict F.slot_dict_items F.type_dict_items (thn (he.run pins s σ H _ I h) fun u s1 ⟨x, H1, I1, rx, d, o, kvs, ex, hd, q⟩ => ?_)
  subst ex
  obtain rfl : u = Value.ref d := rx
  obtain ⟨hs, hgd, hx, es, ep, hdt, hsz, ent⟩ := frzT_ents I1 hd
  have hraw : s1.heap.DictRaw d es ep := ⟨o, hgd, hx, hdt⟩
  refine ⟨hraw.typeIs, fun a ea => by cases ea; exact ⟨o, hgd, hx.2.1⟩, ?_⟩
  have I2 : Inv X pins σ H1 { s1 with heap := s1.heap.push { cls := .type "dict_items", data := .fields #[.ref d] } } := I1.kept (t' := s1.toks) fun b ob q => Heap.get?_push_of_some _ q
  have fin : wpAny (model X.prog X.w) X.A (pyIter (.ref s1.heap.objs.size)) (PIE X pins σ (.Tuple elts kk tpos) R) X.xe { s1 with heap := s1.heap.push { cls := .type "dict_items", data := .fields #[.ref d] } } := by
    refine wpAny_pyIter_items_raw (d := d) (es := es) (ep := ep) ⟨_, Heap.get?_push_size _ rfl, rfl, rfl⟩ (hraw.push _) (pi_one (tk := s1.toks) I2 _ (turn_itemsT _ hdt) ⟨.none, .none, ?_⟩ q)
    rw [← hsz]
    exact Heap.get?_push_size _ rfl
  show wpAny _ _ (callWith cpos (.builtin "dict.items") [.ref d] [] []) _ X.xe s1
  exact method_meetsIn F.slot_dict_items F.entry_dict_items rfl (PySem.evalArgs_none ⟨rfl, hraw.typeIs, F.args_dict_items_1 _, _, meets_dict_items_raw d hs, ⟨es, ep, hraw⟩, fin⟩)
end
end K7
end

section
set_option Elab.async false
set_option linter.all false
set_option maxRecDepth 100000
namespace K7
open PySem PySem.Spec PyProof.Rows L2 SlX
section
variable {X : Cx}
/-- sorted(..): the items gathered, then list.sort -/
theorem sorted_gathered {s : Shared} {v : Value} {E : Value → Shared → Prop} {Q : Value → Shared → Prop} {β : Type} {ad : β → Addr} {en : β → PyData} {G : Heap → List β → Prop} (ha : argsOk "sorted" ⟨[v], []⟩)
    (col : ∀ R : List Value → Shared → Prop, (∀ (h' : Heap) (tk : Nat) (ds : List β), (∀ b o, s.heap.get? b = some o → h'.get? b = some o) → G h' ds → R (ds.map fun d => Value.ref (ad d)) { s with heap := h', toks := tk }) →
      ∀ E' : Value → Shared → Prop, wpAny (model X.prog X.w) X.A.in1 (collect v) R E' s)
    (hG : ∀ h' ds, G h' ds → ds.length < 64 ∧ (∀ d ∈ ds, (∃ as, PySem.Reads h' (.ref (ad d)) (en d) as) ∧ (∃ x r, (en d) = .tuple (x :: r)) ∧ (en d).depth ≤ 5) ∧ PySem.W.AllAlike (ds.map en))
    (hu : X.A.units + 64 < cLine)
    (h : ∀ (h' : Heap) (tk : Nat) (ds cs : List β) (h2 : Heap) (c : Nat), (∀ b o, s.heap.get? b = some o → h'.get? b = some o) → G h' ds → cs.Perm ds → (∀ b o, h'.get? b = some o → h2.get? b = some o) →
      h2.get? h'.objs.size = some (seqObj "list" (cs.map fun d => Value.ref (ad d)).toArray c) → Q (.ref h'.objs.size) { s with heap := h2, toks := tk }) :
    wpAny (model X.prog X.w) X.A (call (.builtin "sorted") [v]) Q E s := by
  refine Calls.call_function_entry PyProof.Rows.kind_sorted PyProof.Rows.plain_sorted PyProof.Rows.entry_sorted ha ?_
  unfold Builtin.«sorted»
  refine wpAny_bind (m := checkCount "sorted" 1 1 _) (wpAny_pure ?_)
  refine wpAny_bind (col _ (fun h' tk ds hk g => ?_) _)
  obtain ⟨hz, hd, hal⟩ := hG h' ds g
  have hvl : (ds.map fun d => Value.ref (ad d)).length = ds.length := List.length_map ..
  refine wpAny_bind (wpAny_newList ?_ (by rw [hvl, sizeLine_eq]; omega))
  have hoL : (h'.push (seqObj "list" (ds.map fun d => Value.ref (ad d)).toArray 0)).get? h'.objs.size = some (seqObj "list" (ds.map fun d => Value.ref (ad d)).toArray 0) := Heap.get?_push_size _ rfl
  show wpAny _ _ _ _ _ { s with heap := h'.push (seqObj "list" (ds.map fun d => Value.ref (ad d)).toArray 0), toks := tk }
  have er : ∀ hp : Heap, (∀ b o, h'.get? b = some o → hp.get? b = some o) → PySem.W.EachIs (fun v (d : β) => ∃ as, PySem.Reads hp v (en d) as) (ds.map fun d => Value.ref (ad d)) ds := fun hp k =>
    refs_each (ad := ad) (R := fun v d => ∃ as, PySem.Reads hp v (en d) as) ds fun d hd' => let ⟨as, r⟩ := (hd d hd').1; ⟨as, PyProof.Rows.Reads.keeps k r⟩
  have e0 : PySem.W.EachIs (fun v (d : β) => v = Value.ref (ad d)) (ds.map fun d => Value.ref (ad d)) ds := refs_each (ad := ad) (R := fun v d => v = Value.ref (ad d)) ds fun d _ => rfl
  have kS : ∀ b o, h'.get? b = some o → (PySem.W.sortingHeap (h'.push (seqObj "list" (ds.map fun d => Value.ref (ad d)).toArray 0)) h'.objs.size (ds.map fun d => Value.ref (ad d))).get? b = some o := fun b o e =>
    PySem.W.sortingHeap_old (Nat.ne_of_lt (Heap.lt_size e)) (Heap.get?_push_of_some _ e)
  have eS := er _ kS
  refine wpAny_bind (wpAny_holding (wpAny_call_entry PyProof.Rows.slot_list_sort ⟨_, hoL, rfl⟩ PyProof.Rows.entry_list_sort
    (PySem.W.list_sort_vals (s := { s with heap := h'.push (seqObj "list" (ds.map fun d => Value.ref (ad d)).toArray 0), toks := tk }) (κ := PySem.W.dataKind _ (ds.map en)) hoL
      (PySem.W.SortsAt.data (PySem.W.each_map (R := fun v d => ∃ as, PySem.Reads _ v d as) (en) eS) hal (.inl fun d hd' => ?_) fun d hd' => ?_) (by rw [hvl, sizeLine_eq]; omega) ⟨_, rfl, ?_⟩) (PyProof.Rows.args_list_sort _)))
  · obtain ⟨x, hx, rfl⟩ := List.mem_map.mp hd'
    exact (hd x hx).2.1
  · obtain ⟨x, hx, rfl⟩ := List.mem_map.mp hd'
    have := (hd x hx).2.2
    have e : X.A.in1.in1.units = X.A.units + 2 := rfl
    omega
  · obtain ⟨c, hc'⟩ := PyProof.Rows.sortedHeap_at (vs := ds.map fun d => Value.ref (ad d)) (out := (PySem.W.sortVals (PySem.W.dataKind (PySem.W.sortingHeap (h'.push (seqObj "list" (ds.map fun d => Value.ref (ad d)).toArray 0)) h'.objs.size (ds.map fun d => Value.ref (ad d))) (ds.map en)) false (ds.map fun d => Value.ref (ad d)) (ds.map fun d => Value.ref (ad d))).toArray) hoL
    have eo := PySem.W.sortVals_data (enc := en) false e0 eS hal
    have eout := each_refs_eq (ad := ad) eo
    refine wpAny_pure ⟨_, rfl, h h' tk ds _ _ c hk g (List.mergeSort_perm ds _) (fun b o e => ?_) (by rw [← eout]; exact hc')⟩
    rw [PyProof.Rows.sortedHeap_old (Nat.ne_of_lt (Heap.lt_size e)) (by rw [size_push']; exact Nat.lt_succ_of_lt (Heap.lt_size e))]
    exact Heap.get?_push_of_some _ e
theorem reads_ii {P : Program} {w : World} {H : Hp} {h : Heap} {b : Addr} {x y : Int} (o : ObjOk P w H h b (.tup [.int x, .int y])) : ∃ as, PySem.Reads h (.ref b) (.tuple [.int x, .int y]) as := by
  obtain ⟨_, us, rv, ob, ho, hc, n, hd⟩ := o
  cases rv with
  | cons h1 t =>
    cases t with
    | cons h2 t =>
      cases t
      obtain ⟨t1, e1⟩ := h1
      obtain ⟨t2, e2⟩ := h2
      subst e1 e2
      exact ⟨_, .tuple ho hc hd (.cons (.int _ _) (.cons (.int _ _) .nil))⟩
theorem reads_si {P : Program} {w : World} {H : Hp} {h : Heap} {b : Addr} {x : Str} {y : Int} (o : ObjOk P w H h b (.tup [.str x, .int y])) : ∃ as, PySem.Reads h (.ref b) (.tuple [.str x, .int y]) as := by
  obtain ⟨_, us, rv, ob, ho, hc, n, hd⟩ := o
  cases rv with
  | cons h1 t =>
    cases t with
    | cons h2 t =>
      cases t
      obtain ⟨t1, e1⟩ := h1
      obtain ⟨t2, e2⟩ := h2
      subst e1 e2
      exact ⟨_, .tuple ho hc hd (.cons (.str _ _) (.cons (.int _ _) .nil))⟩
/-- sorted of a dict with pairs of numbers as keys: in some order -/
def kI2 (p : Nat × Nat) : List Key := [Sum.inl (p.1 : Int), Sum.inl (p.2 : Int)]
def rSortedKT : List V → Hp → VK → Prop := fun vs H Q => ∃ (d : Addr) (kvs : List (List Key × V)) (ks : List (Nat × Nat)), vs = [V.ref d] ∧ H d = some (.dT kvs) ∧ kvs.map (·.1) = ks.map kI2 ∧ ks.length < 64 ∧ ks.Nodup ∧
  ∀ p (ts : List Addr) (js : List (Nat × Nat)), H p = none → js.Perm ks → ts.length = js.length → (∀ (i : Nat) (e : Nat × Nat), js[i]? = some e → ∃ t, ts[i]? = some t ∧ H t = some (.tup [.int (e.1 : Nat), .int (e.2 : Nat)])) → Q (.ref p) (upd H p (.lst (ts.map V.ref)))
theorem cr_sortedKT (hc : X.calm = true) (hu : X.A.units + 64 < cLine) : CallR X (.builtin "sorted") rSortedKT := by
  intro pins s σ H vs us Q I r h
  obtain ⟨d, kvs, ks, rfl, hd, hks, hz, nd, q⟩ := h
  rw [Vals.ref1 r]
  obtain ⟨z, hs0, ndk, es, ep, hraw, hsz, qs, hql, ent⟩ := dt_ents I.hok (.inl hd)
  obtain ⟨o, ho, hx, hdt⟩ := id hraw
  have lk : kvs.length = ks.length := by
    have e := congrArg List.length hks
    rw [List.length_map, List.length_map] at e
    exact e
  have hzl : (List.zip qs ks).length = ks.length := by rw [List.length_zip]; omega
  have zk : ∀ {j : Nat} {x : Addr × Nat × Nat}, (List.zip qs ks)[j]? = some x → qs[j]? = some x.1 ∧ ks[j]? = some x.2 := fun {j x} e => by
    obtain ⟨q, kv⟩ := x
    exact List.getElem?_zip_eq_some.mp e
  have each : ∀ {j : Nat} {x : Addr × Nat × Nat}, (List.zip qs ks)[j]? = some x → (∃ en : DictEntry, es[j]? = some en ∧ en.key = .ref x.1) ∧ H x.1 = some (.tup [.int (x.2.1 : Nat), .int (x.2.2 : Nat)]) := fun {j x} e => by
    obtain ⟨z1, z2⟩ := zk e
    have hj : j < kvs.length := by rw [lk]; exact (List.getElem?_eq_some_iff.mp z2).1
    obtain ⟨⟨k, v⟩, ek⟩ := getE_of hj
    obtain ⟨en, q', f1, f2, f3, f4, f5⟩ := ent j k v ek
    rw [z1] at f2
    cases f2
    have e3 : (kvs.map (·.1))[j]? = some k := by rw [List.getElem?_map, ek]; rfl
    rw [hks, List.getElem?_map, z2] at e3
    have e4 : kI2 x.2 = k := Option.some.inj e3
    refine ⟨⟨en, f1, f3⟩, ?_⟩
    rw [f5, ← e4]
    rfl
  refine sorted_gathered (β := Addr × Nat × Nat) (ad := fun x => x.1) (en := fun x => .tuple [.int (x.2.1 : Nat), .int (x.2.2 : Nat)]) (G := fun h' ds => ds = List.zip qs ks ∧ (∀ b o, s.heap.get? b = some o → h'.get? b = some o)) (PyProof.Rows.args_sorted1 _) (fun R hR E' => ?_) (fun h' ds g => ?_) hu fun h' tk ds cs h2 c hk g pm hk2 hl2 => ?_
  · refine PySem.W.kdu_collect (A := X.A.in1) (kdl_raw hs0 hx hdt) (I.ok.hd hc) ho (by omega) fun h' tk acc hk hacc => ?_
    have ea : acc.toList = (List.zip qs ks).map fun x => Value.ref x.1 := by
      have hl : acc.toList.length = ks.length := by rw [Array.length_toList, hacc.1]; omega
      apply List.ext_getElem?
      intro j
      rw [List.getElem?_map]
      cases hj : acc.toList[j]? with
      | none =>
        have h1 := List.getElem?_eq_none_iff.mp hj
        rw [List.getElem?_eq_none (by omega)]
        rfl
      | some v =>
        obtain ⟨en, hen, hv⟩ := hacc.2 j v (by rw [← Array.getElem?_toList]; exact hj)
        have hjl : j < (List.zip qs ks).length := by
          have := (List.getElem?_eq_some_iff.mp hj).1
          omega
        obtain ⟨x, ex⟩ := getE_of hjl
        obtain ⟨⟨en', f1, f2⟩, _⟩ := each ex
        rw [hen] at f1
        cases f1
        rw [ex, hv, f2]
        rfl
    rw [ea]
    exact hR h' tk _ hk ⟨rfl, hk⟩
  · obtain ⟨rfl, hk⟩ := g
    refine ⟨by rw [hzl]; exact hz, fun x hx => ⟨?_, ⟨_, _, rfl⟩, ?_⟩, PySem.W.AllAlike.of fun _ _ => by simp [PySem.W.alike, PySem.W.alikeAll]⟩
    · obtain ⟨j, hj⟩ := List.mem_iff_getElem?.mp hx
      obtain ⟨as, r⟩ := reads_ii (I.hok _ _ (each hj).2)
      exact ⟨as, PyProof.Rows.Reads.keeps hk r⟩
    · simp [PyData.depth, PyData.depthAll]
  · obtain ⟨rfl, _⟩ := g
    have I1 : Inv X pins σ H { s with heap := h', toks := tk } := I.kept hk
    have e2 : (cs.map fun x : Addr × Nat × Nat => Value.ref x.1) = (cs.map (·.1)).map Value.ref := by rw [List.map_map]; all_goals rfl
    have cl : cs.length = ks.length := pm.length_eq.trans hzl
    refine ⟨.ref h'.objs.size, _, I1.laid (t' := tk) (o := .lst ((cs.map (·.1)).map V.ref)) hk2 (Nat.le_refl _) (objOk_lst (c := c) (us := (cs.map (·.1)).map Value.ref) (by rw [List.length_map, List.length_map, sizeLine_eq]; omega) (vals_refs _) (by rw [← e2]; exact hl2)), rfl,
      q _ (cs.map (·.1)) (cs.map (·.2)) (I1.hok.fresh (Nat.le_refl _)) ?_ (by rw [List.length_map, List.length_map]) fun i e he => ?_⟩
    · have p2 := pm.map (·.2)
      rw [List.map_snd_zip (by omega)] at p2
      exact p2
    · rw [List.getElem?_map] at he
      cases ec : cs[i]? with
      | none => rw [ec] at he; cases he
      | some x =>
        rw [ec] at he
        cases he
        refine ⟨x.1, by rw [List.getElem?_map, ec]; rfl, ?_⟩
        have hx : x ∈ List.zip qs ks := pm.mem_iff.mp (List.mem_of_getElem? ec)
        obtain ⟨j, hj⟩ := List.mem_iff_getElem?.mp hx
        exact (each hj).2
end
end K7
end

section
set_option Elab.async false
set_option linter.all false
set_option maxRecDepth 100000
namespace K7
open PySem PySem.Spec PyProof.Rows L2 SlX
section
variable {X : Cx}
/-- sorted(d.items()), texts to numbers: in some order -/
def tSortedIt (td : TE) : TE := fun σ H Q => td σ H fun x H1 => ∃ d l, x = .ref d ∧ H1 d = some (.dK (mvD l)) ∧ l.length < 64 ∧ (l.map (·.1)).Nodup ∧
  ∀ H2 p (ts : List Addr) (ks : List (Str × Nat)), Same H1 H2 → H1 p = none → H2 p = some (.lst (ts.map V.ref)) → ks.Perm l → ts.length = ks.length → (∀ (i : Nat) (e : Str × Nat), ks[i]? = some e → ∃ t, ts[i]? = some t ∧ H2 t = some (.tup [.str e.1, .int (e.2 : Nat)])) → Q (.ref p) H2
theorem pe_sortedIt {e : Expr} {td : TE} {p apos cpos pos : PySem.Pos} (hc : X.calm = true) (hu : X.A.units + 64 < cLine) (he : PE X e td) (hg : Gl X "sorted") (hm : X.mg "sorted" = none) (hbase : attributeBase e "items" X.env (eval e X.env) = eval e X.env := by rfl) (hline : (apos.endLine == cpos.line) = true := by rfl)
    (hs : starEach [.Call (.Attribute e "items" apos) [] [] cpos] X.env = (false, eval (.Call (.Attribute e "items" apos) [] [] cpos) X.env) :: starEach [] X.env := by rfl) :
    PE X (.Call (.Name "sorted" p) [.Call (.Attribute e "items" apos) [] [] cpos] [] pos) (tSortedIt td) := by
  refine ⟨fun pins s σ H Q I hq => ?_⟩
  refine wpAny_Call_Name_kw (ld_blt I hg hm (show bootBuiltins "sorted" = some (.builtin "sorted") by decide +kernel) ?_)
  refine PyProof.Rows.callWith_builtin1 ?_ hs rfl
  rw [hs]
  show wpAny _ _ (spliced ((false, eval (.Call (.Attribute e "items" apos) [] [] cpos) X.env) :: backTo pos (starEach [] X.env))) _ _ s
  refine Calls.spliced_cons ?_
  refine wpAny_Call_method (T := "dict") (id := "dict.items") hbase rfl hline F.plainAttrs_dict F.slot_dict_items F.type_dict_items (thn (he.run pins s σ H _ I hq) fun u s1 ⟨x, H1, I1, rx, d, l, ex, hd, hz, nd, q⟩ => ?_)
  subst ex
  obtain rfl : u = Value.ref d := rx
  obtain ⟨hz0, hs0, vs, kv, hdo⟩ := I1.hok d _ hd
  obtain ⟨ep, hat⟩ := hdo.dictAt
  have lk : l.length = vs.length := by rw [← Paired.length kv, mvD, List.length_map]
  refine ⟨hdo.typeIs, hdo.mapOf.noDict, ?_⟩
  show wpAny _ _ (callWith cpos (.builtin "dict.items") [.ref d] [] []) _ X.xe s1
  refine method_meetsIn F.slot_dict_items F.entry_dict_items rfl (PySem.evalArgs_none ⟨rfl, hdo.typeIs, F.args_dict_items_1 _, _, meets_dict_items (mixKind X.prog X.w) d hs0, ⟨vs, hdo⟩, ?_⟩)
  refine Calls.spliced_nil ?_
  have I2 : Inv X pins σ H1 { s1 with heap := s1.heap.push { cls := .type "dict_items", data := .fields #[.ref d] } } := I1.kept (t' := s1.toks) fun b ob q => Heap.get?_push_of_some _ q
  have hat2 := hat.push { cls := .type "dict_items", data := .fields #[.ref d] }
  have hvw : (s1.heap.push { cls := .type "dict_items", data := .fields #[.ref d] }).IsItemsView s1.heap.objs.size d := ⟨_, Heap.get?_push_size _ rfl, rfl, rfl⟩
  generalize eS : (s1.heap.push { cls := .type "dict_items", data := .fields #[.ref d] }) = hp at *
  have ent : ∀ (j : Nat) (e : Str × Nat), l[j]? = some e → ∃ u, vs[j]? = some (Sum.inr e.1, u) ∧ RelV (.int (e.2 : Nat)) u := fun j e ej => by
    have ej' : (mvD l)[j]? = some (Sum.inr e.1, V.int (e.2 : Nat)) := by
      unfold mvD
      rw [List.getElem?_map, ej]
      rfl
    obtain ⟨u, hu', ru⟩ := kv_get kv ej'
    exact ⟨u, hu', ru⟩
  have tupAt : ∀ {h' : Heap} {as : List Addr}, PySem.W.KdxG (mixKind X.prog X.w) vs hp.objs.size h' as → ∀ (j : Nat) (a : Addr) (e : Str × Nat), as[j]? = some a → l[j]? = some e → ∀ H' : Hp, ObjOk X.prog X.w H' h' a (.tup [.str e.1, .int (e.2 : Nat)]) := fun {h' as} g j a e e1 e2 H' => by
    obtain ⟨key, k, x, f1, f2, f3⟩ := g.pairs j a e1
    obtain ⟨u, g1, g2⟩ := ent j e e2
    rw [f1] at g1
    cases g1
    exact objOk_tup (by show 2 ≤ sizeLine; decide) (us := [key, x]) (n := 0) (.cons (relV_key (show keyIs (Sum.inr e.1) key = true from f2)) (.cons g2 .nil)) f3 rfl rfl
  refine sorted_gathered (β := Addr × Str × Nat) (ad := fun x => x.1) (en := fun x => .tuple [.str x.2.1, .int (x.2.2 : Nat)])
    (G := fun h' ds => ∃ as : List Addr, ds = List.zip as l ∧ as.length = vs.length ∧ PySem.W.KdxG (mixKind X.prog X.w) vs hp.objs.size h' as) (PyProof.Rows.args_sorted1 _) (fun R hR E' => ?_) (fun h' ds g => ?_) hu fun h' tk ds cs h2 c hk g pm hk2 hl2 => ?_
  · refine PySem.W.kdx_collect (knd := mixKind X.prog X.w) (kvs := vs) (ep := ep) (I1.ok.hd hc) hvw hat2 (by rw [sizeLine_eq]; omega) fun h' tk as hk hl hG => ?_
    have e0 : as.map Value.ref = (List.zip as l).map fun x => Value.ref x.1 := by
      have e1 : (List.zip as l).map (·.1) = as := List.map_fst_zip (by omega)
      conv => lhs; rw [← e1, List.map_map]
      rfl
    rw [e0]
    exact hR h' tk _ hk ⟨as, rfl, hl, hG⟩
  · obtain ⟨as, rfl, hl, hG⟩ := g
    refine ⟨by rw [List.length_zip]; omega, fun x hx => ⟨?_, ⟨_, _, rfl⟩, ?_⟩, PySem.W.AllAlike.of fun _ _ => by simp [PySem.W.alike, PySem.W.alikeAll]⟩
    · obtain ⟨j, hj⟩ := List.mem_iff_getElem?.mp hx
      obtain ⟨a, e⟩ := x
      obtain ⟨z1, z2⟩ := List.getElem?_zip_eq_some.mp hj
      exact reads_si (tupAt hG j a e z1 z2 H1)
    · simp [PyData.depth, PyData.depthAll]
  · obtain ⟨as, rfl, hl, hG⟩ := g
    have hlk : as.length = l.length := by omega
    obtain ⟨H', k1, k2, k3, k4, J⟩ := many_laid (tk := tk) (as := as) (ps := l.map fun e => .tup [.str e.1, .int (e.2 : Nat)]) I2 hk (by rw [List.length_map]; exact hlk)
      (List.Pairwise.imp (fun {a b} (h : a < b) => Nat.ne_of_lt h) hG.rise) (fun t ht => Nat.le_of_lt (hG.above t ht)) fun j a p' e1 e2 H' => by
        rw [List.getElem?_map] at e2
        cases el : l[j]? with
        | none => rw [el] at e2; cases e2
        | some e =>
          rw [el] at e2
          cases e2
          exact tupAt hG j a e e1 el H'
    have e2 : (cs.map fun x : Addr × Str × Nat => Value.ref x.1) = (cs.map (·.1)).map Value.ref := by rw [List.map_map]; all_goals rfl
    have cl : cs.length = l.length := pm.length_eq.trans (by rw [List.length_zip]; omega)
    have fr : H' h'.objs.size = none := J.hok.fresh (Nat.le_refl _)
    refine ⟨.ref h'.objs.size, _, J.laid (t' := tk) (o := .lst ((cs.map (·.1)).map V.ref)) hk2 (Nat.le_refl _) (objOk_lst (c := c) (us := (cs.map (·.1)).map Value.ref) (by rw [List.length_map, List.length_map, sizeLine_eq]; omega) (vals_refs _) (by rw [← e2]; exact hl2)), rfl,
      q _ _ (cs.map (·.1)) (cs.map (·.2)) (fun b o e => ?_) ?_ upd_same ?_ (by rw [List.length_map, List.length_map]) fun i e he => ?_⟩
    · have e' := k1 b o e
      rw [upd_ne (fun z => by rw [z, fr] at e'; cases e')]
      exact e'
    · cases e : H1 h'.objs.size with
      | none => rfl
      | some o => rw [k1 _ _ e] at fr; cases fr
    · have p2 := pm.map (·.2)
      rw [List.map_snd_zip (by omega)] at p2
      exact p2
    · rw [List.getElem?_map] at he
      cases ec : cs[i]? with
      | none => rw [ec] at he; cases he
      | some x =>
        rw [ec] at he
        cases he
        have hx : x ∈ List.zip as l := pm.mem_iff.mp (List.mem_of_getElem? ec)
        obtain ⟨j, hj⟩ := List.mem_iff_getElem?.mp hx
        obtain ⟨a, e⟩ := x
        obtain ⟨z1, z2⟩ := List.getElem?_zip_eq_some.mp hj
        have g3 := paired_mapR _ k4
        obtain ⟨e', y1, y2⟩ := paired_get g3 z1
        rw [z2] at y1
        cases y1
        refine ⟨a, by rw [List.getElem?_map, ec]; rfl, ?_⟩
        rw [upd_ne (fun z => by rw [z, fr] at y2; cases y2)]
        exact y2
end
end K7
end

section
set_option Elab.async false
set_option linter.all false
set_option maxRecDepth 100000
namespace K7
open PySem PySem.Spec PyProof.Rows L2 SlX
abbrev BlkPG (X : Cx) (scope : Scope) (tg : Expr) (g : TG) : Prop := ∀ (s : Shared) (H : Hp) (C : Addr) (cl : List (Str × Addr)) (fp : List Addr), PG (X.blk s H scope (compEnvC scope cl C X.env) fp) tg g
abbrev BlkPTs (X : Cx) (scope : Scope) (ifs : List Expr) (t : TT) : Prop := ∀ (s : Shared) (H : Hp) (C : Addr) (cl : List (Str × Addr)) (fp : List Addr), PTs (X.blk s H scope (compEnvC scope cl C X.env) fp) ifs t
abbrev BlkPE (X : Cx) (scope : Scope) (e : Expr) (t : TE) : Prop := ∀ (s : Shared) (H : Hp) (C : Addr) (cl : List (Str × Addr)) (fp : List Addr), PE (X.blk s H scope (compEnvC scope cl C X.env) fp) e t
abbrev BlkPI (X : Cx) (scope : Scope) (tg e : Expr) (t : TI) : Prop := ∀ (s : Shared) (H : Hp) (C : Addr) (cl : List (Str × Addr)) (fp : List Addr), PI (X.blk s H scope (compEnvC scope cl C X.env) fp) tg e t
/-! ### comprehensions whose body puts into something: what the model does, as equations -/
/-- the first of two clauses -/
def Eq0 (cm t0 i0 : Expr) (ifs0 : List Expr) (i1 : Expr) : Prop := ∀ (it : Value) (D : Addr) (env : Env), compTurn cm 0 it (.ref D) env = (do
      standAt i0.pos
      match ← pyNext it with
      | none => pure (.done .next)
      | some v =>
        letOwnedTupleGo t0 it v
        assign t0 env v
        let mut ok := true
        for c in ifs0 do
          if ok then ok ← isTrue c env (eval c env)
        if ok then
          let x ← eval i1 env
          standAt i1.pos
          let x ← foldedSetIterable i1 env x
          let _ ← runOwn (.compStart cm 1 (← holding [x] (pyIter x)) (.ref D) env) env
        again (.compLoop cm 0 it (.ref D) env))
/-- the last clause -/
def Eq1 (cm : Expr) (n : Nat) (t1 i1 : Expr) (ifs1 : List Expr) (bd : Env → Value → Sem Unit) : Prop := ∀ (it : Value) (D : Addr) (env : Env), compTurn cm n it (.ref D) env = (do
      standAt i1.pos
      match ← pyNext it with
      | none => pure (.done .next)
      | some v =>
        letOwnedTupleGo t1 it v
        assign t1 env v
        let mut ok := true
        for c in ifs1 do
          if ok then ok ← isTrue c env (eval c env)
        if ok then
          (bd env (.ref D))
        again (.compLoop cm n it (.ref D) env))
def UnOk (P : Program) (w : World) (cm : Expr) (n : Nat) : Prop := ∀ (A : Around) (it : Value) (D : Addr) (env : Env), A.under (.compLoop cm n it (.ref D) env) = A ∧ (model P w).den (.compLoop cm n it (.ref D) env) = (compTurn cm n it (.ref D) env).onRaise (fun x => do noteFrame x env; theTreesLotGoes x)
/-- a clause's start -/
def StOk (P : Program) (w : World) (cm : Expr) (n : Nat) : Prop := ∀ {A : Around} {R : Result → Shared → Prop} {s : Shared} {it : Value} {D : Addr} {env : Env}, codeAny (model P w) A (.compLoop cm n it (.ref D) env) R s →
  wpAny (model P w) A (pyIter it) (fun it' s' => codeAny (model P w) A (.compLoop cm n it' (.ref D) env) R s') (notedBy (model P w) A env fun x s' => R (.error x) s') s → codeAny (model P w) A (.compStart cm n it (.ref D) env) R s
section
variable {prog : Program} {w : World} {A : Around} {R : Result → Shared → Prop} {s : Shared} {cm t0 i0 t1 i1 : Expr} {ifs0 ifs1 : List Expr} {it : Value} {D : Addr} {env : Env} {n0 : Nat} {bd : Env → Value → Sem Unit}
theorem loop2_out (hun : UnOk prog w cm 0) (heq : compTurn cm 0 it (.ref D) env = (do
      standAt i0.pos
      match ← pyNext it with
      | none => pure (.done .next)
      | some v =>
        letOwnedTupleGo t0 it v
        assign t0 env v
        let mut ok := true
        for c in ifs0 do
          if ok then ok ← isTrue c env (eval c env)
        if ok then
          let x ← eval i1 env
          standAt i1.pos
          let x ← foldedSetIterable i1 env x
          let _ ← runOwn (.compStart cm 1 (← holding [x] (pyIter x)) (.ref D) env) env
        again (.compLoop cm 0 it (.ref D) env))) (hs : ∀ x, foldedSetIterable i1 env x = pure x) (I : Nat → Shared → Prop)
    (turn : ∀ n s, I n s → wpAny (model prog w) A (pyNext it) (fun r s₁ => match r with
      | none => R (.ok .next) s₁
      | some v => wpAny (model prog w) A (letOwnedTupleGo t0 it v) (fun _ s₁' => wpAny (model prog w) A (assign t0 env v) (fun _ s₂ =>
          wpAny (model prog w) A (forIn ifs0 true fun c r => if r = true then do let ok ← isTrue c env (eval c env); pure (ForInStep.yield ok) else pure (ForInStep.yield r)) (fun ok s₃ =>
            if ok = true then wpAny (model prog w) A (eval i1 env) (fun x s₄ => wpAny (model prog w) A (pyIter x) (fun it1 s₅ =>
              codeAny (model prog w) A (.compStart cm 1 it1 (.ref D) env) (fun r s' => match r with
                | .ok _ => ∃ m, m < n ∧ I m s'
                | .error _ => False) s₅) (notedBy (model prog w) A env fun e s' => R (.error e) s') s₄) (notedBy (model prog w) A env fun e s' => R (.error e) s') s₃
            else ∃ m, m < n ∧ I m s₃) (notedBy (model prog w) A env fun e s' => R (.error e) s') s₂) (notedBy (model prog w) A env fun e s' => R (.error e) s') s₁') (notedBy (model prog w) A env fun e s' => R (.error e) s') s₁) (notedBy (model prog w) A env fun e s' => R (.error e) s') s)
    (n : Nat) (h : I n s) : codeAny (model prog w) A (.compLoop cm 0 it (.ref D) env) R s := by
  refine codeAny_loop rfl I (fun n s hI => ?_) n h
  rw [(hun A it D env).1, (hun A it D env).2]
  refine wpAny_noted ?_
  rw [heq]
  refine wpAny_bind (wpAny_standAt (wpAny_bind (wpAny_mono (turn n s hI) (fun r s₁ h₁ => ?_) fun _ _ h' => h')))
  cases r with
  | none => exact wpAny_pure h₁
  | some v =>
    refine wpAny_bind (wpAny_mono h₁ (fun _ s₁' h₁' => ?_) fun _ _ h' => h')
    refine wpAny_bind (wpAny_mono h₁' (fun _ s₂ h₂ => wpAny_bind (wpAny_mono h₂ (fun ok s₃ h₃ => ?_) fun _ _ h' => h')) fun _ _ h' => h')
    cases ok with
    | false => exact wpAny_pure ⟨rfl, h₃⟩
    | true =>
      refine wpAny_bind (wpAny_mono h₃ (fun x s₄ h₄ => ?_) fun _ _ h' => h')
      refine wpAny_bind (wpAny_standAt (wpAny_bind (wpAny_of_eq (hs x) (wpAny_bind (wpAny_holding (wpAny_mono h₄ (fun it1 s₅ h₅ => ?_) fun _ _ h' => h'))))))
      refine wpAny_bind (wpAny_runOwn ?_)
      rw [Around.mark_none]
      refine codeAny_mono h₅ fun r s' hr => ?_
      cases r with
      | ok f =>
        first
          | exact wpAny_pure ⟨rfl, hr⟩
          | exact wpAny_bind (wpAny_pure (wpAny_pure ⟨rfl, hr⟩))
      | error e => exact hr.elim
theorem loop_in (hun : UnOk prog w cm n0) (heq : compTurn cm n0 it (.ref D) env = (do
      standAt i1.pos
      match ← pyNext it with
      | none => pure (.done .next)
      | some v =>
        letOwnedTupleGo t1 it v
        assign t1 env v
        let mut ok := true
        for c in ifs1 do
          if ok then ok ← isTrue c env (eval c env)
        if ok then
          (bd env (.ref D))
        again (.compLoop cm n0 it (.ref D) env))) (I : Nat → Shared → Prop)
    (turn : ∀ n s, I n s → wpAny (model prog w) A (pyNext it) (fun r s₁ => match r with
      | none => R (.ok .next) s₁
      | some v => wpAny (model prog w) A (letOwnedTupleGo t1 it v) (fun _ s₁' => wpAny (model prog w) A (assign t1 env v) (fun _ s₂ =>
          wpAny (model prog w) A (forIn ifs1 true fun c r => if r = true then do let ok ← isTrue c env (eval c env); pure (ForInStep.yield ok) else pure (ForInStep.yield r)) (fun ok s₃ =>
            if ok = true then wpAny (model prog w) A (bd env (.ref D)) (fun _ s₅ => ∃ m, m < n ∧ I m s₅) (notedBy (model prog w) A env fun e s' => R (.error e) s') s₃
            else ∃ m, m < n ∧ I m s₃) (notedBy (model prog w) A env fun e s' => R (.error e) s') s₂) (notedBy (model prog w) A env fun e s' => R (.error e) s') s₁') (notedBy (model prog w) A env fun e s' => R (.error e) s') s₁) (notedBy (model prog w) A env fun e s' => R (.error e) s') s)
    (n : Nat) (h : I n s) : codeAny (model prog w) A (.compLoop cm n0 it (.ref D) env) R s := by
  refine codeAny_loop rfl I (fun n s hI => ?_) n h
  rw [(hun A it D env).1, (hun A it D env).2]
  refine wpAny_noted ?_
  rw [heq]
  refine wpAny_bind (wpAny_standAt (wpAny_bind (wpAny_mono (turn n s hI) (fun r s₁ h₁ => ?_) fun _ _ h' => h')))
  cases r with
  | none => exact wpAny_pure h₁
  | some v =>
    refine wpAny_bind (wpAny_mono h₁ (fun _ s₁' h₁' => ?_) fun _ _ h' => h')
    refine wpAny_bind (wpAny_mono h₁' (fun _ s₂ h₂ => wpAny_bind (wpAny_mono h₂ (fun ok s₃ h₃ => ?_) fun _ _ h' => h')) fun _ _ h' => h')
    cases ok with
    | false => exact wpAny_pure ⟨rfl, h₃⟩
    | true => exact wpAny_bind (wpAny_mono h₃ (fun _ s₅ h₅ => wpAny_pure ⟨rfl, h₅⟩) fun _ _ h' => h')
end
section
variable {X : Cx}
/-- what the body does in the block -/
def BlkBd (X : Cx) (scope : Scope) (bd : Env → Value → Sem Unit) (tb : Addr → L2.St → Hp → (Hp → Prop) → Prop) : Prop :=
  ∀ (s : Shared) (H : Hp) (C : Addr) (cl : List (Str × Addr)) (fp : List Addr) (pins : List (Addr × Obj)) (s1 : Shared) (σ1 : L2.St) (H1 : Hp) (D : Addr) (Nx : Hp → Prop) (E : Value → Shared → Prop), Inv (X.blk s H scope (compEnvC scope cl C X.env) fp) pins σ1 H1 s1 → tb D σ1 H1 Nx →
    wpAny (model X.prog X.w) X.A (bd (compEnvC scope cl C X.env) (.ref D)) (fun _ s2 => ∃ H2, Inv (X.blk s H scope (compEnvC scope cl C X.env) fp) pins σ1 H2 s2 ∧ Nx H2) E s1
def tC1 (u0 : Addr → HO) (tb : Addr → L2.St → Hp → (Hp → Prop) → Prop) (wi : TI) (g : TG) (tt : TT) (vs : List Nat) : TE := fun σ H Q => wi σ H fun J H1 => ∀ D, H1 D = none → ∃ W : Nat → Nat → Hp → Prop, (∃ m, W 0 m (upd H1 D (u0 D))) ∧ ∀ i m H, W i m H →
  (J.stop i H ∧ Q (.ref D) H) ∨ (J.go i H ∧ ∃ Nx : Hp → Prop, (∀ H', Nx H' → ∃ m', m' < m ∧ W (i + 1) m' H') ∧ ∀ x H', J.yld i H x H' → g x (wipe σ vs) H' fun σ2 H2 => wipe σ2 vs = wipe σ vs ∧ tt σ2 H2 fun b H3 =>
    if b = true then tb D σ2 H3 Nx else Nx H3)
def tC2 (u0 : Addr → HO) (tb : Addr → L2.St → Hp → (Hp → Prop) → Prop) (wi : TI) (g : TG) (tt : TT) (wi1 : TI) (g1 : TG) (tt1 : TT) (vs vs1 : List Nat) : TE := fun σ H Q => wi σ H fun J H1 => ∀ D, H1 D = none → ∃ W : Nat → Nat → Hp → Prop, (∃ m, W 0 m (upd H1 D (u0 D))) ∧ ∀ i m H, W i m H →
  (J.stop i H ∧ Q (.ref D) H) ∨ (J.go i H ∧ ∃ Nx : Hp → Prop, (∀ H', Nx H' → ∃ m', m' < m ∧ W (i + 1) m' H') ∧ ∀ x H', J.yld i H x H' → g x (wipe σ vs) H' fun σ2 H2 => wipe σ2 vs = wipe σ vs ∧ tt σ2 H2 fun b H3 =>
    if b = true then wi1 σ2 H3 fun J1 H4 => ∃ W1 : Nat → Nat → Hp → Prop, (∃ m, W1 0 m H4) ∧ ∀ j k H, W1 j k H →
      (J1.stop j H ∧ Nx H) ∨ (J1.go j H ∧ ∃ Nx1 : Hp → Prop, (∀ H', Nx1 H' → ∃ k', k' < k ∧ W1 (j + 1) k' H') ∧ ∀ x H', J1.yld j H x H' → g1 x (wipe σ2 vs1) H' fun σ3 H5 => wipe σ3 vs1 = wipe σ2 vs1 ∧ tt1 σ3 H5 fun b H6 =>
        if b = true then tb D σ3 H6 Nx1 else Nx1 H6)
    else Nx H3)
theorem c1_core
    {pins : List (Addr × Obj)} {s : Shared} {σ : L2.St} {H : Hp} {Q : VK} {cm tg iter : Expr} {ifs : List Expr} {gs : List Comprehension} {scope : Scope} {own : List (PySem.Str × Nat)} {pos' : PySem.Pos} {wi : TI} {g : TG} {tt : TT} {bd : Env → Value → Sem Unit} {tb : Addr → L2.St → Hp → (Hp → Prop) → Prop} {use : Option (Value → Sem Unit)} {Qf : Value → Shared → Prop} {newA : Sem Value} {o0 : Obj} {u0 : Addr → HO}
    (hc : X.calm = true) (hN : X.N.Nodup) (I : Inv X pins σ H s) (hi : PI X tg iter wi) (ok : BlkOk X.N X.env.scope scope own)
    (hg : BlkPG X scope tg g) (ht : BlkPTs X scope ifs tt) (hbody : BlkBd X scope bd tb) (hs : ∀ x, foldedSetIterable iter X.env x = pure x)
    (hcl : clausesOf cm = ⟨tg, iter, ifs, 0⟩ :: gs)
    (hnew : ∀ {s : Shared} {Q : Value → Shared → Prop}, Q (.ref s.heap.objs.size) { s with heap := s.heap.push o0 } → wpAny (model X.prog X.w) X.A newA Q X.xe s)
    (h0ok : ∀ (H : Hp) (h : Heap), sysModules < h.objs.size → ObjOk X.prog X.w H (h.push o0) h.objs.size (u0 h.objs.size))
    (hst0 : StOk X.prog X.w cm 0) (hun1 : UnOk X.prog X.w cm 0) (heq1 : Eq1 cm 0 tg iter ifs bd)
    (h : tC1 u0 tb wi g tt (own.map (·.2)) σ H Q)
    (hRR : ∀ D C s' m H', Inv X pins σ H' s' → Q (.ref D) H' → s'.heap.Ns C m → FpOk X pins H' C → compPost (model X.prog X.w) X.A X.xe use Qf (.ref D) C (.ok .next) s') :
    wpAny (model X.prog X.w) X.A (comprehension cm scope X.env pos' newA false (eval iter X.env) use) Qf X.xe s := by
  have hfree : ∀ y ∈ scope.names, y.2 = .free → ∃ c, X.env.cells.lookup y.1 = some c := fun y hy e => by
    rcases ok.free y hy e with k | k
    · exact I.ok.has _ (.inl k)
    · exact I.ok.has _ (.inr k)
  refine wpAny_comprehension_free (use := use) hcl hs (closure_ok hfree) ok.kind (fun y hy e => by rw [ok.uniq y hy, e])
    (thn (hi.run pins s σ H _ I h) fun xv s1 hx => thn hx fun itv s2 h2 => ?_)
  obtain ⟨it, fp, tn, J, H2, e, I2, T, st2, f2, q⟩ := h2
  subst e
  refine hnew (newEnv_comp ?_)
  generalize hD : s2.heap.objs.size = D
  have hDn : H2 D = none := I2.hok.fresh (Nat.le_of_eq hD)
  obtain ⟨W, ⟨m0, w0⟩, turn⟩ := q D hDn
  -- the new list
  generalize hs3 : ({ s2 with heap := s2.heap.push o0 } : Shared) = s3
  have I3 : Inv X pins σ (upd H2 D (u0 D)) s3 := by
    rw [← hs3]
    refine I2.laid (t' := s2.toks) (fun b o e => Heap.get?_push_of_some _ e) (Nat.le_of_eq hD) ?_
    rw [← hD]
    exact h0ok _ s2.heap I2.big
  have h3 : s3.heap = s2.heap.push o0 := by rw [← hs3]
  have sz : ∀ b ∈ fp, b < s2.heap.objs.size := fun b hb => by
    obtain ⟨o, e, _⟩ := T.obj _ _ st2 b hb
    exact Heap.lt_size e
  have f3 : ∀ b ∈ fp, FpOk X pins (upd H2 D (u0 D)) b ∧ b < s3.heap.objs.size := fun b hb => by
    have hlt := sz b hb
    refine ⟨⟨?_, (f2 b hb).2⟩, by rw [h3, Heap.size_push]; exact Nat.lt_succ_of_lt hlt⟩
    rw [upd_ne (by rw [← hD]; exact Nat.ne_of_lt hlt)]
    exact (f2 b hb).1
  have st3 : tn 0 s3.heap := T.keep _ _ _ st2 fun b _ o e => by rw [h3]; exact Heap.get?_push_of_some _ e
  have I4 := block_start I3 ok hN f3
  have pg := hg s3 (upd H2 D (u0 D)) s3.heap.objs.size (cellsFrom (s3.heap.objs.size + 1) scope.names (cloFrom X.env.cells scope.names [])) fp
  have pt := ht s3 (upd H2 D (u0 D)) s3.heap.objs.size (cellsFrom (s3.heap.objs.size + 1) scope.names (cloFrom X.env.cells scope.names [])) fp
  have pe := hbody s3 (upd H2 D (u0 D)) s3.heap.objs.size (cellsFrom (s3.heap.objs.size + 1) scope.names (cloFrom X.env.cells scope.names [])) fp
  show codeAny _ _ (.compStart cm 0 (.ref it) (.ref D) (compEnvC scope (cellsFrom (s3.heap.objs.size + 1) scope.names (cloFrom X.env.cells scope.names [])) s3.heap.objs.size X.env)) (compPost (model X.prog X.w) X.A X.xe use Qf (.ref D) s3.heap.objs.size) { s3 with heap := pushCells (s3.heap.push { cls := .type "dict", data := .dict #[] }) scope.names }
  have nfp : ∀ b ∈ fp, (upd H2 D (u0 D)) b = none := fun b hb => (f3 b hb).1.1
  generalize hce : compEnvC scope (cellsFrom (s3.heap.objs.size + 1) scope.names (cloFrom X.env.cells scope.names [])) s3.heap.objs.size X.env = ce at I4 pg pt pe ⊢
  have cL : ce.locals = s3.heap.objs.size := by subst hce; rfl
  generalize hH3 : upd H2 D (u0 D) = H3 at I3 I4 pg pt pe w0 nfp f3
  generalize hs4 : ({ s3 with heap := pushCells (s3.heap.push { cls := .type "dict", data := .dict #[] }) scope.names } : Shared) = s4 at I4 ⊢
  have st4 : tn 0 s4.heap := T.keep _ _ _ st3 fun b _ o e => by rw [← hs4]; exact pushCells_keeps _ _ _ _ (Heap.get?_push_of_some _ e)
  have stat : ∀ {σ' : L2.St} {H' : Hp} {s' : Shared}, Inv (X.blk s3 H3 scope ce fp) [] σ' H' s' → (∀ b ∈ fp, H' b = none) → ∀ b ∈ fp, FpOk (X.blk s3 H3 scope ce fp) [] H' b := fun {σ' H' s'} I' hn b hb =>
    ⟨hn b hb, (I'.ok.exf b hb).1, I'.ok.exfs b hb, .inl hb, fun x c e => (I'.ok.exf b hb).2 x c e, fun p hp => absurd (show p ∈ ([] : List (Addr × Obj)) ++ [] from hp) (by simp)⟩
  have loop : codeAny (model X.prog X.w) X.A (.compLoop cm 0 (.ref it) (.ref D) ce) (compPost (model X.prog X.w) X.A X.xe use Qf (.ref D) s3.heap.objs.size) s4 := by
    refine loop_in hun1 (heq1 _ _ _) (fun n s' => ∃ i H', Inv (X.blk s3 H3 scope ce fp) [] (wipe σ (own.map (·.2))) H' s' ∧ tn i s'.heap ∧ (∀ b ∈ fp, H' b = none) ∧ W i n H') ?_ m0 ⟨0, H3, I4, st4, nfp, w0⟩
    rintro n s5 ⟨i, H5, I5, st5, n5, w5⟩
    rcases turn i n H5 w5 with ⟨stop, qq⟩ | ⟨go, Nx, hNx, step⟩
    · have td := T.done (X.blk s3 H3 scope ce fp) rfl rfl rfl hc i [] s5 _ H5 (fun _ _ => False) I5 (stat I5 n5) st5 stop
      refine thnF td fun r s6 ⟨hr, I6⟩ => ?_
      subst hr
      -- back in the def's context
      have I7 : Inv X pins σ H5 s6 := I3.call' (ch := fp) I6.os I6.base I6.hok I6.bare fun b hb => ⟨(f3 b hb).1.2.2.2.1, (f3 b hb).1.2.1, (f3 b hb).1.2.2.2.2.1, (f3 b hb).1.2.2.2.2.2⟩
      have nC : H5 s3.heap.objs.size = none := by
        have z : H5 ce.locals = none := I6.free
        rw [cL] at z
        exact z
      obtain ⟨m, hn, _⟩ := I6.loc
      have hn : s6.heap.Ns ce.locals m := hn
      rw [cL] at hn
      exact hRR D s3.heap.objs.size s6 m H5 I7 qq hn (I3.fpOk (Nat.le_refl _) nC)
    · have ti := T.item (X.blk s3 H3 scope ce fp) rfl rfl rfl hc i [] s5 _ H5 (fun _ _ => False) I5 (stat I5 n5) st5 go
      refine thnF ti fun r s6 ⟨u, hr, h6⟩ => ?_
      subst hr
      refine thnF h6 fun _ s7 ⟨x, H7, I7, r7, y7, st7, n7⟩ => ?_
      have I7' := I7.pinned (stat I7 n7) (T.obj _ _ st7)
      refine thnF (pg.run _ s7 _ H7 x u _ I7' r7 (step x H7 y7)) fun _ s8 ⟨σ8, H8, I8, hw8, q8⟩ => ?_
      refine thnF (pt.run _ s8 σ8 H8 _ I8 q8) fun b s9 ⟨H9, I9, q9⟩ => ?_
      -- the turn's end, from any slots that know what the block knew at its start
      have fin : ∀ {σ9 : L2.St} {s' : Shared} {H' : Hp}, Inv (X.blk s3 H3 scope ce fp) ([] ++ pinsAt fp s7.heap) σ9 H' s' → (wipe σ (own.map (·.2))).length = σ9.length → (∀ (j : Nat) v, (wipe σ (own.map (·.2)))[j]? = some (some v) → σ9[j]? = some (some v)) → Nx H' →
          ∃ m, m < n ∧ ∃ i H', Inv (X.blk s3 H3 scope ce fp) [] (wipe σ (own.map (·.2))) H' s' ∧ tn i s'.heap ∧ (∀ b ∈ fp, H' b = none) ∧ W i m H' := fun {σ9 s' H'} I' hl hk nx => by
        obtain ⟨m', hm, w'⟩ := hNx H' nx
        have pin' : ∀ b ∈ fp, ∀ o, s7.heap.get? b = some o → s'.heap.get? b = some o ∧ H' b = none := fun b hb o e =>
          let z := I'.pin (b, o) (List.mem_append_right _ (List.mem_append_right _ (mem_pinsAt hb e)))
          ⟨z.1, z.2.1⟩
        refine ⟨m', hm, i + 1, H', (I'.unpinned (pins := [])).weak hl hk, T.keep _ _ _ st7 fun b hb o e => (pin' b hb o e).1, fun b hb => ?_, w'⟩
        obtain ⟨o, e, _⟩ := T.obj _ _ st7 b hb
        exact (pin' b hb o e).2
      have hl8 : (wipe σ (own.map (·.2))).length = σ8.length := by rw [← hw8, wipe_length]
      have hk8 : ∀ (j : Nat) v, (wipe σ (own.map (·.2)))[j]? = some (some v) → σ8[j]? = some (some v) := fun j v e => by
        rw [← hw8] at e
        exact (wipe_some e).1
      cases b with
      | false =>
        simp only [Bool.false_eq_true, if_false] at q9 ⊢
        exact fin I9 hl8 hk8 q9
      | true =>
        simp only [if_true] at q9 ⊢
        refine wpAny_mono (pe _ s9 σ8 H9 D _ (fun _ _ => False) I9 q9) (fun _ s17 ⟨H17, I17, nx⟩ => fin I17 hl8 hk8 nx) fun _ _ z => z.elim
  exact hst0 loop (T.self X.A 0 _ _ _ st4 loop)
theorem c2_core
    {pins : List (Addr × Obj)} {s : Shared} {σ : L2.St} {H : Hp} {Q : VK} {cm tg iter tg1 iter1 : Expr} {ifs ifs1 : List Expr} {gs : List Comprehension} {scope : Scope} {own : List (PySem.Str × Nat)} {vs1 : List Nat} {pos' : PySem.Pos} {wi wi1 : TI} {g g1 : TG} {tt tt1 : TT} {bd : Env → Value → Sem Unit} {tb : Addr → L2.St → Hp → (Hp → Prop) → Prop} {use : Option (Value → Sem Unit)} {Qf : Value → Shared → Prop} {newA : Sem Value} {o0 : Obj} {u0 : Addr → HO}
    (hc : X.calm = true) (hN : X.N.Nodup) (I : Inv X pins σ H s) (hi : PI X tg iter wi) (ok : BlkOk X.N X.env.scope scope own) (hv : ∀ i ∈ vs1, i ∈ own.map (·.2))
    (hg : BlkPG X scope tg g) (ht : BlkPTs X scope ifs tt) (hbody : BlkBd X scope bd tb) (hs : ∀ x, foldedSetIterable iter X.env x = pure x)
    (hi1 : BlkPI X scope tg1 iter1 wi1) (hg1 : BlkPG X scope tg1 g1) (ht1 : BlkPTs X scope ifs1 tt1) (hs1 : ∀ env x, foldedSetIterable iter1 env x = pure x)
    (hcl : clausesOf cm = ⟨tg, iter, ifs, 0⟩ :: gs)
    (hnew : ∀ {s : Shared} {Q : Value → Shared → Prop}, Q (.ref s.heap.objs.size) { s with heap := s.heap.push o0 } → wpAny (model X.prog X.w) X.A newA Q X.xe s)
    (h0ok : ∀ (H : Hp) (h : Heap), sysModules < h.objs.size → ObjOk X.prog X.w H (h.push o0) h.objs.size (u0 h.objs.size))
    (hst0 : StOk X.prog X.w cm 0) (hst1 : StOk X.prog X.w cm 1) (hun0 : UnOk X.prog X.w cm 0) (hun1 : UnOk X.prog X.w cm 1) (heq0 : Eq0 cm tg iter ifs iter1) (heq1 : Eq1 cm 1 tg1 iter1 ifs1 bd)
    (h : tC2 u0 tb wi g tt wi1 g1 tt1 (own.map (·.2)) vs1 σ H Q)
    (hRR : ∀ D C s' m H', Inv X pins σ H' s' → Q (.ref D) H' → s'.heap.Ns C m → FpOk X pins H' C → compPost (model X.prog X.w) X.A X.xe use Qf (.ref D) C (.ok .next) s') :
    wpAny (model X.prog X.w) X.A (comprehension cm scope X.env pos' newA false (eval iter X.env) use) Qf X.xe s := by
  have hfree : ∀ y ∈ scope.names, y.2 = .free → ∃ c, X.env.cells.lookup y.1 = some c := fun y hy e => by
    rcases ok.free y hy e with k | k
    · exact I.ok.has _ (.inl k)
    · exact I.ok.has _ (.inr k)
  refine wpAny_comprehension_free (use := use) hcl hs (closure_ok hfree) ok.kind (fun y hy e => by rw [ok.uniq y hy, e])
    (thn (hi.run pins s σ H _ I h) fun xv s1 hx => thn hx fun itv s2 h2 => ?_)
  obtain ⟨it, fp, tn, J, H2, e, I2, T, st2, f2, q⟩ := h2
  subst e
  refine hnew (newEnv_comp ?_)
  generalize hD : s2.heap.objs.size = D
  have hDn : H2 D = none := I2.hok.fresh (Nat.le_of_eq hD)
  obtain ⟨W, ⟨m0, w0⟩, turn⟩ := q D hDn
  -- the new list
  generalize hs3 : ({ s2 with heap := s2.heap.push o0 } : Shared) = s3
  have I3 : Inv X pins σ (upd H2 D (u0 D)) s3 := by
    rw [← hs3]
    refine I2.laid (t' := s2.toks) (fun b o e => Heap.get?_push_of_some _ e) (Nat.le_of_eq hD) ?_
    rw [← hD]
    exact h0ok _ s2.heap I2.big
  have h3 : s3.heap = s2.heap.push o0 := by rw [← hs3]
  have sz : ∀ b ∈ fp, b < s2.heap.objs.size := fun b hb => by
    obtain ⟨o, e, _⟩ := T.obj _ _ st2 b hb
    exact Heap.lt_size e
  have f3 : ∀ b ∈ fp, FpOk X pins (upd H2 D (u0 D)) b ∧ b < s3.heap.objs.size := fun b hb => by
    have hlt := sz b hb
    refine ⟨⟨?_, (f2 b hb).2⟩, by rw [h3, Heap.size_push]; exact Nat.lt_succ_of_lt hlt⟩
    rw [upd_ne (by rw [← hD]; exact Nat.ne_of_lt hlt)]
    exact (f2 b hb).1
  have st3 : tn 0 s3.heap := T.keep _ _ _ st2 fun b _ o e => by rw [h3]; exact Heap.get?_push_of_some _ e
  have I4 := block_start I3 ok hN f3
  have pg := hg s3 (upd H2 D (u0 D)) s3.heap.objs.size (cellsFrom (s3.heap.objs.size + 1) scope.names (cloFrom X.env.cells scope.names [])) fp
  have pt := ht s3 (upd H2 D (u0 D)) s3.heap.objs.size (cellsFrom (s3.heap.objs.size + 1) scope.names (cloFrom X.env.cells scope.names [])) fp
  have pe := hbody s3 (upd H2 D (u0 D)) s3.heap.objs.size (cellsFrom (s3.heap.objs.size + 1) scope.names (cloFrom X.env.cells scope.names [])) fp
  have pi1 := hi1 s3 (upd H2 D (u0 D)) s3.heap.objs.size (cellsFrom (s3.heap.objs.size + 1) scope.names (cloFrom X.env.cells scope.names [])) fp
  have pg1 := hg1 s3 (upd H2 D (u0 D)) s3.heap.objs.size (cellsFrom (s3.heap.objs.size + 1) scope.names (cloFrom X.env.cells scope.names [])) fp
  have pt1 := ht1 s3 (upd H2 D (u0 D)) s3.heap.objs.size (cellsFrom (s3.heap.objs.size + 1) scope.names (cloFrom X.env.cells scope.names [])) fp
  show codeAny _ _ (.compStart cm 0 (.ref it) (.ref D) (compEnvC scope (cellsFrom (s3.heap.objs.size + 1) scope.names (cloFrom X.env.cells scope.names [])) s3.heap.objs.size X.env)) (compPost (model X.prog X.w) X.A X.xe use Qf (.ref D) s3.heap.objs.size) { s3 with heap := pushCells (s3.heap.push { cls := .type "dict", data := .dict #[] }) scope.names }
  have nfp : ∀ b ∈ fp, (upd H2 D (u0 D)) b = none := fun b hb => (f3 b hb).1.1
  generalize hce : compEnvC scope (cellsFrom (s3.heap.objs.size + 1) scope.names (cloFrom X.env.cells scope.names [])) s3.heap.objs.size X.env = ce at I4 pg pt pe pi1 pg1 pt1 ⊢
  have cL : ce.locals = s3.heap.objs.size := by subst hce; rfl
  generalize hH3 : upd H2 D (u0 D) = H3 at I3 I4 pg pt pe pi1 pg1 pt1 w0 nfp f3
  generalize hs4 : ({ s3 with heap := pushCells (s3.heap.push { cls := .type "dict", data := .dict #[] }) scope.names } : Shared) = s4 at I4 ⊢
  have st4 : tn 0 s4.heap := T.keep _ _ _ st3 fun b _ o e => by rw [← hs4]; exact pushCells_keeps _ _ _ _ (Heap.get?_push_of_some _ e)
  have stat : ∀ {σ' : L2.St} {H' : Hp} {s' : Shared}, Inv (X.blk s3 H3 scope ce fp) [] σ' H' s' → (∀ b ∈ fp, H' b = none) → ∀ b ∈ fp, FpOk (X.blk s3 H3 scope ce fp) [] H' b := fun {σ' H' s'} I' hn b hb =>
    ⟨hn b hb, (I'.ok.exf b hb).1, I'.ok.exfs b hb, .inl hb, fun x c e => (I'.ok.exf b hb).2 x c e, fun p hp => absurd (show p ∈ ([] : List (Addr × Obj)) ++ [] from hp) (by simp)⟩
  have loop : codeAny (model X.prog X.w) X.A (.compLoop cm 0 (.ref it) (.ref D) ce) (compPost (model X.prog X.w) X.A X.xe use Qf (.ref D) s3.heap.objs.size) s4 := by
    refine loop2_out hun0 (heq0 _ _ _) (hs1 ce) (fun n s' => ∃ i H', Inv (X.blk s3 H3 scope ce fp) [] (wipe σ (own.map (·.2))) H' s' ∧ tn i s'.heap ∧ (∀ b ∈ fp, H' b = none) ∧ W i n H') ?_ m0 ⟨0, H3, I4, st4, nfp, w0⟩
    rintro n s5 ⟨i, H5, I5, st5, n5, w5⟩
    rcases turn i n H5 w5 with ⟨stop, qq⟩ | ⟨go, Nx, hNx, step⟩
    · have td := T.done (X.blk s3 H3 scope ce fp) rfl rfl rfl hc i [] s5 _ H5 (fun _ _ => False) I5 (stat I5 n5) st5 stop
      refine thnF td fun r s6 ⟨hr, I6⟩ => ?_
      subst hr
      -- back in the def's context
      have I7 : Inv X pins σ H5 s6 := I3.call' (ch := fp) I6.os I6.base I6.hok I6.bare fun b hb => ⟨(f3 b hb).1.2.2.2.1, (f3 b hb).1.2.1, (f3 b hb).1.2.2.2.2.1, (f3 b hb).1.2.2.2.2.2⟩
      have nC : H5 s3.heap.objs.size = none := by
        have z : H5 ce.locals = none := I6.free
        rw [cL] at z
        exact z
      obtain ⟨m, hn, _⟩ := I6.loc
      have hn : s6.heap.Ns ce.locals m := hn
      rw [cL] at hn
      exact hRR D s3.heap.objs.size s6 m H5 I7 qq hn (I3.fpOk (Nat.le_refl _) nC)
    · have ti := T.item (X.blk s3 H3 scope ce fp) rfl rfl rfl hc i [] s5 _ H5 (fun _ _ => False) I5 (stat I5 n5) st5 go
      refine thnF ti fun r s6 ⟨u, hr, h6⟩ => ?_
      subst hr
      refine thnF h6 fun _ s7 ⟨x, H7, I7, r7, y7, st7, n7⟩ => ?_
      have I7' := I7.pinned (stat I7 n7) (T.obj _ _ st7)
      refine thnF (pg.run _ s7 _ H7 x u _ I7' r7 (step x H7 y7)) fun _ s8 ⟨σ8, H8, I8, hw8, q8⟩ => ?_
      refine thnF (pt.run _ s8 σ8 H8 _ I8 q8) fun b s9 ⟨H9, I9, q9⟩ => ?_
      -- the turn's end, from any slots that know what the block knew at its start
      have fin : ∀ {σ9 : L2.St} {s' : Shared} {H' : Hp}, Inv (X.blk s3 H3 scope ce fp) ([] ++ pinsAt fp s7.heap) σ9 H' s' → (wipe σ (own.map (·.2))).length = σ9.length → (∀ (j : Nat) v, (wipe σ (own.map (·.2)))[j]? = some (some v) → σ9[j]? = some (some v)) → Nx H' →
          ∃ m, m < n ∧ ∃ i H', Inv (X.blk s3 H3 scope ce fp) [] (wipe σ (own.map (·.2))) H' s' ∧ tn i s'.heap ∧ (∀ b ∈ fp, H' b = none) ∧ W i m H' := fun {σ9 s' H'} I' hl hk nx => by
        obtain ⟨m', hm, w'⟩ := hNx H' nx
        have pin' : ∀ b ∈ fp, ∀ o, s7.heap.get? b = some o → s'.heap.get? b = some o ∧ H' b = none := fun b hb o e =>
          let z := I'.pin (b, o) (List.mem_append_right _ (List.mem_append_right _ (mem_pinsAt hb e)))
          ⟨z.1, z.2.1⟩
        refine ⟨m', hm, i + 1, H', (I'.unpinned (pins := [])).weak hl hk, T.keep _ _ _ st7 fun b hb o e => (pin' b hb o e).1, fun b hb => ?_, w'⟩
        obtain ⟨o, e, _⟩ := T.obj _ _ st7 b hb
        exact (pin' b hb o e).2
      have hl8 : (wipe σ (own.map (·.2))).length = σ8.length := by rw [← hw8, wipe_length]
      have hk8 : ∀ (j : Nat) v, (wipe σ (own.map (·.2)))[j]? = some (some v) → σ8[j]? = some (some v) := fun j v e => by
        rw [← hw8] at e
        exact (wipe_some e).1
      have hk9 : ∀ (j : Nat) v, (wipe σ (own.map (·.2)))[j]? = some (some v) → (wipe σ8 vs1)[j]? = some (some v) := fun j v e => by
        rw [← hw8] at e
        obtain ⟨e1, e2⟩ := wipe_some e
        rw [wipe_out fun z => e2 (hv j z)]
        exact e1
      cases b with
      | false =>
        simp only [Bool.false_eq_true, if_false] at q9 ⊢
        exact fin I9 hl8 hk8 q9
      | true =>
        simp only [if_true] at q9 ⊢
        refine thnF (pi1.run _ s9 σ8 H9 _ I9 q9) fun xv s10 hx => thnF hx fun itv s11 h11 => ?_
        obtain ⟨it1, fp1, tn1, J1, H11, e1, I11, T1, st11, f11, W1, ⟨m1, w1⟩, turn1⟩ := h11
        subst e1
        -- the inner loop
        have stat1 : ∀ {H' : Hp}, (∀ b ∈ fp1, H' b = none) → ∀ b ∈ fp1, FpOk (X.blk s3 H3 scope ce fp) ([] ++ pinsAt fp s7.heap) H' b := fun hn b hb => ⟨hn b hb, (f11 b hb).2⟩
        have loop1 : codeAny (model X.prog X.w) X.A (.compLoop cm 1 (.ref it1) (.ref D) ce)
            (fun r s' => match r with
              | .ok _ => ∃ m, m < n ∧ ∃ i H', Inv (X.blk s3 H3 scope ce fp) [] (wipe σ (own.map (·.2))) H' s' ∧ tn i s'.heap ∧ (∀ b ∈ fp, H' b = none) ∧ W i m H'
              | .error _ => False) s11 := by
          refine loop_in hun1 (heq1 _ _ _) (fun k s' => ∃ j H', Inv (X.blk s3 H3 scope ce fp) ([] ++ pinsAt fp s7.heap) (wipe σ8 vs1) H' s' ∧ tn1 j s'.heap ∧ (∀ b ∈ fp1, H' b = none) ∧ W1 j k H') ?_ m1 ⟨0, H11, I11.weak (wipe_length _ _) (fun j v e => (wipe_some e).1), st11, fun b hb => (f11 b hb).1, w1⟩
          rintro k s12 ⟨j, H12, I12, st12, n12, w12⟩
          rcases turn1 j k H12 w12 with ⟨stop1, nx1⟩ | ⟨go1, Nx1, hNx1, step1⟩
          · refine thnF (T1.done (X.blk s3 H3 scope ce fp) rfl rfl rfl hc j _ s12 (wipe σ8 vs1) H12 (fun _ _ => False) I12 (stat1 n12) st12 stop1) fun r s13 ⟨hr, I13⟩ => ?_
            subst hr
            exact fin I13 (hl8.trans (wipe_length σ8 vs1).symm) hk9 nx1
          · refine thnF (T1.item (X.blk s3 H3 scope ce fp) rfl rfl rfl hc j _ s12 (wipe σ8 vs1) H12 (fun _ _ => False) I12 (stat1 n12) st12 go1) fun r s13 ⟨u1, hr, h13⟩ => ?_
            subst hr
            refine thnF h13 fun _ s14 ⟨x1, H14, I14, r14, y14, st14, n14⟩ => ?_
            have I14' := I14.pinned (stat1 n14) (T1.obj _ _ st14)
            refine thnF (pg1.run _ s14 (wipe σ8 vs1) H14 x1 u1 _ I14' r14 (step1 x1 H14 y14)) fun _ s15 ⟨σ15, H15, I15, hw15, q15⟩ => ?_
            refine thnF (pt1.run _ s15 σ15 H15 _ I15 q15) fun b1 s16 ⟨H16, I16, q16⟩ => ?_
            have fin1 : ∀ {s' : Shared} {H' : Hp}, Inv (X.blk s3 H3 scope ce fp) (([] ++ pinsAt fp s7.heap) ++ pinsAt fp1 s14.heap) σ15 H' s' → Nx1 H' → ∃ m, m < k ∧ ∃ j H', Inv (X.blk s3 H3 scope ce fp) ([] ++ pinsAt fp s7.heap) (wipe σ8 vs1) H' s' ∧ tn1 j s'.heap ∧ (∀ b ∈ fp1, H' b = none) ∧ W1 j m H' := fun {s' H'} I' nx => by
              obtain ⟨m', hm, w'⟩ := hNx1 H' nx
              have pin' : ∀ b ∈ fp1, ∀ o, s14.heap.get? b = some o → s'.heap.get? b = some o ∧ H' b = none := fun b hb o e =>
                let z := I'.pin (b, o) (List.mem_append_right _ (List.mem_append_right _ (mem_pinsAt hb e)))
                ⟨z.1, z.2.1⟩
              refine ⟨m', hm, j + 1, H', I'.unpinned.weak (by rw [← hw15, wipe_length]) (fun j v e => by rw [← hw15] at e; exact (wipe_some e).1), T1.keep _ _ _ st14 fun b hb o e => (pin' b hb o e).1, fun b hb => ?_, w'⟩
              obtain ⟨o, e, _⟩ := T1.obj _ _ st14 b hb
              exact (pin' b hb o e).2
            cases b1 with
            | false =>
              simp only [Bool.false_eq_true, if_false] at q16 ⊢
              exact fin1 I16 q16
            | true =>
              simp only [if_true] at q16 ⊢
              refine wpAny_mono (pe _ s16 σ15 H16 D _ (fun _ _ => False) I16 q16) (fun _ s17 ⟨H17, I17, nx⟩ => fin1 I17 nx) fun _ _ z => z.elim
        exact hst1 loop1 (T1.self X.A 0 _ _ _ st11 loop1)
  exact hst0 loop (T.self X.A 0 _ _ _ st4 loop)
end
end K7
end

section
set_option Elab.async false
set_option linter.all false
set_option maxRecDepth 100000
namespace K7
open PySem PySem.Spec PyProof.Rows L2 SlX
section
variable {X : Cx}
/-- d[k] = v by a comprehension, k a tuple -/
theorem d_dictSetT {pins : List (Addr × Obj)} {σ : L2.St} {H : Hp} {s : Shared} {E : Value → Shared → Prop} {D b : Addr} {kvs : List (List Key × V)} {k : List Key} {v : V} {r : Value} {Q : Unit → Shared → Prop} (hu : X.A.units < cLine) (I : Inv X pins σ H s) (e : H D = some (.dT kvs)) (l : kvs.length < sizeLine)
    (eb : H b = some (.tup (k.map kV))) (rv : RelV v r) (h : ∀ s', Inv X pins σ (upd H D (.dT (putK kvs k v))) s' → Q () s') : wpAny (model X.prog X.w) X.A (dictSet D (.ref b) r) Q E s := by
  obtain ⟨z, hd, xs, rel, dd⟩ := dt_of I.hok e
  have hz : xs.length ≤ sizeLine := by rw [← Paired.length rel]; exact z
  have hl : (putK kvs k v).length ≤ sizeLine := by have := length_putK kvs k v; omega
  refine wpAny_dictSet_heap (hsz := hz) (knd := tupleKind (mixKind X.prog X.w)) hu (key_of I.hok eb) dd fun h' dd' hs => h _ ?_
  obtain ⟨q, es, ep, hq, h2, h3, h4, _, h5⟩ := dd'
  refine d_write I (by rw [e]; exact True.intro) hs ⟨q, hq⟩ ⟨hl, hd, _, (rel.put k eb rv).keeps fun c ys ec => ?_, q, es, ep, hq, h2, h3, h4, h5⟩
  rw [upd_ne (ne_of ec e (fun z => nomatch z))]
  exact ec
def bdD (kx vx : Expr) : Env → Value → Sem Unit := fun env v => match v with
  | .ref D => do
    let kv ← eval kx env
    let vv ← holding [kv] (eval vx env)
    standAt { kx.pos with endLine := vx.pos.endLine, endCol := vx.pos.endCol }
    holding [kv, vv] (dictSet D kv vv)
  | _ => pure ()
def tbDT (tk tv : TE) : Addr → L2.St → Hp → (Hp → Prop) → Prop := fun D σ H Nx => tk σ H fun y H4 => tv σ H4 fun z H5 => ∃ kvs k a, y = .ref a ∧ H5 a = some (.tup (k.map kV)) ∧ H5 D = some (.dT kvs) ∧ kvs.length < sizeLine ∧ Nx (upd H5 D (.dT (putK kvs k z)))
theorem bd_dT {scope : Scope} {kx vx : Expr} {tk tv : TE} (hu : X.A.units < cLine) (hk : BlkPE X scope kx tk) (he : BlkPE X scope vx tv) : BlkBd X scope (bdD kx vx) (tbDT tk tv) := by
  intro s H C cl fp pins s1 σ1 H1 D Nx E I h
  show wpAny (model X.prog X.w) X.A (do
    let kv ← eval kx (compEnvC scope cl C X.env)
    let vv ← holding [kv] (eval vx (compEnvC scope cl C X.env))
    standAt { kx.pos with endLine := vx.pos.endLine, endCol := vx.pos.endCol }
    holding [kv, vv] (dictSet D kv vv)) _ _ _
  refine wpAny_bind (thnF ((hk s H C cl fp).run pins s1 σ1 H1 _ I h) fun u s2 ⟨y, H4, I4, r4, q4⟩ => ?_)
  refine wpAny_bind (wpAny_holding (thnF ((he s H C cl fp).run pins s2 σ1 H4 _ I4 q4) fun u2 s3 ⟨z, H5, I5, r5, kvs, k, a, ey, ea, eD, hz, nx⟩ => ?_))
  subst ey
  cases (show u = Value.ref a from r4)
  exact wpAny_bind (wpAny_standAt (wpAny_holding (d_dictSetT (X := X.blk s H scope (compEnvC scope cl C X.env) fp) hu I5 eD hz ea r5 fun s4 I6 => ⟨_, I6, nx⟩)))
/-- the second clause's start -/
theorem compStart1_dict {prog : Program} {w : World} {A : Around} {R : Result → Shared → Prop} {s : Shared} {kx vx t0 i0 t1 i1 : Expr} {ifs0 ifs1 : List Expr} {scope : Scope} {pos : PySem.Pos} {it acc : Value} {env : Env}
    (h0 : codeAny (model prog w) A (.compLoop (.DictComp kx vx [⟨t0, i0, ifs0, 0⟩, ⟨t1, i1, ifs1, 0⟩] scope pos) 1 it acc env) R s)
    (h : wpAny (model prog w) A (pyIter it) (fun it' s' => codeAny (model prog w) A (.compLoop (.DictComp kx vx [⟨t0, i0, ifs0, 0⟩, ⟨t1, i1, ifs1, 0⟩] scope pos) 1 it' acc env) R s')
      (notedBy (model prog w) A env fun x s' => R (.error x) s') s) :
    codeAny (model prog w) A (.compStart (.DictComp kx vx [⟨t0, i0, ifs0, 0⟩, ⟨t1, i1, ifs1, 0⟩] scope pos) 1 it acc env) R s := by
  refine codeAny_of_tree ?_
  show wpAny _ _ ((compStart (.DictComp kx vx [⟨t0, i0, ifs0, 0⟩, ⟨t1, i1, ifs1, 0⟩] scope pos) 1 it acc env).onRaise (fun x => do noteFrame x env; standAt theWindowsPlace)) _ _ s
  refine wpAny_notedAt ?_
  unfold compStart
  show wpAny _ _ (ask >>= _) _ _ s
  refine wpAny_bind (wpAny_askSetting (wpAny_ite ?_))
  split
  · first
      | exact wpAny_bind (wpAny_pure (wpAny_pure (And.intro rfl h0)))
      | exact wpAny_pure (And.intro rfl h0)
  · first
      | exact wpAny_bind (wpAny_rule (wpAny_bind (wpAny_standAt (wpAny_bind (wpAny_mono h (fun it' s' h' => wpAny_pure (And.intro rfl h')) fun _ _ x => x)))))
      | (refine wpAny_bind (wpAny_rule ?_); show wpAny _ _ (standAt i1.pos >>= _) _ _ s; exact wpAny_bind (wpAny_standAt (wpAny_bind (wpAny_mono h (fun it' s' h' => wpAny_pure (And.intro rfl h')) fun _ _ x => x))))
theorem eq_d1 {kx vx tg iter : Expr} {ifs : List Expr} {scope : Scope} {pos : PySem.Pos} : Eq1 (.DictComp kx vx [⟨tg, iter, ifs, 0⟩] scope pos) 0 tg iter ifs (bdD kx vx) := fun _ _ _ => by rfl
theorem eq_d20 {kx vx tg iter tg1 iter1 : Expr} {ifs ifs1 : List Expr} {scope : Scope} {pos : PySem.Pos} : Eq0 (.DictComp kx vx [⟨tg, iter, ifs, 0⟩, ⟨tg1, iter1, ifs1, 0⟩] scope pos) tg iter ifs iter1 := fun _ _ _ => by rfl
theorem eq_d21 {kx vx tg iter tg1 iter1 : Expr} {ifs ifs1 : List Expr} {scope : Scope} {pos : PySem.Pos} : Eq1 (.DictComp kx vx [⟨tg, iter, ifs, 0⟩, ⟨tg1, iter1, ifs1, 0⟩] scope pos) 1 tg1 iter1 ifs1 (bdD kx vx) := fun _ _ _ => by rfl
/-- dict comprehensions with tuple keys -/
def tDcT (wi : TI) (g : TG) (tt : TT) (tk tv : TE) (vs : List Nat) : TE := fun σ H Q => wi σ H fun J H1 => ∀ D, H1 D = none → ∃ W : Nat → Nat → Hp → Prop, (∃ m, W 0 m (upd H1 D (.dT []))) ∧ ∀ i m H, W i m H →
  (J.stop i H ∧ Q (.ref D) H) ∨ (J.go i H ∧ ∃ Nx : Hp → Prop, (∀ H', Nx H' → ∃ m', m' < m ∧ W (i + 1) m' H') ∧ ∀ x H', J.yld i H x H' → g x (wipe σ vs) H' fun σ2 H2 => wipe σ2 vs = wipe σ vs ∧ tt σ2 H2 fun b H3 =>
    if b = true then tk σ2 H3 fun y H4 => tv σ2 H4 fun z H5 => ∃ kvs k a, y = .ref a ∧ H5 a = some (.tup (k.map kV)) ∧ H5 D = some (.dT kvs) ∧ kvs.length < sizeLine ∧ Nx (upd H5 D (.dT (putK kvs k z))) else Nx H3)
theorem pe_dcT {kx vx tg iter : Expr} {ifs : List Expr} {scope : Scope} {own : List (Str × Nat)} {pos : PySem.Pos} {wi : TI} {g : TG} {tt : TT} {tk tv : TE} (hc : X.calm = true) (hu : X.A.units + 64 < cLine) (hN : X.N.Nodup) (hi : PI X tg iter wi) (ok : BlkOk X.N X.env.scope scope own)
    (hg : BlkPG X scope tg g) (ht : BlkPTs X scope ifs tt) (hk : BlkPE X scope kx tk) (he : BlkPE X scope vx tv) (hs : ∀ x, foldedSetIterable iter X.env x = pure x := by intro _; rfl) :
    PE X (.DictComp kx vx [⟨tg, iter, ifs, 0⟩] scope pos) (tDcT wi g tt tk tv (own.map (·.2))) := by
  refine ⟨fun pins s σ H Q I h => ?_⟩
  rw [arm_eval_DictComp]
  refine c1_core (u0 := fun _ => .dT []) (tb := tbDT tk tv) (bd := bdD kx vx) (o0 := { cls := .type "dict", data := .dict #[] }) hc hN I hi ok hg ht (bd_dT (by omega) hk he) hs rfl (fun h => wpAny_newObj_type h) (fun H h hb => dt_empty h hb) (fun h0 h => codeAny_compStart_dict h0 h) (fun _ _ _ _ => ⟨rfl, rfl⟩) eq_d1 h fun D C s' m H' I' q hn f => ⟨m, hn, fun h'' sb => ?_⟩
  obtain ⟨f0, f1, f2, f3, f4, f5⟩ := f
  exact ⟨.ref D, H', I'.turned (t' := s'.toks) (fun b o hb e => (sb.2 b hb).trans e) f0 f1 f3 f4 f5, rfl, q⟩
theorem ps_setDcT {i : Nat} {y : Str} {py : PySem.Pos} {kx vx tg iter : Expr} {ifs : List Expr} {scope : Scope} {own : List (Str × Nat)} {pos spos : PySem.Pos} {wi : TI} {g : TG} {tt : TT} {tk tv : TE} (hc : X.calm = true) (hu : X.A.units + 64 < cLine) (hN : X.N.Nodup) (hy : X.N[i]? = some y) (hyl : X.env.scope.names.lookup y = some .local)
    (hsw : swapsWith (.DictComp kx vx [⟨tg, iter, ifs, 0⟩] scope pos) (some (.Name y py)) spos.line X.env = pure true) (hi : PI X tg iter wi) (ok : BlkOk X.N X.env.scope scope own)
    (hg : BlkPG X scope tg g) (ht : BlkPTs X scope ifs tt) (hk : BlkPE X scope kx tk) (he : BlkPE X scope vx tv) (hs : ∀ x, foldedSetIterable iter X.env x = pure x := by intro _; rfl) :
    PS X (.Assign [.Name y py] (.DictComp kx vx [⟨tg, iter, ifs, 0⟩] scope pos) spos) (tAsg (tDcT wi g tt tk tv (own.map (·.2))) (gName i)) := by
  refine ⟨fun pins s σ H D I h => ?_⟩
  rw [exec_Assign_Name_used _ _ _ _ hsw]
  refine wpAny_bind (wpAny_standAt (wpAny_bind ?_))
  show wpAny _ X.A (do let _ ← comprehension (.DictComp kx vx [⟨tg, iter, ifs, 0⟩] scope pos) scope X.env (firstIterPos [⟨tg, iter, ifs, 0⟩] pos) newDict false (eval iter X.env) (some (assign (.Name y py) X.env))) _ _ s
  have h : tC1 (fun _ => HO.dT []) (tbDT tk tv) wi g tt (own.map (·.2)) σ H (fun x H1 => gName i x σ H1 D.nx) := h
  refine wpAny_bind (thn (c1_core (Qf := fun _ s' => SP X pins D .next s') (u0 := fun _ => .dT []) (tb := tbDT tk tv) (bd := bdD kx vx) (o0 := { cls := .type "dict", data := .dict #[] }) hc hN I hi ok hg ht (bd_dT (by omega) hk he) hs rfl (fun h => wpAny_newObj_type h) (fun H h hb => dt_empty h hb) (fun h0 h => codeAny_compStart_dict h0 h) (fun _ _ _ _ => ⟨rfl, rfl⟩) eq_d1 h fun L C s' m H' I' q hn f => ?_) fun _ s' hq => wpAny_pure (wpAny_pure hq))
  show wpAny _ _ (assign (.Name y py) X.env (.ref L)) _ _ _
  refine wpAny_assign_Name (store_ok2 (v := V.ref L) I' hN hy (.inl hyl) rfl (fun s2 I2 ⟨a, sb, ha⟩ => ?_) (.inr hyl))
  obtain ⟨f0, f1, f2, f3, f4, f5⟩ := f
  have haC : C ≠ a := by
    rcases ha with z | z
    · rw [z]; exact f1
    · exact fun e => f4 y a z e.symm
  refine ⟨m, hn.sameBut sb haC, fun h3 sb3 => ?_⟩
  exact ⟨_, H', I2.turned (t' := s2.toks) (fun b o hb e => (sb3.2 b hb).trans e) f0 f1 f3 f4 f5, q⟩
/-- two clauses -/
def tDcT2 (wi : TI) (g : TG) (tt : TT) (wi1 : TI) (g1 : TG) (tt1 : TT) (tk tv : TE) (vs vs1 : List Nat) : TE := fun σ H Q => wi σ H fun J H1 => ∀ D, H1 D = none → ∃ W : Nat → Nat → Hp → Prop, (∃ m, W 0 m (upd H1 D (.dT []))) ∧ ∀ i m H, W i m H →
  (J.stop i H ∧ Q (.ref D) H) ∨ (J.go i H ∧ ∃ Nx : Hp → Prop, (∀ H', Nx H' → ∃ m', m' < m ∧ W (i + 1) m' H') ∧ ∀ x H', J.yld i H x H' → g x (wipe σ vs) H' fun σ2 H2 => wipe σ2 vs = wipe σ vs ∧ tt σ2 H2 fun b H3 =>
    if b = true then wi1 σ2 H3 fun J1 H4 => ∃ W1 : Nat → Nat → Hp → Prop, (∃ m, W1 0 m H4) ∧ ∀ j k H, W1 j k H → (J1.stop j H ∧ Nx H) ∨ (J1.go j H ∧ ∃ Nx1 : Hp → Prop, (∀ H', Nx1 H' → ∃ k', k' < k ∧ W1 (j + 1) k' H') ∧ ∀ x H', J1.yld j H x H' →
      g1 x (wipe σ2 vs1) H' fun σ3 H5 => wipe σ3 vs1 = wipe σ2 vs1 ∧ tt1 σ3 H5 fun b H6 => if b = true then tk σ3 H6 fun y H7 => tv σ3 H7 fun z H8 => ∃ kvs k a, y = .ref a ∧ H8 a = some (.tup (k.map kV)) ∧ H8 D = some (.dT kvs) ∧ kvs.length < sizeLine ∧ Nx1 (upd H8 D (.dT (putK kvs k z))) else Nx1 H6)
    else Nx H3)
theorem pe_dcT2 {kx vx tg iter tg1 iter1 : Expr} {ifs ifs1 : List Expr} {scope : Scope} {own : List (Str × Nat)} {vs1 : List Nat} {pos : PySem.Pos} {wi wi1 : TI} {g g1 : TG} {tt tt1 : TT} {tk tv : TE} (hc : X.calm = true) (hu : X.A.units + 64 < cLine) (hN : X.N.Nodup) (hi : PI X tg iter wi) (ok : BlkOk X.N X.env.scope scope own)
    (hg : BlkPG X scope tg g) (ht : BlkPTs X scope ifs tt) (hv : ∀ i ∈ vs1, i ∈ own.map (·.2)) (hi1 : BlkPI X scope tg1 iter1 wi1) (hg1 : BlkPG X scope tg1 g1) (ht1 : BlkPTs X scope ifs1 tt1) (hk : BlkPE X scope kx tk) (he : BlkPE X scope vx tv)
    (hs : ∀ x, foldedSetIterable iter X.env x = pure x := by intro _; rfl) (hs1 : ∀ env x, foldedSetIterable iter1 env x = pure x := by intro _ _; rfl) :
    PE X (.DictComp kx vx [⟨tg, iter, ifs, 0⟩, ⟨tg1, iter1, ifs1, 0⟩] scope pos) (tDcT2 wi g tt wi1 g1 tt1 tk tv (own.map (·.2)) vs1) := by
  refine ⟨fun pins s σ H Q I h => ?_⟩
  rw [arm_eval_DictComp]
  refine c2_core (u0 := fun _ => .dT []) (tb := tbDT tk tv) (bd := bdD kx vx) (o0 := { cls := .type "dict", data := .dict #[] }) hc hN I hi ok hv hg ht (bd_dT (by omega) hk he) hs hi1 hg1 ht1 hs1 rfl (fun h => wpAny_newObj_type h) (fun H h hb => dt_empty h hb) (fun h0 h => codeAny_compStart_dict h0 h) (fun h0 h => compStart1_dict h0 h) (fun _ _ _ _ => ⟨rfl, rfl⟩) (fun _ _ _ _ => ⟨rfl, rfl⟩) eq_d20 eq_d21 h fun D C s' m H' I' q hn f => ⟨m, hn, fun h'' sb => ?_⟩
  obtain ⟨f0, f1, f2, f3, f4, f5⟩ := f
  exact ⟨.ref D, H', I'.turned (t' := s'.toks) (fun b o hb e => (sb.2 b hb).trans e) f0 f1 f3 f4 f5, rfl, q⟩
end
end K7
end

section
set_option Elab.async false
set_option linter.all false
set_option maxRecDepth 100000
namespace K7
open PySem PySem.Spec PyProof.Rows L2 SlX
/-! ### sets of texts -/
def txtK (e : Int × Value) : Str := match e.2 with | .str k _ => k | _ => ""
def GoodS (w : World) (e : Int × Value) : Prop := ∃ k u, e.2 = Value.str k u ∧ e.1 = hashStr w k
/-- the set of texts at a: S its members, n their number; its table rises and can be walked -/
def SetT (w : World) (h : Heap) (a : Addr) (S : Str → Bool) (n : Nat) : Prop :=
  ∃ o es ep t, h.get? a = some o ∧ o.ExactSet ∧ o.data = .set es ep t ∧ (∀ e ∈ es.toList, GoodS w e) ∧ (es.toList.map txtK).Nodup ∧ (∀ k, S k = true ↔ k ∈ es.toList.map txtK) ∧
    es.size < scanBound ∧ t.fits es.size = true ∧ es.size = n ∧ Ris t.place.toList ∧ (w.params.followText "set-order" = true ∨ t.led = true)
section
variable {P : Program} {w : World} {h h' : Heap} {a : Addr} {S : Str → Bool} {n : Nat}
theorem SetT.at (R : SetT w h a S n) (k : ∀ o, h.get? a = some o → h'.get? a = some o) : SetT w h' a S n := by
  obtain ⟨o, es, ep, t, ho, r⟩ := R
  exact ⟨o, es, ep, t, k o ho, r⟩
theorem sk_is (P : Program) (w : World) (k : Str) (u : Tok) : (strKind P w).is k (.str k u) = true := by
  show Value.isStrOf k (.str k u) = true
  simp [Value.isStrOf]
theorem goodS_elems {l : List (Int × Value)} (g : ∀ e ∈ l, GoodS w e) : ElemsOf (strKind P w) l := fun e he => by
  obtain ⟨k, tk, h1, h2⟩ := g e he
  exact ⟨⟨k, by rw [h1]; exact sk_is P w k tk, h2⟩, by rw [h1] <;> rfl⟩
theorem goodS_is {e : Int × Value} (g : GoodS w e) (k : Str) : (strKind P w).is k e.2 = true ↔ txtK e = k := by
  obtain ⟨k0, tk, h1, _⟩ := g
  unfold txtK
  rw [h1]
  show Value.isStrOf k (.str k0 tk) = true ↔ k0 = k
  simp [Value.isStrOf]
theorem goodS_mem {l : List (Int × Value)} (g : ∀ e ∈ l, GoodS w e) (k : Str) : k ∈ l.map txtK ↔ ∃ e ∈ l, (strKind P w).is k e.2 = true := by
  rw [List.mem_map]
  constructor
  · rintro ⟨e, he, q⟩
    exact ⟨e, he, (goodS_is (g e he) k).2 q⟩
  · rintro ⟨e, he, q⟩
    exact ⟨e, he, (goodS_is (g e he) k).1 q⟩
theorem SetT.setOf (R : SetT w h a S n) : h.SetOf (strKind P w) a S n := by
  obtain ⟨o, es, ep, t, ho, hx, hd, g, nd, hm, hb, hf, hn, _⟩ := R
  exact ⟨o, es, ep, t, ho, hx, hd, goodS_elems g, fun k => (hm k).trans (goodS_mem g k), hb, hf, hn⟩
end
section
variable {P : Program} {w : World} {A : Around} {E : Value → Shared → Prop} {s : Shared} {a : Addr} {S : Str → Bool} {n : Nat}
theorem setT_add_tail {g : Bool → Sem Unit} (hg : ∀ (b : Bool) (s₁ : Shared) (Q' : Unit → Shared → Prop), Q' () s₁ → wpAny (model P w) A (g b) Q' E s₁)
    {o : Obj} {es : Array (Int × Value)} {ep : Nat} {t : SetTable} (ho : s.heap.get? a = some o) (hex : o.ExactSet) (hd : o.data = .set es ep t)
    {es1 : Array (Int × Value)} {t2 : SetTable} {S' : Str → Bool} (g1 : ∀ e ∈ es1.toList, GoodS w e) (nd1 : (es1.toList.map txtK).Nodup) (m1 : ∀ k, S' k = true ↔ k ∈ es1.toList.map txtK)
    (hb1 : es1.size < scanBound) (hf2 : t2.fits es1.size = true) (hr : Ris t2.place.toList) (hl : w.params.followText "set-order" = true ∨ t2.led = true) {wasDummy : Bool} {R : Option Bool → Shared → Prop}
    (hR : ∀ h', Heap.SameBut a s.heap h' → SetT w h' a S' es1.size → R (some true) { s with heap := h' }) :
    wpAny (model P w) A (do
        storeSet a es1 t2
        if (!wasDummy && t2.tooFull) = true then do
            g (relayAll t2 es1 (SetTable.grown es1.size)).2.2
            storeSet a (relayAll t2 es1 (SetTable.grown es1.size)).1 (relayAll t2 es1 (SetTable.grown es1.size)).2.1
            pure (some true)
          else pure (some true)) R E s := by
  refine wpAny_bind (wpAny_storeSet_of ho hd ?_ (fits_of_scanBound hb1))
  have ho1 := store_at (es' := es1) (t' := t2) ho hd
  have sb1 := Heap.SameBut.update s.heap a (Obj.putSet es1 t2)
  split
  · have pm := relayAll_perm t2 es1 (SetTable.grown es1.size)
    have hf3 := relayAll_fits t2 es1 (SetTable.grown es1.size)
    have hr3 := relayAll_ris t2 es1 (SetTable.grown es1.size)
    have hl3 := relayAll_led t2 es1 (SetTable.grown es1.size)
    generalize relayAll t2 es1 (SetTable.grown es1.size) = Z at pm hf3 hr3 hl3 ⊢
    obtain ⟨es2, t3, gave⟩ := Z
    dsimp only at pm hf3 hr3 hl3 ⊢
    have hsz : es2.size = es1.size := by rw [← Array.length_toList, pm.length_eq, Array.length_toList]
    have hb2 : es2.size < scanBound := by rw [hsz]; exact hb1
    refine wpAny_bind (hg _ _ _ ?_)
    refine wpAny_bind (wpAny_storeSet_of ho1 rfl ?_ (fits_of_scanBound hb2))
    have ho2 := store_at (es' := es2) (t' := t3) ho1 rfl
    refine wpAny_pure (hR _ (sb1.trans (Heap.SameBut.update _ a _)) ?_)
    exact ⟨_, es2, _, t3, ho2, hex, rfl, fun e he => g1 e (pm.mem_iff.mp he), (pm.map txtK).nodup_iff.mpr nd1, fun k => (m1 k).trans (pm.map txtK).mem_iff.symm, hb2, hf3, hsz, hr3,
      hl.imp id fun z => by rw [hl3]; exact z⟩
  · exact wpAny_pure (hR _ sb1 ⟨_, es1, _, t2, ho1, hex, rfl, g1, nd1, m1, hb1, hf2, rfl, hr, hl⟩)

theorem setT_add_hashed {k : Str} {tk : Tok} {Q : Bool → Shared → Prop} (R : SetT w s.heap a S n) (room : n + 1 < scanBound)
    (hQ : ∀ h', Heap.SameBut a s.heap h' → SetT w h' a (fun j => S j || decide (j = k)) (if S k = true then n else n + 1) → Q (!S k) { s with heap := h' }) :
    wpAny (model P w) A (setAddHashed a (.str k tk) ((strKind P w).hash k)) Q E s := by
  obtain ⟨o, es, ep, t, ho, hex, hd, g, nd, hm, hb, hf, hn, hr, hl⟩ := R
  have hkey : (strKind P w).is k (.str k tk) = true := sk_is P w k tk
  have hsc : (Value.str k tk).scannable = true := rfl
  have hel : ElemsOf (strKind P w) es.toList := goodS_elems g
  unfold setAddHashed setAddHashedIn
  refine wpAny_holding (wpAny_bind (wpAny_setState_of ho hd hf ?_))
  dsimp only
  rw [byScan_of hsc hb hel]
  simp only [↓reduceIte]
  unfold setAddByScan
  refine wpAny_bind ?_
  refine wpAny_bind (wpAny_rule ?_)
  refine wpAny_bind (wpAny_setScan_of hkey ho hd hf hel ?_)
  cases hfi : List.findIdx? (fun e => (strKind P w).is k e.2) es.toList with
  | some j =>
    dsimp only
    obtain ⟨hj, pj, _⟩ := List.findIdx?_eq_some_iff_getElem.mp hfi
    have hSk : S k = true := (hm k).2 ((goodS_mem (P := P) (w := w) g k).2 ⟨es.toList[j], List.getElem_mem hj, pj⟩)
    refine wpAny_pure (wpAny_pure ?_)
    have q := hQ s.heap (Heap.SameBut.refl a s.heap) ⟨o, es, ep, t, ho, hex, hd, g, nd, fun i => by
      rw [Bool.or_eq_true, decide_eq_true_eq, ← hm i]
      exact ⟨fun z => z.elim id (fun e => e ▸ hSk), .inl⟩, hb, hf, by rw [if_pos hSk]; exact hn, hr, hl⟩
    rw [hSk] at q
    exact q
  | none =>
    dsimp only
    have hnk : k ∉ es.toList.map txtK := fun z => by
      obtain ⟨e, he, q⟩ := (goodS_mem (P := P) (w := w) g k).1 z
      have c := List.findIdx?_eq_none_iff.mp hfi e he
      rw [q] at c
      cases c
    have hSk : S k = false := by
      cases q : S k with
      | false => rfl
      | true => exact absurd ((hm k).1 q) hnk
    have hgw : ∀ (b : Bool) {s₁ : Shared} {Q' : Unit → Shared → Prop}, Q' () s₁ → wpAny (model P w) A (match b with | true => rule "set.scan.the-table-gave-way" | false => pure ()) Q' E s₁ :=
      fun b s₁ Q' q => by cases b <;> first | exact wpAny_pure q | exact wpAny_rule q
    have pm := layNew_perm t es ((strKind P w).hash k) (.str k tk)
    have hf1 := layNew_fits t es ((strKind P w).hash k) (.str k tk)
    have hr1 := layNew_ris t es ((strKind P w).hash k) (.str k tk) hr
    have hl1 := layNew_led t es ((strKind P w).hash k) (.str k tk)
    generalize layNew t es ((strKind P w).hash k) (.str k tk) = Z at pm hf1 hr1 hl1 ⊢
    obtain ⟨es1, t1, wasDummy, gave⟩ := Z
    dsimp only at pm hf1 hr1 hl1 ⊢
    rw [Array.toList_push] at pm
    have pc : es1.toList.Perm (((strKind P w).hash k, Value.str k tk) :: es.toList) := pm.trans (List.perm_append_singleton _ _)
    have pk : (es1.toList.map txtK).Perm (k :: es.toList.map txtK) := pc.map txtK
    have g1 : ∀ e ∈ es1.toList, GoodS w e := fun e he => by
      rcases List.mem_cons.mp (pc.mem_iff.mp he) with z | z
      · rw [z]; exact ⟨k, tk, rfl, rfl⟩
      · exact g e z
    have nd1 : (es1.toList.map txtK).Nodup := pk.nodup_iff.mpr (List.nodup_cons.mpr ⟨hnk, nd⟩)
    have m1 : ∀ i, (S i || decide (i = k)) = true ↔ i ∈ es1.toList.map txtK := fun i => by
      rw [Bool.or_eq_true, decide_eq_true_eq, hm i, pk.mem_iff, List.mem_cons]
      exact Or.comm
    have hsz : es1.size = n + 1 := by rw [← Array.length_toList, pc.length_eq, List.length_cons, Array.length_toList, hn]
    have hb1 : es1.size < scanBound := by rw [hsz]; exact room
    have hled : w.params.followText "set-order" = true ∨ t1.led = true := hl.imp id fun z => by rw [hl1]; exact z
    have fin : ∀ h', Heap.SameBut a s.heap h' → SetT w h' a (fun j => S j || decide (j = k)) es1.size → Q true { s with heap := h' } := fun h' sb r => by
      have q := hQ h' sb
      rw [hSk] at q
      rw [hsz] at r
      exact q r
    refine wpAny_bind (hgw _ ?_)
    split
    · refine wpAny_bind ?_
      rw [hashByValue_scannable 8 hsc]
      refine wpAny_pure ?_
      refine setT_add_tail ?_ ho hex hd g1 nd1 m1 hb1 ?_ ?_ ?_ ?_
      · intro b s₁ Q' q; cases b <;> first | exact wpAny_pure q | exact wpAny_rule q
      · first | (split <;> first | exact hf1 | exact SetTable.fits_plain_off hf1) | exact hf1
      · first | (split <;> exact hr1) | exact hr1
      · first | (split <;> exact hled) | exact hled
      · intro h' sb r; dsimp only; exact wpAny_pure (fin h' sb r)
    · refine wpAny_bind (wpAny_pure ?_)
      simp only [↓reduceIte]
      refine setT_add_tail ?_ ho hex hd g1 nd1 m1 hb1 hf1 hr1 hled ?_
      · intro b s₁ Q' q; cases b <;> first | exact wpAny_pure q | exact wpAny_rule q
      · intro h' sb r; dsimp only; exact wpAny_pure (fin h' sb r)

/-- found.add(k) -/
theorem setT_add {k : Str} {tk : Tok} {Q : Value → Shared → Prop} (R : SetT w s.heap a S n) (room : n + 1 < scanBound)
    (hQ : ∀ h', Heap.SameBut a s.heap h' → SetT w h' a (fun j => S j || decide (j = k)) (if S k = true then n else n + 1) → Q .none { s with heap := h', toks := s.toks + 1 }) :
    wpAny (model P w) A (call (.builtin "set.add") [.ref a, .str k tk]) Q E s := by
  have hS : s.heap.SetOf (strKind P w) a S n := R.setOf
  refine wpAny_call_entry F.slot_set_add hS.typeIs F.entry_set_add ?_ (F.args_set_add_2 _ _)
  unfold Builtin.«set.add» Builtin.Frozenset.oneOther
  simp only [List.isEmpty_nil, bind_assoc]
  unfold Builtin.Frozenset.addrOf setAdd
  refine wpAny_bind (wpAny_pure ?_)
  try dsimp only
  refine wpAny_bind (wpAny_pure ?_)
  try dsimp only
  refine wpAny_bind ?_
  refine wpAny_holding ?_
  refine wpAny_bind ((strKind P w).pyHash (sk_is P w k tk) ?_)
  refine setT_add_hashed (s := { s with toks := s.toks + 1 }) R room fun h' sb r => ?_
  show wpAny _ _ (ret Value.none) _ _ _
  exact wpAny_pure ⟨_, rfl, hQ h' sb r⟩

end
theorem setT_fresh {h : Heap} (w : World) : SetT w (h.push { cls := .type "set", dict := none, data := .set #[] 0 (.fresh 0 0 (!w.params.followText "set-order")) }) h.objs.size (fun _ => false) 0 :=
  ⟨_, #[], 0, _, Heap.get?_push_size _ rfl, ⟨rfl, rfl, rfl⟩, rfl, (fun e he => by simp at he), (by simp), (fun k => by simp), (by decide), (by rfl), rfl, List.Pairwise.nil, by
    show _ ∨ (!w.params.followText "set-order") = true
    cases w.params.followText "set-order"
    · exact .inr rfl
    · exact .inl rfl⟩
/-- the set of the texts l -/
def SetSO (w : World) (a : Addr) (l : List Str) : HO := .ext fun h => ∃ S n, (∀ k, S k = true ↔ k ∈ l) ∧ n ≤ l.length ∧ SetT w h a S n
section
variable {X : Cx}
theorem setSO_new {w : World} {P : Program} {H : Hp} {h : Heap} {a : Addr} {l : List Str} {S : Str → Bool} {n : Nat} (R : SetT w h a S n) (hS : ∀ k, S k = true ↔ k ∈ l) (hn : n ≤ l.length) : ObjOk P w H h a (SetSO w a l) := by
  have ⟨o, _, _, _, ho, _⟩ := R
  exact ⟨⟨S, n, hS, hn, R⟩, ⟨o, ho⟩, fun h1 h2 p k => let ⟨S, n, a1, a2, a3⟩ := p; ⟨S, n, a1, a2, SetT.at a3 k⟩⟩
theorem setSO_get {pins : List (Addr × Obj)} {σ : L2.St} {H : Hp} {s : Shared} {a : Addr} {l : List Str} (I : Inv X pins σ H s) (ha : H a = some (SetSO X.w a l)) : ∃ S n, (∀ k, S k = true ↔ k ∈ l) ∧ n ≤ l.length ∧ SetT X.w s.heap a S n := (I.hok a _ ha).1
theorem addS_ok {pins : List (Addr × Obj)} {σ : L2.St} {H : Hp} {s : Shared} {E : Value → Shared → Prop} {D : Addr} {l : List Str} {y : Str} {tk : Tok} {Q : Value → Shared → Prop} (I : Inv X pins σ H s) (hD : H D = some (SetSO X.w D l)) (room : l.length < 4000)
    (h : ∀ s', Inv X pins σ (upd H D (SetSO X.w D (y :: l))) s' → Q .none s') : wpAny (model X.prog X.w) X.A (call (.builtin "set.add") [.ref D, .str y tk]) Q E s := by
  obtain ⟨S, n, hS, hn, R⟩ := setSO_get I hD
  refine setT_add R (by unfold scanBound; omega) fun h' sb new => ?_
  have he : ∃ u, h'.get? D = some u := by
    have ⟨o, _, _, _, ho, _⟩ := new
    exact ⟨o, ho⟩
  refine h _ (I.write (e := D) (t' := s.toks + 1) (by rw [hD]; trivial) (.inl rfl) (fun b u hb hu => (sb.2 b hb).trans hu) he (setSO_new new (fun k => ?_) ?_))
  · rw [Bool.or_eq_true, decide_eq_true_eq, hS k, List.mem_cons]
    exact Or.comm
  · rw [List.length_cons]
    split <;> omega
def rSortedSetS (w : World) : List V → Hp → VK → Prop := fun vs H Q => ∃ (a : Addr) (l : List Str), vs = [V.ref a] ∧ H a = some (SetSO w a l) ∧ l.length < 64 ∧
  ∀ (ys : List Str) (p : Addr), ys.Nodup → (∀ k, k ∈ ys ↔ k ∈ l) → ys.length ≤ l.length → sortedS ys = true → H p = none → Q (.ref p) (upd H p (.lst (ys.map V.str)))
theorem strs_of : ∀ (l : List Value), (∀ v ∈ l, ∃ k tk, v = Value.str k tk) → ∃ ks, StrsAre l ks ∧ ks = l.map fun v => txtK (0, v)
  | [], _ => ⟨[], .nil, rfl⟩
  | v :: l, h => by
    obtain ⟨k, tk, rfl⟩ := h v List.mem_cons_self
    obtain ⟨ks, r, e⟩ := strs_of l fun u hu => h u (List.mem_cons_of_mem _ hu)
    exact ⟨k :: ks, .cons k tk r, by rw [List.map_cons, ← e]; rfl⟩
theorem cr_sortedSetS (hc : X.calm = true) : CallR X (.builtin "sorted") (rSortedSetS X.w) := by
  intro pins s σ H vs us Q I r h
  obtain ⟨a, l, rfl, ha, h64, q⟩ := h
  obtain ⟨S, n, hS, hnl, R⟩ := setSO_get I ha
  rw [Vals.ref1 r]
  obtain ⟨o, es, ep, t, ho, hex, hd, g, nd, hm, hb, hf, hn, hr, hl⟩ := R
  refine Calls.call_function_entry PyProof.Rows.kind_sorted PyProof.Rows.plain_sorted PyProof.Rows.entry_sorted (PyProof.Rows.args_sorted1 _) ?_
  unfold Builtin.«sorted»
  refine wpAny_bind (m := checkCount "sorted" 1 1 _) (wpAny_pure ?_)
  refine wpAny_bind (collect_set (A := X.A.in1) (I.ok.hd hc) ⟨o, ho, hex.1, hd⟩ hf hb hr hl fun s1 vs k1 hz g1 o1 pm => ?_)
  have hvl : vs.length = n := by rw [pm.length_eq, List.length_map, Array.length_toList]; exact hn
  obtain ⟨ks, hI, eks⟩ := strs_of vs fun v hv => by
    obtain ⟨e, he, q⟩ := List.mem_map.mp (pm.mem_iff.mp hv)
    obtain ⟨k, tk, h1, _⟩ := g e he
    exact ⟨k, tk, by rw [← q]; exact h1⟩
  have pk : ks.Perm (es.toList.map txtK) := by
    rw [eks]
    have q := pm.map fun v => txtK (0, v)
    rw [List.map_map] at q
    exact q
  have h64n : n < 64 := by omega
  refine wpAny_bind (wpAny_newList ?_ (by rw [hvl, sizeLine_eq]; omega))
  have hoL : (s1.heap.push (seqObj "list" vs.toArray 0)).get? s1.heap.objs.size = some (seqObj "list" vs.toArray 0) := Heap.get?_push_size _ rfl
  refine wpAny_bind (wpAny_holding (wpAny_call_entry PyProof.Rows.slot_list_sort ⟨_, hoL, rfl⟩ PyProof.Rows.entry_list_sort
    (list_sort_treeK strKind_oneLt hoL hI.keysOf (fun v₁ v₂ rest e => keyKind_strs (by rw [← e]; exact hI)) (by rw [hvl]; exact h64n) fun st' hp hs => ⟨_, rfl, ?_⟩) (PyProof.Rows.args_list_sort _)))
  obtain ⟨ys, b1, b2, b3⟩ := sorted_out_str hI hp hs
  obtain ⟨c, hc'⟩ := PyProof.Rows.sortedHeap_at (vs := vs) (out := (arrOf st').map (·.2)) hoL
  have pn : ys.Perm (es.toList.map txtK) := b2.trans pk
  have yl : ys.length = n := by rw [pn.length_eq, List.length_map, Array.length_toList]; exact hn
  have hlen : (ys.map V.str).length ≤ sizeLine := by rw [List.length_map, yl, sizeLine_eq]; omega
  have hn' : H s1.heap.objs.size = none := I.hok.fresh hz
  have k : ∀ b u, s.heap.get? b = some u → (PyProof.Rows.sortedHeap (s1.heap.push (seqObj "list" vs.toArray 0)) s1.heap.objs.size vs ((arrOf st').map (·.2))).get? b = some u := fun b u e => by
    have q := k1 b u e
    have hlt := Heap.lt_size q
    rw [PyProof.Rows.sortedHeap_old (Nat.ne_of_lt hlt) (by rw [size_push']; exact Nat.lt_succ_of_lt hlt)]
    exact Heap.get?_push_of_some _ q
  have J : Inv X pins σ (upd H s1.heap.objs.size (.lst (ys.map V.str))) { s with heap := PyProof.Rows.sortedHeap (s1.heap.push (seqObj "list" vs.toArray 0)) s1.heap.objs.size vs ((arrOf st').map (·.2)), gens := s1.gens, drawn := s1.drawn, toks := s1.toks } :=
    I.call (ch := []) (Un.laid k hz hn') (I.hok.laid k hz ⟨hlen, ((arrOf st').map (·.2)).toList, c, vals_of_strs b1, by rw [Array.toArray_toList]; exact hc'⟩) (by rw [g1]; exact I.bare) (fun _ z => nomatch z)
  have e : ({ s1 with heap := PyProof.Rows.sortedHeap (s1.heap.push (seqObj "list" vs.toArray 0)) s1.heap.objs.size vs ((arrOf st').map (·.2)) } : Shared) = { s with heap := PyProof.Rows.sortedHeap (s1.heap.push (seqObj "list" vs.toArray 0)) s1.heap.objs.size vs ((arrOf st').map (·.2)), gens := s1.gens, drawn := s1.drawn, toks := s1.toks } := by
    cases s1
    cases s
    cases o1
    rfl
  refine wpAny_pure ⟨_, rfl, ?_⟩
  show EP X pins σ Q (.ref s1.heap.objs.size) { s1 with heap := PyProof.Rows.sortedHeap (s1.heap.push (seqObj "list" vs.toArray 0)) s1.heap.objs.size vs ((arrOf st').map (·.2)) }
  rw [e]
  exact ⟨.ref s1.heap.objs.size, _, J, rfl, q ys _ (pn.nodup_iff.mpr nd) (fun k => by rw [pn.mem_iff, ← hm k, hS k]) (by omega) b3 hn'⟩
/-! ### the comprehension -/
def bdS (ex : Expr) : Env → Value → Sem Unit := fun env acc => do
  let v ← eval ex env
  standAt ex.pos
  let _ ← call (.builtin "set.add") [acc, v]
def tbS (w : World) (te : TE) : Addr → L2.St → Hp → (Hp → Prop) → Prop := fun D σ H Nx => te σ H fun y H7 => ∃ c l, y = .str c ∧ H7 D = some (SetSO w D l) ∧ l.length < 4000 ∧ Nx (upd H7 D (SetSO w D (c :: l)))
theorem bd_S {scope : Scope} {ex : Expr} {te : TE} (he : BlkPE X scope ex te) : BlkBd X scope (bdS ex) (tbS X.w te) := by
  intro s H C cl fp pins s1 σ1 H1 D Nx E I h
  show wpAny (model X.prog X.w) X.A (do
    let v ← eval ex (compEnvC scope cl C X.env)
    standAt ex.pos
    let _ ← call (.builtin "set.add") [.ref D, v]) _ _ _
  refine wpAny_bind (thnF ((he s H C cl fp).run pins s1 σ1 H1 _ I h) fun u s2 ⟨y, H4, I4, r4, c, l, ey, eD, hz, nx⟩ => ?_)
  subst ey
  obtain ⟨tk, rfl⟩ := r4
  exact wpAny_bind (wpAny_standAt (wpAny_bind (addS_ok (X := X.blk s H scope (compEnvC scope cl C X.env) fp) I4 eD hz fun s4 I6 => wpAny_pure ⟨_, I6, nx⟩)))
theorem compStart1_set {prog : Program} {w : World} {A : Around} {R : Result → Shared → Prop} {s : Shared} {ex t0 i0 t1 i1 : Expr} {ifs0 ifs1 : List Expr} {scope : Scope} {pos : PySem.Pos} {it acc : Value} {env : Env}
    (h0 : codeAny (model prog w) A (.compLoop (.SetComp ex [⟨t0, i0, ifs0, 0⟩, ⟨t1, i1, ifs1, 0⟩] scope pos) 1 it acc env) R s)
    (h : wpAny (model prog w) A (pyIter it) (fun it' s' => codeAny (model prog w) A (.compLoop (.SetComp ex [⟨t0, i0, ifs0, 0⟩, ⟨t1, i1, ifs1, 0⟩] scope pos) 1 it' acc env) R s')
      (notedBy (model prog w) A env fun x s' => R (.error x) s') s) :
    codeAny (model prog w) A (.compStart (.SetComp ex [⟨t0, i0, ifs0, 0⟩, ⟨t1, i1, ifs1, 0⟩] scope pos) 1 it acc env) R s := by
  refine codeAny_of_tree ?_
  show wpAny _ _ ((compStart (.SetComp ex [⟨t0, i0, ifs0, 0⟩, ⟨t1, i1, ifs1, 0⟩] scope pos) 1 it acc env).onRaise (fun x => do noteFrame x env; standAt theWindowsPlace)) _ _ s
  refine wpAny_notedAt ?_
  unfold compStart
  show wpAny _ _ (ask >>= _) _ _ s
  refine wpAny_bind (wpAny_askSetting (wpAny_ite ?_))
  split
  · first
      | exact wpAny_bind (wpAny_pure (wpAny_pure (And.intro rfl h0)))
      | exact wpAny_pure (And.intro rfl h0)
  · first
      | exact wpAny_bind (wpAny_rule (wpAny_bind (wpAny_standAt (wpAny_bind (wpAny_mono h (fun it' s' h' => wpAny_pure (And.intro rfl h')) fun _ _ x => x)))))
      | (refine wpAny_bind (wpAny_rule ?_); show wpAny _ _ (standAt i1.pos >>= _) _ _ s; exact wpAny_bind (wpAny_standAt (wpAny_bind (wpAny_mono h (fun it' s' h' => wpAny_pure (And.intro rfl h')) fun _ _ x => x))))
theorem eq_s20 {ex tg iter tg1 iter1 : Expr} {ifs ifs1 : List Expr} {scope : Scope} {pos : PySem.Pos} : Eq0 (.SetComp ex [⟨tg, iter, ifs, 0⟩, ⟨tg1, iter1, ifs1, 0⟩] scope pos) tg iter ifs iter1 := fun _ _ _ => by rfl
theorem eq_s21 {ex tg iter tg1 iter1 : Expr} {ifs ifs1 : List Expr} {scope : Scope} {pos : PySem.Pos} : Eq1 (.SetComp ex [⟨tg, iter, ifs, 0⟩, ⟨tg1, iter1, ifs1, 0⟩] scope pos) 1 tg1 iter1 ifs1 (bdS ex) := fun _ _ _ => by rfl
/-- a set comprehension of texts, two clauses -/
def tSc2 (w : World) (wi : TI) (g : TG) (tt : TT) (wi1 : TI) (g1 : TG) (tt1 : TT) (te : TE) (vs vs1 : List Nat) : TE := fun σ H Q => wi σ H fun J H1 => ∀ D, H1 D = none → ∃ W : Nat → Nat → Hp → Prop, (∃ m, W 0 m (upd H1 D (SetSO w D []))) ∧ ∀ i m H, W i m H →
  (J.stop i H ∧ Q (.ref D) H) ∨ (J.go i H ∧ ∃ Nx : Hp → Prop, (∀ H', Nx H' → ∃ m', m' < m ∧ W (i + 1) m' H') ∧ ∀ x H', J.yld i H x H' → g x (wipe σ vs) H' fun σ2 H2 => wipe σ2 vs = wipe σ vs ∧ tt σ2 H2 fun b H3 =>
    if b = true then wi1 σ2 H3 fun J1 H4 => ∃ W1 : Nat → Nat → Hp → Prop, (∃ m, W1 0 m H4) ∧ ∀ j k H, W1 j k H → (J1.stop j H ∧ Nx H) ∨ (J1.go j H ∧ ∃ Nx1 : Hp → Prop, (∀ H', Nx1 H' → ∃ k', k' < k ∧ W1 (j + 1) k' H') ∧ ∀ x H', J1.yld j H x H' →
      g1 x (wipe σ2 vs1) H' fun σ3 H5 => wipe σ3 vs1 = wipe σ2 vs1 ∧ tt1 σ3 H5 fun b H6 => if b = true then te σ3 H6 fun y H7 => ∃ c l, y = .str c ∧ H7 D = some (SetSO w D l) ∧ l.length < 4000 ∧ Nx1 (upd H7 D (SetSO w D (c :: l))) else Nx1 H6)
    else Nx H3)
theorem pe_sc2 {ex tg iter tg1 iter1 : Expr} {ifs ifs1 : List Expr} {scope : Scope} {own : List (Str × Nat)} {vs1 : List Nat} {pos : PySem.Pos} {wi wi1 : TI} {g g1 : TG} {tt tt1 : TT} {te : TE} (hc : X.calm = true) (hN : X.N.Nodup) (hi : PI X tg iter wi) (ok : BlkOk X.N X.env.scope scope own)
    (hg : BlkPG X scope tg g) (ht : BlkPTs X scope ifs tt) (hv : ∀ i ∈ vs1, i ∈ own.map (·.2)) (hi1 : BlkPI X scope tg1 iter1 wi1) (hg1 : BlkPG X scope tg1 g1) (ht1 : BlkPTs X scope ifs1 tt1) (he : BlkPE X scope ex te)
    (hs : ∀ x, foldedSetIterable iter X.env x = pure x := by intro _; rfl) (hs1 : ∀ env x, foldedSetIterable iter1 env x = pure x := by intro _ _; rfl) :
    PE X (.SetComp ex [⟨tg, iter, ifs, 0⟩, ⟨tg1, iter1, ifs1, 0⟩] scope pos) (tSc2 X.w wi g tt wi1 g1 tt1 te (own.map (·.2)) vs1) := by
  refine ⟨fun pins s σ H Q I h => ?_⟩
  rw [PpSet.eval_SetComp]
  refine c2_core (u0 := fun D => SetSO X.w D []) (tb := tbS X.w te) (bd := bdS ex) (o0 := { cls := .type "set", dict := none, data := .set #[] 0 (.fresh 0 0 (!X.w.params.followText "set-order")) }) hc hN I hi ok hv hg ht (bd_S he) hs hi1 hg1 ht1 hs1 rfl (fun h => PpSet.newSet_ok h) (fun H h hb => setSO_new (setT_fresh X.w) (fun k => by simp) (Nat.zero_le _)) (fun h0 h => PpSet.codeAny_compStart_set h0 h) (fun h0 h => compStart1_set h0 h) (fun _ _ _ _ => ⟨rfl, rfl⟩) (fun _ _ _ _ => ⟨rfl, rfl⟩) eq_s20 eq_s21 h fun D C s' m H' I' q hn f => ⟨m, hn, fun h'' sb => ?_⟩
  obtain ⟨f0, f1, f2, f3, f4, f5⟩ := f
  exact ⟨.ref D, H', I'.turned (t' := s'.toks) (fun b o hb e => (sb.2 b hb).trans e) f0 f1 f3 f4 f5, rfl, q⟩
end
end K7
end

section
set_option Elab.async false
set_option linter.all false
set_option maxRecDepth 100000
namespace K7
open PySem PySem.Spec PyProof.Rows L2 SlX
section
variable {X : Cx}
theorem slot_str_iter' : typeLookup (.type "str") "__iter__" = pure (some (.builtin "str.__iter__")) := by rw [typeLookup_type, builtinLookup_eq_fast]; kernel_rfl
theorem star_text {pins : List (Addr × Obj)} {σ : L2.St} {H : Hp} {s : Shared} {z : Str} {tk : Tok} {E : Value → Shared → Prop} {Q : List Value → Shared → Prop} (hc : X.calm = true) (I : Inv X pins σ H s) (hz : z.cps.size ≤ 100000) (hQ : ∀ us s', Inv X pins σ H s' → Vals (z.cps.toList.map fun c => V.str (sg c)) us → Q us s') : PySem.W.StarOf (model X.prog X.w) X.A E (.str z tk) Q s := by
  have hT : s.TypeIs (.str z tk) "str" := rfl
  have y : wpAny (model X.prog X.w) X.A (collect (.str z tk)) Q E s := by
    refine wpAny_collect_str (I.ok.hd hc) z tk (fun s' acc k g dr os it => ?_) (by rw [sizeLine_eq]; omega)
    have e : s' = { s with heap := s'.heap, toks := s'.toks } := by
      cases s'
      cases s
      cases g
      cases dr
      cases os
      rfl
    have rv : ∀ (cs : List Nat) (us : List Value), us.length = cs.length → (∀ (j : Nat) (v : Value), us[j]? = some v → ∃ c t, cs[j]? = some c ∧ v = .str ⟨#[c]⟩ t) → Vals (cs.map fun c => V.str (sg c)) us := by
      intro cs
      induction cs with
      | nil =>
        intro us hl _
        cases us with
        | nil => exact .nil
        | cons _ _ => simp at hl
      | cons c cs ih =>
        intro us hl hp
        cases us with
        | nil => simp at hl
        | cons u us =>
          obtain ⟨c', t, e1, e2⟩ := hp 0 u rfl
          have e1' : c = c' := Option.some.inj e1
          subst e1'
          exact .cons ⟨t, e2⟩ (ih us (by simpa using hl) fun j v e => by
            obtain ⟨c2, t2, a, b⟩ := hp (j + 1) v (by simpa using e)
            exact ⟨c2, t2, by simpa using a, b⟩)
    refine hQ acc.toList s' (by rw [e]; exact I.kept k) (rv _ _ (by rw [Array.length_toList, Array.length_toList]; exact it.1) fun j v ev => ?_)
    have q := it.2 j v (by rw [← Array.getElem?_toList]; exact ev)
    obtain ⟨c, t, h1, h2⟩ := q
    exact ⟨c, t, by rw [Array.getElem?_toList]; exact h1, h2⟩
  unfold PySem.W.StarOf notIterableAtAll
  exact wpAny_bind (wpAny_specialOf hT slot_str_iter' (wpAny_pure ⟨rfl, y⟩))
/-- a text's signs, by a star -/
def tStarS (te : TE) (t : TA) : TA := fun σ H Q => te σ H fun x H1 => ∃ z : Str, x = .str z ∧ z.cps.size ≤ 100000 ∧ t σ H1 fun ys H2 => Q ((z.cps.toList.map fun c => V.str (sg c)) ++ ys) H2
theorem pa_starS {e : Expr} {p : PySem.Pos} {es : List Expr} {te : TE} {t : TA} (hc : X.calm = true) (he : PE X e te) (hr : PA X es t) (hs : starEach (.Starred e p :: es) X.env = (true, eval e X.env) :: starEach es X.env := by rfl) :
    PA X (.Starred e p :: es) (tStarS te t) := by
  refine ⟨fun pos pins s σ H Q I h => ?_⟩
  refine PySem.W.items_star (thn (he.run pins s σ H _ I h) fun v s1 ⟨y, H1, I1, ry, z, ey, hz, q⟩ => ?_) hs
  subst ey
  obtain ⟨tk, rfl⟩ := ry
  refine star_text hc I1 hz fun us s2 I2 rv => ?_
  exact thn (hr.run pos pins s2 σ H1 _ I2 q) fun ws s3 ⟨vs, H3, I3, r3, q3⟩ => ⟨_ ++ vs, H3, I3, rv.append r3, q3⟩
end
end K7
end

section
set_option Elab.async false
set_option linter.all false
set_option maxRecDepth 100000
end

section
set_option Elab.async false
set_option linter.all false
set_option maxRecDepth 100000
/-! Rows compared. -/
namespace K7
open PySem PySem.Spec PyProof.Rows L2 SlX
theorem dp_ints {K : PySem.W.Frag} {H : Hp} : ∀ r : List Int, DpAll K H (r.map V.int) (r.map PyData.int)
  | [] => .nil
  | x :: r => .cons (.int x) (dp_ints r)
theorem lay_ints : ∀ r : List Int, PyData.canLayAll0 (r.map PyData.int) = true
  | [] => by rw [List.map_nil]; unfold PyData.canLayAll0; rfl
  | x :: r => by
    rw [List.map_cons]
    unfold PyData.canLayAll0
    rw [lay_ints r]
    unfold PyData.canLay0
    rfl
theorem depth_ints : ∀ r : List Int, PyData.depthAll (r.map PyData.int) ≤ 1
  | [] => by rw [List.map_nil]; unfold PyData.depthAll; decide
  | x :: r => by
    have := depth_ints r
    rw [List.map_cons]
    unfold PyData.depthAll PyData.depth
    omega
theorem shaped_ints (r : List Int) : SeqAt.shaped (.list (r.map PyData.int)) = true ∧ SeqAt.shaped (.tuple (r.map PyData.int)) = true := by
  have h1 := lay_ints r
  have h2 := depth_ints r
  constructor <;>
  · unfold SeqAt.shaped
    rw [Bool.and_eq_true]
    constructor
    · unfold PyData.canLay0
      exact h1
    · unfold PyData.depth
      exact decide_eq_true (by omega)
theorem eqv_ints : ∀ r s : List Int, PyData.eqvAll (r.map PyData.int) (s.map PyData.int) = decide (r = s)
  | [], [] => by simp [PyData.eqvAll]
  | [], y :: s => by simp [PyData.eqvAll]
  | x :: r, [] => by simp [PyData.eqvAll]
  | x :: r, y :: s => by
    rw [List.map_cons, List.map_cons]
    unfold PyData.eqvAll
    rw [eqv_ints r s]
    unfold PyData.eqv
    by_cases h1 : x = y <;> by_cases h2 : r = s <;> simp [h1, h2]
end K7
end

section
set_option Elab.async false
set_option linter.all false
set_option maxRecDepth 100000
namespace K7
open PySem PySem.Spec PyProof.Rows L2 SlX
/-! The walk: rows side by side. -/
theorem ints_at {r : List Int} {i : Nat} {v : V} (h : (r.map V.int)[i]? = some v) : ∃ x, r[i]? = some x ∧ v = .int x := by
  rw [List.getElem?_map] at h
  cases e : r[i]? with
  | none => rw [e] at h; cases h
  | some x => rw [e] at h; exact ⟨x, rfl, (Option.some.inj h).symm⟩
/-- a pair taken apart: H' = the heap with the pair -/
theorem pair_at {H : Hp} {T : Addr} {x y : V} (n : H T = none) : Same H (upd H T (.tup [x, y])) := same_upd n
/-- no number of the first is less -/
def over (one other : List Int) : Bool := (one.zip other).all fun p => decide (p.2 ≤ p.1)
def ovs (one other : List Int) : List Bool := (one.zip other).map fun p => decide (p.2 ≤ p.1)
theorem ovs_len {one other : List Int} (h : one.length = other.length) : (ovs one other).length = one.length := by
  unfold ovs
  rw [List.length_map, List.length_zip]
  omega
theorem ovs_all (one other : List Int) : (ovs one other).all id = over one other := by
  unfold ovs over
  rw [List.all_map]
  rfl
theorem ovs_at {one other : List Int} {i : Nat} {x y : Int} (h1 : one[i]? = some x) (h2 : other[i]? = some y) : (ovs one other)[i]? = some (decide (y ≤ x)) := by
  unfold ovs
  rw [List.getElem?_map, show (one.zip other)[i]? = some (x, y) from List.getElem?_zip_eq_some.mpr ⟨h1, h2⟩]
  rfl
/-! ### stands_above -/
def sp_stands_above {K : PySem.W.Frag} {mg : Str → Option Value} (T : Txt K mg) : Sp := fun vs H Q _ => ∃ (p p2 : Addr) (r r2 : List Int), vs = [.ref p, .ref p2] ∧ H p = some (.tup (r.map V.int)) ∧ H p2 = some (.tup (r2.map V.int)) ∧ 1 ≤ r.length ∧ r.length ≤ 6 ∧ r2.length = r.length ∧ (∀ x ∈ r, 0 ≤ x ∧ x < 10000) ∧ (∀ x ∈ r2, 0 ≤ x ∧ x < 10000) ∧ ∀ H', Same H H' → Q (.bl (over r r2)) H'
set_option maxHeartbeats 4000000 in
theorem ok_stands_above {P : Program} {w : World} {K : PySem.W.Frag} {mg : Str → Option Value} {base : Heap} (T : Txt K mg) : FnOk P w K mg base CX0 4 T.a_stands_above T.d_stands_above ["one", "other"] (sp_stands_above T) := by
  refine T.F_stands_above.ok sc_stands_above (fun vs H Q E h => ?_) (fun cdv A outer s H vs Q E hr h => ?_)
  · obtain ⟨p, p2, r, r2, rfl, hp, hp2, h1, h2, h3, hrow, hrow2, q⟩ := h
    rfl
  · obtain ⟨p, p2, r, r2, rfl, hp, hp2, h1, h2, h3, hrow, hrow2, q⟩ := h
    refine ⟨_, PSs.nox (pss_cons (ps_expr (pe_call (ok_require_plain_row T) (hr.mono (by decide)) (by rfl) T.g_require_plain_row T.F_require_plain_row.kp (b_require_plain_row T) .nil pass0 (pa_cons (pv 0) pa_nil)))
      (pss_cons (ps_expr (pe_call (ok_require_plain_row T) (hr.mono (by decide)) (by rfl) T.g_require_plain_row T.F_require_plain_row.kp (b_require_plain_row T) .nil pass0 (pa_cons (pv 1) pa_nil)))
      (pss_cons (ps_if (pt_cmpR op_ne (pe_callB (call_lenK K) (by rfl) T.n_len (by decide +kernel) (pa_cons (pv 0) pa_nil)) (pe_callB (call_lenK K) (by rfl) T.n_len (by decide +kernel) (pa_cons (pv 1) pa_nil)) (nomark _)) pss_never pss_nil)
      (pss_one (ps_ret (pe_callB (cr_allK K rfl) (by rfl) T.n_all (by decide +kernel) (pa_cons (pe_lc (own := [("number", 2), ("less", 3)]) rfl sc_stands_above.nd (pi_zipK K (by rfl) T.n_zip (pa_cons (pv 0) (pa_cons (pv 1) pa_nil))) (blkOk_by (own := [("number", 2), ("less", 3)]) (N := n_stands_above) (sc := defScope s_stands_above) (by decide +kernel)) (fun _ _ _ _ _ => (pg_tupK K (n := 2) rfl (pgs_cons (pg_name (i := 2) sc_stands_above.nd rfl (by first | exact .inl rfl | exact .inr rfl)) (pgs_cons (pg_name (i := 3) sc_stands_above.nd rfl (by first | exact .inl rfl | exact .inr rfl)) pgs_nil)))) (fun _ _ _ _ _ => pts_nil) (fun _ _ _ _ _ => (pe_cmpR op_ge (pv 2) (pv 3) (nomark _)))) pa_nil))))))), ?_⟩
    refine ⟨_, rfl, p, r, rfl, hp, h1, h2, hrow, fun H1 s1 => ?_⟩
    refine ⟨_, rfl, p2, r2, rfl, s1 _ _ hp2, by omega, by omega, hrow2, fun H2 s2 => ?_⟩
    have hp' := s2 _ _ (s1 _ _ hp)
    have hp2' := s2 _ _ (s1 _ _ hp2)
    refine ⟨_, rfl, p, _, rfl, .inr (sqt hp'), _, rfl, p2, _, rfl, .inr (sqt hp2'), rfl, _, rfl, ?_⟩
    refine ite_no (by rw [List.length_map, List.length_map, h3]; simp) ?_
    refine ⟨_, rfl, _, rfl, p, p2, _, _, rfl, .inr ⟨sqt hp', sqt hp2', fun D hD => ?_⟩⟩
    refine lc_wk (Wk.zipT (by rw [List.length_map, List.length_map, h3])) hD (fun i l _ => l = ((ovs r r2).take i).map V.bl) off_pure rfl (fun _ s => ⟨seqT s (sqt hp'), seqT s (sqt hp2')⟩) ?_ ?_
    · rintro i l y H3 H4 hi sm hl hz' e ⟨t, x, y, rfl, nt, rfl, e1, e2⟩
      obtain ⟨x, f1, rfl⟩ := ints_at e1
      obtain ⟨y, f2, rfl⟩ := ints_at e2
      refine ⟨t, _, rfl, sqt upd_same, rfl, _, _, rfl, _, _, rfl, rfl, rfl, yes1 ?_⟩
      refine ⟨_, rfl, _, rfl, _, _, rfl, rfl, ?_⟩
      refine lc_put off_pure hD (by rw [List.length_map] at hi; omega) (sm.trans (same_upd nt)) (same_upd nt _ _ hl) hz' ?_
      rw [e, List.take_add_one, ovs_at f1 f2, List.map_append]
      rfl
    · intro l H3 sm hl hz' e
      rw [List.take_of_length_le (by rw [ovs_len (by omega), List.length_map]; exact Nat.le_refl _)] at e
      subst e
      exact ⟨_, _, rfl, sq hl, bl_of (ovs_all r r2) (q _ ((s1.trans s2).trans sm))⟩
/-! ### _law_is_over -/
def sp__law_is_over {K : PySem.W.Frag} {mg : Str → Option Value} (T : Txt K mg) : Sp := fun vs H Q _ => ∃ (p p2 : Addr) (r r2 : List Int), vs = [.ref p, .ref p2] ∧ H p = some (.tup (r.map V.int)) ∧ H p2 = some (.tup (r2.map V.int)) ∧ r.length ≤ 6 ∧ r2.length = r.length ∧ ∀ H', Same H H' → Q (.bl (over r r2)) H'
set_option maxHeartbeats 4000000 in
theorem ok__law_is_over {P : Program} {w : World} {K : PySem.W.Frag} {mg : Str → Option Value} {base : Heap} (T : Txt K mg) : FnOk P w K mg base CX0 1 T.a__law_is_over T.d__law_is_over ["one", "other"] (sp__law_is_over T) := by
  refine T.F__law_is_over.ok sc__law_is_over (fun vs H Q E h => ?_) (fun cdv A outer s H vs Q E hr h => ?_)
  · obtain ⟨p, p2, r, r2, rfl, hp, hp2, h2, h3, q⟩ := h
    rfl
  · obtain ⟨p, p2, r, r2, rfl, hp, hp2, h2, h3, q⟩ := h
    refine ⟨_, PSs.nox (pss_one (ps_ret (pe_cmpR (op_eqDK K hr.units) (pe_lc (own := [("more", 2), ("less", 3)]) rfl sc__law_is_over.nd (pi_zipK K (by rfl) T.n_zip (pa_cons (pv 0) (pa_cons (pv 1) pa_nil))) (blkOk_by (own := [("more", 2), ("less", 3)]) (N := n__law_is_over) (sc := defScope s__law_is_over) (by decide +kernel)) (fun _ _ _ _ _ => (pg_tupK K (n := 2) rfl (pgs_cons (pg_name (i := 2) sc__law_is_over.nd rfl (by first | exact .inl rfl | exact .inr rfl)) (pgs_cons (pg_name (i := 3) sc__law_is_over.nd rfl (by first | exact .inl rfl | exact .inr rfl)) pgs_nil)))) (fun _ _ _ _ _ => (pts_one (pt_cmpR op_lt (pv 2) (pv 3) (nomark _)))) (fun _ _ _ _ _ => pe_int)) (pe_lst pa_nil) (nomark _)))), ?_⟩
    refine ⟨_, rfl, _, rfl, p, p2, _, _, rfl, .inr ⟨sqt hp, sqt hp2, fun D hD => ?_⟩⟩
    refine lc_wk (Wk.zipT (by rw [List.length_map, List.length_map, h3])) hD (fun i l _ => ∃ k, l = (List.replicate k 1).map V.int ∧ (k = 0 ↔ ((ovs r r2).take i).all id = true)) off_pure ⟨0, rfl, by simp⟩ (fun _ s => ⟨seqT s (sqt hp), seqT s (sqt hp2)⟩) ?_ ?_
    · rintro i l y H3 H4 hi sm hl hz' ⟨k, rfl, hk⟩ ⟨t, x, y, rfl, nt, rfl, e1, e2⟩
      obtain ⟨x, f1, rfl⟩ := ints_at e1
      obtain ⟨y, f2, rfl⟩ := ints_at e2
      have e3 : ((ovs r r2).take (i + 1)).all id = (((ovs r r2).take i).all id && decide (y ≤ x)) := by
        rw [List.take_add_one, ovs_at f1 f2, List.all_append]
        simp
      refine ⟨t, _, rfl, sqt upd_same, rfl, _, _, rfl, _, _, rfl, rfl, rfl, ?_⟩
      refine ⟨_, rfl, _, rfl, _, _, rfl, rfl, _, rfl, ?_⟩
      refine ite2 (fun c => ?_) (fun c => ?_)
      · have c : x < y := by simpa using c
        refine lc_put off_pure hD (by rw [List.length_map] at hi; omega) (sm.trans (same_upd nt)) (same_upd nt _ _ hl) hz' ⟨k + 1, by rw [List.replicate_succ', List.map_append]; rfl, ?_⟩
        rw [e3, decide_eq_false (by omega)]
        simp
      · have c : ¬ x < y := by simpa using c
        refine ⟨_, sm.trans (same_upd nt), same_upd nt _ _ hl, by omega, k, rfl, ?_⟩
        rw [e3, decide_eq_true (by omega), Bool.and_true]
        exact hk
    · rintro l H3 sm hl hz' ⟨k, rfl, hk⟩
      rw [List.take_of_length_le (by rw [ovs_len (by omega), List.length_map]; exact Nat.le_refl _), ovs_all] at hk
      refine ⟨Nat.zero_le _, fun e he => ?_⟩
      refine ⟨.list ((List.replicate k 1).map PyData.int), .list [], .lst (sq (same_upd he _ _ hl)) (dp_ints _), .lst (sq upd_same) .nil, ?_, rfl, ?_⟩
      · exact (shaped_ints _).1
      · refine bl_of ?_ (q _ (sm.trans (same_upd he)))
        cases k with
        | zero =>
          have := hk.mp rfl
          rw [this]
          rfl
        | succ k =>
          have : over r r2 = false := by
            cases h : over r r2 with
            | false => rfl
            | true => exact absurd (hk.mpr h) (by omega)
          rw [this]
          rfl
end K7
end

section
set_option Elab.async false
set_option linter.all false
set_option maxRecDepth 100000
namespace K7
open PySem PySem.Spec PyProof.Rows L2 SlX
/-! The walk: steps along rows. -/
abbrev rowF (r : List Int) : Nat → Int := fun i => r.getD i 0
theorem rowF_at {r : List Int} {i : Nat} {x : Int} (h : r[i]? = some x) : rowF r i = x := by
  show r.getD i 0 = x
  rw [List.getD_eq_getElem?_getD, h]
  rfl
theorem row_get {r : List Int} {i : Nat} (h : i < r.length) : r[i]? = some (rowF r i) := by
  show r[i]? = some (r.getD i 0)
  rw [List.getD_eq_getElem?_getD, List.getElem?_eq_getElem h]
  rfl
theorem atI_ofNat {xs : List V} {i : Nat} {v : V} (h : xs[i]? = some v) : atI xs (i : Int) = some v := by
  have hi : i < xs.length := by
    rcases Nat.lt_or_ge i xs.length with q | q
    · exact q
    · rw [List.getElem?_eq_none q] at h; cases h
  unfold atI ixN
  rw [if_pos (by omega), if_pos (by omega)]
  simpa using h
abbrev rowL (n : Nat) (f : Nat → Int) : List Int := (List.range n).map f
theorem rowL_at {n : Nat} {f : Nat → Int} {t : Nat} (h : t < n) : (rowL n f)[t]? = some (f t) := by
  rw [List.getElem?_map, List.getElem?_range h]
  rfl
/-- a matrix, as a list of lists -/
def MatAt (H : Hp) (lw : Addr) (n : Nat) (M : Nat → Nat → Int) : Prop := ∃ rs : List Addr, H lw = some (.lst (rs.map V.ref)) ∧ rs.length = n ∧ ∀ p, p < n → ∃ r, rs[p]? = some r ∧ H r = some (.lst ((rowL n (M p)).map V.int))
theorem MatAt.same {H H' : Hp} (s : Same H H') {lw : Addr} {n : Nat} {M : Nat → Nat → Int} (h : MatAt H lw n M) : MatAt H' lw n M := by
  obtain ⟨rs, h1, h2, h3⟩ := h
  refine ⟨rs, s _ _ h1, h2, fun p hp => ?_⟩
  obtain ⟨r, a, b⟩ := h3 p hp
  exact ⟨r, a, s _ _ b⟩
/-- what steps stand on -/
def StAt {K : PySem.W.Frag} {mg : Str → Option Value} (T : Txt K mg) (H : Hp) (a : Addr) (tg : MachS) (m : PrM) (M : Nat → Nat → Int) : Prop :=
  ∃ dx dc ll lm ps lw, SlX.Slt H a T.C_Steps dx [some (.ref dc), some (.ref ll), some (.ref lm), some (.ref ps), some (.ref lw)] ∧ PrAt T.C_Closed H dc m ∧ H ll = some (.lst ((tg.map (·.2)).map V.bl)) ∧ MvsAt H lm tg ∧
    H ps = some (.tup ((rowL tg.length (M 0)).map V.int)) ∧ MatAt H lw tg.length M
theorem StAt.same {K : PySem.W.Frag} {mg : Str → Option Value} {T : Txt K mg} {H H' : Hp} (s : Same H H') {a : Addr} {tg : MachS} {m : PrM} {M : Nat → Nat → Int} (h : StAt T H a tg m M) : StAt T H' a tg m M := by
  obtain ⟨dx, dc, ll, lm, ps, lw, h1, h2, h3, h4, h5, h6⟩ := h
  exact ⟨dx, dc, ll, lm, ps, lw, keep_slt (keep_of s) h1, h2.keep (keep_of s), s _ _ h3, h4.keep (keep_of s), s _ _ h5, h6.same s⟩
/-- of them, what tells the price of a change -/
def StC {K : PySem.W.Frag} {mg : Str → Option Value} (T : Txt K mg) (H : Hp) (a : Addr) (f : Tab Str) : Prop :=
  ∃ dx dc w1 w2 w3 w4 cx v0 v1 dS kvs, SlX.Slt H a T.C_Steps dx [some (.ref dc), w1, w2, w3, w4] ∧ SlX.Slt H dc T.C_Closed cx [some v0, v1, some (.ref dS)] ∧ H dS = some (.dT kvs) ∧ TabOk kvs f
theorem StAt.c {K : PySem.W.Frag} {mg : Str → Option Value} {T : Txt K mg} {H : Hp} {a : Addr} {tg : MachS} {m : PrM} {M : Nat → Nat → Int} (h : StAt T H a tg m M) : StC T H a m.swap := by
  obtain ⟨dx, dc, ll, lm, ps, lw, s1, ⟨cx, dO, dP, dS, c1, c2, c3, kvs, hk, _, ok⟩, _⟩ := h
  exact ⟨dx, dc, _, _, _, _, cx, _, _, dS, kvs, s1, c1, hk, ok⟩
theorem slt_x {H H' : Hp} {d : Addr} {kvs : List (Key × V)} (hd : H d = some (.dK kvs)) (k : SameX d H H') {a C dx : Addr} {v : V} {vs : List (Option V)} (h : SlX.Slt H a C dx (some v :: vs)) : SlX.Slt H' a C dx (some v :: vs) := by
  rcases h with ⟨_, h⟩ | ⟨h1, h2⟩
  · cases h
  · refine .inr ⟨k _ _ (fun z => ?_) h1, k _ _ (fun z => ?_) h2⟩
    · rw [z, hd] at h1
      unfold SlX.SlO at h1
      cases h1
    · rw [z, hd] at h2
      cases h2
theorem StC.x {K : PySem.W.Frag} {mg : Str → Option Value} {T : Txt K mg} {H H' : Hp} {d : Addr} {ks : List (Key × V)} (hd : H d = some (.dK ks)) (k : SameX d H H') {a : Addr} {f : Tab Str} (h : StC T H a f) : StC T H' a f := by
  obtain ⟨dx, dc, w1, w2, w3, w4, cx, v0, v1, dS, kvs, h1, h2, h3, h4⟩ := h
  exact ⟨dx, dc, w1, w2, w3, w4, cx, v0, v1, dS, kvs, slt_x hd k h1, slt_x hd k h2, k _ _ (fun z => by rw [z, hd] at h3; cases h3) h3, h4⟩
theorem unlock {H H' : Hp} {d : Addr} {u : HO} (hd : H d = some u) (k : SameX d H H') : Same H (upd H' d u) := fun b o e => by
  by_cases z : b = d
  · rw [z, hd] at e
    rw [z, upd_same]
    exact e
  · rw [upd_ne z]
    exact k b o z e
theorem locked {H : Hp} {d : Addr} {u : HO} : SameX d H (upd H d u) := fun b o n e => by rw [upd_ne n]; exact e
/-! ### Steps.price_of_swap -/
def sp_Steps_price_of_swap {K : PySem.W.Frag} {mg : Str → Option Value} (T : Txt K mg) : Sp := fun vs H Q _ => ∃ (a : Addr) (f : Tab Str) (x y : Str) (k : Int), vs = [.ref a, .str x, .str y] ∧ StC T H a f ∧ (x ≠ y → f x y = some k) ∧ (x = y → k = 0) ∧ ∀ H', Same H H' → Q (.int k) H'
set_option maxHeartbeats 4000000 in
theorem ok_Steps_price_of_swap {P : Program} {w : World} {K : PySem.W.Frag} {mg : Str → Option Value} {base : Heap} (T : Txt K mg) : FnOk P w K mg base CX0 1 T.a_Steps_price_of_swap T.d_Steps_price_of_swap ["self", "sign", "other"] (sp_Steps_price_of_swap T) := by
  refine T.F_Steps_price_of_swap.ok sc_Steps_price_of_swap (fun vs H Q E h => ?_) (fun cdv A outer s H vs Q E hr h => ?_)
  · obtain ⟨a, f, x, y, k, rfl, st, h1, h2, q⟩ := h
    rfl
  · obtain ⟨a, f, x, y, k, rfl, st, h1, h2, q⟩ := h
    refine ⟨_, PSs.nox (pss_one (ps_ret (pe_ifExp (pt_cmpR op_eq (pv 1) (pv 2) (nomark _)) pe_int (pe_dget (hu_of hr) (pe_slK K (pe_slK K (pv 0))) (pe_tup (pa_cons (pv 1) (pa_cons (pv 2) pa_nil))) (fun _ _ => rfl))))), ?_⟩
    obtain ⟨dx, dc, w1, w2, w3, w4, cx, v0, v1, dS, kvs, s1, c1, hk, ok⟩ := st
    refine ⟨_, rfl, _, rfl, rfl, _, rfl, ?_⟩
    by_cases e : x = y
    · refine ite_of (decide_eq_true (by rw [e])) ?_
      rw [h2 e] at q
      exact q _ (Same.refl _)
    · refine ite_no (decide_eq_false (by intro z; injection z with z; exact e z)) ?_
      refine ⟨_, rfl, a, _, dx, _, _, _, _, rfl, s1, T.S_Steps, T.sl_Steps_own_closed, rfl, dc, _, cx, _, _, _, _, rfl, c1, T.S_Closed, T.sl_Closed_own_swap, rfl, ?_⟩
      refine ⟨_, rfl, _, rfl, szle (by simp), fun p hp => ?_⟩
      refine ⟨dS, .int k, rfl, ?_, q _ (same_upd hp)⟩
      have g := ok.get x y
      rw [h1 e] at g
      have := DGet.t (b := p) (k := k2 x y) (same_upd hp _ _ hk) upd_same
      rw [g] at this
      exact this
/-! ### Steps.filled -/
def sp_Steps_filled {K : PySem.W.Frag} {mg : Str → Option Value} (T : Txt K mg) : Sp := fun vs H Q _ => ∃ (a l : Addr) (tg : MachS) (m : PrM) (M : Nat → Nat → Int) (f : List Int), vs = [.ref a, .ref l] ∧ StAt T H a tg m M ∧ H l = some (.lst (f.map V.int)) ∧ f.length = tg.length ∧ 1 ≤ tg.length ∧ tg.length ≤ 6 ∧
  ∀ H' p (r : List Int), Same H H' → H' p = some (.tup (r.map V.int)) → r.length = tg.length → (∀ t, t < tg.length → MinOf (fun x => ∃ q, q < tg.length ∧ x = rowF f q + M q t) (rowF r t)) → Q (.ref p) H'
set_option maxHeartbeats 4000000 in
theorem ok_Steps_filled {P : Program} {w : World} {K : PySem.W.Frag} {mg : Str → Option Value} {base : Heap} (T : Txt K mg) : FnOk P w K mg base CX0 1 T.a_Steps_filled T.d_Steps_filled ["self", "row"] (sp_Steps_filled T) := by
  refine T.F_Steps_filled.ok sc_Steps_filled (fun vs H Q E h => ?_) (fun cdv A outer s H vs Q E hr h => ?_)
  · obtain ⟨a, l, tg, m, M, f, rfl, st, hl, hf, n1, n6, q⟩ := h
    rfl
  · obtain ⟨a, l, tg, m, M, f, rfl, st, hl, hf, n1, n6, q⟩ := h
    refine ⟨_, PSs.nox (pss_cons (ps_set (i := 2) sc_Steps_filled.nd rfl (by first | exact .inl rfl | exact .inr rfl) (pe_slK K (pv 0)))
      (pss_one (ps_ret (pe_callTy (call_tupK K) (by rfl) T.n_tuple (by decide +kernel) (pa_cons (pe_lc (own := [("t", 3)]) rfl sc_Steps_filled.nd (pi_range1 (by rfl) T.n_range (pa_cons (pe_callB (call_lenK K) (by rfl) T.n_len (by decide +kernel) (pa_cons (pv 1) pa_nil)) pa_nil)) (blkOk_by (own := [("t", 3)]) (N := n_Steps_filled) (sc := defScope s_Steps_filled) (by decide +kernel)) (fun _ _ _ _ _ => (pg_name (i := 3) sc_Steps_filled.nd rfl (by first | exact .inl rfl | exact .inr rfl))) (fun _ _ _ _ _ => pts_nil) (fun _ _ _ _ _ => (pe_callB (cr_minK K rfl) (by rfl) T.n_min (by decide +kernel) (pa_cons (pe_lc (own := [("p", 4), ("number", 5)]) rfl sc_Steps_filled.nd (pi_enumK K (by rfl) T.n_enumerate (pa_cons (pv 1) pa_nil)) (blkOk_by (own := [("p", 4), ("number", 5)]) (N := n_Steps_filled) (by kernel_rfl)) (fun _ _ _ _ _ => (pg_tupK K (n := 2) rfl (pgs_cons (pg_name (i := 4) sc_Steps_filled.nd rfl (by first | exact .inl rfl | exact .inr rfl)) (pgs_cons (pg_name (i := 5) sc_Steps_filled.nd rfl (by first | exact .inl rfl | exact .inr rfl)) pgs_nil)))) (fun _ _ _ _ _ => pts_nil) (fun _ _ _ _ _ => (pe_op op_add (pv 5) (pe_ix (ix_listK K) (pe_ix (ix_listK K) (pv 2) (pv 4) (fun _ _ => rfl)) (pv 3) (fun _ _ => rfl))))) pa_nil)))) pa_nil))))), ?_⟩
    obtain ⟨dx, dc, ll, lm, ps, lw, s1, s2, s3, s4, s5, s6⟩ := id st
    have mat := s6
    refine ⟨_, rfl, a, _, dx, _, _, _, _, rfl, s1, T.S_Steps, T.sl_Steps_own_ways, rfl, ?_⟩
    refine ⟨_, rfl, l, _, rfl, .inl (sq hl), _, rfl, by rw [List.length_map]; omega, by rw [List.length_map]; omega, fun D hD => ?_⟩
    refine lc_wk (Wk.range (lo := 0)) hD (fun i l _ => ∃ r : List Int, l = r.map V.int ∧ r.length = i ∧ ∀ t, t < i → MinOf (fun x => ∃ q, q < tg.length ∧ x = rowF f q + M q t) (rowF r t)) off_pure ⟨[], rfl, rfl, fun t ht => absurd ht (Nat.not_lt_zero _)⟩ (fun _ _ => trivial) ?_ ?_
    · rintro i l1 y H3 H4 hi sm hl1 hz ⟨r, rfl, hr1, hr2⟩ ⟨rfl, rfl⟩
      refine ⟨rfl, yes1 ?_⟩
      have hl4 : H4 l = some (.lst (f.map V.int)) := sm _ _ hl
      have hi' : i < tg.length := by
        rw [List.length_map, Int.toNat_natCast] at hi
        omega
      refine ⟨_, rfl, l, _, rfl, sq hl4, fun D2 hD2 => ?_⟩
      refine lc_wk Wk.enum hD2 (fun j l _ => l = (rowL j fun q => rowF f q + M q i).map V.int) off_pure rfl (fun _ s => s.seq (sq hl4)) ?_ ?_
      · rintro j l2 y H5 H6 hj sm2 hl2 hz2 e ⟨t2, x, rfl, nt, rfl, e1⟩
        rw [List.length_map] at hj
        obtain ⟨x, f1, rfl⟩ := ints_at e1
        obtain ⟨rs, g1, g2, g3⟩ := mat.same ((sm.trans sm2).trans (same_upd nt))
        obtain ⟨rr, g4, g5⟩ := g3 j (by omega)
        refine ⟨t2, _, rfl, sqt upd_same, rfl, _, _, rfl, _, _, rfl, rfl, rfl, yes1 ?_⟩
        refine ⟨_, rfl, _, rfl, _, rfl, lw, _, _, .ref rr, rfl, rfl, sq g1, atI_ofNat (by rw [List.getElem?_map, g4]; rfl), _, rfl, rr, _, _, .int (M j i), rfl, rfl, sq g5, ?_, _, _, rfl, rfl, ?_⟩
        · rw [show ((0 : Int) + (i : Int)) = (i : Int) by omega]
          exact atI_ofNat (by rw [List.getElem?_map, rowL_at (by omega)]; rfl)
        · refine lc_put off_pure hD2 (by omega) (sm2.trans (same_upd nt)) (same_upd nt _ _ hl2) hz2 ?_
          rw [e]
          show _ = (rowL (j + 1) fun q => rowF f q + M q i).map V.int
          unfold rowL
          rw [List.range_succ, List.map_append, List.map_append]
          show _ ++ [V.int (x + M j i)] = _ ++ [V.int (rowF f j + M j i)]
          rw [rowF_at f1]
      · intro l2 H5 sm2 hl2 hz2 e
        rw [List.length_map] at e
        subst e
        refine ⟨D2, _, rfl, sq hl2, by simp; omega, fun mm hm1 hm2 => ?_⟩
        refine lc_put off_pure hD (by omega) (sm.trans sm2) (sm2 _ _ hl1) hz ⟨r ++ [mm], by rw [List.map_append]; rfl, by simp [hr1], fun t ht => ?_⟩
        by_cases ht' : t < i
        · have e2 : rowF (r ++ [mm]) t = rowF r t := by
            unfold rowF
            rw [List.getD_eq_getElem?_getD, List.getElem?_append_left (by omega), ← List.getD_eq_getElem?_getD]
          rw [e2]
          exact hr2 t ht'
        · have : t = i := by omega
          subst this
          have e2 : rowF (r ++ [mm]) t = mm := rowF_at (by rw [List.getElem?_append_right (by omega), hr1]; simp)
          rw [e2]
          refine ⟨?_, ?_⟩
          · obtain ⟨q', hq, rfl⟩ := List.mem_map.mp hm1
            exact ⟨q', by rw [← hf]; exact List.mem_range.mp hq, rfl⟩
          · rintro x ⟨q', hq, rfl⟩
            exact hm2 _ (List.mem_map.mpr ⟨q', List.mem_range.mpr (by omega), rfl⟩)
    · rintro l1 H3 sm hl1 hz ⟨r, rfl, hr1, hr2⟩
      have hn : (List.map V.int f).length = tg.length := by rw [List.length_map]; exact hf
      have hr1' : r.length = tg.length := hr1.trans hn
      refine ⟨D, _, rfl, .inl ⟨sq hl1, fun t ht => ?_⟩⟩
      exact q _ t r (sm.trans (same_upd ht)) upd_same hr1' fun t ht => hr2 t (by show t < (List.map V.int f).length; rw [hn]; exact ht)

/-- what a sign's change into a sign costs, by the table of closed prices -/
def swP (m : PrM) (x y : Str) : Int := if x = y then 0 else (m.swap x y).getD 0
/-- closed prices: each change has one -/
structure ClOk (m : PrM) : Prop where
  pr : PrOk m
  all : ∀ a b, a ∈ m.sgs → b ∈ m.sgs → a ≠ b → ∃ v, m.swap a b = some v
/-- all signs of a machine have prices -/
def SgIn (tg : MachS) (m : PrM) : Prop := ∀ row ∈ tg, ∀ e ∈ row.1, e.1 ∈ m.sgs
theorem movesOf_at {tg : MachS} {p : Nat} {row : List (Str × Nat) × Bool} (h : tg[p]? = some row) : movesOf tg p = row.1 := by
  unfold movesOf
  rw [h]
  rfl
/-- the least of what is known behind i whole rows and j moves of the next one -/
def Cand (tg : MachS) (m : PrM) (x : Str) (r : List Int) (i j q : Nat) (z : Int) : Prop :=
  z = rowF r q + m.out x ∨ (∃ p e, p < i ∧ e ∈ movesOf tg p ∧ e.2 = q ∧ z = rowF r p + swP m x e.1) ∨ ∃ e ∈ (movesOf tg i).take j, e.2 = q ∧ z = rowF r i + swP m x e.1
theorem cand_step {tg : MachS} {m : PrM} {x : Str} {r : List Int} {i j q : Nat} {z : Int} {e : Str × Nat} (he : (movesOf tg i)[j]? = some e) : Cand tg m x r i (j + 1) q z ↔ Cand tg m x r i j q z ∨ (e.2 = q ∧ z = rowF r i + swP m x e.1) := by
  unfold Cand
  rw [List.take_add_one, he]
  simp only [Option.toList_some, List.mem_append, List.mem_singleton, or_and_right, exists_or, exists_eq_left, or_assoc]
theorem cand_next {tg : MachS} {m : PrM} {x : Str} {r : List Int} {i q : Nat} {z : Int} : Cand tg m x r i (movesOf tg i).length q z ↔ Cand tg m x r (i + 1) 0 q z := by
  unfold Cand
  rw [List.take_of_length_le (Nat.le_refl _)]
  simp only [List.take_zero, List.not_mem_nil, false_and, exists_false, or_false]
  constructor
  · rintro (h | ⟨p, e, h1, h2⟩ | ⟨e, h1, h2⟩)
    · exact .inl h
    · exact .inr ⟨p, e, by omega, h2⟩
    · exact .inr ⟨i, e, by omega, h1, h2⟩
  · rintro (h | ⟨p, e, h1, h2⟩)
    · exact .inl h
    · by_cases c : p = i
      · subst c
        exact .inr (.inr ⟨e, h2.1, h2.2⟩)
      · exact .inr (.inl ⟨p, e, by omega, h2⟩)
/-- found is the least of all that is known -/
def FndOk (tg : MachS) (m : PrM) (x : Str) (r f : List Int) (i j : Nat) : Prop := f.length = tg.length ∧ ∀ q, q < tg.length → MinOf (Cand tg m x r i j q) (rowF f q)
theorem rowF_set {f : List Int} {t q : Nat} {v : Int} (ht : t < f.length) : rowF (f.set t v) q = if q = t then v else rowF f q := by
  unfold rowF
  rw [List.getD_eq_getElem?_getD, List.getElem?_set]
  by_cases e : t = q
  · subst e
    simp [ht]
  · rw [if_neg e, if_neg (fun z => e z.symm), ← List.getD_eq_getElem?_getD]
theorem fnd_step {tg : MachS} {m : PrM} {x : Str} {r f : List Int} {i j : Nat} {e : Str × Nat} (h : FndOk tg m x r f i j) (he : (movesOf tg i)[j]? = some e) (ht : e.2 < tg.length) :
    FndOk tg m x r (f.set e.2 (mn (rowF f e.2) (rowF r i + swP m x e.1))) i (j + 1) := by
  refine ⟨by rw [List.length_set]; exact h.1, fun q hq => ?_⟩
  rw [rowF_set (by rw [h.1]; exact ht)]
  have hm := h.2 q hq
  by_cases c : q = e.2
  · subst c
    rw [if_pos rfl]
    refine ⟨(cand_step he).mpr ?_, fun z hz => ?_⟩
    · rcases mn_or (rowF f e.2) (rowF r i + swP m x e.1) with k | k
      · rw [k]; exact .inl hm.1
      · rw [k]; exact .inr ⟨rfl, rfl⟩
    · have l1 := mn_le_l (rowF f e.2) (rowF r i + swP m x e.1)
      have l2 := mn_le_r (rowF f e.2) (rowF r i + swP m x e.1)
      rcases (cand_step he).mp hz with k | ⟨_, k⟩
      · have := hm.2 z k
        omega
      · omega
  · rw [if_neg c]
    refine ⟨(cand_step he).mpr (.inl hm.1), fun z hz => ?_⟩
    rcases (cand_step he).mp hz with k | ⟨k, _⟩
    · exact hm.2 z k
    · exact absurd k.symm c
theorem fnd_first {tg : MachS} {m : PrM} {x : Str} {r f : List Int} (h : FndOk tg m x r f tg.length 0) : First tg.length (movesOf tg) (swP m x) (m.out x) (rowF r) (rowF f) := by
  intro q hq
  refine (h.2 q hq).congr fun z => ?_
  unfold Cand E1
  simp only [List.take_zero, List.not_mem_nil, false_and, exists_false, or_false]
  constructor
  · rintro (k | ⟨p, e, h1, h2, h3, h4⟩)
    · exact ⟨q, _, hq, .inl ⟨rfl, rfl⟩, k⟩
    · exact ⟨p, _, h1, .inr ⟨e, h2, h3, rfl⟩, h4⟩
  · rintro ⟨p, e, hp, ⟨rfl, rfl⟩ | ⟨y, h1, h2, rfl⟩, h3⟩
    · exact .inl h3
    · exact .inr ⟨p, y, hp, h1, h2, h3⟩
/-! ### Steps.behind -/
def sp_Steps_behind {K : PySem.W.Frag} {mg : Str → Option Value} (T : Txt K mg) : Sp := fun vs H Q _ => ∃ (a p : Addr) (x : Str) (tg : MachS) (m : PrM) (M : Nat → Nat → Int) (r : List Int), vs = [.ref a, .ref p, .str x] ∧ StAt T H a tg m M ∧ ClOk m ∧ SgIn tg m ∧ MTo tg ∧ x ∈ m.sgs ∧ H p = some (.tup (r.map V.int)) ∧ r.length = tg.length ∧ 1 ≤ tg.length ∧ tg.length ≤ 6 ∧
  (∀ z ∈ r, 0 ≤ z ∧ z < 100000) ∧ Ways (n := tg.length) (mv := movesOf tg) (c := m.put) M ∧
  ∀ H' p' (r' : List Int), Same H H' → H' p' = some (.tup (r'.map V.int)) → r'.length = tg.length → Beh tg.length (movesOf tg) (swP m x) (m.out x) M (rowF r) (rowF r') → Q (.ref p') H'
set_option maxHeartbeats 4000000 in
theorem ok_Steps_behind {P : Program} {w : World} {K : PySem.W.Frag} {mg : Str → Option Value} {base : Heap} (T : Txt K mg) : FnOk P w K mg base CX0 2 T.a_Steps_behind T.d_Steps_behind ["self", "row", "sign"] (sp_Steps_behind T) := by
  refine T.F_Steps_behind.ok sc_Steps_behind (fun vs H Q E h => ?_) (fun cdv A outer s H vs Q E hr h => ?_)
  · obtain ⟨a, p, x, tg, m, M, r, rfl, st, cl, si, mt, hx, hp, hr0, n1, n6, hb, ws, q⟩ := h
    rfl
  · obtain ⟨a, p, x, tg, m, M, r, rfl, st, cl, si, mt, hx, hp, hr0, n1, n6, hb, ws, q⟩ := h
    refine ⟨_, PSs.nox (pss_cons (ps_setLc (i := 3) (own := [("number", 8)]) rfl sc_Steps_behind.nd rfl rfl (sw_true rfl rfl rfl (by decide +kernel)) (pi_tupK K (pv 1)) (blkOk_by (own := [("number", 8)]) (N := n_Steps_behind) (sc := defScope s_Steps_behind) (by decide +kernel)) (fun _ _ _ _ _ => (pg_name (i := 8) sc_Steps_behind.nd rfl (by first | exact .inl rfl | exact .inr rfl))) (fun _ _ _ _ _ => pts_nil) (fun _ _ _ _ _ => (pe_op op_add (pv 8) (pe_dget (hu_of hr) (pe_slK K (pe_slK K (pv 0))) (pv 2) (fun _ _ => rfl)))))
      (pss_cons (ps_for PassesOwn.never rfl (pi_enumK K (by rfl) T.n_enumerate (pa_cons (pe_slK K (pv 0)) pa_nil)) (pg_tupK K (n := 2) rfl (pgs_cons (pg_name (i := 4) sc_Steps_behind.nd rfl (by first | exact .inl rfl | exact .inr rfl)) (pgs_cons (pg_name (i := 5) sc_Steps_behind.nd rfl (by first | exact .inl rfl | exact .inr rfl)) pgs_nil))) (pss_one (ps_lock (ps_for PassesOwn.never rfl (pi_items (pv 5)) (pg_tupK K (n := 2) rfl (pgs_cons (pg_name (i := 6) sc_Steps_behind.nd rfl (by first | exact .inl rfl | exact .inr rfl)) (pgs_cons (pg_name (i := 7) sc_Steps_behind.nd rfl (by first | exact .inl rfl | exact .inr rfl)) pgs_nil))) (pss_one (ps_asg (pe_callB (call_min2 rfl) (by rfl) T.n_min (by decide +kernel) (pa_cons (pe_ix (ix_listK K) (pv 3) (pv 7) (fun _ _ => rfl)) (pa_cons (pe_op op_add (pe_ix (ix_tupK K) (pv 1) (pv 4) (fun _ _ => rfl)) (pe_methSl (pv 0) T.S_Steps T.me_Steps_price_of_swap (raw0 (ok_Steps_price_of_swap T) (b_Steps_price_of_swap T)) (hr.mono (by decide)) pass0 (pa_cons (pv 2) (pa_cons (pv 6) pa_nil)))) pa_nil))) (pg_sub (pv 3) (pv 7) set_list)))))))
      (pss_one (ps_ret (pe_methSl (pv 0) T.S_Steps T.me_Steps_filled (raw0 (ok_Steps_filled T) (b_Steps_filled T)) (hr.mono (by decide)) pass0 (pa_cons (pv 3) pa_nil)))))), ?_⟩
    obtain ⟨dx, dc, ll, lm, ps, lw, s1, c0, s3, ⟨ds, d1, d2, d3⟩, s5, s6⟩ := id st
    obtain ⟨cx, dO, dP, dS, c1, c2, c3, c4⟩ := id c0
    have stc := st.c
    -- found = [number + self.own_closed.own_out[sign] for number in row]
    refine ⟨_, rfl, _, rfl, ⟨_, sqt hp⟩, fun F hF => ?_⟩
    refine lc_wk Wk.tup hF (fun i l _ => l = (rowL i fun q => rowF r q + m.out x).map V.int) off_pure rfl (fun _ s => seqT s (sqt hp)) ?_ ?_
    · rintro i l y H3 H4 hi sm hl hz e ⟨rfl, e1⟩
      rw [List.length_map] at hi
      obtain ⟨z, f1, rfl⟩ := ints_at e1
      refine ⟨rfl, yes1 ?_⟩
      refine ⟨_, rfl, _, rfl, a, _, dx, _, _, _, _, rfl, keep_slt (keep_of sm) s1, T.S_Steps, T.sl_Steps_own_closed, rfl, dc, _, cx, _, _, _, _, rfl, keep_slt (keep_of sm) c1, T.S_Closed, T.sl_Closed_own_out, rfl, _, rfl, dO, .int (m.out x), rfl, ?_, _, _, rfl, rfl, ?_⟩
      · have g := DGet.k (k := .inr x) (sm _ _ c2)
        rw [valV_dkS, if_pos hx] at g
        exact g
      · refine lc_put off_pure hF (by omega) sm hl hz ?_
        rw [e]
        show _ = (rowL (i + 1) fun q => rowF r q + m.out x).map V.int
        unfold rowL
        rw [List.range_succ, List.map_append, List.map_append]
        show _ ++ [V.int (z + m.out x)] = _ ++ [V.int (rowF r i + m.out x)]
        rw [rowF_at f1]
    · intro l H1 sm1 hl1 hz e
      rw [List.length_map, hr0] at e
      subst e
      have hds : H1 lm = some (.lst (ds.map V.ref)) := sm1 _ _ d1
      have ini : FndOk tg m x r (rowL tg.length fun q => rowF r q + m.out x) 0 0 := by
        refine ⟨by simp, fun q hq => ?_⟩
        rw [rowF_at (rowL_at hq)]
        exact ⟨.inl rfl, fun z hz => by
          rcases hz with k | ⟨p, e, h, _⟩ | ⟨e, h, _⟩
          · omega
          · omega
          · simp at h⟩
      -- for p, moves in enumerate(self.own_moves)
      refine ⟨_, rfl, a, _, dx, _, _, _, _, rfl, keep_slt (keep_of sm1) s1, T.S_Steps, T.sl_Steps_own_moves, rfl, lm, _, rfl, sq hds, ?_⟩
      refine for_wk (n := (ds.map V.ref).length) (S := fun H => SqL K H lm (ds.map V.ref)) Wk.enum (fun i σ H2 => ∃ (f : List Int) (y4 y5 y6 y7 y8 : Option V), σ = [some (.ref a), some (.ref p), some (.str x), some (.ref F), y4, y5, y6, y7, y8] ∧ Same H H2 ∧ H2 F = some (.lst (f.map V.int)) ∧ FndOk tg m x r f i 0)
        ⟨_, none, none, none, none, none, rfl, sm1, hl1, ini⟩ (fun i σ H2 _ ⟨_, _, _, _, _, _, _, s, _⟩ => sq (s _ _ d1)) ?_ ?_
      · rintro i v σ H2 H2' hi ⟨f, y4, y5, y6, y7, y8, rfl, sm2, hf2, fo⟩ ⟨tp, w, rfl, nt, rfl, e1⟩
        rw [List.length_map, d2] at hi
        obtain ⟨row, hrow⟩ := getE_of hi
        obtain ⟨d, g1, g2⟩ := d3 i row hrow
        have hw : w = .ref d := by
          rw [List.getElem?_map, g1] at e1
          exact (Option.some.inj e1).symm
        subst hw
        have mvr := movesOf_at hrow
        refine ⟨tp, _, rfl, sqt upd_same, rfl, _, _, rfl, _, _, rfl, rfl, ?_⟩
        have sm3 : Same H (upd H2 tp (.tup [.int (i : Nat), .ref d])) := sm2.trans (same_upd nt)
        have hf3 : (upd H2 tp (.tup [.int (i : Nat), .ref d])) F = some (.lst (f.map V.int)) := same_upd nt _ _ hf2
        generalize upd H2 tp (.tup [.int (i : Nat), .ref d]) = H3 at sm3 hf3 ⊢
        have hd3 := sm3 _ _ g2
        have nF : F ≠ d := fun z => by rw [z, g2] at hF; cases hF
        -- for other, t in moves.items()
        refine ⟨d, _, hd3, trivial, fun od => ?_⟩
        refine ⟨_, rfl, d, od, _, rfl, upd_same, ?_⟩
        refine for_wk (n := (mvD row.1).length) (S := fun H => H d = some (.frz od (.dK (mvD row.1)))) Wk.items (fun j σ H4 => ∃ (f : List Int) (y6 y7 y8 : Option V), σ = [some (.ref a), some (.ref p), some (.str x), some (.ref F), some (.int (i : Nat)), some (.ref d), y6, y7, y8] ∧ SameX d H H4 ∧ H4 d = some (.frz od (.dK (mvD row.1))) ∧ H4 F = some (.lst (f.map V.int)) ∧ FndOk tg m x r f i j)
          ⟨f, y6, y7, y8, rfl, (Same.x d sm3).trans locked, upd_same, by rw [upd_ne nF]; exact hf3, fo⟩ (fun j σ H4 _ ⟨_, _, _, _, _, _, h, _⟩ => h) ?_ ?_
        · rintro j v σ H4 H4' hj ⟨f, y6, y7, y8, rfl, sm4, hfz, hf4, fo⟩ ⟨tq, k, w, e2, rfl, nq, rfl⟩
          obtain ⟨e, he, rfl, rfl⟩ : ∃ e : Str × Nat, row.1[j]? = some e ∧ k = Sum.inr e.1 ∧ w = .int (e.2 : Nat) := by
            rw [List.getElem?_map] at e2
            cases h : row.1[j]? with
            | none => rw [h] at e2; cases e2
            | some e =>
              rw [h] at e2
              injection e2 with e2
              injection e2 with e2 e3
              exact ⟨e, rfl, e2.symm, e3.symm⟩
          have hm : e ∈ row.1 := List.mem_of_getElem? he
          have hs : e.1 ∈ m.sgs := si row (List.mem_of_getElem? hrow) e hm
          have ht : e.2 < tg.length := mt i e.2 (by
            rw [succs_eq, mvr]
            exact List.mem_map.mpr ⟨e, hm, rfl⟩)
          refine ⟨tq, _, rfl, sqt upd_same, rfl, _, _, rfl, _, _, rfl, rfl, ?_⟩
          have sq4 : Same H4 (upd H4 tq (.tup [kV (.inr e.1), .int (e.2 : Nat)])) := same_upd nq
          generalize upd H4 tq (.tup [kV (.inr e.1), .int (e.2 : Nat)]) = H5 at sq4 ⊢
          have hp5 : H5 p = some (.tup (r.map V.int)) := sq4 _ _ (sm4 _ _ (fun z => by rw [z, g2] at hp; cases hp) hp)
          have hf5 := sq4 _ _ hf4
          have at_f : atI (f.map V.int) ((e.2 : Nat) : Int) = some (.int (rowF f e.2)) := atI_ofNat (by rw [List.getElem?_map, row_get (by rw [fo.1]; exact ht)]; rfl)
          have at_r : atI (r.map V.int) ((i : Nat) : Int) = some (.int (rowF r i)) := atI_ofNat (by rw [List.getElem?_map, row_get (by omega)]; rfl)
          have stc5 : StC T H5 a m.swap := (stc.x g2 (sm4.trans (Same.x d sq4)))
          obtain ⟨ex, ec, w1, w2, w3, w4, _, _, _, _, _, ss, _⟩ := id stc5
          refine ⟨_, rfl, _, rfl, F, _, _, _, rfl, rfl, sq hf5, at_f, _, rfl, _, rfl, p, _, _, _, rfl, rfl, sqt hp5, at_r, _, rfl, a, ex, _, rfl, ss, _, rfl, _, rfl, ?_⟩
          refine ⟨a, m.swap, x, e.1, swP m x e.1, rfl, stc5, fun ne => ?_, fun eq => by unfold swP; rw [if_pos eq], fun H6 sm6 => ?_⟩
          · obtain ⟨v, hv⟩ := cl.all x e.1 hx hs ne
            unfold swP
            rw [if_neg ne, hv]
            rfl
          · refine ⟨_, _, rfl, rfl, _, _, rfl, ?_⟩
            refine ⟨_, rfl, _, rfl, F, _, _, e.2, rfl, rfl, sm6 _ _ hf5, ?_, ?_⟩
            · unfold ixN
              rw [if_pos (by omega), if_pos (by rw [List.length_map, fo.1]; omega)]
              simp
            · refine ⟨f.set e.2 (mn (rowF f e.2) (rowF r i + swP m x e.1)), _, _, _, rfl, ?_, ?_, ?_, fnd_step fo (by rw [mvr]; exact he) ht⟩
              · intro b o nb hb
                rw [upd_ne (fun z => by rw [z, hF] at hb; cases hb)]
                exact sm6 _ _ (sq4 _ _ (sm4 _ _ nb hb))
              · rw [upd_ne nF.symm]
                exact sm6 _ _ (sq4 _ _ hfz)
              · rw [upd_same, List.map_set]
                rfl
        · rintro σ H4 ⟨f, y6, y7, y8, rfl, sm4, hfz, hf4, fo⟩
          refine ⟨hfz, f, _, _, _, _, _, rfl, unlock g2 sm4, by rw [upd_ne nF]; exact hf4, fo.1, fun q hq => (fo.2 q hq).congr fun z => ?_⟩
          have hl : (mvD row.1).length = (movesOf tg i).length := by rw [mvr, List.length_map]
          rw [hl]
          exact cand_next
      · rintro σ H2 ⟨f, y4, y5, y6, y7, y8, rfl, sm2, hf2, fo⟩
        rw [List.length_map, d2] at fo
        -- return self.filled(found)
        have st2 := st.same sm2
        obtain ⟨ex, _, _, _, _, _, ss, _⟩ := id st2
        have first := fnd_first fo
        have fb : ∀ q, q < tg.length → 0 ≤ rowF f q ∧ rowF f q < 1000000 := fun q hq => by
          have h1 := (fo.2 q hq).2 _ (.inl rfl)
          have rz : ∀ p, p < tg.length → 0 ≤ rowF r p ∧ rowF r p < 100000 := fun p hp => hb _ (List.mem_of_getElem? (row_get (by omega)))
          have h2 := rz q hq
          have h3 := cl.pr.out x hx
          refine ⟨?_, by omega⟩
          obtain ⟨⟨p', e', hp', h4, h5⟩, _⟩ := first q hq
          have h6 := rz p' hp'
          rcases h4 with ⟨_, rfl⟩ | ⟨y, hy, _, rfl⟩
          · omega
          · have : 0 ≤ swP m x y.1 := by
              unfold swP
              split
              · exact Int.le_refl _
              · rename_i ne
                cases hv : m.swap x y.1 with
                | none => exact Int.le_refl _
                | some v =>
                  have := (cl.pr.swap _ _ _ hv).2.2.2
                  show 0 ≤ v
                  omega
            omega
        refine ⟨_, rfl, a, ex, _, rfl, ss, _, rfl, ?_⟩
        refine ⟨a, F, tg, m, M, f, rfl, st2, hf2, fo.1, n1, n6, fun H3 p' r' sm3 hp' hl' hm => ?_⟩
        exact q H3 p' r' (sm2.trans sm3) hp' hl' (beh_fill ws first fb hm)
end K7
end

section
set_option Elab.async false
set_option linter.all false
set_option maxRecDepth 100000
namespace K7
open PySem PySem.Spec PyProof.Rows L2 SlX
/-! The walk: rows of words, ends. -/
/-- all that is known of a target, closed prices, their ways -/
structure Ctx (tg : MachS) (m : PrM) (M : Nat → Nat → Int) : Prop where
  ok : TgOk tg
  cl : ClOk m
  si : SgIn tg m
  ws : Ways (n := tg.length) (mv := movesOf tg) (c := m.put) M
theorem rch_path {tg : MachS} (u : Useful tg) {c : Str → Int} {t : Nat} (h : Rch tg 0 t) : ∃ v, Pth tg.length (movesOf tg) c 0 t v := by
  have lt : ∀ s, Rch tg 0 s → s < tg.length := fun s hs => by
    cases hs with
    | nil => exact u.pos
    | snoc _ e => exact u.to _ _ e
  induction h with
  | nil => exact ⟨0, .nil⟩
  | @snoc s t g e ih =>
    obtain ⟨v, hv⟩ := ih
    rw [succs_eq] at e
    obtain ⟨x, hx, rfl⟩ := List.mem_map.mp e
    exact ⟨_, .snoc hv ⟨lt s g, x, hx, rfl, rfl⟩⟩
theorem Ctx.start {tg : MachS} {m : PrM} {M : Nat → Nat → Int} (c : Ctx tg m M) {t : Nat} (ht : t < tg.length) : 0 ≤ M 0 t ∧ M 0 t ≤ 45 := by
  obtain ⟨v, hv⟩ := rch_path (c := m.put) c.ok.useful (c.ok.useful.rch t ht)
  have h0 := c.ok.useful.pos
  exact ⟨c.ws.mid.nn 0 t h0 ht, c.ws.le45 h0 ht (c.ws.path h0 hv).1⟩
theorem swP_nn {m : PrM} (ok : PrOk m) (x y : Str) : 0 ≤ swP m x y := by
  unfold swP
  split
  · exact Int.le_refl _
  · cases hv : m.swap x y with
    | none => exact Int.le_refl _
    | some v =>
      have := (ok.swap _ _ _ hv).2.2.2
      show 0 ≤ v
      omega
/-- the row behind, with its bounds -/
theorem Ctx.bnd {tg : MachS} {m : PrM} {M : Nat → Nat → Int} (c : Ctx tg m M) {x : Str} (hx : x ∈ m.sgs) {r r' : List Int} {b : Int} (hl : r.length = tg.length) (hl' : r'.length = tg.length) (hb : ∀ z ∈ r, 0 ≤ z ∧ z ≤ b)
    (h : Beh tg.length (movesOf tg) (swP m x) (m.out x) M (rowF r) (rowF r')) : ∀ z ∈ r', 0 ≤ z ∧ z ≤ b + 9 := by
  intro z hz
  obtain ⟨t, ht, rfl⟩ := List.getElem_of_mem hz
  have ht' : t < tg.length := by omega
  have e : rowF r' t = r'[t] := rowF_at (List.getElem?_eq_getElem ht)
  have ho := c.cl.pr.out x hx
  have h1 := h.le c.ws ht'
  have h2 := h.nn c.ws (by omega) (fun p _ e _ => swP_nn c.cl.pr x e.1) (fun p hp => (hb _ (List.mem_of_getElem? (row_get (by omega)))).1) ht'
  have h3 := (hb _ (List.mem_of_getElem? (row_get (r := r) (i := t) (by omega)))).2
  rw [← e]
  omega
/-- the row of a word -/
inductive RowOf (tg : MachS) (m : PrM) (M : Nat → Nat → Int) : List Nat → List Int → Prop where
  | nil : RowOf tg m M [] (rowL tg.length (M 0))
  | snoc {w : List Nat} {r r' : List Int} {c : Nat} : RowOf tg m M w r → r'.length = tg.length → Beh tg.length (movesOf tg) (swP m (sg c)) (m.out (sg c)) M (rowF r) (rowF r') → RowOf tg m M (w ++ [c]) r'
theorem RowOf.len {tg : MachS} {m : PrM} {M : Nat → Nat → Int} {w : List Nat} {r : List Int} (h : RowOf tg m M w r) : r.length = tg.length := by
  cases h with
  | nil => simp
  | snoc _ h _ => exact h
theorem RowOf.bnd {tg : MachS} {m : PrM} {M : Nat → Nat → Int} (c : Ctx tg m M) {w : List Nat} {r : List Int} (hw : ∀ k ∈ w, sg k ∈ m.sgs) (h : RowOf tg m M w r) : ∀ z ∈ r, 0 ≤ z ∧ z ≤ 45 + 9 * (w.length : Int) := by
  induction h with
  | nil =>
    intro z hz
    obtain ⟨t, ht, rfl⟩ := List.mem_map.mp hz
    have := c.start (List.mem_range.mp ht)
    simp
    omega
  | @snoc w r r' k g hl hb ih =>
    intro z hz
    have := c.bnd (hw k (by simp)) g.len hl (ih fun j hj => hw j (by simp [hj])) hb z hz
    simp
    omega
theorem row_ext {n : Nat} {r s : List Int} (hr : r.length = n) (hs : s.length = n) (h : ∀ t, t < n → rowF r t = rowF s t) : r = s := by
  refine List.ext_getElem (by omega) fun t h1 h2 => ?_
  have := h t (by omega)
  rw [rowF_at (List.getElem?_eq_getElem h1), rowF_at (List.getElem?_eq_getElem h2)] at this
  exact this
theorem RowOf.uniq {tg : MachS} {m : PrM} {M : Nat → Nat → Int} {w : List Nat} {r : List Int} (h : RowOf tg m M w r) : ∀ {s : List Int}, RowOf tg m M w s → r = s := by
  induction h with
  | nil =>
    intro s g
    generalize hw : ([] : List Nat) = w at g
    cases g with
    | nil => rfl
    | snoc _ _ _ => simp at hw
  | @snoc w r r' k g hl hb ih =>
    intro s g2
    generalize hw : w ++ [k] = w2 at g2
    cases g2 with
    | nil => simp at hw
    | @snoc w3 r3 r3' k3 g3 hl3 hb3 =>
      obtain ⟨rfl, e⟩ := List.append_inj' hw rfl
      injection e with e _
      subst e
      have := ih g3
      subst this
      exact row_ext hl hl3 fun t ht => hb.uniq hb3 t ht
/-- the cost at the end -/
def EndOf (tg : MachS) (r : List Int) (k : Int) : Prop := MinOf (fun z => ∃ p, p < tg.length ∧ lastOf tg p = true ∧ z = rowF r p) k
theorem has_last {tg : MachS} (u : Useful tg) : ∃ p, p < tg.length ∧ lastOf tg p = true := by
  have h := u.ends 0 u.pos
  have : ∀ s, Ends tg s → s < tg.length → ∃ p, p < tg.length ∧ lastOf tg p = true := fun s hs => by
    induction hs with
    | last e => exact fun h => ⟨_, h, e⟩
    | step e _ ih => exact fun _ => ih (u.to _ _ e)
  exact this 0 h u.pos
theorem lastOf_at {tg : MachS} {p : Nat} {row : List (Str × Nat) × Bool} (h : tg[p]? = some row) : lastOf tg p = row.2 := by
  unfold lastOf
  rw [h]
  rfl
/-- numbers at last states among the first i -/
def LstOk (tg : MachS) (r : List Int) (i : Nat) (l : List V) : Prop := ∃ zs : List Int, l = zs.map V.int ∧ ∀ z, z ∈ zs ↔ ∃ p, p < i ∧ lastOf tg p = true ∧ z = rowF r p
theorem LstOk.put {tg : MachS} {r : List Int} {i : Nat} {l : List V} {x : Int} (h : LstOk tg r i l) (e : lastOf tg i = true) (hx : rowF r i = x) : LstOk tg r (i + 1) (l ++ [.int x]) := by
  obtain ⟨zs, rfl, hz⟩ := h
  refine ⟨zs ++ [x], by simp, fun z => ?_⟩
  rw [List.mem_append, hz, List.mem_singleton]
  constructor
  · rintro (⟨p, h1, h2⟩ | rfl)
    · exact ⟨p, by omega, h2⟩
    · exact ⟨i, by omega, e, hx.symm⟩
  · rintro ⟨p, h1, h2, h3⟩
    by_cases c : p = i
    · subst c
      exact .inr (h3.trans hx)
    · exact .inl ⟨p, by omega, h2, h3⟩
theorem LstOk.skip {tg : MachS} {r : List Int} {i : Nat} {l : List V} (h : LstOk tg r i l) (e : lastOf tg i = false) : LstOk tg r (i + 1) l := by
  obtain ⟨zs, rfl, hz⟩ := h
  refine ⟨zs, rfl, fun z => ?_⟩
  rw [hz]
  constructor
  · rintro ⟨p, h1, h2⟩
    exact ⟨p, by omega, h2⟩
  · rintro ⟨p, h1, h2, h3⟩
    refine ⟨p, ?_, h2, h3⟩
    rcases Nat.lt_or_ge p i with c | c
    · exact c
    · have : p = i := by omega
      subst this
      rw [e] at h2
      cases h2
theorem LstOk.nil {tg : MachS} {r : List Int} : LstOk tg r 0 [] := ⟨[], rfl, fun z => by simp⟩
theorem LstOk.min {tg : MachS} {r : List Int} {zs : List Int} {k : Int} (h : ∀ z, z ∈ zs ↔ ∃ p, p < tg.length ∧ lastOf tg p = true ∧ z = rowF r p) (hk : k ∈ zs) (hl : ∀ y, y ∈ zs → k ≤ y) : EndOf tg r k := ⟨(h k).mp hk, fun z hz => hl z ((h z).mpr hz)⟩
theorem LstOk.pos {tg : MachS} (u : Useful tg) {r : List Int} {zs : List Int} (h : ∀ z, z ∈ zs ↔ ∃ p, p < tg.length ∧ lastOf tg p = true ∧ z = rowF r p) : 0 < zs.length := by
  obtain ⟨p, h1, h2⟩ := has_last u
  exact List.length_pos_of_mem ((h _).mpr ⟨p, h1, h2, rfl⟩)
theorem lasts_at {tg : MachS} {i : Nat} {y : V} (e : ((tg.map (·.2)).map V.bl)[i]? = some y) : y = .bl (lastOf tg i) := by
  rw [List.getElem?_map, List.getElem?_map] at e
  cases h : tg[i]? with
  | none => rw [h] at e; cases e
  | some row =>
    rw [h] at e
    rw [lastOf_at h]
    exact (Option.some.inj e).symm
/-! ### Steps.end -/
def sp_Steps_end {K : PySem.W.Frag} {mg : Str → Option Value} (T : Txt K mg) : Sp := fun vs H Q _ => ∃ (a p : Addr) (tg : MachS) (m : PrM) (M : Nat → Nat → Int) (r : List Int), vs = [.ref a, .ref p] ∧ StAt T H a tg m M ∧ Useful tg ∧ tg.length ≤ 6 ∧ H p = some (.tup (r.map V.int)) ∧ r.length = tg.length ∧ ∀ H' k, Same H H' → EndOf tg r k → Q (.int k) H'
set_option maxHeartbeats 4000000 in
theorem ok_Steps_end {P : Program} {w : World} {K : PySem.W.Frag} {mg : Str → Option Value} {base : Heap} (T : Txt K mg) : FnOk P w K mg base CX0 1 T.a_Steps_end T.d_Steps_end ["self", "row"] (sp_Steps_end T) := by
  refine T.F_Steps_end.ok sc_Steps_end (fun vs H Q E h => ?_) (fun cdv A outer s H vs Q E hr h => ?_)
  · obtain ⟨a, p, tg, m, M, r, rfl, st, us, n6, hp, hr0, q⟩ := h
    rfl
  · obtain ⟨a, p, tg, m, M, r, rfl, st, us, n6, hp, hr0, q⟩ := h
    refine ⟨_, PSs.nox (pss_one (ps_ret (pe_callB (cr_minK K rfl) (by rfl) T.n_min (by decide +kernel) (pa_cons (pe_lc (own := [("number", 2), ("last", 3)]) rfl sc_Steps_end.nd (pi_zipM K (by rfl) T.n_zip (pa_cons (pv 1) (pa_cons (pe_slK K (pv 0)) pa_nil))) (blkOk_by (own := [("number", 2), ("last", 3)]) (N := n_Steps_end) (sc := defScope s_Steps_end) (by decide +kernel)) (fun _ _ _ _ _ => (pg_tupK K (n := 2) rfl (pgs_cons (pg_name (i := 2) sc_Steps_end.nd rfl (by first | exact .inl rfl | exact .inr rfl)) (pgs_cons (pg_name (i := 3) sc_Steps_end.nd rfl (by first | exact .inl rfl | exact .inr rfl)) pgs_nil)))) (fun _ _ _ _ _ => (pts_one (pt_val (pv 3)))) (fun _ _ _ _ _ => (pv 2))) pa_nil)))), ?_⟩
    obtain ⟨dx, dc, ll, lm, ps, lw, s1, c0, s3, s4, s5, s6⟩ := id st
    have hl0 : (r.map V.int).length = ((tg.map (·.2)).map V.bl).length := by rw [List.length_map, List.length_map, List.length_map]; exact hr0
    refine ⟨_, rfl, _, rfl, a, _, dx, _, _, _, _, rfl, s1, T.S_Steps, T.sl_Steps_own_lasts, rfl, p, ll, _, _, rfl, sqt hp, sq s3, fun D hD => ?_⟩
    refine lc_wk (Wk.zipM hl0) hD (fun i l _ => LstOk tg r i l) off_pure .nil (fun _ s => ⟨seqT s (sqt hp), s.seq (sq s3)⟩) ?_ ?_
    · rintro i l y H3 H4 hi sm hl hz e ⟨t, x, y, rfl, nt, rfl, e1, e2⟩
      rw [List.length_map] at hi
      obtain ⟨x, f1, rfl⟩ := ints_at e1
      have ey := lasts_at e2
      subst ey
      refine ⟨t, _, rfl, sqt upd_same, rfl, _, _, rfl, _, _, rfl, rfl, rfl, _, rfl, _, rfl, ?_⟩
      refine ite2 (fun c => ?_) (fun c => ?_)
      · exact ⟨_, rfl, lc_put off_pure hD (by omega) (sm.trans (same_upd nt)) (same_upd nt _ _ hl) hz (e.put c (rowF_at f1))⟩
      · exact ⟨_, sm.trans (same_upd nt), same_upd nt _ _ hl, by omega, e.skip (by simpa using c)⟩
    · rintro l H3 sm hl hz ⟨zs, rfl, hzs⟩
      rw [List.length_map, hr0] at hzs
      exact ⟨D, zs, rfl, sq hl, LstOk.pos us hzs, fun k hk hle => q _ _ sm (LstOk.min hzs hk hle)⟩
/-! ### Steps.row_of_word -/
def sp_Steps_row_of_word {K : PySem.W.Frag} {mg : Str → Option Value} (T : Txt K mg) : Sp := fun vs H Q _ => ∃ (a : Addr) (z : Str) (tg : MachS) (m : PrM) (M : Nat → Nat → Int), vs = [.ref a, .str z] ∧ StAt T H a tg m M ∧ Ctx tg m M ∧ (∀ k ∈ z.cps.toList, sg k ∈ m.sgs) ∧ z.cps.size ≤ 1000 ∧
  ∀ H' p (r : List Int), Same H H' → H' p = some (.tup (r.map V.int)) → RowOf tg m M z.cps.toList r → Q (.ref p) H'
set_option maxHeartbeats 4000000 in
theorem ok_Steps_row_of_word {P : Program} {w : World} {K : PySem.W.Frag} {mg : Str → Option Value} {base : Heap} (T : Txt K mg) : FnOk P w K mg base CX0 3 T.a_Steps_row_of_word T.d_Steps_row_of_word ["self", "word"] (sp_Steps_row_of_word T) := by
  refine T.F_Steps_row_of_word.ok sc_Steps_row_of_word (fun vs H Q E h => ?_) (fun cdv A outer s H vs Q E hr h => ?_)
  · obtain ⟨a, z, tg, m, M, rfl, st, cx, hz, h1000, q⟩ := h
    rfl
  · obtain ⟨a, z, tg, m, M, rfl, st, cx, hz, h1000, q⟩ := h
    refine ⟨_, PSs.nox (pss_cons (ps_set (i := 2) sc_Steps_row_of_word.nd rfl (by first | exact .inl rfl | exact .inr rfl) (pe_slK K (pv 0)))
      (pss_cons (ps_for PassesOwn.never rfl (pi_str (pv 1)) (pg_name (i := 3) sc_Steps_row_of_word.nd rfl (by first | exact .inl rfl | exact .inr rfl)) (pss_one (ps_set (i := 2) sc_Steps_row_of_word.nd rfl (by first | exact .inl rfl | exact .inr rfl) (pe_methSl (pv 0) T.S_Steps T.me_Steps_behind (raw0 (ok_Steps_behind T) (b_Steps_behind T)) (hr.mono (by decide)) pass0 (pa_cons (pv 2) (pa_cons (pv 3) pa_nil))))))
      (pss_one (ps_ret (pv 2))))), ?_⟩
    obtain ⟨dx, dc, ll, lm, ps, lw, s1, c0, s3, s4, s5, s6⟩ := id st
    refine ⟨_, rfl, a, _, dx, _, _, _, _, rfl, s1, T.S_Steps, T.sl_Steps_own_start, rfl, ?_⟩
    refine ⟨_, rfl, _, rfl, ?_⟩
    refine for_wk (n := z.cps.size) (S := fun _ => True) Wk.text (fun i σ H2 => ∃ (p : Addr) (r : List Int) (y3 : Option V), σ = [some (.ref a), some (.str z), some (.ref p), y3] ∧ Same H H2 ∧ H2 p = some (.tup (r.map V.int)) ∧ RowOf tg m M (z.cps.toList.take i) r)
      ⟨ps, _, none, rfl, Same.refl H, s5, .nil⟩ (fun _ _ _ _ _ => trivial) ?_ ?_
    · rintro i v σ H2 H2' hi ⟨p, r, y3, rfl, sm, hp, ro⟩ ⟨rfl, c, hc, rfl⟩
      have hc' : z.cps.toList[i]? = some c := by rw [Array.getElem?_toList]; exact hc
      have hm : c ∈ z.cps.toList := List.mem_of_getElem? hc'
      have st2 := st.same sm
      obtain ⟨ex, _, _, _, _, _, ss, _⟩ := id st2
      have bnd := ro.bnd cx fun k hk => hz k (List.mem_of_mem_take hk)
      have hlen : (z.cps.toList.take i).length ≤ 1000 := by
        rw [List.length_take]
        have : z.cps.toList.length = z.cps.size := Array.length_toList
        omega
      refine ⟨_, rfl, a, ex, _, rfl, ss, _, rfl, _, rfl, ?_⟩
      refine ⟨a, p, sg c, tg, m, M, r, rfl, st2, cx.cl, cx.si, cx.ok.useful.to, hz c hm, hp, ro.len, cx.ok.useful.pos, cx.ok.six, fun x hx => ?_, cx.ws, fun H3 p' r' sm3 hp' hl' hb => ?_⟩
      · have := bnd x hx
        omega
      · refine ⟨p', r', _, rfl, sm.trans sm3, hp', ?_⟩
        rw [List.take_add_one, hc']
        exact .snoc ro hl' hb
    · rintro σ H2 ⟨p, r, y3, rfl, sm, hp, ro⟩
      rw [List.take_of_length_le (by rw [Array.length_toList]; exact Nat.le_refl _)] at ro
      exact ⟨_, rfl, q _ p r sm hp ro⟩
end K7
end

section
set_option Elab.async false
set_option linter.all false
set_option maxRecDepth 100000
namespace K7
open PySem PySem.Spec PyProof.Rows L2 SlX
/-! The walk: the matrix of ways. -/
/-- a matrix of one's own: H0 knows none of its lists -/
def MatL (H0 H : Hp) (lw : Addr) (n : Nat) (M : Nat → Nat → Int) : Prop := ∃ rs : List Addr, H lw = some (.lst (rs.map V.ref)) ∧ rs.length = n ∧ rs.Nodup ∧ H0 lw = none ∧ (∀ r ∈ rs, H0 r = none ∧ r ≠ lw) ∧
  ∀ p, p < n → ∃ r, rs[p]? = some r ∧ H r = some (.lst ((rowL n (M p)).map V.int))
theorem MatL.mat {H0 H : Hp} {lw : Addr} {n : Nat} {M : Nat → Nat → Int} (h : MatL H0 H lw n M) : MatAt H lw n M := by
  obtain ⟨rs, h1, h2, _, _, _, h3⟩ := h
  exact ⟨rs, h1, h2, h3⟩
/-- the rows that are made so far -/
def MatR (H0 : Hp) (D : Addr) (n : Nat) (M : Nat → Nat → Int) (i : Nat) (l : List V) (H : Hp) : Prop := ∃ rs : List Addr, l = rs.map V.ref ∧ rs.length = i ∧ rs.Nodup ∧ (∀ r ∈ rs, H0 r = none ∧ r ≠ D) ∧ ∀ p, p < i → ∃ r, rs[p]? = some r ∧ H r = some (.lst ((rowL n (M p)).map V.int))
theorem MatR.off {H0 : Hp} {D : Addr} {n : Nat} {M : Nat → Nat → Int} : Off D (MatR H0 D n M) := by
  rintro i l H H' k ⟨rs, e, h1, h2, h3, h4⟩
  refine ⟨rs, e, h1, h2, h3, fun p hp => ?_⟩
  obtain ⟨r, a, b⟩ := h4 p hp
  exact ⟨r, a, k _ _ (h3 r (List.mem_of_getElem? a)).2 b⟩
theorem MatR.nil {H0 H : Hp} {D : Addr} {n : Nat} {M : Nat → Nat → Int} : MatR H0 D n M 0 [] H := ⟨[], rfl, rfl, List.nodup_nil, fun r h => by simp at h, fun p h => absurd h (Nat.not_lt_zero _)⟩
theorem MatR.put {H0 H H' : Hp} {D D2 : Addr} {n : Nat} {M : Nat → Nat → Int} {i : Nat} {l : List V} (h : MatR H0 D n M i l H) (s : Same H H') (s0 : Same H0 H) (fr : H D2 = none) (hD : D2 ≠ D) (h2 : H' D2 = some (.lst ((rowL n (M i)).map V.int))) :
    MatR H0 D n M (i + 1) (l ++ [.ref D2]) H' := by
  obtain ⟨rs, rfl, h1, hn, h3, h4⟩ := h
  refine ⟨rs ++ [D2], by simp, by simp [h1], ?_, fun r hr => ?_, fun p hp => ?_⟩
  · rw [List.nodup_append]
    refine ⟨hn, by simp, fun a ha b hb => ?_⟩
    simp at hb
    subst hb
    rintro rfl
    obtain ⟨p, hp, e⟩ := List.getElem_of_mem ha
    obtain ⟨r, a1, a2⟩ := h4 p (by omega)
    rw [List.getElem?_eq_getElem hp, e] at a1
    obtain rfl := Option.some.inj a1
    rw [fr] at a2
    cases a2
  · rcases List.mem_append.mp hr with q | q
    · exact h3 r q
    · simp at q
      subst q
      exact ⟨s0.free fr, hD⟩
  · by_cases c : p < i
    · obtain ⟨r, a, b⟩ := h4 p c
      exact ⟨r, by rw [List.getElem?_append_left (by omega)]; exact a, s _ _ b⟩
    · have : p = i := by omega
      subst this
      exact ⟨D2, by rw [List.getElem?_append_right (by omega), h1]; simp, h2⟩
theorem rgV_at {n : Nat} {i : Nat} {y : V} (e : (rgV 0 (n : Int))[i]? = some y) : i < n ∧ y = .int (i : Nat) := by
  unfold rgV at e
  rw [List.getElem?_map] at e
  cases h : (List.range ((n : Int) - 0).toNat)[i]? with
  | none => rw [h] at e; cases e
  | some j =>
    rw [h] at e
    have := List.getElem?_eq_some_iff.mp h
    obtain ⟨h1, h2⟩ := this
    rw [List.getElem_range] at h2
    rw [List.length_range] at h1
    subst h2
    refine ⟨by omega, (Option.some.inj e).symm.trans ?_⟩
    show V.int (0 + (i : Int)) = V.int (i : Int)
    rw [Int.zero_add]
theorem rgV_len (n : Nat) : (rgV 0 (n : Int)).length = n := by rw [rgV_length]; omega
/-! ### lowered_ways -/
def sp_lowered_ways {K : PySem.W.Frag} {mg : Str → Option Value} (T : Txt K mg) : Sp := fun vs H Q _ => ∃ (lw : Addr) (n k : Nat) (M : Nat → Nat → Int), vs = [.ref lw, .int (k : Nat)] ∧ MatAt H lw n M ∧ k < n ∧ n ≤ 6 ∧ ∀ H' p, Same H H' → MatL H H' p n (low M k) → Q (.ref p) H'
set_option maxHeartbeats 4000000 in
theorem ok_lowered_ways {P : Program} {w : World} {K : PySem.W.Frag} {mg : Str → Option Value} {base : Heap} (T : Txt K mg) : FnOk P w K mg base CX0 1 T.a_lowered_ways T.d_lowered_ways ["ways", "middle"] (sp_lowered_ways T) := by
  refine T.F_lowered_ways.ok sc_lowered_ways (fun vs H Q E h => ?_) (fun cdv A outer s H vs Q E hr h => ?_)
  · obtain ⟨lw, n, k, M, rfl, mat, hk, n6, q⟩ := h
    rfl
  · obtain ⟨lw, n, k, M, rfl, mat, hk, n6, q⟩ := h
    refine ⟨_, PSs.nox (pss_cons (ps_set (i := 2) sc_lowered_ways.nd rfl (by first | exact .inl rfl | exact .inr rfl) (pe_listRg rfl (by rfl) T.n_list (prg_1 (by rfl) T.n_range (pe_callB (call_lenK K) (by rfl) T.n_len (by decide +kernel) (pa_cons (pv 0) pa_nil)))))
      (pss_one (ps_ret (pe_lc (own := [("p", 3)]) rfl sc_lowered_ways.nd (pi_listK K (pv 2)) (blkOk_by (own := [("p", 3)]) (N := n_lowered_ways) (sc := defScope s_lowered_ways) (by decide +kernel)) (fun _ _ _ _ _ => (pg_name (i := 3) sc_lowered_ways.nd rfl (by first | exact .inl rfl | exact .inr rfl))) (fun _ _ _ _ _ => pts_nil) (fun _ _ _ _ _ => (pe_lc (own := [("t", 4)]) rfl sc_lowered_ways.nd (pi_listK K (pv 2)) (blkOk_by (own := [("t", 4)]) (N := n_lowered_ways) (by kernel_rfl)) (fun _ _ _ _ _ => (pg_name (i := 4) sc_lowered_ways.nd rfl (by first | exact .inl rfl | exact .inr rfl))) (fun _ _ _ _ _ => pts_nil) (fun _ _ _ _ _ => (pe_callB (call_min2 rfl) (by rfl) T.n_min (by decide +kernel) (pa_cons (pe_ix (ix_listK K) (pe_ix (ix_listK K) (pv 0) (pv 3) (fun _ _ => rfl)) (pv 4) (fun _ _ => rfl)) (pa_cons (pe_op op_add (pe_ix (ix_listK K) (pe_ix (ix_listK K) (pv 0) (pv 3) (fun _ _ => rfl)) (pv 1) (fun _ _ => rfl)) (pe_ix (ix_listK K) (pe_ix (ix_listK K) (pv 0) (pv 1) (fun _ _ => rfl)) (pv 4) (fun _ _ => rfl))) pa_nil)))))))))), ?_⟩
    obtain ⟨rs, g1, g2, g3⟩ := id mat
    refine ⟨_, rfl, lw, _, rfl, .inl (sq g1), _, rfl, ?_⟩
    have hl : ((rs.map V.ref).length : Int) = (n : Int) := by rw [List.length_map, g2]
    rw [hl]
    refine ⟨RgOk.of_le (by omega) (by omega) (by omega) (by omega), fun R hR => ?_⟩
    have s1 : Same H (upd H R (.lst (rgV 0 (n : Int)))) := same_upd hR
    have hR1 : (upd H R (.lst (rgV 0 (n : Int)))) R = some (.lst (rgV 0 (n : Int))) := upd_same
    generalize upd H R (.lst (rgV 0 (n : Int))) = H1 at s1 hR1 ⊢
    refine ⟨_, rfl, _, rfl, ⟨_, sq hR1⟩, fun D hD => ?_⟩
    refine lc_wk Wk.list hD (MatR H D n (low M k)) MatR.off .nil (fun _ s => s.seq (sq hR1)) ?_ ?_
    · rintro i l y H3 H4 hi sm hl1 hz mr ⟨rfl, e⟩
      obtain ⟨hi, rfl⟩ := rgV_at e
      refine ⟨rfl, yes1 ?_⟩
      refine ⟨_, rfl, _, rfl, ⟨_, sq (sm _ _ hR1)⟩, fun D2 hD2 => ?_⟩
      refine lc_wk Wk.list hD2 (fun j l _ => l = (rowL j (low M k i)).map V.int) off_pure rfl (fun _ s => s.seq (sq (sm _ _ hR1))) ?_ ?_
      · rintro j l2 y H5 H6 hj sm2 hl2 hz2 e2 ⟨rfl, e⟩
        obtain ⟨hj, rfl⟩ := rgV_at e
        obtain ⟨rs, g1, g2, g3⟩ := mat.same ((s1.trans sm).trans sm2)
        obtain ⟨ri, a1, a2⟩ := g3 i hi
        obtain ⟨rk, b1, b2⟩ := g3 k hk
        have at1 : atI (rs.map V.ref) ((i : Nat) : Int) = some (.ref ri) := atI_ofNat (by rw [List.getElem?_map, a1]; rfl)
        have at2 : atI (rs.map V.ref) ((k : Nat) : Int) = some (.ref rk) := atI_ofNat (by rw [List.getElem?_map, b1]; rfl)
        have at3 : ∀ p t, t < n → atI ((rowL n (M p)).map V.int) ((t : Nat) : Int) = some (.int (M p t)) := fun p t ht => atI_ofNat (by rw [List.getElem?_map, rowL_at ht]; rfl)
        refine ⟨rfl, yes1 ?_⟩
        refine ⟨_, rfl, _, rfl, lw, _, _, _, rfl, rfl, sq g1, at1, _, rfl, ri, _, _, _, rfl, rfl, sq a2, at3 i j hj, ?_⟩
        refine ⟨_, rfl, _, rfl, lw, _, _, _, rfl, rfl, sq g1, at1, _, rfl, ri, _, _, _, rfl, rfl, sq a2, at3 i k hk, ?_⟩
        refine ⟨_, rfl, _, rfl, lw, _, _, _, rfl, rfl, sq g1, at2, _, rfl, rk, _, _, _, rfl, rfl, sq b2, at3 k j hj, _, _, rfl, rfl, _, _, rfl, ?_⟩
        refine lc_put off_pure hD2 (by omega) sm2 hl2 hz2 ?_
        rw [e2]
        show _ = (rowL (j + 1) (low M k i)).map V.int
        unfold rowL
        rw [List.range_succ, List.map_append, List.map_append]
        rfl
      · intro l2 H5 sm2 hl2 hz2 e2
        rw [rgV_len] at e2
        subst e2
        exact lc_put MatR.off hD (by omega) (sm.trans sm2) (sm2 _ _ hl1) hz (mr.put sm2 (s1.trans sm) hD2 (fun z => by rw [z, hl1] at hD2; cases hD2) hl2)
    · intro l H3 sm hl1 hz mr
      rw [rgV_len] at mr
      obtain ⟨rs', rfl, h1, h2, h3, h4⟩ := mr
      exact q H3 D (s1.trans sm) ⟨rs', hl1, h1, h2, s1.free hD, h3, h4⟩
/-! ### put_ways -/
/-- the moves that are seen behind i whole rows and j moves of the next -/
def Seen (tg : MachS) (i j p : Nat) (e : Str × Nat) : Prop := (p < i ∧ e ∈ movesOf tg p) ∨ (p = i ∧ e ∈ (movesOf tg i).take j)
/-- how far the matrix is -/
structure IniP (tg : MachS) (put : Str → Int) (i j : Nat) (M : Nat → Nat → Int) : Prop where
  diag : ∀ p, p < tg.length → M p p = 0
  le : ∀ p e, Seen tg i j p e → p ≠ e.2 → M p e.2 ≤ put e.1
  or : ∀ p t, p < tg.length → t < tg.length → p ≠ t → M p t = far ∨ Ed tg.length (movesOf tg) put p t (M p t)
theorem seen_step {tg : MachS} {i j p : Nat} {e x : Str × Nat} (he : (movesOf tg i)[j]? = some e) : Seen tg i (j + 1) p x ↔ Seen tg i j p x ∨ (p = i ∧ x = e) := by
  unfold Seen
  rw [List.take_add_one, he]
  simp only [Option.toList_some, List.mem_append, List.mem_singleton]
  constructor
  · rintro (h | ⟨h1, h2 | h2⟩)
    · exact .inl (.inl h)
    · exact .inl (.inr ⟨h1, h2⟩)
    · exact .inr ⟨h1, h2⟩
  · rintro ((h | ⟨h1, h2⟩) | ⟨h1, h2⟩)
    · exact .inl h
    · exact .inr ⟨h1, .inl h2⟩
    · exact .inr ⟨h1, .inr h2⟩
theorem seen_next {tg : MachS} {i p : Nat} {x : Str × Nat} : Seen tg (i + 1) 0 p x ↔ Seen tg i (movesOf tg i).length p x := by
  unfold Seen
  rw [List.take_of_length_le (Nat.le_refl _)]
  simp only [List.take_zero, List.not_mem_nil, and_false, or_false]
  constructor
  · rintro ⟨h1, h2⟩
    by_cases c : p = i
    · subst c
      exact .inr ⟨rfl, h2⟩
    · exact .inl ⟨by omega, h2⟩
  · rintro (⟨h1, h2⟩ | ⟨rfl, h2⟩)
    · exact ⟨by omega, h2⟩
    · exact ⟨by omega, h2⟩
def mset (M : Nat → Nat → Int) (i t : Nat) (v : Int) : Nat → Nat → Int := fun p s => if p = i ∧ s = t then v else M p s
theorem rowL_set {n : Nat} {M : Nat → Nat → Int} {i t : Nat} {v : Int} : (rowL n (M i)).set t v = rowL n (mset M i t v i) := by
  refine List.ext_getElem (by simp) fun k h1 h2 => ?_
  rw [List.getElem_set]
  unfold mset
  by_cases c : t = k
  · subst c
    simp
  · simp [c]
    intro z
    exact absurd z.symm c
theorem IniP.step {tg : MachS} {put : Str → Int} {i j : Nat} {M : Nat → Nat → Int} (h : IniP tg put i j M) {e : Str × Nat} (he : (movesOf tg i)[j]? = some e) (hi : i < tg.length) (hne : i ≠ e.2) : IniP tg put i (j + 1) (mset M i e.2 (mn (M i e.2) (put e.1))) where
  diag := fun p hp => by
    unfold mset
    rw [if_neg (fun z => hne (z.1.symm.trans z.2))]
    exact h.diag p hp
  le := fun p x hx ne => by
    unfold mset
    have l1 := mn_le_l (M i e.2) (put e.1)
    have l2 := mn_le_r (M i e.2) (put e.1)
    rcases (seen_step he).mp hx with k | ⟨rfl, rfl⟩
    · split
      · rename_i z
        obtain ⟨rfl, z2⟩ := z
        have := h.le p x k ne
        rw [z2] at this
        omega
      · exact h.le p x k ne
    · rw [if_pos ⟨rfl, rfl⟩]
      exact l2
  or := fun p t hp ht ne => by
    unfold mset
    split
    · rename_i z
      obtain ⟨rfl, rfl⟩ := z
      rcases mn_or (M p e.2) (put e.1) with k | k
      · rw [k]; exact h.or p e.2 hp ht ne
      · rw [k]; exact .inr ⟨hp, e, List.mem_of_getElem? he, rfl, rfl⟩
    · exact h.or p t hp ht ne
theorem IniP.skip {tg : MachS} {put : Str → Int} {i j : Nat} {M : Nat → Nat → Int} (h : IniP tg put i j M) {e : Str × Nat} (he : (movesOf tg i)[j]? = some e) (heq : i = e.2) : IniP tg put i (j + 1) M where
  diag := h.diag
  le := fun p x hx ne => by
    rcases (seen_step he).mp hx with k | ⟨rfl, rfl⟩
    · exact h.le p x k ne
    · exact absurd heq ne
  or := h.or
theorem IniP.next {tg : MachS} {put : Str → Int} {i : Nat} {M : Nat → Nat → Int} (h : IniP tg put i (movesOf tg i).length M) : IniP tg put (i + 1) 0 M := ⟨h.diag, fun p x hx => h.le p x (seen_next.mp hx), h.or⟩
theorem IniP.ini {tg : MachS} {put : Str → Int} {M : Nat → Nat → Int} (h : IniP tg put tg.length 0 M) : Ini tg.length (movesOf tg) put M where
  diag := h.diag
  le := fun p t k e ne => by
    obtain ⟨hp, x, hx, rfl, rfl⟩ := e
    exact h.le p x (.inl ⟨hp, hx⟩) ne
  or := h.or
/-- a store into a matrix of one's own -/
theorem MatL.set {H0 H : Hp} {lw : Addr} {n : Nat} {M : Nat → Nat → Int} (h : MatL H0 H lw n M) {i t : Nat} {v : Int} {r : Addr} (hr : ∃ rs : List Addr, H lw = some (.lst (rs.map V.ref)) ∧ rs[i]? = some r) :
    MatL H0 (upd H r (.lst (((rowL n (M i)).map V.int).set t (.int v)))) lw n (mset M i t v) := by
  obtain ⟨rs, h1, h2, h3, h4, h5, h6⟩ := h
  obtain ⟨rs', g1, g2⟩ := hr
  rw [h1] at g1
  have e : rs = rs' := by
    injection g1 with g1
    injection g1 with g1
    exact List.map_inj_right (fun a b q => by injection q) |>.mp g1
  subst e
  have hm := List.mem_of_getElem? g2
  refine ⟨rs, by rw [upd_ne (h5 r hm).2.symm]; exact h1, h2, h3, h4, h5, fun p hp => ?_⟩
  obtain ⟨r', a, b⟩ := h6 p hp
  refine ⟨r', a, ?_⟩
  by_cases c : r' = r
  · subst c
    have hpi : p = i := by
      have i1 : p < rs.length := by omega
      have i2 := (List.getElem?_eq_some_iff.mp g2).1
      exact (List.getElem?_inj i1 h3).mp (a.trans g2.symm)
    subst hpi
    rw [upd_same, ← List.map_set, rowL_set]
  · rw [upd_ne c, b]
    have : p ≠ i := fun z => by
      subst z
      rw [g2] at a
      exact c (Option.some.inj a).symm
    have e : mset M i t v p = M p := by
      funext s
      unfold mset
      rw [if_neg (fun z => this z.1)]
    rw [e]
theorem MatL.same {H0 H H' : Hp} (s : Same H H') {lw : Addr} {n : Nat} {M : Nat → Nat → Int} (h : MatL H0 H lw n M) : MatL H0 H' lw n M := by
  obtain ⟨rs, h1, h2, h3, h4, h5, h6⟩ := h
  refine ⟨rs, s _ _ h1, h2, h3, h4, h5, fun p hp => ?_⟩
  obtain ⟨r, a, b⟩ := h6 p hp
  exact ⟨r, a, s _ _ b⟩
theorem MatL.upd {H0 H : Hp} {lw d : Addr} {u o : HO} (hd : H0 d = some o) {n : Nat} {M : Nat → Nat → Int} (h : MatL H0 H lw n M) : MatL H0 (L2.upd H d u) lw n M := by
  obtain ⟨rs, h1, h2, h3, h4, h5, h6⟩ := h
  have nn : ∀ b, H0 b = none → b ≠ d := fun b e z => by rw [z, hd] at e; cases e
  refine ⟨rs, by rw [upd_ne (nn _ h4)]; exact h1, h2, h3, h4, h5, fun p hp => ?_⟩
  obtain ⟨r, a, b⟩ := h6 p hp
  exact ⟨r, a, by rw [upd_ne (nn _ (h5 r (List.mem_of_getElem? a)).1)]; exact b⟩
theorem MatL.row {H0 H : Hp} {lw : Addr} {n : Nat} {M : Nat → Nat → Int} (h : MatL H0 H lw n M) {p : Nat} (hp : p < n) : ∃ (rs : List Addr) (r : Addr), H lw = some (.lst (rs.map V.ref)) ∧ rs[p]? = some r ∧ H r = some (.lst ((rowL n (M p)).map V.int)) ∧ H0 r = none := by
  obtain ⟨rs, h1, h2, h3, h4, h5, h6⟩ := h
  obtain ⟨r, a, b⟩ := h6 p hp
  exact ⟨rs, r, h1, a, b, (h5 r (List.mem_of_getElem? a)).1⟩
def sp_put_ways {K : PySem.W.Frag} {mg : Str → Option Value} (T : Txt K mg) : Sp := fun vs H Q _ => ∃ (lm dP : Addr) (tg : MachS) (sgs : List Str) (put : Str → Int), vs = [.ref lm, .ref dP, .int 100000000] ∧ MvsAt H lm tg ∧ H dP = some (.dK (dkS sgs put)) ∧ (∀ row ∈ tg, ∀ e ∈ row.1, e.1 ∈ sgs ∧ 1 ≤ put e.1 ∧ put e.1 ≤ 9) ∧ MTo tg ∧ 1 ≤ tg.length ∧ tg.length ≤ 6 ∧
  ∀ H' p (M : Nat → Nat → Int), Same H H' → MatAt H' p tg.length M → Ways (n := tg.length) (mv := movesOf tg) (c := put) M → Q (.ref p) H'
set_option maxHeartbeats 4000000 in
theorem ok_put_ways {P : Program} {w : World} {K : PySem.W.Frag} {mg : Str → Option Value} {base : Heap} (T : Txt K mg) : FnOk P w K mg base CX0 2 T.a_put_ways T.d_put_ways ["moves", "puts", "far"] (sp_put_ways T) := by
  refine T.F_put_ways.ok sc_put_ways (fun vs H Q E h => ?_) (fun cdv A outer s H vs Q E hr h => ?_)
  · obtain ⟨lm, dP, tg, sgs, put, rfl, ⟨ds, d1, d2, d3⟩, hP, hsg, mt, n1, n6, q⟩ := h
    rfl
  · obtain ⟨lm, dP, tg, sgs, put, rfl, ⟨ds, d1, d2, d3⟩, hP, hsg, mt, n1, n6, q⟩ := h
    refine ⟨_, PSs.nox (pss_cons (ps_setLc (i := 3) (own := [("p", 4)]) rfl sc_put_ways.nd rfl rfl (sw_true rfl rfl rfl (by decide +kernel)) (pi_range1 (by rfl) T.n_range (pa_cons (pe_callB (call_lenK K) (by rfl) T.n_len (by decide +kernel) (pa_cons (pv 0) pa_nil)) pa_nil)) (blkOk_by (own := [("p", 4)]) (N := n_put_ways) (sc := defScope s_put_ways) (by decide +kernel)) (fun _ _ _ _ _ => (pg_name (i := 4) sc_put_ways.nd rfl (by first | exact .inl rfl | exact .inr rfl))) (fun _ _ _ _ _ => pts_nil) (fun _ _ _ _ _ => (pe_lc (own := [("t", 7)]) rfl sc_put_ways.nd (pi_range1 (by rfl) T.n_range (pa_cons (pe_callB (call_lenK K) (by rfl) T.n_len (by decide +kernel) (pa_cons (pv 0) pa_nil)) pa_nil)) (blkOk_by (own := [("t", 7)]) (N := n_put_ways) (by kernel_rfl)) (fun _ _ _ _ _ => (pg_name (i := 7) sc_put_ways.nd rfl (by first | exact .inl rfl | exact .inr rfl))) (fun _ _ _ _ _ => pts_nil) (fun _ _ _ _ _ => (pe_ifExp (pt_cmpR op_eq (pv 4) (pv 7) (nomark _)) pe_int (pv 2))))))
      (pss_cons (ps_for PassesOwn.never rfl (pi_enumK K (by rfl) T.n_enumerate (pa_cons (pv 0) pa_nil)) (pg_tupK K (n := 2) rfl (pgs_cons (pg_name (i := 4) sc_put_ways.nd rfl (by first | exact .inl rfl | exact .inr rfl)) (pgs_cons (pg_name (i := 5) sc_put_ways.nd rfl (by first | exact .inl rfl | exact .inr rfl)) pgs_nil))) (pss_one (ps_lock (ps_for PassesOwn.never rfl (pi_items (pv 5)) (pg_tupK K (n := 2) rfl (pgs_cons (pg_name (i := 6) sc_put_ways.nd rfl (by first | exact .inl rfl | exact .inr rfl)) (pgs_cons (pg_name (i := 7) sc_put_ways.nd rfl (by first | exact .inl rfl | exact .inr rfl)) pgs_nil))) (pss_one (ps_if (pt_cmpR op_ne (pv 4) (pv 7) (nomark _)) (pss_one (ps_asg (pe_callB (call_min2 rfl) (by rfl) T.n_min (by decide +kernel) (pa_cons (pe_ix (ix_listK K) (pe_ix (ix_listK K) (pv 3) (pv 4) (fun _ _ => rfl)) (pv 7) (fun _ _ => rfl)) (pa_cons (pe_dget (hu_of hr) (pv 1) (pv 6) (fun _ _ => rfl)) pa_nil))) (pg_sub (pe_ix (ix_listK K) (pv 3) (pv 4) (fun _ _ => rfl)) (pv 7) set_list))) pss_nil))))))
      (pss_cons (ps_for PassesOwn.never rfl (pi_range1 (by rfl) T.n_range (pa_cons (pe_callB (call_lenK K) (by rfl) T.n_len (by decide +kernel) (pa_cons (pv 0) pa_nil)) pa_nil)) (pg_name (i := 8) sc_put_ways.nd rfl (by first | exact .inl rfl | exact .inr rfl)) (pss_one (ps_set (i := 3) sc_put_ways.nd rfl (by first | exact .inl rfl | exact .inr rfl) (pe_call (ok_lowered_ways T) (hr.mono (by decide)) (by rfl) T.g_lowered_ways T.F_lowered_ways.kp (b_lowered_ways T) .nil pass0 (pa_cons (pv 3) (pa_cons (pv 8) pa_nil))))))
      (pss_one (ps_ret (pv 3)))))), ?_⟩
    have hln : ((ds.map V.ref).length : Int) = (tg.length : Int) := by rw [List.length_map, d2]
    -- ways = [[0 if p == t else far ..] ..]
    refine ⟨_, rfl, lm, _, rfl, .inl (sq d1), _, rfl, by rw [hln]; omega, by rw [hln]; omega, fun D hD => ?_⟩
    refine lc_wk (Wk.range (lo := 0)) hD (MatR H D tg.length fun p t => if p = t then 0 else far) MatR.off .nil (fun _ _ => trivial) ?_ ?_
    · rintro i l y H3 H4 hi sm hl1 hz mr ⟨rfl, rfl⟩
      rw [hln, Int.toNat_natCast] at hi
      refine ⟨rfl, yes1 ?_⟩
      refine ⟨_, rfl, lm, _, rfl, .inl (sq (sm _ _ d1)), _, rfl, by rw [hln]; omega, by rw [hln]; omega, fun D2 hD2 => ?_⟩
      refine lc_wk (Wk.range (lo := 0)) hD2 (fun j l _ => l = (rowL j fun t => if i = t then 0 else far).map V.int) off_pure rfl (fun _ _ => trivial) ?_ ?_
      · rintro j l2 y H5 H6 hj sm2 hl2 hz2 e2 ⟨rfl, rfl⟩
        rw [hln, Int.toNat_natCast] at hj
        refine ⟨rfl, yes1 ?_⟩
        refine ⟨_, rfl, _, rfl, rfl, _, rfl, ?_⟩
        have fin : ∀ k : Int, k = (if i = j then 0 else far) → ∃ acc, H6 D2 = some (.lst acc) ∧ acc.length < sizeLine ∧ LcP H4 D2 (fun j l _ => l = (rowL j fun t => if i = t then 0 else far).map V.int) (j + 1) (upd H6 D2 (.lst (acc ++ [.int k]))) := fun k hk => by
          refine lc_put off_pure hD2 (by omega) sm2 hl2 hz2 ?_
          rw [e2, hk]
          show _ = (rowL (j + 1) fun t => if i = t then 0 else far).map V.int
          unfold rowL
          rw [List.range_succ, List.map_append, List.map_append]
          rfl
        by_cases c : i = j
        · refine ite_of (decide_eq_true (by rw [c])) ?_
          exact fin 0 (by rw [if_pos c])
        · refine ite_no (decide_eq_false (by intro z; injection z with z; omega)) ?_
          exact ⟨_, rfl, fin far (by rw [if_neg c])⟩
      · intro l2 H5 sm2 hl2 hz2 e2
        rw [hln, Int.toNat_natCast] at e2
        subst e2
        exact lc_put MatR.off hD (by omega) (sm.trans sm2) (sm2 _ _ hl1) hz (mr.put sm2 sm hD2 (fun z => by rw [z, hl1] at hD2; cases hD2) hl2)
    · intro l H1 sm1 hl1 hz mr
      rw [hln, Int.toNat_natCast] at mr
      obtain ⟨rs', rfl, h1, h2, h3, h4⟩ := mr
      have mat1 : MatL H H1 D tg.length fun p t => if p = t then 0 else far := ⟨rs', hl1, h1, h2, hD, h3, h4⟩
      have ini1 : IniP tg put 0 0 fun p t => if p = t then 0 else far := ⟨fun p _ => if_pos rfl, fun p e h => by
        rcases h with ⟨h, _⟩ | ⟨_, h⟩
        · omega
        · simp at h, fun p t _ _ ne => .inl (if_neg ne)⟩
      clear hl1 hz h1 h2 h3 h4
      -- for p, row in enumerate(moves)
      refine ⟨_, rfl, lm, _, rfl, sq (sm1 _ _ d1), ?_⟩
      refine for_wk (n := (ds.map V.ref).length) (S := fun H => SqL K H lm (ds.map V.ref)) Wk.enum (fun i σ H2 => ∃ (M : Nat → Nat → Int) (y4 y5 y6 y7 y8 : Option V), σ = [some (.ref lm), some (.ref dP), some (.int 100000000), some (.ref D), y4, y5, y6, y7, y8] ∧ Same H H2 ∧ MatL H H2 D tg.length M ∧ IniP tg put i 0 M)
        ⟨_, none, none, none, none, none, rfl, sm1, mat1, ini1⟩ (fun i σ H2 _ ⟨_, _, _, _, _, _, _, s, _⟩ => sq (s _ _ d1)) ?_ ?_
      · rintro i v σ H2 H2' hi ⟨M, y4, y5, y6, y7, y8, rfl, sm2, mat2, ini⟩ ⟨tp, w, rfl, nt, rfl, e1⟩
        rw [List.length_map, d2] at hi
        obtain ⟨row, hrow⟩ := getE_of hi
        obtain ⟨d, g1, g2⟩ := d3 i row hrow
        have hw : w = .ref d := by
          rw [List.getElem?_map, g1] at e1
          exact (Option.some.inj e1).symm
        subst hw
        have mvr := movesOf_at hrow
        refine ⟨tp, _, rfl, sqt upd_same, rfl, _, _, rfl, _, _, rfl, rfl, ?_⟩
        have sm3 : Same H (upd H2 tp (.tup [.int (i : Nat), .ref d])) := sm2.trans (same_upd nt)
        have mat3 := mat2.same (same_upd nt (o := .tup [.int (i : Nat), .ref d]))
        generalize upd H2 tp (.tup [.int (i : Nat), .ref d]) = H3 at sm3 mat3 ⊢
        have hd3 := sm3 _ _ g2
        -- for sign, t in row.items()
        refine ⟨d, _, hd3, trivial, fun od => ?_⟩
        refine ⟨_, rfl, d, od, _, rfl, upd_same, ?_⟩
        refine for_wk (n := (mvD row.1).length) (S := fun H => H d = some (.frz od (.dK (mvD row.1)))) Wk.items (fun j σ H4 => ∃ (M : Nat → Nat → Int) (y6 y7 y8 : Option V), σ = [some (.ref lm), some (.ref dP), some (.int 100000000), some (.ref D), some (.int (i : Nat)), some (.ref d), y6, y7, y8] ∧ SameX d H H4 ∧ H4 d = some (.frz od (.dK (mvD row.1))) ∧ MatL H H4 D tg.length M ∧ IniP tg put i j M)
          ⟨M, y6, y7, y8, rfl, (Same.x d sm3).trans locked, upd_same, mat3.upd g2, ini⟩ (fun j σ H4 _ ⟨_, _, _, _, _, _, h, _⟩ => h) ?_ ?_
        · rintro j v σ H4 H4' hj ⟨M, y6, y7, y8, rfl, sm4, hfz, mat4, ini⟩ ⟨tq, k, w, e2, rfl, nq, rfl⟩
          obtain ⟨e, he, rfl, rfl⟩ : ∃ e : Str × Nat, row.1[j]? = some e ∧ k = Sum.inr e.1 ∧ w = .int (e.2 : Nat) := by
            rw [List.getElem?_map] at e2
            cases h : row.1[j]? with
            | none => rw [h] at e2; cases e2
            | some e =>
              rw [h] at e2
              injection e2 with e2
              injection e2 with e2 e3
              exact ⟨e, rfl, e2.symm, e3.symm⟩
          have hm : e ∈ row.1 := List.mem_of_getElem? he
          obtain ⟨hs, p1, p9⟩ := hsg row (List.mem_of_getElem? hrow) e hm
          have ht : e.2 < tg.length := mt i e.2 (by
            rw [succs_eq, mvr]
            exact List.mem_map.mpr ⟨e, hm, rfl⟩)
          have he' : (movesOf tg i)[j]? = some e := by rw [mvr]; exact he
          refine ⟨tq, _, rfl, sqt upd_same, rfl, _, _, rfl, _, _, rfl, rfl, ?_⟩
          have sq4 : Same H4 (upd H4 tq (.tup [kV (.inr e.1), .int (e.2 : Nat)])) := same_upd nq
          have mat5 := mat4.same sq4
          generalize upd H4 tq (.tup [kV (.inr e.1), .int (e.2 : Nat)]) = H5 at sq4 mat5 ⊢
          have sm5 : SameX d H H5 := sm4.trans (Same.x d sq4)
          have hP5 : Rd H5 dP (.dK (dkS sgs put)) := by
            by_cases c : dP = d
            · subst c
              rw [hP] at g2
              have e := Option.some.inj g2
              rw [e]
              exact .inr ⟨od, sq4 _ _ hfz⟩
            · exact .inl (sm5 _ _ c hP)
          refine ⟨_, rfl, _, rfl, rfl, _, rfl, ?_⟩
          by_cases c : i = e.2
          · refine ite_no (by rw [decide_eq_true (by rw [c])]; rfl) ?_
            exact ⟨M, _, _, _, rfl, sm5, sq4 _ _ hfz, mat5, ini.skip he' c⟩
          · refine ite_of (by rw [decide_eq_false (by intro z; injection z with z; omega)]; rfl) ?_
            obtain ⟨rs, r, a1, a2, a3, a4⟩ := mat5.row hi
            have at1 : atI (rs.map V.ref) ((i : Nat) : Int) = some (.ref r) := atI_ofNat (by rw [List.getElem?_map, a2]; rfl)
            have at2 : atI ((rowL tg.length (M i)).map V.int) ((e.2 : Nat) : Int) = some (.int (M i e.2)) := atI_ofNat (by rw [List.getElem?_map, rowL_at ht]; rfl)
            refine ⟨_, rfl, _, rfl, D, _, _, _, rfl, rfl, sq a1, at1, _, rfl, r, _, _, _, rfl, rfl, sq a3, at2, ?_⟩
            refine ⟨_, rfl, _, rfl, dP, .int (put e.1), rfl, .inl ⟨_, .inr e.1, hP5, rfl, ?_⟩, _, _, rfl, ?_⟩
            · rw [valV_dkS, if_pos hs]
            refine ⟨_, rfl, _, rfl, D, _, _, _, rfl, rfl, sq a1, at1, _, rfl, r, _, _, e.2, rfl, rfl, a3, ?_, ?_⟩
            · unfold ixN
              rw [if_pos (by omega), if_pos (by simp; omega)]
              simp
            · have nr : r ≠ d := fun z => by rw [z, g2] at a4; cases a4
              refine ⟨mset M i e.2 (mn (M i e.2) (put e.1)), _, _, _, rfl, ?_, ?_, mat5.set ⟨rs, a1, a2⟩, ini.step he' hi c⟩
              · intro b o nb hb
                rw [upd_ne (fun z => by rw [z, a4] at hb; cases hb)]
                exact sm5 _ _ nb hb
              · rw [upd_ne nr.symm]
                exact sq4 _ _ hfz
        · rintro σ H4 ⟨M, y6, y7, y8, rfl, sm4, hfz, mat4, ini⟩
          have hl : (mvD row.1).length = (movesOf tg i).length := by rw [mvr, List.length_map]
          rw [hl] at ini
          exact ⟨hfz, M, _, _, _, _, _, rfl, unlock g2 sm4, mat4.upd g2, ini.next⟩
      · rintro σ H2 ⟨M, y4, y5, y6, y7, y8, rfl, sm2, mat2, ini⟩
        rw [List.length_map, d2] at ini
        have mok : MOk tg.length (movesOf tg) put := ⟨n6, fun s hs e he => mt s e.2 (by rw [succs_eq]; exact List.mem_map.mpr ⟨e, he, rfl⟩), fun s hs e he => by
          obtain ⟨row, hrow⟩ := getE_of hs
          rw [movesOf_at hrow] at he
          exact (hsg row (List.mem_of_getElem? hrow) e he).2⟩
        have ws := ways_of mok ini.ini
        -- for middle in range(len(moves))
        refine ⟨_, rfl, lm, _, rfl, .inl (sq (sm2 _ _ d1)), _, rfl, by rw [hln]; omega, by rw [hln]; omega, ?_⟩
        refine for_wk (n := (((ds.map V.ref).length : Nat) : Int).toNat) (S := fun _ => True) (Wk.range (lo := 0)) (fun k σ H3 => ∃ (W : Addr) (y4 y5 y6 y7 y8 : Option V), σ = [some (.ref lm), some (.ref dP), some (.int 100000000), some (.ref W), y4, y5, y6, y7, y8] ∧ Same H H3 ∧ MatAt H3 W tg.length (lows k M))
          ⟨D, _, _, _, _, _, rfl, sm2, mat2.mat⟩ (fun _ _ _ _ _ => trivial) ?_ ?_
        · rintro k v σ H3 H3' hk ⟨W, z4, z5, z6, z7, z8, rfl, sm3, mat3⟩ ⟨rfl, rfl⟩
          rw [hln, Int.toNat_natCast] at hk
          refine ⟨_, rfl, _, rfl, W, tg.length, k, lows k M, by rw [Int.zero_add]; rfl, mat3, hk, n6, fun H4 p sm4 mat4 => ?_⟩
          exact ⟨p, _, _, _, _, _, rfl, sm3.trans sm4, mat4.mat⟩
        · rintro σ H3 ⟨W, z4, z5, z6, z7, z8, rfl, sm3, mat3⟩
          rw [hln, Int.toNat_natCast] at mat3
          exact ⟨_, rfl, q H3 W (lows tg.length M) sm3 mat3 ws⟩
end K7
end

section
set_option Elab.async false
set_option linter.all false
set_option maxRecDepth 100000
namespace K7
open PySem PySem.Spec PyProof.Rows L2 SlX
/-! The walk: what is asked of rows and targets; ends. -/
theorem slt_same {H H' : Hp} (s : Same H H') {a C dx : Addr} {vs : List (Option V)} (h : SlX.Slt H a C dx vs) : SlX.Slt H' a C dx vs := by
  rcases h with ⟨h1, h2⟩ | ⟨h1, h2⟩
  · exact .inl ⟨s _ _ h1, h2⟩
  · exact .inr ⟨s _ _ h1, s _ _ h2⟩
/-! ### require_row -/
def sp_require_row {K : PySem.W.Frag} {mg : Str → Option Value} (T : Txt K mg) : Sp := fun vs H Q _ => ∃ (a p : Addr) (tg : MachS) (r : List Int), vs = [.ref a, .ref p] ∧ FormAt T.C_Form H a tg ∧ H p = some (.tup (r.map V.int)) ∧ r.length = tg.length ∧ 1 ≤ tg.length ∧ tg.length ≤ 6 ∧ (∀ x ∈ r, 0 ≤ x ∧ x < 10000) ∧ ∀ H', Same H H' → Q .non H'
set_option maxHeartbeats 4000000 in
theorem ok_require_row {P : Program} {w : World} {K : PySem.W.Frag} {mg : Str → Option Value} {base : Heap} (T : Txt K mg) : FnOk P w K mg base CX0 4 T.a_require_row T.d_require_row ["target", "value"] (sp_require_row T) := by
  refine T.F_require_row.ok sc_require_row (fun vs H Q E h => ?_) (fun cdv A outer s H vs Q E hr h => ?_)
  · obtain ⟨a, p, tg, r, rfl, fa, hp, h0, h1, h2, hrow, q⟩ := h
    rfl
  · obtain ⟨a, p, tg, r, rfl, fa, hp, h0, h1, h2, hrow, q⟩ := h
    refine ⟨_, PSs.nox (pss_one (ps_if (PW.pt (pw_or (pt_not (pt_val (pe_call (ok_is_plain_row T) (hr.mono (by decide)) (by rfl) T.g_is_plain_row T.F_is_plain_row.kp (b_is_plain_row T) .nil pass0 (pa_cons (pv 1) pa_nil)))) (pw_or1 (pt_cmpR op_ne (pe_callB (call_lenK K) (by rfl) T.n_len (by decide +kernel) (pa_cons (pv 1) pa_nil)) (pe_callB (call_lenOwn T.me_Form_len (raw0 (ok_Form_len T) (b_Form_len T)) (hr.mono (by decide)) pass0) (by rfl) T.n_len (by decide +kernel) (pa_cons (pv 0) pa_nil)) (nomark _))))) pss_never pss_nil)), ?_⟩
    refine ⟨_, rfl, p, r, rfl, hp, by omega, by omega, hrow, fun H1 s1 => ?_⟩
    have fa1 := fa.keep (keep_of s1)
    obtain ⟨dx, ll, lm, f1, _⟩ := id fa1
    refine ⟨true, rfl, iteF ⟨_, rfl, p, _, rfl, .inr (sqt (s1 _ _ hp)), _, rfl, a, dx, _, rfl, f1, a, tg, rfl, fa1, tg.length, rfl, by omega, rfl, _, rfl, ?_⟩⟩
    refine ite_no ?_ (q _ s1)
    rw [List.length_map, h0]
    simp
/-! ### is_row -/
def sp_is_row {K : PySem.W.Frag} {mg : Str → Option Value} (T : Txt K mg) : Sp := fun vs H Q _ => ∃ (a p : Addr) (tg : MachS) (r : List Int), vs = [.ref a, .ref p] ∧ FormAt T.C_Form H a tg ∧ H p = some (.tup (r.map V.int)) ∧ r.length = tg.length ∧ 1 ≤ tg.length ∧ tg.length ≤ 6 ∧ (∀ x ∈ r, 0 ≤ x ∧ x < 10000) ∧ ∀ H', Same H H' → Q (.bl true) H'
set_option maxHeartbeats 4000000 in
theorem ok_is_row {P : Program} {w : World} {K : PySem.W.Frag} {mg : Str → Option Value} {base : Heap} (T : Txt K mg) : FnOk P w K mg base CX0 5 T.a_is_row T.d_is_row ["target", "value"] (sp_is_row T) := by
  refine T.F_is_row.ok sc_is_row (fun vs H Q E h => ?_) (fun cdv A outer s H vs Q E hr h => ?_)
  · obtain ⟨a, p, tg, r, rfl, fa, hp, h0, h1, h2, hrow, q⟩ := h
    rfl
  · obtain ⟨a, p, tg, r, rfl, fa, hp, h0, h1, h2, hrow, q⟩ := h
    refine ⟨_, PSs.nox (pss_cons (ps_expr (pe_call (ok_require_form T) (hr.mono (by decide)) (by rfl) T.g_require_form T.F_require_form.kp (b_require_form T) .nil pass0 (pa_cons (pv 0) pa_nil)))
      (pss_cons (ps_expr (pe_call (ok_require_small T) (hr.mono (by decide)) (by rfl) T.g_require_small T.F_require_small.kp (b_require_small T) .nil pass0 (pa_cons (pv 0) pa_nil)))
      (pss_one (ps_ret (pe_and (pe_call (ok_is_plain_row T) (hr.mono (by decide)) (by rfl) T.g_is_plain_row T.F_is_plain_row.kp (b_is_plain_row T) .nil pass0 (pa_cons (pv 1) pa_nil)) (pe_one (pe_cmpR op_eq (pe_callB (call_lenK K) (by rfl) T.n_len (by decide +kernel) (pa_cons (pv 1) pa_nil)) (pe_callB (call_lenOwn T.me_Form_len (raw0 (ok_Form_len T) (b_Form_len T)) (hr.mono (by decide)) pass0) (by rfl) T.n_len (by decide +kernel) (pa_cons (pv 0) pa_nil)) (nomark _)))))))), ?_⟩
    refine ⟨_, rfl, a, tg, rfl, fa, _, rfl, a, tg, rfl, fa, h2, _, rfl, p, r, rfl, hp, by omega, by omega, hrow, fun H1 s1 => ?_⟩
    have fa1 := fa.keep (keep_of s1)
    obtain ⟨dx, ll, lm, f1, _⟩ := id fa1
    refine ⟨true, rfl, iteT ⟨_, rfl, p, _, rfl, .inr (sqt (s1 _ _ hp)), _, rfl, a, dx, _, rfl, f1, a, tg, rfl, fa1, tg.length, rfl, by omega, rfl, ?_⟩⟩
    refine bl_of ?_ (q _ s1)
    rw [List.length_map, h0]
    simp
/-! ### end_cost -/
def sp_end_cost {K : PySem.W.Frag} {mg : Str → Option Value} (T : Txt K mg) : Sp := fun vs H Q _ => ∃ (a p : Addr) (tg : MachS) (r : List Int), vs = [.ref a, .ref p] ∧ FormAt T.C_Form H a tg ∧ H p = some (.tup (r.map V.int)) ∧ r.length = tg.length ∧ Useful tg ∧ tg.length ≤ 6 ∧ (∀ x ∈ r, 0 ≤ x ∧ x < 10000) ∧ ∀ H' k, Same H H' → EndOf tg r k → Q (.int k) H'
set_option maxHeartbeats 4000000 in
theorem ok_end_cost {P : Program} {w : World} {K : PySem.W.Frag} {mg : Str → Option Value} {base : Heap} (T : Txt K mg) : FnOk P w K mg base CX0 5 T.a_end_cost T.d_end_cost ["target", "row"] (sp_end_cost T) := by
  refine T.F_end_cost.ok sc_end_cost (fun vs H Q E h => ?_) (fun cdv A outer s H vs Q E hr h => ?_)
  · obtain ⟨a, p, tg, r, rfl, fa, hp, hr0, us, h2, hrow, q⟩ := h
    rfl
  · obtain ⟨a, p, tg, r, rfl, fa, hp, hr0, us, h2, hrow, q⟩ := h
    refine ⟨_, PSs.nox (pss_cons (ps_expr (pe_call (ok_require_form T) (hr.mono (by decide)) (by rfl) T.g_require_form T.F_require_form.kp (b_require_form T) .nil pass0 (pa_cons (pv 0) pa_nil)))
      (pss_cons (ps_expr (pe_call (ok_require_row T) (hr.mono (by decide)) (by rfl) T.g_require_row T.F_require_row.kp (b_require_row T) .nil pass0 (pa_cons (pv 0) (pa_cons (pv 1) pa_nil))))
      (pss_cons (ps_expr (pe_call (ok_require_small T) (hr.mono (by decide)) (by rfl) T.g_require_small T.F_require_small.kp (b_require_small T) .nil pass0 (pa_cons (pv 0) pa_nil)))
      (pss_one (ps_ret (pe_callB (cr_minK K rfl) (by rfl) T.n_min (by decide +kernel) (pa_cons (pe_lc (own := [("number", 2), ("last", 3)]) rfl sc_end_cost.nd (pi_zipM K (by rfl) T.n_zip (pa_cons (pv 1) (pa_cons (pe_slK K (pv 0)) pa_nil))) (blkOk_by (own := [("number", 2), ("last", 3)]) (N := n_end_cost) (sc := defScope s_end_cost) (by decide +kernel)) (fun _ _ _ _ _ => (pg_tupK K (n := 2) rfl (pgs_cons (pg_name (i := 2) sc_end_cost.nd rfl (by first | exact .inl rfl | exact .inr rfl)) (pgs_cons (pg_name (i := 3) sc_end_cost.nd rfl (by first | exact .inl rfl | exact .inr rfl)) pgs_nil)))) (fun _ _ _ _ _ => (pts_one (pt_val (pv 3)))) (fun _ _ _ _ _ => (pv 2))) pa_nil))))))), ?_⟩
    refine ⟨_, rfl, a, tg, rfl, fa, ?_⟩
    refine ⟨_, rfl, _, rfl, a, p, tg, r, rfl, fa, hp, hr0, us.pos, h2, hrow, fun H1 s1 => ?_⟩
    have fa1 := fa.keep (keep_of s1)
    have hp1 := s1 _ _ hp
    refine ⟨_, rfl, a, tg, rfl, fa1, h2, ?_⟩
    obtain ⟨dx, ll, lm, f1, f2, f3⟩ := id fa1
    have hl0 : (r.map V.int).length = ((tg.map (·.2)).map V.bl).length := by rw [List.length_map, List.length_map, List.length_map]; exact hr0
    refine ⟨_, rfl, _, rfl, a, _, dx, _, _, _, _, rfl, f1, T.S_Form, T.sl_Form_own_lasts, rfl, p, ll, _, _, rfl, sqt hp1, sq f2, fun D hD => ?_⟩
    refine lc_wk (Wk.zipM hl0) hD (fun i l _ => LstOk tg r i l) off_pure .nil (fun _ s => ⟨seqT s (sqt hp1), s.seq (sq f2)⟩) ?_ ?_
    · rintro i l y H3 H4 hi sm hl hz e ⟨t, x, y, rfl, nt, rfl, e1, e2⟩
      rw [List.length_map] at hi
      obtain ⟨x, g1, rfl⟩ := ints_at e1
      have ey := lasts_at e2
      subst ey
      refine ⟨t, _, rfl, sqt upd_same, rfl, _, _, rfl, _, _, rfl, rfl, rfl, _, rfl, _, rfl, ?_⟩
      refine ite2 (fun c => ?_) (fun c => ?_)
      · exact ⟨_, rfl, lc_put off_pure hD (by omega) (sm.trans (same_upd nt)) (same_upd nt _ _ hl) hz (e.put c (rowF_at g1))⟩
      · exact ⟨_, sm.trans (same_upd nt), same_upd nt _ _ hl, by omega, e.skip (by simpa using c)⟩
    · rintro l H3 sm hl hz ⟨zs, rfl, hzs⟩
      rw [List.length_map, hr0] at hzs
      exact ⟨D, zs, rfl, sq hl, LstOk.pos us hzs, fun k hk hle => q _ _ (s1.trans sm) (LstOk.min hzs hk hle)⟩
/-! ### cost_in -/
def sp_cost_in {K : PySem.W.Frag} {mg : Str → Option Value} (T : Txt K mg) : Sp := fun vs H Q _ => ∃ (a : Addr) (z : Str) (tg : MachS) (m : PrM) (M : Nat → Nat → Int), vs = [.ref a, .str z] ∧ StAt T H a tg m M ∧ Ctx tg m M ∧ (∀ k ∈ z.cps.toList, sg k ∈ m.sgs) ∧ z.cps.size ≤ 1000 ∧
  ∀ H' k (r : List Int), Same H H' → RowOf tg m M z.cps.toList r → EndOf tg r k → Q (.int k) H'
set_option maxHeartbeats 4000000 in
theorem ok_cost_in {P : Program} {w : World} {K : PySem.W.Frag} {mg : Str → Option Value} {base : Heap} (T : Txt K mg) : FnOk P w K mg base CX0 4 T.a_cost_in T.d_cost_in ["steps", "word"] (sp_cost_in T) := by
  refine T.F_cost_in.ok sc_cost_in (fun vs H Q E h => ?_) (fun cdv A outer s H vs Q E hr h => ?_)
  · obtain ⟨a, z, tg, m, M, rfl, st, cx, hz, h1000, q⟩ := h
    rfl
  · obtain ⟨a, z, tg, m, M, rfl, st, cx, hz, h1000, q⟩ := h
    refine ⟨_, PSs.nox (pss_one (ps_ret (pe_methSl (pv 0) T.S_Steps T.me_Steps_end (raw0 (ok_Steps_end T) (b_Steps_end T)) (hr.mono (by decide)) pass0 (pa_cons (pe_methSl (pv 0) T.S_Steps T.me_Steps_row_of_word (raw0 (ok_Steps_row_of_word T) (b_Steps_row_of_word T)) (hr.mono (by decide)) pass0 (pa_cons (pv 1) pa_nil)) pa_nil)))), ?_⟩
    obtain ⟨dx, dc, ll, lm, ps, lw, s1, _⟩ := id st
    refine ⟨_, rfl, a, dx, _, rfl, s1, _, rfl, a, dx, _, rfl, s1, _, rfl, a, z, tg, m, M, rfl, st, cx, hz, h1000, fun H1 p r sm hp ro => ?_⟩
    exact ⟨a, p, tg, m, M, r, rfl, st.same sm, cx.ok.useful, cx.ok.six, hp, ro.len, fun H2 k sm2 e => q H2 k r (sm.trans sm2) ro e⟩
/-! ### require_priced -/
def sp_require_priced {K : PySem.W.Frag} {mg : Str → Option Value} (T : Txt K mg) : Sp := fun vs H Q _ => ∃ (a l : Addr) (m : PrM) (xs : List Str), vs = [.ref a, .ref l] ∧ PrAt T.C_Prices H a m ∧ PrOk m ∧ H l = some (.lst (xs.map V.str)) ∧ (∀ x ∈ xs, x ∈ m.sgs) ∧ xs.length ≤ 2000 ∧ ∀ H', Same H H' → Q .non H'
set_option maxHeartbeats 4000000 in
theorem ok_require_priced {P : Program} {w : World} {K : PySem.W.Frag} {mg : Str → Option Value} {base : Heap} (T : Txt K mg) : FnOk P w K mg base CX0 5 T.a_require_priced T.d_require_priced ["prices", "signs"] (sp_require_priced T) := by
  refine T.F_require_priced.ok sc_require_priced (fun vs H Q E h => ?_) (fun cdv A outer s H vs Q E hr h => ?_)
  · obtain ⟨a, l, m, xs, rfl, pa, ok, hl, hx, h2000, q⟩ := h
    rfl
  · obtain ⟨a, l, m, xs, rfl, pa, ok, hl, hx, h2000, q⟩ := h
    refine ⟨_, PSs.nox (pss_one (ps_if (pt_not (pt_val (pe_callB (cr_allK K rfl) (by rfl) T.n_all (by decide +kernel) (pa_cons (pe_lc (own := [("sign", 2)]) rfl sc_require_priced.nd (pi_listK K (pv 1)) (blkOk_by (own := [("sign", 2)]) (N := n_require_priced) (sc := defScope s_require_priced) (by decide +kernel)) (fun _ _ _ _ _ => (pg_name (i := 2) sc_require_priced.nd rfl (by first | exact .inl rfl | exact .inr rfl))) (fun _ _ _ _ _ => pts_nil) (fun _ _ _ _ _ => (pe_cmpR (op_inOwn T.me_Prices_contains (raw0 (ok_Prices_contains T) (b_Prices_contains T)) (hr.mono (by decide)) pass0) (pv 2) (pv 0) rfl))) pa_nil)))) pss_never pss_nil)), ?_⟩
    refine ⟨_, rfl, _, rfl, ⟨_, sq hl⟩, fun D hD => ?_⟩
    refine lc_wk Wk.list hD Tru off_pure rfl (fun _ s => s.seq (sq hl)) ?_ ?_
    · rintro i l2 y H3 H4 hi sm hl2 hz' r ⟨rfl, hy⟩
      rw [List.length_map] at hi
      rw [List.getElem?_map] at hy
      cases e : xs[i]? with
      | none => rw [e] at hy; cases hy
      | some x =>
        rw [e] at hy
        obtain rfl : V.str x = y := Option.some.inj hy
        have pa4 := pa.keep (keep_of sm)
        obtain ⟨dx, dO, dP, dS, h1, _⟩ := id pa4
        refine ⟨rfl, yes1 ?_⟩
        exact ⟨_, rfl, _, rfl, a, dx, _, rfl, h1, a, m, x, rfl, pa4, ok, hx x (List.mem_of_getElem? e), true, rfl, lc_put off_pure hD (by omega) sm hl2 hz' (tru_snoc r rfl)⟩
    · intro l2 H3 sm hl2 hz' r
      subst r
      exact ⟨_, _, rfl, sq hl2, _, rfl, ite_no (by rw [all_rep]; rfl) (q _ sm)⟩
end K7
end

section
set_option Elab.async false
set_option linter.all false
set_option maxRecDepth 100000
namespace K7
open PySem PySem.Spec PyProof.Rows L2 SlX
/-! The walk: the law's own rows. -/
theorem Wk.range0 {n : Nat} : Wk (Itr 0 n) n (fun _ => True) (fun i x H H' => H' = H ∧ x = .int (i : Nat)) where
  go := fun i H _ h => h
  stop := fun H _ => Nat.le_refl _
  yld := fun i H x H' _ _ y => ⟨y.1, by rw [y.2, Int.zero_add]⟩
/-- the law's dict of ways -/
def WyAt (H : Hp) (d : Addr) (n : Nat) (M : Nat → Nat → Int) : Prop := ∃ kvs : List (List Key × V), H d = some (.dT kvs) ∧ ∀ p t, p < n → t < n → valV kvs [Sum.inl (p : Int), Sum.inl (t : Int)] = if M p t < far then some (.int (M p t)) else none
theorem WyAt.keep {H H' : Hp} (k : Keep H H') {d : Addr} {n : Nat} {M : Nat → Nat → Int} (h : WyAt H d n M) : WyAt H' d n M := let ⟨kvs, h1, h2⟩ := h; ⟨kvs, keep_dt k h1, h2⟩
/-- a table tells closed prices -/
structure TabM (f : Tab Str) (m : PrM) : Prop where
  out : ∀ x, x ∈ m.sgs → f x "" = some (m.out x)
  put : ∀ x, x ∈ m.sgs → f "" x = some (m.put x)
  swap : ∀ a b, a ∈ m.sgs → b ∈ m.sgs → a ≠ b → f a b = m.swap a b
/-! ### _law_end -/
def sp__law_end {K : PySem.W.Frag} {mg : Str → Option Value} (T : Txt K mg) : Sp := fun vs H Q _ => ∃ (p a : Addr) (tg : MachS) (r : List Int), vs = [.ref a, .ref p] ∧ TgAt H a tg ∧ H p = some (.tup (r.map V.int)) ∧ r.length = tg.length ∧ Useful tg ∧ tg.length ≤ 6 ∧ ∀ H' k, Same H H' → EndOf tg r k → Q (.int k) H'
set_option maxHeartbeats 4000000 in
theorem ok__law_end {P : Program} {w : World} {K : PySem.W.Frag} {mg : Str → Option Value} {base : Heap} (T : Txt K mg) : FnOk P w K mg base CX0 1 T.a__law_end T.d__law_end ["target", "row"] (sp__law_end T) := by
  refine T.F__law_end.ok sc__law_end (fun vs H Q E h => ?_) (fun cdv A outer s H vs Q E hr h => ?_)
  · obtain ⟨p, a, tg, r, rfl, ⟨rs, t1, t2, t3⟩, hp, hr0, us, h6, q⟩ := h
    rfl
  · obtain ⟨p, a, tg, r, rfl, ⟨rs, t1, t2, t3⟩, hp, hr0, us, h6, q⟩ := h
    refine ⟨_, PSs.nox (pss_one (ps_ret (pe_callB (cr_minK K rfl) (by rfl) T.n_min (by decide +kernel) (pa_cons (pe_lc (own := [("number", 2), ("moves", 3), ("last", 4)]) rfl sc__law_end.nd (pi_zipK K (by rfl) T.n_zip (pa_cons (pv 1) (pa_cons (pv 0) pa_nil))) (blkOk_by (own := [("number", 2), ("moves", 3), ("last", 4)]) (N := n__law_end) (sc := defScope s__law_end) (by decide +kernel)) (fun _ _ _ _ _ => (pg_tupK K (n := 2) rfl (pgs_cons (pg_name (i := 2) sc__law_end.nd rfl (by first | exact .inl rfl | exact .inr rfl)) (pgs_cons (pg_tupK K (n := 2) rfl (pgs_cons (pg_name (i := 3) sc__law_end.nd rfl (by first | exact .inl rfl | exact .inr rfl)) (pgs_cons (pg_name (i := 4) sc__law_end.nd rfl (by first | exact .inl rfl | exact .inr rfl)) pgs_nil))) pgs_nil)))) (fun _ _ _ _ _ => (pts_one (pt_val (pv 4)))) (fun _ _ _ _ _ => (pv 2))) pa_nil)))), ?_⟩
    have hl0 : (r.map V.int).length = (rs.map V.ref).length := by rw [List.length_map, List.length_map, t2]; exact hr0
    refine ⟨_, rfl, _, rfl, p, a, _, _, rfl, .inr ⟨sqt hp, sqt t1, fun D hD => ?_⟩⟩
    refine lc_wk (Wk.zipT hl0) hD (fun i l _ => LstOk tg r i l) off_pure .nil (fun _ s => ⟨seqT s (sqt hp), seqT s (sqt t1)⟩) ?_ ?_
    · rintro i l y H3 H4 hi sm hl hz e ⟨t, x, y, rfl, nt, rfl, e1, e2⟩
      rw [List.length_map] at hi
      obtain ⟨x, g1, rfl⟩ := ints_at e1
      obtain ⟨row, hrow⟩ := getE_of (by omega : i < tg.length)
      obtain ⟨rr, d, g2, g3, g4⟩ := t3 i row hrow
      have ey : y = .ref rr := by
        rw [List.getElem?_map, g2] at e2
        exact (Option.some.inj e2).symm
      subst ey
      have elast := lastOf_at hrow
      refine ⟨t, _, rfl, sqt upd_same, rfl, _, _, rfl, _, _, rfl, rr, _, rfl, sqt (same_upd nt _ _ (sm _ _ g3)), rfl, _, _, rfl, _, _, rfl, rfl, rfl, rfl, _, rfl, _, rfl, ?_⟩
      refine ite2 (fun c => ?_) (fun c => ?_)
      · exact ⟨_, rfl, lc_put off_pure hD (by omega) (sm.trans (same_upd nt)) (same_upd nt _ _ hl) hz (e.put (by rw [elast]; exact c) (rowF_at g1))⟩
      · exact ⟨_, sm.trans (same_upd nt), same_upd nt _ _ hl, by omega, e.skip (by rw [elast]; simpa using c)⟩
    · rintro l H3 sm hl hz ⟨zs, rfl, hzs⟩
      rw [List.length_map, hr0] at hzs
      exact ⟨D, zs, rfl, sq hl, LstOk.pos us hzs, fun k hk hle => q _ _ sm (LstOk.min hzs hk hle)⟩
/-! ### _law_least -/
def sp__law_least {K : PySem.W.Frag} {mg : Str → Option Value} (T : Txt K mg) : Sp := fun vs H Q _ => ∃ (a d l : Addr) (tg : MachS) (M : Nat → Nat → Int) (f : List Int), vs = [.ref a, .ref d, .ref l] ∧ TgAt H a tg ∧ WyAt H d tg.length M ∧ H l = some (.lst (f.map V.int)) ∧ f.length = tg.length ∧ tg.length ≤ 6 ∧ (∀ t, t < tg.length → M t t < far) ∧
  ∀ H' p (r : List Int), Same H H' → H' p = some (.tup (r.map V.int)) → r.length = tg.length → (∀ t, t < tg.length → MinOf (fun x => ∃ q, q < tg.length ∧ M q t < far ∧ x = rowF f q + M q t) (rowF r t)) → Q (.ref p) H'
set_option maxHeartbeats 4000000 in
theorem ok__law_least {P : Program} {w : World} {K : PySem.W.Frag} {mg : Str → Option Value} {base : Heap} (T : Txt K mg) : FnOk P w K mg base CX0 1 T.a__law_least T.d__law_least ["target", "ways", "many"] (sp__law_least T) := by
  refine T.F__law_least.ok sc__law_least (fun vs H Q E h => ?_) (fun cdv A outer s H vs Q E hr h => ?_)
  · obtain ⟨a, d, l, tg, M, f, rfl, ⟨rs, t1, t2, t3⟩, ⟨kvs, w1, w2⟩, hl, hf, h6, hdg, q⟩ := h
    rfl
  · obtain ⟨a, d, l, tg, M, f, rfl, ⟨rs, t1, t2, t3⟩, ⟨kvs, w1, w2⟩, hl, hf, h6, hdg, q⟩ := h
    refine ⟨_, PSs.nox (pss_cons (ps_set (i := 3) sc__law_least.nd rfl (by first | exact .inl rfl | exact .inr rfl) (pe_lst pa_nil))
      (pss_cons (ps_for PassesOwn.never rfl (pi_range1 (by rfl) T.n_range (pa_cons (pe_callB (call_lenK K) (by rfl) T.n_len (by decide +kernel) (pa_cons (pv 0) pa_nil)) pa_nil)) (pg_name (i := 4) sc__law_least.nd rfl (by first | exact .inl rfl | exact .inr rfl)) (pss_one (ps_expr (pe_bmK K PySem.F.plainAttrs_list PySem.F.slot_list_append PySem.F.type_list_append mt_append (pv 3) (pa_cons (pe_callB (cr_minK K rfl) (by rfl) T.n_min (by decide +kernel) (pa_cons (pe_lc (own := [("at", 5)]) rfl sc__law_least.nd (pi_range1 (by rfl) T.n_range (pa_cons (pe_callB (call_lenK K) (by rfl) T.n_len (by decide +kernel) (pa_cons (pv 0) pa_nil)) pa_nil)) (blkOk_by (own := [("at", 5)]) (N := n__law_least) (sc := defScope s__law_least) (by decide +kernel)) (fun _ _ _ _ _ => (pg_name (i := 5) sc__law_least.nd rfl (by first | exact .inl rfl | exact .inr rfl))) (fun _ _ _ _ _ => (pts_one (pt_cmp (pc_din (hu_of hr) (pe_tup (pa_cons (pv 5) (pa_cons (pv 4) pa_nil))) (pv 1))))) (fun _ _ _ _ _ => (pe_op op_add (pe_ix (ix_listK K) (pv 2) (pv 5) (fun _ _ => rfl)) (pe_dget (hu_of hr) (pv 1) (pe_tup (pa_cons (pv 5) (pa_cons (pv 4) pa_nil))) (fun _ _ => rfl))))) pa_nil)) pa_nil)))))
      (pss_one (ps_ret (pe_callTy (call_tupK K) (by rfl) T.n_tuple (by decide +kernel) (pa_cons (pv 3) pa_nil)))))), ?_⟩
    have hln : ((rs.map V.ref).length : Int) = (tg.length : Int) := by rw [List.length_map, t2]
    refine ⟨Nat.zero_le _, fun F hF => ?_⟩
    refine ⟨_, rfl, a, _, rfl, .inr (sqt (same_upd hF _ _ t1)), _, rfl, by rw [hln]; omega, by rw [hln]; omega, ?_⟩
    refine for_wk (n := (((rs.map V.ref).length : Nat) : Int).toNat) (S := fun _ => True) Wk.range0 (fun i σ H2 => ∃ (r : List Int) (y4 y5 : Option V), σ = [some (.ref a), some (.ref d), some (.ref l), some (.ref F), y4, y5] ∧ Same H H2 ∧ H2 F = some (.lst (r.map V.int)) ∧ r.length = i ∧
      ∀ t, t < i → MinOf (fun x => ∃ q, q < tg.length ∧ M q t < far ∧ x = rowF f q + M q t) (rowF r t))
      ⟨[], none, none, rfl, same_upd hF, upd_same, rfl, fun t ht => absurd ht (Nat.not_lt_zero _)⟩ (fun _ _ _ _ _ => trivial) ?_ ?_
    · rintro i v σ H2 H2' hi ⟨r, y4, y5, rfl, sm, hF2, hr1, hr2⟩ ⟨rfl, rfl⟩
      rw [hln, Int.toNat_natCast] at hi
      refine ⟨_, rfl, .inl ⟨rfl, _, sq hF2⟩, ?_⟩
      refine ⟨_, rfl, a, _, rfl, .inr (sqt (sm _ _ t1)), _, rfl, by rw [hln]; omega, by rw [hln]; omega, fun D hD => ?_⟩
      refine lc_wk Wk.range0 hD (fun j l _ => ∃ zs : List Int, l = zs.map V.int ∧ ∀ z, z ∈ zs ↔ ∃ q, q < j ∧ M q i < far ∧ z = rowF f q + M q i) off_pure ⟨[], rfl, fun z => by simp⟩ (fun _ _ => trivial) ?_ ?_
      · rintro j l2 y H3 H4 hj sm2 hl2 hz2 ⟨zs, rfl, hzs⟩ ⟨rfl, rfl⟩
        rw [hln, Int.toNat_natCast] at hj
        have w4 := sm2 _ _ (sm _ _ w1)
        have hl4 := sm2 _ _ (sm _ _ hl)
        refine ⟨rfl, ?_⟩
        refine ⟨_, rfl, _, rfl, szle (by simp), fun p hp => ⟨_, rfl, d, _, rfl, DGet.t (k := [Sum.inl (j : Int), Sum.inl (i : Int)]) (same_upd hp _ _ w4) upd_same, _, rfl, ?_⟩⟩
        have e := w2 j i hj hi
        rw [e]
        by_cases c : M j i < far
        · rw [if_pos c]
          refine ite_of rfl ?_
          refine ⟨_, rfl, _, rfl, l, _, _, .int (rowF f j), rfl, rfl, sq (same_upd hp _ _ hl4), ?_, ?_⟩
          · exact atI_ofNat (by rw [List.getElem?_map, row_get (by omega)]; rfl)
          refine ⟨_, rfl, _, rfl, _, rfl, szle (by simp), fun p2 hp2 => ?_⟩
          have gd := DGet.t (b := p2) (k := [Sum.inl (j : Int), Sum.inl (i : Int)]) (same_upd hp2 _ _ (same_upd hp _ _ w4)) upd_same
          rw [e, if_pos c] at gd
          refine ⟨d, .int (M j i), rfl, gd, _, _, rfl, rfl, ?_⟩
          refine lc_put off_pure hD (by omega) ((sm2.trans (same_upd hp)).trans (same_upd hp2)) (same_upd hp2 _ _ (same_upd hp _ _ hl2)) hz2 ⟨zs ++ [rowF f j + M j i], by simp, fun z => ?_⟩
          · rw [List.mem_append, hzs, List.mem_singleton]
            constructor
            · rintro (⟨p, h1, h2⟩ | rfl)
              · exact ⟨p, by omega, h2⟩
              · exact ⟨j, by omega, c, rfl⟩
            · rintro ⟨p, h1, h2, h3⟩
              by_cases e : p = j
              · subst e
                exact .inr h3
              · exact .inl ⟨p, by omega, h2, h3⟩
        · rw [if_neg c]
          refine ite_no rfl ?_
          refine ⟨_, sm2.trans (same_upd hp), same_upd hp _ _ hl2, by omega, zs, rfl, fun z => ?_⟩
          rw [hzs]
          constructor
          · rintro ⟨p, h1, h2⟩
            exact ⟨p, by omega, h2⟩
          · rintro ⟨p, h1, h2, h3⟩
            refine ⟨p, ?_, h2, h3⟩
            rcases Nat.lt_or_ge p j with k | k
            · exact k
            · have : p = j := by omega
              subst this
              exact absurd h2 c
      · rintro l2 H3 sm2 hl2 hz2 ⟨zs, rfl, hzs⟩
        rw [hln, Int.toNat_natCast] at hzs
        refine ⟨D, zs, rfl, sq hl2, List.length_pos_of_mem ((hzs _).mpr ⟨i, hi, hdg i hi, rfl⟩), fun mm hm1 hm2 => ?_⟩
        refine ⟨F, _, _, rfl, rfl, sm2 _ _ hF2, szlt (by rw [List.length_map]; omega), ?_⟩
        refine ⟨r ++ [mm], _, _, rfl, same_mut (sm.trans sm2) hF, by rw [upd_same, List.map_append]; rfl, by simp [hr1], fun t ht => ?_⟩
        by_cases ht' : t < i
        · have e2 : rowF (r ++ [mm]) t = rowF r t := by
            unfold rowF
            rw [List.getD_eq_getElem?_getD, List.getElem?_append_left (by omega), ← List.getD_eq_getElem?_getD]
          rw [e2]
          exact hr2 t ht'
        · have : t = i := by omega
          subst this
          have e2 : rowF (r ++ [mm]) t = mm := rowF_at (by rw [List.getElem?_append_right (by omega), hr1]; simp)
          rw [e2]
          exact ⟨(hzs mm).mp hm1, fun x hx => hm2 x ((hzs x).mpr hx)⟩
    · rintro σ H2 ⟨r, y4, y5, rfl, sm, hF2, hr1, hr2⟩
      rw [hln, Int.toNat_natCast] at hr1 hr2
      exact ⟨_, rfl, F, _, rfl, .inl ⟨sq hF2, fun t ht => q _ t r (sm.trans (same_upd ht)) upd_same hr1 hr2⟩⟩
end K7
end

section
set_option Elab.async false
set_option linter.all false
set_option maxRecDepth 100000
namespace K7
open PySem PySem.Spec PyProof.Rows L2 SlX
/-! The walk: the law's row behind. -/
theorem Asc.len {l : List Str} (h : Asc l) : l.length ≤ 102 := by
  obtain ⟨cs, rfl, h1, h2⟩ := h
  rw [List.length_map]
  exact nd_len (h1.imp fun {a b} q => Nat.ne_of_lt q) fun c hc => by have := h2 c hc; omega
theorem valV_mvD : ∀ {l : List (Str × Nat)} {i : Nat} {e : Str × Nat}, (l.map (·.1)).Nodup → l[i]? = some e → valV (mvD l) (Sum.inr e.1) = some (.int (e.2 : Nat))
  | [], i, e, _, h => by simp at h
  | a :: r, 0, e, _, h => by
    obtain rfl : a = e := Option.some.inj h
    exact valV_pos rfl
  | a :: r, i + 1, e, hn, h => by
    obtain ⟨h1, h2⟩ := List.nodup_cons.mp hn
    have ne : ¬ (Sum.inr a.1 : Key) = Sum.inr e.1 := fun q => h1 (by
      show a.1 ∈ r.map (·.1)
      rw [Sum.inr.inj q]
      exact List.mem_map.mpr ⟨e, List.mem_of_getElem? h, rfl⟩)
    show valV (((Sum.inr a.1 : Key), V.int (a.2 : Nat)) :: mvD r) (Sum.inr e.1) = _
    rw [valV_neg ne]
    exact valV_mvD h2 h
/-- the moves to t among the first i -/
def mvTo (l : List (Str × Nat)) (t i : Nat) : List (Str × Nat) := (l.take i).filter fun e => decide (e.2 = t)
theorem mvTo_step {l : List (Str × Nat)} {t i : Nat} {e : Str × Nat} (h : l[i]? = some e) : mvTo l t (i + 1) = if e.2 = t then mvTo l t i ++ [e] else mvTo l t i := by
  unfold mvTo
  rw [List.take_add_one, h, Option.toList_some, List.filter_append]
  by_cases c : e.2 = t
  · rw [if_pos c]
    simp [c]
  · rw [if_neg c]
    simp [c]
theorem mvTo_mem {l : List (Str × Nat)} {t : Nat} {e : Str × Nat} : e ∈ mvTo l t l.length ↔ e ∈ l ∧ e.2 = t := by
  unfold mvTo
  rw [List.take_of_length_le (Nat.le_refl _), List.mem_filter]
  simp
/-- what some holds behind the first j rows -/
def SomeOk (tg : MachS) (m : PrM) (x : Str) (r : List Int) (t j : Nat) (zs : List Int) : Prop := ∀ z, z ∈ zs ↔ z = rowF r t + m.out x ∨ ∃ p e, p < j ∧ e ∈ movesOf tg p ∧ e.2 = t ∧ z = rowF r p + swP m x e.1
theorem SomeOk.next {tg : MachS} {m : PrM} {x : Str} {r : List Int} {t j : Nat} {zs : List Int} (h : SomeOk tg m x r t j zs) : SomeOk tg m x r t (j + 1) (zs ++ (mvTo (movesOf tg j) t (movesOf tg j).length).map fun e => rowF r j + swP m x e.1) := by
  intro z
  rw [List.mem_append, h z, List.mem_map]
  constructor
  · rintro ((k | ⟨p, e, h1, h2⟩) | ⟨e, he, rfl⟩)
    · exact .inl k
    · exact .inr ⟨p, e, by omega, h2⟩
    · obtain ⟨h1, h2⟩ := mvTo_mem.mp he
      exact .inr ⟨j, e, by omega, h1, h2, rfl⟩
  · rintro (k | ⟨p, e, h1, h2, h3, h4⟩)
    · exact .inl (.inl k)
    · by_cases c : p = j
      · subst c
        exact .inr ⟨e, mvTo_mem.mpr ⟨h2, h3⟩, h4.symm⟩
      · exact .inl (.inr ⟨p, e, by omega, h2, h3, h4⟩)
theorem rowF_snoc {r : List Int} {mm : Int} {t i : Nat} (hr : r.length = i) : rowF (r ++ [mm]) t = if t < i then rowF r t else if t = i then mm else 0 := by
  unfold rowF
  rw [List.getD_eq_getElem?_getD]
  by_cases c : t < i
  · rw [List.getElem?_append_left (by omega), ← List.getD_eq_getElem?_getD, if_pos c]
  · rw [List.getElem?_append_right (by omega), hr, if_neg c]
    by_cases e : t = i
    · subst e
      simp
    · rw [if_neg e, List.getElem?_eq_none (by simp; omega)]
      rfl
/-! ### _law_behind -/
def sp__law_behind {K : PySem.W.Frag} {mg : Str → Option Value} (T : Txt K mg) : Sp := fun vs H Q _ => ∃ (a dc dw p : Addr) (x : Str) (tg : MachS) (m : PrM) (f : Tab Str) (M : Nat → Nat → Int) (r : List Int), vs = [.ref a, .ref dc, .ref dw, .ref p, .str x] ∧ TgAt H a tg ∧ TabAt H dc f ∧ TabM f m ∧ WyAt H dw tg.length M ∧ Ctx tg m M ∧ x ∈ m.sgs ∧
  H p = some (.tup (r.map V.int)) ∧ r.length = tg.length ∧ ∀ H' p' (r' : List Int), Same H H' → H' p' = some (.tup (r'.map V.int)) → r'.length = tg.length → Beh tg.length (movesOf tg) (swP m x) (m.out x) M (rowF r) (rowF r') → Q (.ref p') H'
set_option maxHeartbeats 4000000 in
theorem ok__law_behind {P : Program} {w : World} {K : PySem.W.Frag} {mg : Str → Option Value} {base : Heap} (T : Txt K mg) : FnOk P w K mg base CX0 2 T.a__law_behind T.d__law_behind ["target", "closed", "ways", "row", "sign"] (sp__law_behind T) := by
  refine T.F__law_behind.ok sc__law_behind (fun vs H Q E h => ?_) (fun cdv A outer s H vs Q E hr h => ?_)
  · obtain ⟨a, dc, dw, p, x, tg, m, f, M, r, rfl, ⟨rs, t1, t2, t3⟩, tab, tm, wy, cx, hx, hp, hr0, q⟩ := h
    rfl
  · obtain ⟨a, dc, dw, p, x, tg, m, f, M, r, rfl, ⟨rs, t1, t2, t3⟩, tab, tm, wy, cx, hx, hp, hr0, q⟩ := h
    refine ⟨_, PSs.nox (pss_cons (ps_set (i := 5) sc__law_behind.nd rfl (by first | exact .inl rfl | exact .inr rfl) (pe_lst pa_nil))
      (pss_cons (ps_for PassesOwn.never rfl (pi_range1 (by rfl) T.n_range (pa_cons (pe_callB (call_lenK K) (by rfl) T.n_len (by decide +kernel) (pa_cons (pv 0) pa_nil)) pa_nil)) (pg_name (i := 6) sc__law_behind.nd rfl (by first | exact .inl rfl | exact .inr rfl)) (pss_cons (ps_set (i := 7) sc__law_behind.nd rfl (by first | exact .inl rfl | exact .inr rfl) (pe_lst (pa_cons (pe_op op_add (pe_ix (ix_tupK K) (pv 3) (pv 6) (fun _ _ => rfl)) (pe_dget (hu_of hr) (pv 1) (pe_tup (pa_cons (pv 4) (pa_cons pe_str pa_nil))) (fun _ _ => rfl))) pa_nil)))
      (pss_cons (ps_for PassesOwn.never rfl (pi_range1 (by rfl) T.n_range (pa_cons (pe_callB (call_lenK K) (by rfl) T.n_len (by decide +kernel) (pa_cons (pv 0) pa_nil)) pa_nil)) (pg_name (i := 8) sc__law_behind.nd rfl (by first | exact .inl rfl | exact .inr rfl)) (pss_cons (ps_lock (ps_setLc (i := 9) (own := [("other", 10)]) rfl sc__law_behind.nd rfl rfl (sw_true rfl rfl rfl (by decide +kernel)) (pi_keys (pe_ix (ix_tupK K) (pe_ix (ix_tupK K) (pv 0) (pv 8) (fun _ _ => rfl)) pe_int (fun _ _ => rfl))) (blkOk_by (own := [("other", 10)]) (N := n__law_behind) (sc := defScope s__law_behind) (by decide +kernel)) (fun _ _ _ _ _ => (pg_name (i := 10) sc__law_behind.nd rfl (by first | exact .inl rfl | exact .inr rfl))) (fun _ _ _ _ _ => (pts_one (pt_cmpR op_eq (pe_dget (hu_of hr) (pe_ix (ix_tupK K) (pe_ix (ix_tupK K) (pv 0) (pv 8) (fun _ _ => rfl)) pe_int (fun _ _ => rfl)) (pv 10) (fun _ _ => rfl)) (pv 6) (nomark _)))) (fun _ _ _ _ _ => (pv 10))))
      (pss_one (ps_set (i := 7) sc__law_behind.nd rfl (by first | exact .inl rfl | exact .inr rfl) (pe_op op_cat (pv 7) (pe_lc (own := [("other", 10)]) rfl sc__law_behind.nd (pi_listK K (pv 9)) (blkOk_by (own := [("other", 10)]) (N := n__law_behind) (sc := defScope s__law_behind) (by decide +kernel)) (fun _ _ _ _ _ => (pg_name (i := 10) sc__law_behind.nd rfl (by first | exact .inl rfl | exact .inr rfl))) (fun _ _ _ _ _ => pts_nil) (fun _ _ _ _ _ => (pe_op op_add (pe_ix (ix_tupK K) (pv 3) (pv 8) (fun _ _ => rfl)) (pe_call (ok__law_price T) (hr.mono (by decide)) (by rfl) T.g__law_price T.F__law_price.kp (b__law_price T) .nil pass0 (pa_cons (pv 1) (pa_cons (pv 4) (pa_cons (pv 10) pa_nil))))))))))))
      (pss_one (ps_expr (pe_bmK K PySem.F.plainAttrs_list PySem.F.slot_list_append PySem.F.type_list_append mt_append (pv 5) (pa_cons (pe_callB (cr_minK K rfl) (by rfl) T.n_min (by decide +kernel) (pa_cons (pv 7) pa_nil)) pa_nil)))))))
      (pss_one (ps_ret (pe_call (ok__law_least T) (hr.mono (by decide)) (by rfl) T.g__law_least T.F__law_least.kp (b__law_least T) .nil pass0 (pa_cons (pv 0) (pa_cons (pv 2) (pa_cons (pv 5) pa_nil)))))))), ?_⟩
    have n6 := cx.ok.six
    have hln : ((rs.map V.ref).length : Int) = (tg.length : Int) := by rw [List.length_map, t2]
    obtain ⟨kvs, k1, _, k3⟩ := id tab
    refine ⟨Nat.zero_le _, fun F hF => ?_⟩
    refine ⟨_, rfl, a, _, rfl, .inr (sqt (same_upd hF _ _ t1)), _, rfl, by rw [hln]; omega, by rw [hln]; omega, ?_⟩
    refine for_wk (n := (((rs.map V.ref).length : Nat) : Int).toNat) (S := fun _ => True) Wk.range0 (fun i σ H2 => ∃ (fs : List Int) (y6 y7 y8 y9 y10 : Option V), σ = [some (.ref a), some (.ref dc), some (.ref dw), some (.ref p), some (.str x), some (.ref F), y6, y7, y8, y9, y10] ∧ Same H H2 ∧ H2 F = some (.lst (fs.map V.int)) ∧ fs.length = i ∧
      ∀ t, t < i → MinOf (fun z => ∃ p e, p < tg.length ∧ E1 (movesOf tg) (swP m x) (m.out x) p t e ∧ z = rowF r p + e) (rowF fs t))
      ⟨[], none, none, none, none, none, rfl, same_upd hF, upd_same, rfl, fun t ht => absurd ht (Nat.not_lt_zero _)⟩ (fun _ _ _ _ _ => trivial) ?_ ?_
    · rintro i v σ H2 H2' hi ⟨fs, y6, y7, y8, y9, y10, rfl, sm, hF2, hf1, hf2⟩ ⟨rfl, rfl⟩
      rw [hln, Int.toNat_natCast] at hi
      have at_r : ∀ j, j < tg.length → atI (r.map V.int) ((j : Nat) : Int) = some (.int (rowF r j)) := fun j hj => atI_ofNat (by rw [List.getElem?_map, row_get (by omega)]; rfl)
      -- some = [row[to] + closed[sign, '']]
      refine ⟨_, rfl, _, rfl, p, _, _, _, rfl, rfl, sqt (sm _ _ hp), at_r i hi, _, rfl, _, rfl, szle (by simp), fun t ht => ?_⟩
      have gd := DGet.t (b := t) (k := k2 x "") (same_upd ht _ _ (sm _ _ k1)) upd_same
      rw [k3.get, tm.out x hx] at gd
      refine ⟨dc, .int (m.out x), rfl, gd, _, _, rfl, rfl, szle (by simp), fun S hS => ?_⟩
      have sm3 : Same H (upd (upd H2' t (.tup [.str x, .str ""])) S (.lst [.int (rowF r i + m.out x)])) := (sm.trans (same_upd ht)).trans (same_upd hS)
      have hS3 : (upd (upd H2' t (.tup [.str x, .str ""])) S (.lst [.int (rowF r i + m.out x)])) S = some (.lst ([rowF r i + m.out x].map V.int)) := upd_same
      have hF3 : (upd (upd H2' t (.tup [.str x, .str ""])) S (.lst [.int (rowF r i + m.out x)])) F = some (.lst (fs.map V.int)) := same_upd hS _ _ (same_upd ht _ _ hF2)
      generalize upd (upd H2' t (.tup [.str x, .str ""])) S (.lst [.int (rowF r i + m.out x)]) = H3 at sm3 hS3 hF3 ⊢
      -- for at in range(len(target))
      refine ⟨_, rfl, a, _, rfl, .inr (sqt (sm3 _ _ t1)), _, rfl, by rw [hln]; omega, by rw [hln]; omega, ?_⟩
      refine for_wk (n := (((rs.map V.ref).length : Nat) : Int).toNat) (S := fun _ => True) Wk.range0 (fun j σ H4 => ∃ (S : Addr) (zs : List Int) (y8 y9 y10 : Option V), σ = [some (.ref a), some (.ref dc), some (.ref dw), some (.ref p), some (.str x), some (.ref F), some (.int (i : Nat)), some (.ref S), y8, y9, y10] ∧ Same H H4 ∧ H4 F = some (.lst (fs.map V.int)) ∧ H4 S = some (.lst (zs.map V.int)) ∧ zs.length ≤ 1 + 102 * j ∧ SomeOk tg m x r i j zs)
        ⟨S, _, _, _, _, rfl, sm3, hF3, hS3, by simp, fun z => by simp⟩ (fun _ _ _ _ _ => trivial) ?_ ?_
      · rintro j v σ H4 H4' hj ⟨S, zs, y8, y9, y10, rfl, sm4, hF4, hS4, hz, so⟩ ⟨rfl, rfl⟩
        rw [hln, Int.toNat_natCast] at hj
        obtain ⟨row, hrow⟩ := getE_of hj
        obtain ⟨rr, d, g1, g2, g3⟩ := t3 j row hrow
        have mvr := movesOf_at hrow
        have asc := cx.ok.asc row (List.mem_of_getElem? hrow)
        have at_t : atI (rs.map V.ref) ((j : Nat) : Int) = some (.ref rr) := atI_ofNat (by rw [List.getElem?_map, g1]; rfl)
        have nFd : F ≠ d := fun z => by rw [z, g3] at hF; cases hF
        have hd4 := sm4 _ _ g3
        -- moves = [other for other in target[at][0] if target[at][0][other] == to]
        refine ⟨d, _, hd4, trivial, fun od => ?_⟩
        have nrd : rr ≠ d := fun z => by rw [z, g3] at g2; cases g2
        have nad : a ≠ d := fun z => by rw [z, g3] at t1; cases t1
        have smx : SameX d H (upd H4' d (.frz od (.dK (mvD row.1)))) := (Same.x d sm4).trans locked
        have hfz : (upd H4' d (.frz od (.dK (mvD row.1)))) d = some (.frz od (.dK (mvD row.1))) := upd_same
        have hS5 : (upd H4' d (.frz od (.dK (mvD row.1)))) S = some (.lst (zs.map V.int)) := by
          rw [upd_ne (fun z => by rw [z, hd4] at hS4; cases hS4)]
          exact hS4
        have hF5 : (upd H4' d (.frz od (.dK (mvD row.1)))) F = some (.lst (fs.map V.int)) := by
          rw [upd_ne nFd]
          exact hF4
        generalize upd H4' d (.frz od (.dK (mvD row.1))) = H5 at smx hfz hS5 hF5 ⊢
        have ht5 := smx _ _ nad t1
        have hr5 := smx _ _ nrd g2
        refine ⟨_, rfl, _, rfl, a, _, _, .ref rr, rfl, rfl, sqt ht5, at_t, rr, _, _, .ref d, rfl, rfl, sqt hr5, rfl, d, od, rfl, .inl ⟨_, hfz, fun D hD => ?_⟩⟩
        refine lc_wk Wk.keys hD (fun i1 l _ => l = (mvTo row.1 i i1).map fun e => .str e.1) off_pure rfl (fun _ s => s _ _ hfz) ?_ ?_
        · rintro i1 l y H6 H7 hi1 sm6 hl6 hz6 rl ⟨rfl, k, w, e1, rfl⟩
          obtain ⟨e, he, rfl, rfl⟩ : ∃ e : Str × Nat, row.1[i1]? = some e ∧ k = Sum.inr e.1 ∧ w = .int (e.2 : Nat) := by
            rw [List.getElem?_map] at e1
            cases h : row.1[i1]? with
            | none => rw [h] at e1; cases e1
            | some e =>
              rw [h] at e1
              injection e1 with e1
              injection e1 with e1 e3
              exact ⟨e, rfl, e1.symm, e3.symm⟩
          have hl102 : i1 < 100000 := by
            have h1 := asc.len
            rw [List.length_map] at h1 hi1
            omega
          refine ⟨rfl, ?_⟩
          refine ⟨_, rfl, _, rfl, a, _, _, .ref rr, rfl, rfl, sqt (sm6 _ _ ht5), at_t, rr, _, _, .ref d, rfl, rfl, sqt (sm6 _ _ hr5), rfl, _, rfl, d, .int (e.2 : Nat), rfl, .inl ⟨_, .inr e.1, .inr ⟨od, sm6 _ _ hfz⟩, rfl, (valV_mvD asc.nodup he).symm⟩, _, rfl, rfl, _, rfl, ?_⟩
          have st := mvTo_step (t := i) he
          by_cases c : e.2 = i
          · rw [if_pos c] at st
            refine ite_of (decide_eq_true (by rw [c])) ?_
            refine ⟨_, rfl, lc_put off_pure hD hl102 sm6 hl6 hz6 ?_⟩
            rw [rl]
            show _ = (mvTo row.1 i (i1 + 1)).map fun e => V.str e.1
            rw [st, List.map_append]
            rfl
          · rw [if_neg c] at st
            refine ite_no (decide_eq_false (by intro z; injection z with z; omega)) ?_
            refine ⟨_, sm6, hl6, by omega, ?_⟩
            show _ = (mvTo row.1 i (i1 + 1)).map fun e => V.str e.1
            rw [st]
            exact rl
        · intro l H6 sm6 hl6 hz6 rl
          rw [List.length_map] at rl
          subst rl
          refine ⟨sm6 _ _ hfz, ?_⟩
          -- some = some + [row[at] + _law_price(closed, sign, other) for other in moves]
          have sm7 : Same H (upd H6 d (.dK (mvD row.1))) := unlock g3 (smx.trans (Same.x d sm6))
          have nDd : D ≠ d := fun z => by rw [z, hfz] at hD; cases hD
          have hD7 : (upd H6 d (.dK (mvD row.1))) D = some (.lst ((mvTo row.1 i row.1.length).map fun e => V.str e.1)) := by rw [upd_ne nDd]; exact hl6
          have hS7 : (upd H6 d (.dK (mvD row.1))) S = some (.lst (zs.map V.int)) := by
            rw [upd_ne (fun z => by rw [z, hfz] at hS5; cases hS5)]
            exact sm6 _ _ hS5
          have hF7 : (upd H6 d (.dK (mvD row.1))) F = some (.lst (fs.map V.int)) := by
            rw [upd_ne nFd]
            exact sm6 _ _ hF5
          generalize upd H6 d (.dK (mvD row.1)) = H7 at sm7 hD7 hS7 hF7 ⊢
          clear hl6 hz6 hD sm6 hS5 hF5 hfz smx ht5 hr5
          generalize hmm : mvTo row.1 i row.1.length = mm at hD7
          have hmem : ∀ e ∈ mm, e ∈ row.1 := fun e he => by
            rw [← hmm] at he
            exact (mvTo_mem.mp he).1
          have hlen : mm.length ≤ 102 := by
            have h1 := asc.len
            rw [List.length_map] at h1
            have h2 : mm.length ≤ row.1.length := by
              rw [← hmm]
              unfold mvTo
              rw [List.take_of_length_le (Nat.le_refl _)]
              exact List.length_filter_le _ _
            omega
          refine ⟨_, rfl, _, rfl, _, rfl, ⟨_, sq hD7⟩, fun D2 hD2 => ?_⟩
          refine lc_wk Wk.list hD2 (fun i2 l _ => l = ((mm.take i2).map fun e => rowF r j + swP m x e.1).map V.int) off_pure rfl (fun _ s => s.seq (sq hD7)) ?_ ?_
          · rintro i2 l y H8 H9 hi2 sm8 hl8 hz8 rl ⟨rfl, hy⟩
            rw [List.length_map] at hi2
            obtain ⟨e, he⟩ := getE_of hi2
            obtain rfl : y = .str e.1 := by
              rw [List.getElem?_map, he] at hy
              exact (Option.some.inj hy).symm
            have hin := hmem e (List.mem_of_getElem? he)
            have hs : e.1 ∈ m.sgs := cx.si row (List.mem_of_getElem? hrow) e hin
            have sm9 := sm7.trans sm8
            refine ⟨rfl, yes1 ?_⟩
            refine ⟨_, rfl, _, rfl, p, _, _, _, rfl, rfl, sqt (sm9 _ _ hp), at_r j hj, _, rfl, _, rfl, _, rfl, ?_⟩
            refine ⟨dc, f, x, e.1, swP m x e.1, rfl, tab.keep (keep_of sm9), fun ne => ?_, fun eq => by unfold swP; rw [if_pos eq], fun Ha sma => ?_⟩
            · obtain ⟨v, hv⟩ := cx.cl.all x e.1 hx hs ne
              rw [tm.swap x e.1 hx hs ne]
              unfold swP
              rw [if_neg ne, hv]
              rfl
            · refine ⟨_, _, rfl, rfl, lc_put off_pure hD2 (by omega) (sm8.trans sma) (sma _ _ hl8) hz8 ?_⟩
              rw [rl]
              show _ = ((mm.take (i2 + 1)).map fun e => rowF r j + swP m x e.1).map V.int
              rw [List.take_add_one, he, Option.toList_some, List.map_append, List.map_append]
              rfl
          · intro l H8 sm8 hl8 hz8 rl
            rw [List.length_map, List.take_of_length_le (Nat.le_refl _)] at rl
            subst rl
            refine ⟨S, D2, _, _, rfl, rfl, sm8 _ _ hS7, hl8, szle (by simp; omega), fun S2 hS2 => ?_⟩
            refine ⟨S2, zs ++ mm.map (fun e => rowF r j + swP m x e.1), _, _, _, rfl, (sm7.trans sm8).trans (same_upd hS2), same_upd hS2 _ _ (sm8 _ _ hF7), by rw [upd_same, List.map_append], by simp; omega, ?_⟩
            have := so.next
            rw [mvr, hmm] at this
            exact this
      · rintro σ H4 ⟨S, zs, y8, y9, y10, rfl, sm4, hF4, hS4, hz, so⟩
        rw [hln, Int.toNat_natCast] at so
        -- first.append(min(some))
        refine ⟨_, rfl, .inl ⟨rfl, _, sq hF4⟩, _, rfl, S, zs, rfl, sq hS4, List.length_pos_of_mem ((so _).mpr (.inl rfl)), fun mm h1 h2 => ?_⟩
        refine ⟨F, _, _, rfl, rfl, hF4, szlt (by rw [List.length_map]; omega), ?_⟩
        refine ⟨fs ++ [mm], _, _, _, _, _, rfl, same_mut sm4 hF, by rw [upd_same, List.map_append]; rfl, by simp [hf1], fun t ht => ?_⟩
        rw [rowF_snoc hf1]
        by_cases c : t < i
        · rw [if_pos c]
          exact hf2 t c
        · have : t = i := by omega
          subst this
          rw [if_neg c, if_pos rfl]
          have eq : ∀ z, z ∈ zs ↔ ∃ p e, p < tg.length ∧ E1 (movesOf tg) (swP m x) (m.out x) p t e ∧ z = rowF r p + e := fun z => by
            rw [so z]
            constructor
            · rintro (k | ⟨p, e, k1, k2, k3, k4⟩)
              · exact ⟨t, _, hi, .inl ⟨rfl, rfl⟩, k⟩
              · exact ⟨p, _, k1, .inr ⟨e, k2, k3, rfl⟩, k4⟩
            · rintro ⟨p, e, k1, ⟨rfl, rfl⟩ | ⟨y, k2, k3, rfl⟩, k4⟩
              · exact .inl k4
              · exact .inr ⟨p, y, k1, k2, k3, k4⟩
          exact ⟨(eq mm).mp h1, fun z hz => h2 z ((eq z).mpr hz)⟩
    · rintro σ H2 ⟨fs, y6, y7, y8, y9, y10, rfl, sm, hF2, hf1, hf2⟩
      rw [hln, Int.toNat_natCast] at hf1 hf2
      refine ⟨_, rfl, _, rfl, _, rfl, a, dw, F, tg, M, fs, rfl, ⟨rs, sm _ _ t1, t2, fun i row e => ?_⟩, wy.keep (keep_of sm), hF2, hf1, n6, fun t ht => ?_, fun H3 p' r' sm3 hp' hl' hm => ?_⟩
      · obtain ⟨r1, d1, e1, e2, e3⟩ := t3 i row e
        exact ⟨r1, d1, e1, sm _ _ e2, sm _ _ e3⟩
      · rw [cx.ws.mid.diag t ht]
        decide
      · exact q H3 p' r' (sm.trans sm3) hp' hl' (beh_least hf2 hm)
end K7
end

section
set_option Elab.async false
set_option linter.all false
set_option maxRecDepth 100000
namespace K7
open PySem PySem.Spec PyProof.Rows L2 SlX
section
variable {X : Cx}
theorem sw_trueD {kx vx : Expr} {gs : List Comprehension} {scope : Scope} {pos py : PySem.Pos} {y : Str} {l : Nat} {env : Env} (hk : env.scope.kind = .function) (hy : env.scope.names.lookup y = some .local) (hl : (py.line == pos.line) = true)
    (ha : (scope.names.any fun (n, k) => n == y && (k == .local || k == .cell)) = false) : swapsWith (.DictComp kx vx gs scope pos) (some (.Name y py)) l env = pure true := by
  have ky : env.kindOf y = some .local := hy
  have hb : env.blockKind = .function := by unfold Env.blockKind; rw [hk]; rfl
  unfold swapsWith
  simp only [hb, ky, ha, Expr.pos, hl]
  rfl
end
/-! ### their walks -/
def DcP (H1 : Hp) (D : Addr) (R : Nat → List (Key × V) → Prop) (i : Nat) (H : Hp) : Prop := ∃ l, Same H1 H ∧ H D = some (.dK l) ∧ l.length ≤ i ∧ R i l
theorem dc_put {H1 H4 : Hp} {D : Addr} {R : Nat → List (Key × V) → Prop} {i : Nat} {l : List (Key × V)} {k : Key} {z : V} (hD : H1 D = none) (hi : i < 100000) (sm : Same H1 H4) (hl : H4 D = some (.dK l)) (hz : l.length ≤ i) (r : R (i + 1) (putK l k z)) :
    ∃ kvs k', kV k = kV k' ∧ H4 D = some (.dK kvs) ∧ kvs.length < sizeLine ∧ DcP H1 D R (i + 1) (upd H4 D (.dK (putK kvs k' z))) :=
  ⟨l, k, rfl, hl, szlt (by omega), _, same_mut sm hD, upd_same, by have := length_putK l k z; omega, r⟩
theorem dc_wk {J : It} {n : Nat} {S : Hp → Prop} {it : Nat → V → Hp → Hp → Prop} {g : TG} {tt : TT} {tk tv : TE} {vs : List Nat} {σ : L2.St} {H1 : Hp} {D : Addr} {Qd : Hp → Prop} (k : Wk J n S it) (hD : H1 D = none)
    (R : Nat → List (Key × V) → Prop) (r0 : R 0 []) (hS : ∀ H, Same H1 H → S H)
    (hs : ∀ i l x H H', i < n → Same H1 H → H D = some (.dK l) → l.length ≤ i → R i l → it i x H H' → g x (wipe σ vs) H' fun σ2 H2 => wipe σ2 vs = wipe σ vs ∧ tt σ2 H2 fun b H3 =>
      if b = true then tk σ2 H3 fun y H4 => tv σ2 H4 fun z H5 => ∃ kvs k, y = kV k ∧ H5 D = some (.dK kvs) ∧ kvs.length < sizeLine ∧ DcP H1 D R (i + 1) (upd H5 D (.dK (putK kvs k z))) else DcP H1 D R (i + 1) H3)
    (hd : ∀ l H, Same H1 H → H D = some (.dK l) → l.length ≤ n → R n l → Qd H) :
    ∃ W : Nat → Nat → Hp → Prop, (∃ m, W 0 m (upd H1 D (.dK []))) ∧ ∀ i m H, W i m H →
      (J.stop i H ∧ Qd H) ∨ (J.go i H ∧ ∃ Nx : Hp → Prop, (∀ H', Nx H' → ∃ m', m' < m ∧ W (i + 1) m' H') ∧ ∀ x H', J.yld i H x H' → g x (wipe σ vs) H' fun σ2 H2 => wipe σ2 vs = wipe σ vs ∧ tt σ2 H2 fun b H3 =>
        if b = true then tk σ2 H3 fun y H4 => tv σ2 H4 fun z H5 => ∃ kvs k, y = kV k ∧ H5 D = some (.dK kvs) ∧ kvs.length < sizeLine ∧ Nx (upd H5 D (.dK (putK kvs k z))) else Nx H3) := by
  refine ⟨fun i m H => m = n - i ∧ i ≤ n ∧ DcP H1 D R i H, ⟨n, by simp, Nat.zero_le _, [], same_upd hD, upd_same, Nat.le_refl _, r0⟩, ?_⟩
  rintro i m H ⟨rfl, hi, l, sm, hl, hz, r⟩
  have s := hS H sm
  by_cases hlt : i < n
  · exact .inr ⟨k.go i H s hlt, DcP H1 D R (i + 1), fun H' p => ⟨n - (i + 1), by omega, rfl, hlt, p⟩, fun x H' y => hs i l x H H' hlt sm hl hz r (k.yld i H x H' s hlt y)⟩
  · have e : i = n := by omega
    subst e
    exact .inl ⟨k.stop H s, hd l H sm hl hz r⟩
def DtP (H1 : Hp) (D : Addr) (R : Nat → List (List Key × V) → Prop) (i : Nat) (H : Hp) : Prop := ∃ l, Same H1 H ∧ H D = some (.dT l) ∧ l.length ≤ i ∧ R i l
theorem dt_put {H1 H4 : Hp} {D a : Addr} {R : Nat → List (List Key × V) → Prop} {i : Nat} {l : List (List Key × V)} {k : List Key} {z : V} (hD : H1 D = none) (hi : i < 100000) (sm : Same H1 H4) (ha : H4 a = some (.tup (k.map kV))) (hl : H4 D = some (.dT l)) (hz : l.length ≤ i) (r : R (i + 1) (putK l k z)) :
    ∃ kvs k' a', V.ref a = .ref a' ∧ H4 a' = some (.tup (k'.map kV)) ∧ H4 D = some (.dT kvs) ∧ kvs.length < sizeLine ∧ DtP H1 D R (i + 1) (upd H4 D (.dT (putK kvs k' z))) :=
  ⟨l, k, a, rfl, ha, hl, szlt (by omega), _, same_mut sm hD, upd_same, by have := length_putK l k z; omega, r⟩
theorem dt_wk {J : It} {n : Nat} {S : Hp → Prop} {it : Nat → V → Hp → Hp → Prop} {g : TG} {tt : TT} {tk tv : TE} {vs : List Nat} {σ : L2.St} {H1 : Hp} {D : Addr} {Qd : Hp → Prop} (k : Wk J n S it) (hD : H1 D = none)
    (R : Nat → List (List Key × V) → Prop) (r0 : R 0 []) (hS : ∀ H, Same H1 H → S H)
    (hs : ∀ i l x H H', i < n → Same H1 H → H D = some (.dT l) → l.length ≤ i → R i l → it i x H H' → g x (wipe σ vs) H' fun σ2 H2 => wipe σ2 vs = wipe σ vs ∧ tt σ2 H2 fun b H3 =>
      if b = true then tk σ2 H3 fun y H4 => tv σ2 H4 fun z H5 => ∃ kvs k a, y = .ref a ∧ H5 a = some (.tup (k.map kV)) ∧ H5 D = some (.dT kvs) ∧ kvs.length < sizeLine ∧ DtP H1 D R (i + 1) (upd H5 D (.dT (putK kvs k z))) else DtP H1 D R (i + 1) H3)
    (hd : ∀ l H, Same H1 H → H D = some (.dT l) → l.length ≤ n → R n l → Qd H) :
    ∃ W : Nat → Nat → Hp → Prop, (∃ m, W 0 m (upd H1 D (.dT []))) ∧ ∀ i m H, W i m H →
      (J.stop i H ∧ Qd H) ∨ (J.go i H ∧ ∃ Nx : Hp → Prop, (∀ H', Nx H' → ∃ m', m' < m ∧ W (i + 1) m' H') ∧ ∀ x H', J.yld i H x H' → g x (wipe σ vs) H' fun σ2 H2 => wipe σ2 vs = wipe σ vs ∧ tt σ2 H2 fun b H3 =>
        if b = true then tk σ2 H3 fun y H4 => tv σ2 H4 fun z H5 => ∃ kvs k a, y = .ref a ∧ H5 a = some (.tup (k.map kV)) ∧ H5 D = some (.dT kvs) ∧ kvs.length < sizeLine ∧ Nx (upd H5 D (.dT (putK kvs k z))) else Nx H3) := by
  refine ⟨fun i m H => m = n - i ∧ i ≤ n ∧ DtP H1 D R i H, ⟨n, by simp, Nat.zero_le _, [], same_upd hD, upd_same, Nat.le_refl _, r0⟩, ?_⟩
  rintro i m H ⟨rfl, hi, l, sm, hl, hz, r⟩
  have s := hS H sm
  by_cases hlt : i < n
  · exact .inr ⟨k.go i H s hlt, DtP H1 D R (i + 1), fun H' p => ⟨n - (i + 1), by omega, rfl, hlt, p⟩, fun x H' y => hs i l x H H' hlt sm hl hz r (k.yld i H x H' s hlt y)⟩
  · have e : i = n := by omega
    subst e
    exact .inl ⟨k.stop H s, hd l H sm hl hz r⟩
/-- no test in a dict comprehension -/
theorem yes2 {te tv : TE} {σ : L2.St} {H : Hp} {P : V → V → Hp → Prop} {N : Hp → Prop} (h : te σ H fun y H4 => tv σ H4 (P y)) : tYes σ H (fun b H3 => if b = true then te σ H3 fun y H4 => tv σ H4 (P y) else N H3) := by
  show if true = true then te σ H _ else N H
  rw [if_pos rfl]
  exact h
end K7
end

section
set_option Elab.async false
set_option linter.all false
set_option maxRecDepth 100000
namespace K7
open PySem PySem.Spec PyProof.Rows L2 SlX
/-! The walk: closed prices. -/
/-- what H' has that H0 has not -/
def news (H0 H' : Hp) : Hp := fun p => match H0 p with
  | none => H' p
  | some _ => none
theorem Asc.len5 {l : List Str} (h : Asc l) : l.length ≤ 5 := by
  obtain ⟨cs, rfl, h1, h2⟩ := h
  rw [List.length_map, ← List.length_map (as := cs) (f := fun c => c - 97)]
  refine nd_len ?_ fun c hc => ?_
  · refine List.pairwise_map.mpr (h1.imp_of_mem fun {a b} ha hb q => ?_)
    have := h2 a ha
    have := h2 b hb
    omega
  · obtain ⟨x, hx, rfl⟩ := List.mem_map.mp hc
    have := h2 x hx
    omega
theorem news_same {H0 H' : Hp} : Same (news H0 H') H' := fun b o h => by
  unfold news at h
  split at h
  · exact h
  · cases h
theorem news_get {H0 H' : Hp} {p : Addr} {o : HO} (n : H0 p = none) (h : H' p = some o) : news H0 H' p = some o := by
  unfold news
  rw [n]
  exact h
theorem news_none {H0 H' : Hp} {p : Addr} {o : HO} (h : news H0 H' p = some o) : H0 p = none := by
  unfold news at h
  split at h
  · assumption
  · cases h
theorem slH_same {H0 H : Hp} {a C dx : Addr} {vs : List (Option V)} (s : Same H0 H) (na : H0 a = none) (nd : H0 dx = none) : Same H0 (SlX.slH H a C dx vs) := fun b o e => by
  rw [SlX.slH_ne (fun z => by rw [z, na] at e; cases e) (fun z => by rw [z, nd] at e; cases e)]
  exact s b o e
theorem dkS_put {sgs : List Str} (hn : sgs.Nodup) {f : Str → Int} {i : Nat} {x : Str} (hx : sgs[i]? = some x) : putK (dkS (sgs.take i) f) (Sum.inr x) (.int (f x)) = dkS (sgs.take (i + 1)) f := by
  have hi : i < sgs.length := (List.getElem?_eq_some_iff.mp hx).1
  have nx : x ∉ sgs.take i := fun m => by
    obtain ⟨j, hj, e⟩ := List.getElem_of_mem m
    rw [List.length_take] at hj
    rw [List.getElem_take] at e
    have : sgs[j]? = sgs[i]? := by rw [hx, List.getElem?_eq_getElem (by omega), e]
    have := (List.getElem?_inj (by omega : j < sgs.length) hn).mp this
    omega
  rw [putK_new _ (by rw [valV_dkS, if_neg nx]), List.take_add_one, hx, Option.toList_some]
  unfold dkS
  rw [List.map_append]
  rfl
/-- the prices that a table of all ways tells -/
def clM (sgs : List Str) (f : Tab Str) : PrM := ⟨sgs, fun x => (f "" x).getD 0, fun x => (f x "").getD 0, fun a b => if a ∈ sgs ∧ b ∈ sgs ∧ a ≠ b then f a b else none⟩
structure TabAll (sgs : List Str) (f : Tab Str) : Prop where
  put : ∀ x, x ∈ sgs → ∃ v, f "" x = some v
  out : ∀ x, x ∈ sgs → ∃ v, f x "" = some v
  swap : ∀ a b, a ∈ sgs → b ∈ sgs → a ≠ b → ∃ v, f a b = some v
theorem strs_at {sgs : List Str} {i : Nat} {y : V} (h : (sgs.map V.str)[i]? = some y) : ∃ x, sgs[i]? = some x ∧ y = .str x := by
  rw [List.getElem?_map] at h
  cases e : sgs[i]? with
  | none => rw [e] at h; cases h
  | some x => rw [e] at h; exact ⟨x, rfl, (Option.some.inj h).symm⟩
theorem tab_get {H : Hp} {d p : Addr} {kvs : List (List Key × V)} {f : Tab Str} (hd : H d = some (.dT kvs)) (ok : TabOk kvs f) {a b : Str} {v : Int} (h : f a b = some v) (hp : H p = some (.tup [.str a, .str b])) : DGet H d (.ref p) (some (.int v)) := by
  have g := DGet.t (b := p) (k := k2 a b) hd hp
  rw [ok.get, h] at g
  exact g
/-- two clauses: behind i outer and j inner turns -/
def DtX (H1 : Hp) (D : Addr) (R : Nat → Nat → List (List Key × V) → Prop) (i j : Nat) (H : Hp) : Prop := ∃ l, Same H1 H ∧ H D = some (.dT l) ∧ l.length ≤ 5 * i + j ∧ R i j l
theorem dtx_in {J : It} {n : Nat} {S : Hp → Prop} {it : Nat → V → Hp → Hp → Prop} {g : TG} {tt : TT} {tk tv : TE} {vs : List Nat} {σ : L2.St} {H1 H : Hp} {D : Addr} {i : Nat} (k : Wk J n S it) (hn : n ≤ 5)
    (R : Nat → Nat → List (List Key × V) → Prop) (r0 : DtX H1 D R i 0 H) (hS : ∀ H, Same H1 H → S H)
    (hs : ∀ j l x H H', j < n → Same H1 H → H D = some (.dT l) → l.length ≤ 5 * i + j → R i j l → it j x H H' → g x (wipe σ vs) H' fun σ2 H2 => wipe σ2 vs = wipe σ vs ∧ tt σ2 H2 fun b H3 =>
      if b = true then tk σ2 H3 fun y H4 => tv σ2 H4 fun z H5 => ∃ kvs k a, y = .ref a ∧ H5 a = some (.tup (k.map kV)) ∧ H5 D = some (.dT kvs) ∧ kvs.length < sizeLine ∧ DtX H1 D R i (j + 1) (upd H5 D (.dT (putK kvs k z))) else DtX H1 D R i (j + 1) H3)
    (hd : ∀ l, R i n l → R (i + 1) 0 l) :
    ∃ W : Nat → Nat → Hp → Prop, (∃ m, W 0 m H) ∧ ∀ j m H, W j m H → (J.stop j H ∧ DtX H1 D R (i + 1) 0 H) ∨ (J.go j H ∧ ∃ Nx : Hp → Prop, (∀ H', Nx H' → ∃ m', m' < m ∧ W (j + 1) m' H') ∧ ∀ x H', J.yld j H x H' → g x (wipe σ vs) H' fun σ2 H2 => wipe σ2 vs = wipe σ vs ∧ tt σ2 H2 fun b H3 =>
      if b = true then tk σ2 H3 fun y H4 => tv σ2 H4 fun z H5 => ∃ kvs k a, y = .ref a ∧ H5 a = some (.tup (k.map kV)) ∧ H5 D = some (.dT kvs) ∧ kvs.length < sizeLine ∧ Nx (upd H5 D (.dT (putK kvs k z))) else Nx H3) := by
  refine ⟨fun j m H => m = n - j ∧ j ≤ n ∧ DtX H1 D R i j H, ⟨n, by simp, Nat.zero_le _, r0⟩, ?_⟩
  rintro j m H ⟨rfl, hj, l, sm, hl, hz, r⟩
  have s := hS H sm
  by_cases hlt : j < n
  · exact .inr ⟨k.go j H s hlt, DtX H1 D R i (j + 1), fun H' p => ⟨n - (j + 1), by omega, rfl, hlt, p⟩, fun x H' y => hs j l x H H' hlt sm hl hz r (k.yld j H x H' s hlt y)⟩
  · have e : j = n := by omega
    subst e
    exact .inl ⟨k.stop H s, l, sm, hl, by omega, hd l r⟩
theorem dtx_put {H1 H4 : Hp} {D a : Addr} {R : Nat → Nat → List (List Key × V) → Prop} {i j : Nat} {l : List (List Key × V)} {k : List Key} {z : V} (hD : H1 D = none) (hi : 5 * i + j < 100000) (sm : Same H1 H4) (ha : H4 a = some (.tup (k.map kV))) (hl : H4 D = some (.dT l)) (hz : l.length ≤ 5 * i + j) (r : R i (j + 1) (putK l k z)) :
    ∃ kvs k' a', V.ref a = .ref a' ∧ H4 a' = some (.tup (k'.map kV)) ∧ H4 D = some (.dT kvs) ∧ kvs.length < sizeLine ∧ DtX H1 D R i (j + 1) (upd H4 D (.dT (putK kvs k' z))) :=
  ⟨l, k, a, rfl, ha, hl, szlt (by omega), _, same_mut sm hD, upd_same, by have := length_putK l k z; omega, r⟩
theorem yesI {wi : TI} {σ : L2.St} {H : Hp} {R : It → Hp → Prop} {N : Hp → Prop} (h : wi σ H R) : tYes σ H (fun b H3 => if b = true then wi σ H3 R else N H3) := by
  show if true = true then wi σ H R else N H
  rw [if_pos rfl]
  exact h
/-- the changes that are told behind i whole signs and j others of the next one -/
def SwSeen (sgs : List Str) (i j : Nat) (a b : Str) : Prop := a ≠ b ∧ ((a ∈ sgs.take i ∧ b ∈ sgs) ∨ (sgs[i]? = some a ∧ b ∈ sgs.take j))
open Classical in
noncomputable def swTab (sgs : List Str) (f : Tab Str) (i j : Nat) : Tab Str := fun a b => if SwSeen sgs i j a b then f a b else none
theorem mem_take1 {sgs : List Str} {i : Nat} {x y : Str} (h : sgs[i]? = some x) : y ∈ sgs.take (i + 1) ↔ y ∈ sgs.take i ∨ y = x := by
  rw [List.take_add_one, h, Option.toList_some, List.mem_append, List.mem_singleton]
theorem swTab_step {sgs : List Str} {f : Tab Str} {i j : Nat} {x y : Str} {v : Int} (hx : sgs[i]? = some x) (hy : sgs[j]? = some y) (ne : x ≠ y) (hv : f x y = some v) : tput (swTab sgs f i j) x y v = swTab sgs f i (j + 1) := by
  funext a b
  unfold tput swTab
  by_cases c : a = x ∧ b = y
  · obtain ⟨rfl, rfl⟩ := c
    rw [if_pos ⟨rfl, rfl⟩, if_pos ⟨ne, .inr ⟨hx, (mem_take1 hy).mpr (.inr rfl)⟩⟩, hv]
  · rw [if_neg c]
    have e : SwSeen sgs i (j + 1) a b ↔ SwSeen sgs i j a b := by
      unfold SwSeen
      constructor
      · rintro ⟨h1, h2 | ⟨h2, h3⟩⟩
        · exact ⟨h1, .inl h2⟩
        · rcases (mem_take1 hy).mp h3 with k | k
          · exact ⟨h1, .inr ⟨h2, k⟩⟩
          · rw [hx] at h2
            exact absurd ⟨(Option.some.inj h2).symm, k⟩ c
      · rintro ⟨h1, h2 | ⟨h2, h3⟩⟩
        · exact ⟨h1, .inl h2⟩
        · exact ⟨h1, .inr ⟨h2, (mem_take1 hy).mpr (.inl h3)⟩⟩
    by_cases d : SwSeen sgs i j a b
    · rw [if_pos d, if_pos (e.mpr d)]
    · rw [if_neg d, if_neg (fun z => d (e.mp z))]
theorem swTab_skip {sgs : List Str} {f : Tab Str} {i j : Nat} {x : Str} (hx : sgs[i]? = some x) (hy : sgs[j]? = some x) : swTab sgs f i (j + 1) = swTab sgs f i j := by
  funext a b
  unfold swTab
  have e : SwSeen sgs i (j + 1) a b ↔ SwSeen sgs i j a b := by
    unfold SwSeen
    constructor
    · rintro ⟨h1, h2 | ⟨h2, h3⟩⟩
      · exact ⟨h1, .inl h2⟩
      · rcases (mem_take1 hy).mp h3 with k | k
        · exact ⟨h1, .inr ⟨h2, k⟩⟩
        · rw [hx] at h2
          exact absurd ((Option.some.inj h2).symm.trans k.symm) h1
    · rintro ⟨h1, h2 | ⟨h2, h3⟩⟩
      · exact ⟨h1, .inl h2⟩
      · exact ⟨h1, .inr ⟨h2, (mem_take1 hy).mpr (.inl h3)⟩⟩
  by_cases d : SwSeen sgs i j a b
  · rw [if_pos d, if_pos (e.mpr d)]
  · rw [if_neg d, if_neg (fun z => d (e.mp z))]
theorem swTab_next {sgs : List Str} {f : Tab Str} {i : Nat} {x : Str} (hx : sgs[i]? = some x) : swTab sgs f i sgs.length = swTab sgs f (i + 1) 0 := by
  funext a b
  unfold swTab
  have e : SwSeen sgs i sgs.length a b ↔ SwSeen sgs (i + 1) 0 a b := by
    unfold SwSeen
    rw [List.take_of_length_le (Nat.le_refl _), mem_take1 hx]
    constructor
    · rintro ⟨h1, ⟨h2, h3⟩ | ⟨h2, h3⟩⟩
      · exact ⟨h1, .inl ⟨.inl h2, h3⟩⟩
      · rw [hx] at h2
        exact ⟨h1, .inl ⟨.inr (Option.some.inj h2).symm, h3⟩⟩
    · rintro ⟨h1, ⟨h2 | rfl, h3⟩ | ⟨_, h3⟩⟩
      · exact ⟨h1, .inl ⟨h2, h3⟩⟩
      · exact ⟨h1, .inr ⟨hx, h3⟩⟩
      · simp at h3
  by_cases d : SwSeen sgs i sgs.length a b
  · rw [if_pos d, if_pos (e.mp d)]
  · rw [if_neg d, if_neg (fun z => d (e.mpr z))]
theorem swTab_all {sgs : List Str} {f : Tab Str} : swTab sgs f sgs.length 0 = (clM sgs f).swap := by
  funext a b
  unfold swTab clM
  have e : SwSeen sgs sgs.length 0 a b ↔ (a ∈ sgs ∧ b ∈ sgs ∧ a ≠ b) := by
    unfold SwSeen
    rw [List.take_of_length_le (Nat.le_refl _)]
    simp
    constructor
    · rintro ⟨h1, h2, h3⟩
      exact ⟨h2, h3, h1⟩
    · rintro ⟨h1, h2, h3⟩
      exact ⟨h3, h1, h2⟩
  show _ = if a ∈ sgs ∧ b ∈ sgs ∧ a ≠ b then f a b else none
  by_cases d : SwSeen sgs sgs.length 0 a b
  · rw [if_pos d, if_pos (e.mp d)]
  · rw [if_neg d, if_neg (fun z => d (e.mpr z))]
theorem swTab_nil {sgs : List Str} {f : Tab Str} : swTab sgs f 0 0 = fun _ _ => none := by
  funext a b
  unfold swTab
  rw [if_neg (by rintro ⟨_, ⟨h, _⟩ | ⟨_, h⟩⟩ <;> simp at h)]
/-! ### Closed.__init__ -/
def sp_Closed_init {K : PySem.W.Frag} {mg : Str → Option Value} (T : Txt K mg) : Sp := fun vs H Q _ => ∃ (H0 : Hp) (a dx dt ls : Addr) (f : Tab Str) (sgs : List Str), vs = [.ref a, .ref dt, .ref ls] ∧ Same H0 H ∧ H0 a = none ∧ H0 dx = none ∧ dx ≠ a ∧ H a = some (.ins T.C_Closed dx []) ∧ (∃ o, H dx = some o) ∧ (∃ kvs, H0 dt = some (.dT kvs) ∧ TabOk kvs f) ∧ TabAll sgs f ∧ H0 ls = some (.lst (sgs.map V.str)) ∧ Asc sgs ∧
  ∀ H', Same H0 H' → PrAt T.C_Closed (news H0 H') a (clM sgs f) → Q .non H'
set_option maxHeartbeats 4000000 in
theorem ok_Closed_init {P : Program} {w : World} {K : PySem.W.Frag} {mg : Str → Option Value} {base : Heap} (T : Txt K mg) : FnOk P w K mg base CX0 1 T.a_Closed_init T.d_Closed_init ["self", "table", "signs"] (sp_Closed_init T) := by
  refine T.F_Closed_init.ok sc_Closed_init (fun vs H Q E h => ?_) (fun cdv A outer s H vs Q E hr h => ?_)
  · obtain ⟨H0, a, dx, dt, ls, f, sgs, rfl, s0, na, nd, nda, ha, ⟨od, hod⟩, tab, all, hls, asc, q⟩ := h
    rfl
  · obtain ⟨H0, a, dx, dt, ls, f, sgs, rfl, s0, na, nd, nda, ha, ⟨od, hod⟩, tab, all, hls, asc, q⟩ := h
    refine ⟨_, PSs.nox (pss_cons (ps_sl (pv 0) (pe_dc (own := [("sign", 3)]) rfl sc_Closed_init.nd (pi_listK K (pv 2)) (blkOk_by (own := [("sign", 3)]) (N := n_Closed_init) (sc := defScope s_Closed_init) (by decide +kernel)) (fun _ _ _ _ _ => (pg_name (i := 3) sc_Closed_init.nd rfl (by first | exact .inl rfl | exact .inr rfl))) (fun _ _ _ _ _ => pts_nil) (fun _ _ _ _ _ => (pv 3)) (fun _ _ _ _ _ => (pe_dget (hu_of hr) (pv 1) (pe_tup (pa_cons pe_str (pa_cons (pv 3) pa_nil))) (fun _ _ => rfl)))))
      (pss_cons (ps_sl (pv 0) (pe_dc (own := [("sign", 3)]) rfl sc_Closed_init.nd (pi_listK K (pv 2)) (blkOk_by (own := [("sign", 3)]) (N := n_Closed_init) (sc := defScope s_Closed_init) (by decide +kernel)) (fun _ _ _ _ _ => (pg_name (i := 3) sc_Closed_init.nd rfl (by first | exact .inl rfl | exact .inr rfl))) (fun _ _ _ _ _ => pts_nil) (fun _ _ _ _ _ => (pv 3)) (fun _ _ _ _ _ => (pe_dget (hu_of hr) (pv 1) (pe_tup (pa_cons (pv 3) (pa_cons pe_str pa_nil))) (fun _ _ => rfl)))))
      (pss_one (ps_sl (pv 0) (pe_dcT2 (own := [("one", 4), ("other", 5)]) (vs1 := [5]) rfl hr.units sc_Closed_init.nd (pi_listK K (pv 2)) (blkOk_by (own := [("one", 4), ("other", 5)]) (N := n_Closed_init) (sc := defScope s_Closed_init) (by decide +kernel)) (fun _ _ _ _ _ => (pg_name (i := 4) sc_Closed_init.nd rfl (by first | exact .inl rfl | exact .inr rfl))) (fun _ _ _ _ _ => pts_nil) (by decide) (fun _ _ _ _ _ => (pi_listK K (pv 2))) (fun _ _ _ _ _ => (pg_name (i := 5) sc_Closed_init.nd rfl (by first | exact .inl rfl | exact .inr rfl))) (fun _ _ _ _ _ => (pts_one (pt_cmpR op_ne (pv 4) (pv 5) (nomark _)))) (fun _ _ _ _ _ => (pe_tup (pa_cons (pv 4) (pa_cons (pv 5) pa_nil)))) (fun _ _ _ _ _ => (pe_dget (hu_of hr) (pv 1) (pe_tup (pa_cons (pv 4) (pa_cons (pv 5) pa_nil))) (fun _ _ => rfl)))))))), ?_⟩
    obtain ⟨kvs, k1, k3⟩ := tab
    have l102 := asc.len
    -- self.own_put = {sign: table['', sign] for sign in signs}
    refine ⟨_, rfl, _, rfl, ⟨_, sq (s0 _ _ hls)⟩, fun P hP => ?_⟩
    refine dc_wk Wk.list hP (fun i l => l = dkS (sgs.take i) fun x => (f "" x).getD 0) rfl (fun _ s => s.seq (sq (s0 _ _ hls))) ?_ ?_
    · rintro i l y H3 H4 hi sm hl hz e ⟨rfl, hy⟩
      rw [List.length_map] at hi
      obtain ⟨x, hx, rfl⟩ := strs_at hy
      obtain ⟨v, hv⟩ := all.put x (List.mem_of_getElem? hx)
      refine ⟨rfl, yes2 ?_⟩
      refine ⟨_, rfl, _, rfl, _, rfl, szle (by simp), fun p hp => ?_⟩
      refine ⟨dt, .int v, rfl, tab_get (same_upd hp _ _ (sm _ _ (s0 _ _ k1))) k3 hv upd_same, ?_⟩
      refine dc_put (k := .inr x) hP (by omega) (sm.trans (same_upd hp)) (same_upd hp _ _ hl) hz ?_
      rw [e]
      have := dkS_put asc.nodup (f := fun x => (f "" x).getD 0) hx
      rw [hv] at this
      exact this
    intro l H1 sm1 hl1 hz1 e
    rw [List.length_map, List.take_of_length_le (Nat.le_refl _)] at e
    subst e
    have t1 := s0.trans sm1
    have ha1 := sm1 _ _ ha
    refine ⟨_, rfl, a, _, dx, _, [], 1, rfl, .inl ⟨ha1, rfl⟩, T.S_Closed, T.sl_Closed_own_put, ?_⟩
    have hP0 : H0 P = none := s0.free hP
    have nPa : P ≠ a := fun z => by rw [z, ha] at hP; cases hP
    have nPd : P ≠ dx := fun z => by rw [z, hod] at hP; cases hP
    have e2 : putS 1 (V.ref P) [] = [none, some (.ref P)] := rfl
    rw [e2]
    have t2 : Same H0 (slH H1 a T.C_Closed dx [none, some (.ref P)]) := slH_same t1 na nd
    have sl2 : Slt (slH H1 a T.C_Closed dx [none, some (.ref P)]) a T.C_Closed dx [none, some (.ref P)] := slH_slt nda
    have P2 : (slH H1 a T.C_Closed dx [none, some (.ref P)]) P = some (.dK (dkS sgs fun x => (f "" x).getD 0)) := by rw [slH_ne nPa nPd]; exact hl1
    have d2 : ∃ o, (slH H1 a T.C_Closed dx [none, some (.ref P)]) dx = some o := ⟨_, by unfold slH; rw [upd_ne nda, upd_same]⟩
    have a2 : ∃ o, (slH H1 a T.C_Closed dx [none, some (.ref P)]) a = some o := ⟨_, by unfold slH; rw [upd_same]⟩
    generalize slH H1 a T.C_Closed dx [none, some (.ref P)] = H2 at t2 sl2 P2 d2 a2 ⊢
    clear hl1 hz1 sm1 t1 ha1 ha s0 hod hP
    -- self.own_out = {sign: table[sign, ''] for sign in signs}
    refine ⟨_, rfl, _, rfl, ⟨_, sq (t2 _ _ hls)⟩, fun O hO => ?_⟩
    refine dc_wk Wk.list hO (fun i l => l = dkS (sgs.take i) fun x => (f x "").getD 0) rfl (fun _ s => s.seq (sq (t2 _ _ hls))) ?_ ?_
    · rintro i l y H3 H4 hi sm hl hz e ⟨rfl, hy⟩
      rw [List.length_map] at hi
      obtain ⟨x, hx, rfl⟩ := strs_at hy
      obtain ⟨v, hv⟩ := all.out x (List.mem_of_getElem? hx)
      refine ⟨rfl, yes2 ?_⟩
      refine ⟨_, rfl, _, rfl, _, rfl, szle (by simp), fun p hp => ?_⟩
      refine ⟨dt, .int v, rfl, tab_get (same_upd hp _ _ (sm _ _ (t2 _ _ k1))) k3 hv upd_same, ?_⟩
      refine dc_put (k := .inr x) hO (by omega) (sm.trans (same_upd hp)) (same_upd hp _ _ hl) hz ?_
      rw [e]
      have := dkS_put asc.nodup (f := fun x => (f x "").getD 0) hx
      rw [hv] at this
      exact this
    intro l H3 sm3 hl3 hz3 e
    rw [List.length_map, List.take_of_length_le (Nat.le_refl _)] at e
    subst e
    obtain ⟨oa, ea⟩ := a2
    obtain ⟨od, ed⟩ := d2
    have nOa : O ≠ a := fun z => by rw [z, ea] at hO; cases hO
    have nOd : O ≠ dx := fun z => by rw [z, ed] at hO; cases hO
    have hO0 : H0 O = none := t2.free hO
    refine ⟨_, rfl, a, _, dx, _, [none, some (.ref P)], 0, rfl, slt_same sm3 sl2, T.S_Closed, T.sl_Closed_own_out, ?_⟩
    have e2 : putS 0 (V.ref O) [none, some (.ref P)] = [some (.ref O), some (.ref P)] := rfl
    rw [e2]
    have t4 : Same H0 (slH H3 a T.C_Closed dx [some (.ref O), some (.ref P)]) := slH_same (t2.trans sm3) na nd
    have sl4 : Slt (slH H3 a T.C_Closed dx [some (.ref O), some (.ref P)]) a T.C_Closed dx [some (.ref O), some (.ref P)] := slH_slt nda
    have P4 : (slH H3 a T.C_Closed dx [some (.ref O), some (.ref P)]) P = some (.dK (dkS sgs fun x => (f "" x).getD 0)) := by rw [slH_ne nPa nPd]; exact sm3 _ _ P2
    have O4 : (slH H3 a T.C_Closed dx [some (.ref O), some (.ref P)]) O = some (.dK (dkS sgs fun x => (f x "").getD 0)) := by rw [slH_ne nOa nOd]; exact hl3
    have d4 : ∃ o, (slH H3 a T.C_Closed dx [some (.ref O), some (.ref P)]) dx = some o := ⟨_, by unfold slH; rw [upd_ne nda, upd_same]⟩
    have a4 : ∃ o, (slH H3 a T.C_Closed dx [some (.ref O), some (.ref P)]) a = some o := ⟨_, by unfold slH; rw [upd_same]⟩
    generalize slH H3 a T.C_Closed dx [some (.ref O), some (.ref P)] = H4 at t4 sl4 P4 O4 d4 a4 ⊢
    clear hl3 hz3 sm3 t2 sl2 P2 ea ed hO e2
    -- self.own_swap = {(one, other): table[one, other] for one in signs for other in signs if one != other}
    refine ⟨_, rfl, _, rfl, ⟨_, sq (t4 _ _ hls)⟩, fun W hW => ?_⟩
    have k5 := t4 _ _ k1
    have l5 := asc.len5
    refine ⟨fun i m H => m = sgs.length - i ∧ i ≤ sgs.length ∧ DtX H4 W (fun i j l => TabOk l (swTab sgs f i j)) i 0 H,
      ⟨sgs.length, by simp, Nat.zero_le _, [], same_upd hW, upd_same, Nat.le_refl _, by show TabOk [] (swTab sgs f 0 0); rw [swTab_nil]; exact .nil⟩, ?_⟩
    rintro i m H5 ⟨rfl, hi, st⟩
    obtain ⟨l5', sm5, hl5, hz5, r5⟩ := id st
    have hs5 := sm5 _ _ (t4 _ _ hls)
    by_cases hlt : i < sgs.length
    · have wk := Wk.list (K := K) (a := ls) (xs := sgs.map V.str)
      refine .inr ⟨wk.go i H5 (sq hs5) (by rw [List.length_map]; exact hlt), DtX H4 W (fun i j l => TabOk l (swTab sgs f i j)) (i + 1) 0, fun H' p => ⟨sgs.length - (i + 1), by omega, rfl, hlt, p⟩, fun y H' yl => ?_⟩
      obtain ⟨rfl, hy⟩ := wk.yld i H5 y H' (sq hs5) (by rw [List.length_map]; exact hlt) yl
      obtain ⟨x, hx, rfl⟩ := strs_at hy
      refine ⟨rfl, yesI ?_⟩
      refine ⟨_, rfl, _, rfl, ⟨_, sq hs5⟩, ?_⟩
      refine dtx_in (n := (sgs.map V.str).length) Wk.list (by rw [List.length_map]; omega) (fun i j l => TabOk l (swTab sgs f i j)) st (fun _ s => s.seq (sq (t4 _ _ hls))) ?_ (fun l r => ?_)
      · rintro j l y H6 H7 hj sm hl hz r ⟨rfl, hy⟩
        rw [List.length_map] at hj
        obtain ⟨y, hw, rfl⟩ := strs_at hy
        refine ⟨rfl, ?_⟩
        refine ⟨_, rfl, _, rfl, rfl, _, rfl, ?_⟩
        by_cases c : x = y
        · subst c
          refine ite_no (by rw [decide_eq_true rfl]; rfl) ⟨l, sm, hl, by omega, ?_⟩
          show TabOk l (swTab sgs f i (j + 1))
          rw [swTab_skip hx hw]
          exact r
        · refine ite_of (by rw [decide_eq_false (by intro z; injection z with z; exact c z)]; rfl) ?_
          obtain ⟨v, hv⟩ := all.swap x y (List.mem_of_getElem? hx) (List.mem_of_getElem? hw) c
          refine ⟨_, rfl, _, rfl, szle (by simp), fun p hp => ?_⟩
          refine ⟨_, rfl, _, rfl, _, rfl, szle (by simp), fun p2 hp2 => ?_⟩
          refine ⟨dt, .int v, rfl, tab_get (same_upd hp2 _ _ (same_upd hp _ _ (sm _ _ k5))) k3 hv upd_same, ?_⟩
          refine dtx_put (k := k2 x y) hW (by omega) ((sm.trans (same_upd hp)).trans (same_upd hp2)) (same_upd hp2 _ _ upd_same) (same_upd hp2 _ _ (same_upd hp _ _ hl)) hz ?_
          show TabOk _ (swTab sgs f i (j + 1))
          rw [← swTab_step hx hw c hv]
          exact r.put x y v
      · rw [List.length_map] at r
        show TabOk l (swTab sgs f (i + 1) 0)
        rw [← swTab_next hx]
        exact r
    · have e : i = sgs.length := by omega
      subst e
      have wk := Wk.list (K := K) (a := ls) (xs := sgs.map V.str)
      have stp := wk.stop H5 (sq hs5)
      rw [List.length_map] at stp
      refine .inl ⟨stp, ?_⟩
      obtain ⟨oa, ea⟩ := a4
      obtain ⟨od, ed⟩ := d4
      have nWa : W ≠ a := fun z => by rw [z, ea] at hW; cases hW
      have nWd : W ≠ dx := fun z => by rw [z, ed] at hW; cases hW
      have hW0 : H0 W = none := t4.free hW
      refine ⟨_, rfl, a, _, dx, _, [some (.ref O), some (.ref P)], 2, rfl, slt_same sm5 sl4, T.S_Closed, T.sl_Closed_own_swap, ?_⟩
      have e2 : putS 2 (V.ref W) [some (.ref O), some (.ref P)] = [some (.ref O), some (.ref P), some (.ref W)] := rfl
      rw [e2]
      refine q _ (slH_same (t4.trans sm5) na nd) ⟨dx, O, P, W, .inr ⟨news_get na (by unfold slH; rw [upd_same]), news_get nd (by unfold slH; rw [upd_ne nda, upd_same])⟩, news_get hO0 (by rw [slH_ne nOa nOd]; exact sm5 _ _ O4), news_get hP0 (by rw [slH_ne nPa nPd]; exact sm5 _ _ P4), l5', news_get hW0 (by rw [slH_ne nWa nWd]; exact hl5), by omega, ?_⟩
      have r5 : TabOk l5' (swTab sgs f sgs.length 0) := r5
      rw [swTab_all] at r5
      exact r5
end K7
end

section
set_option Elab.async false
set_option linter.all false
set_option maxRecDepth 100000
namespace K7
open PySem PySem.Spec PyProof.Rows L2 SlX
/-! The walk: all ways from the prices. -/
theorem news_mono {H H4 H' : Hp} (s : Same H H4) : Same (news H4 H') (news H H') := fun b o h => news_get (s.free (news_none h)) (news_same b o h)
theorem fold_step {α β : Type} {f : β → α → β} {l : List α} {i : Nat} {x : α} {T : β} (h : l[i]? = some x) : (l.take (i + 1)).foldl f T = f ((l.take i).foldl f T) x := by
  rw [List.take_add_one, h, Option.toList_some, List.foldl_append]
  rfl
def ndS (m : PrM) : List Str := "" :: m.sgs
def tini (m : PrM) (T : Tab Str) (x : Str) : Tab Str := tput (tput T "" x (m.put x)) x "" (m.out x)
def iniT (m : PrM) : Tab Str := m.sgs.foldl (tini m) m.swap
theorem ini_at (m : PrM) : ∀ (l : List Str) (T : Tab Str), ("" : Str) ∉ l → ∀ a b, l.foldl (tini m) T a b = if a = "" ∧ b ∈ l then some (m.put b) else if b = "" ∧ a ∈ l then some (m.out a) else T a b
  | [], T, _, a, b => by simp
  | x :: r, T, h, a, b => by
    have nx : x ≠ "" := fun z => h (by rw [z]; exact List.mem_cons_self)
    have hr : ("" : Str) ∉ r := fun z => h (List.mem_cons_of_mem _ z)
    rw [List.foldl_cons, ini_at m r _ hr]
    unfold tini tput
    by_cases c1 : a = ""
    · subst c1
      by_cases c2 : b ∈ r
      · simp [c2]
      · by_cases c3 : b = x
        · subst c3
          simp [c2, hr, nx.symm, nx]
        · simp [c2, c3, hr, nx.symm]
    · by_cases c2 : b = ""
      · subst c2
        by_cases c3 : a ∈ r
        · simp [c1, c3]
        · by_cases c4 : a = x
          · subst c4
            simp [c1, c3]
          · simp [c1, c3, c4]
      · simp [c1, c2]
theorem Asc.ne0 {l : List Str} (h : Asc l) : ("" : Str) ∉ l := fun z => by
  obtain ⟨cs, rfl, _, _⟩ := h
  obtain ⟨c, _, e⟩ := List.mem_map.mp z
  have : (sg c).cps.size = ("" : Str).cps.size := by rw [e]
  simp [sg] at this
  exact absurd this (by decide)
theorem ini_put {m : PrM} (ok : PrOk m) {x : Str} (hx : x ∈ m.sgs) : iniT m "" x = some (m.put x) := by
  unfold iniT
  rw [ini_at m _ _ ok.asc.ne0, if_pos ⟨rfl, hx⟩]
theorem ini_out {m : PrM} (ok : PrOk m) {x : Str} (hx : x ∈ m.sgs) : iniT m x "" = some (m.out x) := by
  have n : x ≠ "" := fun z => ok.asc.ne0 (z ▸ hx)
  unfold iniT
  rw [ini_at m _ _ ok.asc.ne0, if_neg (fun z => n z.1), if_pos ⟨rfl, hx⟩]
theorem ini_swap {m : PrM} (ok : PrOk m) {a b : Str} (ha : a ≠ "") (hb : b ≠ "") : iniT m a b = m.swap a b := by
  unfold iniT
  rw [ini_at m _ _ ok.asc.ne0, if_neg (fun z => ha z.1), if_neg (fun z => hb z.1)]
theorem ini_nd {m : PrM} (ok : PrOk m) : NoDiag (iniT m) := fun x => by
  by_cases c : x = ""
  · subst c
    unfold iniT
    rw [ini_at m _ _ ok.asc.ne0, if_neg (fun z => ok.asc.ne0 z.2), if_neg (fun z => ok.asc.ne0 z.2)]
    cases h : m.swap "" "" with
    | none => rfl
    | some v => exact absurd (ok.swap _ _ _ h).1 ok.asc.ne0
  · rw [ini_swap ok c c]
    cases h : m.swap x x with
    | none => rfl
    | some v => exact absurd rfl (ok.swap _ _ _ h).2.2.1
theorem ini_pos {m : PrM} (ok : PrOk m) : TPos (iniT m) := fun a b v h => by
  unfold iniT at h
  rw [ini_at m _ _ ok.asc.ne0] at h
  split at h
  · rename_i c
    injection h with h
    have := ok.put b c.2
    omega
  · split at h
    · rename_i c
      injection h with h
      have := ok.out a c.2
      omega
    · have := ok.swap _ _ _ h
      omega
theorem ndS_nodup {m : PrM} (ok : PrOk m) : (ndS m).Nodup := List.nodup_cons.mpr ⟨ok.asc.ne0, ok.asc.nodup⟩
/-- all ways, closed -/
def clT (m : PrM) : Tab Str := fw (ndS m) (ndS m) (iniT m)
theorem clT_spec {m : PrM} (ok : PrOk m) : NoDiag (clT m) ∧ TPos (clT m) ∧ (∀ i j v, iniT m i j = some v → ∃ u, clT m i j = some u ∧ u ≤ v) ∧ ∀ k ∈ ndS m, Tri (ndS m) (clT m) [k] := by
  obtain ⟨h1, h2, h3, h4⟩ := fw_spec (ndS_nodup ok) (ms := ndS m) (S := []) (fun _ h => h) (fun _ h => nomatch h) (ini_nd ok) (ini_pos ok) (fun k hk => nomatch hk)
  exact ⟨h1, h2, h3, fun k hk => h4 k (.inl hk)⟩
theorem clT_all {m : PrM} (ok : PrOk m) : TabAll m.sgs (clT m) := by
  obtain ⟨_, _, h3, h4⟩ := clT_spec ok
  have hp : ∀ x, x ∈ m.sgs → ∃ v, clT m "" x = some v := fun x hx => by
    obtain ⟨u, h, _⟩ := h3 _ _ _ (ini_put ok hx)
    exact ⟨u, h⟩
  have ho : ∀ x, x ∈ m.sgs → ∃ v, clT m x "" = some v := fun x hx => by
    obtain ⟨u, h, _⟩ := h3 _ _ _ (ini_out ok hx)
    exact ⟨u, h⟩
  refine ⟨hp, ho, fun a b ha hb ne => ?_⟩
  obtain ⟨u, e1⟩ := ho a ha
  obtain ⟨v, e2⟩ := hp b hb
  obtain ⟨c, e3, _⟩ := h4 "" List.mem_cons_self "" (List.mem_singleton.mpr rfl) a b (List.mem_cons_of_mem _ ha) (List.mem_cons_of_mem _ hb) ne u v e1 e2
  exact ⟨c, e3⟩
theorem relax_eq {m i j : Str} {T : Tab Str} (h : i = j) : relax m i j T = T := by unfold relax; rw [if_pos h]
theorem relax_l {m i j : Str} {T : Tab Str} (h : T i m = none) : relax m i j T = T := by
  unfold relax
  rw [h]
  split <;> rfl
theorem relax_r {m i j : Str} {T : Tab Str} (h : T m j = none) : relax m i j T = T := by
  unfold relax
  rw [h]
  split
  · rfl
  · cases T i m <;> rfl
theorem relax_put {m i j : Str} {T : Tab Str} {a b : Int} (h : i ≠ j) (ha : T i m = some a) (hb : T m j = some b) : relax m i j T = tput T i j (mn (a + b) ((T i j).getD (a + b))) := by
  unfold relax
  rw [if_neg h, ha, hb]
open Classical in
/-- of a table, what i entries tell -/
noncomputable def tkT (kvs : List (List Key × V)) (f : Tab Str) (i : Nat) : Tab Str := fun a b => if k2 a b ∈ (kvs.take i).map (·.1) then f a b else none
theorem tkT_step {kvs : List (List Key × V)} {f : Tab Str} {i : Nat} (ok : TabOk kvs f) {k : List Key} {v : V} (h : kvs[i]? = some (k, v)) : ∃ a b n, k = k2 a b ∧ f a b = some n ∧ tput (tkT kvs f i) a b n = tkT kvs f (i + 1) := by
  obtain ⟨a, b, u, e, _⟩ := ok.form _ (List.mem_of_getElem? h)
  injection e with e1 e2
  subst e1 e2
  have hs : (valV kvs (k2 a b)).isSome = true := by
    rw [← valV_any]
    exact List.any_eq_true.mpr ⟨_, List.mem_of_getElem? h, by simp⟩
  rw [ok.get] at hs
  cases e : f a b with
  | none => rw [e] at hs; cases hs
  | some n =>
    refine ⟨a, b, n, rfl, e, ?_⟩
    funext x y
    unfold tput tkT
    rw [List.take_add_one, h, Option.toList_some, List.map_append]
    by_cases c : x = a ∧ y = b
    · obtain ⟨rfl, rfl⟩ := c
      rw [if_pos ⟨rfl, rfl⟩, if_pos (show k2 x y ∈ _ ++ [(k2 x y, V.int u)].map (·.1) from List.mem_append.mpr (.inr (List.mem_singleton.mpr rfl))), e]
    · rw [if_neg c]
      have q : k2 x y ∈ (kvs.take i).map (·.1) ++ [(k2 a b, V.int u)].map (·.1) ↔ k2 x y ∈ (kvs.take i).map (·.1) := by
        rw [List.mem_append]
        constructor
        · rintro (z | z)
          · exact z
          · exact absurd (k2_inj.mp (List.mem_singleton.mp z)) c
        · exact .inl
      by_cases d : k2 x y ∈ (kvs.take i).map (·.1)
      · rw [if_pos d, if_pos (q.mpr d)]
      · rw [if_neg d, if_neg (fun z => d (q.mp z))]
theorem tkT_nil {kvs : List (List Key × V)} {f : Tab Str} : tkT kvs f 0 = fun _ _ => none := by
  funext x y
  unfold tkT
  rw [if_neg (by simp)]
theorem tkT_all {kvs : List (List Key × V)} {f : Tab Str} (ok : TabOk kvs f) : tkT kvs f kvs.length = f := by
  funext x y
  unfold tkT
  rw [List.take_of_length_le (Nat.le_refl _)]
  split
  · rfl
  · rename_i n
    cases e : f x y with
    | none => rfl
    | some v =>
      have g := ok.get x y
      rw [e] at g
      have hs : (kvs.any fun kv => decide (kv.1 = k2 x y)) = true := by rw [valV_any, g]; rfl
      obtain ⟨kv, h1, h2⟩ := List.any_eq_true.mp hs
      exact absurd (List.mem_map.mpr ⟨kv, h1, by simpa using h2⟩) n
theorem slt_xT {H H' : Hp} {d : Addr} {kvs : List (List Key × V)} (hd : H d = some (.dT kvs)) (k : SameX d H H') {a C dx : Addr} {v : V} {vs : List (Option V)} (h : SlX.Slt H a C dx (some v :: vs)) : SlX.Slt H' a C dx (some v :: vs) := by
  rcases h with ⟨_, h⟩ | ⟨h1, h2⟩
  · cases h
  · exact .inr ⟨k _ _ (fun z => by rw [z, hd] at h1; cases h1) h1, k _ _ (fun z => by rw [z, hd] at h2; cases h2) h2⟩
/-- the table that is being made -/
def TbP (H1 : Hp) (tb : Addr) (n : Nat) (f : Tab Str) (H : Hp) : Prop := ∃ kvs, SameX tb H1 H ∧ H tb = some (.dT kvs) ∧ kvs.length ≤ n ∧ TabOk kvs f
theorem TbP.mut {H1 H : Hp} {tb p : Addr} {n : Nat} {f : Tab Str} {o : HO} (h : TbP H1 tb n f H) (hp : H p = none) : TbP H1 tb n f (upd H p o) := by
  obtain ⟨kvs, h1, h2, h3, h4⟩ := h
  exact ⟨kvs, h1.trans (Same.x tb (same_upd hp)), same_upd hp _ _ h2, h3, h4⟩
theorem TbP.put {H1 H : Hp} {tb p : Addr} {n : Nat} {f : Tab Str} (h : TbP H1 tb n f H) {a b : Str} {v : Int} (hp : H p = some (.tup [.str a, .str b])) (hn : n < 100000) : ∃ H', DPut H tb (.ref p) (.int v) H' ∧ TbP H1 tb (n + 1) (tput f a b v) H' := by
  obtain ⟨kvs, h1, h2, h3, h4⟩ := h
  refine ⟨_, DPut.t (k := k2 a b) h2 hp (szlt (by omega)), putK kvs (k2 a b) (.int v), h1.upd, upd_same, ?_, h4.put a b v⟩
  have := length_putK kvs (k2 a b) (V.int v)
  omega
theorem TbP.get {H1 H : Hp} {tb p : Addr} {n : Nat} {f : Tab Str} (h : TbP H1 tb n f H) {a b : Str} (hp : H p = some (.tup [.str a, .str b])) : DGet H tb (.ref p) ((f a b).map V.int) := by
  obtain ⟨kvs, h1, h2, h3, h4⟩ := h
  have g := DGet.t (b := p) (k := k2 a b) h2 hp
  rw [h4.get] at g
  exact g
theorem TbP.le {H1 H : Hp} {tb : Addr} {n k : Nat} {f : Tab Str} (h : TbP H1 tb n f H) (hk : n ≤ k) : TbP H1 tb k f H := let ⟨kvs, h1, h2, h3, h4⟩ := h; ⟨kvs, h1, h2, Nat.le_trans h3 hk, h4⟩
theorem TbP.keep {H1 H : Hp} {tb : Addr} {n : Nat} {f : Tab Str} (h : TbP H1 tb n f H) {b : Addr} {o : HO} (nb : b ≠ tb) (e : H1 b = some o) : H b = some o := let ⟨_, h1, _⟩ := h; h1 _ _ nb e
theorem TbP.same {H0 H1 H : Hp} {tb : Addr} {n : Nat} {f : Tab Str} (h : TbP H1 tb n f H) (s : Same H0 H1) (nt : H0 tb = none) : Same H0 H := fun b o e => h.keep (fun z => by rw [z, nt] at e; cases e) (s _ _ e)
/-- behind i middles, j ones and k others -/
def clP (m : PrM) (i j k : Nat) : Tab Str :=
  ((ndS m).take k).foldl (fun T c => relax ((ndS m)[i]?.getD "") ((ndS m)[j]?.getD "") c T) (((ndS m).take j).foldl (fun T b => passI ((ndS m)[i]?.getD "") b (ndS m) T) (((ndS m).take i).foldl (fun T a => pass (ndS m) a (ndS m) T) (iniT m)))
theorem clP_k {m : PrM} {i j k : Nat} {x y z : Str} (hx : (ndS m)[i]? = some x) (hy : (ndS m)[j]? = some y) (hz : (ndS m)[k]? = some z) : clP m i j (k + 1) = relax x y z (clP m i j k) := by
  unfold clP
  rw [fold_step hz, hx, hy]
  rfl
theorem clP_j {m : PrM} {i j : Nat} {x y : Str} (hx : (ndS m)[i]? = some x) (hy : (ndS m)[j]? = some y) : clP m i j (ndS m).length = clP m i (j + 1) 0 := by
  unfold clP
  rw [List.take_of_length_le (Nat.le_refl _), fold_step hy, hx, hy]
  rfl
theorem clP_i {m : PrM} {i : Nat} {x : Str} (hx : (ndS m)[i]? = some x) : clP m i (ndS m).length 0 = clP m (i + 1) 0 0 := by
  unfold clP
  rw [fold_step hx, hx, List.take_of_length_le (Nat.le_refl _)]
  rfl
theorem clP_0 {m : PrM} : clP m 0 0 0 = iniT m := rfl
theorem clP_all {m : PrM} : clP m (ndS m).length 0 0 = clT m := by
  unfold clP
  rw [List.take_of_length_le (Nat.le_refl _)]
  rfl
/-! ### closed_of -/
def sp_closed_of {K : PySem.W.Frag} {mg : Str → Option Value} (T : Txt K mg) : Sp := fun vs H Q _ => ∃ (a : Addr) (m : PrM), vs = [.ref a] ∧ PrAt T.C_Prices H a m ∧ PrOk m ∧ ∀ H' c, Same H H' → H c = none → PrAt T.C_Closed (news H H') c (clM m.sgs (clT m)) → Q (.ref c) H'
set_option maxHeartbeats 4000000 in
theorem ok_closed_of {P : Program} {w : World} {K : PySem.W.Frag} {mg : Str → Option Value} {base : Heap} (T : Txt K mg) : FnOk P w K mg base CX0 3 T.a_closed_of T.d_closed_of ["prices"] (sp_closed_of T) := by
  refine T.F_closed_of.ok sc_closed_of (fun vs H Q E h => ?_) (fun cdv A outer s H vs Q E hr h => ?_)
  · obtain ⟨a, m, rfl, ⟨dx, dO, dP, dS, h1, hO, hP, kvs, hS, l1000, tok⟩, ok, q⟩ := h
    rfl
  · obtain ⟨a, m, rfl, ⟨dx, dO, dP, dS, h1, hO, hP, kvs, hS, l1000, tok⟩, ok, q⟩ := h
    refine ⟨_, PSs.nox (pss_cons (ps_set (i := 1) sc_closed_of.nd rfl (by first | exact .inl rfl | exact .inr rfl) (pe_callTy (call_list_dK rfl) (by rfl) T.n_list (by decide +kernel) (pa_cons (pe_slK K (pv 0)) pa_nil)))
      (pss_cons (ps_lock (ps_setDcT (i := 2) (own := [("pair", 9)]) rfl hr.units sc_closed_of.nd rfl rfl (sw_trueD rfl rfl rfl (by decide +kernel)) (pi_keys (pe_slK K (pv 0))) (blkOk_by (own := [("pair", 9)]) (N := n_closed_of) (sc := defScope s_closed_of) (by decide +kernel)) (fun _ _ _ _ _ => (pg_name (i := 9) sc_closed_of.nd rfl (by first | exact .inl rfl | exact .inr rfl))) (fun _ _ _ _ _ => pts_nil) (fun _ _ _ _ _ => (pv 9)) (fun _ _ _ _ _ => (pe_dget (hu_of hr) (pe_slK K (pv 0)) (pv 9) (fun _ _ => rfl)))))
      (pss_cons (ps_for PassesOwn.never rfl (pi_listK K (pv 1)) (pg_name (i := 3) sc_closed_of.nd rfl (by first | exact .inl rfl | exact .inr rfl)) (pss_cons (ps_dput (hu_of hr) (pv 2) (pe_tup (pa_cons pe_str (pa_cons (pv 3) pa_nil))) (pe_dget (hu_of hr) (pe_slK K (pv 0)) (pv 3) (fun _ _ => rfl)) rfl)
      (pss_one (ps_dput (hu_of hr) (pv 2) (pe_tup (pa_cons (pv 3) (pa_cons pe_str pa_nil))) (pe_dget (hu_of hr) (pe_slK K (pv 0)) (pv 3) (fun _ _ => rfl)) rfl))))
      (pss_cons (ps_set (i := 4) sc_closed_of.nd rfl (by first | exact .inl rfl | exact .inr rfl) (pe_lst (pa_cons pe_str (StX.pa_star (pv 1) pa_nil))))
      (pss_cons (ps_for PassesOwn.never rfl (pi_listK K (pv 4)) (pg_name (i := 5) sc_closed_of.nd rfl (by first | exact .inl rfl | exact .inr rfl)) (pss_one (ps_for PassesOwn.never rfl (pi_listK K (pv 4)) (pg_name (i := 6) sc_closed_of.nd rfl (by first | exact .inl rfl | exact .inr rfl)) (pss_one (ps_for PassesOwn.never rfl (pi_listK K (pv 4)) (pg_name (i := 7) sc_closed_of.nd rfl (by first | exact .inl rfl | exact .inr rfl)) (pss_one (ps_if (PW.pt (pw_and (pt_cmpR op_ne (pv 6) (pv 7) (nomark _)) (pw_and (pt_cmp (pc_din (hu_of hr) (pe_tup (pa_cons (pv 6) (pa_cons (pv 5) pa_nil))) (pv 2))) (pw_and1 (pt_cmp (pc_din (hu_of hr) (pe_tup (pa_cons (pv 5) (pa_cons (pv 7) pa_nil))) (pv 2))))))) (pss_cons (ps_set (i := 8) sc_closed_of.nd rfl (by first | exact .inl rfl | exact .inr rfl) (pe_op op_add (pe_dget (hu_of hr) (pv 2) (pe_tup (pa_cons (pv 6) (pa_cons (pv 5) pa_nil))) (fun _ _ => rfl)) (pe_dget (hu_of hr) (pv 2) (pe_tup (pa_cons (pv 5) (pa_cons (pv 7) pa_nil))) (fun _ _ => rfl))))
      (pss_one (ps_dput (hu_of hr) (pv 2) (pe_tup (pa_cons (pv 6) (pa_cons (pv 7) pa_nil))) (pe_callB (call_min2 rfl) (by rfl) T.n_min (by decide +kernel) (pa_cons (pv 8) (pa_cons (pe_dget2 (hu_of hr) (pv 2) (pe_tup (pa_cons (pv 6) (pa_cons (pv 7) pa_nil))) (pv 8) ⟨rfl, rfl, rfl, rfl⟩) pa_nil))) rfl))) pss_nil)))))))
      (pss_one (ps_ret (pe_make T.mk_Closed (ok_Closed_init T) (hr.mono (by decide)) (by rfl) T.g_Closed (b_Closed_init T) .nil pass0 (pa_cons (pv 2) (pa_cons (pv 1) pa_nil)))))))))), ?_⟩
    have l5 := ok.asc.len5
    have dP2 : ∀ x, x ∈ m.sgs → valV (dkS m.sgs m.put) (Sum.inr x) = some (.int (m.put x)) := fun x hx => by rw [valV_dkS, if_pos hx]
    have dO2 : ∀ x, x ∈ m.sgs → valV (dkS m.sgs m.out) (Sum.inr x) = some (.int (m.out x)) := fun x hx => by rw [valV_dkS, if_pos hx]
    -- signs = list(prices.own_put)
    refine ⟨_, rfl, a, _, dx, _, _, _, _, rfl, h1, T.S_Prices, T.sl_Prices_own_put, rfl, dP, _, rfl, hP, fun L hL => ?_⟩
    have s1 : Same H (upd H L (.lst ((dkS m.sgs m.put).map fun kv => kV kv.1))) := same_upd hL
    have hL1 : (upd H L (.lst ((dkS m.sgs m.put).map fun kv => kV kv.1))) L = some (.lst (m.sgs.map V.str)) := by
      rw [upd_same, List.map_map]
      rfl
    generalize upd H L (.lst ((dkS m.sgs m.put).map fun kv => kV kv.1)) = H1 at s1 hL1 ⊢
    -- table = {pair: prices.own_swap[pair] for pair in prices.own_swap}
    have hS1 := s1 _ _ hS
    have nLS : L ≠ dS := fun z => by rw [z, hS] at hL; cases hL
    refine ⟨dS, _, hS1, trivial, fun od => ?_⟩
    have sx : SameX dS H1 (upd H1 dS (.frz od (.dT kvs))) := locked
    have hfz : (upd H1 dS (.frz od (.dT kvs))) dS = some (.frz od (.dT kvs)) := upd_same
    have slx : Slt (upd H1 dS (.frz od (.dT kvs))) a T.C_Prices dx [some (.ref dO), some (.ref dP), some (.ref dS)] := slt_xT hS1 sx (slt_same s1 h1)
    have hL2 : (upd H1 dS (.frz od (.dT kvs))) L = some (.lst (m.sgs.map V.str)) := by rw [upd_ne nLS]; exact hL1
    generalize upd H1 dS (.frz od (.dT kvs)) = H2 at sx hfz slx hL2 ⊢
    refine ⟨_, rfl, a, _, dx, _, _, _, _, rfl, slx, T.S_Prices, T.sl_Prices_own_swap, rfl, dS, od, rfl, .inr ⟨_, hfz, fun tb htb => ?_⟩⟩
    have ntS : tb ≠ dS := fun z => by rw [z, hfz] at htb; cases htb
    have ntL : tb ≠ L := fun z => by rw [z, hL2] at htb; cases htb
    have htb0 : H tb = none := by
      refine s1.free ?_
      cases e : H1 tb with
      | none => rfl
      | some o => rw [sx _ _ ntS e] at htb; cases htb
    refine dt_wk Wk.keysT htb (fun i l => TabOk l (tkT kvs m.swap i)) (by show TabOk [] (tkT kvs m.swap 0); rw [tkT_nil]; exact .nil) (fun _ s => s _ _ hfz) ?_ ?_
    · rintro i l y H3 H4 hi sm hl hz e ⟨rfl, k, v, p, e1, rfl, hp⟩
      obtain ⟨x, y, n, rfl, e2, e3⟩ := tkT_step tok e1
      refine ⟨rfl, yes2 ?_⟩
      refine ⟨_, rfl, _, rfl, a, _, dx, _, _, _, _, rfl, slt_same sm slx, T.S_Prices, T.sl_Prices_own_swap, rfl, _, rfl, dS, .int n, rfl, .inr ⟨kvs, k2 x y, p, .inr ⟨od, sm _ _ hfz⟩, rfl, hp, by rw [tok.get, e2]; rfl⟩, ?_⟩
      refine dt_put (k := k2 x y) htb (by omega) sm hp hl hz ?_
      show TabOk _ (tkT kvs m.swap (i + 1))
      rw [← e3]
      exact e.put x y n
    intro l H3 sm3 hl3 hz3 e
    refine ⟨sm3 _ _ hfz, ?_⟩
    have e : TabOk l (tkT kvs m.swap kvs.length) := e
    rw [tkT_all tok] at e
    have s4 : Same H1 (upd H3 dS (.dT kvs)) := unlock hS1 (sx.trans (Same.x dS sm3))
    have htb4 : (upd H3 dS (.dT kvs)) tb = some (.dT l) := by rw [upd_ne ntS]; exact hl3
    generalize upd H3 dS (.dT kvs) = H4 at s4 htb4 ⊢
    have s4' := s1.trans s4
    have tp4 : TbP H4 tb 1000 m.swap H4 := ⟨l, SameX.refl tb H4, htb4, by omega, e⟩
    have ne4 : ∀ b o, H4 b = some o → (∀ x, o ≠ .dT x) → b ≠ tb := fun b o h n z => by rw [z, htb4] at h; exact n _ (Option.some.inj h).symm
    clear sx hfz slx hL2 htb ntS hl3 hz3 sm3 hS1
    have hL4 := s4 _ _ hL1
    have nLt : L ≠ tb := ne4 _ _ hL4 (fun _ z => nomatch z)
    have hP4 := s4' _ _ hP
    have hO4 := s4' _ _ hO
    have nPt : dP ≠ tb := ne4 _ _ hP4 (fun _ z => nomatch z)
    have nOt : dO ≠ tb := ne4 _ _ hO4 (fun _ z => nomatch z)
    -- for sign in signs
    refine ⟨_, rfl, _, rfl, ⟨_, sq hL4⟩, ?_⟩
    refine for_wk (n := (m.sgs.map V.str).length) (S := fun H => SqL K H L (m.sgs.map V.str)) Wk.list (fun i σ H5 => ∃ (y3 y4 y5 y6 y7 y8 y9 : Option V), σ = [some (.ref a), some (.ref L), some (.ref tb), y3, y4, y5, y6, y7, y8, y9] ∧ TbP H4 tb (1000 + 2 * i) ((m.sgs.take i).foldl (tini m) m.swap) H5)
      ⟨_, _, _, _, _, _, _, rfl, tp4⟩ (fun i σ H5 _ ⟨_, _, _, _, _, _, _, _, tp⟩ => sq (tp.keep nLt hL4)) ?_ ?_
    · rintro i y σ H5 H6 hi ⟨y3, y4, y5, y6, y7, y8, y9, rfl, tp⟩ ⟨rfl, hy⟩
      rw [List.length_map] at hi
      obtain ⟨x, hx, rfl⟩ := strs_at hy
      have hm := List.mem_of_getElem? hx
      have s6 := tp.same s4' htb0
      have gP : DGet H6 dP (.str x) (some (.int (m.put x))) := .inl ⟨_, .inr x, .inl (s6 _ _ hP), rfl, (dP2 x hm).symm⟩
      refine ⟨_, rfl, a, _, dx, _, _, _, _, rfl, slt_same s6 h1, T.S_Prices, T.sl_Prices_own_put, rfl, _, rfl, dP, _, rfl, gP, _, rfl, _, rfl, szle (by simp), fun p hp => ?_⟩
      obtain ⟨H7, d7, tp7⟩ := (tp.mut (o := .tup [.str "", .str x]) hp).put (v := m.put x) upd_same (by omega)
      refine ⟨tb, H7, rfl, d7, ?_⟩
      have s7 := tp7.same s4' htb0
      have gO : DGet H7 dO (.str x) (some (.int (m.out x))) := .inl ⟨_, .inr x, .inl (s7 _ _ hO), rfl, (dO2 x hm).symm⟩
      refine ⟨_, rfl, a, _, dx, _, _, _, _, rfl, slt_same s7 h1, T.S_Prices, T.sl_Prices_own_out, rfl, _, rfl, dO, _, rfl, gO, _, rfl, _, rfl, szle (by simp), fun p2 hp2 => ?_⟩
      obtain ⟨H8, d8, tp8⟩ := (tp7.mut (o := .tup [.str x, .str ""]) hp2).put (v := m.out x) upd_same (by omega)
      refine ⟨tb, H8, rfl, d8, _, _, _, _, _, _, _, rfl, ?_⟩
      rw [fold_step hx]
      exact tp8.le (by omega)
    · rintro σ H5 ⟨y3, y4, y5, y6, y7, y8, y9, rfl, tp⟩
      rw [List.length_map, List.take_of_length_le (Nat.le_refl _)] at tp
      have tp5 : TbP H4 tb 1010 (iniT m) H5 := tp.le (by omega)
      -- nodes = ['', *signs]
      refine ⟨_, rfl, L, _, rfl, .inr (sq (tp5.keep nLt hL4)), szle (by simp; omega), fun N hN => ?_⟩
      have tp6 := tp5.mut (o := .lst ((V.str "") :: (m.sgs.map V.str ++ []))) hN
      have hN6 : (upd H5 N (.lst ((V.str "") :: (m.sgs.map V.str ++ [])))) N = some (.lst ((ndS m).map V.str)) := by
        rw [upd_same, List.append_nil]
        rfl
      have s6 := tp6.same s4' htb0
      have hL6 := tp6.keep nLt hL4
      have nNt : N ≠ tb := fun z => by
        obtain ⟨_, _, e, _⟩ := tp5
        rw [z, e] at hN
        cases hN
      generalize upd H5 N (.lst ((V.str "") :: (m.sgs.map V.str ++ []))) = H6 at tp6 hN6 s6 hL6 ⊢
      have tq : TbP H6 tb 1010 (clP m 0 0 0) H6 := by
        obtain ⟨l, k1, k2, k3, k4⟩ := tp6
        exact ⟨l, SameX.refl _ _, k2, k3, k4⟩
      have nLt6 := nLt
      clear tp6 tp5 tp tp4 hN hP4 hO4 hL4 nLt nPt nOt hL1 s1 s4 s4' htb4
      have len6 : (ndS m).length ≤ 6 := by show m.sgs.length + 1 ≤ 6; omega
      have nds : ∀ {i : Nat} {y : V}, ((ndS m).map V.str)[i]? = some y → ∃ x, (ndS m)[i]? = some x ∧ y = .str x := fun h => strs_at h
      -- for middle in nodes
      refine ⟨_, rfl, _, rfl, ⟨_, sq hN6⟩, ?_⟩
      refine for_wk (n := ((ndS m).map V.str).length) (S := fun H => SqL K H N ((ndS m).map V.str)) Wk.list (fun i σ H7 => ∃ (y3 y5 y6 y7 y8 y9 : Option V), σ = [some (.ref a), some (.ref L), some (.ref tb), y3, some (.ref N), y5, y6, y7, y8, y9] ∧ TbP H6 tb (1010 + 36 * i) (clP m i 0 0) H7)
        ⟨_, _, _, _, _, _, rfl, tq⟩ (fun i σ H7 _ ⟨_, _, _, _, _, _, _, tp⟩ => sq (tp.keep nNt hN6)) ?_ ?_
      · rintro i y σ H7 H7' hi ⟨y3, y5, y6, y7, y8, y9, rfl, tp7⟩ ⟨rfl, hy⟩
        rw [List.length_map] at hi
        obtain ⟨x, hx, rfl⟩ := nds hy
        -- for one in nodes
        refine ⟨_, rfl, _, rfl, ⟨_, sq (tp7.keep nNt hN6)⟩, ?_⟩
        refine for_wk (n := ((ndS m).map V.str).length) (S := fun H => SqL K H N ((ndS m).map V.str)) Wk.list (fun j σ H8 => ∃ (y6 y7 y8 y9 : Option V), σ = [some (.ref a), some (.ref L), some (.ref tb), y3, some (.ref N), some (.str x), y6, y7, y8, y9] ∧ TbP H6 tb (1010 + 36 * i + 6 * j) (clP m i j 0) H8)
          ⟨_, _, _, _, rfl, tp7⟩ (fun j σ H8 _ ⟨_, _, _, _, _, tp⟩ => sq (tp.keep nNt hN6)) ?_ ?_
        · rintro j y σ H8 H8' hj ⟨y6, y7, y8, y9, rfl, tp8⟩ ⟨rfl, hy⟩
          rw [List.length_map] at hj
          obtain ⟨y, hy', rfl⟩ := nds hy
          -- for other in nodes
          refine ⟨_, rfl, _, rfl, ⟨_, sq (tp8.keep nNt hN6)⟩, ?_⟩
          refine for_wk (n := ((ndS m).map V.str).length) (S := fun H => SqL K H N ((ndS m).map V.str)) Wk.list (fun k σ H9 => ∃ (y7 y8 y9 : Option V), σ = [some (.ref a), some (.ref L), some (.ref tb), y3, some (.ref N), some (.str x), some (.str y), y7, y8, y9] ∧ TbP H6 tb (1010 + 36 * i + 6 * j + k) (clP m i j k) H9)
            ⟨_, _, _, rfl, tp8⟩ (fun k σ H9 _ ⟨_, _, _, _, tp⟩ => sq (tp.keep nNt hN6)) ?_ ?_
          · rintro k z σ H9 H9' hk ⟨y7, y8, y9, rfl, tp9⟩ ⟨rfl, hz⟩
            rw [List.length_map] at hk
            obtain ⟨z, hz', rfl⟩ := nds hz
            have st := clP_k hx hy' hz'
            refine ⟨_, rfl, _, rfl, rfl, _, rfl, ?_⟩
            have nx : ∀ H', TbP H6 tb (1010 + 36 * i + 6 * j + k) (clP m i j k) H' → clP m i j (k + 1) = clP m i j k → TbP H6 tb (1010 + 36 * i + 6 * j + (k + 1)) (clP m i j (k + 1)) H' := fun H' t e => by
              rw [e]
              exact t.le (by omega)
            by_cases c1 : y = z
            · refine ite_no (by rw [decide_eq_true (by rw [c1])]; rfl) ?_
              refine ite_no rfl ?_
              exact ⟨_, _, _, rfl, nx _ tp9 (st.trans (relax_eq c1))⟩
            refine ite_of (by rw [decide_eq_false (by intro q; injection q with q; exact c1 q)]; rfl) ?_
            refine ⟨_, rfl, _, rfl, szle (by simp), fun p1 hp1 => ?_⟩
            have tp10 := tp9.mut (o := .tup [.str y, .str x]) hp1
            have g1 := tp10.get (a := y) (b := x) upd_same
            have hp1' : (upd H9' p1 (.tup [.str y, .str x])) p1 = some (.tup [.str y, .str x]) := upd_same
            generalize upd H9' p1 (.tup [.str y, .str x]) = H10 at tp10 g1 hp1' ⊢
            refine ⟨_, rfl, tb, _, rfl, g1, _, rfl, ?_⟩
            cases e1 : clP m i j k y x with
            | none =>
              refine ite_no (by rfl) ?_
              refine ite_no rfl ?_
              exact ⟨_, _, _, rfl, nx _ tp10 (st.trans (relax_l e1))⟩
            | some u =>
            rw [e1] at g1
            refine ite_of (by rfl) ?_
            refine ⟨_, rfl, _, rfl, szle (by simp), fun p2 hp2 => ?_⟩
            have tp11 := tp10.mut (o := .tup [.str x, .str z]) hp2
            have g2 := tp11.get (a := x) (b := z) upd_same
            generalize upd H10 p2 (.tup [.str x, .str z]) = H11 at tp11 g2 ⊢
            refine ⟨_, rfl, tb, _, rfl, g2, _, rfl, ?_⟩
            cases e2 : clP m i j k x z with
            | none =>
              refine ite_no (by rfl) ?_
              exact ⟨_, _, _, rfl, nx _ tp11 (st.trans (relax_r e2))⟩
            | some v =>
            rw [e2] at g2
            refine ite_of (by rfl) ?_
            -- price = table[one, middle] + table[middle, other]
            refine ⟨_, rfl, _, rfl, _, rfl, szle (by simp), fun p3 hp3 => ?_⟩
            have tp12 := tp11.mut (o := .tup [.str y, .str x]) hp3
            have g3 := tp12.get (a := y) (b := x) upd_same
            rw [e1] at g3
            generalize upd H11 p3 (.tup [.str y, .str x]) = H12 at tp12 g3 ⊢
            refine ⟨tb, .int u, rfl, g3, _, rfl, _, rfl, _, rfl, szle (by simp), fun p4 hp4 => ?_⟩
            have tp13 := tp12.mut (o := .tup [.str x, .str z]) hp4
            have g4 := tp13.get (a := x) (b := z) upd_same
            rw [e2] at g4
            generalize upd H12 p4 (.tup [.str x, .str z]) = H13 at tp13 g4 ⊢
            refine ⟨tb, .int v, rfl, g4, _, _, rfl, rfl, ?_⟩
            -- table[one, other] = min(price, table.get((one, other), price))
            have isd : IsD H13 tb := by
              obtain ⟨l, _, h, _⟩ := tp13
              exact .inr ⟨l, .inl h⟩
            refine ⟨_, rfl, _, rfl, tb, rfl, isd, _, rfl, _, rfl, szle (by simp), fun p5 hp5 => ?_⟩
            have tp14 := tp13.mut (o := .tup [.str y, .str z]) hp5
            have g5 := tp14.get (a := y) (b := z) upd_same
            generalize upd H13 p5 (.tup [.str y, .str z]) = H14 at tp14 g5 ⊢
            have e5 : ((clP m i j k y z).map V.int).getD (.int (u + v)) = .int ((clP m i j k y z).getD (u + v)) := by cases clP m i j k y z <;> rfl
            refine ⟨_, rfl, _, g5, u + v, (clP m i j k y z).getD (u + v), ?_, ?_⟩
            · show [V.int (u + v), ((clP m i j k y z).map V.int).getD (.int (u + v))] = _
              rw [e5]
            refine ⟨_, rfl, _, rfl, _, rfl, szle (by simp), fun p6 hp6 => ?_⟩
            obtain ⟨H15, d15, tp15⟩ := (tp14.mut (o := .tup [.str y, .str z]) hp6).put (v := mn (u + v) ((clP m i j k y z).getD (u + v))) upd_same (by omega)
            refine ⟨tb, H15, rfl, d15, _, _, _, rfl, ?_⟩
            rw [st, relax_put c1 e1 e2]
            exact tp15
          · rintro σ H9 ⟨y7, y8, y9, rfl, tp9⟩
            rw [List.length_map, clP_j hx hy'] at tp9
            exact ⟨_, _, _, _, rfl, tp9.le (by omega)⟩
        · rintro σ H8 ⟨y6, y7, y8, y9, rfl, tp8⟩
          rw [List.length_map, clP_i hx] at tp8
          exact ⟨_, _, _, _, _, _, rfl, tp8.le (by omega)⟩
      · rintro σ H7 ⟨y3, y5, y6, y7, y8, y9, rfl, tp7⟩
        rw [List.length_map, clP_all] at tp7
        have s7 := tp7.same s6 htb0
        obtain ⟨tl, _, t2, _, t4⟩ := id tp7
        refine ⟨_, rfl, _, rfl, fun c dc hc hdc ncd => ?_⟩
        have sc : Same H7 (upd (upd H7 dc (.own c)) c (.ins T.C_Closed dc [])) := (same_upd hdc).trans (same_upd (by rw [upd_ne ncd.symm]; exact hc))
        refine ⟨H7, c, dc, tb, L, clT m, m.sgs, rfl, sc, hc, hdc, ncd, upd_same, ⟨_, by rw [upd_ne ncd]; exact upd_same⟩, ⟨tl, t2, t4⟩, clT_all ok, tp7.keep nLt6 hL6, ok.asc, fun H' s8 pr => ⟨rfl, ?_⟩⟩
        exact q H' c (s7.trans s8) (s7.free hc) (pr.keep (keep_of (news_mono s7)))
end K7
end

section
set_option Elab.async false
set_option linter.all false
set_option maxRecDepth 100000
namespace K7
open PySem PySem.Spec PyProof.Rows L2 SlX
/-! The walk: steps. -/
theorem cl_ok {m : PrM} (ok : PrOk m) : ClOk (clM m.sgs (clT m)) := by
  obtain ⟨h1, h2, h3, h4⟩ := clT_spec ok
  have all := clT_all ok
  have hp : ∀ x, x ∈ m.sgs → ∃ v, clT m "" x = some v ∧ 1 ≤ v ∧ v ≤ 9 := fun x hx => by
    obtain ⟨u, e, l⟩ := h3 _ _ _ (ini_put ok hx)
    have := ok.put x hx
    exact ⟨u, e, h2 _ _ _ e, by omega⟩
  have ho : ∀ x, x ∈ m.sgs → ∃ v, clT m x "" = some v ∧ 1 ≤ v ∧ v ≤ 9 := fun x hx => by
    obtain ⟨u, e, l⟩ := h3 _ _ _ (ini_out ok hx)
    have := ok.out x hx
    exact ⟨u, e, h2 _ _ _ e, by omega⟩
  refine ⟨⟨ok.asc, ok.ne, fun x hx => ?_, fun x hx => ?_, fun a b v h => ?_⟩, fun a b ha hb ne => ?_⟩
  · obtain ⟨v, e, l, g⟩ := hp x hx
    show 1 ≤ (clT m "" x).getD 0 ∧ (clT m "" x).getD 0 ≤ 9
    rw [e]
    exact ⟨l, g⟩
  · obtain ⟨v, e, l, g⟩ := ho x hx
    show 1 ≤ (clT m x "").getD 0 ∧ (clT m x "").getD 0 ≤ 9
    rw [e]
    exact ⟨l, g⟩
  · have h' : (if a ∈ m.sgs ∧ b ∈ m.sgs ∧ a ≠ b then clT m a b else none) = some v := h
    split at h'
    · rename_i c
      obtain ⟨ha, hb, ne⟩ := c
      obtain ⟨u, e1, l1, g1⟩ := ho a ha
      obtain ⟨w, e2, l2, g2⟩ := hp b hb
      obtain ⟨c, e3, l3⟩ := h4 "" List.mem_cons_self "" (List.mem_singleton.mpr rfl) a b (List.mem_cons_of_mem _ ha) (List.mem_cons_of_mem _ hb) ne u w e1 e2
      rw [h'] at e3
      injection e3 with e3
      subst e3
      exact ⟨ha, hb, ne, h2 _ _ _ h', by omega⟩
    · cases h'
  · obtain ⟨v, e⟩ := all.swap a b ha hb ne
    exact ⟨v, by show (if a ∈ m.sgs ∧ b ∈ m.sgs ∧ a ≠ b then clT m a b else none) = some v; rw [if_pos ⟨ha, hb, ne⟩]; exact e⟩
/-- what N knows stays, N not knowing the instance -/
theorem slH_off {N H : Hp} {s C dx : Addr} {vs : List (Option V)} (h : Same N H) (n1 : N s = none) (n2 : N dx = none) : Same N (slH H s C dx vs) := fun b o e => by
  rw [slH_ne (fun z => by rw [z, n1] at e; cases e) (fun z => by rw [z, n2] at e; cases e)]
  exact h b o e
theorem news_off {H0 H : Hp} {s : Addr} {o : HO} (h : H0 s = some o) : news H0 H s = none := by
  unfold news
  rw [h]
theorem slt_lst {H : Hp} {a C dx b : Addr} {v : Option V} {vs : List (Option V)} (h : Slt H a C dx (v :: vs)) {xs : List V} (e : H b = some (.lst xs)) : b ≠ a ∧ b ≠ dx := by
  rcases h with ⟨_, h⟩ | ⟨h1, h2⟩
  · cases h
  · refine ⟨fun z => ?_, fun z => ?_⟩
    · rw [z, h1] at e
      unfold SlO at e
      cases e
    · rw [z, h2] at e
      cases e
theorem slt_tup {H : Hp} {a C dx b : Addr} {v : Option V} {vs : List (Option V)} (h : Slt H a C dx (v :: vs)) {xs : List V} (e : H b = some (.tup xs)) : b ≠ a ∧ b ≠ dx := by
  rcases h with ⟨_, h⟩ | ⟨h1, h2⟩
  · cases h
  · refine ⟨fun z => ?_, fun z => ?_⟩
    · rw [z, h1] at e
      unfold SlO at e
      cases e
    · rw [z, h2] at e
      cases e
theorem MatAt.slH {H : Hp} {s C dx : Addr} {v : Option V} {vs vs' : List (Option V)} (h : Slt H s C dx (v :: vs)) {lw : Addr} {n : Nat} {M : Nat → Nat → Int} (mt : MatAt H lw n M) : MatAt (SlX.slH H s C dx vs') lw n M := by
  obtain ⟨rs, h1, h2, h3⟩ := mt
  have k : ∀ b xs, H b = some (.lst xs) → SlX.slH H s C dx vs' b = some (.lst xs) := fun b xs e => by
    obtain ⟨n1, n2⟩ := slt_lst h e
    rw [slH_ne n1 n2]
    exact e
  refine ⟨rs, k _ _ h1, h2, fun p hp => ?_⟩
  obtain ⟨r, a, b⟩ := h3 p hp
  exact ⟨r, a, k _ _ b⟩
theorem slt_dx {H : Hp} {a C dx : Addr} {v : Option V} {vs : List (Option V)} (h : Slt H a C dx (v :: vs)) : (∃ o, H a = some o) ∧ ∃ o, H dx = some o := by
  rcases h with ⟨_, h⟩ | ⟨h1, h2⟩
  · cases h
  · exact ⟨⟨_, h1⟩, _, h2⟩
/-! ### Steps.__init__ -/
def sp_Steps_init {K : PySem.W.Frag} {mg : Str → Option Value} (T : Txt K mg) : Sp := fun vs H Q _ => ∃ (H0 : Hp) (s dx a p : Addr) (tg : MachS) (m : PrM), vs = [.ref s, .ref a, .ref p] ∧ Same H0 H ∧ H0 s = none ∧ H0 dx = none ∧ dx ≠ s ∧ H s = some (.ins T.C_Steps dx []) ∧ (∃ o, H dx = some o) ∧ FormAt T.C_Form H0 a tg ∧ PrAt T.C_Prices H0 p m ∧ PrOk m ∧ TgOk tg ∧ SgIn tg m ∧
  ∀ H' M, Same H0 H' → StAt T H' s tg (clM m.sgs (clT m)) M → Ctx tg (clM m.sgs (clT m)) M → Q .non H'
set_option maxHeartbeats 4000000 in
theorem ok_Steps_init {P : Program} {w : World} {K : PySem.W.Frag} {mg : Str → Option Value} {base : Heap} (T : Txt K mg) : FnOk P w K mg base CX0 4 T.a_Steps_init T.d_Steps_init ["self", "target", "prices"] (sp_Steps_init T) := by
  refine T.F_Steps_init.ok sc_Steps_init (fun vs H Q E h => ?_) (fun cdv A outer s H vs Q E hr h => ?_)
  · obtain ⟨H0, s, dx, a, p, tg, m, rfl, s0, ns, nd, nds, hs, ⟨od, hod⟩, ⟨fx, ll, lm, f1, f2, f3⟩, pr, ok, tok, si, q⟩ := h
    rfl
  · obtain ⟨H0, s, dx, a, p, tg, m, rfl, s0, ns, nd, nds, hs, ⟨od, hod⟩, ⟨fx, ll, lm, f1, f2, f3⟩, pr, ok, tok, si, q⟩ := h
    refine ⟨_, PSs.nox (pss_cons (ps_sl (pv 0) (pe_slK K (pv 1)))
      (pss_cons (ps_sl (pv 0) (pe_slK K (pv 1)))
      (pss_cons (ps_sl (pv 0) (pe_call (ok_closed_of T) (hr.mono (by decide)) (by rfl) T.g_closed_of T.F_closed_of.kp (b_closed_of T) .nil pass0 (pa_cons (pv 2) pa_nil)))
      (pss_cons (ps_sl (pv 0) (pe_call (ok_put_ways T) (hr.mono (by decide)) (by rfl) T.g_put_ways T.F_put_ways.kp (b_put_ways T) .nil pass0 (pa_cons (pe_slK K (pv 0)) (pa_cons (pe_slK K (pe_slK K (pv 0))) (pa_cons (pe_op op_mul (pe_k (by rfl) T.c_BEYOND) (pe_k (by rfl) T.c_BEYOND)) pa_nil)))))
      (pss_one (ps_sl (pv 0) (pe_callTy (call_tupK K) (by rfl) T.n_tuple (by decide +kernel) (pa_cons (pe_ix (ix_listK K) (pe_slK K (pv 0)) pe_int (fun _ _ => rfl)) pa_nil)))))))), ?_⟩
    have cok := cl_ok ok
    -- self.own_moves = target.own_moves
    refine ⟨_, rfl, a, _, fx, _, _, _, _, rfl, slt_same s0 f1, T.S_Form, T.sl_Form_own_moves, rfl, _, rfl, s, _, dx, _, [], 2, rfl, .inl ⟨hs, rfl⟩, T.S_Steps, T.sl_Steps_own_moves, ?_⟩
    have e1 : putS 2 (V.ref lm) [] = [none, none, some (.ref lm)] := rfl
    rw [e1]
    have s1 : Same H0 (slH H s T.C_Steps dx [none, none, some (.ref lm)]) := slH_same s0 ns nd
    have t1 : Slt (slH H s T.C_Steps dx [none, none, some (.ref lm)]) s T.C_Steps dx [none, none, some (.ref lm)] := slH_slt nds
    generalize slH H s T.C_Steps dx [none, none, some (.ref lm)] = H1 at s1 t1 ⊢
    -- self.own_lasts = target.own_lasts
    refine ⟨_, rfl, a, _, fx, _, _, _, _, rfl, slt_same s1 f1, T.S_Form, T.sl_Form_own_lasts, rfl, _, rfl, s, _, dx, _, _, 1, rfl, t1, T.S_Steps, T.sl_Steps_own_lasts, ?_⟩
    have e2 : putS 1 (V.ref ll) [none, none, some (.ref lm)] = [none, some (.ref ll), some (.ref lm)] := rfl
    rw [e2]
    have s2 : Same H0 (slH H1 s T.C_Steps dx [none, some (.ref ll), some (.ref lm)]) := slH_same s1 ns nd
    have t2 : Slt (slH H1 s T.C_Steps dx [none, some (.ref ll), some (.ref lm)]) s T.C_Steps dx [none, some (.ref ll), some (.ref lm)] := slH_slt nds
    generalize slH H1 s T.C_Steps dx [none, some (.ref ll), some (.ref lm)] = H2 at s2 t2 ⊢
    -- self.own_closed = closed_of(prices)
    refine ⟨_, rfl, p, m, rfl, pr.keep (keep_of s2), ok, fun H3 c s3 fc pc => ?_⟩
    refine ⟨_, rfl, s, _, dx, _, _, 0, rfl, slt_same s3 t2, T.S_Steps, T.sl_Steps_own_closed, ?_⟩
    have e3 : putS 0 (V.ref c) [none, some (.ref ll), some (.ref lm)] = [some (.ref c), some (.ref ll), some (.ref lm)] := rfl
    rw [e3]
    obtain ⟨⟨o1, x1⟩, o2, x2⟩ := slt_dx t2
    have n1 : news H2 H3 s = none := news_off x1
    have n2 : news H2 H3 dx = none := news_off x2
    have s4 : Same H0 (slH H3 s T.C_Steps dx [some (.ref c), some (.ref ll), some (.ref lm)]) := slH_same (s2.trans s3) ns nd
    have t4 : Slt (slH H3 s T.C_Steps dx [some (.ref c), some (.ref ll), some (.ref lm)]) s T.C_Steps dx [some (.ref c), some (.ref ll), some (.ref lm)] := slH_slt nds
    have w4 : Same (news H2 H3) (slH H3 s T.C_Steps dx [some (.ref c), some (.ref ll), some (.ref lm)]) := slH_off news_same n1 n2
    generalize slH H3 s T.C_Steps dx [some (.ref c), some (.ref ll), some (.ref lm)] = H4 at s4 t4 w4 ⊢
    generalize news H2 H3 = N at pc n1 n2 w4
    obtain ⟨cx, dO, dP, dS, c1, c2, c3, c4⟩ := id pc
    -- self.own_ways = put_ways(self.own_moves, self.own_closed.own_put, BEYOND * BEYOND)
    refine ⟨_, rfl, s, _, dx, _, _, _, _, rfl, t4, T.S_Steps, T.sl_Steps_own_moves, rfl, _, rfl, s, _, dx, _, _, _, _, rfl, t4, T.S_Steps, T.sl_Steps_own_closed, rfl, c, _, cx, _, _, _, _, rfl, slt_same w4 c1, T.S_Closed, T.sl_Closed_own_put, rfl, ?_⟩
    refine ⟨_, _, rfl, rfl, .inl ⟨by decide, by decide⟩, lm, dP, tg, m.sgs, (clM m.sgs (clT m)).put, rfl, MvsAt.keep (keep_of s4) f3, w4 _ _ c3, fun row hr e he => ?_, tok.useful.to, tok.useful.pos, tok.six, fun H5 lw M s5 mt ws => ?_⟩
    · have hx := si row hr e he
      obtain ⟨p1, p2⟩ := cok.pr.put e.1 hx
      exact ⟨hx, p1, p2⟩
    have w5 := w4.trans s5
    have t5 := slt_same s5 t4
    refine ⟨_, rfl, s, _, dx, _, _, 4, rfl, t5, T.S_Steps, T.sl_Steps_own_ways, ?_⟩
    have e4 : putS 4 (V.ref lw) [some (.ref c), some (.ref ll), some (.ref lm)] = [some (.ref c), some (.ref ll), some (.ref lm), none, some (.ref lw)] := rfl
    rw [e4]
    have s6 : Same H0 (slH H5 s T.C_Steps dx [some (.ref c), some (.ref ll), some (.ref lm), none, some (.ref lw)]) := slH_same (s4.trans s5) ns nd
    have t6 : Slt (slH H5 s T.C_Steps dx [some (.ref c), some (.ref ll), some (.ref lm), none, some (.ref lw)]) s T.C_Steps dx [some (.ref c), some (.ref ll), some (.ref lm), none, some (.ref lw)] := slH_slt nds
    have w6 : Same N (slH H5 s T.C_Steps dx [some (.ref c), some (.ref ll), some (.ref lm), none, some (.ref lw)]) := slH_off w5 n1 n2
    have mt6 := mt.slH (vs' := [some (.ref c), some (.ref ll), some (.ref lm), none, some (.ref lw)]) t5
    generalize slH H5 s T.C_Steps dx [some (.ref c), some (.ref ll), some (.ref lm), none, some (.ref lw)] = H6 at s6 t6 w6 mt6 ⊢
    -- self.own_start = tuple(self.own_ways[0])
    obtain ⟨rs, m1, m2, m3⟩ := id mt6
    obtain ⟨r0, a0, b0⟩ := m3 0 tok.useful.pos
    have at0 : atI (rs.map V.ref) 0 = some (.ref r0) := atI_ofNat (i := 0) (by rw [List.getElem?_map, a0]; rfl)
    refine ⟨_, rfl, s, _, dx, _, _, _, _, rfl, t6, T.S_Steps, T.sl_Steps_own_ways, rfl, lw, _, _, _, rfl, rfl, sq m1, at0, r0, _, rfl, .inl ⟨sq b0, fun ps hps => ?_⟩⟩
    have s7 : Same H0 (upd H6 ps (.tup ((rowL tg.length (M 0)).map V.int))) := s6.trans (same_upd hps)
    have t7 := slt_same (same_upd hps (o := .tup ((rowL tg.length (M 0)).map V.int))) t6
    have w7 : Same N (upd H6 ps (.tup ((rowL tg.length (M 0)).map V.int))) := w6.trans (same_upd hps)
    have mt7 := mt6.same (same_upd hps (o := .tup ((rowL tg.length (M 0)).map V.int)))
    have p7 : (upd H6 ps (.tup ((rowL tg.length (M 0)).map V.int))) ps = some (.tup ((rowL tg.length (M 0)).map V.int)) := upd_same
    generalize upd H6 ps (.tup ((rowL tg.length (M 0)).map V.int)) = H7 at s7 t7 w7 mt7 p7 ⊢
    refine ⟨_, rfl, s, _, dx, _, _, 3, rfl, t7, T.S_Steps, T.sl_Steps_own_start, ?_⟩
    have e5 : putS 3 (V.ref ps) [some (.ref c), some (.ref ll), some (.ref lm), none, some (.ref lw)] = [some (.ref c), some (.ref ll), some (.ref lm), some (.ref ps), some (.ref lw)] := rfl
    rw [e5]
    have s8 : Same H0 (slH H7 s T.C_Steps dx [some (.ref c), some (.ref ll), some (.ref lm), some (.ref ps), some (.ref lw)]) := slH_same s7 ns nd
    have w8 : Same N (slH H7 s T.C_Steps dx [some (.ref c), some (.ref ll), some (.ref lm), some (.ref ps), some (.ref lw)]) := slH_off w7 n1 n2
    refine q _ M s8 ⟨dx, c, ll, lm, ps, lw, slH_slt nds, pc.keep (keep_of w8), s8 _ _ f2, MvsAt.keep (keep_of s8) f3, ?_, mt7.slH t7⟩ ⟨tok, cok, si, ws⟩
    obtain ⟨n3, n4⟩ := slt_tup t7 p7
    rw [slH_ne n3 n4]
    exact p7
end K7
end

section
set_option Elab.async false
set_option linter.all false
set_option maxRecDepth 100000
namespace K7
open PySem PySem.Spec PyProof.Rows L2 SlX
/-! ### many locks -/
def tLockN (t : TE) : Nat → TE
  | 0 => t
  | n + 1 => tLockE (tLockN t n)
def tLocks (t : TE) : TE := fun σ H Q => ∃ n, tLockN t n σ H Q
theorem pe_lockN {X : Cx} {e : Expr} {t : TE} (h : PE X e t) : ∀ n, PE X e (tLockN t n)
  | 0 => h
  | n + 1 => pe_lock (pe_lockN h n)
theorem pe_locks {X : Cx} {e : Expr} {t : TE} (h : PE X e t) : PE X e (tLocks t) := ⟨fun pins s σ H Q I hw => by
  obtain ⟨n, hw⟩ := hw
  exact (pe_lockN h n).run pins s σ H Q I hw⟩
theorem locks_of {t : TE} {σ : L2.St} {P : V → Hp → Prop} : ∀ (ds : List (Addr × HO)) {H : Hp} {Q : VK}, (ds.map (·.1)).Nodup → (∀ p ∈ ds, H p.1 = some p.2 ∧ Mut (some p.2)) →
    (∀ H' (Q' : VK), (∀ p ∈ ds, ∃ od, H' p.1 = some (.frz od p.2)) → (∀ b o, b ∉ ds.map (·.1) → H b = some o → H' b = some o) → (∀ v H2, Same H' H2 → P v H2 → Q' v H2) → t σ H' Q') →
    (∀ v H2 H3, P v H2 → Same H H3 → (∀ b o, b ∉ ds.map (·.1) → H2 b = some o → H3 b = some o) → Q v H3) → tLockN t ds.length σ H Q
  | [], H, Q, _, _, h, q => h H Q (fun _ h => nomatch h) (fun _ _ _ e => e) fun v H2 s p => q v H2 H2 p s fun _ _ _ e => e
  | p :: r, H, Q, nd, hd, h, q => by
    obtain ⟨n1, n2⟩ := List.nodup_cons.mp (show (p.1 :: r.map (·.1)).Nodup from nd)
    obtain ⟨hp, mp⟩ := hd p List.mem_cons_self
    refine ⟨p.1, p.2, hp, mp, fun od => ?_⟩
    have ne : ∀ x ∈ r, x.1 ≠ p.1 := fun x hx z => n1 (z ▸ List.mem_map.mpr ⟨x, hx, rfl⟩)
    refine locks_of (P := P) r n2 (fun x hx => ⟨by rw [upd_ne (ne x hx)]; exact (hd x (List.mem_cons_of_mem _ hx)).1, (hd x (List.mem_cons_of_mem _ hx)).2⟩) (fun H' Q' a b c => ?_) fun v H2 H3 pv sm ag => ⟨sm _ _ upd_same, ?_⟩
    · refine h H' Q' (fun x hx => ?_) (fun x o hx e => b x o (fun z => hx (List.mem_cons_of_mem _ z)) ?_) c
      · rcases List.mem_cons.mp hx with z | z
        · subst z
          exact ⟨od, b _ _ n1 upd_same⟩
        · exact a x z
      · rw [upd_ne (fun z => hx (List.mem_cons.mpr (.inl z)))]
        exact e
    · refine q v H2 _ pv (fun x o e => ?_) fun x o hx e => ?_
      · by_cases c : x = p.1
        · subst c
          rw [upd_same, ← hp]
          exact e
        · rw [upd_ne c]
          exact sm _ _ (by rw [upd_ne c]; exact e)
      · have hx' : x ∉ p.1 :: r.map (·.1) := hx
        rw [upd_ne (fun z => hx' (List.mem_cons.mpr (.inl z)))]
        exact ag x o (fun z => hx' (List.mem_cons_of_mem _ z)) e
def sLockN (t : TS) : Nat → TS
  | 0 => t
  | n + 1 => tLock (sLockN t n)
def sLocks (t : TS) : TS := fun D σ H => ∃ n, sLockN t n D σ H
theorem ps_lockN {X : Cx} {st : Stmt} {t : TS} (h : PS X st t) : ∀ n, PS X st (sLockN t n)
  | 0 => h
  | n + 1 => ps_lock (ps_lockN h n)
theorem ps_locks {X : Cx} {st : Stmt} {t : TS} (h : PS X st t) : PS X st (sLocks t) := ⟨fun pins s σ H D I hw => by
  obtain ⟨n, hw⟩ := hw
  exact (ps_lockN h n).run pins s σ H D I hw⟩
theorem slocks_of {t : TS} {σ : L2.St} {P : L2.St → Hp → Prop} : ∀ (ds : List (Addr × HO)) {H : Hp} {D : L2.Ends}, (ds.map (·.1)).Nodup → (∀ p ∈ ds, H p.1 = some p.2 ∧ Mut (some p.2)) →
    (∀ H' (D' : L2.Ends), (∀ p ∈ ds, ∃ od, H' p.1 = some (.frz od p.2)) → (∀ b o, b ∉ ds.map (·.1) → H b = some o → H' b = some o) → (∀ v H2, Same H' H2 → P v H2 → D'.nx v H2) → t D' σ H') →
    (∀ v H2 H3, P v H2 → Same H H3 → (∀ b o, b ∉ ds.map (·.1) → H2 b = some o → H3 b = some o) → D.nx v H3) → sLockN t ds.length D σ H
  | [], H, D, _, _, h, q => h H D (fun _ h => nomatch h) (fun _ _ _ e => e) fun v H2 s p => q v H2 H2 p s fun _ _ _ e => e
  | p :: r, H, D, nd, hd, h, q => by
    obtain ⟨n1, n2⟩ := List.nodup_cons.mp (show (p.1 :: r.map (·.1)).Nodup from nd)
    obtain ⟨hp, mp⟩ := hd p List.mem_cons_self
    refine ⟨p.1, p.2, hp, mp, fun od => ?_⟩
    have ne : ∀ x ∈ r, x.1 ≠ p.1 := fun x hx z => n1 (z ▸ List.mem_map.mpr ⟨x, hx, rfl⟩)
    refine slocks_of (P := P) r n2 (fun x hx => ⟨by rw [upd_ne (ne x hx)]; exact (hd x (List.mem_cons_of_mem _ hx)).1, (hd x (List.mem_cons_of_mem _ hx)).2⟩) (fun H' D' a b c => ?_) fun v H2 H3 pv sm ag => ⟨sm _ _ upd_same, ?_⟩
    · refine h H' D' (fun x hx => ?_) (fun x o hx e => b x o (fun z => hx (List.mem_cons_of_mem _ z)) ?_) c
      · rcases List.mem_cons.mp hx with z | z
        · subst z
          exact ⟨od, b _ _ n1 upd_same⟩
        · exact a x z
      · rw [upd_ne (fun z => hx (List.mem_cons.mpr (.inl z)))]
        exact e
    · refine q v H2 _ pv (fun x o e => ?_) fun x o hx e => ?_
      · by_cases c : x = p.1
        · subst c
          rw [upd_same, ← hp]
          exact e
        · rw [upd_ne c]
          exact sm _ _ (by rw [upd_ne c]; exact e)
      · have hx' : x ∉ p.1 :: r.map (·.1) := hx
        rw [upd_ne (fun z => hx' (List.mem_cons.mpr (.inl z)))]
        exact ag x o (fun z => hx' (List.mem_cons_of_mem _ z)) e
theorem nodup_of {α : Type} : ∀ l : List α, ∃ k : List α, k.Nodup ∧ ∀ x, x ∈ k ↔ x ∈ l
  | [] => ⟨[], List.nodup_nil, fun _ => Iff.rfl⟩
  | a :: r => by
    obtain ⟨k, h1, h2⟩ := nodup_of r
    by_cases c : a ∈ r
    · refine ⟨k, h1, fun x => (h2 x).trans ⟨List.mem_cons_of_mem _, fun h => ?_⟩⟩
      rcases List.mem_cons.mp h with z | z
      · rw [z]; exact c
      · exact z
    · exact ⟨a :: k, List.nodup_cons.mpr ⟨fun z => c ((h2 a).mp z), h1⟩, fun x => by rw [List.mem_cons, List.mem_cons, h2 x]⟩
/-! ### their walk -/
def ScX (w : World) (H1 : Hp) (D : Addr) (R : Nat → Nat → List Str → Prop) (i j : Nat) (H : Hp) : Prop := ∃ l, Same H1 H ∧ H D = some (SetSO w D l) ∧ l.length ≤ 10 * i + j ∧ R i j l
theorem scx_in {w : World} {J : It} {n : Nat} {S : Hp → Prop} {it : Nat → V → Hp → Hp → Prop} {g : TG} {tt : TT} {te : TE} {vs : List Nat} {σ : L2.St} {H1 H : Hp} {D : Addr} {i : Nat} (k : Wk J n S it) (hn : n ≤ 10)
    (R : Nat → Nat → List Str → Prop) (r0 : ScX w H1 D R i 0 H) (hS : ∀ H, Same H1 H → S H)
    (hs : ∀ j l x H H', j < n → Same H1 H → H D = some (SetSO w D l) → l.length ≤ 10 * i + j → R i j l → it j x H H' → g x (wipe σ vs) H' fun σ2 H2 => wipe σ2 vs = wipe σ vs ∧ tt σ2 H2 fun b H3 =>
      if b = true then te σ2 H3 fun y H7 => ∃ c l, y = .str c ∧ H7 D = some (SetSO w D l) ∧ l.length < 4000 ∧ ScX w H1 D R i (j + 1) (upd H7 D (SetSO w D (c :: l))) else ScX w H1 D R i (j + 1) H3)
    (hd : ∀ l, R i n l → R (i + 1) 0 l) :
    ∃ W : Nat → Nat → Hp → Prop, (∃ m, W 0 m H) ∧ ∀ j m H, W j m H → (J.stop j H ∧ ScX w H1 D R (i + 1) 0 H) ∨ (J.go j H ∧ ∃ Nx : Hp → Prop, (∀ H', Nx H' → ∃ m', m' < m ∧ W (j + 1) m' H') ∧ ∀ x H', J.yld j H x H' → g x (wipe σ vs) H' fun σ2 H2 => wipe σ2 vs = wipe σ vs ∧ tt σ2 H2 fun b H3 =>
      if b = true then te σ2 H3 fun y H7 => ∃ c l, y = .str c ∧ H7 D = some (SetSO w D l) ∧ l.length < 4000 ∧ Nx (upd H7 D (SetSO w D (c :: l))) else Nx H3) := by
  refine ⟨fun j m H => m = n - j ∧ j ≤ n ∧ ScX w H1 D R i j H, ⟨n, by simp, Nat.zero_le _, r0⟩, ?_⟩
  rintro j m H ⟨rfl, hj, l, sm, hl, hz, r⟩
  have s := hS H sm
  by_cases hlt : j < n
  · exact .inr ⟨k.go j H s hlt, ScX w H1 D R i (j + 1), fun H' p => ⟨n - (j + 1), by omega, rfl, hlt, p⟩, fun x H' y => hs j l x H H' hlt sm hl hz r (k.yld j H x H' s hlt y)⟩
  · have e : j = n := by omega
    subst e
    exact .inl ⟨k.stop H s, l, sm, hl, by omega, hd l r⟩
end K7
end

section
set_option Elab.async false
set_option linter.all false
set_option maxRecDepth 100000
namespace K7
open PySem PySem.Spec PyProof.Rows L2 SlX
/-! The walk: what the asked functions need first. -/
/-! ### Form.signs -/
def sp_Form_signs {K : PySem.W.Frag} {mg : Str → Option Value} (T : Txt K mg) : Sp := fun vs H Q _ => ∃ (a : Addr) (tg : MachS), vs = [.ref a] ∧ FormAt T.C_Form H a tg ∧ tg.length ≤ 6 ∧ (∀ row ∈ tg, Asc (row.1.map (·.1))) ∧ ∀ H' p (xs : List Str), Same H H' → H' p = some (.tup (xs.map V.str)) → (∀ x ∈ xs, ∃ row ∈ tg, ∃ e ∈ row.1, e.1 = x) → xs.length ≤ 60 → Q (.ref p) H'
set_option maxHeartbeats 4000000 in
theorem ok_Form_signs {P : Program} {w : World} {K : PySem.W.Frag} {mg : Str → Option Value} {base : Heap} (T : Txt K mg) : FnOk P w K mg base CX0 1 T.a_Form_signs T.d_Form_signs ["self"] (sp_Form_signs T) := by
  refine T.F_Form_signs.ok sc_Form_signs (fun vs H Q E h => ?_) (fun cdv A outer s H vs Q E hr h => ?_)
  · obtain ⟨a, tg, rfl, ⟨dx, ll, lm, f1, f2, f3⟩, h6, asc, q⟩ := h
    rfl
  · obtain ⟨a, tg, rfl, ⟨dx, ll, lm, f1, f2, f3⟩, h6, asc, q⟩ := h
    refine ⟨_, PSs.nox (pss_one (ps_ret (pe_callTy (call_tupK K) (by rfl) T.n_tuple (by decide +kernel) (pa_cons (pe_callB (cr_sortedSetS rfl) (by rfl) T.n_sorted (by decide +kernel) (pa_cons (pe_locks (pe_sc2 (own := [("moves", 1), ("sign", 2)]) (vs1 := [2]) rfl sc_Form_signs.nd (pi_listK K (pe_slK K (pv 0))) (blkOk_by (own := [("moves", 1), ("sign", 2)]) (N := n_Form_signs) (sc := defScope s_Form_signs) (by decide +kernel)) (fun _ _ _ _ _ => (pg_name (i := 1) sc_Form_signs.nd rfl (by first | exact .inl rfl | exact .inr rfl))) (fun _ _ _ _ _ => pts_nil) (by decide) (fun _ _ _ _ _ => (pi_keys (pv 1))) (fun _ _ _ _ _ => (pg_name (i := 2) sc_Form_signs.nd rfl (by first | exact .inl rfl | exact .inr rfl))) (fun _ _ _ _ _ => pts_nil) (fun _ _ _ _ _ => (pv 2)))) pa_nil)) pa_nil)))), ?_⟩
    obtain ⟨ds, d1, d2, d3⟩ := id f3
    obtain ⟨ks, k1, k2⟩ := nodup_of ds
    have hk : ∀ d ∈ ks, ∃ (i : Nat) (row : List (Str × Nat) × Bool), tg[i]? = some row ∧ ds[i]? = some d ∧ H d = some (.dK (mvD row.1)) := fun d hd => by
      obtain ⟨i, hi, e⟩ := List.getElem_of_mem ((k2 d).mp hd)
      obtain ⟨row, hrow⟩ := getE_of (xs := tg) (by omega : i < tg.length)
      obtain ⟨d', e1, e2⟩ := d3 i row hrow
      rw [List.getElem?_eq_getElem hi, e] at e1
      obtain rfl := Option.some.inj e1
      exact ⟨i, row, hrow, by rw [List.getElem?_eq_getElem hi, e], e2⟩
    have hoff : ∀ b o, H b = some o → (∀ k, o ≠ .dK k) → b ∉ ks := fun b o e n hb => by
      obtain ⟨_, _, _, _, e2⟩ := hk b hb
      rw [e] at e2
      exact n _ (Option.some.inj e2)
    have nlm : lm ∉ ks := hoff _ _ d1 (fun _ z => nomatch z)
    have nam : a ∉ ks ∧ dx ∉ ks := by
      rcases f1 with ⟨_, z⟩ | ⟨z1, z2⟩
      · cases z
      · exact ⟨hoff _ _ z1 (fun _ z => by unfold SlO at z; cases z), hoff _ _ z2 (fun _ z => nomatch z)⟩
    have eL : (ks.map fun d => (d, (H d).getD (.lst []))).map (·.1) = ks := by rw [List.map_map]; exact (List.map_congr_left fun _ _ => rfl).trans (List.map_id _)
    refine ⟨_, locks_of (P := fun v H2 => ∃ D l, v = .ref D ∧ H2 D = some (SetSO w D l) ∧ D ∉ ks ∧ l.length ≤ 60 ∧ ∀ x ∈ l, ∃ row ∈ tg, ∃ e ∈ row.1, e.1 = x) (ks.map fun d => (d, (H d).getD (.lst []))) (by rw [eL]; exact k1) (fun p hp => ?_) ?_ ?_⟩
    · obtain ⟨d, hd, rfl⟩ := List.mem_map.mp hp
      obtain ⟨_, _, _, _, e2⟩ := hk d hd
      show H d = some ((H d).getD _) ∧ Mut (some ((H d).getD _))
      rw [e2]
      exact ⟨rfl, trivial⟩
    · rw [eL]
      intro H' Q' lk kp qq
      have lk' : ∀ (i : Nat) (row : List (Str × Nat) × Bool) (d : Addr), tg[i]? = some row → ds[i]? = some d → ∃ od, H' d = some (.frz od (.dK (mvD row.1))) := fun i row d e1 e2 => by
        obtain ⟨d', g1, g2⟩ := d3 i row e1
        rw [e2] at g1
        obtain rfl := Option.some.inj g1
        obtain ⟨od, z⟩ := lk (d, (H d).getD (.lst [])) (List.mem_map.mpr ⟨d, (k2 d).mpr (List.mem_of_getElem? e2), rfl⟩)
        rw [g2] at z
        exact ⟨od, z⟩
      have sl : Slt H' a T.C_Form dx [some (.ref ll), some (.ref lm)] := by
        rcases f1 with ⟨_, z⟩ | ⟨z1, z2⟩
        · cases z
        · exact .inr ⟨kp _ _ nam.1 z1, kp _ _ nam.2 z2⟩
      have hlm := kp _ _ nlm d1
      refine ⟨_, rfl, a, _, dx, _, _, _, _, rfl, sl, T.S_Form, T.sl_Form_own_moves, rfl, _, rfl, ⟨_, sq hlm⟩, fun D hD => ?_⟩
      have nDk : D ∉ ks := fun z => by
        obtain ⟨i, row, e1, e2, _⟩ := hk D z
        obtain ⟨od, e3⟩ := lk' i row D e1 e2
        rw [hD] at e3
        cases e3
      refine ⟨fun i m H2 => m = tg.length - i ∧ i ≤ tg.length ∧ ScX w H' D (fun _ _ l => ∀ x ∈ l, ∃ row ∈ tg, ∃ e ∈ row.1, e.1 = x) i 0 H2,
        ⟨tg.length, by simp, Nat.zero_le _, [], same_upd hD, upd_same, Nat.le_refl _, fun x hx => nomatch hx⟩, ?_⟩
      rintro i m H5 ⟨rfl, hi, st⟩
      obtain ⟨l5, sm5, hl5, hz5, r5⟩ := id st
      have hs5 := sm5 _ _ hlm
      have wk := Wk.list (K := K) (a := lm) (xs := ds.map V.ref)
      by_cases hlt : i < tg.length
      · refine .inr ⟨wk.go i H5 (sq hs5) (by rw [List.length_map, d2]; exact hlt), ScX w H' D (fun _ _ l => ∀ x ∈ l, ∃ row ∈ tg, ∃ e ∈ row.1, e.1 = x) (i + 1) 0, fun H' p => ⟨tg.length - (i + 1), by omega, rfl, hlt, p⟩, fun y H6 yl => ?_⟩
        obtain ⟨rfl, hy⟩ := wk.yld i H5 y H6 (sq hs5) (by rw [List.length_map, d2]; exact hlt) yl
        obtain ⟨row, hrow⟩ := getE_of hlt
        obtain ⟨d, g1, g2⟩ := d3 i row hrow
        obtain rfl : y = .ref d := by
          rw [List.getElem?_map, g1] at hy
          exact (Option.some.inj hy).symm
        obtain ⟨od, hfz⟩ := lk' i row d hrow g1
        have as := asc row (List.mem_of_getElem? hrow)
        have l5 := as.len5
        rw [List.length_map] at l5
        refine ⟨rfl, yesI ?_⟩
        refine ⟨_, rfl, d, od, rfl, .inl ⟨_, sm5 _ _ hfz, ?_⟩⟩
        refine scx_in (n := (mvD row.1).length) Wk.keys (by rw [List.length_map]; omega) (fun _ _ l => ∀ x ∈ l, ∃ row ∈ tg, ∃ e ∈ row.1, e.1 = x) st (fun _ s => s _ _ hfz) ?_ (fun _ r => r)
        rintro j l z H8 H9 hj sm hl hz r ⟨rfl, k, v, e1, rfl⟩
        rw [List.length_map] at hj
        obtain ⟨e, he, rfl⟩ : ∃ e : Str × Nat, row.1[j]? = some e ∧ k = Sum.inr e.1 := by
          rw [List.getElem?_map] at e1
          cases h : row.1[j]? with
          | none => rw [h] at e1; cases e1
          | some e =>
            rw [h] at e1
            injection e1 with e1
            injection e1 with e1 _
            exact ⟨e, rfl, e1.symm⟩
        refine ⟨rfl, yes1 ?_⟩
        refine ⟨_, rfl, e.1, l, rfl, hl, by omega, e.1 :: l, same_mut sm hD, upd_same, by rw [List.length_cons]; omega, fun x hx => ?_⟩
        rcases List.mem_cons.mp hx with q | q
        · exact ⟨row, List.mem_of_getElem? hrow, e, List.mem_of_getElem? he, q.symm⟩
        · exact r x q
      · have e : i = tg.length := by omega
        subst e
        have stp := wk.stop H5 (sq hs5)
        rw [List.length_map, d2] at stp
        exact .inl ⟨stp, qq _ _ sm5 ⟨D, l5, rfl, hl5, nDk, by omega, r5⟩⟩
    · rintro v H2 H3 ⟨D, l, rfl, h2, nD, l60, hl⟩ sm ag
      rw [eL] at ag
      refine ⟨D, l, rfl, ag _ _ nD h2, by omega, fun ys p nd' mem le srt hp => ?_⟩
      have sm2 : Same H (upd H3 p (.lst (ys.map V.str))) := sm.trans (same_upd hp)
      refine ⟨p, _, rfl, .inl ⟨sq upd_same, fun t ht => ?_⟩⟩
      exact q _ t ys (sm2.trans (same_upd ht)) upd_same (fun x hx => hl x ((mem x).mp hx)) (by omega)
end K7
end

section
set_option Elab.async false
set_option linter.all false
set_option maxRecDepth 100000
namespace K7
open PySem PySem.Spec PyProof.Rows L2 SlX
/-! The walk: what the asked functions need first, and they themselves. -/
section
variable {P : Program} {w : World} {K : PySem.W.Frag} {mg : Str → Option Value} {base : Heap}
theorem b3_require_target (T : Txt K mg) : ∃ ds, Vals [.str ""] ds ∧ Binds K T.d_require_target ["target", "prices", "word", "sign"] ds :=
  T.F_require_target.binds1 3 1 (by simp) rfl fun _ _ _ _ _ _ _ us its h1 h2 => match us, its, h1, h2 with | [_, _, _], [_, _], _, _ => ⟨_, rfl, rfl⟩
theorem b_require_target (T : Txt K mg) : Binds K T.d_require_target ["target", "prices", "word", "sign"] [] := by
  have h : ∃ ds, Vals [] ds ∧ Binds K T.d_require_target ["target", "prices", "word", "sign"] ds :=
    T.F_require_target.binds1 4 2 (by simp) rfl fun _ _ _ _ _ _ _ us its h1 h2 => match us, its, h1, h2 with | [_, _, _, _], [_, _], _, _ => ⟨_, rfl, rfl⟩
  obtain ⟨ds, h1, h2⟩ := h
  cases h1
  exact h2
end
theorem nil_in {P : Nat → Prop} : ∀ k ∈ ("" : Str).cps.toList, P k := fun k hk => by
  have h : k ∈ ([] : List Nat) := hk
  cases h
theorem sg_size {x : Str} (h : IsSg x) : x.cps.size ≤ 10 := by
  obtain ⟨c, _, _, rfl⟩ := h
  show 1 ≤ 10
  decide
/-! ### require_target -/
def sp_require_target {K : PySem.W.Frag} {mg : Str → Option Value} (T : Txt K mg) : Sp := fun vs H Q _ => ∃ (a p : Addr) (z y : Str) (tg : MachS) (m : PrM), vs = [.ref a, .ref p, .str z, .str y] ∧ FormAt T.C_Form H a tg ∧ PrAt T.C_Prices H p m ∧ PrOk m ∧ TgOk tg ∧ SgIn tg m ∧ (∀ k ∈ z.cps.toList, sg k ∈ m.sgs) ∧ (∀ k ∈ y.cps.toList, sg k ∈ m.sgs) ∧ z.cps.size ≤ 1000 ∧ y.cps.size ≤ 10 ∧
  ∀ H', Same H H' → Q .non H'
set_option maxHeartbeats 4000000 in
theorem ok_require_target {P : Program} {w : World} {K : PySem.W.Frag} {mg : Str → Option Value} {base : Heap} (T : Txt K mg) : FnOk P w K mg base CX0 6 T.a_require_target T.d_require_target ["target", "prices", "word", "sign"] (sp_require_target T) := by
  refine T.F_require_target.ok sc_require_target (fun vs H Q E h => ?_) (fun cdv A outer s H vs Q E hr h => ?_)
  · obtain ⟨a, p, z, y, tg, m, rfl, fa, pa, ok, tok, si, hz, hy, z1, y1, q⟩ := h
    rfl
  · obtain ⟨a, p, z, y, tg, m, rfl, fa, pa, ok, tok, si, hz, hy, z1, y1, q⟩ := h
    refine ⟨_, PSs.nox (pss_cons (ps_expr (pe_call (ok_require_priced T) (hr.mono (by decide)) (by rfl) T.g_require_priced T.F_require_priced.kp (b_require_priced T) .nil pass0 (pa_cons (pv 1) (pa_cons (pe_lst (StX.pa_star (pe_propSl (pv 0) T.S_Form T.pr_at T.pr_get T.pr_tk T.pr_rc (raw0 (ok_Form_signs T) (b_Form_signs T)) (hr.mono (by decide)) pass0s) (pa_starS rfl (pv 2) (pa_starS rfl (pv 3) pa_nil)))) pa_nil))))
      (pss_one (ps_expr (pe_call (ok_require_small T) (hr.mono (by decide)) (by rfl) T.g_require_small T.F_require_small.kp (b_require_small T) .nil pass0 (pa_cons (pv 0) pa_nil))))), ?_⟩
    obtain ⟨dx, ll, lm, f1, _⟩ := id fa
    refine ⟨_, rfl, _, rfl, a, dx, _, rfl, f1, a, tg, rfl, fa, tok.six, tok.asc, fun H1 t xs s1 ht hx l60 => ?_⟩
    refine ⟨t, _, rfl, .inl (sqt ht), _, rfl, z, rfl, by omega, _, rfl, y, rfl, by omega, ?_⟩
    have ex : ∀ u : Str, (u.cps.toList.map fun c => V.str (sg c)) = (u.cps.toList.map sg).map V.str := fun u => by rw [List.map_map]; rfl
    have el : xs.map V.str ++ ((z.cps.toList.map fun c => V.str (sg c)) ++ ((y.cps.toList.map fun c => V.str (sg c)) ++ [])) = (xs ++ (z.cps.toList.map sg ++ y.cps.toList.map sg)).map V.str := by
      rw [ex, ex, List.append_nil, List.map_append, List.map_append]
    refine ⟨by simp only [List.length_append, List.length_map, List.length_nil, Array.length_toList]; exact szle (by omega), fun l hl => ?_⟩
    have s2 : Same H1 (upd H1 l (.lst (xs.map V.str ++ ((z.cps.toList.map fun c => V.str (sg c)) ++ ((y.cps.toList.map fun c => V.str (sg c)) ++ []))))) := same_upd hl
    refine ⟨p, l, m, xs ++ (z.cps.toList.map sg ++ y.cps.toList.map sg), rfl, pa.keep (keep_of (s1.trans s2)), ok, by rw [upd_same, el], fun x h => ?_, ?_, fun H2 s3 => ?_⟩
    · rcases List.mem_append.mp h with h | h
      · obtain ⟨row, hr, e, he, rfl⟩ := hx x h
        exact si row hr e he
      · rcases List.mem_append.mp h with h | h
        · obtain ⟨k, hk, rfl⟩ := List.mem_map.mp h
          exact hz k hk
        · obtain ⟨k, hk, rfl⟩ := List.mem_map.mp h
          exact hy k hk
    · simp only [List.length_append, List.length_map, Array.length_toList]
      omega
    · have s4 := (s1.trans s2).trans s3
      exact ⟨_, rfl, a, tg, rfl, fa.keep (keep_of s4), tok.six, q _ s4⟩
/-! ### row_of -/
def sp_row_of {K : PySem.W.Frag} {mg : Str → Option Value} (T : Txt K mg) : Sp := fun vs H Q _ => ∃ (a p : Addr) (z : Str) (tg : MachS) (m : PrM), vs = [.ref a, .ref p, .str z] ∧ FormAt T.C_Form H a tg ∧ PrAt T.C_Prices H p m ∧ PrOk m ∧ TgOk tg ∧ SgIn tg m ∧ IsWd z ∧ (∀ k ∈ z.cps.toList, sg k ∈ m.sgs) ∧ z.cps.size ≤ 1000 ∧
  ∀ H' t (r : List Int) M, Same H H' → H' t = some (.tup (r.map V.int)) → Ctx tg (clM m.sgs (clT m)) M → RowOf tg (clM m.sgs (clT m)) M z.cps.toList r → Q (.ref t) H'
set_option maxHeartbeats 4000000 in
theorem ok_row_of {P : Program} {w : World} {K : PySem.W.Frag} {mg : Str → Option Value} {base : Heap} (T : Txt K mg) : FnOk P w K mg base CX0 7 T.a_row_of T.d_row_of ["target", "prices", "word"] (sp_row_of T) := by
  refine T.F_row_of.ok sc_row_of (fun vs H Q E h => ?_) (fun cdv A outer s H vs Q E hr h => ?_)
  · obtain ⟨a, p, z, tg, m, rfl, fa, pa, ok, tok, si, wd, hz, z1, q⟩ := h
    rfl
  · obtain ⟨a, p, z, tg, m, rfl, fa, pa, ok, tok, si, wd, hz, z1, q⟩ := h
    refine ⟨_, PSs.nox (pss_cons (ps_expr (pe_call (ok_require_form T) (hr.mono (by decide)) (by rfl) T.g_require_form T.F_require_form.kp (b_require_form T) .nil pass0 (pa_cons (pv 0) pa_nil)))
      (pss_cons (ps_expr (pe_call (ok_require_prices T) (hr.mono (by decide)) (by rfl) T.g_require_prices T.F_require_prices.kp (b_require_prices T) .nil pass0 (pa_cons (pv 1) pa_nil)))
      (pss_cons (ps_expr (pe_call (ok_require_word T) (hr.mono (by decide)) (by rfl) T.g_require_word T.F_require_word.kp (b_require_word T) .nil pass0 (pa_cons (pv 2) pa_nil)))
      (pss_cons (ps_expr (pe_call (ok_require_target T) (hr.mono (by decide)) (by rfl) T.g_require_target T.F_require_target.kp (b3_require_target T).choose_spec.2 (b3_require_target T).choose_spec.1 pass0 (pa_cons (pv 0) (pa_cons (pv 1) (pa_cons (pv 2) pa_nil)))))
      (pss_one (ps_ret (pe_methSl (pe_make T.mk_Steps (ok_Steps_init T) (hr.mono (by decide)) (by rfl) T.g_Steps (b_Steps_init T) .nil pass0 (pa_cons (pv 0) (pa_cons (pv 1) pa_nil))) T.S_Steps T.me_Steps_row_of_word (raw0 (ok_Steps_row_of_word T) (b_Steps_row_of_word T)) (hr.mono (by decide)) pass0 (pa_cons (pv 2) pa_nil)))))))), ?_⟩
    refine ⟨_, rfl, a, tg, rfl, fa, _, rfl, p, m, rfl, pa, _, rfl, z, rfl, wd, z1, fun H1 s1 => ?_⟩
    refine ⟨_, rfl, _, rfl, _, rfl, a, p, z, "", tg, m, rfl, fa.keep (keep_of s1), pa.keep (keep_of s1), ok, tok, si, hz, nil_in, z1, by decide, fun H2 s2 => ?_⟩
    have s12 := s1.trans s2
    refine ⟨_, rfl, _, rfl, fun st dx hst hdx nds => ?_⟩
    have sc : Same H2 (upd (upd H2 dx (.own st)) st (.ins T.C_Steps dx [])) := (same_upd hdx).trans (same_upd (by rw [upd_ne nds.symm]; exact hst))
    refine ⟨H2, st, dx, a, p, tg, m, rfl, sc, hst, hdx, nds, upd_same, ⟨_, by rw [upd_ne nds]; exact upd_same⟩, fa.keep (keep_of s12), pa.keep (keep_of s12), ok, tok, si, fun H3 M s3 sa cx => ⟨rfl, ?_⟩⟩
    obtain ⟨sx, _, _, _, _, _, t1, _⟩ := id sa
    refine ⟨st, sx, _, rfl, t1, _, rfl, st, z, tg, _, M, rfl, sa, cx, hz, z1, fun H4 t r s4 ht ro => ?_⟩
    exact q H4 t r M ((s12.trans s3).trans s4) ht cx ro
/-! ### start_row -/
def sp_start_row {K : PySem.W.Frag} {mg : Str → Option Value} (T : Txt K mg) : Sp := fun vs H Q _ => ∃ (a p : Addr) (tg : MachS) (m : PrM), vs = [.ref a, .ref p] ∧ FormAt T.C_Form H a tg ∧ PrAt T.C_Prices H p m ∧ PrOk m ∧ TgOk tg ∧ SgIn tg m ∧
  ∀ H' t (r : List Int) M, Same H H' → H' t = some (.tup (r.map V.int)) → Ctx tg (clM m.sgs (clT m)) M → RowOf tg (clM m.sgs (clT m)) M [] r → Q (.ref t) H'
set_option maxHeartbeats 4000000 in
theorem ok_start_row {P : Program} {w : World} {K : PySem.W.Frag} {mg : Str → Option Value} {base : Heap} (T : Txt K mg) : FnOk P w K mg base CX0 8 T.a_start_row T.d_start_row ["target", "prices"] (sp_start_row T) := by
  refine T.F_start_row.ok sc_start_row (fun vs H Q E h => ?_) (fun cdv A outer s H vs Q E hr h => ?_)
  · obtain ⟨a, p, tg, m, rfl, fa, pa, ok, tok, si, q⟩ := h
    rfl
  · obtain ⟨a, p, tg, m, rfl, fa, pa, ok, tok, si, q⟩ := h
    refine ⟨_, PSs.nox (pss_one (ps_ret (pe_call (ok_row_of T) (hr.mono (by decide)) (by rfl) T.g_row_of T.F_row_of.kp (b_row_of T) .nil pass0 (pa_cons (pv 0) (pa_cons (pv 1) (pa_cons pe_str pa_nil)))))), ?_⟩
    exact ⟨_, rfl, _, rfl, a, p, "", tg, m, rfl, fa, pa, ok, tok, si, nil_in, nil_in, by decide, q⟩
/-! ### row_behind -/
def sp_row_behind {K : PySem.W.Frag} {mg : Str → Option Value} (T : Txt K mg) : Sp := fun vs H Q _ => ∃ (a p t : Addr) (x : Str) (tg : MachS) (m : PrM) (r : List Int), vs = [.ref a, .ref p, .ref t, .str x] ∧ FormAt T.C_Form H a tg ∧ PrAt T.C_Prices H p m ∧ PrOk m ∧ TgOk tg ∧ SgIn tg m ∧ x ∈ m.sgs ∧ H t = some (.tup (r.map V.int)) ∧ r.length = tg.length ∧ (∀ z ∈ r, 0 ≤ z ∧ z < 10000) ∧
  ∀ H' t' (r' : List Int) M, Same H H' → H' t' = some (.tup (r'.map V.int)) → r'.length = tg.length → Ctx tg (clM m.sgs (clT m)) M → Beh tg.length (movesOf tg) (swP (clM m.sgs (clT m)) x) ((clM m.sgs (clT m)).out x) M (rowF r) (rowF r') → Q (.ref t') H'
set_option maxHeartbeats 4000000 in
theorem ok_row_behind {P : Program} {w : World} {K : PySem.W.Frag} {mg : Str → Option Value} {base : Heap} (T : Txt K mg) : FnOk P w K mg base CX0 7 T.a_row_behind T.d_row_behind ["target", "prices", "row", "sign"] (sp_row_behind T) := by
  refine T.F_row_behind.ok sc_row_behind (fun vs H Q E h => ?_) (fun cdv A outer s H vs Q E hr h => ?_)
  · obtain ⟨a, p, t, x, tg, m, r, rfl, fa, pa, ok, tok, si, hx, ht, hr0, hb, q⟩ := h
    rfl
  · obtain ⟨a, p, t, x, tg, m, r, rfl, fa, pa, ok, tok, si, hx, ht, hr0, hb, q⟩ := h
    refine ⟨_, PSs.nox (pss_cons (ps_expr (pe_call (ok_require_form T) (hr.mono (by decide)) (by rfl) T.g_require_form T.F_require_form.kp (b_require_form T) .nil pass0 (pa_cons (pv 0) pa_nil)))
      (pss_cons (ps_expr (pe_call (ok_require_prices T) (hr.mono (by decide)) (by rfl) T.g_require_prices T.F_require_prices.kp (b_require_prices T) .nil pass0 (pa_cons (pv 1) pa_nil)))
      (pss_cons (ps_expr (pe_call (ok_require_row T) (hr.mono (by decide)) (by rfl) T.g_require_row T.F_require_row.kp (b_require_row T) .nil pass0 (pa_cons (pv 0) (pa_cons (pv 2) pa_nil))))
      (pss_cons (ps_if (pt_not (pt_val (pe_call (ok_is_sign T) (hr.mono (by decide)) (by rfl) T.g_is_sign T.F_is_sign.kp (b_is_sign T) .nil pass0 (pa_cons (pv 3) pa_nil)))) pss_never pss_nil)
      (pss_cons (ps_expr (pe_call (ok_require_target T) (hr.mono (by decide)) (by rfl) T.g_require_target T.F_require_target.kp (b_require_target T) .nil pass0 (pa_cons (pv 0) (pa_cons (pv 1) (pa_cons pe_str (pa_cons (pv 3) pa_nil))))))
      (pss_one (ps_ret (pe_methSl (pe_make T.mk_Steps (ok_Steps_init T) (hr.mono (by decide)) (by rfl) T.g_Steps (b_Steps_init T) .nil pass0 (pa_cons (pv 0) (pa_cons (pv 1) pa_nil))) T.S_Steps T.me_Steps_behind (raw0 (ok_Steps_behind T) (b_Steps_behind T)) (hr.mono (by decide)) pass0 (pa_cons (pv 2) (pa_cons (pv 3) pa_nil)))))))))), ?_⟩
    have n1 : 1 ≤ tg.length := tok.useful.pos
    have isx := ok.asc.isSg hx
    obtain ⟨c, c1, c2, ec⟩ := id isx
    refine ⟨_, rfl, a, tg, rfl, fa, _, rfl, p, m, rfl, pa, _, rfl, _, rfl, a, t, tg, r, rfl, fa, ht, hr0, n1, tok.six, hb, fun H1 s1 => ?_⟩
    refine ⟨_, rfl, x, rfl, isx, _, rfl, ?_⟩
    refine ite_no rfl ?_
    have hxs : ∀ k ∈ x.cps.toList, sg k ∈ m.sgs := fun k hk => by
      rw [ec] at hk
      have e : k = c := List.mem_singleton.mp hk
      have e2 : sg k = x := by rw [e, ec]; rfl
      rw [e2]
      exact hx
    refine ⟨_, rfl, _, rfl, _, rfl, a, p, "", x, tg, m, rfl, fa.keep (keep_of s1), pa.keep (keep_of s1), ok, tok, si, nil_in, hxs, by decide, sg_size isx, fun H2 s2 => ?_⟩
    have s12 := s1.trans s2
    refine ⟨_, rfl, _, rfl, fun st dx hst hdx nds => ?_⟩
    have sc : Same H2 (upd (upd H2 dx (.own st)) st (.ins T.C_Steps dx [])) := (same_upd hdx).trans (same_upd (by rw [upd_ne nds.symm]; exact hst))
    refine ⟨H2, st, dx, a, p, tg, m, rfl, sc, hst, hdx, nds, upd_same, ⟨_, by rw [upd_ne nds]; exact upd_same⟩, fa.keep (keep_of s12), pa.keep (keep_of s12), ok, tok, si, fun H3 M s3 sa cx => ⟨rfl, ?_⟩⟩
    obtain ⟨sx, _, _, _, _, _, t1, _⟩ := id sa
    have s13 := s12.trans s3
    refine ⟨st, sx, _, rfl, t1, _, rfl, _, rfl, st, t, x, tg, _, M, r, rfl, sa, cx.cl, cx.si, tok.useful.to, hx, s13 _ _ ht, hr0, n1, tok.six, fun z hz => ?_, cx.ws, fun H4 t' r' s4 ht' hl' be => ?_⟩
    · have := hb z hz
      omega
    · exact q H4 t' r' M (s13.trans s4) ht' hl' cx be
/-! ### require_cost -/
def sp_require_cost {K : PySem.W.Frag} {mg : Str → Option Value} (T : Txt K mg) : Sp := fun vs H Q _ => ∃ (a p : Addr) (z : Str) (tg : MachS) (m : PrM), vs = [.str z, .ref a, .ref p] ∧ FormAt T.C_Form H a tg ∧ PrAt T.C_Prices H p m ∧ PrOk m ∧ TgOk tg ∧ SgIn tg m ∧ IsWd z ∧ (∀ k ∈ z.cps.toList, sg k ∈ m.sgs) ∧ z.cps.size ≤ 1000 ∧ ∀ H', Same H H' → Q .non H'
set_option maxHeartbeats 4000000 in
theorem ok_require_cost {P : Program} {w : World} {K : PySem.W.Frag} {mg : Str → Option Value} {base : Heap} (T : Txt K mg) : FnOk P w K mg base CX0 7 T.a_require_cost T.d_require_cost ["word", "target", "prices"] (sp_require_cost T) := by
  refine T.F_require_cost.ok sc_require_cost (fun vs H Q E h => ?_) (fun cdv A outer s H vs Q E hr h => ?_)
  · obtain ⟨a, p, z, tg, m, rfl, fa, pa, ok, tok, si, wd, hz, z1, q⟩ := h
    rfl
  · obtain ⟨a, p, z, tg, m, rfl, fa, pa, ok, tok, si, wd, hz, z1, q⟩ := h
    refine ⟨_, PSs.nox (pss_cons (ps_expr (pe_call (ok_require_word T) (hr.mono (by decide)) (by rfl) T.g_require_word T.F_require_word.kp (b_require_word T) .nil pass0 (pa_cons (pv 0) pa_nil)))
      (pss_cons (ps_expr (pe_call (ok_require_form T) (hr.mono (by decide)) (by rfl) T.g_require_form T.F_require_form.kp (b_require_form T) .nil pass0 (pa_cons (pv 1) pa_nil)))
      (pss_cons (ps_expr (pe_call (ok_require_prices T) (hr.mono (by decide)) (by rfl) T.g_require_prices T.F_require_prices.kp (b_require_prices T) .nil pass0 (pa_cons (pv 2) pa_nil)))
      (pss_one (ps_expr (pe_call (ok_require_target T) (hr.mono (by decide)) (by rfl) T.g_require_target T.F_require_target.kp (b3_require_target T).choose_spec.2 (b3_require_target T).choose_spec.1 pass0 (pa_cons (pv 1) (pa_cons (pv 2) (pa_cons (pv 0) pa_nil))))))))), ?_⟩
    refine ⟨_, rfl, z, rfl, wd, z1, fun H1 s1 => ⟨_, rfl, a, tg, rfl, fa.keep (keep_of s1), _, rfl, p, m, rfl, pa.keep (keep_of s1), ?_⟩⟩
    exact ⟨_, rfl, _, rfl, _, rfl, a, p, z, "", tg, m, rfl, fa.keep (keep_of s1), pa.keep (keep_of s1), ok, tok, si, hz, nil_in, z1, by decide, fun H2 s2 => q H2 (s1.trans s2)⟩
/-! ### cost -/
def sp_cost {K : PySem.W.Frag} {mg : Str → Option Value} (T : Txt K mg) : Sp := fun vs H Q _ => ∃ (a p : Addr) (z : Str) (tg : MachS) (m : PrM), vs = [.str z, .ref a, .ref p] ∧ FormAt T.C_Form H a tg ∧ PrAt T.C_Prices H p m ∧ PrOk m ∧ TgOk tg ∧ SgIn tg m ∧ IsWd z ∧ (∀ k ∈ z.cps.toList, sg k ∈ m.sgs) ∧ z.cps.size ≤ 1000 ∧
  ∀ H' k (r : List Int) M, Same H H' → Ctx tg (clM m.sgs (clT m)) M → RowOf tg (clM m.sgs (clT m)) M z.cps.toList r → EndOf tg r k → Q (.int k) H'
set_option maxHeartbeats 4000000 in
theorem ok_cost {P : Program} {w : World} {K : PySem.W.Frag} {mg : Str → Option Value} {base : Heap} (T : Txt K mg) : FnOk P w K mg base CX0 8 T.a_cost T.d_cost ["word", "target", "prices"] (sp_cost T) := by
  refine T.F_cost.ok sc_cost (fun vs H Q E h => ?_) (fun cdv A outer s H vs Q E hr h => ?_)
  · obtain ⟨a, p, z, tg, m, rfl, fa, pa, ok, tok, si, wd, hz, z1, q⟩ := h
    rfl
  · obtain ⟨a, p, z, tg, m, rfl, fa, pa, ok, tok, si, wd, hz, z1, q⟩ := h
    refine ⟨_, PSs.nox (pss_cons (ps_expr (pe_call (ok_require_cost T) (hr.mono (by decide)) (by rfl) T.g_require_cost T.F_require_cost.kp (b_require_cost T) .nil pass0 (pa_cons (pv 0) (pa_cons (pv 1) (pa_cons (pv 2) pa_nil)))))
      (pss_one (ps_ret (pe_call (ok_cost_in T) (hr.mono (by decide)) (by rfl) T.g_cost_in T.F_cost_in.kp (b_cost_in T) .nil pass0 (pa_cons (pe_make T.mk_Steps (ok_Steps_init T) (hr.mono (by decide)) (by rfl) T.g_Steps (b_Steps_init T) .nil pass0 (pa_cons (pv 1) (pa_cons (pv 2) pa_nil))) (pa_cons (pv 0) pa_nil)))))), ?_⟩
    refine ⟨_, rfl, _, rfl, _, rfl, a, p, z, tg, m, rfl, fa, pa, ok, tok, si, wd, hz, z1, fun H1 s1 => ?_⟩
    refine ⟨_, rfl, _, rfl, fun st dx hst hdx nds => ?_⟩
    have sc : Same H1 (upd (upd H1 dx (.own st)) st (.ins T.C_Steps dx [])) := (same_upd hdx).trans (same_upd (by rw [upd_ne nds.symm]; exact hst))
    refine ⟨H1, st, dx, a, p, tg, m, rfl, sc, hst, hdx, nds, upd_same, ⟨_, by rw [upd_ne nds]; exact upd_same⟩, fa.keep (keep_of s1), pa.keep (keep_of s1), ok, tok, si, fun H3 M s3 sa cx => ⟨rfl, ?_⟩⟩
    exact ⟨_, rfl, st, z, tg, _, M, rfl, sa, cx, hz, z1, fun H4 k r s4 ro e => q H4 k r M ((s1.trans s3).trans s4) cx ro e⟩
end K7
end

section
set_option Elab.async false
set_option linter.all false
set_option maxRecDepth 100000
end

section
set_option Elab.async false
set_option linter.all false
set_option maxRecDepth 100000
namespace K7
open PySem PySem.Spec PyProof.Rows L2 SlX
/-! The walk: useful states. -/
def stepU (tg : MachS) (F : Nat → Bool) (t : Nat) : Bool := F t || (succs tg t).any F
def blF (bs : List Bool) (t : Nat) : Bool := bs.getD t false
theorem cnt_le (bs : List Bool) : cntB bs ≤ bs.length := List.countP_le_length
theorem cnt_mono : ∀ {xs ys : List Bool}, xs.length = ys.length → (∀ i, blF xs i = true → blF ys i = true) → cntB xs ≤ cntB ys
  | [], [], _, _ => Nat.le_refl _
  | [], _ :: _, h, _ => by simp at h
  | _ :: _, [], h, _ => by simp at h
  | x :: xs, y :: ys, h, m => by
    have ih := cnt_mono (xs := xs) (ys := ys) (by simpa using h) fun i hi => m (i + 1) hi
    have h0 := m 0
    unfold cntB at ih ⊢
    rw [List.countP_cons, List.countP_cons]
    have h0 : x = true → y = true := h0
    cases x <;> cases y <;> simp at h0 ⊢ <;> omega
theorem cnt_eq : ∀ {xs ys : List Bool}, xs.length = ys.length → (∀ i, blF xs i = true → blF ys i = true) → cntB ys ≤ cntB xs → xs = ys
  | [], [], _, _, _ => rfl
  | [], _ :: _, h, _, _ => by simp at h
  | _ :: _, [], h, _, _ => by simp at h
  | x :: xs, y :: ys, h, m, le => by
    have hl : xs.length = ys.length := by simpa using h
    have mt : ∀ i, blF xs i = true → blF ys i = true := fun i hi => m (i + 1) hi
    have c := cnt_mono hl mt
    have h0 : x = true → y = true := m 0
    unfold cntB at c le
    rw [List.countP_cons, List.countP_cons] at le
    have ex : x = y := by
      cases x <;> cases y <;> simp at h0 le ⊢
      omega
    subst ex
    rw [cnt_eq hl mt (by unfold cntB; omega)]
theorem blF_at {bs : List Bool} {t : Nat} (h : t < bs.length) : bs[t]? = some (blF bs t) := by
  unfold blF
  rw [List.getD_eq_getElem?_getD, List.getElem?_eq_getElem h]
  rfl
theorem useful_len {tg : MachS} (asc : ∀ row ∈ tg, Asc (row.1.map (·.1))) {row : List (Str × Nat) × Bool} (h : row ∈ tg) : row.1.length ≤ 5 := by
  have := (asc row h).len5
  rwa [List.length_map] at this
/-! ### useful_states -/
def sp_useful_states {K : PySem.W.Frag} {mg : Str → Option Value} (T : Txt K mg) : Sp := fun vs H Q _ => ∃ (lm ll : Addr) (tg : MachS), vs = [.ref lm, .ref ll] ∧ MvsAt H lm tg ∧ H ll = some (.lst ((tg.map (·.2)).map V.bl)) ∧ Useful tg ∧ tg.length ≤ 6 ∧ (∀ row ∈ tg, Asc (row.1.map (·.1))) ∧ ∀ H' p, Same H H' → H' p = some (.lst ((List.replicate tg.length true).map V.bl)) → Q (.ref p) H'
set_option maxHeartbeats 4000000 in
theorem ok_useful_states {P : Program} {w : World} {K : PySem.W.Frag} {mg : Str → Option Value} {base : Heap} (T : Txt K mg) : FnOk P w K mg base CX0 1 T.a_useful_states T.d_useful_states ["moves", "lasts"] (sp_useful_states T) := by
  refine T.F_useful_states.ok sc_useful_states (fun vs H Q E h => ?_) (fun cdv A outer s H vs Q E hr h => ?_)
  · obtain ⟨lm, ll, tg, rfl, ⟨ds, d1, d2, d3⟩, hl, us, h6, asc, q⟩ := h
    rfl
  · obtain ⟨lm, ll, tg, rfl, ⟨ds, d1, d2, d3⟩, hl, us, h6, asc, q⟩ := h
    refine ⟨_, PSs.nox (pss_cons (ps_asg (pe_tup (pa_cons (pe_callTy (call_listK K) (by rfl) T.n_list (by decide +kernel) (pa_cons (pv 1) pa_nil)) (pa_cons pe_int pa_nil))) (pg_tupK K (n := 2) rfl (pgs_cons (pg_name (i := 2) sc_useful_states.nd rfl (by first | exact .inl rfl | exact .inr rfl)) (pgs_cons (pg_name (i := 3) sc_useful_states.nd rfl (by first | exact .inl rfl | exact .inr rfl)) pgs_nil))))
      (pss_cons (ps_while PassesOwn.never (pt_cmpR op_lt (pv 3) (pe_callB (cr_sumBK K rfl) (by rfl) T.n_sum (by decide +kernel) (pa_cons (pv 2) pa_nil)) (nomark _)) (pss_cons (ps_set (i := 3) sc_useful_states.nd rfl (by first | exact .inl rfl | exact .inr rfl) (pe_callB (cr_sumBK K rfl) (by rfl) T.n_sum (by decide +kernel) (pa_cons (pv 2) pa_nil)))
      (pss_one (ps_set (i := 2) sc_useful_states.nd rfl (by first | exact .inl rfl | exact .inr rfl) (pe_lc (own := [("last", 4), ("row", 5)]) rfl sc_useful_states.nd (pi_zipK K (by rfl) T.n_zip (pa_cons (pv 2) (pa_cons (pv 0) pa_nil))) (blkOk_by (own := [("last", 4), ("row", 5)]) (N := n_useful_states) (sc := defScope s_useful_states) (by decide +kernel)) (fun _ _ _ _ _ => (pg_tupK K (n := 2) rfl (pgs_cons (pg_name (i := 4) sc_useful_states.nd rfl (by first | exact .inl rfl | exact .inr rfl)) (pgs_cons (pg_name (i := 5) sc_useful_states.nd rfl (by first | exact .inl rfl | exact .inr rfl)) pgs_nil)))) (fun _ _ _ _ _ => pts_nil) (fun _ _ _ _ _ => (pe_or (pv 4) (pe_one (pe_callB (cr_anyK K rfl) (by rfl) T.n_any (by decide +kernel) (pa_cons (pe_lock (pe_lc (own := [("to", 6)]) rfl sc_useful_states.nd (pi_values (pv 5)) (blkOk_by (own := [("to", 6)]) (N := n_useful_states) (by kernel_rfl)) (fun _ _ _ _ _ => (pg_name (i := 6) sc_useful_states.nd rfl (by first | exact .inl rfl | exact .inr rfl))) (fun _ _ _ _ _ => pts_nil) (fun _ _ _ _ _ => (pe_ix (ix_listK K) (pv 2) (pv 6) (fun _ _ => rfl))))) pa_nil))))))))))
      (pss_one (ps_ret (pv 2))))), ?_⟩
    have n1 := us.pos
    refine ⟨_, rfl, ll, _, rfl, .inl (sq hl), fun F0 hF0 => ?_⟩
    have e0 : ∀ t, t < tg.length → lastOf tg t = true → blF (tg.map (·.2)) t = true := fun t ht h => by
      obtain ⟨row, hrow⟩ := getE_of ht
      have hl := lastOf_at hrow
      unfold blF
      rw [List.getD_eq_getElem?_getD, List.getElem?_map, hrow]
      rw [hl] at h
      exact h
    have hF1 : (upd H F0 (.lst ((tg.map (·.2)).map V.bl))) F0 = some (.lst ((tg.map (·.2)).map V.bl)) := upd_same
    have s1 : Same H (upd H F0 (.lst ((tg.map (·.2)).map V.bl))) := same_upd hF0
    generalize upd H F0 (.lst ((tg.map (·.2)).map V.bl)) = H1 at s1 hF1 ⊢
    refine ⟨szle (by simp), fun t ht => ?_⟩
    have s2 := s1.trans (same_upd (o := .tup [.ref F0, .int 0]) ht)
    have hF2 := same_upd (o := .tup [.ref F0, .int 0]) ht _ _ hF1
    have ht2 : (upd H1 t (.tup [.ref F0, .int 0])) t = some (.tup [.ref F0, .int 0]) := upd_same
    generalize upd H1 t (.tup [.ref F0, .int 0]) = H2 at s2 hF2 ht2
    refine ⟨t, _, rfl, sqt ht2, rfl, _, _, rfl, _, _, rfl, rfl, ?_⟩
    refine ⟨fun m σ H3 => ∃ (F : Addr) (bs : List Bool) (k : Nat) (y4 y5 y6 : Option V), m = 10 - k ∧ σ = [some (.ref lm), some (.ref ll), some (.ref F), some (.int (k : Nat)), y4, y5, y6] ∧ Same H H3 ∧ H3 F = some (.lst (bs.map V.bl)) ∧ bs.length = tg.length ∧
      (∀ t, t < tg.length → lastOf tg t = true → blF bs t = true) ∧ k ≤ 6 ∧ (k = 0 ∨ ∃ bs0 : List Bool, bs0.length = tg.length ∧ k = cntB bs0 ∧ ∀ t, t < tg.length → blF bs t = stepU tg (blF bs0) t), ⟨10, F0, tg.map (·.2), 0, none, none, none, rfl, rfl, s2, hF2, by simp, e0, by omega, .inl rfl⟩, ?_⟩
    rintro m σ H3 ⟨F, bs, k, y4, y5, y6, rfl, rfl, s3, hF3, hb, hla, k6, hk⟩
    refine ⟨_, rfl, _, rfl, F, bs, rfl, sq hF3, by omega, _, _, rfl, rfl, _, rfl, ?_⟩
    have c6 := cnt_le bs
    refine ite2 (fun c => ?_) (fun c => ?_)
    · have c' : k < cntB bs := by simpa using c
      refine ⟨_, fun _ _ h => h, ?_⟩
      refine ⟨_, rfl, F, bs, rfl, sq hF3, by omega, ?_⟩
      refine ⟨_, rfl, _, rfl, F, lm, _, _, rfl, .inl ⟨sq hF3, sq (s3 _ _ d1), fun D hD => ?_⟩⟩
      refine lc_wk (Wk.zip (by rw [List.length_map, List.length_map, hb, d2])) hD (fun i l _ => l = ((List.range i).map fun t => V.bl (stepU tg (blF bs) t))) off_pure rfl (fun _ s => ⟨s.seq (sq hF3), s.seq (sq (s3 _ _ d1))⟩) ?_ ?_
      · rintro i l y H4 H5 hi sm4 hl4 hz4 e4 ⟨u, x, z, rfl, nu, rfl, e1, e2⟩
        rw [List.length_map, hb] at hi
        obtain ⟨row, hrow⟩ := getE_of hi
        obtain ⟨d, g1, g2⟩ := d3 i row hrow
        obtain rfl : z = .ref d := by
          rw [List.getElem?_map, g1] at e2
          exact (Option.some.inj e2).symm
        obtain rfl : x = .bl (blF bs i) := by
          rw [List.getElem?_map, blF_at (by omega)] at e1
          exact (Option.some.inj e1).symm
        refine ⟨u, _, rfl, sqt upd_same, rfl, _, _, rfl, _, _, rfl, rfl, rfl, yes1 ?_⟩
        have h4d : H4 d = some (.dK (mvD row.1)) := sm4 _ _ (s3 _ _ g2)
        have sq4 : Same H4 (upd H4 u (.tup [.bl (blF bs i), .ref d])) := same_upd nu
        have h5d := sq4 _ _ h4d
        have h5D := sq4 _ _ hl4
        have h5F := sq4 _ _ (sm4 _ _ hF3)
        generalize upd H4 u (.tup [.bl (blF bs i), .ref d]) = H5 at sq4 h5d h5D h5F ⊢
        have put : ∀ H6 b, Same H5 H6 → b = stepU tg (blF bs) i → ∃ acc, H6 D = some (.lst acc) ∧ acc.length < sizeLine ∧ LcP H3 D (fun i l _ => l = ((List.range i).map fun t => V.bl (stepU tg (blF bs) t))) (i + 1) (upd H6 D (.lst (acc ++ [V.bl b]))) := fun H6 b s6 eb => by
          refine lc_put off_pure hD (by omega) ((sm4.trans sq4).trans s6) (s6 _ _ h5D) hz4 ?_
          rw [e4, eb]
          show _ = (List.range (i + 1)).map fun t => V.bl (stepU tg (blF bs) t)
          rw [List.range_succ, List.map_append]
          rfl
        refine ⟨_, rfl, _, rfl, ?_⟩
        refine ite2 (fun c => ?_) (fun c => ?_)
        · exact put _ _ (fun _ _ h => h) (by unfold stepU; rw [c]; rfl)
        · have cf : blF bs i = false := by simpa using c
          refine ⟨d, _, h5d, trivial, fun od => ?_⟩
          have ndF : F ≠ d := fun z => by rw [z, h5d] at h5F; cases h5F
          have sx : SameX d H5 (upd H5 d (.frz od (.dK (mvD row.1)))) := locked
          have hfz : (upd H5 d (.frz od (.dK (mvD row.1)))) d = some (.frz od (.dK (mvD row.1))) := upd_same
          have h6F := sx _ _ ndF h5F
          generalize upd H5 d (.frz od (.dK (mvD row.1))) = H6 at sx hfz h6F ⊢
          refine ⟨_, rfl, d, od, _, rfl, hfz, fun D2 hD2 => ?_⟩
          have as := useful_len asc (List.mem_of_getElem? hrow)
          refine lc_wk Wk.vals hD2 (fun j l _ => l = ((row.1.take j).map fun e => V.bl (blF bs e.2))) off_pure rfl (fun _ s => s _ _ hfz) ?_ ?_
          · rintro j l2 y H7 H8 hj sm7 hl7 hz7 e7 ⟨rfl, k2, e8⟩
            rw [List.length_map] at hj
            obtain ⟨e, he, rfl⟩ : ∃ e : Str × Nat, row.1[j]? = some e ∧ y = .int (e.2 : Nat) := by
              rw [List.getElem?_map] at e8
              cases h : row.1[j]? with
              | none => rw [h] at e8; cases e8
              | some e =>
                rw [h] at e8
                injection e8 with e8
                injection e8 with _ e8
                exact ⟨e, rfl, e8.symm⟩
            have lt : e.2 < bs.length := by
              rw [hb]
              exact us.to i e.2 (by rw [succs_eq, movesOf_at hrow]; exact List.mem_map.mpr ⟨e, List.mem_of_getElem? he, rfl⟩)
            refine ⟨rfl, yes1 ?_⟩
            refine ⟨_, rfl, _, rfl, F, _, _, _, rfl, rfl, sq (sm7 _ _ h6F), atI_ofNat (by rw [List.getElem?_map, blF_at lt]; rfl), ?_⟩
            refine lc_put off_pure hD2 (by omega) sm7 hl7 hz7 ?_
            rw [e7]
            show _ = (row.1.take (j + 1)).map fun e => V.bl (blF bs e.2)
            rw [List.take_add_one, he, List.map_append]
            rfl
          · intro l2 H7 sm7 hl7 hz7 e7
            rw [List.length_map, List.take_of_length_le (Nat.le_refl _)] at e7
            refine ⟨sm7 _ _ hfz, ?_⟩
            have nDd : D2 ≠ d := fun z => by rw [z, hfz] at hD2; cases hD2
            have s8 : Same H5 (upd H7 d (.dK (mvD row.1))) := unlock h5d (sx.trans (Same.x d sm7))
            refine ⟨D2, row.1.map fun e => blF bs e.2, rfl, sq (by rw [upd_ne nDd, hl7, e7, List.map_map]; rfl), ?_⟩
            refine put _ _ s8 ?_
            unfold stepU
            rw [cf, succs_eq, movesOf_at hrow, List.any_map, List.any_map]
            rfl
      · intro l H4 sm4 hl4 hz4 e4
        rw [List.length_map, hb] at e4
        subst e4
        have at1 : ∀ t, t < tg.length → blF ((List.range tg.length).map fun t => stepU tg (blF bs) t) t = stepU tg (blF bs) t := fun t ht => by
          unfold blF
          rw [List.getD_eq_getElem?_getD, List.getElem?_map, List.getElem?_range ht]
          rfl
        refine ⟨10 - cntB bs, by omega, D, (List.range tg.length).map fun t => stepU tg (blF bs) t, cntB bs, _, _, _, rfl, rfl, s3.trans sm4, by rw [hl4, List.map_map]; rfl, by simp, fun t ht h => ?_, by omega, .inr ⟨bs, hb, rfl, at1⟩⟩
        rw [at1 t ht]
        unfold stepU
        rw [hla t ht h]
        rfl
    · have c' : cntB bs ≤ k := by simpa using c
      have all : ∀ t, t < tg.length → blF bs t = true := by
        refine useful_all us hla ?_
        rcases hk with rfl | ⟨bs0, h0, rfl, h1⟩
        · intro t ht u _ hu
          have z : cntB bs = 0 := by omega
          unfold cntB at z
          rw [List.countP_eq_zero] at z
          by_cases lu : u < bs.length
          · have := z (blF bs u) (List.mem_of_getElem? (blF_at lu))
            rw [hu] at this
            exact absurd rfl this
          · unfold blF at hu
            rw [List.getD_eq_getElem?_getD, List.getElem?_eq_none (by omega)] at hu
            cases hu
        · have e : bs0 = bs := cnt_eq (by omega) (fun i hi => by
            by_cases li : i < tg.length
            · rw [h1 i li]
              unfold stepU
              rw [hi]
              rfl
            · unfold blF at hi
              rw [List.getD_eq_getElem?_getD, List.getElem?_eq_none (by omega)] at hi
              cases hi) c'
          subst e
          intro t ht u hu hu2
          rw [h1 t ht]
          unfold stepU
          rw [Bool.or_eq_true]
          exact .inr (List.any_eq_true.mpr ⟨u, hu, hu2⟩)
      have e : bs = List.replicate tg.length true := by
        refine List.ext_getElem (by simp [hb]) fun i h1 h2 => ?_
        have := blF_at h1
        rw [List.getElem?_eq_getElem h1, all i (by omega)] at this
        rw [Option.some.inj this, List.getElem_replicate]
      exact ⟨_, rfl, q _ F s3 (by rw [hF3, e])⟩
end K7
end

section
set_option Elab.async false
set_option linter.all false
set_option maxRecDepth 100000
namespace K7
open PySem PySem.Spec PyProof.Rows L2 SlX
/-! The walk: is a form useful. -/
def LcQ (H1 : Hp) (D : Addr) (R : Nat → Nat → List V → Prop) (i j : Nat) (H : Hp) : Prop := ∃ l, Same H1 H ∧ H D = some (.lst l) ∧ l.length ≤ 10 * i + j ∧ R i j l
theorem lcq_in {J : It} {n : Nat} {S : Hp → Prop} {it : Nat → V → Hp → Hp → Prop} {g : TG} {tt : TT} {te : TE} {vs : List Nat} {σ : L2.St} {H1 H : Hp} {D : Addr} {i : Nat} (k : Wk J n S it) (hn : n ≤ 10)
    (R : Nat → Nat → List V → Prop) (r0 : LcQ H1 D R i 0 H) (hS : ∀ H, Same H1 H → S H)
    (hs : ∀ j l x H H', j < n → Same H1 H → H D = some (.lst l) → l.length ≤ 10 * i + j → R i j l → it j x H H' → g x (wipe σ vs) H' fun σ2 H2 => wipe σ2 vs = wipe σ vs ∧ tt σ2 H2 fun b H3 =>
      if b = true then te σ2 H3 fun y H7 => ∃ acc, H7 D = some (.lst acc) ∧ acc.length < sizeLine ∧ LcQ H1 D R i (j + 1) (upd H7 D (.lst (acc ++ [y]))) else LcQ H1 D R i (j + 1) H3)
    (hd : ∀ l, R i n l → R (i + 1) 0 l) :
    ∃ W : Nat → Nat → Hp → Prop, (∃ m, W 0 m H) ∧ ∀ j m H, W j m H → (J.stop j H ∧ LcQ H1 D R (i + 1) 0 H) ∨ (J.go j H ∧ ∃ Nx : Hp → Prop, (∀ H', Nx H' → ∃ m', m' < m ∧ W (j + 1) m' H') ∧ ∀ x H', J.yld j H x H' → g x (wipe σ vs) H' fun σ2 H2 => wipe σ2 vs = wipe σ vs ∧ tt σ2 H2 fun b H3 =>
      if b = true then te σ2 H3 fun y H7 => ∃ acc, H7 D = some (.lst acc) ∧ acc.length < sizeLine ∧ Nx (upd H7 D (.lst (acc ++ [y]))) else Nx H3) := by
  refine ⟨fun j m H => m = n - j ∧ j ≤ n ∧ LcQ H1 D R i j H, ⟨n, by simp, Nat.zero_le _, r0⟩, ?_⟩
  rintro j m H ⟨rfl, hj, l, sm, hl, hz, r⟩
  have s := hS H sm
  by_cases hlt : j < n
  · exact .inr ⟨k.go j H s hlt, LcQ H1 D R i (j + 1), fun H' p => ⟨n - (j + 1), by omega, rfl, hlt, p⟩, fun x H' y => hs j l x H H' hlt sm hl hz r (k.yld j H x H' s hlt y)⟩
  · have e : j = n := by omega
    subst e
    exact .inl ⟨k.stop H s, l, sm, hl, by omega, hd l r⟩
theorem lcq_put {H1 H4 : Hp} {D : Addr} {R : Nat → Nat → List V → Prop} {i j : Nat} {l : List V} {y : V} (hD : H1 D = none) (hi : 10 * i + j < 100000) (sm : Same H1 H4) (hl : H4 D = some (.lst l)) (hz : l.length ≤ 10 * i + j) (r : R i (j + 1) (l ++ [y])) :
    ∃ acc, H4 D = some (.lst acc) ∧ acc.length < sizeLine ∧ LcQ H1 D R i (j + 1) (upd H4 D (.lst (acc ++ [y]))) :=
  ⟨l, hl, szlt (by omega), l ++ [y], same_mut sm hD, upd_same, by simp; omega, r⟩
/-- what is met behind i whole rows and j moves of the next -/
def metL (tg : MachS) (met : List Nat) (i j : Nat) : List Nat := (met.take i).flatMap (succs tg) ++ ((succs tg (met[i]?.getD 0)).take j)
theorem metL_j {tg : MachS} {met : List Nat} {i j s t : Nat} (hs : met[i]? = some s) (ht : (succs tg s)[j]? = some t) : metL tg met i (j + 1) = metL tg met i j ++ [t] := by
  unfold metL
  rw [hs]
  show _ ++ (succs tg s).take (j + 1) = _ ++ (succs tg s).take j ++ [t]
  rw [List.take_add_one, ht, List.append_assoc]
  rfl
theorem metL_i {tg : MachS} {met : List Nat} {i s : Nat} (hs : met[i]? = some s) : metL tg met i (succs tg s).length = metL tg met (i + 1) 0 := by
  unfold metL
  rw [hs, List.take_add_one, hs]
  show _ ++ (succs tg s).take _ = _
  rw [List.take_of_length_le (Nat.le_refl _), List.flatMap_append]
  simp
theorem metL_all {tg : MachS} {met : List Nat} {x : Nat} : x ∈ metL tg met met.length 0 ↔ ∃ s ∈ met, x ∈ succs tg s := by
  unfold metL
  rw [List.take_of_length_le (Nat.le_refl _)]
  simp
theorem inV_nats {k : Int} {met : List Nat} : inV (.int k) (met.map fun x => V.int (x : Nat)) = decide (k ∈ met.map fun x : Nat => (x : Int)) := by
  unfold inV
  rw [List.any_map]
  rw [Bool.eq_iff_iff, List.any_eq_true, decide_eq_true_eq, List.mem_map]
  constructor
  · rintro ⟨x, hx, e⟩
    exact ⟨x, hx, by simpa [eqV] using e⟩
  · rintro ⟨x, hx, rfl⟩
    exact ⟨x, hx, by simp [eqV]⟩
theorem flat_nats {met : List Nat} : (met.map fun x => V.int (x : Nat)).all flatV = true := by
  rw [List.all_map]
  exact List.all_eq_true.mpr fun _ _ => rfl
/-! ### are_useful -/
def sp_are_useful {K : PySem.W.Frag} {mg : Str → Option Value} (T : Txt K mg) : Sp := fun vs H Q _ => ∃ (lm ll : Addr) (tg : MachS), vs = [.ref lm, .ref ll] ∧ MvsAt H lm tg ∧ H ll = some (.lst ((tg.map (·.2)).map V.bl)) ∧ Useful tg ∧ tg.length ≤ 6 ∧ (∀ row ∈ tg, Asc (row.1.map (·.1))) ∧ ∀ H', Same H H' → Q (.bl true) H'
set_option maxHeartbeats 4000000 in
theorem ok_are_useful {P : Program} {w : World} {K : PySem.W.Frag} {mg : Str → Option Value} {base : Heap} (T : Txt K mg) : FnOk P w K mg base CX0 2 T.a_are_useful T.d_are_useful ["moves", "lasts"] (sp_are_useful T) := by
  refine T.F_are_useful.ok sc_are_useful (fun vs H Q E h => ?_) (fun cdv A outer s H vs Q E hr h => ?_)
  · obtain ⟨lm, ll, tg, rfl, mvs, hl, us, h6, asc, q⟩ := h
    rfl
  · obtain ⟨lm, ll, tg, rfl, mvs, hl, us, h6, asc, q⟩ := h
    refine ⟨_, PSs.nox (pss_cons (ps_set (i := 2) sc_are_useful.nd rfl (by first | exact .inl rfl | exact .inr rfl) (pe_lst (pa_cons pe_int pa_nil)))
      (pss_one (ps_while PassesOwn.never (pt_val pe_bl) (pss_cons (ps_locks (ps_setLc2 (i := 3) (own := [("state", 4), ("to", 5)]) (vs1 := [5]) rfl sc_are_useful.nd rfl rfl (sw_true rfl rfl rfl (by decide +kernel)) (pi_listK K (pv 2)) (blkOk_by (own := [("state", 4), ("to", 5)]) (N := n_are_useful) (sc := defScope s_are_useful) (by decide +kernel)) (by decide) (fun _ _ _ _ _ => (pg_name (i := 4) sc_are_useful.nd rfl (by first | exact .inl rfl | exact .inr rfl))) (fun _ _ _ _ _ => pts_nil) (fun _ _ _ _ _ => (pi_values (pe_ix (ix_listK K) (pv 0) (pv 4) (fun _ _ => rfl)))) (fun _ _ _ _ _ => (pg_name (i := 5) sc_are_useful.nd rfl (by first | exact .inl rfl | exact .inr rfl))) (fun _ _ _ _ _ => pts_nil) (fun _ _ _ _ _ => (pv 5))))
      (pss_cons (ps_setLc (i := 3) (own := [("state", 4)]) rfl sc_are_useful.nd rfl rfl (sw_true rfl rfl rfl (by decide +kernel)) (pi_listK K (pe_callB (cr_sortedSet rfl) (by rfl) T.n_sorted (by decide +kernel) (pa_cons (pe_callTy (cr_setOf K rfl) (by rfl) T.n_set (by decide +kernel) (pa_cons (pv 3) pa_nil)) pa_nil))) (blkOk_by (own := [("state", 4)]) (N := n_are_useful) (sc := defScope s_are_useful) (by decide +kernel)) (fun _ _ _ _ _ => (pg_name (i := 4) sc_are_useful.nd rfl (by first | exact .inl rfl | exact .inr rfl))) (fun _ _ _ _ _ => (pts_one (pt_cmpR (op_notInK K) (pv 4) (pv 2) (by rfl)))) (fun _ _ _ _ _ => (pv 4)))
      (pss_cons (ps_if (pt_cmpR (op_eqDK K hr.units) (pv 3) (pe_lst pa_nil) (nomark _)) (pss_one (ps_ret (pe_and (pe_cmpR op_eq (pe_callB (call_lenK K) (by rfl) T.n_len (by decide +kernel) (pa_cons (pv 2) pa_nil)) (pe_callB (call_lenK K) (by rfl) T.n_len (by decide +kernel) (pa_cons (pv 0) pa_nil)) (nomark _)) (pe_one (pe_callB (cr_allK K rfl) (by rfl) T.n_all (by decide +kernel) (pa_cons (pe_call (ok_useful_states T) (hr.mono (by decide)) (by rfl) T.g_useful_states T.F_useful_states.kp (b_useful_states T) .nil pass0 (pa_cons (pv 0) (pa_cons (pv 1) pa_nil))) pa_nil)))))) pss_nil)
      (pss_one (ps_expr (pe_bmK K PySem.F.plainAttrs_list PySem.F.slot_list_extend PySem.F.type_list_extend mt_extend (pv 2) (pa_cons (pv 3) pa_nil)))))))))), ?_⟩
    obtain ⟨ds, d1, d2, d3⟩ := id mvs
    obtain ⟨ks, k1, k2⟩ := nodup_of ds
    have hk : ∀ d ∈ ks, ∃ (i : Nat) (row : List (Str × Nat) × Bool), tg[i]? = some row ∧ ds[i]? = some d ∧ H d = some (.dK (mvD row.1)) := fun d hd => by
      obtain ⟨i, hi, e⟩ := List.getElem_of_mem ((k2 d).mp hd)
      obtain ⟨row, hrow⟩ := getE_of (xs := tg) (by omega : i < tg.length)
      obtain ⟨d', e1, e2⟩ := d3 i row hrow
      rw [List.getElem?_eq_getElem hi, e] at e1
      obtain rfl := Option.some.inj e1
      exact ⟨i, row, hrow, by rw [List.getElem?_eq_getElem hi, e], e2⟩
    have hoff : ∀ b xs, H b = some (.lst xs) → b ∉ ks := fun b xs e hb => by
      obtain ⟨_, _, _, _, e2⟩ := hk b hb
      rw [e] at e2
      cases e2
    refine ⟨szle (by simp), fun M hM => ?_⟩
    refine ⟨fun m σ H1 => ∃ (M : Addr) (met : List Nat) (y3 y4 y5 : Option V), m = 10 - met.length ∧ σ = [some (.ref lm), some (.ref ll), some (.ref M), y3, y4, y5] ∧ Same H H1 ∧ H M = none ∧ H1 M = some (.lst (met.map fun x => V.int (x : Nat))) ∧ met.Nodup ∧ (∀ x ∈ met, x < tg.length) ∧ 0 ∈ met,
      ⟨9, M, [0], none, none, none, rfl, rfl, same_upd hM, hM, upd_same, by simp, fun x hx => by rw [List.mem_singleton.mp hx]; exact us.pos, List.mem_singleton.mpr rfl⟩, ?_⟩
    rintro m σ H1 ⟨M, met, y3, y4, y5, rfl, rfl, s1, hM0, hM1, nd, hlt, h0⟩
    have ml : met.length ≤ tg.length := nd_len nd hlt
    refine ⟨_, rfl, ?_⟩
    refine ite_of rfl ?_
    refine ⟨_, fun _ _ h => h, ?_⟩
    have eL : (ks.map fun d => (d, (H d).getD (.lst []))).map (·.1) = ks := by rw [List.map_map]; exact (List.map_congr_left fun _ _ => rfl).trans (List.map_id _)
    have nlm : lm ∉ ks := hoff _ _ d1
    have nMk : M ∉ ks := fun z => by
      obtain ⟨_, _, _, _, e2⟩ := hk M z
      rw [hM0] at e2
      cases e2
    refine ⟨_, slocks_of (P := fun v H2 => ∃ D, v = [some (.ref lm), some (.ref ll), some (.ref M), some (.ref D), y4, y5] ∧ H2 D = some (.lst ((metL tg met met.length 0).map fun x => V.int (x : Nat))) ∧ D ∉ ks ∧ (metL tg met met.length 0).length ≤ 60 ∧ H1 D = none) (ks.map fun d => (d, (H d).getD (.lst []))) (by rw [eL]; exact k1) (fun p hp => ?_) ?_ ?_⟩
    · obtain ⟨d, hd, rfl⟩ := List.mem_map.mp hp
      obtain ⟨_, _, _, _, e2⟩ := hk d hd
      show H1 d = some ((H d).getD _) ∧ Mut (some ((H d).getD _))
      rw [e2]
      exact ⟨s1 _ _ e2, trivial⟩
    · rw [eL]
      intro H' D' lk kp qq
      have lk' : ∀ (i : Nat) (row : List (Str × Nat) × Bool) (d : Addr), tg[i]? = some row → ds[i]? = some d → ∃ od, H' d = some (.frz od (.dK (mvD row.1))) := fun i row d e1 e2 => by
        obtain ⟨d', g1, g2⟩ := d3 i row e1
        rw [e2] at g1
        obtain rfl := Option.some.inj g1
        obtain ⟨od, z⟩ := lk (d, (H d).getD (.lst [])) (List.mem_map.mpr ⟨d, (k2 d).mpr (List.mem_of_getElem? e2), rfl⟩)
        rw [g2] at z
        exact ⟨od, z⟩
      have hlm := kp _ _ nlm (s1 _ _ d1)
      have hM' := kp _ _ nMk hM1
      refine ⟨_, rfl, _, rfl, ⟨_, sq hM'⟩, fun D hD => ?_⟩
      have lenR : ∀ {s : Nat} {row : List (Str × Nat) × Bool}, tg[s]? = some row → succs tg s = row.1.map (·.2) := fun {s row} h => by rw [succs_eq, movesOf_at h]
      have nDk : D ∉ ks := fun z => by
        obtain ⟨i, row, e1, e2, _⟩ := hk D z
        obtain ⟨od, e3⟩ := lk' i row D e1 e2
        rw [hD] at e3
        cases e3
      have hD1 : H1 D = none := by
        cases e : H1 D with
        | none => rfl
        | some o => rw [kp _ _ nDk e] at hD; cases hD
      refine ⟨fun i m H2 => m = met.length - i ∧ i ≤ met.length ∧ LcQ H' D (fun i j l => l = (metL tg met i j).map fun x => V.int (x : Nat)) i 0 H2,
        ⟨met.length, by simp, Nat.zero_le _, [], same_upd hD, upd_same, Nat.le_refl _, by show [] = List.map _ (metL tg met 0 0); simp [metL]⟩, ?_⟩
      rintro i m H5 ⟨rfl, hi, st⟩
      obtain ⟨l5, sm5, hl5, hz5, r5⟩ := id st
      have hM5 := sm5 _ _ hM'
      have wk := Wk.list (K := K) (a := M) (xs := met.map fun x => V.int (x : Nat))
      by_cases hlt2 : i < met.length
      · refine .inr ⟨wk.go i H5 (sq hM5) (by rw [List.length_map]; exact hlt2), LcQ H' D (fun i j l => l = (metL tg met i j).map fun x => V.int (x : Nat)) (i + 1) 0, fun H' p => ⟨met.length - (i + 1), by omega, rfl, hlt2, p⟩, fun y H6 yl => ?_⟩
        obtain ⟨rfl, hy⟩ := wk.yld i H5 y H6 (sq hM5) (by rw [List.length_map]; exact hlt2) yl
        obtain ⟨s, hs⟩ := getE_of hlt2
        obtain rfl : y = .int (s : Nat) := by
          rw [List.getElem?_map, hs] at hy
          exact (Option.some.inj hy).symm
        have slt := hlt s (List.mem_of_getElem? hs)
        obtain ⟨row, hrow⟩ := getE_of slt
        obtain ⟨d, g1, g2⟩ := d3 s row hrow
        obtain ⟨od, hfz⟩ := lk' s row d hrow g1
        have l5 := useful_len asc (List.mem_of_getElem? hrow)
        refine ⟨rfl, yesI ?_⟩
        refine ⟨_, rfl, _, rfl, lm, _, _, _, rfl, rfl, sq (sm5 _ _ hlm), atI_ofNat (by rw [List.getElem?_map, g1]; rfl), d, od, _, rfl, sm5 _ _ hfz, ?_⟩
        refine lcq_in (n := (mvD row.1).length) Wk.vals (by rw [List.length_map]; omega) (fun i j l => l = (metL tg met i j).map fun x => V.int (x : Nat)) st (fun _ s => s _ _ hfz) ?_ (fun l r => ?_)
        · rintro j l z H8 H9 hj sm hl hz r ⟨rfl, k2, e8⟩
          rw [List.length_map] at hj
          obtain ⟨e, he, rfl⟩ : ∃ e : Str × Nat, row.1[j]? = some e ∧ z = .int (e.2 : Nat) := by
            rw [List.getElem?_map] at e8
            cases h : row.1[j]? with
            | none => rw [h] at e8; cases e8
            | some e =>
              rw [h] at e8
              injection e8 with e8
              injection e8 with _ e8
              exact ⟨e, rfl, e8.symm⟩
          refine ⟨rfl, yes1 ?_⟩
          refine ⟨_, rfl, ?_⟩
          refine lcq_put hD (by omega) sm hl hz ?_
          show _ = (metL tg met i (j + 1)).map fun x => V.int (x : Nat)
          rw [metL_j hs (t := e.2) (by rw [lenR hrow, List.getElem?_map, he]; rfl), List.map_append, ← r]
          rfl
        · have r : l = (metL tg met i (mvD row.1).length).map fun x => V.int (x : Nat) := r
          show l = (metL tg met (i + 1) 0).map fun x => V.int (x : Nat)
          rw [← metL_i hs, lenR hrow, List.length_map]
          rw [List.length_map] at r
          exact r
      · have e : i = met.length := by omega
        subst e
        have stp := wk.stop H5 (sq hM5)
        rw [List.length_map] at stp
        have r5 : l5 = (metL tg met met.length 0).map fun x => V.int (x : Nat) := r5
        have z5 : (metL tg met met.length 0).length ≤ 60 := by
          have := congrArg List.length r5
          rw [List.length_map] at this
          omega
        exact .inl ⟨stp, qq _ _ sm5 ⟨D, rfl, by rw [← r5]; exact hl5, nDk, z5, hD1⟩⟩
    · rintro v H2 H3 ⟨D, rfl, h2, nD, l60, hD1⟩ sm ag
      rw [eL] at ag
      have hD3 := ag _ _ nD h2
      have s3 := s1.trans sm
      have hM3 := sm _ _ hM1
      -- more = [state for state in sorted(set(more)) if state not in met]
      refine ⟨_, rfl, D, (metL tg met met.length 0).map fun x : Nat => (x : Int), rfl, sq (by rw [List.map_map]; exact hD3), by rw [List.length_map]; exact l60, fun p S n hp hS hn => ?_⟩
      rw [List.length_map] at hn
      refine ⟨p, S, n, rfl, upd_same, by omega, fun ns p2 pw hns hnl hp2 => ?_⟩
      have s4 := (s3.trans (same_upd (o := SetO w p S n) hp)).trans (same_upd (o := .lst (ns.map V.int)) hp2)
      have hM4 := same_upd (o := .lst (ns.map V.int)) hp2 _ _ (same_upd (o := SetO w p S n) hp _ _ hM3)
      have hp25 : (upd (upd H3 p (SetO w p S n)) p2 (.lst (ns.map V.int))) p2 = some (.lst (ns.map V.int)) := upd_same
      refine ⟨p2, rfl, ⟨_, sq hp25⟩, fun D2 hD2 => ?_⟩
      have n60 : ns.length ≤ 60 := by omega
      refine lc_wk Wk.list hD2 (fun i l _ => l = ((ns.take i).filter fun k => !decide (k ∈ met.map fun x : Nat => (x : Int))).map V.int) off_pure rfl (fun _ s => s.seq (sq hp25)) ?_ ?_
      · rintro i l y H6 H7 hi sm6 hl6 hz6 r6 ⟨rfl, hy⟩
        rw [List.length_map] at hi
        obtain ⟨k, hk', rfl⟩ := ints_at hy
        refine ⟨rfl, ?_⟩
        refine ⟨_, rfl, _, rfl, M, _, rfl, .inl (sq (sm6 _ _ hM4)), rfl, flat_nats, _, rfl, ?_⟩
        show if (!inV (.int k) (met.map fun x => V.int (x : Nat))) = true then _ else _
        rw [inV_nats]
        have tk : (ns.take (i + 1)).filter (fun k => !decide (k ∈ met.map fun x : Nat => (x : Int))) = (ns.take i).filter (fun k => !decide (k ∈ met.map fun x : Nat => (x : Int))) ++ (if (!decide (k ∈ met.map fun x : Nat => (x : Int))) = true then [k] else []) := by
          rw [List.take_add_one, hk', Option.toList_some, List.filter_append]
          congr 1
          rw [List.filter_cons, List.filter_nil]
        refine ite2 (fun c => ?_) (fun c => ?_)
        · rw [if_pos c] at tk
          refine ⟨_, rfl, lc_put off_pure hD2 (by omega) sm6 hl6 hz6 ?_⟩
          show _ = ((ns.take (i + 1)).filter fun k => !decide (k ∈ met.map fun x : Nat => (x : Int))).map V.int
          rw [r6, tk, List.map_append]
          rfl
        · rw [if_neg c, List.append_nil] at tk
          refine ⟨l, sm6, hl6, by omega, ?_⟩
          show _ = ((ns.take (i + 1)).filter fun k => !decide (k ∈ met.map fun x : Nat => (x : Int))).map V.int
          rw [r6, tk]
      · intro l H6 sm6 hl6 hz6 r6
        rw [List.length_map, List.take_of_length_le (Nat.le_refl _)] at r6
        subst r6
        have s6 := s4.trans sm6
        have hM6 := sm6 _ _ hM4
        -- the new ones
        have hfm : ∀ k, k ∈ ns.filter (fun k => !decide (k ∈ met.map fun x : Nat => (x : Int))) ↔ ∃ x : Nat, k = (x : Int) ∧ x ∉ met ∧ ∃ s ∈ met, x ∈ succs tg s := fun k => by
          rw [List.mem_filter, hns, hS]
          constructor
          · rintro ⟨h1, h2⟩
            obtain ⟨x, hx, rfl⟩ := List.mem_map.mp h1
            refine ⟨x, rfl, fun z => ?_, metL_all.mp hx⟩
            have : ((x : Nat) : Int) ∈ met.map fun x : Nat => (x : Int) := List.mem_map.mpr ⟨x, z, rfl⟩
            rw [decide_eq_true this] at h2
            cases h2
          · rintro ⟨x, rfl, h1, h2⟩
            refine ⟨List.mem_map.mpr ⟨x, metL_all.mpr h2, rfl⟩, ?_⟩
            rw [decide_eq_false (fun z => ?_)]
            · rfl
            · obtain ⟨u, hu, e⟩ := List.mem_map.mp z
              have : u = x := by omega
              exact h1 (this ▸ hu)
        have hfn : (ns.filter fun k => !decide (k ∈ met.map fun x : Nat => (x : Int))).Nodup := (List.Pairwise.imp (fun {a b} (h : a < b) => by omega) pw : ns.Pairwise (· ≠ ·)).filter _
        generalize ns.filter (fun k => !decide (k ∈ met.map fun x : Nat => (x : Int))) = nw at hfm hfn hl6
        refine ⟨_, rfl, szle (by simp), fun e0 he0 => ?_⟩
        refine ⟨.list (nw.map PyData.int), .list [], .lst (sq (same_upd he0 _ _ hl6)) (dp_ints _), .lst (sq upd_same) .nil, (shaped_ints _).1, rfl, _, rfl, ?_⟩
        have s7 := s6.trans (same_upd (o := .lst []) he0)
        have hM7 := same_upd (o := .lst []) he0 _ _ hM6
        have hl7 := same_upd (o := .lst []) he0 _ _ hl6
        generalize upd H6 e0 (.lst []) = H7 at s7 hM7 hl7 ⊢
        cases hnw : nw with
        | nil =>
          subst hnw
          refine ite_of rfl ?_
          have clo : Clo tg met := fun s hs t ht => by
            by_cases c : t ∈ met
            · exact c
            · exact absurd ((hfm (t : Nat)).mpr ⟨t, rfl, c, s, hs, ht⟩) (by simp)
          have el := met_all us nd hlt h0 clo
          refine ⟨_, rfl, M, _, rfl, .inl (sq hM7), _, rfl, lm, _, rfl, .inl (sq (s7 _ _ d1)), rfl, _, rfl, ?_⟩
          refine ite_of (decide_eq_true (by rw [List.length_map, List.length_map, d2, el])) ?_
          refine ⟨_, rfl, _, rfl, lm, ll, tg, rfl, mvs.keep (keep_of s7), s7 _ _ hl, us, h6, asc, fun H8 p8 s8 h8 => ?_⟩
          refine ⟨p8, _, rfl, sq h8, ?_⟩
          refine bl_of ?_ (q H8 (s7.trans s8))
          exact List.all_eq_true.mpr fun b hb => (List.mem_replicate.mp hb).2
        | cons k0 kr =>
          refine ite_no (by rw [List.map_cons]; rfl) ?_
          have enw : nw = (nw.map Int.toNat).map fun x : Nat => (x : Int) := by
            rw [List.map_map]
            refine ((List.map_congr_left fun k hk => ?_).trans (List.map_id _)).symm
            obtain ⟨x, rfl, _⟩ := (hfm k).mp hk
            rfl
          have hne : 0 < (nw.map Int.toNat).length := by rw [List.length_map, hnw]; simp
          generalize nw.map Int.toNat = nn at enw hne
          subst enw
          have hfx : ∀ x, x ∈ nn → x ∉ met ∧ ∃ s ∈ met, x ∈ succs tg s := fun x hx => by
            obtain ⟨y, e, h⟩ := (hfm (x : Nat)).mp (List.mem_map.mpr ⟨x, hx, rfl⟩)
            have : x = y := by omega
            subst this
            exact h
          have nnd : nn.Nodup := by
            have h := List.pairwise_map.mp hfn
            exact h.imp fun {a b} z => fun e => z (by rw [e])
          have hlt' : ∀ x ∈ met ++ nn, x < tg.length := fun x hx => by
            rcases List.mem_append.mp hx with h | h
            · exact hlt x h
            · obtain ⟨_, s, hs, ht⟩ := hfx x h
              exact us.to s x ht
          have nd' : (met ++ nn).Nodup := by
            rw [List.nodup_append]
            refine ⟨nd, nnd, fun a ha b hb e => ?_⟩
            subst e
            exact (hfx a hb).1 ha
          have ml' : (met ++ nn).length ≤ tg.length := nd_len nd' hlt'
          rw [List.length_append] at ml'
          refine ⟨_, rfl, .inl ⟨rfl, _, sq hM7⟩, _, rfl, M, D2, _, _, rfl, rfl, hM7, hl7, szle (by simp; omega), ?_⟩
          refine ⟨10 - (met ++ nn).length, by rw [List.length_append]; omega, M, met ++ nn, _, _, _, rfl, rfl, same_mut s7 hM0, hM0, ?_, nd', hlt', List.mem_append.mpr (.inl h0)⟩
          rw [upd_same, List.map_append, List.map_map]
          rfl
end K7
end

section
set_option Elab.async false
set_option linter.all false
set_option maxRecDepth 100000
namespace K7
open PySem PySem.Spec PyProof.Rows L2 SlX
/-! The walk: a form is made. -/
theorem mvD_put {row : List (Str × Nat)} (hn : (row.map (·.1)).Nodup) {i : Nat} {e : Str × Nat} (he : row[i]? = some e) : putK (mvD (row.take i)) (Sum.inr e.1) (.int (e.2 : Nat)) = mvD (row.take (i + 1)) := by
  have hi : i < row.length := (List.getElem?_eq_some_iff.mp he).1
  have nx : valV (mvD (row.take i)) (Sum.inr e.1) = none := by
    cases h : valV (mvD (row.take i)) (Sum.inr e.1) with
    | none => rfl
    | some v =>
      have a : (valV (mvD (row.take i)) (Sum.inr e.1)).isSome = true := by rw [h]; rfl
      rw [← valV_any] at a
      obtain ⟨kv, h1, h2⟩ := List.any_eq_true.mp a
      obtain ⟨e2, h3, rfl⟩ := List.mem_map.mp h1
      obtain ⟨j, hj, ej⟩ := List.getElem_of_mem h3
      rw [List.length_take] at hj
      rw [List.getElem_take] at ej
      have e1 : e2.1 = e.1 := Sum.inr.inj (of_decide_eq_true h2)
      have : (row.map (·.1))[j]? = (row.map (·.1))[i]? := by
        rw [List.getElem?_map, List.getElem?_map, he, List.getElem?_eq_getElem (by omega), ej]
        exact congrArg some e1
      have := (List.getElem?_inj (by rw [List.length_map]; omega : j < (row.map (·.1)).length) hn).mp this
      omega
  rw [putK_new _ nx, List.take_add_one, he, Option.toList_some]
  unfold mvD
  rw [List.map_append]
  rfl
theorem mvD_at {row : List (Str × Nat)} {j : Nat} {k : Key} {v : V} (h : (mvD row)[j]? = some (k, v)) : ∃ e : Str × Nat, row[j]? = some e ∧ k = Sum.inr e.1 ∧ v = .int (e.2 : Nat) := by
  rw [List.getElem?_map] at h
  cases e : row[j]? with
  | none => rw [e] at h; cases h
  | some e1 =>
    rw [e] at h
    injection h with h
    injection h with h1 h2
    exact ⟨e1, rfl, h1.symm, h2.symm⟩
/-! ### in_order -/
def sp_in_order {K : PySem.W.Frag} {mg : Str → Option Value} (T : Txt K mg) : Sp := fun vs H Q _ => ∃ (d : Addr) (row : List (Str × Nat)), vs = [.ref d] ∧ H d = some (.dK (mvD row)) ∧ Asc (row.map (·.1)) ∧ ∀ H' p, Same H H' → H p = none → H' p = some (.dK (mvD row)) → Q (.ref p) H'
set_option maxHeartbeats 4000000 in
theorem ok_in_order {P : Program} {w : World} {K : PySem.W.Frag} {mg : Str → Option Value} {base : Heap} (T : Txt K mg) : FnOk P w K mg base CX0 1 T.a_in_order T.d_in_order ["moves"] (sp_in_order T) := by
  refine T.F_in_order.ok sc_in_order (fun vs H Q E h => ?_) (fun cdv A outer s H vs Q E hr h => ?_)
  · obtain ⟨d, row, rfl, hd, asc, q⟩ := h
    rfl
  · obtain ⟨d, row, rfl, hd, asc, q⟩ := h
    refine ⟨_, PSs.nox (pss_one (ps_ret (pe_dc (own := [("sign", 1)]) rfl sc_in_order.nd (pi_listK K (pe_callB (call_sortedD rfl) (by rfl) T.n_sorted (by decide +kernel) (pa_cons (pv 0) pa_nil))) (blkOk_by (own := [("sign", 1)]) (N := n_in_order) (sc := defScope s_in_order) (by decide +kernel)) (fun _ _ _ _ _ => (pg_name (i := 1) sc_in_order.nd rfl (by first | exact .inl rfl | exact .inr rfl))) (fun _ _ _ _ _ => pts_nil) (fun _ _ _ _ _ => (pv 1)) (fun _ _ _ _ _ => (pe_dget (hu_of hr) (pv 0) (pv 1) (fun _ _ => rfl)))))), ?_⟩
    have l5 := asc.len5
    rw [List.length_map] at l5
    refine ⟨_, rfl, d, _, row.map (·.1), rfl, .inl hd, by rw [List.map_map, List.map_map]; rfl, by rw [List.length_map]; omega, fun ys p pm srt hp => ?_⟩
    obtain rfl := asc.sorted pm srt
    have s1 := same_upd (o := .lst ((row.map (·.1)).map V.str)) hp
    refine ⟨p, rfl, ⟨_, sq upd_same⟩, fun D hD => ?_⟩
    refine dc_wk Wk.list hD (fun i l => l = mvD (row.take i)) rfl (fun _ s => s.seq (sq upd_same)) ?_ ?_
    · rintro i l y H3 H4 hi sm hl hz e ⟨rfl, hy⟩
      rw [List.length_map, List.length_map] at hi
      obtain ⟨x, hx, rfl⟩ := strs_at hy
      obtain ⟨e1, he⟩ := getE_of hi
      obtain rfl : x = e1.1 := by
        rw [List.getElem?_map, he] at hx
        exact (Option.some.inj hx).symm
      refine ⟨rfl, yes2 ?_⟩
      refine ⟨_, rfl, _, rfl, _, rfl, d, .int (e1.2 : Nat), rfl, .inl ⟨_, .inr e1.1, .inl (sm _ _ (s1 _ _ hd)), rfl, (valV_mvD asc.nodup he).symm⟩, ?_⟩
      refine dc_put (k := .inr e1.1) hD (by omega) sm hl hz ?_
      show _ = mvD (row.take (i + 1))
      rw [e]
      exact mvD_put asc.nodup he
    · intro l H3 sm hl hz e
      rw [List.length_map, List.length_map, List.take_of_length_le (Nat.le_refl _)] at e
      exact q H3 D (s1.trans sm) (s1.free hD) (by rw [hl, e])
/-! ### is_state -/
def sp_is_state {K : PySem.W.Frag} {mg : Str → Option Value} (T : Txt K mg) : Sp := fun vs H Q _ => ∃ (r d : Addr) (row : List (Str × Nat) × Bool) (n : Nat), vs = [.ref r, .int (n : Nat)] ∧ H r = some (.tup [.ref d, .bl row.2]) ∧ H d = some (.dK (mvD row.1)) ∧ Asc (row.1.map (·.1)) ∧ (∀ e ∈ row.1, e.2 < n) ∧ n ≤ 6 ∧ ∀ H', Same H H' → Q (.bl true) H'
set_option maxHeartbeats 4000000 in
theorem ok_is_state {P : Program} {w : World} {K : PySem.W.Frag} {mg : Str → Option Value} {base : Heap} (T : Txt K mg) : FnOk P w K mg base CX0 2 T.a_is_state T.d_is_state ["value", "many"] (sp_is_state T) := by
  refine T.F_is_state.ok sc_is_state (fun vs H Q E h => ?_) (fun cdv A outer s H vs Q E hr h => ?_)
  · obtain ⟨r, d, row, n, rfl, hr1, hd, asc, hn, n6, q⟩ := h
    rfl
  · obtain ⟨r, d, row, n, rfl, hr1, hd, asc, hn, n6, q⟩ := h
    refine ⟨_, PSs.nox (pss_cons (ps_if (PW.pt (pw_or (pt_not (pt_val (pe_callB (call_isiK2 K) (by rfl) T.n_isinstance (by decide +kernel) (pa_cons (pv 0) (pa_cons (pe_bltn (v := .ty "tuple") (by rfl) T.n_tuple (by decide +kernel) rfl) pa_nil))))) (pw_or1 (pt_cmpR op_ne (pe_callB (call_lenK K) (by rfl) T.n_len (by decide +kernel) (pa_cons (pv 0) pa_nil)) pe_int (nomark _))))) (pss_one (ps_ret pe_bl)) pss_nil)
      (pss_cons (ps_asg (pv 0) (pg_tupK K (n := 2) rfl (pgs_cons (pg_name (i := 2) sc_is_state.nd rfl (by first | exact .inl rfl | exact .inr rfl)) (pgs_cons (pg_name (i := 3) sc_is_state.nd rfl (by first | exact .inl rfl | exact .inr rfl)) pgs_nil))))
      (pss_cons (ps_if (PW.pt (pw_or (pt_not (pt_val (pe_callB (call_isiK2 K) (by rfl) T.n_isinstance (by decide +kernel) (pa_cons (pv 2) (pa_cons (pe_bltn (v := .ty "dict") (by rfl) T.n_dict (by decide +kernel) rfl) pa_nil))))) (pw_or (pt_not (pt_val (pe_callB (call_isiK2 K) (by rfl) T.n_isinstance (by decide +kernel) (pa_cons (pv 3) (pa_cons (pe_bltn (v := .ty "bool") (by rfl) T.n_bool (by decide +kernel) rfl) pa_nil))))) (pw_or1 (pt_not (pt_val (pe_callB (cr_allK K rfl) (by rfl) T.n_all (by decide +kernel) (pa_cons (pe_lock (pe_lc (own := [("sign", 4)]) rfl sc_is_state.nd (pi_keys (pv 2)) (blkOk_by (own := [("sign", 4)]) (N := n_is_state) (sc := defScope s_is_state) (by decide +kernel)) (fun _ _ _ _ _ => (pg_name (i := 4) sc_is_state.nd rfl (by first | exact .inl rfl | exact .inr rfl))) (fun _ _ _ _ _ => pts_nil) (fun _ _ _ _ _ => (pe_call (ok_is_sign T) (hr.mono (by decide)) (by rfl) T.g_is_sign T.F_is_sign.kp (b_is_sign T) .nil pass0 (pa_cons (pv 4) pa_nil))))) pa_nil)))))))) (pss_one (ps_ret pe_bl)) pss_nil)
      (pss_one (ps_ret (pe_callB (cr_allK K rfl) (by rfl) T.n_all (by decide +kernel) (pa_cons (pe_lock (pe_lc (own := [("to", 5)]) rfl sc_is_state.nd (pi_values (pv 2)) (blkOk_by (own := [("to", 5)]) (N := n_is_state) (sc := defScope s_is_state) (by decide +kernel)) (fun _ _ _ _ _ => (pg_name (i := 5) sc_is_state.nd rfl (by first | exact .inl rfl | exact .inr rfl))) (fun _ _ _ _ _ => pts_nil) (fun _ _ _ _ _ => (pe_and (pe_call (ok_is_integer T) (hr.mono (by decide)) (by rfl) T.g_is_integer T.F_is_integer.kp (b_is_integer T) .nil pass0 (pa_cons (pv 5) pa_nil)) (pe_one (pe_chain op_le op_lt pe_int (pv 5) (pv 1))))))) pa_nil))))))), ?_⟩
    have l5 := asc.len5
    rw [List.length_map] at l5
    refine ⟨_, rfl, _, _, _, _, true, rfl, .ty _, .base (.tup hr1), kit_ty (by decide +kernel), true, rfl, iteF ?_⟩
    refine ⟨_, rfl, r, _, rfl, .inr (sqt hr1), rfl, _, rfl, iteNS rfl ?_⟩
    refine ⟨_, rfl, r, _, rfl, sqt hr1, rfl, _, _, rfl, _, _, rfl, rfl, ?_⟩
    refine ⟨_, rfl, _, _, _, _, true, rfl, .ty _, .base (.dK hd), kit_ty (by decide +kernel), true, rfl, iteF ?_⟩
    refine ⟨_, rfl, _, _, _, _, true, rfl, .ty _, .base (.bl _), kit_ty (by decide +kernel), true, rfl, iteF ?_⟩
    -- all([is_sign(sign) for sign in moves])
    refine ⟨d, _, hd, trivial, fun od => ?_⟩
    have nrd : r ≠ d := fun z => by rw [z, hd] at hr1; cases hr1
    have sx : SameX d H (upd H d (.frz od (.dK (mvD row.1)))) := locked
    have hfz : (upd H d (.frz od (.dK (mvD row.1)))) d = some (.frz od (.dK (mvD row.1))) := upd_same
    generalize upd H d (.frz od (.dK (mvD row.1))) = H1 at sx hfz ⊢
    refine ⟨_, rfl, d, od, rfl, .inl ⟨_, hfz, fun D hD => ?_⟩⟩
    refine lc_wk Wk.keys hD Tru off_pure rfl (fun _ s => s _ _ hfz) ?_ ?_
    · rintro i l y H3 H4 hi sm hl hz t ⟨rfl, k, v, e1, rfl⟩
      rw [List.length_map] at hi
      obtain ⟨e, he, rfl, rfl⟩ := mvD_at e1
      refine ⟨rfl, yes1 ?_⟩
      exact ⟨_, rfl, e.1, rfl, asc.isSg (List.mem_map.mpr ⟨e, List.mem_of_getElem? he, rfl⟩), lc_put off_pure hD (by omega) sm hl hz (tru_snoc t rfl)⟩
    intro l H3 sm3 hl3 hz3 t
    refine ⟨sm3 _ _ hfz, ?_⟩
    have nDd : D ≠ d := fun z => by rw [z, hfz] at hD; cases hD
    have s4 : Same H (upd H3 d (.dK (mvD row.1))) := unlock hd (sx.trans (Same.x d sm3))
    have hl4 : (upd H3 d (.dK (mvD row.1))) D = some (.lst l) := by rw [upd_ne nDd]; exact hl3
    subst t
    generalize upd H3 d (.dK (mvD row.1)) = H4 at s4 hl4 ⊢
    refine ⟨_, _, rfl, sq hl4, _, rfl, ite_no (by rw [all_rep]; rfl) ?_⟩
    clear hfz sx hD sm3 hl3 hz3 nDd hl4
    -- all([is_integer(to) and 0 <= to < many for to in moves.values()])
    have hd4 := s4 _ _ hd
    refine ⟨d, _, hd4, trivial, fun od => ?_⟩
    have sx : SameX d H4 (upd H4 d (.frz od (.dK (mvD row.1)))) := locked
    have hfz : (upd H4 d (.frz od (.dK (mvD row.1)))) d = some (.frz od (.dK (mvD row.1))) := upd_same
    generalize upd H4 d (.frz od (.dK (mvD row.1))) = H5 at sx hfz ⊢
    refine ⟨_, rfl, d, od, _, rfl, hfz, fun D2 hD2 => ?_⟩
    refine lc_wk Wk.vals hD2 Tru off_pure rfl (fun _ s => s _ _ hfz) ?_ ?_
    · rintro i l y H6 H7 hi sm hl hz t ⟨rfl, k, e1⟩
      rw [List.length_map] at hi
      obtain ⟨e, he, rfl, rfl⟩ := mvD_at e1
      have he2 := hn e (List.mem_of_getElem? he)
      refine ⟨rfl, yes1 ?_⟩
      have hn0 : e.2 < n := he2
      refine ⟨_, rfl, (e.2 : Int), rfl, by omega, by omega, true, rfl, iteT ?_⟩
      refine ⟨_, rfl, _, _, rfl, rfl, _, rfl, ite_of (decide_eq_true (by omega)) ?_⟩
      refine ⟨_, rfl, _, _, rfl, rfl, ?_⟩
      exact lc_put off_pure hD2 (by omega) sm hl hz (tru_snoc t (decide_eq_true (by omega)))
    · intro l H6 sm6 hl6 hz6 t
      subst t
      refine ⟨sm6 _ _ hfz, ?_⟩
      have nDd : D2 ≠ d := fun z => by rw [z, hfz] at hD2; cases hD2
      have s7 : Same H4 (upd H6 d (.dK (mvD row.1))) := unlock hd4 (sx.trans (Same.x d sm6))
      exact ⟨_, _, rfl, sq (by rw [upd_ne nDd]; exact hl6), bl_of (all_rep _) (q _ (s4.trans s7))⟩
theorem TgAt.ds {H : Hp} {p : Addr} {tg : MachS} (h : TgAt H p tg) : ∃ rs ds : List Addr, H p = some (.tup (rs.map V.ref)) ∧ rs.length = tg.length ∧ ds.length = tg.length ∧
    ∀ (i : Nat) (row : List (Str × Nat) × Bool), tg[i]? = some row → ∃ r d, rs[i]? = some r ∧ ds[i]? = some d ∧ H r = some (.tup [.ref d, .bl row.2]) ∧ H d = some (.dK (mvD row.1)) := by
  obtain ⟨rs, h1, h2, h3⟩ := h
  have c : ∀ i : Nat, ∃ d : Addr, ∀ row : List (Str × Nat) × Bool, tg[i]? = some row → ∃ r, rs[i]? = some r ∧ H r = some (.tup [.ref d, .bl row.2]) ∧ H d = some (.dK (mvD row.1)) := fun i => by
    cases e : tg[i]? with
    | none => exact ⟨0, fun row z => by cases z⟩
    | some row =>
      obtain ⟨r, d, a, b, c⟩ := h3 i row e
      refine ⟨d, fun row' z => ?_⟩
      obtain rfl := Option.some.inj z
      exact ⟨r, a, b, c⟩
  obtain ⟨f, hf⟩ := Classical.axiomOfChoice c
  refine ⟨rs, (List.range tg.length).map f, h1, h2, by simp, fun i row e => ?_⟩
  obtain ⟨r, a, b, c⟩ := hf i row e
  have hi := (List.getElem?_eq_some_iff.mp e).1
  exact ⟨r, f i, a, by rw [List.getElem?_map, List.getElem?_range hi]; rfl, b, c⟩
/-! ### are_states -/
def sp_are_states {K : PySem.W.Frag} {mg : Str → Option Value} (T : Txt K mg) : Sp := fun vs H Q _ => ∃ (p : Addr) (tg : MachS), vs = [.ref p] ∧ TgAt H p tg ∧ TgOk tg ∧ ∀ H', Same H H' → Q (.bl true) H'
set_option maxHeartbeats 4000000 in
theorem ok_are_states {P : Program} {w : World} {K : PySem.W.Frag} {mg : Str → Option Value} {base : Heap} (T : Txt K mg) : FnOk P w K mg base CX0 3 T.a_are_states T.d_are_states ["value"] (sp_are_states T) := by
  refine T.F_are_states.ok sc_are_states (fun vs H Q E h => ?_) (fun cdv A outer s H vs Q E hr h => ?_)
  · obtain ⟨p, tg, rfl, ta, tok, q⟩ := h
    rfl
  · obtain ⟨p, tg, rfl, ta, tok, q⟩ := h
    refine ⟨_, PSs.nox (pss_cons (ps_if (PW.pt (pw_or (pt_not (pt_val (pe_callB (call_isiK2 K) (by rfl) T.n_isinstance (by decide +kernel) (pa_cons (pv 0) (pa_cons (pe_bltn (v := .ty "tuple") (by rfl) T.n_tuple (by decide +kernel) rfl) pa_nil))))) (pw_or1 (pt_not (pt_chain op_le op_le pe_int (pe_callB (call_lenK K) (by rfl) T.n_len (by decide +kernel) (pa_cons (pv 0) pa_nil)) (pe_k (by rfl) T.c_MAX_WRITTEN)))))) (pss_one (ps_ret pe_bl)) pss_nil)
      (pss_cons (ps_if (pt_not (pt_val (pe_callB (cr_allK K rfl) (by rfl) T.n_all (by decide +kernel) (pa_cons (pe_lc (own := [("pair", 1)]) rfl sc_are_states.nd (pi_tupK K (pv 0)) (blkOk_by (own := [("pair", 1)]) (N := n_are_states) (sc := defScope s_are_states) (by decide +kernel)) (fun _ _ _ _ _ => (pg_name (i := 1) sc_are_states.nd rfl (by first | exact .inl rfl | exact .inr rfl))) (fun _ _ _ _ _ => pts_nil) (fun _ _ _ _ _ => (pe_call (ok_is_state T) (hr.mono (by decide)) (by rfl) T.g_is_state T.F_is_state.kp (b_is_state T) .nil pass0 (pa_cons (pv 1) (pa_cons (pe_callB (call_lenK K) (by rfl) T.n_len (by decide +kernel) (pa_cons (pv 0) pa_nil)) pa_nil))))) pa_nil)))) (pss_one (ps_ret pe_bl)) pss_nil)
      (pss_one (ps_ret (pe_call (ok_are_useful T) (hr.mono (by decide)) (by rfl) T.g_are_useful T.F_are_useful.kp (b_are_useful T) .nil pass0 (pa_cons (pe_lc (own := [("moves", 2), ("last", 3)]) rfl sc_are_states.nd (pi_tupK K (pv 0)) (blkOk_by (own := [("moves", 2), ("last", 3)]) (N := n_are_states) (sc := defScope s_are_states) (by decide +kernel)) (fun _ _ _ _ _ => (pg_tupK K (n := 2) rfl (pgs_cons (pg_name (i := 2) sc_are_states.nd rfl (by first | exact .inl rfl | exact .inr rfl)) (pgs_cons (pg_name (i := 3) sc_are_states.nd rfl (by first | exact .inl rfl | exact .inr rfl)) pgs_nil)))) (fun _ _ _ _ _ => pts_nil) (fun _ _ _ _ _ => (pv 2))) (pa_cons (pe_lc (own := [("moves", 2), ("last", 3)]) rfl sc_are_states.nd (pi_tupK K (pv 0)) (blkOk_by (own := [("moves", 2), ("last", 3)]) (N := n_are_states) (sc := defScope s_are_states) (by decide +kernel)) (fun _ _ _ _ _ => (pg_tupK K (n := 2) rfl (pgs_cons (pg_name (i := 2) sc_are_states.nd rfl (by first | exact .inl rfl | exact .inr rfl)) (pgs_cons (pg_name (i := 3) sc_are_states.nd rfl (by first | exact .inl rfl | exact .inr rfl)) pgs_nil)))) (fun _ _ _ _ _ => pts_nil) (fun _ _ _ _ _ => (pv 3))) pa_nil))))))), ?_⟩
    obtain ⟨rs, ds, t1, t2, td, t3⟩ := ta.ds
    have h6 := tok.six
    have n1 := tok.useful.pos
    have hln : ((rs.map V.ref).length : Int) = (tg.length : Int) := by rw [List.length_map, t2]
    refine ⟨_, rfl, _, _, _, _, true, rfl, .ty _, .base (.tup t1), kit_ty (by decide +kernel), true, rfl, iteF ?_⟩
    refine ⟨_, rfl, p, _, rfl, .inr (sqt t1), _, _, rfl, rfl, _, rfl, ite_of (decide_eq_true (by rw [hln]; omega)) ?_⟩
    refine ⟨_, _, rfl, rfl, _, rfl, ?_⟩
    refine ite_no (by rw [hln, decide_eq_true (by omega)]; rfl) ?_
    -- all([is_state(pair, len(value)) for pair in value])
    refine ⟨_, rfl, _, rfl, ⟨_, sqt t1⟩, fun D hD => ?_⟩
    refine lc_wk Wk.tup hD Tru off_pure rfl (fun _ s => seqT s (sqt t1)) ?_ ?_
    · rintro i l y H3 H4 hi sm hl hz t ⟨rfl, hy⟩
      rw [List.length_map, t2] at hi
      obtain ⟨row, hrow⟩ := getE_of hi
      obtain ⟨r, d, g1, _, g2, g3⟩ := t3 i row hrow
      obtain rfl : y = .ref r := by
        rw [List.getElem?_map, g1] at hy
        exact (Option.some.inj hy).symm
      refine ⟨rfl, yes1 ?_⟩
      refine ⟨_, rfl, _, rfl, p, _, rfl, .inr (sqt (sm _ _ t1)), r, d, row, tg.length, by rw [hln]; rfl, sm _ _ g2, sm _ _ g3, tok.asc row (List.mem_of_getElem? hrow), fun e he => tok.useful.to i e.2 (by rw [succs_eq, movesOf_at hrow]; exact List.mem_map.mpr ⟨e, he, rfl⟩), h6, fun H5 s5 => ?_⟩
      exact lc_put off_pure hD (by omega) (sm.trans s5) (s5 _ _ hl) hz (tru_snoc t rfl)
    intro l H1 sm1 hl1 hz1 t
    subst t
    refine ⟨_, _, rfl, sq hl1, _, rfl, ite_no (by rw [all_rep]; rfl) ?_⟩
    -- the rows' dicts, and their ends
    have hp1 := sm1 _ _ t1
    refine ⟨_, rfl, _, rfl, ⟨_, sqt hp1⟩, fun D2 hD2 => ?_⟩
    refine lc_wk Wk.tup hD2 (fun i l _ => l = (ds.take i).map V.ref) off_pure rfl (fun _ s => seqT s (sqt hp1)) ?_ ?_
    · rintro i l y H3 H4 hi sm hl hz t ⟨rfl, hy⟩
      rw [List.length_map, t2] at hi
      obtain ⟨row, hrow⟩ := getE_of hi
      obtain ⟨r, d, g1, g4, g2, g3⟩ := t3 i row hrow
      obtain rfl : y = .ref r := by
        rw [List.getElem?_map, g1] at hy
        exact (Option.some.inj hy).symm
      refine ⟨r, _, rfl, sqt (sm _ _ (sm1 _ _ g2)), rfl, _, _, rfl, _, _, rfl, rfl, rfl, yes1 ⟨_, rfl, lc_put off_pure hD2 (by omega) sm hl hz ?_⟩⟩
      show _ = (ds.take (i + 1)).map V.ref
      rw [t, List.take_add_one, g4, List.map_append]
      rfl
    intro l H2 sm2 hl2 hz2 t
    rw [List.length_map, t2, ← td, List.take_of_length_le (Nat.le_refl _)] at t
    subst t
    have s2 := sm1.trans sm2
    have hp2 := s2 _ _ t1
    refine ⟨_, rfl, _, rfl, ⟨_, sqt hp2⟩, fun D3 hD3 => ?_⟩
    refine lc_wk Wk.tup hD3 (fun i l _ => l = ((tg.take i).map (·.2)).map V.bl) off_pure rfl (fun _ s => seqT s (sqt hp2)) ?_ ?_
    · rintro i l y H3 H4 hi sm hl hz t ⟨rfl, hy⟩
      rw [List.length_map, t2] at hi
      obtain ⟨row, hrow⟩ := getE_of hi
      obtain ⟨r, d, g1, g4, g2, g3⟩ := t3 i row hrow
      obtain rfl : y = .ref r := by
        rw [List.getElem?_map, g1] at hy
        exact (Option.some.inj hy).symm
      refine ⟨r, _, rfl, sqt (sm _ _ (s2 _ _ g2)), rfl, _, _, rfl, _, _, rfl, rfl, rfl, yes1 ⟨_, rfl, lc_put off_pure hD3 (by omega) sm hl hz ?_⟩⟩
      show _ = ((tg.take (i + 1)).map (·.2)).map V.bl
      rw [t, List.take_add_one, hrow, List.map_append, List.map_append]
      rfl
    intro l H3 sm3 hl3 hz3 t
    rw [List.length_map, t2, List.take_of_length_le (Nat.le_refl _)] at t
    subst t
    have s3 := s2.trans sm3
    exact ⟨D2, D3, tg, rfl, ⟨ds, sm3 _ _ hl2, td, fun i row e => by
      obtain ⟨r, d, _, g4, _, g3⟩ := t3 i row e
      exact ⟨d, g4, s3 _ _ g3⟩⟩, hl3, tok.useful, h6, tok.asc, fun H4 s4 => q H4 (s3.trans s4)⟩
end K7
end

section
set_option Elab.async false
set_option linter.all false
set_option maxRecDepth 100000
namespace K7
open PySem PySem.Spec PyProof.Rows L2 SlX
/-! The walk: a form is made. -/
/-- the dicts that are made so far -/
def DsR (H0 : Hp) (D : Addr) (tg : MachS) (i : Nat) (l : List V) (H : Hp) : Prop := ∃ ds : List Addr, l = ds.map V.ref ∧ ds.length = i ∧ ∀ (j : Nat) (row : List (Str × Nat) × Bool), j < i → tg[j]? = some row → ∃ d, ds[j]? = some d ∧ H d = some (.dK (mvD row.1)) ∧ H0 d = none ∧ d ≠ D
theorem DsR.off {H0 : Hp} {D : Addr} {tg : MachS} : Off D (DsR H0 D tg) := by
  rintro i l H H' k ⟨ds, e, h1, h2⟩
  refine ⟨ds, e, h1, fun j row hj e => ?_⟩
  obtain ⟨d, a, b, c, n⟩ := h2 j row hj e
  exact ⟨d, a, k _ _ n b, c, n⟩
theorem DsR.put {H0 H H' : Hp} {D d : Addr} {tg : MachS} {i : Nat} {l : List V} (h : DsR H0 D tg i l H) (s : Same H H') {row : List (Str × Nat) × Bool} (e : tg[i]? = some row) (hd : H' d = some (.dK (mvD row.1))) (h0 : H0 d = none) (n : d ≠ D) : DsR H0 D tg (i + 1) (l ++ [.ref d]) H' := by
  obtain ⟨ds, rfl, h1, h2⟩ := h
  refine ⟨ds ++ [d], by rw [List.map_append]; rfl, by simp [h1], fun j row' hj e' => ?_⟩
  by_cases c : j < i
  · obtain ⟨d', a, b, c', n'⟩ := h2 j row' c e'
    exact ⟨d', by rw [List.getElem?_append_left (by omega)]; exact a, s _ _ b, c', n'⟩
  · have : j = i := by omega
    subst this
    rw [e] at e'
    obtain rfl := Option.some.inj e'
    exact ⟨d, by rw [List.getElem?_append_right (by omega), h1]; simp, hd, h0, n⟩
/-! ### Form.__init__ -/
def sp_Form_init {K : PySem.W.Frag} {mg : Str → Option Value} (T : Txt K mg) : Sp := fun vs H Q _ => ∃ (H0 : Hp) (a dx p : Addr) (tg : MachS), vs = [.ref a, .ref p] ∧ Same H0 H ∧ H0 a = none ∧ H0 dx = none ∧ dx ≠ a ∧ H a = some (.ins T.C_Form dx []) ∧ (∃ o, H dx = some o) ∧ TgAt H0 p tg ∧ TgOk tg ∧ ∀ H', Same H0 H' → FormAt T.C_Form H' a tg → Q .non H'
set_option maxHeartbeats 4000000 in
theorem ok_Form_init {P : Program} {w : World} {K : PySem.W.Frag} {mg : Str → Option Value} {base : Heap} (T : Txt K mg) : FnOk P w K mg base CX0 4 T.a_Form_init T.d_Form_init ["self", "states"] (sp_Form_init T) := by
  refine T.F_Form_init.ok sc_Form_init (fun vs H Q E h => ?_) (fun cdv A outer s H vs Q E hr h => ?_)
  · obtain ⟨H0, a, dx, p, tg, rfl, s0, na, nd, nda, ha, ⟨od, hod⟩, ta, tok, q⟩ := h
    rfl
  · obtain ⟨H0, a, dx, p, tg, rfl, s0, na, nd, nda, ha, ⟨od, hod⟩, ta, tok, q⟩ := h
    refine ⟨_, PSs.nox (pss_cons (ps_if (pt_not (pt_val (pe_call (ok_are_states T) (hr.mono (by decide)) (by rfl) T.g_are_states T.F_are_states.kp (b_are_states T) .nil pass0 (pa_cons (pv 1) pa_nil)))) pss_never pss_nil)
      (pss_cons (ps_sl (pv 0) (pe_lc (own := [("moves", 2), ("last", 3)]) rfl sc_Form_init.nd (pi_tupK K (pv 1)) (blkOk_by (own := [("moves", 2), ("last", 3)]) (N := n_Form_init) (sc := defScope s_Form_init) (by decide +kernel)) (fun _ _ _ _ _ => (pg_tupK K (n := 2) rfl (pgs_cons (pg_name (i := 2) sc_Form_init.nd rfl (by first | exact .inl rfl | exact .inr rfl)) (pgs_cons (pg_name (i := 3) sc_Form_init.nd rfl (by first | exact .inl rfl | exact .inr rfl)) pgs_nil)))) (fun _ _ _ _ _ => pts_nil) (fun _ _ _ _ _ => (pe_call (ok_in_order T) (hr.mono (by decide)) (by rfl) T.g_in_order T.F_in_order.kp (b_in_order T) .nil pass0 (pa_cons (pv 2) pa_nil)))))
      (pss_one (ps_sl (pv 0) (pe_lc (own := [("moves", 2), ("last", 3)]) rfl sc_Form_init.nd (pi_tupK K (pv 1)) (blkOk_by (own := [("moves", 2), ("last", 3)]) (N := n_Form_init) (sc := defScope s_Form_init) (by decide +kernel)) (fun _ _ _ _ _ => (pg_tupK K (n := 2) rfl (pgs_cons (pg_name (i := 2) sc_Form_init.nd rfl (by first | exact .inl rfl | exact .inr rfl)) (pgs_cons (pg_name (i := 3) sc_Form_init.nd rfl (by first | exact .inl rfl | exact .inr rfl)) pgs_nil)))) (fun _ _ _ _ _ => pts_nil) (fun _ _ _ _ _ => (pv 3))))))), ?_⟩
    obtain ⟨rs, ds, t1, t2, td, t3⟩ := ta.ds
    have h6 := tok.six
    refine ⟨_, rfl, p, tg, rfl, ta.keep (keep_of s0), tok, fun H1 s1 => ⟨_, rfl, ite_no rfl ?_⟩⟩
    have s01 := s0.trans s1
    have hp1 := s01 _ _ t1
    -- self.own_moves = [in_order(moves) for moves, last in states]
    refine ⟨_, rfl, _, rfl, ⟨_, sqt hp1⟩, fun D hD => ?_⟩
    refine lc_wk Wk.tup hD (DsR H D tg) DsR.off ⟨[], rfl, rfl, fun j row hj => absurd hj (Nat.not_lt_zero _)⟩ (fun _ s => seqT s (sqt hp1)) ?_ ?_
    · rintro i l y H3 H4 hi sm hl hz r ⟨rfl, hy⟩
      rw [List.length_map, t2] at hi
      obtain ⟨row, hrow⟩ := getE_of hi
      obtain ⟨rr, d, g1, g4, g2, g3⟩ := t3 i row hrow
      obtain rfl : y = .ref rr := by
        rw [List.getElem?_map, g1] at hy
        exact (Option.some.inj hy).symm
      refine ⟨rr, _, rfl, sqt (sm _ _ (s01 _ _ g2)), rfl, _, _, rfl, _, _, rfl, rfl, rfl, yes1 ?_⟩
      refine ⟨_, rfl, d, row.1, rfl, sm _ _ (s01 _ _ g3), tok.asc row (List.mem_of_getElem? hrow), fun H5 d2 s5 f5 h5 => ?_⟩
      refine lc_put DsR.off hD (by omega) (sm.trans s5) (s5 _ _ hl) hz ?_
      exact r.put s5 hrow h5 ((s1.trans sm).free f5) (fun z => by rw [z, hl] at f5; cases f5)
    intro l H2 sm2 hl2 hz2 r
    rw [List.length_map, t2] at r
    obtain ⟨ds2, rfl, e2, r2⟩ := r
    have s12 := s1.trans sm2
    have hD0 : H D = none := s1.free hD
    refine ⟨_, rfl, a, _, dx, _, [], 1, rfl, .inl ⟨s12 _ _ ha, rfl⟩, T.S_Form, T.sl_Form_own_moves, ?_⟩
    have ep : putS 1 (V.ref D) [] = [none, some (.ref D)] := rfl
    rw [ep]
    have na1 : news H H2 a = none := news_off ha
    have nd1 : news H H2 dx = none := news_off hod
    have s3 : Same H0 (slH H2 a T.C_Form dx [none, some (.ref D)]) := slH_same (s0.trans s12) na nd
    have t3' : Slt (slH H2 a T.C_Form dx [none, some (.ref D)]) a T.C_Form dx [none, some (.ref D)] := slH_slt nda
    have w3 : Same (news H H2) (slH H2 a T.C_Form dx [none, some (.ref D)]) := slH_off news_same na1 nd1
    generalize slH H2 a T.C_Form dx [none, some (.ref D)] = H3 at s3 t3' w3 ⊢
    have hp3 := s3 _ _ t1
    -- self.own_lasts = [last for moves, last in states]
    refine ⟨_, rfl, _, rfl, ⟨_, sqt hp3⟩, fun L hL => ?_⟩
    refine lc_wk Wk.tup hL (fun i l _ => l = ((tg.take i).map (·.2)).map V.bl) off_pure rfl (fun _ s => seqT s (sqt hp3)) ?_ ?_
    · rintro i l y H4 H5 hi sm hl hz t ⟨rfl, hy⟩
      rw [List.length_map, t2] at hi
      obtain ⟨row, hrow⟩ := getE_of hi
      obtain ⟨rr, d, g1, g4, g2, g3⟩ := t3 i row hrow
      obtain rfl : y = .ref rr := by
        rw [List.getElem?_map, g1] at hy
        exact (Option.some.inj hy).symm
      refine ⟨rr, _, rfl, sqt (sm _ _ (s3 _ _ g2)), rfl, _, _, rfl, _, _, rfl, rfl, rfl, yes1 ⟨_, rfl, lc_put off_pure hL (by omega) sm hl hz ?_⟩⟩
      show _ = ((tg.take (i + 1)).map (·.2)).map V.bl
      rw [t, List.take_add_one, hrow, List.map_append, List.map_append]
      rfl
    intro l H4 sm4 hl4 hz4 t
    rw [List.length_map, t2, List.take_of_length_le (Nat.le_refl _)] at t
    subst t
    refine ⟨_, rfl, a, _, dx, _, _, 0, rfl, slt_same sm4 t3', T.S_Form, T.sl_Form_own_lasts, ?_⟩
    have ep2 : putS 0 (V.ref L) [none, some (.ref D)] = [some (.ref L), some (.ref D)] := rfl
    rw [ep2]
    have w4 := w3.trans sm4
    obtain ⟨n5, n6⟩ := slt_lst (slt_same sm4 t3') hl4
    have w5 : Same (news H H2) (slH H4 a T.C_Form dx [some (.ref L), some (.ref D)]) := slH_off w4 na1 nd1
    refine q _ (slH_same (s3.trans sm4) na nd) ⟨dx, L, D, slH_slt nda, ?_, ds2, w5 _ _ (news_get hD0 hl2), e2, fun i row e => ?_⟩
    · rw [slH_ne n5 n6]
      exact hl4
    · obtain ⟨d, g1, g2, g3, _⟩ := r2 i row (List.getElem?_eq_some_iff.mp e).1 e
      exact ⟨d, g1, w5 _ _ (news_get g3 g2)⟩
end K7
end

section
set_option Elab.async false
set_option linter.all false
set_option maxRecDepth 100000
namespace K7
open PySem PySem.Spec PyProof.Rows L2 SlX
/-! The walk: prices are made. -/
theorem dkS_at {l : List Str} {f : Str → Int} {i : Nat} {k : Key} {v : V} (h : (dkS l f)[i]? = some (k, v)) : ∃ x, l[i]? = some x ∧ k = Sum.inr x ∧ v = .int (f x) := by
  rw [List.getElem?_map] at h
  cases e : l[i]? with
  | none => rw [e] at h; cases h
  | some x =>
    rw [e] at h
    injection h with h
    injection h with h1 h2
    exact ⟨x, rfl, h1.symm, h2.symm⟩
/-! ### are_prices -/
def sp_are_prices {K : PySem.W.Frag} {mg : Str → Option Value} (T : Txt K mg) : Sp := fun vs H Q _ => ∃ (dP dO dS : Addr) (m : PrM), vs = [.ref dP, .ref dO, .ref dS] ∧ H dP = some (.dK (dkS m.sgs m.put)) ∧ H dO = some (.dK (dkS m.sgs m.out)) ∧ TabS H dS m.swap ∧ PrOk m ∧ ∀ H', Same H H' → Q (.bl true) H'
set_option maxHeartbeats 4000000 in
theorem ok_are_prices {P : Program} {w : World} {K : PySem.W.Frag} {mg : Str → Option Value} {base : Heap} (T : Txt K mg) : FnOk P w K mg base CX0 3 T.a_are_prices T.d_are_prices ["put", "out", "swap"] (sp_are_prices T) := by
  refine T.F_are_prices.ok sc_are_prices (fun vs H Q E h => ?_) (fun cdv A outer s H vs Q E hr h => ?_)
  · obtain ⟨dP, dO, dS, m, rfl, hP, hO, ⟨kvs, hS, l50, tk⟩, ok, q⟩ := h
    rfl
  · obtain ⟨dP, dO, dS, m, rfl, hP, hO, ⟨kvs, hS, l50, tk⟩, ok, q⟩ := h
    refine ⟨_, PSs.nox (pss_cons (ps_if (PW.pt (pw_or (pt_not (pt_val (pe_callB (cr_allK K rfl) (by rfl) T.n_all (by decide +kernel) (pa_cons (pe_lc (own := [("table", 3)]) rfl sc_are_prices.nd (pi_tupK K (pe_tup (pa_cons (pv 0) (pa_cons (pv 1) (pa_cons (pv 2) pa_nil))))) (blkOk_by (own := [("table", 3)]) (N := n_are_prices) (sc := defScope s_are_prices) (by decide +kernel)) (fun _ _ _ _ _ => (pg_name (i := 3) sc_are_prices.nd rfl (by first | exact .inl rfl | exact .inr rfl))) (fun _ _ _ _ _ => pts_nil) (fun _ _ _ _ _ => (pe_callB (call_isiK2 K) (by rfl) T.n_isinstance (by decide +kernel) (pa_cons (pv 3) (pa_cons (pe_bltn (v := .ty "dict") (by rfl) T.n_dict (by decide +kernel) rfl) pa_nil))))) pa_nil)))) (pw_or1 (pt_cmpR op_eq (pe_callB call_lenD (by rfl) T.n_len (by decide +kernel) (pa_cons (pv 0) pa_nil)) pe_int (nomark _))))) (pss_one (ps_ret pe_bl)) pss_nil)
      (pss_cons (ps_if (PW.pt (pw_or (pt_not (pt_val (pe_callB (cr_allK K rfl) (by rfl) T.n_all (by decide +kernel) (pa_cons (pe_lock (pe_lc (own := [("sign", 4)]) rfl sc_are_prices.nd (pi_keys (pv 0)) (blkOk_by (own := [("sign", 4)]) (N := n_are_prices) (sc := defScope s_are_prices) (by decide +kernel)) (fun _ _ _ _ _ => (pg_name (i := 4) sc_are_prices.nd rfl (by first | exact .inl rfl | exact .inr rfl))) (fun _ _ _ _ _ => pts_nil) (fun _ _ _ _ _ => (pe_call (ok_is_sign T) (hr.mono (by decide)) (by rfl) T.g_is_sign T.F_is_sign.kp (b_is_sign T) .nil pass0 (pa_cons (pv 4) pa_nil))))) pa_nil)))) (pw_or (pt_cmpR op_ne (pe_callB call_lenD (by rfl) T.n_len (by decide +kernel) (pa_cons (pv 0) pa_nil)) (pe_callB call_lenD (by rfl) T.n_len (by decide +kernel) (pa_cons (pv 1) pa_nil)) (nomark _)) (pw_or1 (pt_not (pt_val (pe_callB (cr_allK K rfl) (by rfl) T.n_all (by decide +kernel) (pa_cons (pe_lock (pe_lc (own := [("sign", 4)]) rfl sc_are_prices.nd (pi_keys (pv 0)) (blkOk_by (own := [("sign", 4)]) (N := n_are_prices) (sc := defScope s_are_prices) (by decide +kernel)) (fun _ _ _ _ _ => (pg_name (i := 4) sc_are_prices.nd rfl (by first | exact .inl rfl | exact .inr rfl))) (fun _ _ _ _ _ => pts_nil) (fun _ _ _ _ _ => (pe_cmp (pc_din (hu_of hr) (pv 4) (pv 1)) rfl)))) pa_nil)))))))) (pss_one (ps_ret pe_bl)) pss_nil)
      (pss_cons (ps_if (pt_not (pt_val (pe_callB (cr_allK K rfl) (by rfl) T.n_all (by decide +kernel) (pa_cons (pe_lc (own := [("price", 5)]) rfl sc_are_prices.nd (pi_listK K (pe_op op_cat (pe_listVals rfl (pv 0) (by rfl) T.n_list) (pe_listVals rfl (pv 1) (by rfl) T.n_list))) (blkOk_by (own := [("price", 5)]) (N := n_are_prices) (sc := defScope s_are_prices) (by decide +kernel)) (fun _ _ _ _ _ => (pg_name (i := 5) sc_are_prices.nd rfl (by first | exact .inl rfl | exact .inr rfl))) (fun _ _ _ _ _ => pts_nil) (fun _ _ _ _ _ => (pe_call (ok_is_price T) (hr.mono (by decide)) (by rfl) T.g_is_price T.F_is_price.kp (b_is_price T) .nil pass0 (pa_cons (pv 5) (pa_cons (pe_k (by rfl) T.c_MAX_PRICE) pa_nil))))) pa_nil)))) (pss_one (ps_ret pe_bl)) pss_nil)
      (pss_one (ps_ret (pe_callB (cr_allK K rfl) (by rfl) T.n_all (by decide +kernel) (pa_cons (pe_lock (pe_lc (own := [("pair", 6), ("price", 5)]) rfl sc_are_prices.nd (pi_itemsT (pv 2)) (blkOk_by (own := [("pair", 6), ("price", 5)]) (N := n_are_prices) (sc := defScope s_are_prices) (by decide +kernel)) (fun _ _ _ _ _ => (pg_tupK K (n := 2) rfl (pgs_cons (pg_name (i := 6) sc_are_prices.nd rfl (by first | exact .inl rfl | exact .inr rfl)) (pgs_cons (pg_name (i := 5) sc_are_prices.nd rfl (by first | exact .inl rfl | exact .inr rfl)) pgs_nil)))) (fun _ _ _ _ _ => pts_nil) (fun _ _ _ _ _ => (pe_and (pe_call (ok_is_pair T) (hr.mono (by decide)) (by rfl) T.g_is_pair T.F_is_pair.kp (b_is_pair T) .nil pass0 (pa_cons (pv 6) (pa_cons (pv 0) pa_nil))) (pe_one (pe_call (ok_is_price T) (hr.mono (by decide)) (by rfl) T.g_is_price T.F_is_price.kp (b_is_price T) .nil pass0 (pa_cons (pv 5) (pa_cons (pe_k (by rfl) T.c_MAX_SWAP) pa_nil)))))))) pa_nil))))))), ?_⟩
    have l5 := ok.asc.len5
    have ln : ((dkS m.sgs m.put).length : Int) = m.sgs.length := by rw [List.length_map]
    have lo : ((dkS m.sgs m.out).length : Int) = m.sgs.length := by rw [List.length_map]
    have n1 : 0 < m.sgs.length := List.length_pos_iff.mpr ok.ne
    -- all([isinstance(table, dict) ..])
    refine ⟨_, rfl, _, rfl, _, rfl, szle (by simp), fun t ht => ?_⟩
    have s1 := same_upd (o := .tup [.ref dP, .ref dO, .ref dS]) ht
    have ht1 : (upd H t (.tup [.ref dP, .ref dO, .ref dS])) t = some (.tup [.ref dP, .ref dO, .ref dS]) := upd_same
    generalize upd H t (.tup [.ref dP, .ref dO, .ref dS]) = H1 at s1 ht1 ⊢
    refine ⟨t, rfl, ⟨_, sqt ht1⟩, fun D hD => ?_⟩
    refine lc_wk Wk.tup hD Tru off_pure rfl (fun _ s => seqT s (sqt ht1)) ?_ ?_
    · rintro i l y H3 H4 hi sm hl hz r ⟨rfl, hy⟩
      have s3 := s1.trans sm
      refine ⟨rfl, yes1 ?_⟩
      have tyy : TyX K H4 y (.type "dict") := by
        match i, hy with
        | 0, e => obtain rfl := Option.some.inj e; exact .base (.dK (s3 _ _ hP))
        | 1, e => obtain rfl := Option.some.inj e; exact .base (.dK (s3 _ _ hO))
        | 2, e => obtain rfl := Option.some.inj e; exact .base (.dT (s3 _ _ hS))
      exact ⟨_, rfl, _, _, _, _, true, rfl, .ty _, tyy, kit_ty (by decide +kernel), lc_put off_pure hD (by simp at hi; omega) sm hl hz (tru_snoc r rfl)⟩
    intro l H2 sm2 hl2 hz2 r
    subst r
    have s2 := s1.trans sm2
    refine ⟨_, _, rfl, sq hl2, _, rfl, ite_no (by rw [all_rep]; rfl) ?_⟩
    clear hD hl2 hz2 ht1
    refine ⟨_, rfl, dP, _, rfl, s2 _ _ hP, rfl, _, rfl, ite_no (decide_eq_false (by intro z; injection z with z; omega)) ?_⟩
    -- all([is_sign(sign) for sign in put])
    have hP2 := s2 _ _ hP
    refine ⟨dP, _, hP2, trivial, fun od => ?_⟩
    have sx : SameX dP H2 (upd H2 dP (.frz od (.dK (dkS m.sgs m.put)))) := locked
    have hfz : (upd H2 dP (.frz od (.dK (dkS m.sgs m.put)))) dP = some (.frz od (.dK (dkS m.sgs m.put))) := upd_same
    generalize upd H2 dP (.frz od (.dK (dkS m.sgs m.put))) = H3 at sx hfz ⊢
    refine ⟨_, rfl, dP, od, rfl, .inl ⟨_, hfz, fun D hD => ?_⟩⟩
    refine lc_wk Wk.keys hD Tru off_pure rfl (fun _ s => s _ _ hfz) ?_ ?_
    · rintro i l y H4 H5 hi sm hl hz t ⟨rfl, k, v, e1, rfl⟩
      rw [List.length_map] at hi
      obtain ⟨x, hx, rfl, rfl⟩ := dkS_at e1
      refine ⟨rfl, yes1 ?_⟩
      exact ⟨_, rfl, x, rfl, ok.asc.isSg (List.mem_of_getElem? hx), lc_put off_pure hD (by omega) sm hl hz (tru_snoc t rfl)⟩
    intro l H4 sm4 hl4 hz4 t
    refine ⟨sm4 _ _ hfz, ?_⟩
    have nDd : D ≠ dP := fun z => by rw [z, hfz] at hD; cases hD
    have s5 : Same H (upd H4 dP (.dK (dkS m.sgs m.put))) := s2.trans (unlock hP2 (sx.trans (Same.x dP sm4)))
    have hl5 : (upd H4 dP (.dK (dkS m.sgs m.put))) D = some (.lst l) := by rw [upd_ne nDd]; exact hl4
    subst t
    generalize upd H4 dP (.dK (dkS m.sgs m.put)) = H5 at s5 hl5 ⊢
    refine ⟨_, _, rfl, sq hl5, _, rfl, ite_no (by rw [all_rep]; rfl) ?_⟩
    clear hfz sx hD sm4 hl4 hz4 nDd hl5
    -- len(put) != len(out)
    refine ⟨_, rfl, dP, _, rfl, s5 _ _ hP, _, rfl, dO, _, rfl, s5 _ _ hO, rfl, _, rfl, ite_no (by rw [ln, lo, decide_eq_true rfl]; rfl) ?_⟩
    -- all([sign in out for sign in put])
    have hP5 := s5 _ _ hP
    refine ⟨dP, _, hP5, trivial, fun od => ?_⟩
    have sx : SameX dP H5 (upd H5 dP (.frz od (.dK (dkS m.sgs m.put)))) := locked
    have hfz : (upd H5 dP (.frz od (.dK (dkS m.sgs m.put)))) dP = some (.frz od (.dK (dkS m.sgs m.put))) := upd_same
    generalize upd H5 dP (.frz od (.dK (dkS m.sgs m.put))) = H6 at sx hfz ⊢
    have rO : Rd H6 dO (.dK (dkS m.sgs m.out)) := by
      by_cases c : dO = dP
      · subst c
        rw [hO] at hP
        have e := Option.some.inj hP
        rw [e]
        exact .inr ⟨od, hfz⟩
      · exact .inl (sx _ _ c (s5 _ _ hO))
    refine ⟨_, rfl, dP, od, rfl, .inl ⟨_, hfz, fun D hD => ?_⟩⟩
    refine lc_wk Wk.keys hD Tru off_pure rfl (fun _ s => s _ _ hfz) ?_ ?_
    · rintro i l y H7 H8 hi sm hl hz t ⟨rfl, k, v, e1, rfl⟩
      rw [List.length_map] at hi
      obtain ⟨x, hx, rfl, rfl⟩ := dkS_at e1
      have rO7 : Rd H8 dO (.dK (dkS m.sgs m.out)) := by
        rcases rO with h | ⟨o, h⟩
        · exact .inl (sm _ _ h)
        · exact .inr ⟨o, sm _ _ h⟩
      refine ⟨rfl, yes1 ?_⟩
      refine ⟨_, rfl, _, rfl, dO, _, rfl, .inl ⟨_, .inr x, rO7, rfl, rfl⟩, ?_⟩
      rw [valV_dkS, if_pos (List.mem_of_getElem? hx)]
      exact lc_put off_pure hD (by omega) sm hl hz (tru_snoc t rfl)
    intro l H7 sm7 hl7 hz7 t
    refine ⟨sm7 _ _ hfz, ?_⟩
    have nDd : D ≠ dP := fun z => by rw [z, hfz] at hD; cases hD
    have s8 : Same H (upd H7 dP (.dK (dkS m.sgs m.put))) := s5.trans (unlock hP5 (sx.trans (Same.x dP sm7)))
    have hl8 : (upd H7 dP (.dK (dkS m.sgs m.put))) D = some (.lst l) := by rw [upd_ne nDd]; exact hl7
    subst t
    generalize upd H7 dP (.dK (dkS m.sgs m.put)) = H8 at s8 hl8 ⊢
    refine ⟨_, _, rfl, sq hl8, _, rfl, ite_no (by rw [all_rep]; rfl) ?_⟩
    clear hfz sx hD sm7 hl7 hz7 nDd hl8 rO
    -- all([is_price(price, MAX_PRICE) for price in list(put.values()) + list(out.values())])
    refine ⟨_, rfl, dP, _, rfl, s8 _ _ hP, fun V1 hV1 => ?_⟩
    have s9 := s8.trans (same_upd (o := .lst ((dkS m.sgs m.put).map (·.2))) hV1)
    have h91 : (upd H8 V1 (.lst ((dkS m.sgs m.put).map (·.2)))) V1 = some (.lst ((dkS m.sgs m.put).map (·.2))) := upd_same
    generalize upd H8 V1 (.lst ((dkS m.sgs m.put).map (·.2))) = H9 at s9 h91 ⊢
    refine ⟨_, rfl, dO, _, rfl, s9 _ _ hO, fun V2 hV2 => ?_⟩
    have s10 := s9.trans (same_upd (o := .lst ((dkS m.sgs m.out).map (·.2))) hV2)
    have h101 := same_upd (o := .lst ((dkS m.sgs m.out).map (·.2))) hV2 _ _ h91
    have h102 : (upd H9 V2 (.lst ((dkS m.sgs m.out).map (·.2)))) V2 = some (.lst ((dkS m.sgs m.out).map (·.2))) := upd_same
    generalize upd H9 V2 (.lst ((dkS m.sgs m.out).map (·.2))) = H10 at s10 h101 h102 ⊢
    refine ⟨V1, V2, _, _, rfl, rfl, h101, h102, szle (by simp; omega), fun V3 hV3 => ?_⟩
    have ea : (dkS m.sgs m.put).map (·.2) ++ (dkS m.sgs m.out).map (·.2) = (m.sgs.map m.put ++ m.sgs.map m.out).map V.int := by
      rw [List.map_append, List.map_map, List.map_map, List.map_map, List.map_map]
      rfl
    rw [ea]
    have s11 := s10.trans (same_upd (o := .lst ((m.sgs.map m.put ++ m.sgs.map m.out).map V.int)) hV3)
    have h11 : (upd H10 V3 (.lst ((m.sgs.map m.put ++ m.sgs.map m.out).map V.int))) V3 = some (.lst ((m.sgs.map m.put ++ m.sgs.map m.out).map V.int)) := upd_same
    generalize upd H10 V3 (.lst ((m.sgs.map m.put ++ m.sgs.map m.out).map V.int)) = H11 at s11 h11 ⊢
    refine ⟨V3, rfl, ⟨_, sq h11⟩, fun D hD => ?_⟩
    refine lc_wk Wk.list hD Tru off_pure rfl (fun _ s => s.seq (sq h11)) ?_ ?_
    · rintro i l y H12 H13 hi sm hl hz t ⟨rfl, hy⟩
      rw [List.length_map, List.length_append, List.length_map, List.length_map] at hi
      obtain ⟨k, hk, rfl⟩ := ints_at hy
      have hb : 1 ≤ k ∧ k ≤ 9 := by
        rcases List.mem_append.mp (List.mem_of_getElem? hk) with h | h
        · obtain ⟨x, hx, rfl⟩ := List.mem_map.mp h
          exact ok.put x hx
        · obtain ⟨x, hx, rfl⟩ := List.mem_map.mp h
          exact ok.out x hx
      refine ⟨rfl, yes1 ?_⟩
      exact ⟨_, rfl, k, 9, rfl, hb.1, hb.2, by decide, lc_put off_pure hD (by omega) sm hl hz (tru_snoc t rfl)⟩
    intro l H12 sm12 hl12 hz12 t
    subst t
    have s12 := s11.trans sm12
    refine ⟨_, _, rfl, sq hl12, _, rfl, ite_no (by rw [all_rep]; rfl) ?_⟩
    clear hD hl12 hz12 h11 h101 h102 h91 hV1 hV2 hV3
    -- all([is_pair(pair, put) and is_price(price, MAX_SWAP) for pair, price in swap.items()])
    have hS12 := s12 _ _ hS
    have hP12 := s12 _ _ hP
    refine ⟨dS, _, hS12, trivial, fun od => ?_⟩
    have nPS : dP ≠ dS := fun z => by rw [z, hS] at hP; cases hP
    have sx : SameX dS H12 (upd H12 dS (.frz od (.dT kvs))) := locked
    have hfz : (upd H12 dS (.frz od (.dT kvs))) dS = some (.frz od (.dT kvs)) := upd_same
    have hP13 := sx _ _ nPS hP12
    generalize upd H12 dS (.frz od (.dT kvs)) = H13 at sx hfz hP13 ⊢
    refine ⟨_, rfl, dS, od, _, rfl, hfz, fun D hD => ?_⟩
    refine lc_wk Wk.itemsT hD Tru off_pure rfl (fun _ s => s _ _ hfz) ?_ ?_
    · rintro i l y H14 H15 hi sm hl hz t ⟨u, k, v, b, e1, rfl, nu, hb, rfl⟩
      obtain ⟨x, y, n, ek, ev⟩ := tk.form _ (List.mem_of_getElem? e1)
      injection ek with ek1 ek2
      subst ek1 ek2
      obtain ⟨g1, g2, g3, g4, g5⟩ := ok.swap x y n ev
      have sm2 : Same H14 (upd H14 u (.tup [.ref b, .int n])) := same_upd nu
      refine ⟨u, _, rfl, sqt upd_same, rfl, _, _, rfl, _, _, rfl, rfl, rfl, yes1 ?_⟩
      refine ⟨_, rfl, _, rfl, b, dP, x, y, _, rfl, sm2 _ _ hb, sm2 _ _ (sm _ _ hP13), ok.asc.isSg g1, ok.asc.isSg g2, g3, by rw [valV_dkS, if_pos g1]; rfl, by rw [valV_dkS, if_pos g2]; rfl, fun H16 s16 => ⟨true, rfl, iteT ?_⟩⟩
      exact ⟨_, rfl, n, 18, rfl, g4, g5, by decide, lc_put off_pure hD (by omega) ((sm.trans sm2).trans s16) (s16 _ _ (sm2 _ _ hl)) hz (tru_snoc t rfl)⟩
    · intro l H14 sm14 hl14 hz14 t
      subst t
      refine ⟨sm14 _ _ hfz, ?_⟩
      have nDd : D ≠ dS := fun z => by rw [z, hfz] at hD; cases hD
      have s15 : Same H12 (upd H14 dS (.dT kvs)) := unlock hS12 (sx.trans (Same.x dS sm14))
      exact ⟨_, _, rfl, sq (by rw [upd_ne nDd]; exact hl14), bl_of (all_rep _) (q _ (s12.trans s15))⟩
end K7
end

section
set_option Elab.async false
set_option linter.all false
set_option maxRecDepth 100000
namespace K7
open PySem PySem.Spec PyProof.Rows L2 SlX
/-! The walk: prices are made, and closed. -/
theorem refs_at {l : List Addr} {i : Nat} {y : V} (h : (l.map V.ref)[i]? = some y) : ∃ x, l[i]? = some x ∧ y = .ref x := by
  rw [List.getElem?_map] at h
  cases e : l[i]? with
  | none => rw [e] at h; cases h
  | some x => rw [e] at h; exact ⟨x, rfl, (Option.some.inj h).symm⟩
/-- of a table, what is told at some keys -/
def KeyAt (H : Hp) (b : Addr) (k : List Key) : Prop := H b = some (.tup (k.map kV))
theorem key_map_inj : ∀ {k j : List Key}, k.map kV = j.map kV → k = j
  | [], [], _ => rfl
  | [], _ :: _, h => by simp at h
  | _ :: _, [], h => by simp at h
  | x :: k, y :: j, h => by
    rw [List.map_cons, List.map_cons] at h
    injection h with h1 h2
    have e : x = y := by
      cases x <;> cases y <;> simp [kV] at h1 <;> rw [h1]
    rw [e, key_map_inj h2]
open Classical in
noncomputable def seenT (H : Hp) (cs : List Addr) (f : Tab Str) (i : Nat) : Tab Str := fun a b => if ∃ c ∈ cs.take i, H c = some (.tup [.str a, .str b]) then f a b else none
theorem seenT_step {H : Hp} {cs : List Addr} {f : Tab Str} {i : Nat} {c : Addr} {x y : Str} {v : Int} (hc : cs[i]? = some c) (e : H c = some (.tup [.str x, .str y])) (hv : f x y = some v) : tput (seenT H cs f i) x y v = seenT H cs f (i + 1) := by
  funext a b
  unfold tput seenT
  have tk : ∀ d, d ∈ cs.take (i + 1) ↔ d ∈ cs.take i ∨ d = c := fun d => by rw [List.take_add_one, hc, Option.toList_some, List.mem_append, List.mem_singleton]
  by_cases q : a = x ∧ b = y
  · obtain ⟨rfl, rfl⟩ := q
    rw [if_pos ⟨rfl, rfl⟩, if_pos ⟨c, (tk c).mpr (.inr rfl), e⟩, hv]
  · rw [if_neg q]
    have iff : (∃ d ∈ cs.take (i + 1), H d = some (.tup [.str a, .str b])) ↔ ∃ d ∈ cs.take i, H d = some (.tup [.str a, .str b]) := by
      constructor
      · rintro ⟨d, hd, h⟩
        rcases (tk d).mp hd with z | rfl
        · exact ⟨d, z, h⟩
        · rw [e] at h
          injection h with h
          injection h with h
          injection h with h1 h2
          injection h2 with h2 _
          injection h1 with h1
          injection h2 with h2
          exact absurd ⟨h1.symm, h2.symm⟩ q
      · rintro ⟨d, hd, h⟩
        exact ⟨d, (tk d).mpr (.inl hd), h⟩
    by_cases z : ∃ d ∈ cs.take i, H d = some (.tup [.str a, .str b])
    · rw [if_pos z, if_pos (iff.mpr z)]
    · rw [if_neg z, if_neg (fun k => z (iff.mp k))]
theorem seenT_nil {H : Hp} {cs : List Addr} {f : Tab Str} : seenT H cs f 0 = fun _ _ => none := by
  funext a b
  unfold seenT
  rw [if_neg (by rintro ⟨c, h, _⟩; simp at h)]
theorem keys_in {H : Hp} {kvs : List (List Key × V)} {bs : List Addr} (h : IsKeys H kvs bs) : (∀ b ∈ bs, ∃ e ∈ kvs, H b = some (.tup (e.1.map kV))) ∧ (∀ e ∈ kvs, ∃ b ∈ bs, H b = some (.tup (e.1.map kV))) ∧ bs.length = kvs.length := by
  unfold IsKeys at h
  induction h with
  | nil => exact ⟨fun _ h => (List.not_mem_nil h).elim, fun _ h => (List.not_mem_nil h).elim, rfl⟩
  | @cons a b l₁ l₂ hq t ih =>
    obtain ⟨i1, i2, i3⟩ := ih
    refine ⟨fun x hx => ?_, fun x hx => ?_, by simp [i3]⟩
    · rcases List.mem_cons.mp hx with rfl | hx
      · exact ⟨a, List.mem_cons_self, hq⟩
      · obtain ⟨e, h1, h2⟩ := i1 x hx
        exact ⟨e, List.mem_cons_of_mem _ h1, h2⟩
    · rcases List.mem_cons.mp hx with rfl | hx
      · exact ⟨b, List.mem_cons_self, hq⟩
      · obtain ⟨e, h1, h2⟩ := i2 x hx
        exact ⟨e, List.mem_cons_of_mem _ h1, h2⟩
/-! ### Prices.__init__ -/
def sp_Prices_init {K : PySem.W.Frag} {mg : Str → Option Value} (T : Txt K mg) : Sp := fun vs H Q _ => ∃ (H0 : Hp) (a dx dP dO dS : Addr) (m : PrM), vs = [.ref a, .ref dP, .ref dO, .ref dS] ∧ Same H0 H ∧ H0 a = none ∧ H0 dx = none ∧ dx ≠ a ∧ H a = some (.ins T.C_Prices dx []) ∧ (∃ o, H dx = some o) ∧ H0 dP = some (.dK (dkS m.sgs m.put)) ∧ H0 dO = some (.dK (dkS m.sgs m.out)) ∧ TabS H0 dS m.swap ∧ PrOk m ∧
  ∀ H', Same H0 H' → PrAt T.C_Prices H' a m → Q .non H'
set_option maxHeartbeats 4000000 in
theorem ok_Prices_init {P : Program} {w : World} {K : PySem.W.Frag} {mg : Str → Option Value} {base : Heap} (T : Txt K mg) : FnOk P w K mg base CX0 4 T.a_Prices_init T.d_Prices_init ["self", "put", "out", "swap"] (sp_Prices_init T) := by
  refine T.F_Prices_init.ok sc_Prices_init (fun vs H Q E h => ?_) (fun cdv A outer s H vs Q E hr h => ?_)
  · obtain ⟨H0, a, dx, dP, dO, dS, m, rfl, s0, na, nd, nda, ha, ⟨od, hod⟩, hP, hO, ⟨kvs, hS, l50, tk⟩, ok, q⟩ := h
    rfl
  · obtain ⟨H0, a, dx, dP, dO, dS, m, rfl, s0, na, nd, nda, ha, ⟨od, hod⟩, hP, hO, ⟨kvs, hS, l50, tk⟩, ok, q⟩ := h
    refine ⟨_, PSs.nox (pss_cons (ps_if (pt_not (pt_val (pe_call (ok_are_prices T) (hr.mono (by decide)) (by rfl) T.g_are_prices T.F_are_prices.kp (b_are_prices T) .nil pass0 (pa_cons (pv 1) (pa_cons (pv 2) (pa_cons (pv 3) pa_nil)))))) pss_never pss_nil)
      (pss_cons (ps_sl (pv 0) (pe_dc (own := [("sign", 4)]) rfl sc_Prices_init.nd (pi_listK K (pe_callB cr_sortedS (by rfl) T.n_sorted (by decide +kernel) (pa_cons (pe_callTy (call_list_dK rfl) (by rfl) T.n_list (by decide +kernel) (pa_cons (pv 1) pa_nil)) pa_nil))) (blkOk_by (own := [("sign", 4)]) (N := n_Prices_init) (sc := defScope s_Prices_init) (by decide +kernel)) (fun _ _ _ _ _ => (pg_name (i := 4) sc_Prices_init.nd rfl (by first | exact .inl rfl | exact .inr rfl))) (fun _ _ _ _ _ => pts_nil) (fun _ _ _ _ _ => (pv 4)) (fun _ _ _ _ _ => (pe_dget (hu_of hr) (pv 1) (pv 4) (fun _ _ => rfl)))))
      (pss_cons (ps_sl (pv 0) (pe_dc (own := [("sign", 4)]) rfl sc_Prices_init.nd (pi_listK K (pe_callB cr_sortedS (by rfl) T.n_sorted (by decide +kernel) (pa_cons (pe_callTy (call_list_dK rfl) (by rfl) T.n_list (by decide +kernel) (pa_cons (pv 1) pa_nil)) pa_nil))) (blkOk_by (own := [("sign", 4)]) (N := n_Prices_init) (sc := defScope s_Prices_init) (by decide +kernel)) (fun _ _ _ _ _ => (pg_name (i := 4) sc_Prices_init.nd rfl (by first | exact .inl rfl | exact .inr rfl))) (fun _ _ _ _ _ => pts_nil) (fun _ _ _ _ _ => (pv 4)) (fun _ _ _ _ _ => (pe_dget (hu_of hr) (pv 2) (pv 4) (fun _ _ => rfl)))))
      (pss_one (ps_sl (pv 0) (pe_dcT (own := [("pair", 5)]) rfl hr.units sc_Prices_init.nd (pi_listK K (pe_callB (cr_sortedPS rfl hr.units) (by rfl) T.n_sorted (by decide +kernel) (pa_cons (pe_callTy (call_list_dT rfl) (by rfl) T.n_list (by decide +kernel) (pa_cons (pv 3) pa_nil)) pa_nil))) (blkOk_by (own := [("pair", 5)]) (N := n_Prices_init) (sc := defScope s_Prices_init) (by decide +kernel)) (fun _ _ _ _ _ => (pg_name (i := 5) sc_Prices_init.nd rfl (by first | exact .inl rfl | exact .inr rfl))) (fun _ _ _ _ _ => pts_nil) (fun _ _ _ _ _ => (pv 5)) (fun _ _ _ _ _ => (pe_dget (hu_of hr) (pv 3) (pv 5) (fun _ _ => rfl))))))))), ?_⟩
    have l5 := ok.asc.len5
    have hsg : (dkS m.sgs m.put).map (fun kv => kV kv.1) = m.sgs.map V.str := by rw [List.map_map]; rfl
    refine ⟨_, rfl, _, rfl, _, rfl, dP, dO, dS, m, rfl, s0 _ _ hP, s0 _ _ hO, ⟨kvs, s0 _ _ hS, l50, tk⟩, ok, fun H1 s1 => ⟨_, rfl, ite_no rfl ?_⟩⟩
    have s01 := s0.trans s1
    -- self.own_put = {sign: put[sign] for sign in sorted(list(put))}
    refine ⟨_, rfl, dP, _, rfl, s01 _ _ hP, fun L hL => ?_⟩
    rw [hsg]
    have s2 := s1.trans (same_upd (o := .lst (m.sgs.map V.str)) hL)
    refine ⟨L, m.sgs, rfl, sq upd_same, by omega, fun ys p pm srt hp => ?_⟩
    obtain rfl := ok.asc.sorted pm srt
    have s3 := s2.trans (same_upd (o := .lst (m.sgs.map V.str)) hp)
    have hp3 : (upd (upd H1 L (.lst (m.sgs.map V.str))) p (.lst (m.sgs.map V.str))) p = some (.lst (m.sgs.map V.str)) := upd_same
    generalize upd (upd H1 L (.lst (m.sgs.map V.str))) p (.lst (m.sgs.map V.str)) = H3 at s3 hp3 ⊢
    have t3 := s0.trans s3
    refine ⟨p, rfl, ⟨_, sq hp3⟩, fun D hD => ?_⟩
    refine dc_wk Wk.list hD (fun i l => l = dkS (m.sgs.take i) m.put) rfl (fun _ s => s.seq (sq hp3)) ?_ ?_
    · rintro i l y H4 H5 hi sm hl hz e ⟨rfl, hy⟩
      rw [List.length_map] at hi
      obtain ⟨x, hx, rfl⟩ := strs_at hy
      refine ⟨rfl, yes2 ?_⟩
      refine ⟨_, rfl, _, rfl, _, rfl, dP, .int (m.put x), rfl, .inl ⟨_, .inr x, .inl (sm _ _ (t3 _ _ hP)), rfl, by rw [valV_dkS, if_pos (List.mem_of_getElem? hx)]⟩, ?_⟩
      refine dc_put (k := .inr x) hD (by omega) sm hl hz ?_
      rw [e]
      exact dkS_put ok.asc.nodup hx
    intro l H4 sm4 hl4 hz4 e
    rw [List.length_map, List.take_of_length_le (Nat.le_refl _)] at e
    subst e
    have s4 := s3.trans sm4
    have hD0 : H D = none := s3.free hD
    have na1 : ∀ Hx, news H Hx a = none := fun _ => news_off ha
    have nd1 : ∀ Hx, news H Hx dx = none := fun _ => news_off hod
    refine ⟨_, rfl, a, _, dx, _, [], 1, rfl, .inl ⟨s4 _ _ ha, rfl⟩, T.S_Prices, T.sl_Prices_own_put, ?_⟩
    have ep : putS 1 (V.ref D) [] = [none, some (.ref D)] := rfl
    rw [ep]
    have s5 : Same H0 (slH H4 a T.C_Prices dx [none, some (.ref D)]) := slH_same (s0.trans s4) na nd
    have sl5 : Slt (slH H4 a T.C_Prices dx [none, some (.ref D)]) a T.C_Prices dx [none, some (.ref D)] := slH_slt nda
    have w5 : Same (news H H4) (slH H4 a T.C_Prices dx [none, some (.ref D)]) := slH_off news_same (na1 _) (nd1 _)
    have hD5 := w5 _ _ (news_get hD0 hl4)
    have nDa : D ≠ a := fun z => by rw [z, ha] at hD0; cases hD0
    have nDd : D ≠ dx := fun z => by rw [z, hod] at hD0; cases hD0
    clear hl4 w5 hp3 hp hL
    generalize slH H4 a T.C_Prices dx [none, some (.ref D)] = H5 at s5 sl5 hD5 ⊢
    -- self.own_out = {sign: out[sign] for sign in sorted(list(put))}
    refine ⟨_, rfl, dP, _, rfl, s5 _ _ hP, fun L hL => ?_⟩
    rw [hsg]
    refine ⟨L, m.sgs, rfl, sq upd_same, by omega, fun ys p pm srt hp => ?_⟩
    obtain rfl := ok.asc.sorted pm srt
    have s6 := (same_upd (o := .lst (m.sgs.map V.str)) hL).trans (same_upd (o := .lst (m.sgs.map V.str)) hp)
    have hp3 : (upd (upd H5 L (.lst (m.sgs.map V.str))) p (.lst (m.sgs.map V.str))) p = some (.lst (m.sgs.map V.str)) := upd_same
    generalize upd (upd H5 L (.lst (m.sgs.map V.str))) p (.lst (m.sgs.map V.str)) = H6 at s6 hp3 ⊢
    have t6 := s5.trans s6
    refine ⟨p, rfl, ⟨_, sq hp3⟩, fun O hO' => ?_⟩
    refine dc_wk Wk.list hO' (fun i l => l = dkS (m.sgs.take i) m.out) rfl (fun _ s => s.seq (sq hp3)) ?_ ?_
    · rintro i l y H7 H8 hi sm hl hz e ⟨rfl, hy⟩
      rw [List.length_map] at hi
      obtain ⟨x, hx, rfl⟩ := strs_at hy
      refine ⟨rfl, yes2 ?_⟩
      refine ⟨_, rfl, _, rfl, _, rfl, dO, .int (m.out x), rfl, .inl ⟨_, .inr x, .inl (sm _ _ (t6 _ _ hO)), rfl, by rw [valV_dkS, if_pos (List.mem_of_getElem? hx)]⟩, ?_⟩
      refine dc_put (k := .inr x) hO' (by omega) sm hl hz ?_
      rw [e]
      exact dkS_put ok.asc.nodup hx
    intro l H7 sm7 hl7 hz7 e
    rw [List.length_map, List.take_of_length_le (Nat.le_refl _)] at e
    subst e
    have s7 := s6.trans sm7
    obtain ⟨⟨oa, xa⟩, od', xd⟩ := slt_dx sl5
    have hO0 : H5 O = none := s6.free hO'
    have nOa : O ≠ a := fun z => by rw [z, xa] at hO0; cases hO0
    have nOd : O ≠ dx := fun z => by rw [z, xd] at hO0; cases hO0
    refine ⟨_, rfl, a, _, dx, _, _, 0, rfl, slt_same s7 sl5, T.S_Prices, T.sl_Prices_own_out, ?_⟩
    have ep : putS 0 (V.ref O) [none, some (.ref D)] = [some (.ref O), some (.ref D)] := rfl
    rw [ep]
    have s8 : Same H0 (slH H7 a T.C_Prices dx [some (.ref O), some (.ref D)]) := slH_same (s5.trans s7) na nd
    have sl8 : Slt (slH H7 a T.C_Prices dx [some (.ref O), some (.ref D)]) a T.C_Prices dx [some (.ref O), some (.ref D)] := slH_slt nda
    have hD8 : (slH H7 a T.C_Prices dx [some (.ref O), some (.ref D)]) D = some (.dK (dkS m.sgs m.put)) := by rw [slH_ne nDa nDd]; exact s7 _ _ hD5
    have hO8 : (slH H7 a T.C_Prices dx [some (.ref O), some (.ref D)]) O = some (.dK (dkS m.sgs m.out)) := by rw [slH_ne nOa nOd]; exact hl7
    clear hl7 hp3 hp hL
    generalize slH H7 a T.C_Prices dx [some (.ref O), some (.ref D)] = H8 at s8 sl8 hD8 hO8 ⊢
    -- self.own_swap = {pair: swap[pair] for pair in sorted(list(swap))}
    refine ⟨_, rfl, dS, kvs, rfl, .inl (s8 _ _ hS), fun L bs hL hbs => ?_⟩
    have s9 := same_upd (o := .lst (bs.map V.ref)) hL
    obtain ⟨k1, k2', k3⟩ := keys_in hbs
    have hb2 : ∀ b ∈ bs, ∃ x y v, H8 b = some (.tup [.str x, .str y]) ∧ m.swap x y = some v := fun b hb => by
      obtain ⟨e, h1, h2⟩ := k1 b hb
      obtain ⟨x, y, v, rfl, hv⟩ := tk.form e h1
      exact ⟨x, y, v, h2, hv⟩
    refine ⟨L, bs, rfl, sq upd_same, by omega, fun b hb => ?_, fun cs p pm hp => ?_⟩
    · obtain ⟨x, y, v, h, _⟩ := hb2 b hb
      exact ⟨x, y, s9 _ _ h⟩
    have s10 := s9.trans (same_upd (o := .lst (cs.map V.ref)) hp)
    have hp10 : (upd (upd H8 L (.lst (bs.map V.ref))) p (.lst (cs.map V.ref))) p = some (.lst (cs.map V.ref)) := upd_same
    generalize upd (upd H8 L (.lst (bs.map V.ref))) p (.lst (cs.map V.ref)) = H10 at s10 hp10 ⊢
    have lcs : cs.length ≤ 50 := by rw [pm.length_eq]; omega
    refine ⟨p, rfl, ⟨_, sq hp10⟩, fun W hW => ?_⟩
    refine dt_wk Wk.list hW (fun i l => TabOk l (seenT H8 cs m.swap i)) (by show TabOk [] (seenT H8 cs m.swap 0); rw [seenT_nil]; exact .nil) (fun _ s => s.seq (sq hp10)) ?_ ?_
    · rintro i l y H11 H12 hi sm hl hz e ⟨rfl, hy⟩
      rw [List.length_map] at hi
      obtain ⟨c, hc, rfl⟩ := refs_at hy
      obtain ⟨x, y, v, hx, hv⟩ := hb2 c (pm.mem_iff.mp (List.mem_of_getElem? hc))
      have hx12 := sm _ _ (s10 _ _ hx)
      refine ⟨rfl, yes2 ?_⟩
      refine ⟨_, rfl, _, rfl, _, rfl, dS, .int v, rfl, .inr ⟨kvs, k2 x y, c, .inl (sm _ _ (s10 _ _ (s8 _ _ hS))), rfl, hx12, by rw [tk.get, hv]; rfl⟩, ?_⟩
      refine dt_put (k := k2 x y) hW (by omega) sm hx12 hl hz ?_
      show TabOk _ (seenT H8 cs m.swap (i + 1))
      rw [← seenT_step hc hx hv]
      exact e.put x y v
    intro l H11 sm11 hl11 hz11 e
    rw [List.length_map] at e hz11
    have e : TabOk l (seenT H8 cs m.swap cs.length) := e
    have all : seenT H8 cs m.swap cs.length = m.swap := by
      funext x y
      unfold seenT
      rw [List.take_of_length_le (Nat.le_refl _)]
      split
      · rfl
      · rename_i nn
        cases h : m.swap x y with
        | none => rfl
        | some v =>
          have g := tk.get x y
          rw [h] at g
          have hs : (kvs.any fun kv => decide (kv.1 = k2 x y)) = true := by rw [valV_any, g]; rfl
          obtain ⟨kv, h1, h2⟩ := List.any_eq_true.mp hs
          obtain ⟨b, h3, h4⟩ := k2' kv h1
          have h2 : kv.1 = k2 x y := of_decide_eq_true h2
          rw [h2] at h4
          exact absurd ⟨b, pm.mem_iff.mpr h3, h4⟩ nn
    rw [all] at e
    obtain ⟨⟨oa2, xa2⟩, od2, xd2⟩ := slt_dx sl8
    have hW0 : H8 W = none := s10.free hW
    have nWa : W ≠ a := fun z => by rw [z, xa2] at hW0; cases hW0
    have nWd : W ≠ dx := fun z => by rw [z, xd2] at hW0; cases hW0
    have s12 := s10.trans sm11
    refine ⟨_, rfl, a, _, dx, _, _, 2, rfl, slt_same s12 sl8, T.S_Prices, T.sl_Prices_own_swap, ?_⟩
    have ep : putS 2 (V.ref W) [some (.ref O), some (.ref D)] = [some (.ref O), some (.ref D), some (.ref W)] := rfl
    rw [ep]
    refine q _ (slH_same (s8.trans s12) na nd) ⟨dx, O, D, W, slH_slt nda, by rw [slH_ne nOa nOd]; exact s12 _ _ hO8, by rw [slH_ne nDa nDd]; exact s12 _ _ hD8, l, by rw [slH_ne nWa nWd]; exact hl11, by omega, e⟩
end K7
end

section
set_option Elab.async false
set_option linter.all false
set_option maxRecDepth 100000
namespace K7
open PySem PySem.Spec PyProof.Rows L2 SlX
/-! The walk: closed prices as prices. -/
/-! ### Prices.closed -/
def sp_Prices_closed {K : PySem.W.Frag} {mg : Str → Option Value} (T : Txt K mg) : Sp := fun vs H Q _ => ∃ (a : Addr) (m : PrM), vs = [.ref a] ∧ PrAt T.C_Prices H a m ∧ PrOk m ∧ ∀ H' c, Same H H' → PrAt T.C_Prices H' c (clM m.sgs (clT m)) → Q (.ref c) H'
set_option maxHeartbeats 4000000 in
theorem ok_Prices_closed {P : Program} {w : World} {K : PySem.W.Frag} {mg : Str → Option Value} {base : Heap} (T : Txt K mg) : FnOk P w K mg base CX0 6 T.a_Prices_closed T.d_Prices_closed ["self"] (sp_Prices_closed T) := by
  refine T.F_Prices_closed.ok sc_Prices_closed (fun vs H Q E h => ?_) (fun cdv A outer s H vs Q E hr h => ?_)
  · obtain ⟨a, m, rfl, pa, ok, q⟩ := h
    rfl
  · obtain ⟨a, m, rfl, pa, ok, q⟩ := h
    refine ⟨_, PSs.nox (pss_cons (ps_set (i := 1) sc_Prices_closed.nd rfl (by first | exact .inl rfl | exact .inr rfl) (pe_call (ok_closed_of T) (hr.mono (by decide)) (by rfl) T.g_closed_of T.F_closed_of.kp (b_closed_of T) .nil pass0 (pa_cons (pv 0) pa_nil)))
      (pss_one (ps_ret (pe_makeK0 T.mk_Prices (ok_Prices_init T) (hr.mono (by decide)) (by rfl) T.g_Prices (kb_Prices_init T) pass0 (pk_cons (pe_slK K (pv 1)) (pk_cons (pe_slK K (pv 1)) (pk_cons (pe_slK K (pv 1)) pk_nil))))))), ?_⟩
    have cok := cl_ok ok
    refine ⟨_, rfl, a, m, rfl, pa, ok, fun H1 c s1 fc pc => ?_⟩
    have pc1 := pc.keep (keep_of (news_same (H0 := H) (H' := H1)))
    obtain ⟨cx, dO, dP, dS, c1, c2, c3, c4⟩ := id pc1
    refine ⟨_, rfl, c, _, cx, _, _, _, _, rfl, c1, T.S_Closed, T.sl_Closed_own_put, rfl, ?_⟩
    refine ⟨_, rfl, c, _, cx, _, _, _, _, rfl, c1, T.S_Closed, T.sl_Closed_own_out, rfl, ?_⟩
    refine ⟨_, rfl, c, _, cx, _, _, _, _, rfl, c1, T.S_Closed, T.sl_Closed_own_swap, rfl, ?_⟩
    refine ⟨rfl, rfl, fun x dx hx hdx nd => ?_⟩
    have sc : Same H1 (upd (upd H1 dx (.own x)) x (.ins T.C_Prices dx [])) := (same_upd hdx).trans (same_upd (by rw [upd_ne nd.symm]; exact hx))
    refine ⟨H1, x, dx, dP, dO, dS, clM m.sgs (clT m), rfl, sc, hx, hdx, nd, upd_same, ⟨_, by rw [upd_ne nd]; exact upd_same⟩, c3, c2, c4, cok.pr, fun H2 s2 p2 => ⟨rfl, q H2 x (s1.trans s2) p2⟩⟩
end K7
end

section
set_option Elab.async false
set_option linter.all false
set_option maxRecDepth 100000
namespace K7
open PySem PySem.Spec PyProof.Rows L2 SlX
/-! The walk: the law's own closed prices. -/
/-! ### _law_closed -/
def sp__law_closed {K : PySem.W.Frag} {mg : Str → Option Value} (T : Txt K mg) : Sp := fun vs H Q _ => ∃ (a dP dO dS : Addr) (m : PrM), vs = [.ref a] ∧ H a = some (.lst [.ref dP, .ref dO, .ref dS]) ∧ H dP = some (.dK (dkS m.sgs m.put)) ∧ H dO = some (.dK (dkS m.sgs m.out)) ∧ TabS H dS m.swap ∧ PrOk m ∧ ∀ H' d, Same H H' → H d = none → TabAt H' d (clT m) → Q (.ref d) H'
set_option maxHeartbeats 4000000 in
theorem ok__law_closed {P : Program} {w : World} {K : PySem.W.Frag} {mg : Str → Option Value} {base : Heap} (T : Txt K mg) : FnOk P w K mg base CX0 1 T.a__law_closed T.d__law_closed ["rows"] (sp__law_closed T) := by
  refine T.F__law_closed.ok sc__law_closed (fun vs H Q E h => ?_) (fun cdv A outer s H vs Q E hr h => ?_)
  · obtain ⟨a, dP, dO, dS, m, rfl, hr1, hP, hO, ⟨kvs, hS, l50, tk⟩, ok, q⟩ := h
    rfl
  · obtain ⟨a, dP, dO, dS, m, rfl, hr1, hP, hO, ⟨kvs, hS, l50, tk⟩, ok, q⟩ := h
    refine ⟨_, PSs.nox (pss_cons (ps_asg (pv 0) (pg_lst (n := 3) rfl (pgs_cons (pg_name (i := 1) sc__law_closed.nd rfl (by first | exact .inl rfl | exact .inr rfl)) (pgs_cons (pg_name (i := 2) sc__law_closed.nd rfl (by first | exact .inl rfl | exact .inr rfl)) (pgs_cons (pg_name (i := 3) sc__law_closed.nd rfl (by first | exact .inl rfl | exact .inr rfl)) pgs_nil)))))
      (pss_cons (ps_par (i := 4) (j := 5) (by rfl) sc__law_closed.nd rfl rfl (by decide) rfl rfl (pa_cons (pe_dictItemsT rfl hr.units (pv 3) (by rfl) T.n_list (by rfl) T.n_dict) (pa_cons (pe_op op_cat (pe_lst (pa_cons pe_str pa_nil)) (pe_callB (call_sortedD rfl) (by rfl) T.n_sorted (by decide +kernel) (pa_cons (pv 1) pa_nil))) pa_nil)) (by rfl))
      (pss_cons (ps_lock (ps_for PassesOwn.never rfl (pi_keys (pv 1)) (pg_name (i := 6) sc__law_closed.nd rfl (by first | exact .inl rfl | exact .inr rfl)) (pss_one (ps_asg (pe_tup (pa_cons (pe_dget (hu_of hr) (pv 1) (pv 6) (fun _ _ => rfl)) (pa_cons (pe_dget (hu_of hr) (pv 2) (pv 6) (fun _ _ => rfl)) pa_nil))) (pg_tupK K (n := 2) rfl (pgs_cons (pg_sub (pv 4) (pe_tup (pa_cons pe_str (pa_cons (pv 6) pa_nil))) (set_dict (hu_of hr))) (pgs_cons (pg_sub (pv 4) (pe_tup (pa_cons (pv 6) (pa_cons pe_str pa_nil))) (set_dict (hu_of hr))) pgs_nil)))))))
      (pss_cons (ps_for PassesOwn.never rfl (pi_listK K (pv 5)) (pg_name (i := 7) sc__law_closed.nd rfl (by first | exact .inl rfl | exact .inr rfl)) (pss_one (ps_for PassesOwn.never rfl (pi_listK K (pv 5)) (pg_name (i := 8) sc__law_closed.nd rfl (by first | exact .inl rfl | exact .inr rfl)) (pss_one (ps_for PassesOwn.never rfl (pi_listK K (pv 5)) (pg_name (i := 9) sc__law_closed.nd rfl (by first | exact .inl rfl | exact .inr rfl)) (pss_one (ps_if (PW.pt (pw_and (pt_cmpR op_ne (pv 8) (pv 9) (nomark _)) (pw_and (pt_cmp (pc_din (hu_of hr) (pe_tup (pa_cons (pv 8) (pa_cons (pv 7) pa_nil))) (pv 4))) (pw_and1 (pt_cmp (pc_din (hu_of hr) (pe_tup (pa_cons (pv 7) (pa_cons (pv 9) pa_nil))) (pv 4))))))) (pss_cons (ps_set (i := 10) sc__law_closed.nd rfl (by first | exact .inl rfl | exact .inr rfl) (pe_op op_add (pe_dget (hu_of hr) (pv 4) (pe_tup (pa_cons (pv 8) (pa_cons (pv 7) pa_nil))) (fun _ _ => rfl)) (pe_dget (hu_of hr) (pv 4) (pe_tup (pa_cons (pv 7) (pa_cons (pv 9) pa_nil))) (fun _ _ => rfl))))
      (pss_one (ps_dput (hu_of hr) (pv 4) (pe_tup (pa_cons (pv 8) (pa_cons (pv 9) pa_nil))) (pe_callB (call_min2 rfl) (by rfl) T.n_min (by decide +kernel) (pa_cons (pv 10) (pa_cons (pe_dget2 (hu_of hr) (pv 4) (pe_tup (pa_cons (pv 8) (pa_cons (pv 9) pa_nil))) (pv 10) ⟨rfl, rfl, rfl, rfl⟩) pa_nil))) rfl))) pss_nil)))))))
      (pss_one (ps_ret (pv 4))))))), ?_⟩
    have l5 := ok.asc.len5
    refine ⟨_, rfl, a, _, rfl, sq hr1, rfl, _, _, rfl, _, _, rfl, _, _, rfl, rfl, ?_⟩
    have hks : (dkS m.sgs m.put).map (·.1) = m.sgs.map Sum.inr := by rw [List.map_map]; rfl
    -- found, nodes = dict(list(swaps.items())), [''] + sorted(puts)
    refine ⟨_, rfl, dS, kvs, rfl, hS, by omega, fun H1 tb s1 ft htb => ?_⟩
    refine ⟨szle (by simp), fun L1 hL1 => ?_⟩
    have s2 := s1.trans (same_upd (o := .lst [.str ""]) hL1)
    have htb2 := same_upd (o := .lst [.str ""]) hL1 _ _ htb
    have hL12 : (upd H1 L1 (.lst [.str ""])) L1 = some (.lst [.str ""]) := upd_same
    generalize upd H1 L1 (.lst [.str ""]) = H2 at s2 htb2 hL12 ⊢
    refine ⟨_, rfl, dP, _, m.sgs, rfl, .inl (s2 _ _ hP), hks, by omega, fun ys L2 pm srt hL2 => ?_⟩
    obtain rfl := ok.asc.sorted pm srt
    have s3 := s2.trans (same_upd (o := .lst (m.sgs.map V.str)) hL2)
    have htb3 := same_upd (o := .lst (m.sgs.map V.str)) hL2 _ _ htb2
    have hL13 := same_upd (o := .lst (m.sgs.map V.str)) hL2 _ _ hL12
    have hL23 : (upd H2 L2 (.lst (m.sgs.map V.str))) L2 = some (.lst (m.sgs.map V.str)) := upd_same
    generalize upd H2 L2 (.lst (m.sgs.map V.str)) = H3 at s3 htb3 hL13 hL23 ⊢
    refine ⟨L1, L2, _, _, rfl, rfl, hL13, hL23, szle (by simp; omega), fun N hN => ?_⟩
    have s4 := s3.trans (same_upd (o := .lst ([V.str ""] ++ m.sgs.map V.str)) hN)
    have htb4 := same_upd (o := .lst ([V.str ""] ++ m.sgs.map V.str)) hN _ _ htb3
    have hN4 : (upd H3 N (.lst ([V.str ""] ++ m.sgs.map V.str))) N = some (.lst ((ndS m).map V.str)) := upd_same
    generalize upd H3 N (.lst ([V.str ""] ++ m.sgs.map V.str)) = H4 at s4 htb4 hN4 ⊢
    have nNt : N ≠ tb := fun z => by rw [z, htb3] at hN; cases hN
    refine ⟨_, _, rfl, ?_⟩
    -- for sign in puts
    have hP4 := s4 _ _ hP
    refine ⟨dP, _, hP4, trivial, fun od => ?_⟩
    have ntP : tb ≠ dP := fun z => by rw [z, hP] at ft; cases ft
    have nNP : N ≠ dP := fun z => by rw [z, hP4] at hN4; cases hN4
    have sx : SameX dP H4 (upd H4 dP (.frz od (.dK (dkS m.sgs m.put)))) := locked
    have hfz : (upd H4 dP (.frz od (.dK (dkS m.sgs m.put)))) dP = some (.frz od (.dK (dkS m.sgs m.put))) := upd_same
    generalize upd H4 dP (.frz od (.dK (dkS m.sgs m.put))) = H5 at sx hfz ⊢
    have tp5 : TbP H5 tb 50 m.swap H5 := ⟨kvs, SameX.refl _ _, sx _ _ ntP htb4, l50, tk⟩
    have rO : Rd H5 dO (.dK (dkS m.sgs m.out)) := by
      by_cases c : dO = dP
      · subst c
        rw [hO] at hP
        have e := Option.some.inj hP
        rw [e]
        exact .inr ⟨od, hfz⟩
      · exact .inl (sx _ _ c (s4 _ _ hO))
    have ntO : dO ≠ tb := fun z => by rw [← z, hO] at ft; cases ft
    refine ⟨_, rfl, dP, od, rfl, .inl ⟨_, hfz, ?_⟩⟩
    refine for_wk (n := (dkS m.sgs m.put).length) (S := fun H => H dP = some (.frz od (.dK (dkS m.sgs m.put)))) Wk.keys (fun i σ H6 => ∃ (y6 y7 y8 y9 y10 : Option V), σ = [some (.ref a), some (.ref dP), some (.ref dO), some (.ref dS), some (.ref tb), some (.ref N), y6, y7, y8, y9, y10] ∧ TbP H5 tb (50 + 2 * i) ((m.sgs.take i).foldl (tini m) m.swap) H6)
      ⟨_, _, _, _, _, rfl, tp5⟩ (fun i σ H6 _ ⟨_, _, _, _, _, _, tp⟩ => tp.keep ntP.symm hfz) ?_ ?_
    · rintro i y σ H6 H7 hi ⟨y6, y7, y8, y9, y10, rfl, tp⟩ ⟨rfl, k, v, e1, rfl⟩
      rw [List.length_map] at hi
      obtain ⟨x, hx, rfl, rfl⟩ := dkS_at e1
      have hm := List.mem_of_getElem? hx
      have gP : DGet H7 dP (.str x) (some (.int (m.put x))) := .inl ⟨_, .inr x, .inr ⟨od, tp.keep ntP.symm hfz⟩, rfl, by rw [valV_dkS, if_pos hm]⟩
      have gO : DGet H7 dO (.str x) (some (.int (m.out x))) := .inl ⟨_, .inr x, by
        rcases rO with h | ⟨o, h⟩
        · exact .inl (tp.keep ntO h)
        · exact .inr ⟨o, tp.keep ntO h⟩, rfl, by rw [valV_dkS, if_pos hm]⟩
      refine ⟨_, rfl, _, rfl, dP, _, rfl, gP, _, rfl, _, rfl, dO, _, rfl, gO, szle (by simp), fun t ht => ?_⟩
      have tp7 := tp.mut (o := .tup [.int (m.put x), .int (m.out x)]) ht
      have ht7 : (upd H7 t (.tup [.int (m.put x), .int (m.out x)])) t = some (.tup [.int (m.put x), .int (m.out x)]) := upd_same
      generalize upd H7 t (.tup [.int (m.put x), .int (m.out x)]) = H8 at tp7 ht7 ⊢
      refine ⟨t, _, rfl, sqt ht7, rfl, ?_⟩
      refine ⟨_, _, rfl, _, rfl, _, rfl, szle (by simp), fun p hp => ?_⟩
      obtain ⟨H9, d9, tp9⟩ := (tp7.mut (o := .tup [.str "", .str x]) hp).put (v := m.put x) upd_same (by omega)
      refine ⟨tb, H9, rfl, d9, _, _, rfl, _, rfl, _, rfl, szle (by simp), fun p2 hp2 => ?_⟩
      obtain ⟨H10, d10, tp10⟩ := (tp9.mut (o := .tup [.str x, .str ""]) hp2).put (v := m.out x) upd_same (by omega)
      refine ⟨tb, H10, rfl, d10, rfl, _, _, _, _, _, rfl, ?_⟩
      rw [fold_step hx]
      exact tp10.le (by omega)
    · rintro σ H5' ⟨y6, y7, y8, y9, y10, rfl, tp⟩
      rw [List.length_map, List.take_of_length_le (Nat.le_refl _)] at tp
      have hf5 := tp.keep ntP.symm hfz
      refine ⟨hf5, ?_⟩
      obtain ⟨l, k1, k2, k3, k4⟩ := id tp
      have k2' : (upd H5' dP (.dK (dkS m.sgs m.put))) tb = some (.dT l) := by rw [upd_ne ntP]; exact k2
      have s6 : Same H (upd H5' dP (.dK (dkS m.sgs m.put))) := fun b o e => by
        by_cases c : b = dP
        · subst c
          rw [hP] at e
          rw [upd_same]
          exact e
        · rw [upd_ne c]
          exact k1 _ _ (fun z => by rw [z, ft] at e; cases e) (sx _ _ c (s4 _ _ e))
      have hN6 : (upd H5' dP (.dK (dkS m.sgs m.put))) N = some (.lst ((ndS m).map V.str)) := by
        rw [upd_ne nNP]
        exact tp.keep nNt (sx _ _ nNP hN4)
      generalize upd H5' dP (.dK (dkS m.sgs m.put)) = H6 at k2' s6 hN6 ⊢
      have tq : TbP H6 tb 60 (clP m 0 0 0) H6 := ⟨l, SameX.refl _ _, k2', by omega, k4⟩
      clear tp tp5 hN htb4 htb3 htb2 hN4 sx hfz k1 k2 k4 hP4
      have len6 : (ndS m).length ≤ 6 := by show m.sgs.length + 1 ≤ 6; omega
      have nds : ∀ {i : Nat} {y : V}, ((ndS m).map V.str)[i]? = some y → ∃ x, (ndS m)[i]? = some x ∧ y = .str x := fun h => strs_at h
      -- for middle in nodes
      refine ⟨_, rfl, _, rfl, ⟨_, sq hN6⟩, ?_⟩
      refine for_wk (n := ((ndS m).map V.str).length) (S := fun H => SqL K H N ((ndS m).map V.str)) Wk.list (fun i σ H7 => ∃ (y6 y7 y8 y9 y10 : Option V), σ = [some (.ref a), some (.ref dP), some (.ref dO), some (.ref dS), some (.ref tb), some (.ref N), y6, y7, y8, y9, y10] ∧ TbP H6 tb (60 + 36 * i) (clP m i 0 0) H7)
        ⟨_, _, _, _, _, rfl, tq⟩ (fun i σ H7 _ ⟨_, _, _, _, _, _, tp⟩ => sq (tp.keep nNt hN6)) ?_ ?_
      · rintro i y σ H7 H7' hi ⟨y6, y7, y8, y9, y10, rfl, tp7⟩ ⟨rfl, hy⟩
        rw [List.length_map] at hi
        obtain ⟨x, hx, rfl⟩ := nds hy
        -- for one in nodes
        refine ⟨_, rfl, _, rfl, ⟨_, sq (tp7.keep nNt hN6)⟩, ?_⟩
        refine for_wk (n := ((ndS m).map V.str).length) (S := fun H => SqL K H N ((ndS m).map V.str)) Wk.list (fun j σ H8 => ∃ (y8 y9 y10 : Option V), σ = [some (.ref a), some (.ref dP), some (.ref dO), some (.ref dS), some (.ref tb), some (.ref N), y6, some (.str x), y8, y9, y10] ∧ TbP H6 tb (60 + 36 * i + 6 * j) (clP m i j 0) H8)
          ⟨_, _, _, rfl, tp7⟩ (fun j σ H8 _ ⟨_, _, _, _, tp⟩ => sq (tp.keep nNt hN6)) ?_ ?_
        · rintro j y σ H8 H8' hj ⟨y8, y9, y10, rfl, tp8⟩ ⟨rfl, hy⟩
          rw [List.length_map] at hj
          obtain ⟨y, hy', rfl⟩ := nds hy
          -- for other in nodes
          refine ⟨_, rfl, _, rfl, ⟨_, sq (tp8.keep nNt hN6)⟩, ?_⟩
          refine for_wk (n := ((ndS m).map V.str).length) (S := fun H => SqL K H N ((ndS m).map V.str)) Wk.list (fun k σ H9 => ∃ (y9 y10 : Option V), σ = [some (.ref a), some (.ref dP), some (.ref dO), some (.ref dS), some (.ref tb), some (.ref N), y6, some (.str x), some (.str y), y9, y10] ∧ TbP H6 tb (60 + 36 * i + 6 * j + k) (clP m i j k) H9)
            ⟨_, _, rfl, tp8⟩ (fun k σ H9 _ ⟨_, _, _, tp⟩ => sq (tp.keep nNt hN6)) ?_ ?_
          · rintro k z σ H9 H9' hk ⟨y9, y10, rfl, tp9⟩ ⟨rfl, hz⟩
            rw [List.length_map] at hk
            obtain ⟨z, hz', rfl⟩ := nds hz
            have st := clP_k hx hy' hz'
            refine ⟨_, rfl, _, rfl, rfl, _, rfl, ?_⟩
            have nx : ∀ H', TbP H6 tb (60 + 36 * i + 6 * j + k) (clP m i j k) H' → clP m i j (k + 1) = clP m i j k → TbP H6 tb (60 + 36 * i + 6 * j + (k + 1)) (clP m i j (k + 1)) H' := fun H' t e => by
              rw [e]
              exact t.le (by omega)
            by_cases c1 : y = z
            · refine ite_no (by rw [decide_eq_true (by rw [c1])]; rfl) ?_
              refine ite_no rfl ?_
              exact ⟨_, _, rfl, nx _ tp9 (st.trans (relax_eq c1))⟩
            refine ite_of (by rw [decide_eq_false (by intro q; injection q with q; exact c1 q)]; rfl) ?_
            refine ⟨_, rfl, _, rfl, szle (by simp), fun p1 hp1 => ?_⟩
            have tp10 := tp9.mut (o := .tup [.str y, .str x]) hp1
            have g1 := tp10.get (a := y) (b := x) upd_same
            have hp1' : (upd H9' p1 (.tup [.str y, .str x])) p1 = some (.tup [.str y, .str x]) := upd_same
            generalize upd H9' p1 (.tup [.str y, .str x]) = H10 at tp10 g1 hp1' ⊢
            refine ⟨_, rfl, tb, _, rfl, g1, _, rfl, ?_⟩
            cases e1 : clP m i j k y x with
            | none =>
              refine ite_no (by rfl) ?_
              refine ite_no rfl ?_
              exact ⟨_, _, rfl, nx _ tp10 (st.trans (relax_l e1))⟩
            | some u =>
            rw [e1] at g1
            refine ite_of (by rfl) ?_
            refine ⟨_, rfl, _, rfl, szle (by simp), fun p2 hp2 => ?_⟩
            have tp11 := tp10.mut (o := .tup [.str x, .str z]) hp2
            have g2 := tp11.get (a := x) (b := z) upd_same
            generalize upd H10 p2 (.tup [.str x, .str z]) = H11 at tp11 g2 ⊢
            refine ⟨_, rfl, tb, _, rfl, g2, _, rfl, ?_⟩
            cases e2 : clP m i j k x z with
            | none =>
              refine ite_no (by rfl) ?_
              exact ⟨_, _, rfl, nx _ tp11 (st.trans (relax_r e2))⟩
            | some v =>
            rw [e2] at g2
            refine ite_of (by rfl) ?_
            -- price = table[one, middle] + table[middle, other]
            refine ⟨_, rfl, _, rfl, _, rfl, szle (by simp), fun p3 hp3 => ?_⟩
            have tp12 := tp11.mut (o := .tup [.str y, .str x]) hp3
            have g3 := tp12.get (a := y) (b := x) upd_same
            rw [e1] at g3
            generalize upd H11 p3 (.tup [.str y, .str x]) = H12 at tp12 g3 ⊢
            refine ⟨tb, .int u, rfl, g3, _, rfl, _, rfl, _, rfl, szle (by simp), fun p4 hp4 => ?_⟩
            have tp13 := tp12.mut (o := .tup [.str x, .str z]) hp4
            have g4 := tp13.get (a := x) (b := z) upd_same
            rw [e2] at g4
            generalize upd H12 p4 (.tup [.str x, .str z]) = H13 at tp13 g4 ⊢
            refine ⟨tb, .int v, rfl, g4, _, _, rfl, rfl, ?_⟩
            -- table[one, other] = min(price, table.get((one, other), price))
            have isd : IsD H13 tb := by
              obtain ⟨l, _, h, _⟩ := tp13
              exact .inr ⟨l, .inl h⟩
            refine ⟨_, rfl, _, rfl, tb, rfl, isd, _, rfl, _, rfl, szle (by simp), fun p5 hp5 => ?_⟩
            have tp14 := tp13.mut (o := .tup [.str y, .str z]) hp5
            have g5 := tp14.get (a := y) (b := z) upd_same
            generalize upd H13 p5 (.tup [.str y, .str z]) = H14 at tp14 g5 ⊢
            have e5 : ((clP m i j k y z).map V.int).getD (.int (u + v)) = .int ((clP m i j k y z).getD (u + v)) := by cases clP m i j k y z <;> rfl
            refine ⟨_, rfl, _, g5, u + v, (clP m i j k y z).getD (u + v), ?_, ?_⟩
            · show [V.int (u + v), ((clP m i j k y z).map V.int).getD (.int (u + v))] = _
              rw [e5]
            refine ⟨_, rfl, _, rfl, _, rfl, szle (by simp), fun p6 hp6 => ?_⟩
            obtain ⟨H15, d15, tp15⟩ := (tp14.mut (o := .tup [.str y, .str z]) hp6).put (v := mn (u + v) ((clP m i j k y z).getD (u + v))) upd_same (by omega)
            refine ⟨tb, H15, rfl, d15, _, _, rfl, ?_⟩
            rw [st, relax_put c1 e1 e2]
            exact tp15
          · rintro σ H9 ⟨y9, y10, rfl, tp9⟩
            rw [List.length_map, clP_j hx hy'] at tp9
            exact ⟨_, _, _, rfl, tp9.le (by omega)⟩
        · rintro σ H8 ⟨y8, y9, y10, rfl, tp8⟩
          rw [List.length_map, clP_i hx] at tp8
          exact ⟨_, _, _, _, _, rfl, tp8.le (by omega)⟩
      · rintro σ H7 ⟨y6, y7, y8, y9, y10, rfl, tp7⟩
        rw [List.length_map, clP_all] at tp7
        have s7 := tp7.same s6 ft
        obtain ⟨tl, _, t2, t3, t4⟩ := id tp7
        have n6 : (ndS m).length ≤ 6 := len6
        exact ⟨_, rfl, q H7 tb s7 ft ⟨tl, t2, by omega, t4⟩⟩
end K7
end

section
set_option Elab.async false
set_option linter.all false
set_option maxRecDepth 100000
namespace K7
open PySem PySem.Spec PyProof.Rows L2 SlX
/-! The walk: the law's own ways. -/
/-- a dict of ways, as the law keeps it -/
structure FdOk (n : Nat) (kvs : List (List Key × V)) (f : Fd) : Prop where
  keys : ∃ ks : List (Nat × Nat), kvs.map (·.1) = ks.map kI2 ∧ ks.Nodup ∧ ∀ k, k ∈ ks ↔ ∃ v, f k.1 k.2 = some v
  get : ∀ p t, valV kvs (kI2 (p, t)) = (f p t).map V.int
  lt : ∀ p t v, f p t = some v → p < n ∧ t < n
def fput (f : Fd) (p t : Nat) (v : Int) : Fd := fun a b => if a = p ∧ b = t then some v else f a b
theorem kI2_inj {a b : Nat × Nat} (h : kI2 a = kI2 b) : a = b := by
  unfold kI2 at h
  injection h with h1 h2
  injection h2 with h2 _
  injection h1 with h1
  injection h2 with h2
  exact Prod.ext (by omega) (by omega)
/-- what is done of a turn -/
structure TurnP (n : Nat) (mv : Nat → List (Str × Nat)) (c : Str → Int) (f g : Fd) (Pd : Nat → Nat → Str × Nat → Prop) : Prop where
  mono : ∀ p t v, f p t = some v → ∃ u, g p t = some u ∧ u ≤ v
  rel : ∀ p s e v, Pd p s e → f p s = some v → ∃ u, g p e.2 = some u ∧ u ≤ v + c e.1
  snd : Snd n mv c g
theorem TurnP.step {n : Nat} {mv : Nat → List (Str × Nat)} {c : Str → Int} {f g : Fd} {Pd Pd' : Nat → Nat → Str × Nat → Prop} (h : TurnP n mv c f g Pd) {p s : Nat} {e : Str × Nat} {v0 v : Int} (hs : s < n) (he : e ∈ mv s) (hf : f p s = some v0) (hg : g p s = some v)
    (hP : ∀ a b x, Pd' a b x → Pd a b x ∨ (a = p ∧ b = s ∧ x = e)) : TurnP n mv c f (fput g p e.2 (mn (v + c e.1) ((g p e.2).getD (v + c e.1)))) Pd' := by
  have nv : ∀ w, g p e.2 = some w → mn (v + c e.1) ((g p e.2).getD (v + c e.1)) ≤ w := fun w hw => by
    rw [hw]
    exact mn_le_r _ _
  have hv : v ≤ v0 := by
    obtain ⟨u, hu, hl⟩ := h.mono p s v0 hf
    rw [hg] at hu
    have := Option.some.inj hu
    omega
  refine ⟨fun a b w hw => ?_, fun a b x w hx hw => ?_, fun a b w hw => ?_⟩
  · obtain ⟨u, hu, hl⟩ := h.mono a b w hw
    unfold fput
    split
    · rename_i q
      obtain ⟨rfl, rfl⟩ := q
      exact ⟨_, rfl, by have := nv u hu; omega⟩
    · exact ⟨u, hu, hl⟩
  · unfold fput
    rcases hP a b x hx with k | ⟨rfl, rfl, rfl⟩
    · obtain ⟨u, hu, hl⟩ := h.rel a b x w k hw
      split
      · rename_i q
        obtain ⟨rfl, q2⟩ := q
        rw [q2] at hu
        exact ⟨_, rfl, by have := nv u hu; omega⟩
      · exact ⟨u, hu, hl⟩
    · rw [if_pos ⟨rfl, rfl⟩]
      rw [hf] at hw
      have := Option.some.inj hw
      have l := mn_le_l (v + c x.1) ((g a x.2).getD (v + c x.1))
      exact ⟨_, rfl, by omega⟩
  · unfold fput at hw
    split at hw
    · rename_i q
      obtain ⟨rfl, rfl⟩ := q
      injection hw with hw
      obtain ⟨h1, h2⟩ := h.snd a s v hg
      refine ⟨h1, ?_⟩
      rcases mn_or (v + c e.1) ((g a e.2).getD (v + c e.1)) with z | z
      · rw [← hw, z]
        exact .snoc h2 ⟨hs, e, he, rfl, rfl⟩
      · cases k : g a e.2 with
        | none =>
          rw [k] at hw
          rw [← hw]
          show Pth n mv c a e.2 (mn (v + c e.1) (v + c e.1))
          rw [mn_self]
          exact .snoc h2 ⟨hs, e, he, rfl, rfl⟩
        | some u =>
          rw [k] at hw z
          rw [← hw, z]
          exact (h.snd a e.2 u k).2
    · exact h.snd a b w hw
theorem FdOk.put {n : Nat} {kvs : List (List Key × V)} {f : Fd} (h : FdOk n kvs f) {p t : Nat} (hp : p < n) (ht : t < n) (v : Int) : FdOk n (putK kvs (kI2 (p, t)) (.int v)) (fput f p t v) where
  keys := by
    obtain ⟨ks, h1, h2, h3⟩ := h.keys
    have any : (kvs.any fun kv => decide (kv.1 = kI2 (p, t))) = true ↔ (p, t) ∈ ks := by
      rw [List.any_eq_true]
      constructor
      · rintro ⟨kv, a, b⟩
        have b : kv.1 = kI2 (p, t) := of_decide_eq_true b
        have : kv.1 ∈ ks.map kI2 := h1 ▸ List.mem_map.mpr ⟨kv, a, rfl⟩
        obtain ⟨k, hk, e⟩ := List.mem_map.mp this
        rw [b] at e
        rw [← kI2_inj e]
        exact hk
      · intro hk
        have : kI2 (p, t) ∈ kvs.map (·.1) := h1 ▸ List.mem_map.mpr ⟨_, hk, rfl⟩
        obtain ⟨kv, a, b⟩ := List.mem_map.mp this
        exact ⟨kv, a, decide_eq_true b⟩
    have ex : ∀ k : Nat × Nat, (∃ u, fput f p t v k.1 k.2 = some u) ↔ (∃ u, f k.1 k.2 = some u) ∨ k = (p, t) := fun k => by
      unfold fput
      by_cases c : k.1 = p ∧ k.2 = t
      · rw [if_pos c]
        exact ⟨fun _ => .inr (Prod.ext c.1 c.2), fun _ => ⟨v, rfl⟩⟩
      · rw [if_neg c]
        exact ⟨.inl, fun z => z.elim id fun e => absurd ⟨congrArg Prod.fst e, congrArg Prod.snd e⟩ c⟩
    unfold putK
    by_cases c : (p, t) ∈ ks
    · rw [if_pos (any.mpr c)]
      refine ⟨ks, ?_, h2, fun k => ?_⟩
      · rw [List.map_map, ← h1]
        refine List.map_congr_left fun kv _ => ?_
        show (if kv.1 = kI2 (p, t) then (kv.1, V.int v) else kv).1 = kv.1
        split <;> rfl
      · rw [ex, ← h3]
        exact ⟨.inl, fun z => z.elim id fun e => e ▸ c⟩
    · rw [if_neg (fun z => c (any.mp z))]
      refine ⟨ks ++ [(p, t)], by rw [List.map_append, h1, List.map_append]; rfl, ?_, fun k => ?_⟩
      · rw [List.nodup_append]
        refine ⟨h2, by simp, fun a ha b hb e => ?_⟩
        rw [List.mem_singleton] at hb
        subst e hb
        exact c ha
      · rw [ex, ← h3, List.mem_append, List.mem_singleton]
  get := fun a b => by
    rw [valV_put]
    unfold fput
    by_cases e : a = p ∧ b = t
    · obtain ⟨rfl, rfl⟩ := e
      simp
    · rw [if_neg (fun q => e (by have := kI2_inj q; injection this with h1 h2; exact ⟨h1, h2⟩)), if_neg e, h.get]
  lt := fun a b w hw => by
    unfold fput at hw
    split at hw
    · rename_i q
      obtain ⟨rfl, rfl⟩ := q
      exact ⟨hp, ht⟩
    · exact h.lt a b w hw
theorem FdOk.small {n : Nat} {kvs : List (List Key × V)} {f : Fd} (h : FdOk n kvs f) (n6 : n ≤ 6) : kvs.length ≤ 36 := by
  obtain ⟨ks, h1, h2, h3⟩ := h.keys
  have e : kvs.length = ks.length := by
    have := congrArg List.length h1
    rwa [List.length_map, List.length_map] at this
  rw [e, ← List.length_map (as := ks) (f := fun k => k.1 * 6 + k.2)]
  have lt : ∀ k ∈ ks, k.1 < 6 ∧ k.2 < 6 := fun k hk => by
    obtain ⟨v, hv⟩ := (h3 k).mp hk
    have := h.lt _ _ _ hv
    omega
  refine nd_len ?_ fun x hx => ?_
  · refine List.pairwise_map.mpr (h2.imp_of_mem fun {a b} ha hb q z => q ?_)
    have := lt a ha
    have := lt b hb
    exact Prod.ext (by omega) (by omega)
  · obtain ⟨k, hk, rfl⟩ := List.mem_map.mp hx
    have := lt k hk
    omega
theorem paired_by {α β : Type} {F : α → β → Prop} : ∀ {xs : List α} {ys : List β}, xs.length = ys.length → (∀ (i : Nat) x y, xs[i]? = some x → ys[i]? = some y → F x y) → Paired F xs ys
  | [], [], _, _ => .nil
  | [], _ :: _, h, _ => by simp at h
  | _ :: _, [], h, _ => by simp at h
  | x :: xs, y :: ys, h, f => .cons (f 0 x y rfl rfl) (paired_by (by simpa using h) fun i a b ha hb => f (i + 1) a b ha hb)
/-- the law's first pairs -/
def PsR (D : Addr) (i : Nat) (l : List V) (H : Hp) : Prop := ∃ ps : List Addr, l = ps.map V.ref ∧ ps.length = i ∧ ∀ j, j < i → ∃ p q, ps[j]? = some p ∧ p ≠ D ∧ q ≠ D ∧ H p = some (.tup [.ref q, .int 0]) ∧ H q = some (.tup [.int (j : Nat), .int (j : Nat)])
theorem PsR.off {D : Addr} : Off D (PsR D) := by
  rintro i l H H' k ⟨ps, e, h1, h2⟩
  refine ⟨ps, e, h1, fun j hj => ?_⟩
  obtain ⟨p, q, a, b, c, d, e⟩ := h2 j hj
  exact ⟨p, q, a, b, c, k _ _ b d, k _ _ c e⟩
def beginF (n : Nat) : Fd := fun p t => if p = t ∧ p < n then some 0 else none
theorem begin_ok (n : Nat) : FdOk n ((List.range n).map fun j => (kI2 (j, j), V.int 0)) (beginF n) where
  keys := by
    refine ⟨(List.range n).map fun j => (j, j), by rw [List.map_map, List.map_map]; rfl, ?_, fun k => ?_⟩
    · exact List.Pairwise.map _ (fun a b h z => h (by injection z)) List.nodup_range
    · rw [List.mem_map]
      unfold beginF
      constructor
      · rintro ⟨j, hj, rfl⟩
        exact ⟨0, if_pos ⟨rfl, List.mem_range.mp hj⟩⟩
      · rintro ⟨v, hv⟩
        split at hv
        · rename_i c
          exact ⟨k.1, List.mem_range.mpr c.2, Prod.ext rfl c.1⟩
        · cases hv
  get := fun p t => by
    unfold beginF
    by_cases c : p = t ∧ p < n
    · obtain ⟨rfl, hp⟩ := c
      rw [if_pos ⟨rfl, hp⟩]
      have hs : (valV ((List.range n).map fun j => (kI2 (j, j), V.int 0)) (kI2 (p, p))).isSome = true := by
        rw [← valV_any, List.any_map]
        exact List.any_eq_true.mpr ⟨p, List.mem_range.mpr hp, by simp⟩
      cases e : valV ((List.range n).map fun j => (kI2 (j, j), V.int 0)) (kI2 (p, p)) with
      | none => rw [e] at hs; cases hs
      | some v =>
        unfold valV at e
        obtain ⟨kv, h1, h2⟩ := Option.map_eq_some_iff.mp e
        obtain ⟨j, _, rfl⟩ := List.mem_map.mp (List.mem_of_find?_eq_some h1)
        exact congrArg some h2.symm
    · rw [if_neg c]
      cases e : valV ((List.range n).map fun j => (kI2 (j, j), V.int 0)) (kI2 (p, t)) with
      | none => rfl
      | some v =>
        have hs : (valV ((List.range n).map fun j => (kI2 (j, j), V.int 0)) (kI2 (p, t))).isSome = true := by rw [e]; rfl
        rw [← valV_any, List.any_map] at hs
        obtain ⟨j, hj, z⟩ := List.any_eq_true.mp hs
        have z : kI2 (j, j) = kI2 (p, t) := of_decide_eq_true z
        have := kI2_inj z
        injection this with z1 z2
        exact absurd ⟨z1.symm.trans z2, z1 ▸ List.mem_range.mp hj⟩ c
  lt := fun p t v h => by
    unfold beginF at h
    split at h
    · rename_i c
      exact ⟨c.2, c.1 ▸ c.2⟩
    · cases h
/-- what is done behind i pairs and j moves of the next one -/
def PdA (mv : Nat → List (Str × Nat)) (js : List (Nat × Nat)) (its : List (Str × Nat)) (i j p s : Nat) (e : Str × Nat) : Prop := (∃ i', i' < i ∧ js[i']? = some (p, s) ∧ e ∈ mv s) ∨ (js[i]? = some (p, s) ∧ e ∈ its.take j)
/-- the dict of ways as it stands in a turn -/
def FdP (H3 : Hp) (F : Addr) (n : Nat) (mv : Nat → List (Str × Nat)) (c : Str → Int) (f : Fd) (Pd : Nat → Nat → Str × Nat → Prop) (H : Hp) : Prop := ∃ kvs g, SameX F H3 H ∧ H F = some (.dT kvs) ∧ FdOk n kvs g ∧ TurnP n mv c f g Pd
theorem FdP.mut {H3 H : Hp} {F p : Addr} {n : Nat} {mv : Nat → List (Str × Nat)} {c : Str → Int} {f : Fd} {Pd : Nat → Nat → Str × Nat → Prop} {o : HO} (h : FdP H3 F n mv c f Pd H) (hp : H p = none) : FdP H3 F n mv c f Pd (upd H p o) := by
  obtain ⟨kvs, g, h1, h2, h3⟩ := h
  exact ⟨kvs, g, h1.trans (Same.x F (same_upd hp)), same_upd hp _ _ h2, h3⟩
/-! ### _law_ways -/
def sp__law_ways {K : PySem.W.Frag} {mg : Str → Option Value} (T : Txt K mg) : Sp := fun vs H Q _ => ∃ (a dc : Addr) (tg : MachS) (m : PrM) (fc : Tab Str), vs = [.ref a, .ref dc] ∧ TgAt H a tg ∧ TabAt H dc fc ∧ (∀ x, x ∈ m.sgs → fc "" x = some (m.put x)) ∧ SgIn tg m ∧ TgOk tg ∧ PrOk m ∧
  ∀ H' d (f : Fd), Same H H' → H d = none → (∃ kvs, H' d = some (.dT kvs) ∧ FdOk tg.length kvs f) → Snd tg.length (movesOf tg) m.put f → (∀ M, Ways (n := tg.length) (mv := movesOf tg) (c := m.put) M → Settled tg.length M tg.length f) → Q (.ref d) H'
set_option maxHeartbeats 4000000 in
theorem ok__law_ways {P : Program} {w : World} {K : PySem.W.Frag} {mg : Str → Option Value} {base : Heap} (T : Txt K mg) : FnOk P w K mg base CX0 1 T.a__law_ways T.d__law_ways ["states", "closed"] (sp__law_ways T) := by
  refine T.F__law_ways.ok sc__law_ways (fun vs H Q E h => ?_) (fun cdv A outer s H vs Q E hr h => ?_)
  · obtain ⟨a, dc, tg, m, fc, rfl, ta, tab, htab, si, tok, ok, q⟩ := h
    rfl
  · obtain ⟨a, dc, tg, m, fc, rfl, ta, tab, htab, si, tok, ok, q⟩ := h
    refine ⟨_, PSs.nox (pss_cons (ps_set (i := 2) sc__law_ways.nd rfl (by first | exact .inl rfl | exact .inr rfl) (pe_callTy (call_dictPT rfl hr.units) (by rfl) T.n_dict (by decide +kernel) (pa_cons (pe_lc (own := [("at", 5)]) rfl sc__law_ways.nd (pi_range1 (by rfl) T.n_range (pa_cons (pe_callB (call_lenK K) (by rfl) T.n_len (by decide +kernel) (pa_cons (pv 0) pa_nil)) pa_nil)) (blkOk_by (own := [("at", 5)]) (N := n__law_ways) (sc := defScope s__law_ways) (by decide +kernel)) (fun _ _ _ _ _ => (pg_name (i := 5) sc__law_ways.nd rfl (by first | exact .inl rfl | exact .inr rfl))) (fun _ _ _ _ _ => pts_nil) (fun _ _ _ _ _ => (pe_tup (pa_cons (pe_tup (pa_cons (pv 5) (pa_cons (pv 5) pa_nil))) (pa_cons pe_int pa_nil))))) pa_nil)))
      (pss_cons (ps_for PassesOwn.never rfl (pi_range1 (by rfl) T.n_range (pa_cons (pe_callB (call_lenK K) (by rfl) T.n_len (by decide +kernel) (pa_cons (pv 0) pa_nil)) pa_nil)) (pg_name (i := 3) sc__law_ways.nd rfl (by first | exact .inl rfl | exact .inr rfl)) (pss_one (ps_for PassesOwn.never rfl (pi_listK K (pe_callB (cr_sortedKT rfl hr.units) (by rfl) T.n_sorted (by decide +kernel) (pa_cons (pv 2) pa_nil))) (pg_tupK K (n := 2) rfl (pgs_cons (pg_name (i := 4) sc__law_ways.nd rfl (by first | exact .inl rfl | exact .inr rfl)) (pgs_cons (pg_name (i := 5) sc__law_ways.nd rfl (by first | exact .inl rfl | exact .inr rfl)) pgs_nil))) (pss_one (ps_for PassesOwn.never rfl (pi_listK K (pe_sortedIt rfl hr.units (pe_ix (ix_tupK K) (pe_ix (ix_tupK K) (pv 0) (pv 5) (fun _ _ => rfl)) pe_int (fun _ _ => rfl)) (by rfl) T.n_sorted)) (pg_tupK K (n := 2) rfl (pgs_cons (pg_name (i := 6) sc__law_ways.nd rfl (by first | exact .inl rfl | exact .inr rfl)) (pgs_cons (pg_name (i := 7) sc__law_ways.nd rfl (by first | exact .inl rfl | exact .inr rfl)) pgs_nil))) (pss_cons (ps_set (i := 8) sc__law_ways.nd rfl (by first | exact .inl rfl | exact .inr rfl) (pe_op op_add (pe_dget (hu_of hr) (pv 2) (pe_tup (pa_cons (pv 4) (pa_cons (pv 5) pa_nil))) (fun _ _ => rfl)) (pe_dget (hu_of hr) (pv 1) (pe_tup (pa_cons pe_str (pa_cons (pv 6) pa_nil))) (fun _ _ => rfl))))
      (pss_one (ps_dput (hu_of hr) (pv 2) (pe_tup (pa_cons (pv 4) (pa_cons (pv 7) pa_nil))) (pe_callB (call_min2 rfl) (by rfl) T.n_min (by decide +kernel) (pa_cons (pv 8) (pa_cons (pe_dget2 (hu_of hr) (pv 2) (pe_tup (pa_cons (pv 4) (pa_cons (pv 7) pa_nil))) (pv 8) ⟨rfl, rfl, rfl, rfl⟩) pa_nil))) rfl))))))))
      (pss_one (ps_ret (pv 2))))), ?_⟩
    obtain ⟨rs, ds, t1, t2, td, t3⟩ := ta.ds
    have h6 := tok.six
    have n1 := tok.useful.pos
    have hln : ((rs.map V.ref).length : Int) = (tg.length : Int) := by rw [List.length_map, t2]
    refine ⟨_, rfl, a, _, rfl, .inr (sqt t1), _, rfl, by rw [hln]; omega, by rw [hln]; omega, fun D hD => ?_⟩
    refine lc_wk Wk.range0 hD (PsR D) PsR.off ⟨[], rfl, rfl, fun j hj => absurd hj (Nat.not_lt_zero _)⟩ (fun _ _ => trivial) ?_ ?_
    · rintro i l y H3 H4 hi sm hl hz r ⟨rfl, rfl⟩
      rw [hln, Int.toNat_natCast] at hi
      refine ⟨rfl, yes1 ?_⟩
      refine ⟨_, rfl, _, rfl, szle (by simp), fun q1 hq1 => ?_⟩
      refine ⟨szle (by simp), fun p1 hp1 => ?_⟩
      have nq : q1 ≠ D := fun z => by rw [z, hl] at hq1; cases hq1
      have sq1 := same_upd (o := .tup [.int (i : Nat), .int (i : Nat)]) hq1
      have sp1 := same_upd (o := .tup [.ref q1, .int 0]) hp1
      have np : p1 ≠ D := fun z => by rw [z, sq1 _ _ hl] at hp1; cases hp1
      refine lc_put PsR.off hD (by omega) ((sm.trans sq1).trans sp1) (sp1 _ _ (sq1 _ _ hl)) hz ?_
      obtain ⟨ps, rfl, e1, e2⟩ := r
      refine ⟨ps ++ [p1], by rw [List.map_append]; rfl, by simp [e1], fun j hj => ?_⟩
      by_cases c : j < i
      · obtain ⟨p, q, g1, g2, g3, g4, g5⟩ := e2 j c
        exact ⟨p, q, by rw [List.getElem?_append_left (by omega)]; exact g1, g2, g3, sp1 _ _ (sq1 _ _ g4), sp1 _ _ (sq1 _ _ g5)⟩
      · have : j = i := by omega
        subst this
        exact ⟨p1, q1, by rw [List.getElem?_append_right (by omega), e1]; simp, np, nq, upd_same, sp1 _ _ upd_same⟩
    intro l H1 s1 hl1 hz1 r
    rw [hln, Int.toNat_natCast] at r
    obtain ⟨ps, rfl, e1, e2⟩ := r
    refine ⟨D, ps, (List.range tg.length).map fun j => (kI2 (j, j), V.int 0), rfl, sq hl1, by omega, ?_, paired_by (by simp [e1]) fun i p kv hp hkv => ?_, fun F hF => ?_⟩
    · rw [List.map_map]
      exact List.Pairwise.map _ (fun a b h z => h (by have := kI2_inj z; injection this)) List.nodup_range
    · rw [List.getElem?_map] at hkv
      have hi : i < tg.length := by
        have := (List.getElem?_eq_some_iff.mp hp).1
        omega
      rw [List.getElem?_range hi] at hkv
      obtain rfl := Option.some.inj hkv
      obtain ⟨p', q', g1, _, _, g4, g5⟩ := e2 i hi
      rw [hp] at g1
      obtain rfl := Option.some.inj g1
      exact ⟨q', g4, g5⟩
    have s2 := s1.trans (same_upd (o := .dT ((List.range tg.length).map fun j => (kI2 (j, j), V.int 0))) hF)
    have hF2 : (upd H1 F (.dT ((List.range tg.length).map fun j => (kI2 (j, j), V.int 0)))) F = some (.dT ((List.range tg.length).map fun j => (kI2 (j, j), V.int 0))) := upd_same
    generalize upd H1 F (.dT ((List.range tg.length).map fun j => (kI2 (j, j), V.int 0))) = H2 at s2 hF2 ⊢
    have hF0 : H F = none := s1.free hF
    have mok : MOk tg.length (movesOf tg) m.put := ⟨h6, fun p hp e he => tok.useful.to p e.2 (by rw [succs_eq]; exact List.mem_map.mpr ⟨e, he, rfl⟩), fun p hp e he => by
      obtain ⟨row, hrow⟩ := getE_of hp
      rw [movesOf_at hrow] at he
      exact ok.put e.1 (si row (List.mem_of_getElem? hrow) e he)⟩
    have snd0 : Snd tg.length (movesOf tg) m.put (beginF tg.length) := fun p t v h => by
      unfold beginF at h
      split at h
      · rename_i c
        obtain ⟨rfl, hp⟩ := c
        injection h with h
        subst h
        exact ⟨hp, .nil⟩
      · cases h
    -- for turn in range(len(states))
    refine ⟨_, rfl, a, _, rfl, .inr (sqt (s2 _ _ t1)), _, rfl, by rw [hln]; omega, by rw [hln]; omega, ?_⟩
    refine for_wk (n := (((rs.map V.ref).length : Nat) : Int).toNat) (S := fun _ => True) Wk.range0 (fun k σ H3 => ∃ (kvs : List (List Key × V)) (f : Fd) (y3 y4 y5 y6 y7 y8 : Option V), σ = [some (.ref a), some (.ref dc), some (.ref F), y3, y4, y5, y6, y7, y8] ∧ SameX F H2 H3 ∧ H3 F = some (.dT kvs) ∧ FdOk tg.length kvs f ∧ Snd tg.length (movesOf tg) m.put f ∧ ∀ M, Ways (n := tg.length) (mv := movesOf tg) (c := m.put) M → Settled tg.length M k f)
      ⟨_, beginF tg.length, none, none, none, none, none, none, rfl, SameX.refl _ _, hF2, begin_ok _, snd0, fun M w => settled_begin w fun p hp => if_pos ⟨rfl, hp⟩⟩ (fun _ _ _ _ _ => trivial) ?_ ?_
    · rintro k v σ H3 H3' hk ⟨kvs, f, y3, y4, y5, y6, y7, y8, rfl, sx3, hF3, fok, snd, stl⟩ ⟨rfl, rfl⟩
      rw [hln, Int.toNat_natCast] at hk
      obtain ⟨ks, g1, g2, g3⟩ := fok.keys
      have l36 := fok.small h6
      have lks : ks.length ≤ 36 := by
        have := congrArg List.length g1
        rw [List.length_map, List.length_map] at this
        omega
      have s3 : Same H H3' := fun b o e => sx3 _ _ (fun z => by rw [z, hF0] at e; cases e) (s2 _ _ e)
      -- for one, at in sorted(found)
      refine ⟨_, rfl, F, kvs, ks, rfl, hF3, g1, by omega, g2, fun p ts js hp pm hl hts => ?_⟩
      have s4 := same_upd (o := .lst (ts.map V.ref)) hp
      have hp4 : (upd H3' p (.lst (ts.map V.ref))) p = some (.lst (ts.map V.ref)) := upd_same
      generalize upd H3' p (.lst (ts.map V.ref)) = H4 at s4 hp4 ⊢
      have npF : p ≠ F := fun z => by rw [z, hF3] at hp; cases hp
      have t4 := s3.trans s4
      have fp4 : FdP H4 F tg.length (movesOf tg) m.put f (PdA (movesOf tg) js [] 0 0) H4 := ⟨kvs, f, SameX.refl _ _, s4 _ _ hF3, fok, ⟨fun p t v h => ⟨v, h, Int.le_refl _⟩, fun p s e v h => by
        rcases h with ⟨i', h, _⟩ | ⟨_, h⟩
        · omega
        · simp at h, snd⟩⟩
      refine ⟨p, rfl, ⟨_, sq hp4⟩, ?_⟩
      refine for_wk (n := (ts.map V.ref).length) (S := fun H => SqL K H p (ts.map V.ref)) Wk.list (fun i σ H5 => ∃ (y3 y4 y5 y6 y7 y8 : Option V), σ = [some (.ref a), some (.ref dc), some (.ref F), y3, y4, y5, y6, y7, y8] ∧ FdP H4 F tg.length (movesOf tg) m.put f (PdA (movesOf tg) js [] i 0) H5)
        ⟨_, _, _, _, _, _, rfl, fp4⟩ (fun i σ H5 _ ⟨_, _, _, _, _, _, _, _, _, x, _⟩ => sq (x _ _ npF hp4)) ?_ ?_
      · rintro i y σ H5 H5' hi ⟨y3, y4, y5, y6, y7, y8, rfl, fp5⟩ ⟨rfl, hy⟩
        rw [List.length_map] at hi
        obtain ⟨t, ht, rfl⟩ := refs_at hy
        obtain ⟨⟨one, at'⟩, hj⟩ := getE_of (xs := js) (by omega : i < js.length)
        obtain ⟨t', q1, q2⟩ := hts i (one, at') hj
        rw [ht] at q1
        obtain rfl := Option.some.inj q1
        obtain ⟨v0, hv0⟩ := (g3 (one, at')).mp (pm.mem_iff.mp (List.mem_of_getElem? hj))
        have hv0 : f one at' = some v0 := hv0
        obtain ⟨lo, la⟩ := fok.lt _ _ _ hv0
        have ntF : t ≠ F := fun z => by rw [z, hF3] at q2; cases q2
        obtain ⟨_, _, x5, _⟩ := id fp5
        refine ⟨t, _, rfl, sqt (x5 _ _ ntF (s4 _ _ q2)), rfl, _, _, rfl, _, _, rfl, rfl, ?_⟩
        obtain ⟨row, hrow⟩ := getE_of la
        obtain ⟨r, d, z1, z2, z3, z4⟩ := t3 at' row hrow
        have mvr := movesOf_at hrow
        have kp : ∀ b o, H b = some o → H5' b = some o := fun b o e => x5 _ _ (fun z => by rw [z, hF0] at e; cases e) (t4 _ _ e)
        -- for sign, to in sorted(states[at][0].items())
        have asc := tok.asc row (List.mem_of_getElem? hrow)
        have l5 := useful_len tok.asc (List.mem_of_getElem? hrow)
        refine ⟨_, rfl, _, rfl, a, _, _, _, rfl, rfl, sqt (kp _ _ t1), atI_ofNat (by rw [List.getElem?_map, z1]; rfl), r, _, _, _, rfl, rfl, sqt (kp _ _ z3), rfl, d, row.1, rfl, kp _ _ z4, by omega, asc.nodup, fun H6 L us its s6 fL hL pmi lus hus => ?_⟩
        have eits : ∀ e, e ∈ its ↔ e ∈ movesOf tg at' := fun e => by rw [mvr]; exact pmi.mem_iff
        have litsl : its.length ≤ 5 := by rw [pmi.length_eq]; exact l5
        have nLF : L ≠ F := fun z => by
          obtain ⟨_, _, _, e, _⟩ := fp5
          rw [z, e] at fL
          cases fL
        refine ⟨L, rfl, ⟨_, sq hL⟩, ?_⟩
        have fp6 : FdP H6 F tg.length (movesOf tg) m.put f (PdA (movesOf tg) js its i 0) H6 := by
          obtain ⟨kvs6, g, _, w2, w3, w4⟩ := fp5
          exact ⟨kvs6, g, SameX.refl _ _, s6 _ _ w2, w3, w4.mono, fun p s e v h => w4.rel p s e v (by
            rcases h with h | ⟨_, h⟩
            · exact .inl h
            · simp at h), w4.snd⟩
        have k6 : ∀ b o, H b = some o → H6 b = some o := fun b o e => s6 _ _ (kp b o e)
        refine for_wk (n := (us.map V.ref).length) (S := fun H => SqL K H L (us.map V.ref)) Wk.list (fun j σ H7 => ∃ (y6 y7 y8 : Option V), σ = [some (.ref a), some (.ref dc), some (.ref F), y3, some (.int (one : Nat)), some (.int (at' : Nat)), y6, y7, y8] ∧ FdP H6 F tg.length (movesOf tg) m.put f (PdA (movesOf tg) js its i j) H7)
          ⟨_, _, _, rfl, fp6⟩ (fun j σ H7 _ ⟨_, _, _, _, _, _, x, _⟩ => sq (x _ _ nLF hL)) ?_ ?_
        · rintro j y σ H7 H7' hj2 ⟨y6, y7, y8, rfl, fp7⟩ ⟨rfl, hy⟩
          rw [List.length_map] at hj2
          obtain ⟨u, hu, rfl⟩ := refs_at hy
          obtain ⟨e, he⟩ := getE_of (xs := its) (by omega : j < its.length)
          obtain ⟨u', r1, r2⟩ := hus j e he
          rw [hu] at r1
          obtain rfl := Option.some.inj r1
          have hem := (eits e).mp (List.mem_of_getElem? he)
          have het := tok.useful.to at' e.2 (by rw [succs_eq]; exact List.mem_map.mpr ⟨e, hem, rfl⟩)
          have hsg : e.1 ∈ m.sgs := si row (List.mem_of_getElem? hrow) e (by rw [← mvr]; exact hem)
          have nuF : u ≠ F := fun z => by
            obtain ⟨_, _, _, q, _⟩ := fp6
            rw [z, q] at r2
            cases r2
          obtain ⟨_, _, x7, _⟩ := id fp7
          refine ⟨u, _, rfl, sqt (x7 _ _ nuF r2), rfl, _, _, rfl, _, _, rfl, rfl, ?_⟩
          -- price = found[one, at] + closed['', sign]
          refine ⟨_, rfl, _, rfl, _, rfl, szle (by simp), fun p1 hp1 => ?_⟩
          have fp8 := fp7.mut (o := .tup [.int (one : Nat), .int (at' : Nat)]) hp1
          have hp18 : (upd H7' p1 (.tup [.int (one : Nat), .int (at' : Nat)])) p1 = some (.tup [.int (one : Nat), .int (at' : Nat)]) := upd_same
          generalize upd H7' p1 (.tup [.int (one : Nat), .int (at' : Nat)]) = H8 at fp8 hp18 ⊢
          obtain ⟨kvs8, g, x8, w2, w3, w4⟩ := fp8
          obtain ⟨v1, hv1, _⟩ := w4.mono _ _ _ hv0
          have gd1 : DGet H8 F (.ref p1) (some (.int v1)) := .inr ⟨kvs8, kI2 (one, at'), p1, .inl w2, rfl, hp18, by rw [w3.get, hv1]; rfl⟩
          obtain ⟨kvsc, c1, c2, c3⟩ := id tab
          have hc8 : H8 dc = some (.dT kvsc) := x8 _ _ (fun z => by rw [← z, c1] at hF0; cases hF0) (k6 _ _ c1)
          refine ⟨F, .int v1, rfl, gd1, _, rfl, _, rfl, szle (by simp), fun p2 hp2 => ?_⟩
          have s9 := same_upd (o := .tup [.str "", .str e.1]) hp2
          have hc9 := s9 _ _ hc8
          have w9 := s9 _ _ w2
          have gd2 : DGet (upd H8 p2 (.tup [.str "", .str e.1])) dc (.ref p2) (some (.int (m.put e.1))) := .inr ⟨kvsc, k2 "" e.1, p2, .inl hc9, rfl, upd_same, by rw [c3.get, htab e.1 hsg]; rfl⟩
          have x9 := x8.trans (Same.x F s9)
          generalize upd H8 p2 (.tup [.str "", .str e.1]) = H9 at s9 hc9 w9 gd2 x9 ⊢
          refine ⟨dc, .int (m.put e.1), rfl, gd2, _, _, rfl, rfl, ?_⟩
          -- found[one, to] = min(price, found.get((one, to), price))
          refine ⟨_, rfl, _, rfl, F, rfl, .inr ⟨kvs8, .inl w9⟩, _, rfl, _, rfl, szle (by simp), fun p3 hp3 => ?_⟩
          have s10 := same_upd (o := .tup [.int (one : Nat), .int (e.2 : Nat)]) hp3
          have w10 := s10 _ _ w9
          have gd3 : DGet (upd H9 p3 (.tup [.int (one : Nat), .int (e.2 : Nat)])) F (.ref p3) ((g one e.2).map V.int) := .inr ⟨kvs8, kI2 (one, e.2), p3, .inl w10, rfl, upd_same, by rw [w3.get]⟩
          have x10 := x9.trans (Same.x F s10)
          generalize upd H9 p3 (.tup [.int (one : Nat), .int (e.2 : Nat)]) = H10 at s10 w10 gd3 x10 ⊢
          have eg : ((g one e.2).map V.int).getD (.int (v1 + m.put e.1)) = .int ((g one e.2).getD (v1 + m.put e.1)) := by cases g one e.2 <;> rfl
          refine ⟨_, rfl, _, gd3, v1 + m.put e.1, (g one e.2).getD (v1 + m.put e.1), ?_, ?_⟩
          · show [V.int (v1 + m.put e.1), ((g one e.2).map V.int).getD (.int (v1 + m.put e.1))] = _
            rw [eg]
          refine ⟨_, rfl, _, rfl, _, rfl, szle (by simp), fun p4 hp4 => ?_⟩
          have s11 := same_upd (o := .tup [.int (one : Nat), .int (e.2 : Nat)]) hp4
          have l36 := w3.small h6
          refine ⟨F, _, rfl, DPut.t (k := kI2 (one, e.2)) (s11 _ _ w10) upd_same (szlt (by omega)), _, _, _, rfl, ?_⟩
          refine ⟨_, _, (x10.trans (Same.x F s11)).upd, upd_same, w3.put lo het _, w4.step la hem hv0 hv1 fun p s x h => ?_⟩
          rcases h with h | ⟨h1, h2⟩
          · exact .inl (.inl h)
          · rw [List.take_add_one, he, Option.toList_some, List.mem_append, List.mem_singleton] at h2
            rcases h2 with h2 | h2
            · exact .inl (.inr ⟨h1, h2⟩)
            · rw [hj] at h1
              have z := Option.some.inj h1
              injection z with z5 z6
              exact .inr ⟨z5.symm, z6.symm, h2⟩
        · rintro σ H7 ⟨y6, y7, y8, rfl, kvs7, g, x7, w2, w3, w4⟩
          rw [List.length_map, lus] at w4
          refine ⟨_, _, _, _, _, _, rfl, kvs7, g, fun b o nb e => x7 _ _ nb (s6 _ _ (x5 _ _ nb e)), w2, w3, w4.mono, fun p s e v h => w4.rel p s e v ?_, w4.snd⟩
          rcases h with ⟨i', h1, h2, h3⟩ | ⟨_, h⟩
          · by_cases c : i' < i
            · exact .inl ⟨i', c, h2, h3⟩
            · have : i' = i := by omega
              subst this
              rw [hj] at h2
              have z := Option.some.inj h2
              injection z with z5 z6
              subst z5 z6
              exact .inr ⟨hj, by rw [List.take_of_length_le (Nat.le_refl _)]; exact (eits e).mpr h3⟩
          · simp at h
      · rintro σ H5 ⟨y3, y4, y5, y6, y7, y8, rfl, kvs5, g, x5, w2, w3, w4⟩
        rw [List.length_map, hl] at w4
        have tn : Turn (n := tg.length) (mv := movesOf tg) (c := m.put) f g := ⟨w4.mono, fun p s t v k h e => by
          obtain ⟨_, e, he, rfl, rfl⟩ := e
          obtain ⟨i', hi', z⟩ := List.getElem_of_mem (pm.mem_iff.mpr ((g3 (p, s)).mpr ⟨v, h⟩))
          exact w4.rel p s e v (.inl ⟨i', hi', by rw [List.getElem?_eq_getElem hi', z], he⟩) h, w4.snd⟩
        exact ⟨kvs5, g, _, _, _, _, _, _, rfl, fun b o nb e => x5 _ _ nb (s4 _ _ (sx3 _ _ nb e)), w2, w3, w4.snd, fun M w => settled_turn w (stl M w) tn⟩
    · rintro σ H3 ⟨kvs, f, y3, y4, y5, y6, y7, y8, rfl, sx3, hF3, fok, snd, stl⟩
      rw [hln, Int.toNat_natCast] at stl
      have s3 : Same H H3 := fun b o e => sx3 _ _ (fun z => by rw [z, hF0] at e; cases e) (s2 _ _ e)
      exact ⟨_, rfl, q H3 F f s3 hF0 ⟨kvs, hF3, fok⟩ snd stl⟩
end K7
end

section
set_option Elab.async false
set_option linter.all false
set_option maxRecDepth 100000
/-! Further rules, fifth part. -/
namespace K7
open PySem PySem.Spec PyProof.Rows L2 SlX
/-- ** of whole numbers, the power not too great -/
def CPowW (i j : Int) : Prop := 0 ≤ j ∧ (Builtin.Int.intBits i : Int) * j ≤ 2 ^ 27
theorem op_powW {X : Cx} : OpR X (binaryOp .Pow) (rI CPowW fun i j => .int (i ^ j.toNat)) := opI fun _ _ _ _ _ _ _ hc q => pow_int hc.1 hc.2 q
theorem cpow54 : CPowW 10 54 := ⟨by decide, by decide +kernel⟩
theorem cpow324 : CPowW (10 ^ (54 : Int).toNat) 6 := ⟨by decide, by decide +kernel⟩
theorem cpow16 : CPowW 10 16 := ⟨by decide, by decide +kernel⟩
/-- that there are ways at all -/
theorem ini_ex {tg : MachS} {put : Str → Int} (mt : MTo tg) : ∀ i, i ≤ tg.length → ∃ M, IniP tg put i 0 M
  | 0, _ => ⟨fun p t => if p = t then 0 else far, fun p _ => if_pos rfl, fun p e h => by
      rcases h with ⟨h, _⟩ | ⟨_, h⟩
      · omega
      · simp at h, fun p t _ _ ne => .inl (if_neg ne)⟩
  | i + 1, hi => by
    obtain ⟨M0, h0⟩ := ini_ex (put := put) mt i (by omega)
    have st : ∀ j, j ≤ (movesOf tg i).length → ∃ M, IniP tg put i j M := fun j => by
      induction j with
      | zero => exact fun _ => ⟨M0, h0⟩
      | succ j ih =>
        intro hj
        obtain ⟨M, h⟩ := ih (by omega)
        obtain ⟨e, he⟩ := getE_of (xs := movesOf tg i) (by omega : j < (movesOf tg i).length)
        by_cases c : i = e.2
        · exact ⟨M, h.skip he c⟩
        · exact ⟨_, h.step he (by omega) c⟩
    obtain ⟨M, h⟩ := st _ (Nat.le_refl _)
    exact ⟨M, h.next⟩
theorem ways_ex {tg : MachS} {put : Str → Int} (mt : MTo tg) (mok : MOk tg.length (movesOf tg) put) : ∃ M, Ways (n := tg.length) (mv := movesOf tg) (c := put) M := by
  obtain ⟨M, h⟩ := ini_ex (put := put) mt tg.length (Nat.le_refl _)
  exact ⟨_, ways_of mok h.ini⟩
end K7
end

section
set_option Elab.async false
set_option linter.all false
set_option maxRecDepth 100000
namespace K7
open PySem PySem.Spec PyProof.Rows L2 SlX
/-! The walk: the law's dice. -/
theorem pos324 : (0 : Int) < ((10 : Int) ^ (54 : Int).toNat) ^ (6 : Int).toNat := by decide +kernel
theorem lt324 : ((10 : Int) ^ (54 : Int).toNat) ^ (6 : Int).toNat < 10 ^ 400 := by decide +kernel
theorem lt400 : (0 : Int) < 10 ^ 400 := by decide +kernel
theorem pos64 : (0 : Int) < 18446744073709551616 := by decide
theorem dice_ok {g : Int} (g0 : 0 ≤ g) (g1 : g < ((10 : Int) ^ (54 : Int).toNat) ^ (6 : Int).toNat) : 0 ≤ (if g - 10 ^ (16 : Int).toNat > 0 then g - 10 ^ (16 : Int).toNat else 0) ∧ (if g - 10 ^ (16 : Int).toNat > 0 then g - 10 ^ (16 : Int).toNat else 0) < 10 ^ 400 := by
  have h0 : (0 : Int) ≤ 10 ^ (16 : Int).toNat := by decide +kernel
  have h1 := lt324
  have h2 := lt400
  generalize (10 : Int) ^ (16 : Int).toNat = x at h0 ⊢
  generalize ((10 : Int) ^ (54 : Int).toNat) ^ (6 : Int).toNat = y at g1 h1
  generalize (10 : Int) ^ 400 = z at h1 h2 ⊢
  split <;> omega
theorem pos999 : (0 : Int) < 999979 := by decide
theorem cut_ints (ns : List Int) (lo hi : Option Int) : ∃ zs : List Int, cutV (ns.map V.int) lo hi = zs.map V.int := by
  unfold cutV
  exact ⟨(ns.drop (HT.sIx (ns.map V.int).length 0 lo)).take (HT.sIx (ns.map V.int).length (ns.map V.int).length hi - HT.sIx (ns.map V.int).length 0 lo), by rw [List.map_take, List.map_drop]⟩
/-! ### _law_dice -/
def sp__law_dice {K : PySem.W.Frag} {mg : Str → Option Value} (T : Txt K mg) : Sp := fun vs H Q _ => ∃ (s : Addr) (ns : List Int) (k : Nat), vs = [.ref s, .int (k : Nat)] ∧ SqL K H s (ns.map V.int) ∧ k ≤ 1000 ∧ ∀ H' d, Same H H' → H d = none → Dice H' d → Q (.ref d) H'
set_option maxHeartbeats 4000000 in
theorem ok__law_dice {P : Program} {w : World} {K : PySem.W.Frag} {mg : Str → Option Value} {base : Heap} (T : Txt K mg) : FnOk P w K mg base CX0 1 T.a__law_dice T.d__law_dice ["script", "spot"] (sp__law_dice T) := by
  refine T.F__law_dice.ok sc__law_dice (fun vs H Q E h => ?_) (fun cdv A outer s H vs Q E hr h => ?_)
  · obtain ⟨s, ns, k, rfl, hs, hk, q⟩ := h
    rfl
  · obtain ⟨s, ns, k, rfl, hs, hk, q⟩ := h
    refine ⟨_, PSs.nox (pss_cons (ps_set (i := 2) sc__law_dice.nd rfl (by first | exact .inl rfl | exact .inr rfl) (pe_ifExp (pt_cmpR op_lt (pv 1) (pe_callB (call_lenK K) (by rfl) T.n_len (by decide +kernel) (pa_cons (pv 0) pa_nil)) (nomark _)) (pe_callTy call_int1 (by rfl) T.n_int (by decide +kernel) (pa_cons (pe_ix (ix_listK K) (pv 0) (pv 1) (fun _ _ => rfl)) pa_nil)) (pe_op op_add (pe_op op_add (pe_op op_mul pe_int (pv 1)) pe_int) (pe_op op_mod (pe_callTy call_int1 (by rfl) T.n_int (by decide +kernel) (pa_cons (pe_callB (cr_sumK K rfl) (by rfl) T.n_sum (by decide +kernel) (pa_cons (pe_slice (sl_listK K) (pv 0) po_none (po_some pe_int)) pa_nil)) pa_nil)) pe_int))))
      (pss_cons (ps_set (i := 3) sc__law_dice.nd rfl (by first | exact .inl rfl | exact .inr rfl) (pe_op op_mod (pe_callTy call_int1 (by rfl) T.n_int (by decide +kernel) (pa_cons (pe_callB call_abs (by rfl) T.n_abs (by decide +kernel) (pa_cons (pv 2) pa_nil)) pa_nil)) (pe_op op_powW (pe_op op_powW pe_int pe_int) pe_int)))
      (pss_one (ps_ret (pe_lst (pa_cons (pe_callB (call_max2 rfl) (by rfl) T.n_max (by decide +kernel) (pa_cons pe_int (pa_cons (pe_op op_sub (pv 3) (pe_op op_powW pe_int pe_int)) pa_nil))) (pa_cons (pe_op op_mod (pe_callTy call_int1 (by rfl) T.n_int (by decide +kernel) (pa_cons (pe_op op_add (pe_op op_add (pe_op op_add (pe_op op_mul (pv 3) pe_int) (pe_op op_mul pe_int (pv 1))) (pe_op op_mul pe_int (pe_callTy call_int1 (by rfl) T.n_int (by decide +kernel) (pa_cons (pe_cmpR op_lt (pv 2) pe_int (nomark _)) pa_nil)))) pe_int) pa_nil)) pe_int) pa_nil))))))), ?_⟩
    have hl : ((ns.map V.int).length : Int) = (ns.length : Int) := by rw [List.length_map]
    refine ⟨_, rfl, _, rfl, s, _, rfl, .inl hs, _, _, rfl, rfl, _, rfl, ?_⟩
    refine ite2 (fun c0 => ?_) (fun c0 => ?_)
    · have lt : k < ns.length := by
        have := of_decide_eq_true c0
        omega
      obtain ⟨c, hc⟩ := getE_of lt
      have hat : atI (ns.map V.int) ((k : Nat) : Int) = some (.int c) := atI_ofNat (by rw [List.getElem?_map, hc]; rfl)
      refine ⟨_, rfl, _, rfl, s, _, _, _, rfl, rfl, hs, hat, .inl ⟨_, rfl, ?_⟩⟩
      have s1 : Same H H := fun _ _ h => h
      refine ⟨_, rfl, _, rfl, .inl ⟨_, rfl, _, _, rfl, rfl, cpow54, _, _, rfl, rfl, cpow324, _, _, rfl, rfl, pos324, ?_⟩⟩
      refine ⟨_, rfl, _, _, rfl, rfl, cpow16, _, _, rfl, rfl, _, _, rfl, ?_⟩
      refine ⟨_, rfl, _, _, rfl, rfl, .inr ⟨by decide, by decide⟩, _, rfl, _, _, rfl, rfl, .inl ⟨by decide, by decide⟩, _, _, rfl, rfl, ?_⟩
      refine ⟨_, rfl, _, _, rfl, rfl, .inr ⟨_, rfl, _, _, rfl, rfl, .inl ⟨by decide, by decide⟩, _, _, rfl, rfl, _, _, rfl, rfl, .inl ⟨_, rfl, _, _, rfl, rfl, pos64, ?_⟩⟩⟩
      refine ⟨szle (by simp), fun d hd => ?_⟩
      exact q _ d (s1.trans (same_upd hd)) (s1.free hd) ⟨_, _, upd_same, (dice_ok (Int.emod_nonneg _ (Int.ne_of_gt pos324)) (Int.emod_lt_of_pos _ pos324)).1, (dice_ok (Int.emod_nonneg _ (Int.ne_of_gt pos324)) (Int.emod_lt_of_pos _ pos324)).2, Int.emod_nonneg _ (Int.ne_of_gt pos64), Int.emod_lt_of_pos _ pos64⟩
    · refine ⟨_, rfl, _, _, rfl, rfl, .inl ⟨by decide, by decide⟩, _, _, rfl, rfl, ?_⟩
      refine ⟨_, rfl, _, rfl, s, _, rfl, hs, fun l hl1 => ?_⟩
      obtain ⟨zs, hz⟩ := cut_ints ns none (some 1)
      have s1 := same_upd (o := .lst (cutV (ns.map V.int) none (some 1))) hl1
      refine ⟨l, zs, rfl, sq (by rw [upd_same, hz]), .inl ⟨_, rfl, _, _, rfl, rfl, pos999, _, _, rfl, rfl, ?_⟩⟩
      refine ⟨_, rfl, _, rfl, .inl ⟨_, rfl, _, _, rfl, rfl, cpow54, _, _, rfl, rfl, cpow324, _, _, rfl, rfl, pos324, ?_⟩⟩
      refine ⟨_, rfl, _, _, rfl, rfl, cpow16, _, _, rfl, rfl, _, _, rfl, ?_⟩
      refine ⟨_, rfl, _, _, rfl, rfl, .inr ⟨by decide, by decide⟩, _, rfl, _, _, rfl, rfl, .inl ⟨by decide, by decide⟩, _, _, rfl, rfl, ?_⟩
      refine ⟨_, rfl, _, _, rfl, rfl, .inr ⟨_, rfl, _, _, rfl, rfl, .inl ⟨by decide, by decide⟩, _, _, rfl, rfl, _, _, rfl, rfl, .inl ⟨_, rfl, _, _, rfl, rfl, pos64, ?_⟩⟩⟩
      refine ⟨szle (by simp), fun d hd => ?_⟩
      exact q _ d (s1.trans (same_upd hd)) (s1.free hd) ⟨_, _, upd_same, (dice_ok (Int.emod_nonneg _ (Int.ne_of_gt pos324)) (Int.emod_lt_of_pos _ pos324)).1, (dice_ok (Int.emod_nonneg _ (Int.ne_of_gt pos324)) (Int.emod_lt_of_pos _ pos324)).2, Int.emod_nonneg _ (Int.ne_of_gt pos64), Int.emod_lt_of_pos _ pos64⟩
end K7
end

section
set_option Elab.async false
set_option linter.all false
set_option maxRecDepth 100000
namespace K7
open PySem PySem.Spec PyProof.Rows L2 SlX
/-! The walk: the law's prices. -/
/-- pairs of signs and prices, as they are drawn -/
def PwR (sgs : List Str) (a D : Addr) (i : Nat) (l : List V) (H : Hp) : Prop := ∃ ps : List Addr, l = ps.map V.ref ∧ ps.length = i ∧ ∀ (j : Nat) x, j < i → sgs[j]? = some x → ∃ (p : Addr) (v : Int), ps[j]? = some p ∧ p ≠ D ∧ p ≠ a ∧ H p = some (.tup [.str x, .int v]) ∧ 1 ≤ v ∧ v ≤ 9
theorem PwR.off {sgs : List Str} {a D : Addr} : Off D (PwR sgs a D) := by
  rintro i l H H' k ⟨ps, e, h1, h2⟩
  refine ⟨ps, e, h1, fun j x hj hx => ?_⟩
  obtain ⟨p, v, g1, g2, g3, g4, g5⟩ := h2 j x hj hx
  exact ⟨p, v, g1, g2, g3, k _ _ g2 g4, g5⟩
theorem PwR.put {sgs : List Str} {a D p : Addr} {i : Nat} {l : List V} {H H' : Hp} (h : PwR sgs a D i l H) (s : SameX a H H') {x : Str} {v : Int} (hx : sgs[i]? = some x) (nD : p ≠ D) (na : p ≠ a) (hp : H' p = some (.tup [.str x, .int v])) (v1 : 1 ≤ v) (v9 : v ≤ 9) : PwR sgs a D (i + 1) (l ++ [.ref p]) H' := by
  obtain ⟨ps, rfl, h1, h2⟩ := h
  refine ⟨ps ++ [p], by rw [List.map_append]; rfl, by simp [h1], fun j y hj hy => ?_⟩
  by_cases c : j < i
  · obtain ⟨q, w, g1, g2, g3, g4, g5⟩ := h2 j y c hy
    exact ⟨q, w, by rw [List.getElem?_append_left (by omega)]; exact g1, g2, g3, s _ _ g3 g4, g5⟩
  · have : j = i := by omega
    subst this
    rw [hx] at hy
    obtain rfl := Option.some.inj hy
    exact ⟨p, v, by rw [List.getElem?_append_right (by omega), h1]; simp, nD, na, hp, v1, v9⟩
theorem PwR.fn {sgs : List Str} {a D : Addr} {l : List V} {H : Hp} (h : PwR sgs a D sgs.length l H) (nd : sgs.Nodup) : ∃ (ps : List Addr) (f : Str → Int), l = ps.map V.ref ∧ Paired (fun (p : Addr) (kv : Key × V) => H p = some (.tup [kV kv.1, kv.2])) ps (dkS sgs f) ∧ ∀ x ∈ sgs, 1 ≤ f x ∧ f x ≤ 9 := by
  obtain ⟨ps, rfl, h1, h2⟩ := h
  have c : ∀ x : Str, ∃ v : Int, ∀ j : Nat, sgs[j]? = some x → (∃ p : Addr, ps[j]? = some p ∧ H p = some (.tup [.str x, .int v])) ∧ 1 ≤ v ∧ v ≤ 9 := fun x => by
    by_cases hx : x ∈ sgs
    · obtain ⟨j, hj, e⟩ := List.getElem_of_mem hx
      have e1 : sgs[j]? = some x := by rw [List.getElem?_eq_getElem hj, e]
      obtain ⟨p, v, g1, _, _, g4, g5⟩ := h2 j x hj e1
      refine ⟨v, fun i hi => ?_⟩
      have : j = i := (List.getElem?_inj hj nd).mp (e1.trans hi.symm)
      subst this
      exact ⟨⟨p, g1, g4⟩, g5⟩
    · exact ⟨0, fun j hj => absurd (List.mem_of_getElem? hj) hx⟩
  obtain ⟨f, hf⟩ := Classical.axiomOfChoice c
  refine ⟨ps, f, rfl, paired_by (by rw [h1, List.length_map]) fun i p kv hp hkv => ?_, fun x hx => ?_⟩
  · obtain ⟨k, v⟩ := kv
    obtain ⟨x, hx, rfl, rfl⟩ := dkS_at hkv
    obtain ⟨⟨p', g1, g2⟩, _⟩ := hf x i hx
    rw [hp] at g1
    obtain rfl := Option.some.inj g1
    exact g2
  · obtain ⟨j, hj, e⟩ := List.getElem_of_mem hx
    exact (hf x j (by rw [List.getElem?_eq_getElem hj, e])).2
theorem paired_imp {α β : Type} {F G : α → β → Prop} : ∀ {xs : List α} {ys : List β}, Paired F xs ys → (∀ x y, F x y → G x y) → Paired G xs ys
  | [], [], _, _ => .nil
  | _ :: _, _ :: _, .cons h t, k => .cons (k _ _ h) (paired_imp t k)
theorem merge_dkS {sgs : List Str} (nd : sgs.Nodup) (f : Str → Int) : mergeK [] (dkS sgs f) = dkS sgs f := by
  have go : ∀ (i : Nat), i ≤ sgs.length → mergeK [] (dkS (sgs.take i) f) = dkS (sgs.take i) f := fun i => by
    induction i with
    | zero => intro _; rfl
    | succ i ih =>
      intro hi
      obtain ⟨x, hx⟩ := getE_of (xs := sgs) (by omega : i < sgs.length)
      have e : dkS (sgs.take (i + 1)) f = dkS (sgs.take i) f ++ [(Sum.inr x, V.int (f x))] := by
        rw [List.take_add_one, hx, Option.toList_some]
        unfold dkS
        rw [List.map_append]
        rfl
      have p := dkS_put nd (f := f) hx
      have ih' := ih (by omega)
      unfold mergeK at ih' ⊢
      rw [e, List.foldl_append, ih', ← e]
      exact p
  have := go sgs.length (Nat.le_refl _)
  rwa [List.take_of_length_le (Nat.le_refl _)] at this
/-! ### _law_prices -/
def sp__law_prices {K : PySem.W.Frag} {mg : Str → Option Value} (T : Txt K mg) : Sp := fun vs H Q _ => ∃ (a g : Addr) (sgs : List Str), vs = [.ref a, .ref g] ∧ Dice H a ∧ H g = some (.tup (sgs.map V.str)) ∧ Asc sgs ∧ sgs ≠ [] ∧
  ∀ H' l dP dO dS (m : PrM), SameX a H H' → Dice H' a → H' l = some (.lst [.ref dP, .ref dO, .ref dS]) → m.sgs = sgs → H' dP = some (.dK (dkS m.sgs m.put)) → H' dO = some (.dK (dkS m.sgs m.out)) → TabS H' dS m.swap → PrOk m → Q (.ref l) H'
set_option maxHeartbeats 4000000 in
theorem ok__law_prices {P : Program} {w : World} {K : PySem.W.Frag} {mg : Str → Option Value} {base : Heap} (T : Txt K mg) : FnOk P w K mg base CX0 3 T.a__law_prices T.d__law_prices ["dice", "signs"] (sp__law_prices T) := by
  refine T.F__law_prices.ok sc__law_prices (fun vs H Q E h => ?_) (fun cdv A outer s H vs Q E hr h => ?_)
  · obtain ⟨a, g, sgs, rfl, da, hg, asc, ne, q⟩ := h
    rfl
  · obtain ⟨a, g, sgs, rfl, da, hg, asc, ne, q⟩ := h
    refine ⟨_, PSs.nox (pss_cons (ps_set (i := 2) sc__law_prices.nd rfl (by first | exact .inl rfl | exact .inr rfl) (pe_callTy (call_dictP rfl) (by rfl) T.n_dict (by decide +kernel) (pa_cons (pe_lc (own := [("sign", 8)]) rfl sc__law_prices.nd (pi_tupK K (pv 1)) (blkOk_by (own := [("sign", 8)]) (N := n__law_prices) (sc := defScope s__law_prices) (by decide +kernel)) (fun _ _ _ _ _ => (pg_name (i := 8) sc__law_prices.nd rfl (by first | exact .inl rfl | exact .inr rfl))) (fun _ _ _ _ _ => pts_nil) (fun _ _ _ _ _ => (pe_tup (pa_cons (pv 8) (pa_cons (pe_call (ok__law_pick T) (hr.mono (by decide)) (by rfl) T.g__law_pick T.F__law_pick.kp (b__law_pick T) .nil pass0 (pa_cons (pv 0) (pa_cons (pe_lst (pa_cons pe_int (pa_cons pe_int (pa_cons pe_int (pa_cons (pe_op op_add pe_int (pe_call (ok__law_roll T) (hr.mono (by decide)) (by rfl) T.g__law_roll T.F__law_roll.kp (b__law_roll T) .nil pass0 (pa_cons (pv 0) (pa_cons pe_int pa_nil)))) pa_nil))))) pa_nil))) pa_nil))))) pa_nil)))
      (pss_cons (ps_set (i := 3) sc__law_prices.nd rfl (by first | exact .inl rfl | exact .inr rfl) (pe_callTy (call_dictP rfl) (by rfl) T.n_dict (by decide +kernel) (pa_cons (pe_lc (own := [("sign", 8)]) rfl sc__law_prices.nd (pi_tupK K (pv 1)) (blkOk_by (own := [("sign", 8)]) (N := n__law_prices) (sc := defScope s__law_prices) (by decide +kernel)) (fun _ _ _ _ _ => (pg_name (i := 8) sc__law_prices.nd rfl (by first | exact .inl rfl | exact .inr rfl))) (fun _ _ _ _ _ => pts_nil) (fun _ _ _ _ _ => (pe_tup (pa_cons (pv 8) (pa_cons (pe_call (ok__law_pick T) (hr.mono (by decide)) (by rfl) T.g__law_pick T.F__law_pick.kp (b__law_pick T) .nil pass0 (pa_cons (pv 0) (pa_cons (pe_lst (pa_cons pe_int (pa_cons pe_int (pa_cons pe_int (pa_cons (pe_op op_add pe_int (pe_call (ok__law_roll T) (hr.mono (by decide)) (by rfl) T.g__law_roll T.F__law_roll.kp (b__law_roll T) .nil pass0 (pa_cons (pv 0) (pa_cons pe_int pa_nil)))) pa_nil))))) pa_nil))) pa_nil))))) pa_nil)))
      (pss_cons (ps_set (i := 4) sc__law_prices.nd rfl (by first | exact .inl rfl | exact .inr rfl) pe_dnewT)
      (pss_cons (ps_for PassesOwn.never rfl (pi_range1 (by rfl) T.n_range (pa_cons (pe_call (ok__law_roll T) (hr.mono (by decide)) (by rfl) T.g__law_roll T.F__law_roll.kp (b__law_roll T) .nil pass0 (pa_cons (pv 0) (pa_cons pe_int pa_nil))) pa_nil)) (pg_name (i := 5) sc__law_prices.nd rfl (by first | exact .inl rfl | exact .inr rfl)) (pss_cons (ps_par (i := 6) (j := 7) (by rfl) sc__law_prices.nd rfl rfl (by decide) rfl rfl (pa_cons (pe_call (ok__law_pick T) (hr.mono (by decide)) (by rfl) T.g__law_pick T.F__law_pick.kp (b__law_pick T) .nil pass0 (pa_cons (pv 0) (pa_cons (pv 1) pa_nil))) (pa_cons (pe_call (ok__law_pick T) (hr.mono (by decide)) (by rfl) T.g__law_pick T.F__law_pick.kp (b__law_pick T) .nil pass0 (pa_cons (pv 0) (pa_cons (pv 1) pa_nil))) pa_nil)) (by rfl))
      (pss_one (ps_if (pt_cmpR op_ne (pv 6) (pv 7) (nomark _)) (pss_one (ps_dput (hu_of hr) (pv 4) (pe_tup (pa_cons (pv 6) (pa_cons (pv 7) pa_nil))) (pe_op op_add pe_int (pe_call (ok__law_roll T) (hr.mono (by decide)) (by rfl) T.g__law_roll T.F__law_roll.kp (b__law_roll T) .nil pass0 (pa_cons (pv 0) (pa_cons pe_int pa_nil)))) rfl)) pss_nil))))
      (pss_one (ps_ret (pe_lst (pa_cons (pv 2) (pa_cons (pv 3) (pa_cons (pv 4) pa_nil)))))))))), ?_⟩
    have l5 := asc.len5
    have nga : g ≠ a := fun z => by
      obtain ⟨x, y, h, _⟩ := da
      rw [← z, hg] at h
      cases h
    refine ⟨_, rfl, _, rfl, ⟨_, sqt hg⟩, fun D hD => ?_⟩
    refine lcx_wk Wk.tup hD da (PwR sgs a D) PwR.off ⟨[], rfl, rfl, fun j x hj => absurd hj (Nat.not_lt_zero _)⟩ (fun _ s => sqt (s _ _ nga hg)) ?_ ?_
    · rintro i l y H3 H4 hi sm dd nDa hl hz r ⟨rfl, hy⟩
      rw [List.length_map] at hi
      obtain ⟨x, hx, rfl⟩ := strs_at hy
      refine ⟨rfl, yes1 ?_⟩
      refine ⟨_, rfl, _, rfl, _, rfl, a, 9, rfl, dd, by decide, by decide, fun H5 k s5 d5 k0 k1 => ?_⟩
      refine ⟨_, _, rfl, rfl, szle (by simp), fun L hL => ?_⟩
      have nLa : L ≠ a := fun z => by
        obtain ⟨o, e⟩ := d5.some
        rw [← z, hL] at e
        cases e
      have sL := same_upd (o := .lst [.int 1, .int 2, .int 9, .int (1 + k)]) hL
      refine ⟨a, L, _, rfl, d5.same sL, .inl upd_same, nLa, by simp, by simp, fun H6 v s6 d6 hv => ?_⟩
      have hv9 : ∃ n : Int, v = .int n ∧ 1 ≤ n ∧ n ≤ 9 := by
        simp only [List.mem_cons, List.not_mem_nil, or_false] at hv
        rcases hv with rfl | rfl | rfl | rfl
        · exact ⟨1, rfl, by decide, by decide⟩
        · exact ⟨2, rfl, by decide, by decide⟩
        · exact ⟨9, rfl, by decide, by decide⟩
        · exact ⟨1 + k, rfl, by omega, by omega⟩
      obtain ⟨n, rfl, n1, n9⟩ := hv9
      refine ⟨szle (by simp), fun p hp => ?_⟩
      have x6 : SameX a H4 H6 := (s5.trans (Same.x a sL)).trans s6
      have hl6 := x6 _ _ nDa hl
      have npD : p ≠ D := fun z => by rw [z, hl6] at hp; cases hp
      have npa : p ≠ a := fun z => by
        obtain ⟨o, e⟩ := d6.some
        rw [← z, hp] at e
        cases e
      have x7 := x6.trans (Same.x a (same_upd (o := .tup [.str x, .int n]) hp))
      refine lcx_put PwR.off hD nDa (by omega) (sm.trans x7) (d6.same (same_upd hp)) (same_upd hp _ _ hl6) hz ?_
      exact r.put x7 hx npD npa upd_same n1 n9
    intro l H1 x1 d1 hl1 hz1 r
    rw [List.length_map] at r
    obtain ⟨ps, f, rfl, pr, fb⟩ := r.fn asc.nodup
    refine ⟨D, ps, dkS sgs f, rfl, sq hl1, paired_imp pr fun p kv h => sqt h, fun P hP => ?_⟩
    rw [merge_dkS asc.nodup f]
    have nPa : P ≠ a := fun z => by
      obtain ⟨o, e⟩ := d1.some
      rw [← z, hP] at e
      cases e
    have sP := same_upd (o := .dK (dkS sgs f)) hP
    have x2 := x1.trans (Same.x a sP)
    have d2 := d1.same sP
    have hP2 : (upd H1 P (.dK (dkS sgs f))) P = some (.dK (dkS sgs f)) := upd_same
    generalize upd H1 P (.dK (dkS sgs f)) = H2 at x2 d2 hP2 ⊢
    clear sP hP hl1 hz1 pr hD r
    have hg2 := x2 _ _ nga hg
    -- outs
    refine ⟨_, rfl, _, rfl, ⟨_, sqt hg2⟩, fun D hD => ?_⟩
    refine lcx_wk Wk.tup hD d2 (PwR sgs a D) PwR.off ⟨[], rfl, rfl, fun j x hj => absurd hj (Nat.not_lt_zero _)⟩ (fun _ s => sqt (s _ _ nga hg2)) ?_ ?_
    · rintro i l y H3 H4 hi sm dd nDa hl hz r ⟨rfl, hy⟩
      rw [List.length_map] at hi
      obtain ⟨x, hx, rfl⟩ := strs_at hy
      refine ⟨rfl, yes1 ?_⟩
      refine ⟨_, rfl, _, rfl, _, rfl, a, 9, rfl, dd, by decide, by decide, fun H5 k s5 d5 k0 k1 => ?_⟩
      refine ⟨_, _, rfl, rfl, szle (by simp), fun L hL => ?_⟩
      have nLa : L ≠ a := fun z => by
        obtain ⟨o, e⟩ := d5.some
        rw [← z, hL] at e
        cases e
      have sL := same_upd (o := .lst [.int 1, .int 4, .int 9, .int (1 + k)]) hL
      refine ⟨a, L, _, rfl, d5.same sL, .inl upd_same, nLa, by simp, by simp, fun H6 v s6 d6 hv => ?_⟩
      have hv9 : ∃ n : Int, v = .int n ∧ 1 ≤ n ∧ n ≤ 9 := by
        simp only [List.mem_cons, List.not_mem_nil, or_false] at hv
        rcases hv with rfl | rfl | rfl | rfl
        · exact ⟨1, rfl, by decide, by decide⟩
        · exact ⟨4, rfl, by decide, by decide⟩
        · exact ⟨9, rfl, by decide, by decide⟩
        · exact ⟨1 + k, rfl, by omega, by omega⟩
      obtain ⟨n, rfl, n1, n9⟩ := hv9
      refine ⟨szle (by simp), fun p hp => ?_⟩
      have x6 : SameX a H4 H6 := (s5.trans (Same.x a sL)).trans s6
      have hl6 := x6 _ _ nDa hl
      have npD : p ≠ D := fun z => by rw [z, hl6] at hp; cases hp
      have npa : p ≠ a := fun z => by
        obtain ⟨o, e⟩ := d6.some
        rw [← z, hp] at e
        cases e
      have x7 := x6.trans (Same.x a (same_upd (o := .tup [.str x, .int n]) hp))
      refine lcx_put PwR.off hD nDa (by omega) (sm.trans x7) (d6.same (same_upd hp)) (same_upd hp _ _ hl6) hz ?_
      exact r.put x7 hx npD npa upd_same n1 n9
    intro l H3 x3 d3 hl3 hz3 r
    rw [List.length_map] at r
    obtain ⟨ps, f2, rfl, pr, fb2⟩ := r.fn asc.nodup
    refine ⟨D, ps, dkS sgs f2, rfl, sq hl3, paired_imp pr fun p kv h => sqt h, fun O hO => ?_⟩
    rw [merge_dkS asc.nodup f2]
    have nOa : O ≠ a := fun z => by
      obtain ⟨o, e⟩ := d3.some
      rw [← z, hO] at e
      cases e
    have sO := same_upd (o := .dK (dkS sgs f2)) hO
    have x4 := (x2.trans x3).trans (Same.x a sO)
    have d4 := d3.same sO
    have hP4 := sO _ _ (x3 _ _ nPa hP2)
    have hO4 : (upd H3 O (.dK (dkS sgs f2))) O = some (.dK (dkS sgs f2)) := upd_same
    generalize upd H3 O (.dK (dkS sgs f2)) = H4 at x4 d4 hP4 hO4 ⊢
    clear sO hO hl3 hz3 pr hD r x2 x3 d2 d3 hP2
    -- swaps = {}
    intro S hS
    have nSa : S ≠ a := fun z => by
      obtain ⟨o, e⟩ := d4.some
      rw [← z, hS] at e
      cases e
    have sS := same_upd (o := .dT []) hS
    have d5 := d4.same sS
    have hS5 : (upd H4 S (.dT [])) S = some (.dT []) := upd_same
    have hS0 : ∀ b o, H4 b = some o → b ≠ S := fun b o e z => by rw [z, hS] at e; cases e
    have kp5 : ∀ b o, b ≠ a → H4 b = some o → (upd H4 S (.dT [])) b = some o := fun b o _ e => sS _ _ e
    show _
    generalize upd H4 S (.dT []) = H5 at d5 hS5 kp5 ⊢
    refine ⟨_, rfl, a, 4, rfl, d5, by decide, by decide, fun H6 k x6 d6 k0 k1 => ?_⟩
    refine ⟨_, rfl, by omega, by omega, ?_⟩
    refine for_wk (n := k.toNat) (S := fun _ => True) Wk.range0 (fun i σ H7 => ∃ (kvs : List (List Key × V)) (f : Tab Str) (y5 y6 y7 y8 : Option V), σ = [some (.ref a), some (.ref g), some (.ref P), some (.ref O), some (.ref S), y5, y6, y7, y8] ∧ (∀ b o, b ≠ a → H4 b = some o → H7 b = some o) ∧ Dice H7 a ∧ H7 S = some (.dT kvs) ∧ kvs.length ≤ i ∧ TabOk kvs f ∧ ∀ x y v, f x y = some v → x ∈ sgs ∧ y ∈ sgs ∧ x ≠ y ∧ 1 ≤ v ∧ v ≤ 18)
      ⟨[], fun _ _ => none, none, none, none, none, rfl, fun b o n e => x6 _ _ n (kp5 b o n e), d6, x6 _ _ nSa hS5, Nat.le_refl _, .nil, fun x y v h => by cases h⟩ (fun _ _ _ _ _ => trivial) ?_ ?_
    · rintro i v σ H7 H8 hi ⟨kvs, ft, y5, y6, y7, y8, rfl, kp7, d7, hS7, l7, tok, fx⟩ ⟨rfl, rfl⟩
      have hg7 : H8 g = some (.tup (sgs.map V.str)) := kp7 _ _ nga (x4 _ _ nga hg)
      have n1 : 0 < sgs.length := List.length_pos_iff.mpr ne
      refine ⟨_, rfl, _, rfl, a, g, _, rfl, d7, .inr hg7, nga, by rw [List.length_map]; omega, by rw [List.length_map]; omega, fun H9 v x9 d9 hv => ?_⟩
      obtain ⟨x, hx, rfl⟩ := List.mem_map.mp hv
      refine ⟨_, rfl, _, rfl, a, g, _, rfl, d9, .inr (x9 _ _ nga hg7), nga, by rw [List.length_map]; omega, by rw [List.length_map]; omega, fun H10 w x10 d10 hw => ?_⟩
      obtain ⟨y, hy, rfl⟩ := List.mem_map.mp hw
      have x11 := x9.trans x10
      have kp10 : ∀ b o, b ≠ a → H4 b = some o → H10 b = some o := fun b o n e => x11 _ _ n (kp7 b o n e)
      refine ⟨_, _, rfl, _, rfl, _, rfl, rfl, _, rfl, ?_⟩
      by_cases c : x = y
      · refine ite_no (by rw [decide_eq_true (by rw [c])]; rfl) ?_
        exact ⟨kvs, ft, _, _, _, _, rfl, kp10, d10, x11 _ _ nSa hS7, by omega, tok, fx⟩
      · refine ite_of (by rw [decide_eq_false (by intro z; injection z with z; exact c z)]; rfl) ?_
        refine ⟨_, rfl, a, 18, rfl, d10, by decide, by decide, fun H12 u x12 d12 u0 u1 => ?_⟩
        refine ⟨_, _, rfl, rfl, _, rfl, _, rfl, _, rfl, szle (by simp), fun p hp => ?_⟩
        have sp := same_upd (o := .tup [.str x, .str y]) hp
        have hS13 := sp _ _ (x12 _ _ nSa (x11 _ _ nSa hS7))
        refine ⟨S, _, rfl, DPut.t (k := k2 x y) hS13 upd_same (szlt (by omega)), putK kvs (k2 x y) (.int (1 + u)), tput ft x y (1 + u), _, _, _, _, rfl, fun b o n e => ?_, ?_, upd_same, ?_, tok.put x y _, fun x' y' w' h => ?_⟩
        · rw [upd_ne (hS0 b o e)]
          exact sp _ _ (x12 _ _ n (kp10 b o n e))
        · obtain ⟨z1, z2, z3, z4⟩ := d12.same sp
          exact ⟨z1, z2, by rw [upd_ne nSa.symm]; exact z3, z4⟩
        · have := length_putK kvs (k2 x y) (V.int (1 + u))
          omega
        · unfold tput at h
          split at h
          · rename_i c2
            obtain ⟨rfl, rfl⟩ := c2
            injection h with h
            exact ⟨hx, hy, c, by omega, by omega⟩
          · exact fx x' y' w' h
    · rintro σ H7 ⟨kvs, ft, y5, y6, y7, y8, rfl, kp7, d7, hS7, l7, tok, fx⟩
      refine ⟨_, rfl, _, rfl, _, rfl, szle (by simp), fun L hL => ?_⟩
      have sL := same_upd (o := .lst [.ref P, .ref O, .ref S]) hL
      refine q _ L P O S ⟨sgs, f, f2, ft⟩ (fun b o n e => sL _ _ (kp7 _ _ n (x4 _ _ n e))) (d7.same sL) upd_same rfl (sL _ _ (kp7 _ _ nPa hP4)) (sL _ _ (kp7 _ _ nOa hO4)) ⟨kvs, sL _ _ hS7, by omega, tok⟩ ⟨asc, ne, fb, fb2, fx⟩
end K7
end

section
set_option Elab.async false
set_option linter.all false
set_option maxRecDepth 100000
namespace K7
open PySem PySem.Spec PyProof.Rows L2 SlX
/-! The walk: a drawn machine, trimmed. -/
/-- the drawn rows, in a list -/
def StsAt (H : Hp) (l : Addr) (st : MachS) : Prop := ∃ rs ds : List Addr, H l = some (.lst (rs.map V.ref)) ∧ rs.length = st.length ∧ ds.length = st.length ∧
  ∀ (i : Nat) (row : List (Str × Nat) × Bool), st[i]? = some row → ∃ r d, rs[i]? = some r ∧ ds[i]? = some d ∧ H r = some (.tup [.ref d, .bl row.2]) ∧ H d = some (.dK (mvD row.1))
abbrev natV (f : List Nat) : List V := f.map fun x => V.int (x : Nat)
theorem nat_at {f : List Nat} {i : Nat} {y : V} (h : (natV f)[i]? = some y) : ∃ s, f[i]? = some s ∧ y = .int (s : Nat) := by
  rw [List.getElem?_map] at h
  cases e : f[i]? with
  | none => rw [e] at h; cases h
  | some s => rw [e] at h; exact ⟨s, rfl, (Option.some.inj h).symm⟩
theorem in_nats {t : Nat} {f : List Nat} : inV (.int (t : Nat)) (natV f) = decide (t ∈ f) := by
  rw [show natV f = f.map fun x => V.int (x : Nat) from rfl, inV_nats]
  refine decide_eq_decide.mpr ⟨fun h => ?_, fun h => List.mem_map.mpr ⟨t, h, rfl⟩⟩
  obtain ⟨x, hx, e⟩ := List.mem_map.mp h
  have : x = t := by omega
  exact this ▸ hx
theorem addAll_take {f ts : List Nat} {j t : Nat} (h : ts[j]? = some t) : addAll f (ts.take (j + 1)) = addNew (addAll f (ts.take j)) t := fold_step h
def turnP (st : MachS) (f : List Nat) (i : Nat) : List Nat := (f.take i).foldl (fun acc s => addAll acc (succs st s)) f
theorem turnP_next {st : MachS} {f : List Nat} {i s : Nat} (h : f[i]? = some s) : turnP st f (i + 1) = addAll (turnP st f i) (succs st s) := fold_step h
theorem turnP_all {st : MachS} {f : List Nat} : turnP st f f.length = turnF st f := by
  unfold turnP turnF
  rw [List.take_of_length_le (Nat.le_refl _)]
theorem turnsF_succ (st : MachS) : ∀ (k : Nat) (f : List Nat), turnsF st (k + 1) f = turnF st (turnsF st k f)
  | 0, _ => rfl
  | k + 1, f => by
    show turnsF st (k + 1) (turnF st f) = _
    rw [turnsF_succ st k]
    rfl
theorem turnsG_succ (st : MachS) (fd : List Nat) : ∀ (k : Nat) (g : List Nat), turnsG st fd (k + 1) g = goodT st fd (turnsG st fd k g)
  | 0, _ => rfl
  | k + 1, g => by
    show turnsG st fd (k + 1) (goodT st fd g) = _
    rw [turnsG_succ st fd k]
    rfl
theorem seq_cut {t u : TS} {D : L2.Ends} {σ : L2.St} {H : Hp} (R : L2.St → Hp → Prop) (h1 : ∀ N : L2.St → Hp → Prop, (∀ σ' H', R σ' H' → N σ' H') → t { D with nx := N } σ H) (h2 : ∀ σ' H', R σ' H' → u D σ' H') : tSeq t u D σ H := h1 _ h2
/-- a for statement without break or return: its body holds whatever is wanted behind -/
theorem for_wkD {J : It} {n : Nat} {S : Hp → Prop} {it : Nat → V → Hp → Hp → Prop} {g : TG} {tb : TS} {D : L2.Ends} {σ : L2.St} {H : Hp} (k : Wk J n S it) (Pv : Nat → L2.St → Hp → Prop) (h0 : Pv 0 σ H) (hS : ∀ i σ H, i ≤ n → Pv i σ H → S H)
    (hs : ∀ (D' : L2.Ends) i x σ H H', i < n → Pv i σ H → it i x H H' → g x σ H' fun σ2 H2 => tb { D' with nx := Pv (i + 1), ct := Pv (i + 1) } σ2 H2) (hd : ∀ σ H, Pv n σ H → D.nx σ H) :
    ∃ W : Nat → Nat → L2.St → Hp → Prop, (∃ m, W 0 m σ H) ∧ ∀ i m σ H, W i m σ H →
      (J.stop i H ∧ D.nx σ H) ∨ (J.go i H ∧ ∃ N : L2.St → Hp → Prop, (∀ σ' H', N σ' H' → ∃ m', m' < m ∧ W (i + 1) m' σ' H') ∧ ∀ x H', J.yld i H x H' → g x σ H' fun σ2 H2 => tb { D with nx := N, ct := N, bk := D.nx } σ2 H2) :=
  for_wk k Pv h0 hS (fun i x σ H H' h1 h2 h3 => hs { D with bk := D.nx } i x σ H H' h1 h2 h3) hd
theorem asg_to {te : TE} {i : Nat} {u : TS} {D : L2.Ends} {σ : L2.St} {H : Hp} (h : te σ H fun x H1 => u D (σ.set i (some x)) H1) : tSeq (tAsg te (gName i)) u D σ H := h
theorem nx_to {D : L2.Ends} {σ : L2.St} {H : Hp} (h : D.nx σ H) : tNext D σ H := h
theorem add_val {f : List Nat} {t : Nat} : natV f ++ (List.replicate (if (!inV (.int (t : Nat)) (natV f)) = true then (1 : Int) else 0).toNat [V.int (t : Nat)]).flatten = natV (addNew f t) := by
  rw [in_nats]
  unfold addNew
  by_cases c : t ∈ f
  · rw [decide_eq_true c, if_pos c]
    simp
  · rw [decide_eq_false c, if_neg c]
    simp [natV]
theorem flat_natV {f : List Nat} : (natV f).all flatV = true := by
  rw [List.all_map]
  exact List.all_eq_true.mpr fun _ _ => rfl
theorem succs_at {st : MachS} {s : Nat} {row : List (Str × Nat) × Bool} (h : st[s]? = some row) : succs st s = row.1.map (·.2) := by rw [succs_eq, movesOf_at h]
theorem vals_at {row : List (Str × Nat)} {j : Nat} {k : Key} {x : V} (h : (mvD row)[j]? = some (k, x)) : ∃ t : Nat, (row.map (·.2))[j]? = some t ∧ x = .int (t : Nat) := by
  obtain ⟨e, he, _, rfl⟩ := mvD_at h
  exact ⟨e.2, by rw [List.getElem?_map, he]; rfl, rfl⟩
theorem szf {f : List Nat} {n : Nat} (nd : f.Nodup) (lt : ∀ x ∈ f, x < n) (n6 : n ≤ 6) : (natV f).length ≤ 6 := by
  have := nd_len nd lt
  rw [List.length_map]
  omega
theorem filt_step {α : Type} {p : α → Bool} {l : List α} {i : Nat} {x : α} (h : l[i]? = some x) : (l.take (i + 1)).filter p = (l.take i).filter p ++ (if p x = true then [x] else []) := by
  rw [List.take_add_one, h, Option.toList_some, List.filter_append]
  congr 1
  rw [List.filter_cons, List.filter_nil]
theorem natV_app (a b : List Nat) : natV (a ++ b) = natV a ++ natV b := List.map_append
theorem paired_snoc {α β : Type} {F : α → β → Prop} {x : α} {y : β} : ∀ {xs : List α} {ys : List β}, Paired F xs ys → F x y → Paired F (xs ++ [x]) (ys ++ [y])
  | [], [], _, h => .cons h .nil
  | _ :: _, _ :: _, .cons h t, k => .cons h (paired_snoc t k)
theorem merge_mvD {row : List (Str × Nat)} (nd : (row.map (·.1)).Nodup) : mergeK [] (mvD row) = mvD row := by
  have go : ∀ (i : Nat), i ≤ row.length → mergeK [] (mvD (row.take i)) = mvD (row.take i) := fun i => by
    induction i with
    | zero => intro _; rfl
    | succ i ih =>
      intro hi
      obtain ⟨e, he⟩ := getE_of (xs := row) (by omega : i < row.length)
      have e1 : mvD (row.take (i + 1)) = mvD (row.take i) ++ [(Sum.inr e.1, V.int (e.2 : Nat))] := by
        rw [List.take_add_one, he, Option.toList_some]
        exact List.map_append
      have p := mvD_put nd he
      have ih' := ih (by omega)
      unfold mergeK at ih' ⊢
      rw [e1, List.foldl_append, ih', ← e1]
      exact p
  have := go row.length (Nat.le_refl _)
  rwa [List.take_of_length_le (Nat.le_refl _)] at this
abbrev trimE (G : List Nat) : Str × Nat → Option (Str × Nat) := fun e => if e.2 ∈ G then some (e.1, G.idxOf e.2) else none
def PrR (G : List Nat) (row : List (Str × Nat)) (D : Addr) (j : Nat) (l : List V) (H : Hp) : Prop := ∃ ps : List Addr, l = ps.map V.ref ∧ Paired (fun (p : Addr) (kv : Key × V) => p ≠ D ∧ H p = some (.tup [kV kv.1, kv.2])) ps (mvD ((row.take j).filterMap (trimE G)))
theorem PrR.off {G : List Nat} {row : List (Str × Nat)} {D : Addr} : Off D (PrR G row D) := by
  rintro j l H H' k ⟨ps, e, h⟩
  exact ⟨ps, e, paired_imp h fun p kv z => ⟨z.1, k _ _ z.1 z.2⟩⟩
theorem fm_take {G : List Nat} {row : List (Str × Nat)} {j : Nat} {e : Str × Nat} (he : row[j]? = some e) : (row.take (j + 1)).filterMap (trimE G) = (row.take j).filterMap (trimE G) ++ (if e.2 ∈ G then [(e.1, G.idxOf e.2)] else []) := by
  rw [List.take_add_one, he, Option.toList_some, List.filterMap_append]
  congr 1
  by_cases c : e.2 ∈ G
  · simp [c]
  · simp [c]
theorem idx_nats {G : List Nat} {t : Nat} (h : t ∈ G) : ∃ z, (natV G)[G.idxOf t]? = some z ∧ eqV z (.int (t : Nat)) = true ∧ ∀ (m : Nat) (z' : V), m < G.idxOf t → (natV G)[m]? = some z' → eqV z' (.int (t : Nat)) = false := by
  have h1 : G.idxOf t < G.length := List.idxOf_lt_length_iff.mpr h
  refine ⟨.int (t : Nat), ?_, by simp [eqV], fun m z' hm hz => ?_⟩
  · rw [List.getElem?_map, List.getElem?_eq_getElem h1, List.getElem_idxOf h1]
    rfl
  · obtain ⟨s, hs, rfl⟩ := nat_at hz
    have ne : s ≠ t := fun z => by
      subst z
      have h2 : m < G.length := by omega
      rw [List.getElem?_eq_getElem h2] at hs
      have h3 : G[m] = s := Option.some.inj hs
      have hm' : m < G.findIdx (· == s) := hm
      have := List.not_of_lt_findIdx hm'
      rw [h3] at this
      simp at this
    show ((s : Int) == (t : Int)) = false
    rw [beq_eq_false_iff_ne]
    omega
def RowsP (st : MachS) (G : List Nat) (Rw : Addr) (i : Nat) (H : Hp) : Prop := ∃ ts : List Addr, H Rw = some (.lst (ts.map V.ref)) ∧ ts.length = i ∧ ∀ (j s : Nat), j < i → G[j]? = some s → ∃ t d, ts[j]? = some t ∧ t ≠ Rw ∧ d ≠ Rw ∧ H t = some (.tup [.ref d, .bl (lastOf st s)]) ∧ H d = some (.dK (mvD (trimRow st G s)))
/-! ### _law_trimmed -/
def sp__law_trimmed {K : PySem.W.Frag} {mg : Str → Option Value} (T : Txt K mg) : Sp := fun vs H Q _ => ∃ (l : Addr) (st : MachS), vs = [.ref l] ∧ StsAt H l st ∧ MTo st ∧ 1 ≤ st.length ∧ st.length ≤ 6 ∧ (∀ row ∈ st, Asc (row.1.map (·.1))) ∧ ∀ H' p, Same H H' → TgAt H' p (trimmed st) → Q (.ref p) H'
set_option maxHeartbeats 4000000 in
theorem ok__law_trimmed {P : Program} {w : World} {K : PySem.W.Frag} {mg : Str → Option Value} {base : Heap} (T : Txt K mg) : FnOk P w K mg base CX0 1 T.a__law_trimmed T.d__law_trimmed ["states"] (sp__law_trimmed T) := by
  refine T.F__law_trimmed.ok sc__law_trimmed (fun vs H Q E h => ?_) (fun cdv A outer s H vs Q E hr h => ?_)
  · obtain ⟨l, st, rfl, ⟨rs, ds, t1, t2, td, t3⟩, mto, n1, n6, asc, q⟩ := h
    rfl
  · obtain ⟨l, st, rfl, ⟨rs, ds, t1, t2, td, t3⟩, mto, n1, n6, asc, q⟩ := h
    refine ⟨_, PSs.nox (pss_cons (ps_set (i := 1) sc__law_trimmed.nd rfl (by first | exact .inl rfl | exact .inr rfl) (pe_lst (pa_cons pe_int pa_nil)))
      (pss_cons (ps_for PassesOwn.never rfl (pi_range1 (by rfl) T.n_range (pa_cons (pe_callB (call_lenK K) (by rfl) T.n_len (by decide +kernel) (pa_cons (pv 0) pa_nil)) pa_nil)) (pg_name (i := 2) sc__law_trimmed.nd rfl (by first | exact .inl rfl | exact .inr rfl)) (pss_one (ps_for PassesOwn.never rfl (pi_listK K (pe_callTy (call_listK K) (by rfl) T.n_list (by decide +kernel) (pa_cons (pv 1) pa_nil))) (pg_name (i := 3) sc__law_trimmed.nd rfl (by first | exact .inl rfl | exact .inr rfl)) (pss_one (ps_lock (ps_for PassesOwn.never rfl (pi_values (pe_ix (ix_tupK K) (pe_ix (ix_listK K) (pv 0) (pv 3) (fun _ _ => rfl)) pe_int (fun _ _ => rfl))) (pg_name (i := 4) sc__law_trimmed.nd rfl (by first | exact .inl rfl | exact .inr rfl)) (pss_one (ps_set (i := 1) sc__law_trimmed.nd rfl (by first | exact .inl rfl | exact .inr rfl) (pe_op op_cat (pv 1) (pe_op op_rep (pe_lst (pa_cons (pv 4) pa_nil)) (pe_callTy call_int1 (by rfl) T.n_int (by decide +kernel) (pa_cons (pe_cmpR (op_notInK K) (pv 4) (pv 1) (by rfl)) pa_nil))))))))))))
      (pss_cons (ps_set (i := 5) sc__law_trimmed.nd rfl (by first | exact .inl rfl | exact .inr rfl) (pe_lc (own := [("at", 7)]) rfl sc__law_trimmed.nd (pi_listK K (pv 1)) (blkOk_by (own := [("at", 7)]) (N := n__law_trimmed) (sc := defScope s__law_trimmed) (by decide +kernel)) (fun _ _ _ _ _ => (pg_name (i := 7) sc__law_trimmed.nd rfl (by first | exact .inl rfl | exact .inr rfl))) (fun _ _ _ _ _ => (pts_one (pt_val (pe_ix (ix_tupK K) (pe_ix (ix_listK K) (pv 0) (pv 7) (fun _ _ => rfl)) pe_int (fun _ _ => rfl))))) (fun _ _ _ _ _ => (pv 7))))
      (pss_cons (ps_for PassesOwn.never rfl (pi_range1 (by rfl) T.n_range (pa_cons (pe_callB (call_lenK K) (by rfl) T.n_len (by decide +kernel) (pa_cons (pv 0) pa_nil)) pa_nil)) (pg_name (i := 2) sc__law_trimmed.nd rfl (by first | exact .inl rfl | exact .inr rfl)) (pss_one (ps_set (i := 5) sc__law_trimmed.nd rfl (by first | exact .inl rfl | exact .inr rfl) (pe_lc (own := [("at", 7)]) rfl sc__law_trimmed.nd (pi_listK K (pv 1)) (blkOk_by (own := [("at", 7)]) (N := n__law_trimmed) (sc := defScope s__law_trimmed) (by decide +kernel)) (fun _ _ _ _ _ => (pg_name (i := 7) sc__law_trimmed.nd rfl (by first | exact .inl rfl | exact .inr rfl))) (fun _ _ _ _ _ => (pts_one (PW.pt (pw_or (pt_cmpR (op_inK K) (pv 7) (pv 5) (by rfl)) (pw_or1 (pt_cmpR (op_neDK K hr.units) (pe_lock (pe_lc (own := [("to", 4)]) rfl sc__law_trimmed.nd (pi_values (pe_ix (ix_tupK K) (pe_ix (ix_listK K) (pv 0) (pv 7) (fun _ _ => rfl)) pe_int (fun _ _ => rfl))) (blkOk_by (own := [("to", 4)]) (N := n__law_trimmed) (by kernel_rfl)) (fun _ _ _ _ _ => (pg_name (i := 4) sc__law_trimmed.nd rfl (by first | exact .inl rfl | exact .inr rfl))) (fun _ _ _ _ _ => (pts_one (pt_cmpR (op_inK K) (pv 4) (pv 5) (by rfl)))) (fun _ _ _ _ _ => (pv 4)))) (pe_lst pa_nil) (nomark _))))))) (fun _ _ _ _ _ => (pv 7))))))
      (pss_cons (ps_if (pt_cmpR (op_notInK K) pe_int (pv 5) (by rfl)) (pss_one (ps_ret (pe_tup pa_nil))) pss_nil)
      (pss_cons (ps_set (i := 6) sc__law_trimmed.nd rfl (by first | exact .inl rfl | exact .inr rfl) (pe_lst pa_nil))
      (pss_cons (ps_for PassesOwn.never rfl (pi_listK K (pv 5)) (pg_name (i := 7) sc__law_trimmed.nd rfl (by first | exact .inl rfl | exact .inr rfl)) (pss_cons (ps_lock (ps_setLc (i := 8) (own := [("sign", 9), ("to", 4)]) rfl sc__law_trimmed.nd rfl rfl (sw_true rfl rfl rfl (by decide +kernel)) (pi_items (pe_ix (ix_tupK K) (pe_ix (ix_listK K) (pv 0) (pv 7) (fun _ _ => rfl)) pe_int (fun _ _ => rfl))) (blkOk_by (own := [("sign", 9), ("to", 4)]) (N := n__law_trimmed) (sc := defScope s__law_trimmed) (by decide +kernel)) (fun _ _ _ _ _ => (pg_tupK K (n := 2) rfl (pgs_cons (pg_name (i := 9) sc__law_trimmed.nd rfl (by first | exact .inl rfl | exact .inr rfl)) (pgs_cons (pg_name (i := 4) sc__law_trimmed.nd rfl (by first | exact .inl rfl | exact .inr rfl)) pgs_nil)))) (fun _ _ _ _ _ => (pts_one (pt_cmpR (op_inK K) (pv 4) (pv 5) (by rfl)))) (fun _ _ _ _ _ => (pe_tup (pa_cons (pv 9) (pa_cons (pe_bmK K PySem.F.plainAttrs_list PySem.F.slot_list_index PySem.F.type_list_index (mt_indexK K) (pv 5) (pa_cons (pv 4) pa_nil)) pa_nil))))))
      (pss_one (ps_expr (pe_bmK K PySem.F.plainAttrs_list PySem.F.slot_list_append PySem.F.type_list_append mt_append (pv 6) (pa_cons (pe_tup (pa_cons (pe_callTy (call_dictP rfl) (by rfl) T.n_dict (by decide +kernel) (pa_cons (pv 8) pa_nil)) (pa_cons (pe_ix (ix_tupK K) (pe_ix (ix_listK K) (pv 0) (pv 7) (fun _ _ => rfl)) pe_int (fun _ _ => rfl)) pa_nil))) pa_nil))))))
      (pss_one (ps_ret (pe_callTy (call_tupK K) (by rfl) T.n_tuple (by decide +kernel) (pa_cons (pv 6) pa_nil))))))))))), ?_⟩
    have hln : ((rs.map V.ref).length : Int) = (st.length : Int) := by rw [List.length_map, t2]
    have t3' : ∀ s, s < st.length → ∃ r d row, st[s]? = some row ∧ rs[s]? = some r ∧ H r = some (.tup [.ref d, .bl row.2]) ∧ H d = some (.dK (mvD row.1)) ∧ succs st s = row.1.map (·.2) ∧ lastOf st s = row.2 ∧ row.1.length ≤ 5 ∧ movesOf st s = row.1 := fun s hs => by
      obtain ⟨row, hrow⟩ := getE_of hs
      obtain ⟨r, d, z1, z2, z3, z4⟩ := t3 s row hrow
      exact ⟨r, d, row, hrow, z1, z3, z4, succs_at hrow, lastOf_at hrow, useful_len asc (List.mem_of_getElem? hrow), movesOf_at hrow⟩
    have fF := turnsF_facts mto st.length [0] (by simp) (by intro x hx; simp at hx; omega)
    -- found = [0]
    refine seq_cut (fun σ' H' => ∃ F, σ' = [some (.ref l), some (.ref F), none, none, none, none, none, none, none, none] ∧ Same H H' ∧ H' F = some (.lst (natV (turnsF st 0 [0])))) (fun N hN => ?_) ?_
    · exact ⟨szle (by simp), fun F hF => hN _ _ ⟨F, rfl, same_upd hF, upd_same⟩⟩
    rintro σ1 H1 ⟨F, rfl, s1, hF1⟩
    -- for turn in range(len(states))
    refine seq_cut (fun σ' H' => ∃ (F : Addr) (y2 y3 y4 : Option V), σ' = [some (.ref l), some (.ref F), y2, y3, y4, none, none, none, none, none] ∧ Same H H' ∧ H' F = some (.lst (natV (foundOf st)))) (fun N hN => ?_) ?_
    · refine ⟨_, rfl, l, _, rfl, .inl (sq (s1 _ _ t1)), _, rfl, by rw [hln]; omega, by rw [hln]; omega, ?_⟩
      refine for_wkD (n := (((rs.map V.ref).length : Nat) : Int).toNat) (S := fun _ => True) Wk.range0 (fun k σ H2 => ∃ (F : Addr) (y2 y3 y4 : Option V), σ = [some (.ref l), some (.ref F), y2, y3, y4, none, none, none, none, none] ∧ Same H H2 ∧ H2 F = some (.lst (natV (turnsF st k [0]))))
        ⟨F, none, none, none, rfl, s1, hF1⟩ (fun _ _ _ _ _ => trivial) ?_ ?_
      · rintro D' k v σ H2 H2' hk ⟨F, y2, y3, y4, rfl, s2, hF2⟩ ⟨rfl, rfl⟩
        rw [hln, Int.toNat_natCast] at hk
        have fc := turnsF_facts mto k [0] (by simp) (by intro x hx; simp at hx; omega)
        rw [turnsF_succ]
        generalize hf : turnsF st k [0] = f at hF2 fc ⊢
        -- for one in list(found)
        refine ⟨_, rfl, F, _, rfl, .inl (sq hF2), fun L hL => ?_⟩
        have sL := same_upd (o := .lst (natV f)) hL
        have hL3 : (upd H2' L (.lst (natV f))) L = some (.lst (natV f)) := upd_same
        have hF3 := sL _ _ hF2
        have s3 := s2.trans sL
        generalize upd H2' L (.lst (natV f)) = H3 at s3 hL3 hF3 ⊢
        refine ⟨L, rfl, ⟨_, sq hL3⟩, ?_⟩
        refine for_wkD (n := (natV f).length) (S := fun H => SqL K H L (natV f)) Wk.list (fun i σ H4 => ∃ (F : Addr) (y3 y4 : Option V), σ = [some (.ref l), some (.ref F), some (.int (k : Nat)), y3, y4, none, none, none, none, none] ∧ Same H3 H4 ∧ H4 F = some (.lst (natV (turnP st f i))))
          ⟨F, _, _, rfl, fun _ _ h => h, hF3⟩ (fun i σ H4 _ ⟨_, _, _, _, s, _⟩ => sq (s _ _ hL3)) ?_ ?_
        · rintro D2 i v σ H4 H4' hi ⟨F, y3, y4, rfl, s4, hF4⟩ ⟨rfl, hy⟩
          obtain ⟨s, hs, rfl⟩ := nat_at hy
          have slt := fc.2.1 s (List.mem_of_getElem? hs)
          obtain ⟨r, d, row, hrow, z1, z3, z4, esu, _, l5, _⟩ := t3' s slt
          have s4' := s3.trans s4
          have h4d := s4' _ _ z4
          rw [turnP_next hs]
          have tp : (turnP st f i).Nodup ∧ ∀ x ∈ turnP st f i, x < st.length := ⟨fold_nd fc.1, fun x hx => by
            rcases fold_mem.mp hx with h | ⟨s', hs', h⟩
            · exact fc.2.1 x h
            · exact mto s' x h⟩
          generalize turnP st f i = g at hF4 tp ⊢
          refine ⟨d, _, h4d, trivial, fun od => ?_⟩
          refine ⟨_, rfl, _, rfl, l, _, _, _, rfl, rfl, sq (locked _ _ (by intro z; rw [z, z4] at t1; cases t1) (s4' _ _ t1)), atI_ofNat (by rw [List.getElem?_map, z1]; rfl), r, _, _, _, rfl, rfl, sqt (locked _ _ (by intro z; rw [z, z4] at z3; cases z3) (s4' _ _ z3)), rfl, ?_⟩
          refine ⟨d, od, _, rfl, upd_same, ?_⟩
          have nFd : F ≠ d := fun z => by rw [z, h4d] at hF4; cases hF4
          refine for_wkD (n := (mvD row.1).length) (S := fun H => H d = some (.frz od (.dK (mvD row.1)))) Wk.vals (fun j σ H5 => ∃ (F : Addr) (y4 : Option V), σ = [some (.ref l), some (.ref F), some (.int (k : Nat)), some (.int (s : Nat)), y4, none, none, none, none, none] ∧ F ≠ d ∧ SameX d H4' H5 ∧ H5 d = some (.frz od (.dK (mvD row.1))) ∧ H5 F = some (.lst (natV (addAll g ((succs st s).take j)))))
            ⟨F, _, rfl, nFd, locked, upd_same, by rw [upd_ne nFd]; exact hF4⟩ (fun j σ H5 _ ⟨_, _, _, _, _, h, _⟩ => h) ?_ ?_
          · rintro D3 j v σ H5 H5' hj ⟨F, y4, rfl, nFd, sx, hfz, hF5⟩ ⟨rfl, k', hk'⟩
            obtain ⟨t, ht, rfl⟩ := vals_at hk'
            rw [← esu] at ht
            have tlt : t < st.length := mto s t (List.mem_of_getElem? ht)
            rw [addAll_take ht]
            have bd : (addAll g ((succs st s).take j)).Nodup ∧ ∀ x ∈ addAll g ((succs st s).take j), x < st.length := ⟨addAll_nd tp.1, fun x hx => by
              rcases addAll_mem.mp hx with h | h
              · exact tp.2 x h
              · exact mto s x (List.mem_of_mem_take h)⟩
            have sz : (addAll g ((succs st s).take j)).length ≤ 6 := by
              have := szf bd.1 bd.2 n6
              rwa [List.length_map] at this
            generalize addAll g ((succs st s).take j) = g2 at hF5 bd sz ⊢
            refine ⟨_, rfl, _, rfl, szle (by simp), fun p hp => ?_⟩
            have sp := same_upd (o := .lst [.int (t : Nat)]) hp
            refine ⟨_, rfl, _, rfl, F, _, rfl, .inl (sq (sp _ _ hF5)), rfl, flat_natV, .inr ⟨_, rfl, ?_⟩⟩
            have e := in_nats (t := t) (f := g2)
            generalize inV (.int (t : Nat)) (natV g2) = b at e ⊢
            have fin : ∀ (n : Nat) (Hz : Hp) (p3 : Addr), n ≤ 1 → natV g2 ++ (List.replicate n [V.int (t : Nat)]).flatten = natV (addNew g2 t) → Same H5' Hz → Hz p3 = none → ∃ (F : Addr) (y4 : Option V), [some (.ref l), some (.ref p3), some (.int (k : Nat)), some (.int (s : Nat)), some (.int (t : Nat)), none, none, none, none, none] = [some (.ref l), some (.ref F), some (.int (k : Nat)), some (.int (s : Nat)), y4, none, none, none, none, none] ∧ F ≠ d ∧ SameX d H4' (upd Hz p3 (.lst (natV g2 ++ (List.replicate n [V.int (t : Nat)]).flatten))) ∧ (upd Hz p3 (.lst (natV g2 ++ (List.replicate n [V.int (t : Nat)]).flatten))) d = some (.frz od (.dK (mvD row.1))) ∧ (upd Hz p3 (.lst (natV g2 ++ (List.replicate n [V.int (t : Nat)]).flatten))) F = some (.lst (natV (addNew g2 t))) := fun n Hz p3 _ e sz' hp3 => by
              rw [e]
              refine ⟨p3, _, rfl, fun z => ?_, sx.trans (Same.x d (sz'.trans (same_upd hp3))), ?_, upd_same⟩
              · rw [z, sz' _ _ hfz] at hp3
                cases hp3
              · exact same_upd hp3 _ _ (sz' _ _ hfz)
            by_cases c : t ∈ g2
            · rw [decide_eq_true c] at e
              subst e
              refine ⟨p, 0, _, rfl, rfl, upd_same, by decide, by decide, szle (by simp), fun p2 hp2 => ?_⟩
              have sp2 := sp.trans (same_upd (o := .lst (List.replicate (0 : Int).toNat [V.int (t : Nat)]).flatten) hp2)
              refine ⟨F, p2, _, _, rfl, rfl, sp2 _ _ hF5, upd_same, szle (by simp; omega), fun p3 hp3 => ?_⟩
              exact fin 0 _ p3 (by decide) (by unfold addNew; rw [if_pos c]; simp) sp2 hp3
            · rw [decide_eq_false c] at e
              subst e
              refine ⟨p, 1, _, rfl, rfl, upd_same, by decide, by decide, szle (by simp), fun p2 hp2 => ?_⟩
              have sp2 := sp.trans (same_upd (o := .lst (List.replicate (1 : Int).toNat [V.int (t : Nat)]).flatten) hp2)
              refine ⟨F, p2, _, _, rfl, rfl, sp2 _ _ hF5, upd_same, szle (by simp; omega), fun p3 hp3 => ?_⟩
              exact fin 1 _ p3 (by decide) (by unfold addNew; rw [if_neg c]; simp [natV]) sp2 hp3
          · rintro σ H5 ⟨F, y4, rfl, nFd, sx, hfz, hF5⟩
            rw [List.length_map, ← List.length_map (f := (·.2)), ← esu, List.take_of_length_le (Nat.le_refl _)] at hF5
            exact ⟨hfz, F, _, _, rfl, s4.trans (unlock h4d sx), by rw [upd_ne nFd]; exact hF5⟩
        · rintro σ H4 ⟨F, y3, y4, rfl, s4, hF4⟩
          rw [List.length_map, turnP_all] at hF4
          exact ⟨F, _, _, _, rfl, s3.trans s4, hF4⟩
      · rintro σ H2 ⟨F, y2, y3, y4, rfl, s2, hF2⟩
        rw [hln, Int.toNat_natCast] at hF2
        exact hN _ _ ⟨F, y2, y3, y4, rfl, s2, hF2⟩
    rintro σ2 H2 ⟨F, y2, y3, y4, rfl, s2, hF2⟩
    have nfd := fF.1
    have flt := fF.2.1
    have f6 := szf nfd flt n6
    generalize hfnd : foundOf st = fd at hF2
    have hfd' : turnsF st st.length [0] = fd := hfnd
    rw [hfd'] at nfd flt f6
    have lfd : fd.length ≤ 6 := by rw [List.length_map] at f6; exact f6
    -- good = [at for at in found if states[at][1]]
    refine seq_cut (fun σ' H' => ∃ G, σ' = [some (.ref l), some (.ref F), y2, y3, y4, some (.ref G), none, none, none, none] ∧ Same H2 H' ∧ H' G = some (.lst (natV (fd.filter (lastOf st))))) (fun N hN => ?_) ?_
    · refine ⟨_, rfl, F, rfl, ⟨_, sq hF2⟩, fun D hD => ?_⟩
      refine lc_wk Wk.list hD (fun i l _ => l = natV ((fd.take i).filter (lastOf st))) off_pure rfl (fun _ s => sq (s _ _ hF2)) ?_ ?_
      · rintro i l' y H3 H4 hi sm hl hz r ⟨rfl, hy⟩
        obtain ⟨s, hs, rfl⟩ := nat_at hy
        rw [List.length_map] at hi
        obtain ⟨r', d, row, hrow, z1, z3, z4, esu, ela, l5, _⟩ := t3' s (flt s (List.mem_of_getElem? hs))
        have s4 := s2.trans sm
        refine ⟨rfl, ?_⟩
        refine ⟨_, rfl, _, rfl, l, _, _, _, rfl, rfl, sq (s4 _ _ t1), atI_ofNat (by rw [List.getElem?_map, z1]; rfl), r', _, _, _, rfl, rfl, sqt (s4 _ _ z3), rfl, _, rfl, ?_⟩
        have fs := filt_step (p := lastOf st) hs
        rw [ela] at fs
        refine ite2 (fun c => ?_) (fun c => ?_)
        · rw [if_pos c] at fs
          refine ⟨_, rfl, lc_put off_pure hD (by omega) sm hl hz ?_⟩
          show _ = natV ((fd.take (i + 1)).filter (lastOf st))
          rw [r, fs, natV_app]
          rfl
        · rw [if_neg c, List.append_nil] at fs
          refine ⟨l', sm, hl, by omega, ?_⟩
          show _ = natV ((fd.take (i + 1)).filter (lastOf st))
          rw [r, fs]
      · intro l' H3 sm hl hz r
        rw [List.length_map, List.take_of_length_le (Nat.le_refl _)] at r
        subst r
        exact hN _ _ ⟨D, rfl, sm, hl⟩
    rintro σ3 H3 ⟨G, rfl, s23, hG3⟩
    have s3 := s2.trans s23
    have hF3 := s23 _ _ hF2
    -- for turn in range(len(states)): good = ..
    refine seq_cut (fun σ' H' => ∃ (G : Addr) (y2 : Option V), σ' = [some (.ref l), some (.ref F), y2, y3, y4, some (.ref G), none, none, none, none] ∧ Same H3 H' ∧ H' G = some (.lst (natV (goodOf st)))) (fun N hN => ?_) ?_
    · refine ⟨_, rfl, l, _, rfl, .inl (sq (s3 _ _ t1)), _, rfl, by rw [hln]; omega, by rw [hln]; omega, ?_⟩
      refine for_wkD (n := (((rs.map V.ref).length : Nat) : Int).toNat) (S := fun _ => True) Wk.range0 (fun k σ H4 => ∃ (G : Addr) (y2 : Option V), σ = [some (.ref l), some (.ref F), y2, y3, y4, some (.ref G), none, none, none, none] ∧ Same H3 H4 ∧ H4 G = some (.lst (natV (turnsG st fd k (fd.filter (lastOf st))))))
        ⟨G, y2, rfl, fun _ _ h => h, hG3⟩ (fun _ _ _ _ _ => trivial) ?_ ?_
      · rintro D' k v σ H4 H4' hk ⟨G, y2, rfl, s34, hG4⟩ ⟨rfl, rfl⟩
        rw [turnsG_succ]
        generalize turnsG st fd k (fd.filter (lastOf st)) = g at hG4 ⊢
        have s4 := s3.trans s34
        have hF4 := s34 _ _ hF3
        refine ⟨_, rfl, F, rfl, ⟨_, sq hF4⟩, fun D hD => ?_⟩
        refine lc_wk Wk.list hD (fun i l _ => l = natV ((fd.take i).filter fun s => decide (s ∈ g) || (succs st s).any fun t => decide (t ∈ g))) off_pure rfl (fun _ s => sq (s _ _ hF4)) ?_ ?_
        · rintro i l' y H5 H6 hi sm hl hz r ⟨rfl, hy⟩
          obtain ⟨s, hs, rfl⟩ := nat_at hy
          rw [List.length_map] at hi
          obtain ⟨r', d, row, hrow, z1, z3, z4, esu, ela, l5, _⟩ := t3' s (flt s (List.mem_of_getElem? hs))
          have s6 := s4.trans sm
          refine ⟨rfl, ?_⟩
          have hG6 := sm _ _ hG4
          have put : ∀ (b : Bool) (Hz : Hp), Same H6 Hz → (b = true → (decide (s ∈ g) || (succs st s).any fun t => decide (t ∈ g)) = true) → (b = false → (decide (s ∈ g) || (succs st s).any fun t => decide (t ∈ g)) = false) → if b = true then ∃ acc, Hz D = some (.lst acc) ∧ acc.length < sizeLine ∧ LcP H4' D (fun i l _ => l = natV ((fd.take i).filter fun s => decide (s ∈ g) || (succs st s).any fun t => decide (t ∈ g))) (i + 1) (upd Hz D (.lst (acc ++ [.int (s : Nat)]))) else LcP H4' D (fun i l _ => l = natV ((fd.take i).filter fun s => decide (s ∈ g) || (succs st s).any fun t => decide (t ∈ g))) (i + 1) Hz := fun b Hz sz' hb1 hb2 => by
            have fs := filt_step (p := fun s => decide (s ∈ g) || (succs st s).any fun t => decide (t ∈ g)) hs
            cases b with
            | true =>
              rw [hb1 rfl, if_pos rfl] at fs
              rw [if_pos rfl]
              refine lc_put off_pure hD (by omega) (sm.trans sz') (sz' _ _ hl) hz ?_
              show _ = natV _
              rw [r, fs, natV_app]
              rfl
            | false =>
              rw [hb2 rfl, if_neg (by decide), List.append_nil] at fs
              rw [if_neg (by decide)]
              refine ⟨l', sm.trans sz', sz' _ _ hl, by omega, ?_⟩
              show _ = natV _
              rw [r, fs]
          refine ⟨_, rfl, _, rfl, G, _, rfl, .inl (sq hG6), rfl, flat_natV, _, rfl, ?_⟩
          have e := in_nats (t := s) (f := g)
          generalize inV (.int (s : Nat)) (natV g) = b at e ⊢
          cases b with
          | true =>
            refine ite_of rfl ?_
            exact ⟨_, rfl, put true H6 (fun _ _ h => h) (fun _ => by rw [← e]; rfl) (fun z => by cases z)⟩
          | false =>
            refine ite_no rfl ?_
            have h6d := s6 _ _ z4
            refine ⟨d, _, h6d, trivial, fun od => ?_⟩
            refine ⟨_, rfl, _, rfl, l, _, _, _, rfl, rfl, sq (locked _ _ (by intro z; rw [z, z4] at t1; cases t1) (s6 _ _ t1)), atI_ofNat (by rw [List.getElem?_map, z1]; rfl), r', _, _, _, rfl, rfl, sqt (locked _ _ (by intro z; rw [z, z4] at z3; cases z3) (s6 _ _ z3)), rfl, ?_⟩
            refine ⟨d, od, _, rfl, upd_same, fun D2 hD2 => ?_⟩
            have nGd : G ≠ d := fun z => by rw [z, h6d] at hG6; cases hG6
            have hG7 : (upd H6 d (.frz od (.dK (mvD row.1)))) G = some (.lst (natV g)) := by rw [upd_ne nGd]; exact hG6
            have hd7 : (upd H6 d (.frz od (.dK (mvD row.1)))) d = some (.frz od (.dK (mvD row.1))) := upd_same
            have sx7 : SameX d H6 (upd H6 d (.frz od (.dK (mvD row.1)))) := locked
            generalize upd H6 d (.frz od (.dK (mvD row.1))) = H7 at hD2 hG7 hd7 sx7 ⊢
            refine lc_wk Wk.vals hD2 (fun j l _ => l = natV (((succs st s).take j).filter fun t => decide (t ∈ g))) off_pure rfl (fun _ s => s _ _ hd7) ?_ ?_
            · rintro j l2 v H8 H9 hj sm8 hl8 hz8 r8 ⟨rfl, k', hk'⟩
              obtain ⟨t, ht, rfl⟩ := vals_at hk'
              rw [← esu] at ht
              rw [List.length_map] at hj
              refine ⟨rfl, ?_⟩
              refine ⟨_, rfl, _, rfl, G, _, rfl, .inl (sq (sm8 _ _ hG7)), rfl, flat_natV, _, rfl, ?_⟩
              have e2 := in_nats (t := t) (f := g)
              have fs := filt_step (p := fun t => decide (t ∈ g)) ht
              rw [← e2] at fs
              generalize inV (.int (t : Nat)) (natV g) = b2 at fs ⊢
              cases b2 with
              | true =>
                refine ite_of rfl ?_
                rw [if_pos rfl] at fs
                refine ⟨_, rfl, lc_put off_pure hD2 (by omega) sm8 hl8 hz8 ?_⟩
                show _ = natV _
                rw [r8, fs, natV_app]
                rfl
              | false =>
                refine ite_no rfl ?_
                rw [if_neg (by decide), List.append_nil] at fs
                refine ⟨l2, sm8, hl8, by omega, ?_⟩
                show _ = natV _
                rw [r8, fs]
            · intro l2 H8 sm8 hl8 hz8 r8
              rw [List.length_map, ← List.length_map (f := (·.2)), ← esu, List.take_of_length_le (Nat.le_refl _)] at r8
              subst r8
              refine ⟨sm8 _ _ hd7, szle (by simp), fun p hp => ?_⟩
              have un := unlock h6d (sx7.trans (Same.x d sm8))
              have nDd : D2 ≠ d := fun z => by rw [z, hd7] at hD2; cases hD2
              have hl9 : (upd H8 d (.dK (mvD row.1))) D2 = some (.lst (natV ((succs st s).filter fun t => decide (t ∈ g)))) := by rw [upd_ne nDd]; exact hl8
              generalize upd H8 d (.dK (mvD row.1)) = H9 at hp un hl9 ⊢
              have sp := same_upd (o := .lst []) hp
              have en : natV ((succs st s).filter fun t => decide (t ∈ g)) = (((succs st s).filter fun t => decide (t ∈ g)).map fun t : Nat => (t : Int)).map V.int := by rw [List.map_map]; rfl
              rw [en] at hl9
              refine ⟨.list ((((succs st s).filter fun t => decide (t ∈ g)).map fun t : Nat => (t : Int)).map PyData.int), .list [], .lst (sq (sp _ _ hl9)) (dp_ints _), .lst (sq upd_same) .nil, (shaped_ints _).1, rfl, _, rfl, ?_⟩
              have ev : PyData.eqv (.list ((((succs st s).filter fun t => decide (t ∈ g)).map fun t : Nat => (t : Int)).map PyData.int)) (.list []) = decide (((succs st s).filter fun t => decide (t ∈ g)) = []) := by
                show PyData.eqvAll _ (([] : List Int).map PyData.int) = _
                rw [eqv_ints]
                exact decide_eq_decide.mpr ⟨fun h => List.map_eq_nil_iff.mp h, fun h => by rw [h]; rfl⟩
              rw [ev]
              have an : ((succs st s).any fun t => decide (t ∈ g)) = !decide (((succs st s).filter fun t => decide (t ∈ g)) = []) := by
                rw [Bool.eq_iff_iff, List.any_eq_true]
                simp [List.filter_eq_nil_iff]
              rw [← an]
              have pp := put ((succs st s).any fun t => decide (t ∈ g)) _ (un.trans sp) (fun h => by rw [h, Bool.or_true]) (fun h => by rw [h, ← e]; rfl)
              generalize ((succs st s).any fun t => decide (t ∈ g)) = b3 at pp ⊢
              cases b3 with
              | true => exact ite_of rfl ⟨_, rfl, pp⟩
              | false => exact ite_no rfl pp
        · intro l' H5 sm hl hz r
          rw [List.length_map, List.take_of_length_le (Nat.le_refl _)] at r
          subst r
          exact ⟨D, _, rfl, s34.trans sm, hl⟩
      · rintro σ H4 ⟨G, y2, rfl, s34, hG4⟩
        rw [hln, Int.toNat_natCast] at hG4
        refine hN _ _ ⟨G, _, rfl, s34, ?_⟩
        unfold goodOf
        rw [hfnd]
        exact hG4
    rintro σ4 H4 ⟨G, y2', rfl, s34, hG4⟩
    have s4 := s3.trans s34
    -- if 0 not in good: return ()
    have gf := turnsG_facts nfd st.length ((fd).filter (lastOf st)) ⟨_, rfl⟩ (fun x hx => .last (List.mem_filter.mp hx).2) (fun x hx hl => List.mem_filter.mpr ⟨hx, hl⟩)
    have hgd : goodOf st = turnsG st fd st.length (fd.filter (lastOf st)) := by unfold goodOf; rw [hfnd]
    rw [← hgd] at gf
    generalize hgd' : goodOf st = gd at hG4 gf
    have eT : trimmed st = if 0 ∈ gd then gd.map fun s => (trimRow st gd s, lastOf st s) else [] := by unfold trimmed; rw [hgd']
    refine ⟨_, rfl, G, _, rfl, .inl (sq hG4), rfl, flat_natV, _, rfl, ?_⟩
    have e0 : inV (.int 0) (natV gd) = decide (0 ∈ gd) := in_nats (t := 0)
    generalize inV (.int 0) (natV gd) = b0 at e0 ⊢
    by_cases c0 : 0 ∈ gd
    rotate_left
    · rw [decide_eq_false c0] at e0
      subst e0
      refine ite_of rfl ?_
      refine ⟨szle (by simp), fun p hp => ?_⟩
      rw [if_neg c0] at eT
      exact q _ p (s4.trans (same_upd hp)) ⟨[], upd_same, by rw [eT]; rfl, fun i row h => by rw [eT] at h; simp at h⟩
    rw [decide_eq_true c0] at e0
    subst e0
    refine ite_no rfl ?_
    rw [if_pos c0] at eT
    -- rows = []
    refine nx_to ?_
    dsimp only
    refine asg_to ?_
    refine ⟨szle (by simp), fun Rw hRw => ?_⟩
    have sRw := same_upd (o := .lst []) hRw
    have hG5 := sRw _ _ hG4
    have hRw5 : (upd H4 Rw (.lst [])) Rw = some (.lst []) := upd_same
    have s5 := s4.trans sRw
    have hRw0 : H Rw = none := s4.free hRw
    have nGR : G ≠ Rw := fun z => by rw [z, hRw] at hG4; cases hG4
    generalize upd H4 Rw (.lst []) = H5 at hG5 hRw5 s5 ⊢
    refine seq_cut (fun σ' H' => ∃ (y4 y7 y8 y9 : Option V), σ' = [some (.ref l), some (.ref F), y2', y3, y4, some (.ref G), some (.ref Rw), y7, y8, y9] ∧ SameX Rw H5 H' ∧ RowsP st gd Rw gd.length H') (fun N hN => ?_) ?_
    · refine ⟨_, rfl, G, rfl, ⟨_, sq hG5⟩, ?_⟩
      refine for_wkD (n := (natV gd).length) (S := fun H => SqL K H G (natV gd)) Wk.list (fun i σ H6 => ∃ (y4 y7 y8 y9 : Option V), σ = [some (.ref l), some (.ref F), y2', y3, y4, some (.ref G), some (.ref Rw), y7, y8, y9] ∧ SameX Rw H5 H6 ∧ RowsP st gd Rw i H6)
        ⟨_, _, _, _, rfl, SameX.refl _ _, [], hRw5, rfl, fun j s hj => absurd hj (Nat.not_lt_zero _)⟩ (fun i σ H6 _ ⟨_, _, _, _, _, x, _⟩ => sq (x _ _ nGR hG5)) ?_ ?_
      · rintro D' i v σ H6 H6' hi ⟨y4, y7, y8, y9, rfl, x6, ts, hRw6, lts, hts⟩ ⟨rfl, hy⟩
        obtain ⟨s, hs, rfl⟩ := nat_at hy
        rw [List.length_map] at hi
        have sfd : s ∈ fd := by
          obtain ⟨f, ef⟩ := gf.1
          have := List.mem_of_getElem? hs
          rw [ef] at this
          exact (List.mem_filter.mp this).1
        obtain ⟨r', d, row, hrow, z1, z3, z4, esu, ela, l5, emv⟩ := t3' s (flt s sfd)
        have k6 : ∀ b o, H b = some o → H6' b = some o := fun b o e => x6 _ _ (fun z => by rw [z, hRw0] at e; cases e) (s5 _ _ e)
        have h6d := k6 _ _ z4
        have hG6 := x6 _ _ nGR hG5
        have nd6 : d ≠ Rw := fun z => by rw [z, hRw6] at h6d; cases h6d
        -- moves = [(sign, good.index(to)) for sign, to in states[at][0].items() if to in good]
        refine seq_cut (fun σ' H' => ∃ (L : Addr) (ps : List Addr) (y4 y9 : Option V), σ' = [some (.ref l), some (.ref F), y2', y3, y4, some (.ref G), some (.ref Rw), some (.int (s : Nat)), some (.ref L), y9] ∧ Same H6' H' ∧ H' L = some (.lst (ps.map V.ref)) ∧ Paired (fun (p : Addr) (kv : Key × V) => SqT K H' p [kV kv.1, kv.2]) ps (mvD (trimRow st gd s))) (fun N2 hN2 => ?_) ?_
        · refine ⟨d, _, h6d, trivial, fun od => ?_⟩
          refine ⟨_, rfl, _, rfl, l, _, _, _, rfl, rfl, sq (locked _ _ (by intro z; rw [z, z4] at t1; cases t1) (k6 _ _ t1)), atI_ofNat (by rw [List.getElem?_map, z1]; rfl), r', _, _, _, rfl, rfl, sqt (locked _ _ (by intro z; rw [z, z4] at z3; cases z3) (k6 _ _ z3)), rfl, ?_⟩
          refine ⟨d, od, _, rfl, upd_same, fun D2 hD2 => ?_⟩
          have nGd : G ≠ d := fun z => by rw [z, h6d] at hG6; cases hG6
          have hG7 : (upd H6' d (.frz od (.dK (mvD row.1)))) G = some (.lst (natV gd)) := by rw [upd_ne nGd]; exact hG6
          have hd7 : (upd H6' d (.frz od (.dK (mvD row.1)))) d = some (.frz od (.dK (mvD row.1))) := upd_same
          have sx7 : SameX d H6' (upd H6' d (.frz od (.dK (mvD row.1)))) := locked
          have nDd : D2 ≠ d := fun z => by rw [z, hd7] at hD2; cases hD2
          generalize upd H6' d (.frz od (.dK (mvD row.1))) = H7 at hD2 hG7 hd7 sx7 ⊢
          refine lc_wk Wk.items hD2 (PrR gd row.1 D2) PrR.off ⟨[], rfl, .nil⟩ (fun _ s => s _ _ hd7) ?_ ?_
          · rintro j l2 v H8 H9 hj sm8 hl8 hz8 ⟨ps, rfl, pr⟩ ⟨Tp, k', v', hkv, rfl, hTp, rfl⟩
            obtain ⟨e, he, rfl, rfl⟩ := mvD_at hkv
            rw [List.length_map] at hj
            have s9 := same_upd (o := .tup [kV (Sum.inr e.1), .int (e.2 : Nat)]) hTp
            have hT9 : (upd H8 Tp (.tup [kV (Sum.inr e.1), .int (e.2 : Nat)])) Tp = some (.tup [kV (Sum.inr e.1), .int (e.2 : Nat)]) := upd_same
            generalize upd H8 Tp (.tup [kV (Sum.inr e.1), .int (e.2 : Nat)]) = H9 at s9 hT9 ⊢
            refine ⟨Tp, _, rfl, sqt hT9, rfl, _, _, rfl, _, _, rfl, rfl, ?_⟩
            refine ⟨rfl, ?_⟩
            have hG9 := s9 _ _ (sm8 _ _ hG7)
            refine ⟨_, rfl, _, rfl, G, _, rfl, .inl (sq hG9), rfl, flat_natV, _, rfl, ?_⟩
            have e2 := in_nats (t := e.2) (f := gd)
            have fs := fm_take (G := gd) he
            generalize inV (.int (e.2 : Nat)) (natV gd) = b2 at e2 ⊢
            by_cases c : e.2 ∈ gd
            · rw [decide_eq_true c] at e2
              subst e2
              refine ite_of rfl ?_
              rw [if_pos c] at fs
              obtain ⟨z, zi, ze, zn⟩ := idx_nats c
              refine ⟨_, rfl, _, rfl, .inl ⟨rfl, _, sq hG9⟩, _, rfl, G, _, _, gd.idxOf e.2, z, rfl, rfl, sq hG9, rfl, flat_natV, zi, ze, zn, szle (by simp), fun p hp => ?_⟩
              have s10 := s9.trans (same_upd (o := .tup [.str e.1, .int (gd.idxOf e.2 : Nat)]) hp)
              have npD : p ≠ D2 := fun z => by
                rw [z] at hp
                rw [s9 _ _ hl8] at hp
                cases hp
              refine lc_put PrR.off hD2 (by omega) (sm8.trans s10) (s10 _ _ hl8) hz8 ⟨ps ++ [p], by rw [List.map_append]; rfl, ?_⟩
              rw [fs, show mvD ((row.1.take j).filterMap (trimE gd) ++ [(e.1, gd.idxOf e.2)]) = mvD ((row.1.take j).filterMap (trimE gd)) ++ [(Sum.inr e.1, V.int (gd.idxOf e.2 : Nat))] from List.map_append]
              exact paired_snoc (paired_imp pr fun p kv z => ⟨z.1, s10 _ _ z.2⟩) ⟨npD, upd_same⟩
            · rw [decide_eq_false c] at e2
              subst e2
              refine ite_no rfl ?_
              rw [if_neg c, List.append_nil] at fs
              refine ⟨_, sm8.trans s9, s9 _ _ hl8, by omega, ps, rfl, ?_⟩
              rw [fs]
              exact paired_imp pr fun p kv z => ⟨z.1, s9 _ _ z.2⟩
          · rintro l2 H8 sm8 hl8 hz8 ⟨ps, rfl, pr⟩
            rw [List.length_map, List.take_of_length_le (Nat.le_refl _), ← emv] at pr
            have un := unlock h6d (sx7.trans (Same.x d sm8))
            refine ⟨sm8 _ _ hd7, hN2 _ _ ⟨D2, ps, _, _, rfl, un, by rw [upd_ne nDd]; exact hl8, paired_imp pr fun p kv z => sqt (by rw [upd_ne (fun y => by rw [y, sm8 _ _ hd7] at z; cases z.2)]; exact z.2)⟩⟩
        rintro σ7 H7 ⟨L, ps, y4', y9', rfl, s7, hL7, pr⟩
        -- rows.append((dict(moves), states[at][1]))
        have ndm : ((trimRow st gd s).map (·.1)).Nodup := by
          have := trimRow_sub st gd s
          rw [emv] at this
          exact ((asc row (List.mem_of_getElem? hrow)).sub this).nodup
        have hRw7 := s7 _ _ hRw6
        refine ⟨_, rfl, .inl ⟨rfl, _, sq hRw7⟩, _, rfl, L, ps, _, rfl, sq hL7, pr, fun P hP => ?_⟩
        rw [merge_mvD ndm]
        have sP := same_upd (o := .dK (mvD (trimRow st gd s))) hP
        have nPR : P ≠ Rw := fun z => by rw [z, hRw7] at hP; cases hP
        have hP8 : (upd H7 P (.dK (mvD (trimRow st gd s)))) P = some (.dK (mvD (trimRow st gd s))) := upd_same
        have k8 : ∀ b o, H6' b = some o → (upd H7 P (.dK (mvD (trimRow st gd s)))) b = some o := fun b o e => sP _ _ (s7 _ _ e)
        generalize upd H7 P (.dK (mvD (trimRow st gd s))) = H8 at hP8 k8 ⊢
        refine ⟨_, rfl, _, rfl, l, _, _, _, rfl, rfl, sq (k8 _ _ (k6 _ _ t1)), atI_ofNat (by rw [List.getElem?_map, z1]; rfl), r', _, _, _, rfl, rfl, sqt (k8 _ _ (k6 _ _ z3)), rfl, szle (by simp), fun p hp => ?_⟩
        have sp := same_upd (o := .tup [.ref P, .bl row.2]) hp
        have hRw9 := sp _ _ (k8 _ _ hRw6)
        have npR : p ≠ Rw := fun z => by rw [z, k8 _ _ hRw6] at hp; cases hp
        refine ⟨Rw, _, _, rfl, rfl, hRw9, szlt (by rw [List.length_map, lts]; have := nd_len nfd flt; obtain ⟨f, ef⟩ := gf.1; have := List.length_filter_le f fd; rw [← ef] at this; omega), ?_⟩
        refine ⟨_, _, _, _, rfl, fun b o nb e => ?_, ts ++ [p], by rw [upd_same, List.map_append]; rfl, by rw [List.length_append, lts]; rfl, fun j s' hj hs' => ?_⟩
        · rw [upd_ne nb]
          exact sp _ _ (k8 _ _ (x6 _ _ nb e))
        · by_cases c : j < i
          · obtain ⟨t, d', g1, g2, g3, g4, g5⟩ := hts j s' c hs'
            exact ⟨t, d', by rw [List.getElem?_append_left (by omega)]; exact g1, g2, g3, by rw [upd_ne g2]; exact sp _ _ (k8 _ _ g4), by rw [upd_ne g3]; exact sp _ _ (k8 _ _ g5)⟩
          · have : j = i := by omega
            subst this
            rw [hs] at hs'
            obtain rfl := Option.some.inj hs'
            exact ⟨p, P, by rw [List.getElem?_append_right (by omega), lts]; simp, npR, nPR, by rw [upd_ne npR, upd_same, ela], by rw [upd_ne nPR]; exact sp _ _ hP8⟩
      · rintro σ H6 ⟨y4, y7, y8, y9, rfl, x6, rp⟩
        rw [List.length_map] at rp
        exact hN _ _ ⟨_, _, _, _, rfl, x6, rp⟩
    rintro σ6 H6 ⟨y4, y7, y8, y9, rfl, x6, ts, hRw6, lts, hts⟩
    refine ⟨_, rfl, Rw, _, rfl, .inl ⟨sq hRw6, fun p hp => ?_⟩⟩
    have sp := same_upd (o := .tup (ts.map V.ref)) hp
    refine q _ p (fun b o e => sp _ _ (x6 _ _ (fun z => by rw [z, hRw0] at e; cases e) (s5 _ _ e))) ⟨ts, upd_same, by rw [eT, List.length_map, lts], fun i row h => ?_⟩
    rw [eT, List.getElem?_map] at h
    cases hs : gd[i]? with
    | none => rw [hs] at h; cases h
    | some s =>
      rw [hs] at h
      obtain rfl := Option.some.inj h
      obtain ⟨t, d, g1, _, _, g4, g5⟩ := hts i s (List.getElem?_eq_some_iff.mp hs).1 hs
      exact ⟨t, d, g1, sp _ _ g4, sp _ _ g5⟩
end K7
end

section
set_option Elab.async false
set_option linter.all false
set_option maxRecDepth 100000
namespace K7
open PySem PySem.Spec PyProof.Rows L2 SlX
/-! The walk: a drawn machine. -/
/-- a tuple beside the empty one -/
def rNeT0 (K : PySem.W.Frag) : R2 := fun x y H Q => ∃ a b xs, x = .ref a ∧ y = .ref b ∧ SqT K H a xs ∧ SqT K H b [] ∧ Q (.bl (!decide (xs = []))) H
theorem op_neT0K {X : Cx} (K : PySem.W.Frag) (hu : X.A.units + 64 < cLine) (hK : X.K = K := by rfl) : OpR X (compareOp .NotEq) (rNeT0 K) := by
  subst hK
  intro pins s σ H x y v u Q I rx ry h
  obtain ⟨a, b, xs, rfl, rfl, ha, hb, q⟩ := h
  cases rx
  cases ry
  obtain ⟨its, r, p, _⟩ := I.tuple ha
  obtain ⟨its2, r2, p2, _⟩ := I.tuple hb
  have l1 : xs.length = its.length := r.length
  have l2 : ([] : List V).length = its2.length := r2.length
  have h2 : its2.toArray.size = 0 := by simpa using l2.symm
  have e : (!((List.range (min its.toArray.size its2.toArray.size)).all (fun _ => true) && its.toArray.size == its2.toArray.size)) = !decide (xs = []) := by
    rw [h2]
    cases xs with
    | nil => simp at l1; simp [← l1]
    | cons a r => simp at l1; simp [← l1]
  exact SeqAt.RcNeAt.tuples (e := fun _ => true) (show s.heap.IsTuple a its.toArray from p) (show s.heap.IsTuple b its2.toArray from p2) (Nat.lt_of_le_of_lt (Nat.le_add_right _ 64) hu) (fun j _ hj => by rw [h2] at hj; omega) X.prog X.w _ _ (by rw [e]; exact ⟨.bl _, H, I, rfl, q⟩)
/-- the moves of a drawn state, as pairs -/
def MwR (sgs : List Str) (a D : Addr) (m : Nat) (j : Nat) (l : List V) (H : Hp) : Prop := ∃ (ps : List Addr) (row : List (Str × Nat)), l = ps.map V.ref ∧ Paired (fun (p : Addr) (kv : Key × V) => p ≠ D ∧ p ≠ a ∧ H p = some (.tup [kV kv.1, kv.2])) ps (mvD row) ∧ (row.map (·.1)).Sublist (sgs.take j) ∧ ∀ e ∈ row, e.2 < m
theorem MwR.off {sgs : List Str} {a D : Addr} {m : Nat} : Off D (MwR sgs a D m) := by
  rintro j l H H' k ⟨ps, row, e, h1, h2⟩
  exact ⟨ps, row, e, paired_imp h1 fun p kv z => ⟨z.1, z.2.1, k _ _ z.1 z.2.2⟩, h2⟩
def StR (Rw a : Addr) (sgs : List Str) (m i : Nat) (st : MachS) (H : Hp) : Prop := ∃ rs ds : List Addr, H Rw = some (.lst (rs.map V.ref)) ∧ rs.length = i ∧ ds.length = i ∧ st.length = i ∧
  (∀ (j : Nat) (row : List (Str × Nat) × Bool), st[j]? = some row → ∃ r d, rs[j]? = some r ∧ ds[j]? = some d ∧ r ≠ Rw ∧ r ≠ a ∧ d ≠ Rw ∧ d ≠ a ∧ H r = some (.tup [.ref d, .bl row.2]) ∧ H d = some (.dK (mvD row.1))) ∧
  ∀ row ∈ st, (row.1.map (·.1)).Sublist sgs ∧ ∀ e ∈ row.1, e.2 < m
/-! ### _law_machine -/
def sp__law_machine {K : PySem.W.Frag} {mg : Str → Option Value} (T : Txt K mg) : Sp := fun vs H Q _ => ∃ (a g : Addr) (sgs : List Str) (n : Nat), vs = [.ref a, .ref g, .int (n : Nat)] ∧ Dice H a ∧ H g = some (.tup (sgs.map V.str)) ∧ Asc sgs ∧ sgs ≠ [] ∧ 1 ≤ n ∧ n ≤ 6 ∧
  ∀ H' p tg, SameX a H H' → Dice H' a → TgAt H' p tg → TgOk tg → (∀ row ∈ tg, ∀ e ∈ row.1, e.1 ∈ sgs) → Q (.ref p) H'
set_option maxHeartbeats 4000000 in
theorem ok__law_machine {P : Program} {w : World} {K : PySem.W.Frag} {mg : Str → Option Value} {base : Heap} (T : Txt K mg) : FnOk P w K mg base CX0 2 T.a__law_machine T.d__law_machine ["dice", "signs", "most"] (sp__law_machine T) := by
  refine T.F__law_machine.ok sc__law_machine (fun vs H Q E h => ?_) (fun cdv A outer s H vs Q E hr h => ?_)
  · obtain ⟨a, g, sgs, n, rfl, da, hg, asc, ne, n1, n6, q⟩ := h
    rfl
  · obtain ⟨a, g, sgs, n, rfl, da, hg, asc, ne, n1, n6, q⟩ := h
    refine ⟨_, PSs.nox (pss_cons (ps_asg (pe_tup (pa_cons (pe_op op_add pe_int (pe_call (ok__law_roll T) (hr.mono (by decide)) (by rfl) T.g__law_roll T.F__law_roll.kp (b__law_roll T) .nil pass0 (pa_cons (pv 0) (pa_cons (pv 2) pa_nil)))) (pa_cons (pe_lst pa_nil) pa_nil))) (pg_tupK K (n := 2) rfl (pgs_cons (pg_name (i := 3) sc__law_machine.nd rfl (by first | exact .inl rfl | exact .inr rfl)) (pgs_cons (pg_name (i := 4) sc__law_machine.nd rfl (by first | exact .inl rfl | exact .inr rfl)) pgs_nil))))
      (pss_cons (ps_for PassesOwn.never rfl (pi_range1 (by rfl) T.n_range (pa_cons (pv 3) pa_nil)) (pg_name (i := 5) sc__law_machine.nd rfl (by first | exact .inl rfl | exact .inr rfl)) (pss_cons (ps_setLc (i := 6) (own := [("sign", 7)]) rfl sc__law_machine.nd rfl rfl (sw_true rfl rfl rfl (by decide +kernel)) (pi_tupK K (pv 1)) (blkOk_by (own := [("sign", 7)]) (N := n__law_machine) (sc := defScope s__law_machine) (by decide +kernel)) (fun _ _ _ _ _ => (pg_name (i := 7) sc__law_machine.nd rfl (by first | exact .inl rfl | exact .inr rfl))) (fun _ _ _ _ _ => (pts_one (pt_cmpR op_gt (pe_call (ok__law_roll T) (hr.mono (by decide)) (by rfl) T.g__law_roll T.F__law_roll.kp (b__law_roll T) .nil pass0 (pa_cons (pv 0) (pa_cons pe_int pa_nil))) pe_int (nomark _)))) (fun _ _ _ _ _ => (pe_tup (pa_cons (pv 7) (pa_cons (pe_call (ok__law_roll T) (hr.mono (by decide)) (by rfl) T.g__law_roll T.F__law_roll.kp (b__law_roll T) .nil pass0 (pa_cons (pv 0) (pa_cons (pv 3) pa_nil))) pa_nil)))))
      (pss_one (ps_expr (pe_bmK K PySem.F.plainAttrs_list PySem.F.slot_list_append PySem.F.type_list_append mt_append (pv 4) (pa_cons (pe_tup (pa_cons (pe_callTy (call_dictP rfl) (by rfl) T.n_dict (by decide +kernel) (pa_cons (pv 6) pa_nil)) (pa_cons (pe_cmpR op_eq (pe_call (ok__law_roll T) (hr.mono (by decide)) (by rfl) T.g__law_roll T.F__law_roll.kp (b__law_roll T) .nil pass0 (pa_cons (pv 0) (pa_cons pe_int pa_nil))) pe_int (nomark _)) pa_nil))) pa_nil))))))
      (pss_cons (ps_set (i := 4) sc__law_machine.nd rfl (by first | exact .inl rfl | exact .inr rfl) (pe_call (ok__law_trimmed T) (hr.mono (by decide)) (by rfl) T.g__law_trimmed T.F__law_trimmed.kp (b__law_trimmed T) .nil pass0 (pa_cons (pv 4) pa_nil)))
      (pss_one (ps_ret (pe_ifExp (pt_cmpR (op_neT0K K hr.units) (pv 4) (pe_tup pa_nil) (nomark _)) (pv 4) (pe_tup (pa_cons (pe_tup (pa_cons (pe_disp (pps_cons (pe_ix (ix_tupK K) (pv 1) pe_int (fun _ _ => rfl)) pe_int pps_nil) rfl rfl (fun h => List.cons_ne_nil _ _ h) (Nat.le_of_ble_eq_true rfl)) (pa_cons pe_bl pa_nil))) pa_nil)))))))), ?_⟩
    have l5 := asc.len5
    have nga : g ≠ a := fun z => by
      obtain ⟨x, y, h, _⟩ := da
      rw [← z, hg] at h
      cases h
    refine seq_cut (fun σ' H' => ∃ (m : Nat) (Rw : Addr), 1 ≤ m ∧ m ≤ n ∧ σ' = [some (.ref a), some (.ref g), some (.int (n : Nat)), some (.int (m : Nat)), some (.ref Rw), none, none, none] ∧ SameX a H H' ∧ Dice H' a ∧ H Rw = none ∧ Rw ≠ a ∧ H' Rw = some (.lst [])) (fun N hN => ?_) ?_
    · refine ⟨_, rfl, _, rfl, a, _, rfl, da, by omega, by omega, fun H1 k x1 d1 k0 k1 => ?_⟩
      refine ⟨_, _, rfl, rfl, szle (by simp), fun Rw hRw => ?_⟩
      have sR := same_upd (o := .lst []) hRw
      have nRa : Rw ≠ a := fun z => by
        obtain ⟨o, e⟩ := d1.some
        rw [← z, hRw] at e
        cases e
      have hR0 : H Rw = none := by
        cases e : H Rw with
        | none => rfl
        | some o => rw [x1 _ _ nRa e] at hRw; cases hRw
      refine ⟨szle (by simp), fun p hp => ?_⟩
      have sp := sR.trans (same_upd (o := .tup [.int (1 + k), .ref Rw]) hp)
      refine ⟨p, _, rfl, sqt upd_same, rfl, _, _, rfl, _, _, rfl, rfl, ?_⟩
      refine hN _ _ ⟨(1 + k).toNat, Rw, by omega, by omega, ?_, x1.trans (Same.x a sp), d1.same sp, hR0, nRa, same_upd hp _ _ upd_same⟩
      rw [Int.toNat_of_nonneg (by omega)]
      rfl
    rintro σ1 H1 ⟨m, Rw, m1, mn, rfl, x1, d1, hR0, nRa, hR1⟩
    -- for at in range(many)
    refine seq_cut (fun σ' H' => ∃ (y5 y6 y7 : Option V) (st : MachS), σ' = [some (.ref a), some (.ref g), some (.int (n : Nat)), some (.int (m : Nat)), some (.ref Rw), y5, y6, y7] ∧ (∀ b o, b ≠ a → H b = some o → H' b = some o) ∧ Dice H' a ∧ StR Rw a sgs m m st H') (fun N hN => ?_) ?_
    · refine ⟨_, rfl, _, rfl, by omega, by omega, ?_⟩
      refine for_wkD (n := ((m : Nat) : Int).toNat) (S := fun _ => True) Wk.range0 (fun i σ H2 => ∃ (y5 y6 y7 : Option V) (st : MachS), σ = [some (.ref a), some (.ref g), some (.int (n : Nat)), some (.int (m : Nat)), some (.ref Rw), y5, y6, y7] ∧ (∀ b o, b ≠ a → H b = some o → H2 b = some o) ∧ Dice H2 a ∧ StR Rw a sgs m i st H2)
        ⟨none, none, none, [], rfl, fun b o nb e => x1 _ _ nb e, d1, [], [], hR1, rfl, rfl, rfl, fun j row h => by simp at h, fun row h => by simp at h⟩ (fun _ _ _ _ _ => trivial) ?_ ?_
      · rintro D' i v σ H2 H2' hi ⟨y5, y6, y7, st, rfl, kp2, d2, rs, ds, hR2, lrs, lds, lst, hst, hrow⟩ ⟨rfl, rfl⟩
        rw [Int.toNat_natCast] at hi
        -- moves
        refine seq_cut (fun σ' H' => ∃ (L : Addr) (ps : List Addr) (row : List (Str × Nat)) (y7 : Option V), σ' = [some (.ref a), some (.ref g), some (.int (n : Nat)), some (.int (m : Nat)), some (.ref Rw), some (.int (i : Nat)), some (.ref L), y7] ∧ SameX a H2' H' ∧ Dice H' a ∧ H' L = some (.lst (ps.map V.ref)) ∧ Paired (fun (p : Addr) (kv : Key × V) => SqT K H' p [kV kv.1, kv.2]) ps (mvD row) ∧ (row.map (·.1)).Sublist sgs ∧ ∀ e ∈ row, e.2 < m) (fun N2 hN2 => ?_) ?_
        · have hg2 := kp2 _ _ nga hg
          refine ⟨_, rfl, g, rfl, ⟨_, sqt hg2⟩, fun D hD => ?_⟩
          refine lcx_wk Wk.tup hD d2 (MwR sgs a D m) MwR.off ⟨[], [], rfl, .nil, List.nil_sublist _, fun e h => by simp at h⟩ (fun _ s => sqt (s _ _ nga hg2)) ?_ ?_
          · rintro j l y H3 H4 hj sm dd nDa hl hz ⟨ps, row, rfl, pr, sub, hm⟩ ⟨rfl, hy⟩
            rw [List.length_map] at hj
            obtain ⟨x, hx, rfl⟩ := strs_at hy
            refine ⟨rfl, ?_⟩
            refine ⟨_, rfl, a, 4, rfl, dd, by decide, by decide, fun H5 k x5 d5 k0 k1 => ?_⟩
            refine ⟨_, _, rfl, rfl, _, rfl, ?_⟩
            have hl5 := x5 _ _ nDa hl
            by_cases c : 0 < k
            · refine ite_of (decide_eq_true c) ?_
              refine ⟨_, rfl, _, rfl, _, rfl, a, _, rfl, d5, by omega, by omega, fun H6 u x6 d6 u0 u1 => ?_⟩
              refine ⟨szle (by simp), fun p hp => ?_⟩
              have hl6 := x6 _ _ nDa hl5
              have npD : p ≠ D := fun z => by rw [z, hl6] at hp; cases hp
              have npa : p ≠ a := fun z => by
                obtain ⟨o, e⟩ := d6.some
                rw [← z, hp] at e
                cases e
              have sp := same_upd (o := .tup [.str x, .int u]) hp
              have x7 := (x5.trans x6).trans (Same.x a sp)
              refine lcx_put MwR.off hD nDa (by omega) (sm.trans x7) (d6.same sp) (sp _ _ hl6) hz ⟨ps ++ [p], row ++ [(x, u.toNat)], by rw [List.map_append]; rfl, ?_, ?_, fun e he => ?_⟩
              · rw [show mvD (row ++ [(x, u.toNat)]) = mvD row ++ [(Sum.inr x, V.int (u.toNat : Nat))] from List.map_append]
                refine paired_snoc (paired_imp pr fun p kv z => ⟨z.1, z.2.1, x7 _ _ z.2.1 z.2.2⟩) ⟨npD, npa, ?_⟩
                rw [Int.toNat_of_nonneg u0]
                exact upd_same
              · rw [List.map_append, List.take_add_one, hx]
                exact sub.append (List.Sublist.refl _)
              · rcases List.mem_append.mp he with h | h
                · exact hm e h
                · rw [List.mem_singleton.mp h]
                  show u.toNat < m
                  omega
            · refine ite_no (decide_eq_false c) ?_
              exact ⟨_, sm.trans x5, d5, hl5, by omega, ps, row, rfl, paired_imp pr fun p kv z => ⟨z.1, z.2.1, x5 _ _ z.2.1 z.2.2⟩, sub.trans (by rw [List.take_add_one, hx]; exact List.sublist_append_left _ _), hm⟩
          · rintro l H3 sm dd hl hz ⟨ps, row, rfl, pr, sub, hm⟩
            rw [List.length_map, List.take_of_length_le (Nat.le_refl _)] at sub
            exact hN2 _ _ ⟨D, ps, row, _, rfl, sm, dd, hl, paired_imp pr fun p kv z => sqt z.2.2, sub, hm⟩
        rintro σ3 H3 ⟨L, ps, row, y7', rfl, x3, d3, hL3, pr, sub, hm⟩
        have hR3 := x3 _ _ nRa hR2
        refine ⟨_, rfl, .inl ⟨rfl, _, sq hR3⟩, _, rfl, L, ps, _, rfl, sq hL3, pr, fun P hP => ?_⟩
        rw [merge_mvD ((asc.sub sub).nodup)]
        have sP := same_upd (o := .dK (mvD row)) hP
        have nPR : P ≠ Rw := fun z => by rw [z, hR3] at hP; cases hP
        have nPa : P ≠ a := fun z => by
          obtain ⟨o, e⟩ := d3.some
          rw [← z, hP] at e
          cases e
        have d4 := d3.same sP
        have hP4 : (upd H3 P (.dK (mvD row))) P = some (.dK (mvD row)) := upd_same
        have x4 := x3.trans (Same.x a sP)
        generalize upd H3 P (.dK (mvD row)) = H4 at d4 hP4 x4 ⊢
        refine ⟨_, rfl, a, 2, rfl, d4, by decide, by decide, fun H5 k x5 d5 k0 k1 => ?_⟩
        refine ⟨rfl, szle (by simp), fun p hp => ?_⟩
        have x5' := x4.trans x5
        have hR5 := x5' _ _ nRa hR2
        have sp := same_upd (o := .tup [.ref P, .bl (decide (V.int k = V.int 0))]) hp
        have npR : p ≠ Rw := fun z => by rw [z, hR5] at hp; cases hp
        have npa : p ≠ a := fun z => by
          obtain ⟨o, e⟩ := d5.some
          rw [← z, hp] at e
          cases e
        have d6 := d5.same sp
        have hP6 := sp _ _ (x5 _ _ nPa hP4)
        have x6 := x5'.trans (Same.x a sp)
        have hp6 : (upd H5 p (.tup [.ref P, .bl (decide (V.int k = V.int 0))])) p = some (.tup [.ref P, .bl (decide (V.int k = V.int 0))]) := upd_same
        generalize upd H5 p (.tup [.ref P, .bl (decide (V.int k = V.int 0))]) = H6 at d6 hP6 x6 hp6 ⊢
        have hR6 := x6 _ _ nRa hR2
        refine ⟨Rw, _, _, rfl, rfl, hR6, szlt (by rw [List.length_map]; omega), ?_⟩
        refine ⟨_, _, _, st ++ [(row, decide (V.int k = V.int 0))], rfl, fun b o nb e => ?_, ?_, rs ++ [p], ds ++ [P], by rw [upd_same, List.map_append]; rfl, by simp [lrs], by simp [lds], by simp [lst], fun j rw' hj => ?_, fun r' hr' => ?_⟩
        · rw [upd_ne (fun z => by rw [z, hR0] at e; cases e)]
          exact x6 _ _ nb (kp2 _ _ nb e)
        · obtain ⟨x, y, e1, e2⟩ := d6
          exact ⟨x, y, by rw [upd_ne nRa.symm]; exact e1, e2⟩
        · by_cases c : j < i
          · rw [List.getElem?_append_left (by omega)] at hj
            obtain ⟨r, d, g1, g2, g3, g4, g5, g6, g7, g8⟩ := hst j rw' hj
            exact ⟨r, d, by rw [List.getElem?_append_left (by omega)]; exact g1, by rw [List.getElem?_append_left (by omega)]; exact g2, g3, g4, g5, g6, by rw [upd_ne g3]; exact x6 _ _ g4 g7, by rw [upd_ne g5]; exact x6 _ _ g6 g8⟩
          · rw [List.getElem?_append_right (by omega)] at hj
            have : j - st.length = 0 := by
              rcases Nat.eq_zero_or_pos (j - st.length) with h | h
              · exact h
              · rw [List.getElem?_eq_none (by rw [List.length_singleton]; omega)] at hj
                cases hj
            rw [this] at hj
            obtain rfl := Option.some.inj hj
            have : j = i := by omega
            subst this
            exact ⟨p, P, by rw [List.getElem?_append_right (by omega), lrs]; simp, by rw [List.getElem?_append_right (by omega), lds]; simp, npR, npa, nPR, nPa, by rw [upd_ne npR]; exact hp6, by rw [upd_ne nPR]; exact hP6⟩
        · rcases List.mem_append.mp hr' with h | h
          · exact hrow r' h
          · rw [List.mem_singleton.mp h]
            exact ⟨sub, hm⟩
      · rintro σ H2 ⟨y5, y6, y7, st, rfl, kp2, d2, sr⟩
        rw [Int.toNat_natCast] at sr
        exact hN _ _ ⟨_, _, _, st, rfl, kp2, d2, sr⟩
    rintro σ2 H2 ⟨y5, y6, y7, st, rfl, kp2, d2, rs, ds, hR2, lrs, lds, lst, hst, hrow⟩
    have mto : MTo st := fun s t ht => by
      by_cases c : s < st.length
      · obtain ⟨row, hr⟩ := getE_of c
        rw [succs_at hr] at ht
        obtain ⟨e, he, rfl⟩ := List.mem_map.mp ht
        rw [lst]
        exact (hrow row (List.mem_of_getElem? hr)).2 e he
      · rw [succs_eq, movesOf, List.getElem?_eq_none (by omega)] at ht
        simp at ht
    have ascS : ∀ row ∈ st, Asc (row.1.map (·.1)) := fun row h => asc.sub (hrow row h).1
    refine ⟨_, rfl, Rw, st, rfl, ⟨rs, ds, hR2, by omega, by omega, fun i row h => ?_⟩, mto, by omega, by omega, ascS, fun H3 p s3 tgp => ?_⟩
    · obtain ⟨r, d, g1, g2, _, _, _, _, g7, g8⟩ := hst i row h
      exact ⟨r, d, g1, g2, g7, g8⟩
    have d3 := d2.same s3
    have x3 : SameX a H H3 := fun b o nb e => s3 _ _ (kp2 _ _ nb e)
    obtain ⟨rs3, hp3, lrs3, _⟩ := id tgp
    refine ⟨_, rfl, szle (by simp), fun p2 hp2 => ?_⟩
    have sp2 := same_upd (o := .tup []) hp2
    refine ⟨p, p2, rs3.map V.ref, rfl, rfl, sqt (sp2 _ _ hp3), sqt upd_same, _, rfl, ?_⟩
    by_cases c : 0 ∈ goodOf st
    · obtain ⟨us, le⟩ := trimmed_useful mto (by omega) c
      have ne3 : rs3.map V.ref ≠ [] := fun z => by
        have := us.pos
        rw [List.map_eq_nil_iff.mp z] at lrs3
        simp at lrs3
        omega
      refine ite_of (by rw [decide_eq_false ne3]; rfl) ?_
      refine ⟨_, rfl, q _ p _ (x3.trans (Same.x a sp2)) (d3.same sp2) (tgp.keep (keep_of sp2)) ⟨us, by omega, fun row h => ?_⟩ fun row h e he => ?_⟩
      all_goals
        unfold trimmed at h
        rw [if_pos c] at h
        obtain ⟨s, hs, rfl⟩ := List.mem_map.mp h
        have sub := trimRow_sub st (goodOf st) s
        have hmv : (movesOf st s).map (·.1) = [] ∨ ∃ row ∈ st, movesOf st s = row.1 := by
          by_cases c2 : s < st.length
          · obtain ⟨row, hr⟩ := getE_of c2
            exact .inr ⟨row, List.mem_of_getElem? hr, movesOf_at hr⟩
          · left
            rw [movesOf, List.getElem?_eq_none (by omega)]
            rfl
      · rcases hmv with z | ⟨row, h1, h2⟩
        · rw [z] at sub
          exact asc.sub (sub.trans (List.nil_sublist _))
        · rw [h2] at sub
          exact (ascS row h1).sub sub
      · have h3 := sub.subset (List.mem_map.mpr ⟨e, he, rfl⟩)
        rcases hmv with z | ⟨row, h1, h2⟩
        · rw [z] at h3
          simp at h3
        · rw [h2] at h3
          exact (hrow row h1).1.subset h3
    · have et : trimmed st = [] := by unfold trimmed; rw [if_neg c]
      have e3 : rs3.map V.ref = [] := by
        rw [et] at lrs3
        rw [List.length_eq_zero_iff.mp lrs3]
        rfl
      refine ite_no (by rw [decide_eq_true e3]; rfl) ?_
      obtain ⟨x0, hx0⟩ := getE_of (xs := sgs) (List.length_pos_iff.mpr ne)
      have sg3 := sp2 _ _ (x3 _ _ nga hg)
      have d4 := d3.same sp2
      have x4 := x3.trans (Same.x a sp2)
      generalize upd H3 p2 (.tup []) = H4 at sg3 d4 x4 ⊢
      intro P hP
      have sP := same_upd (o := .dK []) hP
      refine ⟨_, rfl, g, _, _, _, rfl, rfl, sqt (sP _ _ sg3), atI_ofNat (i := 0) (by rw [List.getElem?_map, hx0]; rfl), upd_same, [(Sum.inr x0, .int 0)], rfl, by simp, ?_⟩
      have hP5 : (upd (upd H4 P (.dK [])) P (.dK (mergeK [] [(Sum.inr x0, V.int 0)]))) P = some (.dK (mvD [(x0, 0)])) := upd_same
      have s5 : Same H4 (upd (upd H4 P (.dK [])) P (.dK (mergeK [] [(Sum.inr x0, V.int 0)]))) := same_mut sP hP
      generalize upd (upd H4 P (.dK [])) P (.dK (mergeK [] [(Sum.inr x0, V.int 0)])) = H5 at hP5 s5 ⊢
      refine ⟨szle (by simp), fun p3 hp3 => ⟨szle (by simp), fun p4 hp4 => ?_⟩⟩
      have s6 := same_upd (o := .tup [.ref P, .bl true]) hp3
      have s7 := same_upd (o := .tup [.ref p3]) hp4
      have hs := (s5.trans s6).trans s7
      have uf : Useful ([([(x0, 0)], true)] : MachS) := by
        refine ⟨by simp, fun s t ht => ?_, fun s hs => ?_, fun s hs => ?_⟩
        · cases s with
          | zero =>
            have : t = 0 := by simpa [succs] using ht
            rw [this]
            simp
          | succ s => simp [succs] at ht
        · have : s = 0 := by simpa using hs
          rw [this]
          exact .nil
        · have : s = 0 := by simpa using hs
          rw [this]
          exact .last rfl
      refine q _ p4 [([(x0, 0)], true)] (x4.trans (Same.x a hs)) (d4.same hs) ⟨[p3], upd_same, rfl, fun i row h => ?_⟩ ⟨uf, by simp, fun row h => ?_⟩ fun row h e he => ?_
      · cases i with
        | zero =>
          obtain rfl := Option.some.inj h
          exact ⟨p3, P, rfl, s7 _ _ upd_same, s7 _ _ (s6 _ _ hP5)⟩
        | succ i => simp at h
      · rw [List.mem_singleton.mp h]
        have := asc.sub (List.singleton_sublist.mpr (List.mem_of_getElem? hx0))
        exact this
      · rw [List.mem_singleton.mp h] at he
        rw [List.mem_singleton.mp he]
        exact List.mem_of_getElem? hx0
end K7
end

section
set_option Elab.async false
set_option linter.all false
set_option maxRecDepth 100000
namespace K7
open PySem PySem.Spec PyProof.Rows L2 SlX
/-! The walk: whether rows of words are told. -/
section
variable {n : Nat} {mv : Nat → List (Str × Nat)} {c : Str → Int} {M M' : Nat → Nat → Int}
theorem ways_eq (w : Ways (n := n) (mv := mv) (c := c) M) (w' : Ways (n := n) (mv := mv) (c := c) M') {p t : Nat} (hp : p < n) (ht : t < n) (h : M p t < far) : M' p t < far ∧ M' p t = M p t := by
  obtain ⟨a, _⟩ := w.small hp ht h
  obtain ⟨b1, b2⟩ := w'.path hp a
  obtain ⟨a', _⟩ := w'.small hp ht b1
  obtain ⟨_, c2⟩ := w.path hp a'
  exact ⟨b1, by omega⟩
theorem Beh.ways {sw : Str → Int} {out : Int} {r r' : Nat → Int} (w : Ways (n := n) (mv := mv) (c := c) M) (w' : Ways (n := n) (mv := mv) (c := c) M') (h : Beh n mv sw out M r r') : Beh n mv sw out M' r r' := fun t ht => (h t ht).congr fun x => by
  constructor
  · rintro ⟨p, q, e, hp, hq, he, hm, rfl⟩
    obtain ⟨a, b⟩ := ways_eq w w' hq ht hm
    exact ⟨p, q, e, hp, hq, he, a, by rw [b]⟩
  · rintro ⟨p, q, e, hp, hq, he, hm, rfl⟩
    obtain ⟨a, b⟩ := ways_eq w' w hq ht hm
    exact ⟨p, q, e, hp, hq, he, a, by rw [b]⟩
end
theorem RowOf.ways {tg : MachS} {m : PrM} {M M' : Nat → Nat → Int} (c : Ctx tg m M) (c' : Ctx tg m M') {w : List Nat} {r : List Int} (h : RowOf tg m M w r) : RowOf tg m M' w r := by
  induction h with
  | nil =>
    have e : rowL tg.length (M 0) = rowL tg.length (M' 0) := List.map_congr_left fun t ht => by
      have ht' := List.mem_range.mp ht
      have := c.start ht'
      exact (ways_eq c.ws c'.ws c.ok.useful.pos ht' (show M 0 t < (100000000 : Int) by omega)).2.symm
    rw [e]
    exact .nil
  | snoc _ h1 h2 ih => exact .snoc ih h1 (h2.ways c.ws c'.ws)
theorem eqv_tup (r s : List Int) : PyData.eqv (.tuple (r.map PyData.int)) (.tuple (s.map PyData.int)) = decide (r = s) := eqv_ints r s
/-- two rows are compared -/
theorem ne_rows {K : PySem.W.Frag} {H : Hp} {p p2 : Addr} {r : List Int} {Q : VK} (h1 : H p = some (.tup (r.map V.int))) (h2 : H p2 = some (.tup (r.map V.int))) (q : Q (.bl false) H) : rNeD K (.ref p) (.ref p2) H Q :=
  ⟨_, _, .tup (sqt h1) (dp_ints _), .tup (sqt h2) (dp_ints _), (shaped_ints _).2, (shaped_ints _).2, by rw [eqv_tup, decide_eq_true rfl]; exact q⟩
theorem eq_rows {K : PySem.W.Frag} {H : Hp} {p p2 : Addr} {r s : List Int} {Q : VK} (h1 : H p = some (.tup (r.map V.int))) (h2 : H p2 = some (.tup (s.map V.int))) (e : r = s) (q : Q (.bl true) H) : rEqD K (.ref p) (.ref p2) H Q :=
  ⟨_, _, .tup (sqt h1) (dp_ints _), .tup (sqt h2) (dp_ints _), (shaped_ints _).2, (shaped_ints _).2, by rw [eqv_tup, decide_eq_true e]; exact q⟩
theorem tabM_cl {m : PrM} (ok : PrOk m) : TabM (clT m) (clM m.sgs (clT m)) := by
  have a := clT_all ok
  refine ⟨fun x hx => ?_, fun x hx => ?_, fun x y hx hy ne => ?_⟩
  · obtain ⟨v, e⟩ := a.out x hx
    show _ = some ((clT m x "").getD 0)
    rw [e]
    rfl
  · obtain ⟨v, e⟩ := a.put x hx
    show _ = some ((clT m "" x).getD 0)
    rw [e]
    rfl
  · show _ = if x ∈ m.sgs ∧ y ∈ m.sgs ∧ x ≠ y then clT m x y else none
    rw [if_pos ⟨hx, hy, ne⟩]
/-- all that the law's judges of a target are given -/
structure Case {K : PySem.W.Frag} {mg : Str → Option Value} (T : Txt K mg) (H : Hp) (a g t fm pr dc : Addr) (tg : MachS) (m : PrM) : Prop where
  hg : H g = some (.tup (m.sgs.map V.str))
  ht : TgAt H t tg
  hf : FormAt T.C_Form H fm tg
  hp : PrAt T.C_Prices H pr m
  hd : TabAt H dc (clT m)
  ok : PrOk m
  tok : TgOk tg
  si : SgIn tg m
  nga : g ≠ a
theorem Case.keep {K : PySem.W.Frag} {mg : Str → Option Value} {T : Txt K mg} {H H' : Hp} {a g t fm pr dc : Addr} {tg : MachS} {m : PrM} (c : Case T H a g t fm pr dc tg m) (k : Keep H H') : Case T H' a g t fm pr dc tg m :=
  ⟨keep_tup k c.hg, c.ht.keep k, c.hf.keep k, c.hp.keep k, c.hd.keep k, c.ok, c.tok, c.si, c.nga⟩
/-! ### _law_word_right -/
def sp__law_word_right {K : PySem.W.Frag} {mg : Str → Option Value} (T : Txt K mg) : Sp := fun vs H Q _ => ∃ (a g t fm pr dc : Addr) (tg : MachS) (m : PrM), vs = [.ref a, .ref g, .ref t, .ref fm, .ref pr, .ref dc] ∧ Dice H a ∧ Case T H a g t fm pr dc tg m ∧ ∀ H', SameX a H H' → Dice H' a → Q (.bl true) H'
set_option maxHeartbeats 4000000 in
theorem ok__law_word_right {P : Program} {w : World} {K : PySem.W.Frag} {mg : Str → Option Value} {base : Heap} (T : Txt K mg) : FnOk P w K mg base CX0 9 T.a__law_word_right T.d__law_word_right ["dice", "signs", "target", "form", "prices", "closed"] (sp__law_word_right T) := by
  refine T.F__law_word_right.ok sc__law_word_right (fun vs H Q E h => ?_) (fun cdv A outer s H vs Q E hr h => ?_)
  · obtain ⟨a, g, t, fm, pr, dc, tg, m, rfl, da, cs, q⟩ := h
    rfl
  · obtain ⟨a, g, t, fm, pr, dc, tg, m, rfl, da, cs, q⟩ := h
    refine ⟨_, PSs.nox (pss_cons (ps_set (i := 6) sc__law_word_right.nd rfl (by first | exact .inl rfl | exact .inr rfl) (pe_call (ok__law_ways T) (hr.mono (by decide)) (by rfl) T.g__law_ways T.F__law_ways.kp (b__law_ways T) .nil pass0 (pa_cons (pv 2) (pa_cons (pv 5) pa_nil))))
      (pss_cons (ps_par (i := 7) (j := 8) (by rfl) sc__law_word_right.nd rfl rfl (by decide) rfl rfl (pa_cons (pe_callTy (call_tupK K) (by rfl) T.n_tuple (by decide +kernel) (pa_cons (pe_lc (own := [("to", 12)]) rfl sc__law_word_right.nd (pi_range1 (by rfl) T.n_range (pa_cons (pe_callB (call_lenK K) (by rfl) T.n_len (by decide +kernel) (pa_cons (pv 2) pa_nil)) pa_nil)) (blkOk_by (own := [("to", 12)]) (N := n__law_word_right) (sc := defScope s__law_word_right) (by decide +kernel)) (fun _ _ _ _ _ => (pg_name (i := 12) sc__law_word_right.nd rfl (by first | exact .inl rfl | exact .inr rfl))) (fun _ _ _ _ _ => pts_nil) (fun _ _ _ _ _ => (pe_dget (hu_of hr) (pv 6) (pe_tup (pa_cons pe_int (pa_cons (pv 12) pa_nil))) (fun _ _ => rfl)))) pa_nil)) (pa_cons pe_str pa_nil)) (by rfl))
      (pss_cons (ps_if (PW.pt (pw_or (pt_cmpR (op_neDK K hr.units) (pe_call (ok_start_row T) (hr.mono (by decide)) (by rfl) T.g_start_row T.F_start_row.kp (b_start_row T) .nil pass0 (pa_cons (pv 3) (pa_cons (pv 4) pa_nil))) (pv 7) (nomark _)) (pw_or (pt_cmpR (op_neDK K hr.units) (pe_call (ok_row_of T) (hr.mono (by decide)) (by rfl) T.g_row_of T.F_row_of.kp (b_row_of T) .nil pass0 (pa_cons (pv 3) (pa_cons (pv 4) (pa_cons pe_str pa_nil)))) (pv 7) (nomark _)) (pw_or1 (pt_cmpR op_notBl (pe_call (ok_is_row T) (hr.mono (by decide)) (by rfl) T.g_is_row T.F_is_row.kp (b_is_row T) .nil pass0 (pa_cons (pv 3) (pa_cons (pv 7) pa_nil))) pe_bl (nomark _)))))) (pss_one (ps_ret pe_bl)) pss_nil)
      (pss_cons (ps_for PassesOwn.never rfl (pi_range1 (by rfl) T.n_range (pa_cons (pe_call (ok__law_pick T) (hr.mono (by decide)) (by rfl) T.g__law_pick T.F__law_pick.kp (b__law_pick T) .nil pass0 (pa_cons (pv 0) (pa_cons (pe_lst (pa_cons pe_int (pa_cons pe_int (pa_cons pe_int pa_nil)))) pa_nil))) pa_nil)) (pg_name (i := 9) sc__law_word_right.nd rfl (by first | exact .inl rfl | exact .inr rfl)) (pss_cons (ps_set (i := 10) sc__law_word_right.nd rfl (by first | exact .inl rfl | exact .inr rfl) (pe_call (ok__law_pick T) (hr.mono (by decide)) (by rfl) T.g__law_pick T.F__law_pick.kp (b__law_pick T) .nil pass0 (pa_cons (pv 0) (pa_cons (pv 1) pa_nil))))
      (pss_one (ps_par (i := 7) (j := 8) (by rfl) sc__law_word_right.nd rfl rfl (by decide) rfl rfl (pa_cons (pe_call (ok__law_behind T) (hr.mono (by decide)) (by rfl) T.g__law_behind T.F__law_behind.kp (b__law_behind T) .nil pass0 (pa_cons (pv 2) (pa_cons (pv 5) (pa_cons (pv 6) (pa_cons (pv 7) (pa_cons (pv 10) pa_nil)))))) (pa_cons (pe_op op_add_str (pv 8) (pv 10)) pa_nil)) (by rfl)))))
      (pss_cons (ps_set (i := 11) sc__law_word_right.nd rfl (by first | exact .inl rfl | exact .inr rfl) (pe_call (ok__law_end T) (hr.mono (by decide)) (by rfl) T.g__law_end T.F__law_end.kp (b__law_end T) .nil pass0 (pa_cons (pv 2) (pa_cons (pv 7) pa_nil))))
      (pss_one (ps_ret (pe_and (pe_cmpR (op_eqDK K hr.units) (pe_call (ok_row_of T) (hr.mono (by decide)) (by rfl) T.g_row_of T.F_row_of.kp (b_row_of T) .nil pass0 (pa_cons (pv 3) (pa_cons (pv 4) (pa_cons (pv 8) pa_nil)))) (pv 7) (nomark _)) (pe_and (pe_cmpR op_eq (pe_call (ok_end_cost T) (hr.mono (by decide)) (by rfl) T.g_end_cost T.F_end_cost.kp (b_end_cost T) .nil pass0 (pa_cons (pv 3) (pa_cons (pv 7) pa_nil))) (pv 11) (nomark _)) (pe_one (pe_cmpR op_eq (pe_call (ok_cost T) (hr.mono (by decide)) (by rfl) T.g_cost T.F_cost.kp (b_cost T) .nil pass0 (pa_cons (pv 8) (pa_cons (pv 3) (pa_cons (pv 4) pa_nil)))) (pv 11) (nomark _)))))))))))), ?_⟩
    have cl := cl_ok cs.ok
    have tm := tabM_cl cs.ok
    have n1 := cs.tok.useful.pos
    have n6 := cs.tok.six
    have mok : MOk tg.length (movesOf tg) (clM m.sgs (clT m)).put := ⟨n6, fun p hp e he => cs.tok.useful.to p e.2 (by rw [succs_eq]; exact List.mem_map.mpr ⟨e, he, rfl⟩), fun p hp e he => by
      obtain ⟨row, hrow⟩ := getE_of hp
      rw [movesOf_at hrow] at he
      exact cl.pr.put e.1 (cs.si row (List.mem_of_getElem? hrow) e he)⟩
    obtain ⟨M, hM⟩ := ways_ex cs.tok.useful.to mok
    have cx : Ctx tg (clM m.sgs (clT m)) M := ⟨cs.tok, cl, cs.si, hM⟩
    -- ways = _law_ways(target, closed)
    refine seq_cut (fun σ' H' => ∃ dw, σ' = [some (.ref a), some (.ref g), some (.ref t), some (.ref fm), some (.ref pr), some (.ref dc), some (.ref dw), none, none, none, none, none, none] ∧ Same H H' ∧ WyAt H' dw tg.length M) (fun N hN => ?_) ?_
    · refine ⟨_, rfl, _, rfl, t, dc, tg, clM m.sgs (clT m), clT m, rfl, cs.ht, cs.hd, fun x hx => tm.put x hx, cs.si, cs.tok, cl.pr, fun H1 d f s1 nd ⟨kvs, k1, k2⟩ snd stl => ?_⟩
      refine hN _ _ ⟨d, rfl, s1, kvs, k1, fun p' t' hp ht => ?_⟩
      show valV kvs (kI2 (p', t')) = _
      rw [k2.get, settled_all hM (stl M hM) snd p' t' ht]
      by_cases c : M p' t' < far
      · rw [if_pos ⟨hp, c⟩, if_pos c]
        rfl
      · rw [if_neg (fun z => c z.2), if_neg c]
        rfl
    rintro σ1 H1 ⟨dw, rfl, s1, wy⟩
    have cs1 := cs.keep (keep_of s1)
    have hln : ∃ rs : List Addr, H1 t = some (.tup (rs.map V.ref)) ∧ rs.length = tg.length := let ⟨rs, h, l, _⟩ := cs1.ht; ⟨rs, h, l⟩
    obtain ⟨rs, ht1, lrs⟩ := hln
    -- row, word = ..
    refine seq_cut (fun σ' H' => ∃ (p : Addr), σ' = [some (.ref a), some (.ref g), some (.ref t), some (.ref fm), some (.ref pr), some (.ref dc), some (.ref dw), some (.ref p), some (.str ""), none, none, none, none] ∧ Same H1 H' ∧ H' p = some (.tup ((rowL tg.length (M 0)).map V.int))) (fun N hN => ?_) ?_
    · refine ⟨_, rfl, t, _, rfl, .inr (sqt ht1), ?_⟩
      refine ⟨_, rfl, by rw [List.length_map]; omega, by rw [List.length_map]; omega, fun D hD => ?_⟩
      obtain ⟨kvs, k1, k2⟩ := id wy
      have st0 : ∀ i, i < tg.length → M 0 i < far := fun i hi => by
        have := cx.start hi
        show M 0 i < (100000000 : Int)
        omega
      refine lc_wk (n := (((rs.map V.ref).length : Nat) : Int).toNat) Wk.range0 hD (fun i l _ => l = ((rowL tg.length (M 0)).take i).map V.int) off_pure rfl (fun _ _ => trivial) ?_ ?_
      · rintro i l y H3 H4 hi sm hl hz r ⟨rfl, rfl⟩
        rw [Int.toNat_natCast, List.length_map, lrs] at hi
        refine ⟨rfl, yes1 ?_⟩
        refine ⟨_, rfl, _, rfl, szle (by simp), fun p1 hp1 => ?_⟩
        have s4 := same_upd (o := .tup [.int 0, .int (i : Nat)]) hp1
        have gd : DGet (upd H4 p1 (.tup [.int 0, .int (i : Nat)])) dw (.ref p1) (some (.int (M 0 i))) := .inr ⟨kvs, kI2 (0, i), p1, .inl (s4 _ _ (sm _ _ k1)), rfl, upd_same, by rw [show valV kvs (kI2 (0, i)) = _ from k2 0 i n1 hi, if_pos (st0 i hi)]⟩
        refine ⟨dw, .int (M 0 i), rfl, gd, ?_⟩
        refine lc_put off_pure hD (by omega) (sm.trans s4) (s4 _ _ hl) hz ?_
        show _ = ((rowL tg.length (M 0)).take (i + 1)).map V.int
        rw [r, List.take_add_one, rowL_at hi, List.map_append]
        rfl
      · intro l H3 sm hl hz r
        rw [Int.toNat_natCast, List.length_map, lrs, List.take_of_length_le (by simp)] at r
        subst r
        refine ⟨D, _, rfl, .inl ⟨sq hl, fun p hp => ?_⟩⟩
        exact ⟨_, _, rfl, hN _ _ ⟨p, rfl, sm.trans (same_upd hp), upd_same⟩⟩
    rintro σ2 H2 ⟨p, rfl, s2, hp2⟩
    have cs2 := cs1.keep (keep_of s2)
    have row0 : RowOf tg (clM m.sgs (clT m)) M [] (rowL tg.length (M 0)) := .nil
    have bnd0 := row0.bnd cx (fun k hk => by simp at hk)
    -- if start_row(form, prices) != row or ..
    refine seq_cut (fun σ' H' => σ' = [some (.ref a), some (.ref g), some (.ref t), some (.ref fm), some (.ref pr), some (.ref dc), some (.ref dw), some (.ref p), some (.str ""), none, none, none, none] ∧ Same H2 H') (fun N hN => ?_) ?_
    · refine ⟨_, rfl, _, rfl, fm, pr, tg, m, rfl, cs2.hf, cs2.hp, cs2.ok, cs2.tok, cs2.si, fun H3 t3 r M' s3 ht3 cx' ro => ?_⟩
      obtain rfl := (ro.ways cx' cx).uniq row0
      refine ⟨_, rfl, ne_rows ht3 (s3 _ _ hp2) ⟨_, rfl, ite_no rfl ?_⟩⟩
      have cs3 := cs2.keep (keep_of s3)
      refine ⟨_, rfl, _, rfl, fm, pr, "", tg, m, rfl, cs3.hf, cs3.hp, cs3.ok, cs3.tok, cs3.si, nil_in, nil_in, by decide, fun H4 t4 r M' s4 ht4 cx' ro => ?_⟩
      obtain rfl := (ro.ways cx' cx).uniq row0
      refine ⟨_, rfl, ne_rows ht4 (s4 _ _ (s3 _ _ hp2)) ⟨_, rfl, ite_no rfl ?_⟩⟩
      have s24 := s3.trans s4
      have cs4 := cs3.keep (keep_of s4)
      refine ⟨_, rfl, _, rfl, fm, p, tg, _, rfl, cs4.hf, s24 _ _ hp2, row0.len, n1, n6, fun x hx => ?_, fun H5 s5 => ?_⟩
      · have := bnd0 x hx
        simp at this
        omega
      · exact ⟨_, _, rfl, rfl, _, rfl, ite_no rfl (hN _ _ ⟨rfl, s24.trans s5⟩)⟩
    rintro σ3 H3 ⟨rfl, s3⟩
    have cs3 := cs2.keep (keep_of s3)
    have hp3 := s3 _ _ hp2
    have x3 : SameX a H H3 := Same.x a ((s1.trans s2).trans s3)
    have d3 : Dice H3 a := da.same ((s1.trans s2).trans s3)
    have wy3 : WyAt H3 dw tg.length M := wy.keep (keep_of (s2.trans s3))
    -- for turn in range(_law_pick(dice, [3, 9, 40]))
    refine seq_cut (fun σ' H' => ∃ (p : Addr) (z : Str) (r : List Int) (y9 y10 : Option V), σ' = [some (.ref a), some (.ref g), some (.ref t), some (.ref fm), some (.ref pr), some (.ref dc), some (.ref dw), some (.ref p), some (.str z), y9, y10, none, none] ∧ SameX a H3 H' ∧ Dice H' a ∧ H' p = some (.tup (r.map V.int)) ∧ RowOf tg (clM m.sgs (clT m)) M z.cps.toList r ∧ (∀ k ∈ z.cps.toList, sg k ∈ m.sgs) ∧ z.cps.size ≤ 40) (fun N hN => ?_) ?_
    · refine ⟨_, rfl, szle (by simp), fun L hL => ?_⟩
      have nLa : L ≠ a := fun z => by
        obtain ⟨o, e⟩ := d3.some
        rw [← z, hL] at e
        cases e
      have sL := same_upd (o := .lst [.int 3, .int 9, .int 40]) hL
      refine ⟨a, L, _, rfl, d3.same sL, .inl upd_same, nLa, by simp, by simp, fun H4 v x4 d4 hv => ?_⟩
      have hv9 : ∃ k : Nat, v = .int (k : Nat) ∧ k ≤ 40 := by
        simp only [List.mem_cons, List.not_mem_nil, or_false] at hv
        rcases hv with rfl | rfl | rfl
        · exact ⟨3, rfl, by decide⟩
        · exact ⟨9, rfl, by decide⟩
        · exact ⟨40, rfl, by decide⟩
      obtain ⟨k, rfl, k40⟩ := hv9
      refine ⟨_, rfl, by omega, by omega, ?_⟩
      have x34 := (Same.x a sL).trans x4
      refine for_wkD (n := ((k : Nat) : Int).toNat) (S := fun _ => True) Wk.range0 (fun i σ H5 => ∃ (p : Addr) (z : Str) (r : List Int) (y9 y10 : Option V), σ = [some (.ref a), some (.ref g), some (.ref t), some (.ref fm), some (.ref pr), some (.ref dc), some (.ref dw), some (.ref p), some (.str z), y9, y10, none, none] ∧ SameX a H3 H5 ∧ Dice H5 a ∧ p ≠ a ∧ H5 p = some (.tup (r.map V.int)) ∧ RowOf tg (clM m.sgs (clT m)) M z.cps.toList r ∧ (∀ k ∈ z.cps.toList, sg k ∈ m.sgs) ∧ z.cps.size = i)
        ⟨p, "", _, none, none, rfl, x34, d4, ?_, ?_, row0, nil_in, rfl⟩ (fun _ _ _ _ _ => trivial) ?_ ?_
      · intro z
        obtain ⟨x, y, e, _⟩ := d3
        rw [← z, hp3] at e
        cases e
      · exact x34 _ _ (fun z => by
          obtain ⟨x, y, e, _⟩ := d3
          rw [← z, hp3] at e
          cases e) hp3
      · rintro D' i v σ H5 H5' hi ⟨p, z, r, y9, y10, rfl, x5, d5, npa, hp5, ro, hz, lz⟩ ⟨rfl, rfl⟩
        rw [Int.toNat_natCast] at hi
        have cs5 := cs3.keep (d3.keep x5)
        have m1 : 1 ≤ m.sgs.length := List.length_pos_iff.mpr cs.ok.ne
        have l5 := cs.ok.asc.len5
        refine ⟨_, rfl, _, rfl, a, g, _, rfl, d5, .inr cs5.hg, cs5.nga, by rw [List.length_map]; exact m1, by rw [List.length_map]; omega, fun H6 v x6 d6 hv => ?_⟩
        obtain ⟨x, hx, rfl⟩ := List.mem_map.mp hv
        obtain ⟨c, c1, c2, rfl⟩ := cs.ok.asc.isSg hx
        have cs6 := cs5.keep (d5.keep x6)
        have wy6 : WyAt H6 dw tg.length M := (wy3.keep (d3.keep x5)).keep (d5.keep x6)
        refine ⟨_, rfl, _, rfl, _, rfl, _, rfl, _, rfl, t, dc, dw, p, sg c, tg, _, clT m, M, r, rfl, cs6.ht, cs6.hd, tm, wy6, cx, hx, x6 _ _ npa hp5, ro.len, fun H7 p' r' s7 hp' lr' bh => ?_⟩
        refine ⟨_, rfl, _, rfl, z, sg c, rfl, rfl, szle ?_, ?_⟩
        · show z.cps.size + 1 ≤ 100000
          omega
        have x7 := x6.trans (Same.x a s7)
        have d7 := d6.same s7
        have ez : (z ++ sg c).cps.toList = z.cps.toList ++ [c] := by
          show (z.cps ++ #[c]).toList = _
          rw [Array.toList_append]
        refine ⟨_, _, rfl, p', z ++ sg c, r', _, _, rfl, x5.trans x7, d7, fun e => ?_, hp', ?_, fun k hk => ?_, ?_⟩
        · obtain ⟨x, y, e', _⟩ := d7
          rw [← e, hp'] at e'
          cases e'
        · rw [ez]
          exact .snoc ro lr' bh
        · rw [ez] at hk
          rcases List.mem_append.mp hk with h | h
          · exact hz k h
          · rw [List.mem_singleton.mp h]
            exact hx
        · show (z.cps ++ #[c]).size = i + 1
          rw [Array.size_append, lz]
          rfl
      · rintro σ H5 ⟨p, z, r, y9, y10, rfl, x5, d5, npa, hp5, ro, hz, lz⟩
        rw [Int.toNat_natCast] at lz
        exact hN _ _ ⟨p, z, r, _, _, rfl, x5, d5, hp5, ro, hz, by omega⟩
    rintro σ5 H5 ⟨p, z, r, y9, y10, rfl, x5, d5, hp5, ro, hz, lz⟩
    have cs5 := cs3.keep (d3.keep x5)
    have lzl : (z.cps.toList.length : Int) ≤ 40 := by
      rw [Array.length_toList]
      omega
    have bnd : ∀ x ∈ r, 0 ≤ x ∧ x < 10000 := fun x hx => by
      have := ro.bnd cx hz x hx
      omega
    have wd : IsWd z := fun k hk => by
      obtain ⟨c, c1, c2, e⟩ := cs.ok.asc.isSg (hz k hk)
      have : k = c := sg_inj e
      omega
    -- due = _law_end(target, row)
    refine ⟨_, rfl, _, rfl, p, t, tg, r, rfl, cs5.ht, hp5, ro.len, cs.tok.useful, n6, fun H6 k s6 hk => ?_⟩
    have cs6 := cs5.keep (keep_of s6)
    have hp6 := s6 _ _ hp5
    refine ⟨_, rfl, _, rfl, _, rfl, fm, pr, z, tg, m, rfl, cs6.hf, cs6.hp, cs6.ok, cs6.tok, cs6.si, wd, hz, by omega, fun H7 t7 r7 M' s7 ht7 cx' ro7 => ?_⟩
    obtain rfl := (ro7.ways cx' cx).uniq ro
    refine ⟨_, rfl, eq_rows ht7 (s7 _ _ hp6) rfl ⟨_, rfl, ite_of rfl ?_⟩⟩
    have cs7 := cs6.keep (keep_of s7)
    refine ⟨_, rfl, _, rfl, fm, p, tg, r7, rfl, cs7.hf, s7 _ _ hp6, ro.len, cs.tok.useful, n6, bnd, fun H8 k8 s8 hk8 => ?_⟩
    obtain rfl := hk8.uniq hk
    refine ⟨_, rfl, rfl, _, rfl, ite_of (decide_eq_true rfl) ?_⟩
    have cs8 := cs7.keep (keep_of s8)
    refine ⟨_, rfl, _, rfl, _, rfl, fm, pr, z, tg, m, rfl, cs8.hf, cs8.hp, cs8.ok, cs8.tok, cs8.si, wd, hz, by omega, fun H9 k9 r9 M' s9 cx' ro9 hk9 => ?_⟩
    obtain rfl := (ro9.ways cx' cx).uniq ro
    obtain rfl := hk9.uniq hk
    refine ⟨_, rfl, rfl, ?_⟩
    rw [decide_eq_true rfl]
    have sz := ((s6.trans s7).trans s8).trans s9
    exact q _ ((x3.trans x5).trans (Same.x a sz)) (d5.same sz)
end K7
end

section
set_option Elab.async false
set_option linter.all false
set_option maxRecDepth 100000
namespace K7
open PySem PySem.Spec PyProof.Rows L2 SlX
/-! The walk: whether rows behind any row are told. -/
theorem clT_cl {m : PrM} (ok : PrOk m) : clT (clM m.sgs (clT m)) = clT m := by
  obtain ⟨h1, h2, h3, h4⟩ := clT_spec ok
  have all := clT_all ok
  have out : ∀ x y, ¬ (x ∈ ndS m ∧ y ∈ ndS m) → clT m x y = none := fun x y c => by
    unfold clT
    rw [fw_out (ndS_nodup ok) (ini_nd ok) x y c]
    unfold iniT
    rw [ini_at m _ _ ok.asc.ne0, if_neg (fun z => c ⟨by rw [z.1]; exact List.mem_cons_self, List.mem_cons_of_mem _ z.2⟩), if_neg (fun z => c ⟨List.mem_cons_of_mem _ z.2, by rw [z.1]; exact List.mem_cons_self⟩)]
    cases h : m.swap x y with
    | none => rfl
    | some v =>
      have := ok.swap _ _ _ h
      exact absurd ⟨List.mem_cons_of_mem _ this.1, List.mem_cons_of_mem _ this.2.1⟩ c
  have mem : ∀ x, x ∈ ndS m → x ≠ "" → x ∈ m.sgs := fun x h n => by
    rcases List.mem_cons.mp h with z | z
    · exact absurd z n
    · exact z
  have ei : iniT (clM m.sgs (clT m)) = clT m := by
    funext x y
    unfold iniT
    rw [ini_at (clM m.sgs (clT m)) _ _ (show ("" : Str) ∉ (clM m.sgs (clT m)).sgs from ok.asc.ne0)]
    show (if x = "" ∧ y ∈ m.sgs then some ((clT m "" y).getD 0) else if y = "" ∧ x ∈ m.sgs then some ((clT m x "").getD 0) else (if x ∈ m.sgs ∧ y ∈ m.sgs ∧ x ≠ y then clT m x y else none)) = _
    by_cases c1 : x = "" ∧ y ∈ m.sgs
    · rw [if_pos c1, c1.1]
      obtain ⟨v, e⟩ := all.put y c1.2
      rw [e]
      rfl
    · rw [if_neg c1]
      by_cases c2 : y = "" ∧ x ∈ m.sgs
      · rw [if_pos c2, c2.1]
        obtain ⟨v, e⟩ := all.out x c2.2
        rw [e]
        rfl
      · rw [if_neg c2]
        by_cases c3 : x ∈ m.sgs ∧ y ∈ m.sgs ∧ x ≠ y
        · rw [if_pos c3]
        · rw [if_neg c3]
          by_cases c4 : x = y
          · rw [c4, h1]
          · by_cases c5 : x ∈ ndS m ∧ y ∈ ndS m
            · exfalso
              by_cases c6 : x = ""
              · by_cases c7 : y = ""
                · exact c4 (c6.trans c7.symm)
                · exact c1 ⟨c6, mem y c5.2 c7⟩
              · by_cases c7 : y = ""
                · exact c2 ⟨c7, mem x c5.1 c6⟩
                · exact c3 ⟨mem x c5.1 c6, mem y c5.2 c7, c4⟩
            · exact (out x y c5).symm
  show fw (ndS m) (ndS m) (iniT (clM m.sgs (clT m))) = clT m
  rw [ei]
  exact fw_stay (ndS_nodup ok) h1 h4
theorem mn_if (x y : Int) : (if y < x then y else x) = mn x y := rfl
theorem over_of {r s : List Int} {n : Nat} (hr : r.length = n) (hs : s.length = n) (h : ∀ t, t < n → rowF s t ≤ rowF r t) : over r s = true := by
  unfold over
  rw [List.all_eq_true]
  intro p hp
  obtain ⟨i, hi, e⟩ := List.getElem_of_mem hp
  rw [List.length_zip, hr, hs, Nat.min_self] at hi
  have e1 := row_get (r := r) (i := i) (by omega)
  have e2 := row_get (r := s) (i := i) (by omega)
  rw [List.getElem_zip] at e
  rw [List.getElem?_eq_getElem (by omega)] at e1 e2
  rw [← e]
  refine decide_eq_true ?_
  show s[i] ≤ r[i]
  rw [Option.some.inj e1, Option.some.inj e2]
  exact h i hi
theorem rowF_cut {r : List Int} {L : Int} {t : Nat} (h : t < r.length) : rowF (r.map (mn · L)) t = mn (rowF r t) L := by
  refine rowF_at ?_
  rw [List.getElem?_map, row_get h]
  rfl
theorem ne_lists {K : PySem.W.Frag} {H : Hp} {p p2 : Addr} {r s : List Int} {Q : VK} (h1 : H p = some (.lst (r.map V.int))) (h2 : H p2 = some (.lst (s.map V.int))) (e : r = s) (q : Q (.bl false) H) : rNeD K (.ref p) (.ref p2) H Q :=
  ⟨.list (r.map PyData.int), .list (s.map PyData.int), .lst (sq h1) (dp_ints _), .lst (sq h2) (dp_ints _), (shaped_ints _).1, (shaped_ints _).1, by
    rw [show PyData.eqv (.list (r.map PyData.int)) (.list (s.map PyData.int)) = decide (r = s) from eqv_ints r s, decide_eq_true e]
    exact q⟩
/-- [min(number, limit) for number in row] -/
theorem cut_lc {K : PySem.W.Frag} {σ : L2.St} {H : Hp} {i j x : Nat} {p : Addr} {r : List Int} {L : Int} {Q : VK} (hi : σ[i]? = some (some (.ref p))) (hx : x < σ.length) (hxi : x ≠ i) (hxj : x ≠ j) (hj : σ[j]? = some (some (.int L))) (h6 : r.length ≤ 6) (hp : H p = some (.tup (r.map V.int)))
    (q : ∀ H' D, Same H H' → H' D = some (.lst ((r.map (mn · L)).map V.int)) → Q (.ref D) H') :
    tLc (iTup K (tVar i)) (gName x) tYes (tCB (fun xs H Q => ∃ i j, xs = [.int i, .int j] ∧ Q (.int (if j < i then j else i)) H) (tCons (tVar x) (tCons (tVar j) tNil))) [x] σ H Q := by
  refine ⟨_, hi, p, rfl, ⟨_, sqt hp⟩, fun D hD => ?_⟩
  have w0 : ∀ (k : Nat), k ≠ x → (wipe σ [x])[k]? = σ[k]? := fun k hk => by
    show (σ.set x none)[k]? = _
    rw [List.getElem?_set_ne (Ne.symm hk)]
  have hlw : (wipe σ [x]).length = σ.length := by show (σ.set x none).length = _; rw [List.length_set]
  refine lc_wk Wk.tup hD (fun i l _ => l = ((r.map (mn · L)).take i).map V.int) off_pure rfl (fun _ s => sqt (s _ _ hp)) ?_ ?_
  · rintro k l y H3 H4 hk sm hl hz rr ⟨rfl, hy⟩
    rw [List.length_map] at hk
    obtain ⟨z, hz', rfl⟩ := ints_at hy
    refine ⟨?_, yes1 ?_⟩
    · show (((σ.set x none).set x (some (V.int z))).set x none) = σ.set x none
      rw [List.set_set, List.set_set]
    · refine ⟨.int z, ?_, .int L, ?_, z, L, rfl, ?_⟩
      · show (((wipe σ [x])).set x (some (.int z)))[x]? = _
        rw [List.getElem?_set_self (by rw [hlw]; exact hx)]
      · show (((wipe σ [x])).set x (some (.int z)))[j]? = _
        rw [List.getElem?_set_ne hxj, w0 j (Ne.symm hxj), hj]
      · refine lc_put off_pure hD (by omega) sm hl hz ?_
        show _ = ((r.map (mn · L)).take (k + 1)).map V.int
        rw [rr, List.take_add_one, List.getElem?_map, hz', List.map_append]
        rfl
  · intro l H3 sm hl hz rr
    rw [List.length_map, List.take_of_length_le (by rw [List.length_map]; exact Nat.le_refl _)] at rr
    subst rr
    exact q _ _ sm hl
theorem asgN {te : TE} {i : Nat} {D : L2.Ends} {σ : L2.St} {H : Hp} (h : te σ H fun x H1 => D.nx (σ.set i (some x)) H1) : tAsg te (gName i) D σ H := h
theorem cb1 {r : List V → Hp → VK → Prop} {te : TE} {σ : L2.St} {H : Hp} {Q : VK} (h : te σ H fun x H1 => r [x] H1 Q) : tCB r (tCons te tNil) σ H Q := h
theorem opN {r : R2} {ta tb : TE} {σ : L2.St} {H : Hp} {Q : VK} (h : ta σ H fun x H1 => tb σ H1 fun y H2 => r x y H2 Q) : tOp r ta tb σ H Q := h
theorem testN {t : TE} {σ : L2.St} {H : Hp} {Q : Bool → Hp → Prop} (h : t σ H fun x H' => ∃ k, x = .bl k ∧ Q k H') : tTest t σ H Q := h
theorem ifN {c : TT} {t u : TS} {D : L2.Ends} {σ : L2.St} {H : Hp} (h : c σ H fun b H1 => if b = true then t D σ H1 else u D σ H1) : tIfS c t u D σ H := h
/-! ### _law_any_right -/
def sp__law_any_right {K : PySem.W.Frag} {mg : Str → Option Value} (T : Txt K mg) : Sp := fun vs H Q _ => ∃ (a g t fm pr dc : Addr) (tg : MachS) (m : PrM), vs = [.ref a, .ref g, .ref t, .ref fm, .ref pr, .ref dc] ∧ Dice H a ∧ Case T H a g t fm pr dc tg m ∧ ∀ H', SameX a H H' → Dice H' a → Q (.bl true) H'
set_option maxHeartbeats 4000000 in
theorem ok__law_any_right {P : Program} {w : World} {K : PySem.W.Frag} {mg : Str → Option Value} {base : Heap} (T : Txt K mg) : FnOk P w K mg base CX0 8 T.a__law_any_right T.d__law_any_right ["dice", "signs", "target", "form", "prices", "closed"] (sp__law_any_right T) := by
  refine T.F__law_any_right.ok sc__law_any_right (fun vs H Q E h => ?_) (fun cdv A outer s H vs Q E hr h => ?_)
  · obtain ⟨a, g, t, fm, pr, dc, tg, m, rfl, da, cs, q⟩ := h
    rfl
  · obtain ⟨a, g, t, fm, pr, dc, tg, m, rfl, da, cs, q⟩ := h
    refine ⟨_, PSs.nox (pss_cons (ps_par3 (i := 6) (j := 7) (l := 8) (by rfl) sc__law_any_right.nd rfl rfl rfl (by decide) (by decide) (by decide) rfl rfl rfl (pa_cons (pe_call (ok__law_ways T) (hr.mono (by decide)) (by rfl) T.g__law_ways T.F__law_ways.kp (b__law_ways T) .nil pass0 (pa_cons (pv 2) (pa_cons (pv 5) pa_nil))) (pa_cons (pe_call (ok__law_any_row T) (hr.mono (by decide)) (by rfl) T.g__law_any_row T.F__law_any_row.kp (b__law_any_row T) .nil pass0 (pa_cons (pv 0) (pa_cons (pe_callB (call_lenK K) (by rfl) T.n_len (by decide +kernel) (pa_cons (pv 2) pa_nil)) pa_nil))) (pa_cons (pe_call (ok__law_pick T) (hr.mono (by decide)) (by rfl) T.g__law_pick T.F__law_pick.kp (b__law_pick T) .nil pass0 (pa_cons (pv 0) (pa_cons (pv 1) pa_nil))) pa_nil))) (by rfl))
      (pss_cons (ps_set (i := 9) sc__law_any_right.nd rfl (by first | exact .inl rfl | exact .inr rfl) (pe_call (ok__law_behind T) (hr.mono (by decide)) (by rfl) T.g__law_behind T.F__law_behind.kp (b__law_behind T) .nil pass0 (pa_cons (pv 2) (pa_cons (pv 5) (pa_cons (pv 6) (pa_cons (pv 7) (pa_cons (pv 8) pa_nil)))))))
      (pss_cons (ps_if (PW.pt (pw_or (pt_cmpR (op_neDK K hr.units) (pe_call (ok_row_behind T) (hr.mono (by decide)) (by rfl) T.g_row_behind T.F_row_behind.kp (b_row_behind T) .nil pass0 (pa_cons (pv 3) (pa_cons (pv 4) (pa_cons (pv 7) (pa_cons (pv 8) pa_nil))))) (pv 9) (nomark _)) (pw_or1 (pt_cmpR (op_neDK K hr.units) (pe_call (ok_row_behind T) (hr.mono (by decide)) (by rfl) T.g_row_behind T.F_row_behind.kp (b_row_behind T) .nil pass0 (pa_cons (pv 3) (pa_cons (pe_methSl0 (pv 4) T.S_Prices T.me_Prices_closed (raw0 (ok_Prices_closed T) (b_Prices_closed T)) (hr.mono (by decide)) pass0) (pa_cons (pv 7) (pa_cons (pv 8) pa_nil))))) (pv 9) (nomark _))))) (pss_one (ps_ret pe_bl)) pss_nil)
      (pss_cons (ps_if (pt_cmpR op_ne (pe_call (ok_end_cost T) (hr.mono (by decide)) (by rfl) T.g_end_cost T.F_end_cost.kp (b_end_cost T) .nil pass0 (pa_cons (pv 3) (pa_cons (pv 7) pa_nil))) (pe_call (ok__law_end T) (hr.mono (by decide)) (by rfl) T.g__law_end T.F__law_end.kp (b__law_end T) .nil pass0 (pa_cons (pv 2) (pa_cons (pv 7) pa_nil))) (nomark _)) (pss_one (ps_ret pe_bl)) pss_nil)
      (pss_cons (ps_set (i := 10) sc__law_any_right.nd rfl (by first | exact .inl rfl | exact .inr rfl) (pe_callTy (call_tupK K) (by rfl) T.n_tuple (by decide +kernel) (pa_cons (pe_lc (own := [("number", 14)]) rfl sc__law_any_right.nd (pi_tupK K (pv 7)) (blkOk_by (own := [("number", 14)]) (N := n__law_any_right) (sc := defScope s__law_any_right) (by decide +kernel)) (fun _ _ _ _ _ => (pg_name (i := 14) sc__law_any_right.nd rfl (by first | exact .inl rfl | exact .inr rfl))) (fun _ _ _ _ _ => pts_nil) (fun _ _ _ _ _ => (pe_callB (call_min2 rfl) (by rfl) T.n_min (by decide +kernel) (pa_cons pe_int (pa_cons (pe_op op_add (pv 14) (pe_call (ok__law_roll T) (hr.mono (by decide)) (by rfl) T.g__law_roll T.F__law_roll.kp (b__law_roll T) .nil pass0 (pa_cons (pv 0) (pa_cons pe_int pa_nil)))) pa_nil))))) pa_nil)))
      (pss_cons (ps_if (PW.pt (pw_or (pt_cmpR op_notBl (pe_call (ok_stands_above T) (hr.mono (by decide)) (by rfl) T.g_stands_above T.F_stands_above.kp (b_stands_above T) .nil pass0 (pa_cons (pv 10) (pa_cons (pv 7) pa_nil))) pe_bl (nomark _)) (pw_or1 (pt_not (pt_val (pe_call (ok__law_is_over T) (hr.mono (by decide)) (by rfl) T.g__law_is_over T.F__law_is_over.kp (b__law_is_over T) .nil pass0 (pa_cons (pe_call (ok_row_behind T) (hr.mono (by decide)) (by rfl) T.g_row_behind T.F_row_behind.kp (b_row_behind T) .nil pass0 (pa_cons (pv 3) (pa_cons (pv 4) (pa_cons (pv 10) (pa_cons (pv 8) pa_nil))))) (pa_cons (pv 9) pa_nil)))))))) (pss_one (ps_ret pe_bl)) pss_nil)
      (pss_cons (ps_set (i := 11) sc__law_any_right.nd rfl (by first | exact .inl rfl | exact .inr rfl) (pe_call (ok__law_pick T) (hr.mono (by decide)) (by rfl) T.g__law_pick T.F__law_pick.kp (b__law_pick T) .nil pass0 (pa_cons (pv 0) (pa_cons (pe_lst (pa_cons pe_int (pa_cons pe_int (pa_cons (pe_callB (cr_maxTK K rfl) (by rfl) T.n_max (by decide +kernel) (pa_cons (pv 7) pa_nil)) (pa_cons (pe_call (ok__law_roll T) (hr.mono (by decide)) (by rfl) T.g__law_roll T.F__law_roll.kp (b__law_roll T) .nil pass0 (pa_cons (pv 0) (pa_cons pe_int pa_nil))) pa_nil))))) pa_nil))))
      (pss_cons (ps_set (i := 12) sc__law_any_right.nd rfl (by first | exact .inl rfl | exact .inr rfl) (pe_callTy (call_tupK K) (by rfl) T.n_tuple (by decide +kernel) (pa_cons (pe_lc (own := [("number", 14)]) rfl sc__law_any_right.nd (pi_tupK K (pv 7)) (blkOk_by (own := [("number", 14)]) (N := n__law_any_right) (sc := defScope s__law_any_right) (by decide +kernel)) (fun _ _ _ _ _ => (pg_name (i := 14) sc__law_any_right.nd rfl (by first | exact .inl rfl | exact .inr rfl))) (fun _ _ _ _ _ => pts_nil) (fun _ _ _ _ _ => (pe_callB (call_min2 rfl) (by rfl) T.n_min (by decide +kernel) (pa_cons (pv 14) (pa_cons (pv 11) pa_nil))))) pa_nil)))
      (pss_cons (ps_set (i := 13) sc__law_any_right.nd rfl (by first | exact .inl rfl | exact .inr rfl) (pe_call (ok_row_behind T) (hr.mono (by decide)) (by rfl) T.g_row_behind T.F_row_behind.kp (b_row_behind T) .nil pass0 (pa_cons (pv 3) (pa_cons (pv 4) (pa_cons (pv 12) (pa_cons (pv 8) pa_nil))))))
      (pss_cons (ps_if (pt_cmpR (op_neDK K hr.units) (pe_lc (own := [("number", 14)]) rfl sc__law_any_right.nd (pi_tupK K (pv 13)) (blkOk_by (own := [("number", 14)]) (N := n__law_any_right) (sc := defScope s__law_any_right) (by decide +kernel)) (fun _ _ _ _ _ => (pg_name (i := 14) sc__law_any_right.nd rfl (by first | exact .inl rfl | exact .inr rfl))) (fun _ _ _ _ _ => pts_nil) (fun _ _ _ _ _ => (pe_callB (call_min2 rfl) (by rfl) T.n_min (by decide +kernel) (pa_cons (pv 14) (pa_cons (pv 11) pa_nil))))) (pe_lc (own := [("number", 14)]) rfl sc__law_any_right.nd (pi_tupK K (pv 9)) (blkOk_by (own := [("number", 14)]) (N := n__law_any_right) (sc := defScope s__law_any_right) (by decide +kernel)) (fun _ _ _ _ _ => (pg_name (i := 14) sc__law_any_right.nd rfl (by first | exact .inl rfl | exact .inr rfl))) (fun _ _ _ _ _ => pts_nil) (fun _ _ _ _ _ => (pe_callB (call_min2 rfl) (by rfl) T.n_min (by decide +kernel) (pa_cons (pv 14) (pa_cons (pv 11) pa_nil))))) (nomark _)) (pss_one (ps_ret pe_bl)) pss_nil)
      (pss_one (ps_ret (pe_and (pe_cmpR (op_eqDK K hr.units) (pe_call (ok_cut_row T) (hr.mono (by decide)) (by rfl) T.g_cut_row T.F_cut_row.kp (b_cut_row T) .nil pass0 (pa_cons (pv 7) (pa_cons (pv 11) pa_nil))) (pv 12) (nomark _)) (pe_one (pe_cmpR op_eq (pe_call (ok_stands_above T) (hr.mono (by decide)) (by rfl) T.g_stands_above T.F_stands_above.kp (b_stands_above T) .nil pass0 (pa_cons (pv 7) (pa_cons (pv 10) pa_nil))) (pe_call (ok__law_is_over T) (hr.mono (by decide)) (by rfl) T.g__law_is_over T.F__law_is_over.kp (b__law_is_over T) .nil pass0 (pa_cons (pv 7) (pa_cons (pv 10) pa_nil))) (nomark _)))))))))))))))), ?_⟩
    have cl := cl_ok cs.ok
    have tm := tabM_cl cs.ok
    have n1 := cs.tok.useful.pos
    have n6 := cs.tok.six
    have mok : MOk tg.length (movesOf tg) (clM m.sgs (clT m)).put := ⟨n6, fun p hp e he => cs.tok.useful.to p e.2 (by rw [succs_eq]; exact List.mem_map.mpr ⟨e, he, rfl⟩), fun p hp e he => by
      obtain ⟨row, hrow⟩ := getE_of hp
      rw [movesOf_at hrow] at he
      exact cl.pr.put e.1 (cs.si row (List.mem_of_getElem? hrow) e he)⟩
    obtain ⟨M, hM⟩ := ways_ex cs.tok.useful.to mok
    have cx : Ctx tg (clM m.sgs (clT m)) M := ⟨cs.tok, cl, cs.si, hM⟩
    have m1 : 1 ≤ m.sgs.length := List.length_pos_iff.mpr cs.ok.ne
    have l5 := cs.ok.asc.len5
    -- ways, row, sign = ..
    refine seq_cut (fun σ' H' => ∃ (dw p : Addr) (x : Str) (r : List Int), σ' = [some (.ref a), some (.ref g), some (.ref t), some (.ref fm), some (.ref pr), some (.ref dc), some (.ref dw), some (.ref p), some (.str x), none, none, none, none, none, none] ∧ SameX a H H' ∧ Dice H' a ∧ WyAt H' dw tg.length M ∧ H' p = some (.tup (r.map V.int)) ∧ r.length = tg.length ∧ (∀ x ∈ r, 0 ≤ x ∧ x < 10000) ∧ x ∈ m.sgs) (fun N hN => ?_) ?_
    · refine ⟨_, rfl, _, rfl, t, dc, tg, clM m.sgs (clT m), clT m, rfl, cs.ht, cs.hd, fun x hx => tm.put x hx, cs.si, cs.tok, cl.pr, fun H1 d f s1 nd ⟨kvs, k1, k2⟩ snd stl => ?_⟩
      have wy : WyAt H1 d tg.length M := ⟨kvs, k1, fun p' t' hp ht => by
        show valV kvs (kI2 (p', t')) = _
        rw [k2.get, settled_all hM (stl M hM) snd p' t' ht]
        by_cases c : M p' t' < far
        · rw [if_pos ⟨hp, c⟩, if_pos c]
          rfl
        · rw [if_neg (fun z => c z.2), if_neg c]
          rfl⟩
      have cs1 := cs.keep (keep_of s1)
      have d1 := da.same s1
      obtain ⟨rs, ht1, lrs, _⟩ := id cs1.ht
      refine ⟨_, rfl, _, rfl, t, _, rfl, .inr (sqt ht1), ?_⟩
      refine ⟨a, tg.length, by rw [List.length_map, lrs]; rfl, d1, n1, n6, fun H2 p r x2 d2 hp2 lr hr => ?_⟩
      have cs2 := cs1.keep (d1.keep x2)
      have npa : p ≠ a := fun e => by
        obtain ⟨x, y, e', _⟩ := d2
        rw [← e, hp2] at e'
        cases e'
      refine ⟨_, rfl, _, rfl, a, g, _, rfl, d2, .inr cs2.hg, cs2.nga, by rw [List.length_map]; exact m1, by rw [List.length_map]; omega, fun H3 v x3 d3 hv => ?_⟩
      obtain ⟨x, hx, rfl⟩ := List.mem_map.mp hv
      exact ⟨_, _, _, rfl, hN _ _ ⟨d, p, x, r, rfl, (Same.x a s1).trans (x2.trans x3), d3, (wy.keep (d1.keep x2)).keep (d2.keep x3), x3 _ _ npa hp2, lr, hr, hx⟩⟩
    rintro σ1 H1 ⟨dw, p, x, r, rfl, x1, d1, wy1, hp1, lr, hrb, hx⟩
    have cs1 := cs.keep (da.keep x1)
    have ho : 0 ≤ (clM m.sgs (clT m)).out x := by
      have := cl.pr.out x hx
      omega
    -- due
    refine ⟨_, rfl, _, rfl, _, rfl, _, rfl, _, rfl, t, dc, dw, p, x, tg, _, clT m, M, r, rfl, cs1.ht, cs1.hd, tm, wy1, cx, hx, hp1, lr, fun H2 pd du s2 hd2 ld bh => ?_⟩
    have cs2 := cs1.keep (keep_of s2)
    have hp2 := s2 _ _ hp1
    have x2 := x1.trans (Same.x a s2)
    have d2 := d1.same s2
    dsimp only
    have same_due : ∀ {r1 : List Int} {M' : Nat → Nat → Int}, r1.length = tg.length → Ctx tg (clM m.sgs (clT m)) M' → Beh tg.length (movesOf tg) (swP (clM m.sgs (clT m)) x) ((clM m.sgs (clT m)).out x) M' (rowF r) (rowF r1) → r1 = du := fun l1 cx' bh1 => row_ext l1 ld fun t' ht' => (bh1.ways cx'.ws cx.ws).uniq bh t' ht'
    -- if row_behind(form, prices, row, sign) != due or ..
    refine seq_cut (fun σ' H' => σ' = [some (.ref a), some (.ref g), some (.ref t), some (.ref fm), some (.ref pr), some (.ref dc), some (.ref dw), some (.ref p), some (.str x), some (.ref pd), none, none, none, none, none] ∧ Same H2 H') (fun N hN => ?_) ?_
    · refine ⟨_, rfl, _, rfl, _, rfl, _, rfl, fm, pr, p, x, tg, m, r, rfl, cs2.hf, cs2.hp, cs2.ok, cs2.tok, cs2.si, hx, hp2, lr, hrb, fun H3 t3 r3 M' s3 ht3 l3 cx' bh3 => ?_⟩
      obtain rfl := same_due l3 cx' bh3
      refine ⟨_, rfl, ne_rows ht3 (s3 _ _ hd2) ⟨_, rfl, ite_no rfl ?_⟩⟩
      have cs3 := cs2.keep (keep_of s3)
      obtain ⟨dx, dO, dP, dS, slt, _⟩ := id cs3.hp
      refine ⟨_, rfl, _, rfl, pr, dx, _, rfl, slt, pr, m, rfl, cs3.hp, cs3.ok, fun H4 c s4 pc => ?_⟩
      have cs4 := cs3.keep (keep_of s4)
      refine ⟨_, rfl, _, rfl, fm, c, p, x, tg, clM m.sgs (clT m), r, rfl, cs4.hf, pc, cl.pr, cs4.tok, cs4.si, hx, s4 _ _ (s3 _ _ hp2), lr, hrb, fun H5 t5 r5 M' s5 ht5 l5 cx' bh5 => ?_⟩
      rw [clT_cl cs.ok] at cx' bh5
      obtain rfl := same_due l5 cx' bh5
      exact ⟨_, rfl, ne_rows ht5 (s5 _ _ (s4 _ _ (s3 _ _ hd2))) ⟨_, rfl, ite_no rfl (hN _ _ ⟨rfl, (s3.trans s4).trans s5⟩)⟩⟩
    rintro σ3 H3 ⟨rfl, s3⟩
    have cs3 := cs2.keep (keep_of s3)
    have hp3 := s3 _ _ hp2
    have hd3 := s3 _ _ hd2
    have x3 := x2.trans (Same.x a s3)
    have d3 := d2.same s3
    -- if end_cost(form, row) != _law_end(target, row)
    refine seq_cut (fun σ' H' => σ' = [some (.ref a), some (.ref g), some (.ref t), some (.ref fm), some (.ref pr), some (.ref dc), some (.ref dw), some (.ref p), some (.str x), some (.ref pd), none, none, none, none, none] ∧ Same H3 H') (fun N hN => ?_) ?_
    · refine ⟨_, rfl, _, rfl, fm, p, tg, r, rfl, cs3.hf, hp3, lr, cs.tok.useful, n6, hrb, fun H4 k4 s4 hk4 => ?_⟩
      have cs4 := cs3.keep (keep_of s4)
      refine ⟨_, rfl, _, rfl, p, t, tg, r, rfl, cs4.ht, s4 _ _ hp3, lr, cs.tok.useful, n6, fun H5 k5 s5 hk5 => ?_⟩
      obtain rfl := hk5.uniq hk4
      exact ⟨rfl, _, rfl, ite_no (by rw [decide_eq_true rfl]; rfl) (hN _ _ ⟨rfl, s4.trans s5⟩)⟩
    rintro σ4 H4 ⟨rfl, s4⟩
    have cs4 := cs3.keep (keep_of s4)
    have hp4 := s4 _ _ hp3
    have hd4 := s4 _ _ hd3
    have x4 := x3.trans (Same.x a s4)
    have d4 := d3.same s4
    have npa : p ≠ a := fun e => by
      obtain ⟨x, y, e', _⟩ := d4
      rw [← e, hp4] at e'
      cases e'
    have nda : pd ≠ a := fun e => by
      obtain ⟨x, y, e', _⟩ := d4
      rw [← e, hd4] at e'
      cases e'
    -- more = ..
    refine seq_cut (fun σ' H' => ∃ (po : Addr) (mo : List Int), σ' = [some (.ref a), some (.ref g), some (.ref t), some (.ref fm), some (.ref pr), some (.ref dc), some (.ref dw), some (.ref p), some (.str x), some (.ref pd), some (.ref po), none, none, none, none] ∧ SameX a H4 H' ∧ Dice H' a ∧ H' po = some (.tup (mo.map V.int)) ∧ mo.length = tg.length ∧ (∀ z ∈ mo, 0 ≤ z ∧ z < 10000) ∧ ∀ i, i < tg.length → rowF r i ≤ rowF mo i) (fun N hN => ?_) ?_
    · refine ⟨_, rfl, p, rfl, ⟨_, sqt hp4⟩, fun D hD => ?_⟩
      refine lcx_wk Wk.tup hD d4 (fun i l _ => ∃ mo : List Int, l = mo.map V.int ∧ mo.length = i ∧ (∀ z ∈ mo, 0 ≤ z ∧ z < 10000) ∧ ∀ j, j < i → rowF r j ≤ rowF mo j) off_pure ⟨[], rfl, rfl, fun z hz => by simp at hz, fun j hj => absurd hj (Nat.not_lt_zero _)⟩ (fun _ s => sqt (s _ _ npa hp4)) ?_ ?_
      · rintro i l y H5 H6 hi sm dd nDa hl hz ⟨mo, rfl, lmo, hmo, hle⟩ ⟨rfl, hy⟩
        rw [List.length_map] at hi
        obtain ⟨z, hz', rfl⟩ := ints_at hy
        have hzb := hrb z (List.mem_of_getElem? hz')
        refine ⟨rfl, yes1 ?_⟩
        refine ⟨_, rfl, _, rfl, a, 3, rfl, dd, by decide, by decide, fun H7 k x7 d7 k0 k1 => ?_⟩
        refine ⟨_, _, rfl, rfl, _, _, rfl, ?_⟩
        rw [mn_if]
        have b1 : mn 9999 (z + k) ≤ 9999 := mn_le_l _ _
        have b2 : z ≤ mn 9999 (z + k) := by
          rcases mn_or 9999 (z + k) with h | h <;> omega
        refine lcx_put off_pure hD nDa (by omega) (sm.trans x7) d7 (x7 _ _ nDa hl) hz ⟨mo ++ [mn 9999 (z + k)], by rw [List.map_append]; rfl, by rw [List.length_append, lmo]; rfl, fun w hw => ?_, fun j hj => ?_⟩
        · rcases List.mem_append.mp hw with h | h
          · exact hmo w h
          · rw [List.mem_singleton.mp h]
            omega
        · by_cases c : j < i
          · have := hle j c
            rw [show rowF (mo ++ [mn 9999 (z + k)]) j = rowF mo j from rowF_at (by rw [List.getElem?_append_left (by omega)]; exact row_get (by omega))]
            exact this
          · have : j = i := by omega
            subst this
            rw [show rowF (mo ++ [mn 9999 (z + k)]) j = mn 9999 (z + k) from rowF_at (by rw [List.getElem?_append_right (by omega), lmo]; simp), rowF_at hz']
            exact b2
      · rintro l H5 sm dd hl hz ⟨mo, rfl, lmo, hmo, hle⟩
        rw [List.length_map, lr] at lmo hle
        refine ⟨D, _, rfl, .inl ⟨sq hl, fun po hpo => ?_⟩⟩
        have sp := same_upd (o := .tup (mo.map V.int)) hpo
        exact hN _ _ ⟨po, mo, rfl, sm.trans (Same.x a sp), dd.same sp, upd_same, lmo, hmo, hle⟩
    rintro σ5 H5 ⟨po, mo, rfl, x5, d5, ho5, lmo, hmo, hle⟩
    have cs5 := cs4.keep (d4.keep x5)
    have hp5 := x5 _ _ npa hp4
    have hd5 := x5 _ _ nda hd4
    -- if stands_above(more, row) is not True or ..
    refine seq_cut (fun σ' H' => σ' = [some (.ref a), some (.ref g), some (.ref t), some (.ref fm), some (.ref pr), some (.ref dc), some (.ref dw), some (.ref p), some (.str x), some (.ref pd), some (.ref po), none, none, none, none] ∧ Same H5 H') (fun N hN => ?_) ?_
    · refine ⟨_, rfl, _, rfl, po, p, mo, r, rfl, ho5, hp5, by omega, by omega, by omega, hmo, hrb, fun H6 s6 => ?_⟩
      have ov : over mo r = true := over_of lmo lr hle
      rw [ov]
      refine ⟨_, _, rfl, rfl, _, rfl, ite_no rfl ?_⟩
      have cs6 := cs5.keep (keep_of s6)
      refine ⟨_, rfl, _, rfl, _, rfl, _, rfl, fm, pr, po, x, tg, m, mo, rfl, cs6.hf, cs6.hp, cs6.ok, cs6.tok, cs6.si, hx, s6 _ _ ho5, lmo, hmo, fun H7 t7 r7 M' s7 ht7 l7 cx' bh7 => ?_⟩
      refine ⟨_, rfl, t7, pd, r7, du, rfl, ht7, s7 _ _ (s6 _ _ hd5), by omega, by omega, fun H8 s8 => ?_⟩
      have ov2 : over r7 du = true := over_of l7 ld fun j hj => bh.mono hle (bh7.ways cx'.ws cx.ws) hj
      rw [ov2]
      exact ⟨_, rfl, ite_no rfl (hN _ _ ⟨rfl, (s6.trans s7).trans s8⟩)⟩
    rintro σ6 H6 ⟨rfl, s6⟩
    have cs6 := cs5.keep (keep_of s6)
    have hp6 := s6 _ _ hp5
    have hd6 := s6 _ _ hd5
    have ho6 := s6 _ _ ho5
    have d6 := d5.same s6
    have x6 := (x4.trans x5).trans (Same.x a s6)
    have nOa : po ≠ a := fun e => by
      obtain ⟨x, y, e', _⟩ := d6
      rw [← e, ho6] at e'
      cases e'
    -- limit = ..
    refine seq_cut (fun σ' H' => ∃ L : Int, σ' = [some (.ref a), some (.ref g), some (.ref t), some (.ref fm), some (.ref pr), some (.ref dc), some (.ref dw), some (.ref p), some (.str x), some (.ref pd), some (.ref po), some (.int L), none, none, none] ∧ SameX a H6 H' ∧ Dice H' a ∧ 0 ≤ L ∧ L < 10000) (fun N hN => ?_) ?_
    · refine ⟨_, rfl, _, rfl, p, r, rfl, sqt hp6, by omega, by omega, fun mx hm1 hm2 => ?_⟩
      refine ⟨_, rfl, a, 10000, rfl, d6, by decide, by decide, fun H7 k x7 d7 k0 k1 => ?_⟩
      refine ⟨szle (by simp), fun L hL => ?_⟩
      have nLa : L ≠ a := fun z => by
        obtain ⟨o, e⟩ := d7.some
        rw [← z, hL] at e
        cases e
      have sL := same_upd (o := .lst [.int 0, .int 5, .int mx, .int k]) hL
      refine ⟨a, L, _, rfl, d7.same sL, .inl upd_same, nLa, by simp, by simp, fun H8 v x8 d8 hv => ?_⟩
      have hv9 : ∃ n : Int, v = .int n ∧ 0 ≤ n ∧ n < 10000 := by
        have := hrb mx hm1
        simp only [List.mem_cons, List.not_mem_nil, or_false] at hv
        rcases hv with rfl | rfl | rfl | rfl
        · exact ⟨0, rfl, by decide, by decide⟩
        · exact ⟨5, rfl, by decide, by decide⟩
        · exact ⟨mx, rfl, by omega, by omega⟩
        · exact ⟨k, rfl, by omega, by omega⟩
      obtain ⟨n, rfl, n0, n10⟩ := hv9
      exact hN _ _ ⟨n, rfl, (x7.trans (Same.x a sL)).trans x8, d8, n0, n10⟩
    rintro σ7 H7 ⟨L, rfl, x7, d7, L0, L1⟩
    have cs7 := cs6.keep (d6.keep x7)
    have hp7 := x7 _ _ npa hp6
    have hd7 := x7 _ _ nda hd6
    have ho7 := x7 _ _ nOa ho6
    have x7' := x6.trans x7
    -- cut = ..
    refine seq_cut (fun σ' H' => ∃ pc : Addr, σ' = [some (.ref a), some (.ref g), some (.ref t), some (.ref fm), some (.ref pr), some (.ref dc), some (.ref dw), some (.ref p), some (.str x), some (.ref pd), some (.ref po), some (.int L), some (.ref pc), none, none] ∧ Same H7 H' ∧ H' pc = some (.tup ((r.map (mn · L)).map V.int))) (fun N hN => ?_) ?_
    · refine asgN (cb1 ?_)
      refine cut_lc (i := 7) (j := 11) (x := 14) (L := L) ?a1 ?a2 (by decide) (by decide) ?a3 (by omega) hp7 fun H8 D s8 hD => ?a4
      case a1 => rfl
      case a2 => exact Nat.lt_of_lt_of_eq (by decide : 14 < 15) rfl
      case a3 => rfl
      refine ⟨D, _, rfl, .inl ⟨sq hD, fun pc hpc => ?_⟩⟩
      exact hN _ _ ⟨pc, rfl, s8.trans (same_upd hpc), upd_same⟩
    rintro σ8 H8 ⟨pc, rfl, s8, hc8⟩
    have cs8 := cs7.keep (keep_of s8)
    have cutb : ∀ z ∈ r.map (mn · L), 0 ≤ z ∧ z < 10000 := fun z hz => by
      obtain ⟨y, hy, rfl⟩ := List.mem_map.mp hz
      have := hrb y hy
      show 0 ≤ mn y L ∧ mn y L < 10000
      have := mn_le_l y L
      rcases mn_or y L with h | h <;> omega
    have lcut : (r.map (mn · L)).length = tg.length := by rw [List.length_map, lr]
    -- short = row_behind(form, prices, cut, sign)
    refine ⟨_, rfl, _, rfl, _, rfl, _, rfl, fm, pr, pc, x, tg, m, r.map (mn · L), rfl, cs8.hf, cs8.hp, cs8.ok, cs8.tok, cs8.si, hx, hc8, lcut, cutb, fun H9 ps sh M' s9 hs9 lsh cx' bh9 => ?_⟩
    dsimp only
    have s79 := s8.trans s9
    have hcut : sh.map (mn · L) = du.map (mn · L) := row_ext (n := tg.length) (by rw [List.length_map, lsh]) (by rw [List.length_map, ld]) fun i hi => by
      rw [rowF_cut (by omega), rowF_cut (by omega)]
      exact Beh.cut hM ho (fun p' hp' e he => swP_nn cl.pr x e.1) (fun p' hp' => rowF_cut (by omega)) bh (bh9.ways cx'.ws cx.ws) hi
    -- if [min(number, limit) for number in short] != [min(number, limit) for number in due]
    refine seq_cut (fun σ' H' => σ' = [some (.ref a), some (.ref g), some (.ref t), some (.ref fm), some (.ref pr), some (.ref dc), some (.ref dw), some (.ref p), some (.str x), some (.ref pd), some (.ref po), some (.int L), some (.ref pc), some (.ref ps), none] ∧ Same H9 H') (fun N hN => ?_) ?_
    · refine ifN (testN (opN ?_))
      refine cut_lc (i := 13) (j := 11) (x := 14) (L := L) ?b1 ?b2 (by decide) (by decide) ?b3 (by omega) hs9 fun H10 D s10 hD => ?b4
      case b1 => rfl
      case b2 => exact Nat.lt_of_lt_of_eq (by decide : 14 < 15) rfl
      case b3 => rfl
      refine cut_lc (i := 9) (j := 11) (x := 14) (L := L) ?c1 ?c2 (by decide) (by decide) ?c3 (by omega) (s10 _ _ (s79 _ _ hd7)) fun H11 D2 s11 hD2 => ?c4
      case c1 => rfl
      case c2 => exact Nat.lt_of_lt_of_eq (by decide : 14 < 15) rfl
      case c3 => rfl
      exact ne_lists (s11 _ _ hD) hD2 hcut ⟨_, rfl, ite_no rfl (hN _ _ ⟨rfl, s10.trans s11⟩)⟩
    rintro σ10 H10 ⟨rfl, s10⟩
    have s710 := s79.trans s10
    have hp10 := s710 _ _ hp7
    have ho10 := s710 _ _ ho7
    have hc10 := (s9.trans s10) _ _ hc8
    -- return cut_row(row, limit) == cut and ..
    refine ⟨_, rfl, _, rfl, p, r, L, rfl, hp10, by omega, by omega, hrb, L0, L1, fun H11 t11 s11 ht11 => ?_⟩
    refine ⟨_, rfl, eq_rows ht11 (s11 _ _ hc10) rfl ⟨_, rfl, ite_of rfl ?_⟩⟩
    refine ⟨_, rfl, _, rfl, p, po, r, mo, rfl, s11 _ _ hp10, s11 _ _ ho10, by omega, by omega, by omega, hrb, hmo, fun H12 s12 => ?_⟩
    refine ⟨_, rfl, _, rfl, p, po, r, mo, rfl, s12 _ _ (s11 _ _ hp10), s12 _ _ (s11 _ _ ho10), by omega, by omega, fun H13 s13 => ?_⟩
    refine ⟨rfl, ?_⟩
    rw [decide_eq_true rfl]
    have sz := ((s710.trans s11).trans s12).trans s13
    exact q _ (x7'.trans (Same.x a sz)) (d7.same sz)
end K7
end

section
set_option Elab.async false
set_option linter.all false
set_option maxRecDepth 100000
namespace K7
open PySem PySem.Spec PyProof.Rows L2 SlX
/-! The walk: a case, and the law. -/
theorem sla {K : PySem.W.Frag} {H : Hp} {a : Addr} {xs : List V} {n : Nat} {Q : VK} (ha : H a = some (.tup xs)) (q : ∀ H' p, Same H H' → H' p = some (.tup (xs.take n)) → Q (.ref p) H') : rSlA K (.ref a) none (some (n : Int)) H Q := by
  refine ⟨a, xs, rfl, sqt ha, fun h => ?_, fun _ p hp => ?_⟩
  · rw [HT.sIx_nat] at h
    have e : xs.take n = xs := List.take_of_length_le (by omega)
    exact q H a (fun _ _ z => z) (by rw [e]; exact ha)
  · have e : cutV xs none (some (n : Int)) = xs.take n := by
      unfold cutV
      rw [HT.sIx_nat, HT.sIx_none, List.drop_zero, Nat.sub_zero]
      by_cases c : n ≤ xs.length
      · rw [Nat.min_eq_left c]
      · rw [Nat.min_eq_right (by omega), List.take_of_length_le (Nat.le_refl _), List.take_of_length_le (by omega)]
    rw [e]
    exact q _ p (same_upd hp) upd_same
def five : List Str := ["a", "b", "c", "d", "e"]
theorem five_asc : Asc five := ⟨[97, 98, 99, 100, 101], rfl, by decide, by decide⟩
/-! ### _law_right -/
def sp__law_right {K : PySem.W.Frag} {mg : Str → Option Value} (T : Txt K mg) : Sp := fun vs H Q _ => ∃ (a : Addr), vs = [.ref a] ∧ Dice H a ∧ ∀ H', SameX a H H' → Dice H' a → Q (.bl true) H'
set_option maxHeartbeats 4000000 in
theorem ok__law_right {P : Program} {w : World} {K : PySem.W.Frag} {mg : Str → Option Value} {base : Heap} (T : Txt K mg) : FnOk P w K mg base CX0 10 T.a__law_right T.d__law_right ["dice"] (sp__law_right T) := by
  refine T.F__law_right.ok sc__law_right (fun vs H Q E h => ?_) (fun cdv A outer s H vs Q E hr h => ?_)
  · obtain ⟨a, rfl, da, q⟩ := h
    rfl
  · obtain ⟨a, rfl, da, q⟩ := h
    refine ⟨_, PSs.nox (pss_cons (ps_set (i := 1) sc__law_right.nd rfl (by first | exact .inl rfl | exact .inr rfl) (pe_slice (sl_tupAK K) (pe_tup (pa_cons pe_str (pa_cons pe_str (pa_cons pe_str (pa_cons pe_str (pa_cons pe_str pa_nil)))))) po_none (po_some (pe_op op_add pe_int (pe_call (ok__law_roll T) (hr.mono (by decide)) (by rfl) T.g__law_roll T.F__law_roll.kp (b__law_roll T) .nil pass0 (pa_cons (pv 0) (pa_cons pe_int pa_nil)))))))
      (pss_cons (ps_par (i := 2) (j := 3) (by rfl) sc__law_right.nd rfl rfl (by decide) rfl rfl (pa_cons (pe_call (ok__law_prices T) (hr.mono (by decide)) (by rfl) T.g__law_prices T.F__law_prices.kp (b__law_prices T) .nil pass0 (pa_cons (pv 0) (pa_cons (pv 1) pa_nil))) (pa_cons (pe_call (ok__law_machine T) (hr.mono (by decide)) (by rfl) T.g__law_machine T.F__law_machine.kp (b__law_machine T) .nil pass0 (pa_cons (pv 0) (pa_cons (pe_slice (sl_tupAK K) (pv 1) po_none (po_some pe_int)) (pa_cons pe_int pa_nil)))) pa_nil)) (by rfl))
      (pss_cons (ps_par3 (i := 4) (j := 5) (l := 6) (by rfl) sc__law_right.nd rfl rfl rfl (by decide) (by decide) (by decide) rfl rfl rfl (pa_cons (pe_make T.mk_Form (ok_Form_init T) (hr.mono (by decide)) (by rfl) T.g_Form (b_Form_init T) .nil pass0 (pa_cons (pv 3) pa_nil)) (pa_cons (pe_makeK0 T.mk_Prices (ok_Prices_init T) (hr.mono (by decide)) (by rfl) T.g_Prices (kb_Prices_init T) pass0 (pk_cons (pe_ix (ix_listK K) (pv 2) pe_int (fun _ _ => rfl)) (pk_cons (pe_ix (ix_listK K) (pv 2) pe_int (fun _ _ => rfl)) (pk_cons (pe_ix (ix_listK K) (pv 2) pe_int (fun _ _ => rfl)) pk_nil)))) (pa_cons (pe_call (ok__law_closed T) (hr.mono (by decide)) (by rfl) T.g__law_closed T.F__law_closed.kp (b__law_closed T) .nil pass0 (pa_cons (pv 2) pa_nil)) pa_nil))) (by rfl))
      (pss_cons (ps_if (pt_not (pt_val (pe_call (ok__law_word_right T) (hr.mono (by decide)) (by rfl) T.g__law_word_right T.F__law_word_right.kp (b__law_word_right T) .nil pass0 (pa_cons (pv 0) (pa_cons (pv 1) (pa_cons (pv 3) (pa_cons (pv 4) (pa_cons (pv 5) (pa_cons (pv 6) pa_nil))))))))) (pss_one (ps_ret pe_bl)) pss_nil)
      (pss_cons (ps_for PassesOwn.never rfl (pi_range1 (by rfl) T.n_range (pa_cons pe_int pa_nil)) (pg_name (i := 7) sc__law_right.nd rfl (by first | exact .inl rfl | exact .inr rfl)) (pss_one (ps_if (pt_not (pt_val (pe_call (ok__law_any_right T) (hr.mono (by decide)) (by rfl) T.g__law_any_right T.F__law_any_right.kp (b__law_any_right T) .nil pass0 (pa_cons (pv 0) (pa_cons (pv 1) (pa_cons (pv 3) (pa_cons (pv 4) (pa_cons (pv 5) (pa_cons (pv 6) pa_nil))))))))) (pss_one (ps_ret pe_bl)) pss_nil)))
      (pss_one (ps_ret pe_bl))))))), ?_⟩
    -- signs = ..
    refine seq_cut (fun σ' H' => ∃ (g : Addr) (sgs : List Str), σ' = [some (.ref a), some (.ref g), none, none, none, none, none, none] ∧ SameX a H H' ∧ Dice H' a ∧ H' g = some (.tup (sgs.map V.str)) ∧ Asc sgs ∧ sgs ≠ []) (fun N hN => ?_) ?_
    · refine ⟨szle (by simp), fun p hp => ?_⟩
      have sp := same_upd (o := .tup [.str "a", .str "b", .str "c", .str "d", .str "e"]) hp
      refine ⟨_, rfl, a, 5, rfl, da.same sp, by decide, by decide, fun H1 k x1 d1 k0 k1 => ?_⟩
      have npa : p ≠ a := fun z => by
        obtain ⟨o, e⟩ := da.some
        rw [← z, hp] at e
        cases e
      have hp1 : H1 p = some (.tup (five.map V.str)) := x1 _ _ npa upd_same
      refine ⟨_, _, rfl, rfl, _, rfl, ?_⟩
      obtain ⟨n, rfl⟩ : ∃ n : Nat, k = (n : Int) := ⟨k.toNat, (Int.toNat_of_nonneg k0).symm⟩
      have e1 : (1 : Int) + (n : Int) = ((n + 1 : Nat) : Int) := by omega
      rw [e1]
      refine sla hp1 fun H2 g s2 hg2 => ?_
      have ne : five.take (n + 1) ≠ [] := fun h => by simp [five] at h
      exact hN _ _ ⟨g, five.take (n + 1), rfl, ((Same.x a sp).trans x1).trans (Same.x a s2), d1.same s2, by rw [hg2, List.map_take], five_asc.sub (List.take_sublist _ _), ne⟩
    rintro σ1 H1 ⟨g, sgs, rfl, x1, d1, hg1, asc, ne⟩
    have nga : g ≠ a := fun e => by
      obtain ⟨x, y, e', _⟩ := d1
      rw [← e, hg1] at e'
      cases e'
    -- rows, target = ..
    refine seq_cut (fun σ' H' => ∃ (R t dP dO dS : Addr) (m : PrM) (tg : MachS), σ' = [some (.ref a), some (.ref g), some (.ref R), some (.ref t), none, none, none, none] ∧ SameX a H1 H' ∧ Dice H' a ∧ H' R = some (.lst [.ref dP, .ref dO, .ref dS]) ∧ m.sgs = sgs ∧ H' dP = some (.dK (dkS m.sgs m.put)) ∧ H' dO = some (.dK (dkS m.sgs m.out)) ∧ TabS H' dS m.swap ∧ PrOk m ∧ TgAt H' t tg ∧ TgOk tg ∧ SgIn tg m) (fun N hN => ?_) ?_
    · refine ⟨_, rfl, _, rfl, a, g, sgs, rfl, d1, hg1, asc, ne, fun H2 R dP dO dS m x2 d2 hR em hP hO hS ok => ?_⟩
      have hg2 := x2 _ _ nga hg1
      refine ⟨_, rfl, _, rfl, ?_⟩
      refine ⟨_, rfl, sla (n := 3) hg2 fun H3 g3 s3 hg3 => ?_⟩
      have d3 := d2.same s3
      have ne3 : sgs.take 3 ≠ [] := by
        cases sgs with
        | nil => exact absurd rfl ne
        | cons x r => rw [List.take_succ_cons]; exact List.cons_ne_nil _ _
      refine ⟨a, g3, sgs.take 3, 6, rfl, d3, by rw [hg3, List.map_take], asc.sub (List.take_sublist _ _), ne3, by decide, by decide, fun H4 t tg x4 d4 tgp tok hsg => ?_⟩
      have k := (keep_of s3).trans (d3.keep x4)
      refine ⟨_, _, rfl, hN _ _ ⟨R, t, dP, dO, dS, m, tg, rfl, (x2.trans (Same.x a s3)).trans x4, d4, ?_, em, keep_dk k hP, keep_dk k hO, hS.keep k, ok, tgp, tok, fun row h e he => by rw [em]; exact List.mem_of_mem_take (hsg row h e he)⟩⟩
      exact k _ _ hR (fun x y z => by injection z with z; injection z with z _; cases z)
    rintro σ2 H2 ⟨R, t, dP, dO, dS, m, tg, rfl, x2, d2, hR, em, hP, hO, hS, ok, tgp, tok, si⟩
    have hg2 := x2 _ _ nga hg1
    -- form, prices, closed = ..
    refine seq_cut (fun σ' H' => ∃ (fm pr dc : Addr), σ' = [some (.ref a), some (.ref g), some (.ref R), some (.ref t), some (.ref fm), some (.ref pr), some (.ref dc), none] ∧ Same H2 H' ∧ Case T H' a g t fm pr dc tg m) (fun N hN => ?_) ?_
    · refine ⟨_, rfl, fun fm dx hx hdx nd => ?_⟩
      have sc : Same H2 (upd (upd H2 dx (.own fm)) fm (.ins T.C_Form dx [])) := (same_upd hdx).trans (same_upd (by rw [upd_ne nd.symm]; exact hx))
      refine ⟨H2, fm, dx, t, tg, rfl, sc, hx, hdx, nd, upd_same, ⟨_, by rw [upd_ne nd]; exact upd_same⟩, tgp, tok, fun H3 s3 hf => ⟨rfl, ?_⟩⟩
      have hR3 := s3 _ _ hR
      refine ⟨_, rfl, R, _, _, _, rfl, rfl, sq hR3, rfl, _, rfl, R, _, _, _, rfl, rfl, sq hR3, rfl, _, rfl, R, _, _, _, rfl, rfl, sq hR3, rfl, ?_⟩
      refine ⟨rfl, rfl, fun pr dx2 hx2 hdx2 nd2 => ?_⟩
      have sc2 : Same H3 (upd (upd H3 dx2 (.own pr)) pr (.ins T.C_Prices dx2 [])) := (same_upd hdx2).trans (same_upd (by rw [upd_ne nd2.symm]; exact hx2))
      refine ⟨H3, pr, dx2, dP, dO, dS, m, rfl, sc2, hx2, hdx2, nd2, upd_same, ⟨_, by rw [upd_ne nd2]; exact upd_same⟩, s3 _ _ hP, s3 _ _ hO, hS.keep (keep_of s3), ok, fun H4 s4 hp => ⟨rfl, ?_⟩⟩
      have s24 := s3.trans s4
      refine ⟨_, rfl, R, dP, dO, dS, m, rfl, s24 _ _ hR, s24 _ _ hP, s24 _ _ hO, hS.keep (keep_of s24), ok, fun H5 dc s5 _ hd => ?_⟩
      have s25 := s24.trans s5
      exact ⟨_, _, _, rfl, hN _ _ ⟨fm, pr, dc, rfl, s25, ⟨by rw [em]; exact s25 _ _ hg2, tgp.keep (keep_of s25), hf.keep (keep_of (s4.trans s5)), hp.keep (keep_of s5), hd, ok, tok, si, nga⟩⟩⟩
    rintro σ3 H3 ⟨fm, pr, dc, rfl, s3, cs⟩
    have d3 := d2.same s3
    -- if not _law_word_right(..)
    refine seq_cut (fun σ' H' => σ' = [some (.ref a), some (.ref g), some (.ref R), some (.ref t), some (.ref fm), some (.ref pr), some (.ref dc), none] ∧ SameX a H3 H' ∧ Dice H' a) (fun N hN => ?_) ?_
    · refine ⟨_, rfl, _, rfl, _, rfl, _, rfl, _, rfl, _, rfl, a, g, t, fm, pr, dc, tg, m, rfl, d3, cs, fun H4 x4 d4 => ?_⟩
      exact ⟨_, rfl, ite_no rfl (hN _ _ ⟨rfl, x4, d4⟩)⟩
    rintro σ4 H4 ⟨rfl, x4, d4⟩
    have cs4 := cs.keep (d3.keep x4)
    have x14 := ((x1.trans x2).trans (Same.x a s3)).trans x4
    -- for turn in range(3)
    refine seq_cut (fun σ' H' => SameX a H4 H' ∧ Dice H' a) (fun N hN => ?_) ?_
    · refine ⟨_, rfl, by decide, by decide, ?_⟩
      refine for_wkD (n := (3 : Int).toNat) (S := fun _ => True) Wk.range0 (fun i σ H5 => ∃ y7 : Option V, σ = [some (.ref a), some (.ref g), some (.ref R), some (.ref t), some (.ref fm), some (.ref pr), some (.ref dc), y7] ∧ SameX a H4 H5 ∧ Dice H5 a)
        ⟨_, rfl, SameX.refl _ _, d4⟩ (fun _ _ _ _ _ => trivial) ?_ ?_
      · rintro D' i v σ H5 H5' hi ⟨y7, rfl, x5, d5⟩ ⟨rfl, rfl⟩
        refine ⟨_, rfl, _, rfl, _, rfl, _, rfl, _, rfl, _, rfl, a, g, t, fm, pr, dc, tg, m, rfl, d5, cs4.keep (d4.keep x5), fun H6 x6 d6 => ?_⟩
        exact ⟨_, rfl, ite_no rfl ⟨_, rfl, x5.trans x6, d6⟩⟩
      · rintro σ H5 ⟨y7, rfl, x5, d5⟩
        exact hN _ _ ⟨x5, d5⟩
    rintro σ5 H5 ⟨x5, d5⟩
    exact q _ (x14.trans x5) d5
/-! ### law -/
def sp_law {K : PySem.W.Frag} {mg : Str → Option Value} (T : Txt K mg) : Sp := fun vs H Q _ => ∃ (s : Addr) (ns : List Int), vs = [.ref s] ∧ SqL K H s (ns.map V.int) ∧ ns.length ≤ 1000 ∧ ∀ H', Same H H' → Q (.bl true) H'
set_option maxHeartbeats 4000000 in
theorem ok_law {P : Program} {w : World} {K : PySem.W.Frag} {mg : Str → Option Value} {base : Heap} (T : Txt K mg) : FnOk P w K mg base CX0 11 T.a_law T.d_law ["script"] (sp_law T) := by
  refine T.F_law.ok sc_law (fun vs H Q E h => ?_) (fun cdv A outer s H vs Q E hr h => ?_)
  · obtain ⟨s, ns, rfl, hs, n63, q⟩ := h
    rfl
  · obtain ⟨s, ns, rfl, hs, n63, q⟩ := h
    refine ⟨_, PSs.nox (pss_cons (ps_for PassesOwn.never rfl (pi_range1 (by rfl) T.n_range (pa_cons (pe_callB (call_max2 rfl) (by rfl) T.n_max (by decide +kernel) (pa_cons pe_int (pa_cons (pe_callB (call_min2 rfl) (by rfl) T.n_min (by decide +kernel) (pa_cons pe_int (pa_cons (pe_callB (call_lenK K) (by rfl) T.n_len (by decide +kernel) (pa_cons (pv 0) pa_nil)) pa_nil))) pa_nil))) pa_nil)) (pg_name (i := 1) sc_law.nd rfl (by first | exact .inl rfl | exact .inr rfl)) (pss_cons (ps_set (i := 2) sc_law.nd rfl (by first | exact .inl rfl | exact .inr rfl) (pe_call (ok__law_dice T) (hr.mono (by decide)) (by rfl) T.g__law_dice T.F__law_dice.kp (b__law_dice T) .nil pass0 (pa_cons (pv 0) (pa_cons (pv 1) pa_nil))))
      (pss_one (ps_for PassesOwn.never rfl (pi_range1 (by rfl) T.n_range (pa_cons pe_int pa_nil)) (pg_name (i := 3) sc_law.nd rfl (by first | exact .inl rfl | exact .inr rfl)) (pss_one (ps_if (pt_not (pt_val (pe_call (ok__law_right T) (hr.mono (by decide)) (by rfl) T.g__law_right T.F__law_right.kp (b__law_right T) .nil pass0 (pa_cons (pv 2) pa_nil)))) (pss_one (ps_ret pe_bl)) pss_nil))))))
      (pss_one (ps_ret pe_bl))), ?_⟩
    have hl : ((ns.map V.int).length : Int) = (ns.length : Int) := by rw [List.length_map]
    refine seq_cut (fun σ' H' => Same H H') (fun N hN => ?_) ?_
    · refine ⟨_, rfl, s, _, rfl, .inl hs, _, _, rfl, _, _, rfl, ?_⟩
      rw [hl]
      have hk : ∃ k : Nat, (if (if (ns.length : Int) < 2 then (ns.length : Int) else 2) > 1 then (if (ns.length : Int) < 2 then (ns.length : Int) else 2) else 1) = (k : Int) ∧ k ≤ 2 := by
        by_cases c : ns.length < 2
        · have c' : (ns.length : Int) < 2 := by omega
          simp only [if_pos c']
          exact ⟨1, by rw [if_neg (by omega)]; rfl, by decide⟩
        · have c' : ¬ (ns.length : Int) < 2 := by omega
          simp only [if_neg c']
          exact ⟨2, by rw [if_pos (by decide)]; rfl, by decide⟩
      obtain ⟨k, ek, k2⟩ := hk
      rw [ek]
      refine ⟨_, rfl, by omega, by omega, ?_⟩
      refine for_wkD (n := ((k : Nat) : Int).toNat) (S := fun _ => True) Wk.range0 (fun i σ H2 => ∃ y1 y2 y3 : Option V, σ = [some (.ref s), y1, y2, y3] ∧ Same H H2)
        ⟨_, _, _, rfl, fun _ _ h => h⟩ (fun _ _ _ _ _ => trivial) ?_ ?_
      · rintro D' i v σ H2 H2' hi ⟨y1, y2, y3, rfl, s2⟩ ⟨rfl, rfl⟩
        rw [Int.toNat_natCast] at hi
        refine ⟨_, rfl, _, rfl, s, ns, i, rfl, s2.seq hs, by omega, fun H3 d s3 nd dd => ?_⟩
        have nd0 : H d = none := s2.free nd
        refine ⟨_, rfl, by decide, by decide, ?_⟩
        refine for_wkD (n := (4 : Int).toNat) (S := fun _ => True) Wk.range0 (fun j σ H4 => ∃ y3 : Option V, σ = [some (.ref s), some (.int (i : Nat)), some (.ref d), y3] ∧ SameX d H3 H4 ∧ Dice H4 d)
          ⟨_, rfl, SameX.refl _ _, dd⟩ (fun _ _ _ _ _ => trivial) ?_ ?_
        · rintro D2 j v σ H4 H4' hj ⟨y3, rfl, x4, d4⟩ ⟨rfl, rfl⟩
          refine ⟨_, rfl, d, rfl, d4, fun H5 x5 d5 => ?_⟩
          exact ⟨_, rfl, ite_no rfl ⟨_, rfl, x4.trans x5, d5⟩⟩
        · rintro σ H4 ⟨y3, rfl, x4, d4⟩
          exact ⟨_, _, _, rfl, fun b o e => x4 _ _ (fun z => by rw [z, nd0] at e; cases e) (s3 _ _ (s2 _ _ e))⟩
      · rintro σ H2 ⟨y1, y2, y3, rfl, s2⟩
        exact hN _ _ s2
    rintro σ2 H2 s2
    exact q _ s2
end K7
end

section
set_option Elab.async false
set_option linter.all false
set_option maxRecDepth 100000
set_option maxHeartbeats 0
/-! The head: what the top leaves, by one run. -/
namespace K7
open PySem PySem.Spec PyProof.Rows L2 SlX
def loose0 : List PySem.Str := ["_wall", "__name__", "MendError", "InvalidWord", "InvalidPrices", "InvalidForm", "InvalidRow", "InvalidOperation", "InvalidNumber", "TooMany", "SIGNS", "MAX_WORD", "GREATEST", "is_integer", "is_sign"]
def loose1 : List PySem.Str := ["is_word", "require_word", "require_number", "MAX_PRICE", "MAX_SWAP", "is_price", "is_pair", "are_prices", "Closed", "closed_of", "Prices", "require_prices", "explored", "useful_states", "are_useful"]
def loose2 : List PySem.Str := ["classes_of", "Quotient", "NONE", "row_at", "last_at", "with_first", "states_behind", "is_met", "Paired", "Chained", "MAX_WRITTEN", "MAX_STATES", "MAX_LISTED", "is_state", "are_states"]
def loose3 : List PySem.Str := ["in_order", "Form", "MadeForm", "require_form", "require_operand", "require_few", "made_form", "formed", "behind", "first_words", "counts_upto", "words_of", "MAX_SIDE", "BEYOND", "require_small"]
def loose4 : List PySem.Str := ["require_priced", "require_target", "lowered_ways", "put_ways", "Steps", "is_plain_row", "require_plain_row", "require_row", "is_row", "start_row", "row_of", "row_behind", "end_cost", "cut_row", "stands_above"]
def loose5 : List PySem.Str := ["cost_in", "require_cost", "cost", "_law_dice", "_law_roll", "_law_pick", "_law_trimmed", "_law_machine", "_law_closed", "_law_ways", "_law_prices", "_law_price", "_law_end", "_law_least", "_law_behind"]
def loose6 : List PySem.Str := ["_law_any_row", "_law_is_over", "_law_word_right", "_law_any_right", "_law_right"]
def looseN : List PySem.Str := loose0 ++ loose1 ++ loose2 ++ loose3 ++ loose4 ++ loose5 ++ loose6
def tops0 : List PySem.Str := ["is_integer", "is_sign", "is_word", "require_word", "require_number", "is_price", "is_pair", "are_prices", "closed_of", "require_prices", "useful_states", "are_useful", "is_state", "are_states", "in_order"]
def tops1 : List PySem.Str := ["require_form", "require_small", "require_priced", "require_target", "lowered_ways", "put_ways", "is_plain_row", "require_plain_row", "require_row", "is_row", "start_row", "row_of", "row_behind", "end_cost", "cut_row"]
def tops2 : List PySem.Str := ["stands_above", "cost_in", "require_cost", "cost", "_law_dice", "_law_roll", "_law_pick", "_law_trimmed", "_law_machine", "_law_closed", "_law_ways", "_law_prices", "_law_price", "_law_end", "_law_least"]
def tops3 : List PySem.Str := ["_law_behind", "_law_any_row", "_law_is_over", "_law_word_right", "_law_any_right", "_law_right", "law"]
def topsN : List PySem.Str := tops0 ++ tops1 ++ tops2 ++ tops3 ++ (["Closed", "Prices", "Form", "Steps"] : List PySem.Str)
def mem0 : List (PySem.Str × PySem.Str) := [("Closed", "__init__"), ("Prices", "__init__"), ("Prices", "closed"), ("Prices", "__contains__"), ("Form", "__init__"), ("Form", "signs"), ("Form", "__len__"), ("Steps", "__init__"), ("Steps", "price_of_swap"), ("Steps", "filled"), ("Steps", "behind"), ("Steps", "end"), ("Steps", "row_of_word"), ("Closed", "own_out"), ("Closed", "own_put")]
def mem1 : List (PySem.Str × PySem.Str) := [("Closed", "own_swap"), ("Prices", "own_out"), ("Prices", "own_put"), ("Prices", "own_swap"), ("Form", "own_lasts"), ("Form", "own_moves"), ("Steps", "own_closed"), ("Steps", "own_lasts"), ("Steps", "own_moves"), ("Steps", "own_start"), ("Steps", "own_ways")]
def memN : List (PySem.Str × PySem.Str) := mem0 ++ mem1
abbrev Ge : Type := Addr → Option Obj
def refsL (g : Ge) (as : List Addr) : List Addr := as.flatMap fun a => (g a).elim [] He.refsD
/-- the part of the heap that is looked at -/
def partK (g : Ge) : PySem.W.Frag :=
  let a0 := [mainGlobals]
  let a1 := a0 ++ topsN.map (He.ga (He.frG g a0))
  let a2 := a1 ++ refsL g (topsN.map (He.ga (He.frG g a0)))
  let K2 := He.frG g a2
  let ms := memN.map fun m => He.ma K2 (He.ga K2 m.1) m.2
  let m1 := refsL g ms
  He.frG g (a2 ++ ms ++ m1 ++ refsL g m1)
abbrev ga := He.ga
abbrev ma := He.ma
def propGet (K : PySem.W.Frag) (p : Addr) : Addr := match PySem.W.recIn K p "property" with
  | some (.ref a :: _) => a
  | _ => 0
/-- a def: where its function stands, what it is -/
structure DA where
  ad : PySem.W.Frag → Addr
  nm : Str
  qn : Str
  ar : Arguments
  bd : List Stmt
  sc : Scope
  dv : List V
abbrev FV : Type := Option (Str × Str × Arguments × FuncBody × Scope × Addr × List (Str × Addr) × Addr)
def seenA (K : PySem.W.Frag) (a : Addr) : FV :=
  (K.lookup a).bind fun o => match o.data with
    | .func f => some (f.name, f.qualname, f.params, f.body, f.scope, f.globals, f.closure, f.builtins)
    | _ => none
def DA.want (x : DA) : FV := some (x.nm, x.qn, x.ar, .stmts x.bd, x.sc, mainGlobals, [], builtinsNs)
def DA.good (K : PySem.W.Frag) (x : DA) : Bool :=
  PySem.W.keepIn K (.ref (x.ad K)) && ((K.lookup (x.ad K)).elim false fun o => match o.data with
    | .func f => PySem.W.codeIn K f.code x.qn && He.dflB K f.defaults x.dv
    | _ => false)
theorem DA.fn {K : PySem.W.Frag} {x : DA} (e : seenA K (x.ad K) = x.want) (g : x.good K = true) : ∃ fd, FunD K x.nm x.qn x.ar x.bd x.sc x.dv [] (x.ad K) fd := by
  obtain ⟨kp, g⟩ := He.ba g
  unfold seenA at e
  cases q : K.lookup (x.ad K) with
  | none => rw [q] at g; cases g
  | some ob =>
    obtain ⟨oc, od, dt, osl⟩ := ob
    rw [q] at g e
    cases dt with
    | func fd =>
      obtain ⟨n1, n2, n3, n4, n5, n6, n7, n8, n9, n10, n11, n12, n13, n14, n15⟩ := fd
      have e2 : (some (n1, n2, n3, n4, n5, n6, n7, n15) : FV) = some (x.nm, x.qn, x.ar, .stmts x.bd, x.sc, mainGlobals, [], builtinsNs) := e
      simp only [Option.some.injEq, Prod.mk.injEq] at e2
      obtain ⟨h1, h2, h3, h4, h5, h6, h7, h8⟩ := e2
      subst h1 h2 h3 h4 h5 h6 h7 h8
      obtain ⟨k1, k2⟩ := He.ba (show (PySem.W.codeIn K n13 x.qn && He.dflB K n8 x.dv) = true from g)
      exact ⟨_, ⟨oc, od, n8, n9, n10, n11, n12, n13, n14, osl, rfl, q, k1, He.dflB_ok k2, .inl rfl⟩, kp⟩
    | _ => cases g
def q_is_integer : DA := ⟨(ga · "is_integer"), "is_integer", "is_integer", defArgs s_is_integer, defBody s_is_integer, defScope s_is_integer, []⟩
def q_is_sign : DA := ⟨(ga · "is_sign"), "is_sign", "is_sign", defArgs s_is_sign, defBody s_is_sign, defScope s_is_sign, []⟩
def q_is_word : DA := ⟨(ga · "is_word"), "is_word", "is_word", defArgs s_is_word, defBody s_is_word, defScope s_is_word, []⟩
def q_require_word : DA := ⟨(ga · "require_word"), "require_word", "require_word", defArgs s_require_word, defBody s_require_word, defScope s_require_word, []⟩
def q_require_number : DA := ⟨(ga · "require_number"), "require_number", "require_number", defArgs s_require_number, defBody s_require_number, defScope s_require_number, []⟩
def q_is_price : DA := ⟨(ga · "is_price"), "is_price", "is_price", defArgs s_is_price, defBody s_is_price, defScope s_is_price, []⟩
def q_is_pair : DA := ⟨(ga · "is_pair"), "is_pair", "is_pair", defArgs s_is_pair, defBody s_is_pair, defScope s_is_pair, []⟩
def q_are_prices : DA := ⟨(ga · "are_prices"), "are_prices", "are_prices", defArgs s_are_prices, defBody s_are_prices, defScope s_are_prices, []⟩
def q_Closed_init : DA := ⟨fun K => ma K (ga K "Closed") "__init__", "__init__", "Closed.__init__", defArgs s_Closed_init, defBody s_Closed_init, defScope s_Closed_init, []⟩
def q_closed_of : DA := ⟨(ga · "closed_of"), "closed_of", "closed_of", defArgs s_closed_of, defBody s_closed_of, defScope s_closed_of, []⟩
def q_Prices_init : DA := ⟨fun K => ma K (ga K "Prices") "__init__", "__init__", "Prices.__init__", defArgs s_Prices_init, defBody s_Prices_init, defScope s_Prices_init, []⟩
def q_Prices_closed : DA := ⟨fun K => ma K (ga K "Prices") "closed", "closed", "Prices.closed", defArgs s_Prices_closed, defBody s_Prices_closed, defScope s_Prices_closed, []⟩
def q_Prices_contains : DA := ⟨fun K => ma K (ga K "Prices") "__contains__", "__contains__", "Prices.__contains__", defArgs s_Prices_contains, defBody s_Prices_contains, defScope s_Prices_contains, []⟩
def q_require_prices : DA := ⟨(ga · "require_prices"), "require_prices", "require_prices", defArgs s_require_prices, defBody s_require_prices, defScope s_require_prices, []⟩
def q_useful_states : DA := ⟨(ga · "useful_states"), "useful_states", "useful_states", defArgs s_useful_states, defBody s_useful_states, defScope s_useful_states, []⟩
def q_are_useful : DA := ⟨(ga · "are_useful"), "are_useful", "are_useful", defArgs s_are_useful, defBody s_are_useful, defScope s_are_useful, []⟩
def q_is_state : DA := ⟨(ga · "is_state"), "is_state", "is_state", defArgs s_is_state, defBody s_is_state, defScope s_is_state, []⟩
def q_are_states : DA := ⟨(ga · "are_states"), "are_states", "are_states", defArgs s_are_states, defBody s_are_states, defScope s_are_states, []⟩
def q_in_order : DA := ⟨(ga · "in_order"), "in_order", "in_order", defArgs s_in_order, defBody s_in_order, defScope s_in_order, []⟩
def q_Form_init : DA := ⟨fun K => ma K (ga K "Form") "__init__", "__init__", "Form.__init__", defArgs s_Form_init, defBody s_Form_init, defScope s_Form_init, []⟩
def q_Form_signs : DA := ⟨fun K => propGet K (ma K (ga K "Form") "signs"), "signs", "Form.signs", defArgs s_Form_signs, defBody s_Form_signs, defScope s_Form_signs, []⟩
def q_Form_len : DA := ⟨fun K => ma K (ga K "Form") "__len__", "__len__", "Form.__len__", defArgs s_Form_len, defBody s_Form_len, defScope s_Form_len, []⟩
def q_require_form : DA := ⟨(ga · "require_form"), "require_form", "require_form", defArgs s_require_form, defBody s_require_form, defScope s_require_form, []⟩
def q_require_small : DA := ⟨(ga · "require_small"), "require_small", "require_small", defArgs s_require_small, defBody s_require_small, defScope s_require_small, []⟩
def q_require_priced : DA := ⟨(ga · "require_priced"), "require_priced", "require_priced", defArgs s_require_priced, defBody s_require_priced, defScope s_require_priced, []⟩
def q_require_target : DA := ⟨(ga · "require_target"), "require_target", "require_target", defArgs s_require_target, defBody s_require_target, defScope s_require_target, [.str "", .str ""]⟩
def q_lowered_ways : DA := ⟨(ga · "lowered_ways"), "lowered_ways", "lowered_ways", defArgs s_lowered_ways, defBody s_lowered_ways, defScope s_lowered_ways, []⟩
def q_put_ways : DA := ⟨(ga · "put_ways"), "put_ways", "put_ways", defArgs s_put_ways, defBody s_put_ways, defScope s_put_ways, []⟩
def q_Steps_init : DA := ⟨fun K => ma K (ga K "Steps") "__init__", "__init__", "Steps.__init__", defArgs s_Steps_init, defBody s_Steps_init, defScope s_Steps_init, []⟩
def q_Steps_price_of_swap : DA := ⟨fun K => ma K (ga K "Steps") "price_of_swap", "price_of_swap", "Steps.price_of_swap", defArgs s_Steps_price_of_swap, defBody s_Steps_price_of_swap, defScope s_Steps_price_of_swap, []⟩
def q_Steps_filled : DA := ⟨fun K => ma K (ga K "Steps") "filled", "filled", "Steps.filled", defArgs s_Steps_filled, defBody s_Steps_filled, defScope s_Steps_filled, []⟩
def q_Steps_behind : DA := ⟨fun K => ma K (ga K "Steps") "behind", "behind", "Steps.behind", defArgs s_Steps_behind, defBody s_Steps_behind, defScope s_Steps_behind, []⟩
def q_Steps_end : DA := ⟨fun K => ma K (ga K "Steps") "end", "end", "Steps.end", defArgs s_Steps_end, defBody s_Steps_end, defScope s_Steps_end, []⟩
def q_Steps_row_of_word : DA := ⟨fun K => ma K (ga K "Steps") "row_of_word", "row_of_word", "Steps.row_of_word", defArgs s_Steps_row_of_word, defBody s_Steps_row_of_word, defScope s_Steps_row_of_word, []⟩
def q_is_plain_row : DA := ⟨(ga · "is_plain_row"), "is_plain_row", "is_plain_row", defArgs s_is_plain_row, defBody s_is_plain_row, defScope s_is_plain_row, []⟩
def q_require_plain_row : DA := ⟨(ga · "require_plain_row"), "require_plain_row", "require_plain_row", defArgs s_require_plain_row, defBody s_require_plain_row, defScope s_require_plain_row, []⟩
def q_require_row : DA := ⟨(ga · "require_row"), "require_row", "require_row", defArgs s_require_row, defBody s_require_row, defScope s_require_row, []⟩
def q_is_row : DA := ⟨(ga · "is_row"), "is_row", "is_row", defArgs s_is_row, defBody s_is_row, defScope s_is_row, []⟩
def q_start_row : DA := ⟨(ga · "start_row"), "start_row", "start_row", defArgs s_start_row, defBody s_start_row, defScope s_start_row, []⟩
def q_row_of : DA := ⟨(ga · "row_of"), "row_of", "row_of", defArgs s_row_of, defBody s_row_of, defScope s_row_of, []⟩
def q_row_behind : DA := ⟨(ga · "row_behind"), "row_behind", "row_behind", defArgs s_row_behind, defBody s_row_behind, defScope s_row_behind, []⟩
def q_end_cost : DA := ⟨(ga · "end_cost"), "end_cost", "end_cost", defArgs s_end_cost, defBody s_end_cost, defScope s_end_cost, []⟩
def q_cut_row : DA := ⟨(ga · "cut_row"), "cut_row", "cut_row", defArgs s_cut_row, defBody s_cut_row, defScope s_cut_row, []⟩
def q_stands_above : DA := ⟨(ga · "stands_above"), "stands_above", "stands_above", defArgs s_stands_above, defBody s_stands_above, defScope s_stands_above, []⟩
def q_cost_in : DA := ⟨(ga · "cost_in"), "cost_in", "cost_in", defArgs s_cost_in, defBody s_cost_in, defScope s_cost_in, []⟩
def q_require_cost : DA := ⟨(ga · "require_cost"), "require_cost", "require_cost", defArgs s_require_cost, defBody s_require_cost, defScope s_require_cost, []⟩
def q_cost : DA := ⟨(ga · "cost"), "cost", "cost", defArgs s_cost, defBody s_cost, defScope s_cost, []⟩
def q__law_dice : DA := ⟨(ga · "_law_dice"), "_law_dice", "_law_dice", defArgs s__law_dice, defBody s__law_dice, defScope s__law_dice, []⟩
def q__law_roll : DA := ⟨(ga · "_law_roll"), "_law_roll", "_law_roll", defArgs s__law_roll, defBody s__law_roll, defScope s__law_roll, []⟩
def q__law_pick : DA := ⟨(ga · "_law_pick"), "_law_pick", "_law_pick", defArgs s__law_pick, defBody s__law_pick, defScope s__law_pick, []⟩
def q__law_trimmed : DA := ⟨(ga · "_law_trimmed"), "_law_trimmed", "_law_trimmed", defArgs s__law_trimmed, defBody s__law_trimmed, defScope s__law_trimmed, []⟩
def q__law_machine : DA := ⟨(ga · "_law_machine"), "_law_machine", "_law_machine", defArgs s__law_machine, defBody s__law_machine, defScope s__law_machine, []⟩
def q__law_closed : DA := ⟨(ga · "_law_closed"), "_law_closed", "_law_closed", defArgs s__law_closed, defBody s__law_closed, defScope s__law_closed, []⟩
def q__law_ways : DA := ⟨(ga · "_law_ways"), "_law_ways", "_law_ways", defArgs s__law_ways, defBody s__law_ways, defScope s__law_ways, []⟩
def q__law_prices : DA := ⟨(ga · "_law_prices"), "_law_prices", "_law_prices", defArgs s__law_prices, defBody s__law_prices, defScope s__law_prices, []⟩
def q__law_price : DA := ⟨(ga · "_law_price"), "_law_price", "_law_price", defArgs s__law_price, defBody s__law_price, defScope s__law_price, []⟩
def q__law_end : DA := ⟨(ga · "_law_end"), "_law_end", "_law_end", defArgs s__law_end, defBody s__law_end, defScope s__law_end, []⟩
def q__law_least : DA := ⟨(ga · "_law_least"), "_law_least", "_law_least", defArgs s__law_least, defBody s__law_least, defScope s__law_least, []⟩
def q__law_behind : DA := ⟨(ga · "_law_behind"), "_law_behind", "_law_behind", defArgs s__law_behind, defBody s__law_behind, defScope s__law_behind, []⟩
def q__law_any_row : DA := ⟨(ga · "_law_any_row"), "_law_any_row", "_law_any_row", defArgs s__law_any_row, defBody s__law_any_row, defScope s__law_any_row, []⟩
def q__law_is_over : DA := ⟨(ga · "_law_is_over"), "_law_is_over", "_law_is_over", defArgs s__law_is_over, defBody s__law_is_over, defScope s__law_is_over, []⟩
def q__law_word_right : DA := ⟨(ga · "_law_word_right"), "_law_word_right", "_law_word_right", defArgs s__law_word_right, defBody s__law_word_right, defScope s__law_word_right, []⟩
def q__law_any_right : DA := ⟨(ga · "_law_any_right"), "_law_any_right", "_law_any_right", defArgs s__law_any_right, defBody s__law_any_right, defScope s__law_any_right, []⟩
def q__law_right : DA := ⟨(ga · "_law_right"), "_law_right", "_law_right", defArgs s__law_right, defBody s__law_right, defScope s__law_right, []⟩
def q_law : DA := ⟨(ga · "law"), "law", "law", defArgs s_law, defBody s_law, defScope s_law, []⟩
def defs0 : List DA := [q_is_integer, q_is_sign, q_is_word, q_require_word, q_require_number, q_is_price, q_is_pair, q_are_prices, q_Closed_init, q_closed_of, q_Prices_init, q_Prices_closed, q_Prices_contains, q_require_prices, q_useful_states]
def defs1 : List DA := [q_are_useful, q_is_state, q_are_states, q_in_order, q_Form_init, q_Form_signs, q_Form_len, q_require_form, q_require_small, q_require_priced, q_require_target, q_lowered_ways, q_put_ways, q_Steps_init, q_Steps_price_of_swap]
def defs2 : List DA := [q_Steps_filled, q_Steps_behind, q_Steps_end, q_Steps_row_of_word, q_is_plain_row, q_require_plain_row, q_require_row, q_is_row, q_start_row, q_row_of, q_row_behind, q_end_cost, q_cut_row, q_stands_above, q_cost_in]
def defs3 : List DA := [q_require_cost, q_cost, q__law_dice, q__law_roll, q__law_pick, q__law_trimmed, q__law_machine, q__law_closed, q__law_ways, q__law_prices, q__law_price, q__law_end, q__law_least, q__law_behind, q__law_any_row]
def defs4 : List DA := [q__law_is_over, q__law_word_right, q__law_any_right, q__law_right, q_law]
def defsN : List DA := defs0 ++ defs1 ++ defs2 ++ defs3 ++ defs4
abbrev Ck : Type := PySem.W.Frag → Bool
def slotB (C f : Str) (i : Nat) : Ck := fun K =>
  let p := ma K (ga K C) f
  He.eqO (PySem.W.findIn K (.ref (ga K C)) f) (some (some (.ref p))) && (He.eqO (PySem.W.specialIn K (.ref p) "__get__") (some (some (.builtin "member_descriptor.__get__"))) &&
    (decide (PySem.W.takesIn K (.ref p) = some true) && (decide (PySem.W.typeIn K (.ref p) = some (.type "member_descriptor")) && decide (PySem.W.slotIn K p (ga K C) = some i))))
theorem slotB_ok {K : PySem.W.Frag} {C f : Str} {i : Nat} (h : slotB C f i K = true) (hi : i < 1000) : SlX.Slot1 K (ga K C) f (ma K (ga K C) f) i := by
  obtain ⟨h1, h⟩ := He.ba h
  obtain ⟨h2, h⟩ := He.ba h
  obtain ⟨h3, h⟩ := He.ba h
  obtain ⟨h4, h5⟩ := He.ba h
  exact ⟨He.eqO_ok h1, He.eqO_ok h2, of_decide_eq_true h3, of_decide_eq_true h4, of_decide_eq_true h5, hi⟩
def clsB (C : Str) : Ck := fun K =>
  PySem.W.plainGet K (ga K C) Str.empty && (PySem.W.isClsIn K (ga K C) && (PySem.W.plainOver K (ga K C) && He.eqO (PySem.W.findIn K (.ref (ga K C)) "__setattr__") (some (some (.builtin "object.__setattr__")))))
theorem clsB_ok {K : PySem.W.Frag} {C : Str} (h : clsB C K = true) : SlX.SCls K (ga K C) := by
  obtain ⟨h1, h⟩ := He.ba h
  obtain ⟨h2, h⟩ := He.ba h
  obtain ⟨h3, h4⟩ := He.ba h
  exact ⟨h1, h2, h3, He.eqO_ok h4⟩
def isiB (C : Str) : Ck := fun K =>
  He.eqO (PySem.W.findIn K (.ref (ga K C)) "__class__") (some (some (.builtin "object.__class__"))) && (He.eqO (PySem.W.specialIn K (.builtin "object.__class__") "__get__") (some (some (.builtin "getset_descriptor.__get__"))) &&
    (decide (PySem.W.takesIn K (.builtin "object.__class__") = some true) && decide (PySem.W.mroIn K (ga K C) (.type "object") = some true)))
theorem isiB_ok {K : PySem.W.Frag} {C : Str} (h : isiB C K = true) : SlX.SIsi K (ga K C) := by
  obtain ⟨h1, h⟩ := He.ba h
  obtain ⟨h2, h⟩ := He.ba h
  obtain ⟨h3, h4⟩ := He.ba h
  exact ⟨He.eqO_ok h1, He.eqO_ok h2, of_decide_eq_true h3, of_decide_eq_true h4⟩
def propB (C f : Str) : Ck := fun K =>
  let p := ma K (ga K C) f
  He.eqO (PySem.W.findIn K (.ref (ga K C)) f) (some (some (.ref p))) && (He.eqO (PySem.W.specialIn K (.ref p) "__get__") (some (some (.builtin "property.__get__"))) &&
    (decide (PySem.W.takesIn K (.ref p) = some true) && (match PySem.W.recIn K p "property" with
      | some (.ref _ :: _) => true
      | _ => false)))
theorem propB_ok {K : PySem.W.Frag} {C f : Str} (h : propB C f K = true) : PySem.W.findIn K (.ref (ga K C)) f = some (some (.ref (ma K (ga K C) f))) ∧ PySem.W.specialIn K (.ref (ma K (ga K C) f)) "__get__" = some (some (.builtin "property.__get__")) ∧
    PySem.W.takesIn K (.ref (ma K (ga K C) f)) = some true ∧ ∃ rest, PySem.W.recIn K (ma K (ga K C) f) "property" = some (.ref (propGet K (ma K (ga K C) f)) :: rest) := by
  obtain ⟨h1, h⟩ := He.ba h
  obtain ⟨h2, h⟩ := He.ba h
  obtain ⟨h3, h4⟩ := He.ba h
  refine ⟨He.eqO_ok h1, He.eqO_ok h2, of_decide_eq_true h3, ?_⟩
  unfold propGet
  split at h4
  · rename_i a r e
    exact ⟨r, by rw [e]⟩
  · cases h4
def cks0 : List Ck := [fun K => (He.Fa.glo "is_integer").ok K, fun K => (He.Fa.glo "is_sign").ok K, fun K => (He.Fa.glo "is_word").ok K, fun K => (He.Fa.glo "require_word").ok K, fun K => (He.Fa.glo "require_number").ok K, fun K => (He.Fa.glo "is_price").ok K, fun K => (He.Fa.glo "is_pair").ok K, fun K => (He.Fa.glo "are_prices").ok K, fun K => (He.Fa.glo "closed_of").ok K, fun K => (He.Fa.glo "require_prices").ok K, fun K => (He.Fa.glo "useful_states").ok K, fun K => (He.Fa.glo "are_useful").ok K, fun K => (He.Fa.glo "is_state").ok K, fun K => (He.Fa.glo "are_states").ok K, fun K => (He.Fa.glo "in_order").ok K]
def cks1 : List Ck := [fun K => (He.Fa.glo "require_form").ok K, fun K => (He.Fa.glo "require_small").ok K, fun K => (He.Fa.glo "require_priced").ok K, fun K => (He.Fa.glo "require_target").ok K, fun K => (He.Fa.glo "lowered_ways").ok K, fun K => (He.Fa.glo "put_ways").ok K, fun K => (He.Fa.glo "is_plain_row").ok K, fun K => (He.Fa.glo "require_plain_row").ok K, fun K => (He.Fa.glo "require_row").ok K, fun K => (He.Fa.glo "is_row").ok K, fun K => (He.Fa.glo "start_row").ok K, fun K => (He.Fa.glo "row_of").ok K, fun K => (He.Fa.glo "row_behind").ok K, fun K => (He.Fa.glo "end_cost").ok K, fun K => (He.Fa.glo "cut_row").ok K]
def cks2 : List Ck := [fun K => (He.Fa.glo "stands_above").ok K, fun K => (He.Fa.glo "cost_in").ok K, fun K => (He.Fa.glo "require_cost").ok K, fun K => (He.Fa.glo "cost").ok K, fun K => (He.Fa.glo "_law_dice").ok K, fun K => (He.Fa.glo "_law_roll").ok K, fun K => (He.Fa.glo "_law_pick").ok K, fun K => (He.Fa.glo "_law_trimmed").ok K, fun K => (He.Fa.glo "_law_machine").ok K, fun K => (He.Fa.glo "_law_closed").ok K, fun K => (He.Fa.glo "_law_ways").ok K, fun K => (He.Fa.glo "_law_prices").ok K, fun K => (He.Fa.glo "_law_price").ok K, fun K => (He.Fa.glo "_law_end").ok K, fun K => (He.Fa.glo "_law_least").ok K]
def cks3 : List Ck := [fun K => (He.Fa.glo "_law_behind").ok K, fun K => (He.Fa.glo "_law_any_row").ok K, fun K => (He.Fa.glo "_law_is_over").ok K, fun K => (He.Fa.glo "_law_word_right").ok K, fun K => (He.Fa.glo "_law_any_right").ok K, fun K => (He.Fa.glo "_law_right").ok K, fun K => (He.Fa.glo "law").ok K, fun K => (He.Fa.glo "Closed").ok K, fun K => clsB "Closed" K, fun K => (He.Fa.mkr "Closed").ok K, fun K => slotB "Closed" "own_out" 0 K, fun K => slotB "Closed" "own_put" 1 K, fun K => slotB "Closed" "own_swap" 2 K, fun K => (He.Fa.glo "Prices").ok K, fun K => clsB "Prices" K]
def cks4 : List Ck := [fun K => (He.Fa.mkr "Prices").ok K, fun K => slotB "Prices" "own_out" 0 K, fun K => slotB "Prices" "own_put" 1 K, fun K => slotB "Prices" "own_swap" 2 K, fun K => (He.Fa.glo "Form").ok K, fun K => clsB "Form" K, fun K => (He.Fa.mkr "Form").ok K, fun K => slotB "Form" "own_lasts" 0 K, fun K => slotB "Form" "own_moves" 1 K, fun K => (He.Fa.glo "Steps").ok K, fun K => clsB "Steps" K, fun K => (He.Fa.mkr "Steps").ok K, fun K => slotB "Steps" "own_closed" 0 K, fun K => slotB "Steps" "own_lasts" 1 K, fun K => slotB "Steps" "own_moves" 2 K]
def cks5 : List Ck := [fun K => slotB "Steps" "own_start" 3 K, fun K => slotB "Steps" "own_ways" 4 K, fun K => isiB "Prices" K, fun K => isiB "Form" K, fun K => (He.Fa.meth "Prices" "closed").ok K, fun K => (He.Fa.meth "Prices" "__contains__").ok K, fun K => (He.Fa.meth "Form" "__len__").ok K, fun K => (He.Fa.meth "Steps" "price_of_swap").ok K, fun K => (He.Fa.meth "Steps" "filled").ok K, fun K => (He.Fa.meth "Steps" "behind").ok K, fun K => (He.Fa.meth "Steps" "end").ok K, fun K => (He.Fa.meth "Steps" "row_of_word").ok K, fun K => propB "Form" "signs" K, fun K => (He.Fa.str "SIGNS" "abcde").ok K, fun K => (He.Fa.int "MAX_WORD" 1000).ok K]
def cks6 : List Ck := [fun K => (He.Fa.int "GREATEST" (10 ^ 60)).ok K, fun K => (He.Fa.int "MAX_PRICE" 9).ok K, fun K => (He.Fa.int "MAX_SWAP" 18).ok K, fun K => (He.Fa.int "MAX_WRITTEN" 8).ok K, fun K => (He.Fa.int "MAX_SIDE" 6).ok K, fun K => (He.Fa.int "BEYOND" 10000).ok K, fun K => (He.Fa.free "len").ok K, fun K => (He.Fa.free "isinstance").ok K, fun K => (He.Fa.free "str").ok K, fun K => (He.Fa.free "int").ok K, fun K => (He.Fa.free "bool").ok K, fun K => (He.Fa.free "tuple").ok K, fun K => (He.Fa.free "dict").ok K, fun K => (He.Fa.free "list").ok K, fun K => (He.Fa.free "all").ok K]
def cks7 : List Ck := [fun K => (He.Fa.free "any").ok K, fun K => (He.Fa.free "sum").ok K, fun K => (He.Fa.free "sorted").ok K, fun K => (He.Fa.free "set").ok K, fun K => (He.Fa.free "enumerate").ok K, fun K => (He.Fa.free "range").ok K, fun K => (He.Fa.free "zip").ok K, fun K => (He.Fa.free "min").ok K, fun K => (He.Fa.free "max").ok K, fun K => (He.Fa.free "abs").ok K]
def cksN : List Ck := cks0 ++ cks1 ++ cks2 ++ cks3 ++ cks4 ++ cks5 ++ cks6 ++ cks7
abbrev Al : Type := Bool × List FV
def obsK (K : PySem.W.Frag) : Al := ((cksN.all fun c => c K) && defsN.all fun x => x.good K, defsN.map fun x => seenA K (x.ad K))
def wantK : Al := (true, defsN.map DA.want)
def hk : PySem.W.Hook where
  α := Al
  obs := fun s => obsK (partK s.heap.get?)
  val := fun _ => wantK
  says := fun _ h => ∃ K : PySem.W.Frag, K.In h ∧ obsK K = wantK
  of := fun _ _ e => ⟨_, He.frG_in, e⟩
  keeps := fun _ _ _ ⟨K, i, c⟩ k => ⟨K, PySem.W.Frag.In.keeps i k, c⟩
def obT (s : PySem.W.SharedT) : Al := obsK (partK (HandSHeadRun.getT s))
theorem obT_eq (s : PySem.W.SharedT) : obT s = hk.obs s.abs := by
  have e : HandSHeadRun.getT s = s.abs.heap.get? := funext fun a => HandSHeadRun.getT_eq s a
  show obsK (partK _) = obsK (partK _)
  rw [e]
abbrev rowK : PySem.W.OpenRow := PySem.W.OpenLaw.row PySem.Challenge.rw_mendwide_k07_whole_rows_behind_any_row
theorem runK (w : World) : HandSHeadRun.RunEq rowK (PySem.W.view rowK.prog [103]) hk obT 30000 looseN w := by
  intro os
  kernel_rfl
end K7
end

section
set_option Elab.async false
set_option linter.all false
set_option maxRecDepth 100000
set_option maxHeartbeats 0
/-! The end. -/
namespace K7
open PySem PySem.Spec PyProof.Rows L2 SlX
theorem ckAt {K : PySem.W.Frag} (c : obsK K = wantK) (i : Nat) {b : Ck} (h : cksN[i]? = some b := by rfl) : b K = true :=
  List.all_eq_true.mp (He.ba (congrArg (fun z : Al => z.1) c)).1 b (List.mem_of_getElem? h)
theorem daAt {K : PySem.W.Frag} (c : obsK K = wantK) (i : Nat) {x : DA} (h : defsN[i]? = some x := by rfl) : ∃ fd, FunD K x.nm x.qn x.ar x.bd x.sc x.dv [] (x.ad K) fd := by
  have g := List.all_eq_true.mp (He.ba (congrArg (fun z : Al => z.1) c)).2 x (List.mem_of_getElem? h)
  have e : defsN.map (fun x => seenA K (x.ad K)) = defsN.map DA.want := congrArg (fun z : Al => z.2) c
  have e2 : (defsN.map fun x => seenA K (x.ad K))[i]? = (defsN.map DA.want)[i]? := by rw [e]
  rw [List.getElem?_map, List.getElem?_map, h] at e2
  exact DA.fn (Option.some.inj e2) g
theorem int_is {K : PySem.W.Frag} {h : Heap} {mg : Str → Option Value} (X : K.In h) (G : h.Ns mainGlobals mg) {x : Str} {i : Int} (c : (He.Fa.int x i).ok K = true) : ∃ u, mg x = some u ∧ RelV (.int i) u :=
  let ⟨t, e⟩ := He.int_ok X G c; ⟨_, e, ⟨t, rfl⟩⟩
theorem str_is {K : PySem.W.Frag} {h : Heap} {mg : Str → Option Value} (X : K.In h) (G : h.Ns mainGlobals mg) {x z : Str} (c : (He.Fa.str x z).ok K = true) : ∃ u, mg x = some u ∧ RelV (.str z) u :=
  let ⟨t, e⟩ := He.str_ok X G c; ⟨_, e, ⟨t, rfl⟩⟩
theorem txt_of {K : PySem.W.Frag} {h : Heap} {mg : Str → Option Value} (X : K.In h) (G : h.Ns mainGlobals mg) (c : obsK K = wantK) : ∃ T : Txt K mg, mg "law" = some (.ref T.a_law) := by
  obtain ⟨d_is_integer, F_is_integer⟩ := daAt c 0 (x := q_is_integer)
  obtain ⟨d_is_sign, F_is_sign⟩ := daAt c 1 (x := q_is_sign)
  obtain ⟨d_is_word, F_is_word⟩ := daAt c 2 (x := q_is_word)
  obtain ⟨d_require_word, F_require_word⟩ := daAt c 3 (x := q_require_word)
  obtain ⟨d_require_number, F_require_number⟩ := daAt c 4 (x := q_require_number)
  obtain ⟨d_is_price, F_is_price⟩ := daAt c 5 (x := q_is_price)
  obtain ⟨d_is_pair, F_is_pair⟩ := daAt c 6 (x := q_is_pair)
  obtain ⟨d_are_prices, F_are_prices⟩ := daAt c 7 (x := q_are_prices)
  obtain ⟨d_Closed_init, F_Closed_init⟩ := daAt c 8 (x := q_Closed_init)
  obtain ⟨d_closed_of, F_closed_of⟩ := daAt c 9 (x := q_closed_of)
  obtain ⟨d_Prices_init, F_Prices_init⟩ := daAt c 10 (x := q_Prices_init)
  obtain ⟨d_Prices_closed, F_Prices_closed⟩ := daAt c 11 (x := q_Prices_closed)
  obtain ⟨d_Prices_contains, F_Prices_contains⟩ := daAt c 12 (x := q_Prices_contains)
  obtain ⟨d_require_prices, F_require_prices⟩ := daAt c 13 (x := q_require_prices)
  obtain ⟨d_useful_states, F_useful_states⟩ := daAt c 14 (x := q_useful_states)
  obtain ⟨d_are_useful, F_are_useful⟩ := daAt c 15 (x := q_are_useful)
  obtain ⟨d_is_state, F_is_state⟩ := daAt c 16 (x := q_is_state)
  obtain ⟨d_are_states, F_are_states⟩ := daAt c 17 (x := q_are_states)
  obtain ⟨d_in_order, F_in_order⟩ := daAt c 18 (x := q_in_order)
  obtain ⟨d_Form_init, F_Form_init⟩ := daAt c 19 (x := q_Form_init)
  obtain ⟨d_Form_signs, F_Form_signs⟩ := daAt c 20 (x := q_Form_signs)
  obtain ⟨d_Form_len, F_Form_len⟩ := daAt c 21 (x := q_Form_len)
  obtain ⟨d_require_form, F_require_form⟩ := daAt c 22 (x := q_require_form)
  obtain ⟨d_require_small, F_require_small⟩ := daAt c 23 (x := q_require_small)
  obtain ⟨d_require_priced, F_require_priced⟩ := daAt c 24 (x := q_require_priced)
  obtain ⟨d_require_target, F_require_target⟩ := daAt c 25 (x := q_require_target)
  obtain ⟨d_lowered_ways, F_lowered_ways⟩ := daAt c 26 (x := q_lowered_ways)
  obtain ⟨d_put_ways, F_put_ways⟩ := daAt c 27 (x := q_put_ways)
  obtain ⟨d_Steps_init, F_Steps_init⟩ := daAt c 28 (x := q_Steps_init)
  obtain ⟨d_Steps_price_of_swap, F_Steps_price_of_swap⟩ := daAt c 29 (x := q_Steps_price_of_swap)
  obtain ⟨d_Steps_filled, F_Steps_filled⟩ := daAt c 30 (x := q_Steps_filled)
  obtain ⟨d_Steps_behind, F_Steps_behind⟩ := daAt c 31 (x := q_Steps_behind)
  obtain ⟨d_Steps_end, F_Steps_end⟩ := daAt c 32 (x := q_Steps_end)
  obtain ⟨d_Steps_row_of_word, F_Steps_row_of_word⟩ := daAt c 33 (x := q_Steps_row_of_word)
  obtain ⟨d_is_plain_row, F_is_plain_row⟩ := daAt c 34 (x := q_is_plain_row)
  obtain ⟨d_require_plain_row, F_require_plain_row⟩ := daAt c 35 (x := q_require_plain_row)
  obtain ⟨d_require_row, F_require_row⟩ := daAt c 36 (x := q_require_row)
  obtain ⟨d_is_row, F_is_row⟩ := daAt c 37 (x := q_is_row)
  obtain ⟨d_start_row, F_start_row⟩ := daAt c 38 (x := q_start_row)
  obtain ⟨d_row_of, F_row_of⟩ := daAt c 39 (x := q_row_of)
  obtain ⟨d_row_behind, F_row_behind⟩ := daAt c 40 (x := q_row_behind)
  obtain ⟨d_end_cost, F_end_cost⟩ := daAt c 41 (x := q_end_cost)
  obtain ⟨d_cut_row, F_cut_row⟩ := daAt c 42 (x := q_cut_row)
  obtain ⟨d_stands_above, F_stands_above⟩ := daAt c 43 (x := q_stands_above)
  obtain ⟨d_cost_in, F_cost_in⟩ := daAt c 44 (x := q_cost_in)
  obtain ⟨d_require_cost, F_require_cost⟩ := daAt c 45 (x := q_require_cost)
  obtain ⟨d_cost, F_cost⟩ := daAt c 46 (x := q_cost)
  obtain ⟨d__law_dice, F__law_dice⟩ := daAt c 47 (x := q__law_dice)
  obtain ⟨d__law_roll, F__law_roll⟩ := daAt c 48 (x := q__law_roll)
  obtain ⟨d__law_pick, F__law_pick⟩ := daAt c 49 (x := q__law_pick)
  obtain ⟨d__law_trimmed, F__law_trimmed⟩ := daAt c 50 (x := q__law_trimmed)
  obtain ⟨d__law_machine, F__law_machine⟩ := daAt c 51 (x := q__law_machine)
  obtain ⟨d__law_closed, F__law_closed⟩ := daAt c 52 (x := q__law_closed)
  obtain ⟨d__law_ways, F__law_ways⟩ := daAt c 53 (x := q__law_ways)
  obtain ⟨d__law_prices, F__law_prices⟩ := daAt c 54 (x := q__law_prices)
  obtain ⟨d__law_price, F__law_price⟩ := daAt c 55 (x := q__law_price)
  obtain ⟨d__law_end, F__law_end⟩ := daAt c 56 (x := q__law_end)
  obtain ⟨d__law_least, F__law_least⟩ := daAt c 57 (x := q__law_least)
  obtain ⟨d__law_behind, F__law_behind⟩ := daAt c 58 (x := q__law_behind)
  obtain ⟨d__law_any_row, F__law_any_row⟩ := daAt c 59 (x := q__law_any_row)
  obtain ⟨d__law_is_over, F__law_is_over⟩ := daAt c 60 (x := q__law_is_over)
  obtain ⟨d__law_word_right, F__law_word_right⟩ := daAt c 61 (x := q__law_word_right)
  obtain ⟨d__law_any_right, F__law_any_right⟩ := daAt c 62 (x := q__law_any_right)
  obtain ⟨d__law_right, F__law_right⟩ := daAt c 63 (x := q__law_right)
  obtain ⟨d_law, F_law⟩ := daAt c 64 (x := q_law)
  exact ⟨{
    a_is_integer := q_is_integer.ad K, d_is_integer := d_is_integer, F_is_integer := F_is_integer,
    g_is_integer := He.glo_ok X G (ckAt c 0),
    a_is_sign := q_is_sign.ad K, d_is_sign := d_is_sign, F_is_sign := F_is_sign,
    g_is_sign := He.glo_ok X G (ckAt c 1),
    a_is_word := q_is_word.ad K, d_is_word := d_is_word, F_is_word := F_is_word,
    g_is_word := He.glo_ok X G (ckAt c 2),
    a_require_word := q_require_word.ad K, d_require_word := d_require_word, F_require_word := F_require_word,
    g_require_word := He.glo_ok X G (ckAt c 3),
    a_require_number := q_require_number.ad K, d_require_number := d_require_number, F_require_number := F_require_number,
    g_require_number := He.glo_ok X G (ckAt c 4),
    a_is_price := q_is_price.ad K, d_is_price := d_is_price, F_is_price := F_is_price,
    g_is_price := He.glo_ok X G (ckAt c 5),
    a_is_pair := q_is_pair.ad K, d_is_pair := d_is_pair, F_is_pair := F_is_pair,
    g_is_pair := He.glo_ok X G (ckAt c 6),
    a_are_prices := q_are_prices.ad K, d_are_prices := d_are_prices, F_are_prices := F_are_prices,
    g_are_prices := He.glo_ok X G (ckAt c 7),
    a_Closed_init := q_Closed_init.ad K, d_Closed_init := d_Closed_init, F_Closed_init := F_Closed_init,
    a_closed_of := q_closed_of.ad K, d_closed_of := d_closed_of, F_closed_of := F_closed_of,
    g_closed_of := He.glo_ok X G (ckAt c 8),
    a_Prices_init := q_Prices_init.ad K, d_Prices_init := d_Prices_init, F_Prices_init := F_Prices_init,
    a_Prices_closed := q_Prices_closed.ad K, d_Prices_closed := d_Prices_closed, F_Prices_closed := F_Prices_closed,
    a_Prices_contains := q_Prices_contains.ad K, d_Prices_contains := d_Prices_contains, F_Prices_contains := F_Prices_contains,
    a_require_prices := q_require_prices.ad K, d_require_prices := d_require_prices, F_require_prices := F_require_prices,
    g_require_prices := He.glo_ok X G (ckAt c 9),
    a_useful_states := q_useful_states.ad K, d_useful_states := d_useful_states, F_useful_states := F_useful_states,
    g_useful_states := He.glo_ok X G (ckAt c 10),
    a_are_useful := q_are_useful.ad K, d_are_useful := d_are_useful, F_are_useful := F_are_useful,
    g_are_useful := He.glo_ok X G (ckAt c 11),
    a_is_state := q_is_state.ad K, d_is_state := d_is_state, F_is_state := F_is_state,
    g_is_state := He.glo_ok X G (ckAt c 12),
    a_are_states := q_are_states.ad K, d_are_states := d_are_states, F_are_states := F_are_states,
    g_are_states := He.glo_ok X G (ckAt c 13),
    a_in_order := q_in_order.ad K, d_in_order := d_in_order, F_in_order := F_in_order,
    g_in_order := He.glo_ok X G (ckAt c 14),
    a_Form_init := q_Form_init.ad K, d_Form_init := d_Form_init, F_Form_init := F_Form_init,
    a_Form_signs := q_Form_signs.ad K, d_Form_signs := d_Form_signs, F_Form_signs := F_Form_signs,
    a_Form_len := q_Form_len.ad K, d_Form_len := d_Form_len, F_Form_len := F_Form_len,
    a_require_form := q_require_form.ad K, d_require_form := d_require_form, F_require_form := F_require_form,
    g_require_form := He.glo_ok X G (ckAt c 15),
    a_require_small := q_require_small.ad K, d_require_small := d_require_small, F_require_small := F_require_small,
    g_require_small := He.glo_ok X G (ckAt c 16),
    a_require_priced := q_require_priced.ad K, d_require_priced := d_require_priced, F_require_priced := F_require_priced,
    g_require_priced := He.glo_ok X G (ckAt c 17),
    a_require_target := q_require_target.ad K, d_require_target := d_require_target, F_require_target := F_require_target,
    g_require_target := He.glo_ok X G (ckAt c 18),
    a_lowered_ways := q_lowered_ways.ad K, d_lowered_ways := d_lowered_ways, F_lowered_ways := F_lowered_ways,
    g_lowered_ways := He.glo_ok X G (ckAt c 19),
    a_put_ways := q_put_ways.ad K, d_put_ways := d_put_ways, F_put_ways := F_put_ways,
    g_put_ways := He.glo_ok X G (ckAt c 20),
    a_Steps_init := q_Steps_init.ad K, d_Steps_init := d_Steps_init, F_Steps_init := F_Steps_init,
    a_Steps_price_of_swap := q_Steps_price_of_swap.ad K, d_Steps_price_of_swap := d_Steps_price_of_swap, F_Steps_price_of_swap := F_Steps_price_of_swap,
    a_Steps_filled := q_Steps_filled.ad K, d_Steps_filled := d_Steps_filled, F_Steps_filled := F_Steps_filled,
    a_Steps_behind := q_Steps_behind.ad K, d_Steps_behind := d_Steps_behind, F_Steps_behind := F_Steps_behind,
    a_Steps_end := q_Steps_end.ad K, d_Steps_end := d_Steps_end, F_Steps_end := F_Steps_end,
    a_Steps_row_of_word := q_Steps_row_of_word.ad K, d_Steps_row_of_word := d_Steps_row_of_word, F_Steps_row_of_word := F_Steps_row_of_word,
    a_is_plain_row := q_is_plain_row.ad K, d_is_plain_row := d_is_plain_row, F_is_plain_row := F_is_plain_row,
    g_is_plain_row := He.glo_ok X G (ckAt c 21),
    a_require_plain_row := q_require_plain_row.ad K, d_require_plain_row := d_require_plain_row, F_require_plain_row := F_require_plain_row,
    g_require_plain_row := He.glo_ok X G (ckAt c 22),
    a_require_row := q_require_row.ad K, d_require_row := d_require_row, F_require_row := F_require_row,
    g_require_row := He.glo_ok X G (ckAt c 23),
    a_is_row := q_is_row.ad K, d_is_row := d_is_row, F_is_row := F_is_row,
    g_is_row := He.glo_ok X G (ckAt c 24),
    a_start_row := q_start_row.ad K, d_start_row := d_start_row, F_start_row := F_start_row,
    g_start_row := He.glo_ok X G (ckAt c 25),
    a_row_of := q_row_of.ad K, d_row_of := d_row_of, F_row_of := F_row_of,
    g_row_of := He.glo_ok X G (ckAt c 26),
    a_row_behind := q_row_behind.ad K, d_row_behind := d_row_behind, F_row_behind := F_row_behind,
    g_row_behind := He.glo_ok X G (ckAt c 27),
    a_end_cost := q_end_cost.ad K, d_end_cost := d_end_cost, F_end_cost := F_end_cost,
    g_end_cost := He.glo_ok X G (ckAt c 28),
    a_cut_row := q_cut_row.ad K, d_cut_row := d_cut_row, F_cut_row := F_cut_row,
    g_cut_row := He.glo_ok X G (ckAt c 29),
    a_stands_above := q_stands_above.ad K, d_stands_above := d_stands_above, F_stands_above := F_stands_above,
    g_stands_above := He.glo_ok X G (ckAt c 30),
    a_cost_in := q_cost_in.ad K, d_cost_in := d_cost_in, F_cost_in := F_cost_in,
    g_cost_in := He.glo_ok X G (ckAt c 31),
    a_require_cost := q_require_cost.ad K, d_require_cost := d_require_cost, F_require_cost := F_require_cost,
    g_require_cost := He.glo_ok X G (ckAt c 32),
    a_cost := q_cost.ad K, d_cost := d_cost, F_cost := F_cost,
    g_cost := He.glo_ok X G (ckAt c 33),
    a__law_dice := q__law_dice.ad K, d__law_dice := d__law_dice, F__law_dice := F__law_dice,
    g__law_dice := He.glo_ok X G (ckAt c 34),
    a__law_roll := q__law_roll.ad K, d__law_roll := d__law_roll, F__law_roll := F__law_roll,
    g__law_roll := He.glo_ok X G (ckAt c 35),
    a__law_pick := q__law_pick.ad K, d__law_pick := d__law_pick, F__law_pick := F__law_pick,
    g__law_pick := He.glo_ok X G (ckAt c 36),
    a__law_trimmed := q__law_trimmed.ad K, d__law_trimmed := d__law_trimmed, F__law_trimmed := F__law_trimmed,
    g__law_trimmed := He.glo_ok X G (ckAt c 37),
    a__law_machine := q__law_machine.ad K, d__law_machine := d__law_machine, F__law_machine := F__law_machine,
    g__law_machine := He.glo_ok X G (ckAt c 38),
    a__law_closed := q__law_closed.ad K, d__law_closed := d__law_closed, F__law_closed := F__law_closed,
    g__law_closed := He.glo_ok X G (ckAt c 39),
    a__law_ways := q__law_ways.ad K, d__law_ways := d__law_ways, F__law_ways := F__law_ways,
    g__law_ways := He.glo_ok X G (ckAt c 40),
    a__law_prices := q__law_prices.ad K, d__law_prices := d__law_prices, F__law_prices := F__law_prices,
    g__law_prices := He.glo_ok X G (ckAt c 41),
    a__law_price := q__law_price.ad K, d__law_price := d__law_price, F__law_price := F__law_price,
    g__law_price := He.glo_ok X G (ckAt c 42),
    a__law_end := q__law_end.ad K, d__law_end := d__law_end, F__law_end := F__law_end,
    g__law_end := He.glo_ok X G (ckAt c 43),
    a__law_least := q__law_least.ad K, d__law_least := d__law_least, F__law_least := F__law_least,
    g__law_least := He.glo_ok X G (ckAt c 44),
    a__law_behind := q__law_behind.ad K, d__law_behind := d__law_behind, F__law_behind := F__law_behind,
    g__law_behind := He.glo_ok X G (ckAt c 45),
    a__law_any_row := q__law_any_row.ad K, d__law_any_row := d__law_any_row, F__law_any_row := F__law_any_row,
    g__law_any_row := He.glo_ok X G (ckAt c 46),
    a__law_is_over := q__law_is_over.ad K, d__law_is_over := d__law_is_over, F__law_is_over := F__law_is_over,
    g__law_is_over := He.glo_ok X G (ckAt c 47),
    a__law_word_right := q__law_word_right.ad K, d__law_word_right := d__law_word_right, F__law_word_right := F__law_word_right,
    g__law_word_right := He.glo_ok X G (ckAt c 48),
    a__law_any_right := q__law_any_right.ad K, d__law_any_right := d__law_any_right, F__law_any_right := F__law_any_right,
    g__law_any_right := He.glo_ok X G (ckAt c 49),
    a__law_right := q__law_right.ad K, d__law_right := d__law_right, F__law_right := F__law_right,
    g__law_right := He.glo_ok X G (ckAt c 50),
    a_law := q_law.ad K, d_law := d_law, F_law := F_law,
    g_law := He.glo_ok X G (ckAt c 51),
    C_Closed := ga K "Closed", g_Closed := He.glo_ok X G (ckAt c 52), S_Closed := clsB_ok (ckAt c 53), mk_Closed := He.mkr_ok (ckAt c 54),
    p_Closed_own_out := ma K (ga K "Closed") "own_out", sl_Closed_own_out := slotB_ok (ckAt c 55) (by decide),
    p_Closed_own_put := ma K (ga K "Closed") "own_put", sl_Closed_own_put := slotB_ok (ckAt c 56) (by decide),
    p_Closed_own_swap := ma K (ga K "Closed") "own_swap", sl_Closed_own_swap := slotB_ok (ckAt c 57) (by decide),
    C_Prices := ga K "Prices", g_Prices := He.glo_ok X G (ckAt c 58), S_Prices := clsB_ok (ckAt c 59), mk_Prices := He.mkr_ok (ckAt c 60),
    p_Prices_own_out := ma K (ga K "Prices") "own_out", sl_Prices_own_out := slotB_ok (ckAt c 61) (by decide),
    p_Prices_own_put := ma K (ga K "Prices") "own_put", sl_Prices_own_put := slotB_ok (ckAt c 62) (by decide),
    p_Prices_own_swap := ma K (ga K "Prices") "own_swap", sl_Prices_own_swap := slotB_ok (ckAt c 63) (by decide),
    C_Form := ga K "Form", g_Form := He.glo_ok X G (ckAt c 64), S_Form := clsB_ok (ckAt c 65), mk_Form := He.mkr_ok (ckAt c 66),
    p_Form_own_lasts := ma K (ga K "Form") "own_lasts", sl_Form_own_lasts := slotB_ok (ckAt c 67) (by decide),
    p_Form_own_moves := ma K (ga K "Form") "own_moves", sl_Form_own_moves := slotB_ok (ckAt c 68) (by decide),
    C_Steps := ga K "Steps", g_Steps := He.glo_ok X G (ckAt c 69), S_Steps := clsB_ok (ckAt c 70), mk_Steps := He.mkr_ok (ckAt c 71),
    p_Steps_own_closed := ma K (ga K "Steps") "own_closed", sl_Steps_own_closed := slotB_ok (ckAt c 72) (by decide),
    p_Steps_own_lasts := ma K (ga K "Steps") "own_lasts", sl_Steps_own_lasts := slotB_ok (ckAt c 73) (by decide),
    p_Steps_own_moves := ma K (ga K "Steps") "own_moves", sl_Steps_own_moves := slotB_ok (ckAt c 74) (by decide),
    p_Steps_own_start := ma K (ga K "Steps") "own_start", sl_Steps_own_start := slotB_ok (ckAt c 75) (by decide),
    p_Steps_own_ways := ma K (ga K "Steps") "own_ways", sl_Steps_own_ways := slotB_ok (ckAt c 76) (by decide),
    I_Prices := isiB_ok (ckAt c 77), k_Prices := if_pos (beq_self_eq_true _),
    I_Form := isiB_ok (ckAt c 78), k_Form := if_pos (beq_self_eq_true _),
    me_Prices_closed := He.meth_ok (ckAt c 79),
    me_Prices_contains := He.meth_ok (ckAt c 80),
    me_Form_len := He.meth_ok (ckAt c 81),
    me_Steps_price_of_swap := He.meth_ok (ckAt c 82),
    me_Steps_filled := He.meth_ok (ckAt c 83),
    me_Steps_behind := He.meth_ok (ckAt c 84),
    me_Steps_end := He.meth_ok (ckAt c 85),
    me_Steps_row_of_word := He.meth_ok (ckAt c 86),
    p_signs := ma K (ga K "Form") "signs", pr_at := (propB_ok (ckAt c 87)).1, pr_get := (propB_ok (ckAt c 87)).2.1, pr_tk := (propB_ok (ckAt c 87)).2.2.1, pr_rc := (propB_ok (ckAt c 87)).2.2.2,
    c_SIGNS := str_is X G (ckAt c 88),
    c_MAX_WORD := int_is X G (ckAt c 89),
    c_GREATEST := int_is X G (ckAt c 90),
    c_MAX_PRICE := int_is X G (ckAt c 91),
    c_MAX_SWAP := int_is X G (ckAt c 92),
    c_MAX_WRITTEN := int_is X G (ckAt c 93),
    c_MAX_SIDE := int_is X G (ckAt c 94),
    c_BEYOND := int_is X G (ckAt c 95),
    n_len := He.free_ok X G (ckAt c 96),
    n_isinstance := He.free_ok X G (ckAt c 97),
    n_str := He.free_ok X G (ckAt c 98),
    n_int := He.free_ok X G (ckAt c 99),
    n_bool := He.free_ok X G (ckAt c 100),
    n_tuple := He.free_ok X G (ckAt c 101),
    n_dict := He.free_ok X G (ckAt c 102),
    n_list := He.free_ok X G (ckAt c 103),
    n_all := He.free_ok X G (ckAt c 104),
    n_any := He.free_ok X G (ckAt c 105),
    n_sum := He.free_ok X G (ckAt c 106),
    n_sorted := He.free_ok X G (ckAt c 107),
    n_set := He.free_ok X G (ckAt c 108),
    n_enumerate := He.free_ok X G (ckAt c 109),
    n_range := He.free_ok X G (ckAt c 110),
    n_zip := He.free_ok X G (ckAt c 111),
    n_min := He.free_ok X G (ckAt c 112),
    n_max := He.free_ok X G (ckAt c 113),
    n_abs := He.free_ok X G (ckAt c 114) }, He.glo_ok X G (ckAt c 51)⟩
end K7
open PySem PySem.W PySem.Calls PyProof.Rows
theorem PySem.Challenge.cw_mendwide_k07_whole_rows_behind_any_row_holds : PySem.Challenge.rw_mendwide_k07_whole_rows_behind_any_row.Holds := by
  w_on; o_law
  refine HandSHeadRun.head_any (r := K7.rowK) (q := view K7.rowK.prog [103]) (H := K7.hk) (ob := K7.obT) (M := 30000) (loose := K7.looseN) (d := HandSHeadRun.topDef K7.rowK.prog 103) (kwd := []) K7.obT_eq
    (by kernel_rfl) (fun s => by kernel_rfl) K7.runK (by kernel_rfl) (by kernel_rfl) (by kernel_rfl) (by rfl) (by first | assumption | decide +kernel) (by decide +kernel) ⟨rfl, rfl, rfl, rfl, rfl, by decide +kernel⟩ ?hw ?hc
  case hw => w_witness2
  case hc =>
    refine L2.walk_ofE (l := PySem.Challenge.rw_mendwide_k07_whole_rows_behind_any_row) (n := 63) (k := 11) (x := "script") (CX := L2.CX0) rfl (by decide) (by kernel_rfl) ⟨rfl, by decide, by decide⟩ ?F (fun _ _ _ _ z => z)
    intro w mg fa h Y G hmg0
    obtain ⟨K, KX, c⟩ := Y
    have hmg : mg ("law" : PySem.Str) = some (.ref fa) := by
      have e : (HandSHeadRun.topDef K7.rowK.prog 103).name = ("law" : PySem.Str) := by kernel_rfl
      rw [← e]
      exact hmg0
    obtain ⟨T, eT⟩ := K7.txt_of KX G c
    have e := hmg.symm.trans eT
    injection e with e
    injection e with e
    subst e
    refine ⟨K, T.d_law, K7.sp_law T, KX, fun s v => (L2.FunD.bindsA (ps := ["script"]) T.F_law fun _ _ _ _ _ _ us hl => match us, hl with | [_], _ => rfl) s [v] rfl, fun H a ns hl _ hS => ⟨a, ns, rfl, hS, by omega, fun _ _ => rfl⟩, fun base _ _ => K7.ok_law T⟩
end
