import PyProof.Rows.All
import Wide.All
import OpenK.AllK
import Wide.FinOn
import HandS.ForMost
import HandS.ForExc
import HandS.Conv
import HandS.Sort
import HandS.SortInts
import HandS.TupSets
import HandS.IsInst
import HandS.Style
import HandS.Rev
import HandS.Defaults
import HandS.Head0
import HandS.Head1
import HandS.Head2
import HandS.HeadEnd
import HandS.HeadHook1
import HandS.HeadHook2
import KE.KEqSeq
import HandS.RevTup
import KE.KDictList
import PySem.Challenge.RW_chainturn_k58_whole_rounds
/-! Plain mathematics: cyclic lists, a street walk, its threefold ring, turned rounds. Core Lean alone. -/
set_option linter.all false
namespace Hm

/-! ### chains -/
def Ch {α : Type} (R : α → α → Prop) : α → List α → Prop
  | _, [] => True
  | a, b :: l => R a b ∧ Ch R b l
def lastOf {α : Type} : α → List α → α
  | a, [] => a
  | _, b :: l => lastOf b l
theorem lastOf_app {α : Type} : ∀ (l1 l2 : List α) (a : α), lastOf a (l1 ++ l2) = lastOf (lastOf a l1) l2
  | [], _, _ => rfl
  | b :: l, l2, _ => lastOf_app l l2 b
theorem ch_app {α : Type} {R : α → α → Prop} : ∀ (l1 l2 : List α) (a : α), Ch R a l1 → Ch R (lastOf a l1) l2 → Ch R a (l1 ++ l2)
  | [], _, _, _, h => h
  | b :: l, l2, _, h1, h2 => ⟨h1.1, ch_app l l2 b h1.2 h2⟩
theorem ch_get {α : Type} {R : α → α → Prop} : ∀ (l : List α) (a : α) (k : Nat) (x y : α), Ch R a l → (a :: l)[k]? = some x → l[k]? = some y → R x y
  | [], _, _, _, _, _, _, h => by simp at h
  | b :: l, a, 0, x, y, c, h1, h2 => by
    simp at h1 h2
    subst h1 h2
    exact c.1
  | b :: l, a, k + 1, x, y, c, h1, h2 => by
    simp at h1 h2
    exact ch_get l b k x y c.2 h1 h2
theorem last_get {α : Type} : ∀ (l : List α) (a : α), (a :: l)[l.length]? = some (lastOf a l)
  | [], a => rfl
  | b :: l, a => by
    rw [List.length_cons, List.getElem?_cons_succ]
    exact last_get l b

/-- the place ahead, the last one ahead of the first -/
def prevIx (n k : Nat) : Nat := if k = 0 then n - 1 else k - 1
/-- each step of a list, from its last to its first too -/
def Cyc {α : Type} (R : α → α → Prop) (l : List α) : Prop := ∀ (k : Nat) (x y : α), l[prevIx l.length k]? = some x → l[k]? = some y → R x y
theorem cyc_of_ch {α : Type} {R : α → α → Prop} {a : α} {l : List α} (h : Ch R a l) (c : R (lastOf a l) a) : Cyc R (a :: l) := by
  intro k x y hx hy
  cases k with
  | zero =>
    have e : prevIx (a :: l).length 0 = l.length := by simp [prevIx]
    rw [e, last_get] at hx
    simp at hx hy
    subst hx hy
    exact c
  | succ k =>
    have e : prevIx (a :: l).length (k + 1) = k := by simp [prevIx]
    rw [e] at hx
    rw [List.getElem?_cons_succ] at hy
    exact ch_get l a k x y h hx hy

/-- a chain along a mapped range -/
theorem ch_range {α : Type} {R : α → α → Prop} (f : Nat → α) : ∀ L, (∀ i, i < L → R (f i) (f (i + 1))) → Ch R (f 0) ((List.range L).map fun i => f (i + 1)) ∧ lastOf (f 0) ((List.range L).map fun i => f (i + 1)) = f L
  | 0, _ => ⟨trivial, rfl⟩
  | L + 1, h => by
    obtain ⟨i1, i2⟩ := ch_range f L fun i hi => h i (Nat.lt_succ_of_lt hi)
    rw [List.range_succ, List.map_append]
    refine ⟨ch_app _ _ _ i1 ?_, ?_⟩
    · rw [i2]
      exact ⟨h L (Nat.lt_succ_self L), trivial⟩
    · rw [lastOf_app]
      rfl
theorem map_range_cons {α : Type} (f : Nat → α) (L : Nat) : (List.range (L + 1)).map f = f 0 :: (List.range L).map fun i => f (i + 1) := by
  rw [List.range_succ_eq_map, List.map_cons, List.map_map]
  rfl

/-- towns with what is put in behind some of them -/
def ins (met : Nat → Option Nat) (t : Nat) : List Nat := t :: (met t).toList
theorem ch_ins {R : Nat → Nat → Prop} {met : Nat → Option Nat} : ∀ (l : List Nat) (a t : Nat), R a t →
    Ch (fun x y => (met x = none → R x y) ∧ ∀ q, met x = some q → R x q ∧ R q y) t l → met (lastOf t l) = none →
    Ch R a ((t :: l).flatMap (ins met)) ∧ lastOf a ((t :: l).flatMap (ins met)) = lastOf t l
  | [], a, t, h, _, hn => by
    have e : ([t] : List Nat).flatMap (ins met) = [t] := by
      have hn' : met t = none := hn
      simp [ins, hn']
    rw [e]
    exact ⟨⟨h, trivial⟩, rfl⟩
  | b :: l, a, t, h, c, hn => by
    obtain ⟨⟨c1, c2⟩, c3⟩ := c
    cases hm : met t with
    | none =>
      obtain ⟨i1, i2⟩ := ch_ins l t b (c1 hm) c3 hn
      have e : (t :: b :: l).flatMap (ins met) = t :: (b :: l).flatMap (ins met) := by
        rw [List.flatMap_cons]
        simp [ins, hm]
      rw [e]
      exact ⟨⟨h, i1⟩, i2⟩
    | some q =>
      obtain ⟨d1, d2⟩ := c2 q hm
      obtain ⟨i1, i2⟩ := ch_ins l q b d2 c3 hn
      have e : (t :: b :: l).flatMap (ins met) = t :: q :: (b :: l).flatMap (ins met) := by
        rw [List.flatMap_cons]
        simp [ins, hm]
      rw [e]
      exact ⟨⟨h, d1, i1⟩, i2⟩

/-- blocks in a row -/
theorem ch_blocks {R : Nat → Nat → Prop} (g : Nat → Nat) (c : Nat → List Nat) : ∀ n, (∀ i, i < n + 1 → Ch R (g i) (c i)) → (∀ i, i < n → R (lastOf (g i) (c i)) (g (i + 1))) →
    ∃ tl, (List.range (n + 1)).flatMap (fun i => g i :: c i) = g 0 :: tl ∧ Ch R (g 0) tl ∧ lastOf (g 0) tl = lastOf (g n) (c n)
  | 0, h, _ => ⟨c 0, by simp, h 0 (by omega), rfl⟩
  | n + 1, h, s => by
    obtain ⟨tl, e, t1, t2⟩ := ch_blocks g c n (fun i hi => h i (by omega)) fun i hi => s i (by omega)
    refine ⟨tl ++ g (n + 1) :: c (n + 1), ?_, ?_, ?_⟩
    · rw [List.range_succ, List.flatMap_append, e]
      simp
    · refine ch_app _ _ _ t1 ?_
      rw [t2]
      exact ⟨s n (by omega), h (n + 1) (by omega)⟩
    · rw [lastOf_app]
      rfl

/-! ### the walk -/
section
variable (n m : Nat) (tau : Nat → Bool) (kap : Nat → Nat)
abbrev gateN (k : Nat) : Nat := k * (3 * m + 2)
abbrev strN (k t : Nat) : Nat := k * (3 * m + 2) + 1 + t
/-- the town ahead of, behind a row's town -/
def aheadN (j : Nat) : Nat := strN m (kap j) (if tau (kap j) = true then 3 * j + 1 else 3 * j + 2)
def behindN (j : Nat) : Nat := strN m (kap j) (if tau (kap j) = true then 3 * j + 2 else 3 * j + 1)
/-- what stands behind a town by the first i rows -/
def metN : Nat → Nat → Option Nat
  | 0, _ => none
  | i + 1, p => if p = aheadN m tau kap i then some (n * (3 * m + 2) + i) else metN i p
/-- the i-th town of a name's street, as it is gone -/
def goN (k i : Nat) : Nat := strN m k (if tau k = true then i else 3 * m - i)
def streetN (k : Nat) : List Nat := (List.range (3 * m + 1)).map (goN m tau k)
def blockN (k : Nat) : List Nat := gateN m k :: (streetN m tau k).flatMap (ins (metN n m tau kap m))
def walkN : List Nat := (List.range n).flatMap (blockN n m tau kap)
/-- the ways that are there -/
structure Ways (R : Nat → Nat → Prop) : Prop where
  g0 : ∀ k, k < n → R (gateN m k) (strN m k 0)
  g1 : ∀ k, k < n → R (gateN m k) (strN m k (3 * m))
  e0 : ∀ k, k < n → R (strN m k 0) (gateN m ((k + 1) % n))
  e1 : ∀ k, k < n → R (strN m k (3 * m)) (gateN m ((k + 1) % n))
  up : ∀ k t, k < n → t < 3 * m → R (strN m k t) (strN m k (t + 1))
  dn : ∀ k t, k < n → t < 3 * m → R (strN m k (t + 1)) (strN m k t)
  ou : ∀ j, j < m → R (aheadN m tau kap j) (n * (3 * m + 2) + j)
  ba : ∀ j, j < m → R (n * (3 * m + 2) + j) (behindN m tau kap j)
end
section
variable {n m : Nat} {tau : Nat → Bool} {kap : Nat → Nat}
theorem metN_some : ∀ {i p q : Nat}, metN n m tau kap i p = some q → ∃ j, j < i ∧ p = aheadN m tau kap j ∧ q = n * (3 * m + 2) + j
  | 0, _, _, h => by cases h
  | i + 1, p, q, h => by
    unfold metN at h
    by_cases e : p = aheadN m tau kap i
    · rw [if_pos e] at h
      exact ⟨i, Nat.lt_succ_self i, e, (Option.some.inj h).symm⟩
    · rw [if_neg e] at h
      obtain ⟨j, h1, h2⟩ := metN_some h
      exact ⟨j, Nat.lt_succ_of_lt h1, h2⟩
/-- a street's town tells its name and its place -/
theorem str_inj {k k' t t' : Nat} (ht : t ≤ 3 * m) (ht' : t' ≤ 3 * m) (h : strN m k t = strN m k' t') : k = k' ∧ t = t' := by
  have h' : k * (3 * m + 2) + (1 + t) = k' * (3 * m + 2) + (1 + t') := by
    simp only [strN] at h
    omega
  have d1 : (k * (3 * m + 2) + (1 + t)) / (3 * m + 2) = k := by
    rw [Nat.mul_comm, Nat.mul_add_div (by omega), Nat.div_eq_of_lt (by omega)]
    omega
  have d2 : (k' * (3 * m + 2) + (1 + t')) / (3 * m + 2) = k' := by
    rw [Nat.mul_comm, Nat.mul_add_div (by omega), Nat.div_eq_of_lt (by omega)]
    omega
  have ek : k = k' := by rw [← d1, ← d2, h']
  subst ek
  exact ⟨rfl, by omega⟩
theorem ahead_le {j : Nat} (hj : j < m) : (if tau (kap j) = true then 3 * j + 1 else 3 * j + 2) ≤ 3 * m := by
  split <;> omega
theorem ahead_inj {j j' : Nat} (hj : j < m) (hj' : j' < m) (h : aheadN m tau kap j = aheadN m tau kap j') : j = j' := by
  obtain ⟨e1, e2⟩ := str_inj (ahead_le hj) (ahead_le hj') h
  rw [e1] at e2
  split at e2 <;> omega
theorem metN_at : ∀ {i j : Nat}, j < i → i ≤ m → metN n m tau kap i (aheadN m tau kap j) = some (n * (3 * m + 2) + j)
  | 0, _, h, _ => by omega
  | i + 1, j, h, hi => by
    unfold metN
    by_cases e : j = i
    · subst e
      rw [if_pos rfl]
    · have ne : aheadN m tau kap j ≠ aheadN m tau kap i := fun z => e (ahead_inj (by omega) (by omega) z)
      rw [if_neg ne]
      exact metN_at (by omega) (by omega)
theorem goN_le {k i : Nat} : (if tau k = true then i else 3 * m - i) ≤ 3 * m ∨ 3 * m < i := by
  split <;> omega

/-! the chain of a block -/
theorem block_ch {R : Nat → Nat → Prop} (W : Ways n m tau kap R) {k : Nat} (hk : k < n) :
    Ch R (gateN m k) ((streetN m tau k).flatMap (ins (metN n m tau kap m))) ∧ R (lastOf (gateN m k) ((streetN m tau k).flatMap (ins (metN n m tau kap m)))) (gateN m ((k + 1) % n)) := by
  have hs : streetN m tau k = goN m tau k 0 :: (List.range (3 * m)).map fun i => goN m tau k (i + 1) := map_range_cons _ _
  have first : R (gateN m k) (goN m tau k 0) := by
    unfold goN
    split
    · exact W.g0 k hk
    · exact W.g1 k hk
  have step : ∀ i, i < 3 * m → (metN n m tau kap m (goN m tau k i) = none → R (goN m tau k i) (goN m tau k (i + 1))) ∧
      ∀ q, metN n m tau kap m (goN m tau k i) = some q → R (goN m tau k i) q ∧ R q (goN m tau k (i + 1)) := by
    intro i hi
    refine ⟨fun _ => ?_, fun q hq => ?_⟩
    · unfold goN
      split
      · exact W.up k i hk hi
      · have e : 3 * m - i = (3 * m - (i + 1)) + 1 := by omega
        rw [e]
        exact W.dn k _ hk (by omega)
    · obtain ⟨j, hj, e1, e2⟩ := metN_some hq
      have e1' : strN m k (if tau k = true then i else 3 * m - i) = strN m (kap j) (if tau (kap j) = true then 3 * j + 1 else 3 * j + 2) := e1
      obtain ⟨ek, et⟩ := str_inj (by split <;> omega) (ahead_le hj) e1'
      rw [← ek] at et
      have a1 : R (goN m tau k i) q := by
        rw [e1, e2]
        exact W.ou j hj
      refine ⟨a1, ?_⟩
      have b : behindN m tau kap j = goN m tau k (i + 1) := by
        unfold behindN goN
        rw [← ek]
        by_cases ht : tau k = true
        · rw [if_pos ht, if_pos ht] at et
          rw [if_pos ht, if_pos ht]
          congr 1
          omega
        · rw [if_neg ht, if_neg ht] at et
          rw [if_neg ht, if_neg ht]
          congr 1
          omega
      rw [e2, ← b]
      exact W.ba j hj
  obtain ⟨c1, c2⟩ := ch_range (R := fun x y => (metN n m tau kap m x = none → R x y) ∧ ∀ q, metN n m tau kap m x = some q → R x q ∧ R q y) (goN m tau k) (3 * m) step
  have hlast : metN n m tau kap m (goN m tau k (3 * m)) = none := by
    cases hq : metN n m tau kap m (goN m tau k (3 * m)) with
    | none => rfl
    | some q =>
      exfalso
      obtain ⟨j, hj, e1, _⟩ := metN_some hq
      have e1' : strN m k (if tau k = true then 3 * m else 3 * m - 3 * m) = strN m (kap j) (if tau (kap j) = true then 3 * j + 1 else 3 * j + 2) := e1
      obtain ⟨ek, et⟩ := str_inj (by split <;> omega) (ahead_le hj) e1'
      rw [← ek] at et
      split at et <;> omega
  obtain ⟨d1, d2⟩ := ch_ins (R := R) (met := metN n m tau kap m) ((List.range (3 * m)).map fun i => goN m tau k (i + 1)) (gateN m k) (goN m tau k 0) first c1 (by rw [c2]; exact hlast)
  rw [hs]
  refine ⟨d1, ?_⟩
  rw [d2, c2]
  unfold goN
  split
  · exact W.e1 k hk
  · rw [Nat.sub_self]
    exact W.e0 k hk
theorem walk_cyc {R : Nat → Nat → Prop} (W : Ways n m tau kap R) : Cyc R (walkN n m tau kap) := by
  cases n with
  | zero =>
    intro k x y _ hy
    simp [walkN] at hy
  | succ n =>
    obtain ⟨tl, e, t1, t2⟩ := ch_blocks (R := R) (gateN m) (fun k => (streetN m tau k).flatMap (ins (metN (n + 1) m tau kap m))) n (fun i hi => (block_ch W hi).1) fun i hi => by
      have h := (block_ch W (show i < n + 1 by omega)).2
      rw [Nat.mod_eq_of_lt (show i + 1 < n + 1 by omega)] at h
      exact h
    have e' : walkN (n + 1) m tau kap = gateN m 0 :: tl := e
    rw [e']
    refine cyc_of_ch t1 ?_
    rw [t2]
    have h := (block_ch W (show n < n + 1 by omega)).2
    rw [Nat.mod_self] at h
    exact h
/-- behind its gate a name's street begins -/
theorem walk_gate {k : Nat} (hk : k < n) : ∃ i, (walkN n m tau kap)[i]? = some (gateN m k) ∧ (walkN n m tau kap)[i + 1]? = some (goN m tau k 0) := by
  have hs : streetN m tau k = goN m tau k 0 :: (List.range (3 * m)).map fun i => goN m tau k (i + 1) := map_range_cons _ _
  obtain ⟨c, hb⟩ : ∃ c, blockN n m tau kap k = gateN m k :: goN m tau k 0 :: c := by
    unfold blockN
    rw [hs, List.flatMap_cons]
    exact ⟨_, rfl⟩
  have hr : List.range n = List.range k ++ k :: (List.range' (k + 1) (n - (k + 1))) := by
    rw [List.range_eq_range', List.range_eq_range']
    have e : List.range' k (n - k) = k :: List.range' (k + 1) (n - (k + 1)) := by
      rw [show n - k = (n - (k + 1)) + 1 by omega]
      rfl
    rw [← e]
    have e2 := @List.range'_append_1 0 k (n - k)
    rw [Nat.zero_add] at e2
    rw [e2]
    congr 1
    omega
  have e : walkN n m tau kap = (List.range k).flatMap (blockN n m tau kap) ++ (gateN m k :: goN m tau k 0 :: c ++ (List.range' (k + 1) (n - (k + 1))).flatMap (blockN n m tau kap)) := by
    unfold walkN
    rw [hr, List.flatMap_append, List.flatMap_cons, hb]
  rw [e]
  refine ⟨((List.range k).flatMap (blockN n m tau kap)).length, ?_, ?_⟩
  · rw [List.getElem?_append_right (Nat.le_refl _), Nat.sub_self]
    rfl
  · rw [List.getElem?_append_right (by omega), Nat.add_sub_cancel_left]
    rfl
end
end Hm
set_option linter.all false
namespace Hm
/-! ### the walk has each town once -/
section
variable {n m : Nat} {tau : Nat → Bool} {kap : Nat → Nat}
theorem aheadN_lt (hk : ∀ j, j < m → kap j < n) {j : Nat} (hj : j < m) : aheadN m tau kap j < n * (3 * m + 2) := by
  have h := hk j hj
  have h2 : (if tau (kap j) = true then 3 * j + 1 else 3 * j + 2) ≤ 3 * m := ahead_le hj
  have h3 : (kap j + 1) * (3 * m + 2) ≤ n * (3 * m + 2) := Nat.mul_le_mul_right _ h
  rw [Nat.add_mul] at h3
  unfold aheadN strN
  omega
theorem strN_lt {k t : Nat} (hk : k < n) (ht : t ≤ 3 * m) : strN m k t < n * (3 * m + 2) := by
  have h3 : (k + 1) * (3 * m + 2) ≤ n * (3 * m + 2) := Nat.mul_le_mul_right _ hk
  rw [Nat.add_mul] at h3
  unfold strN
  omega
theorem gateN_lt {k : Nat} (hk : k < n) : gateN m k < n * (3 * m + 2) := by
  have h := strN_lt (m := m) hk (Nat.zero_le _)
  unfold strN at h
  unfold gateN
  omega
theorem goN_str {k i : Nat} (hi : i ≤ 3 * m) : ∃ t, t ≤ 3 * m ∧ goN m tau k i = strN m k t := ⟨_, by split <;> omega, rfl⟩
theorem goN_inj {k i j : Nat} (hi : i ≤ 3 * m) (hj : j ≤ 3 * m) (h : goN m tau k i = goN m tau k j) : i = j := by
  obtain ⟨_, e⟩ := str_inj (k := k) (k' := k) (t := if tau k = true then i else 3 * m - i) (t' := if tau k = true then j else 3 * m - j) (by split <;> omega) (by split <;> omega) h
  split at e <;> omega
theorem mem_street {k x : Nat} : x ∈ streetN m tau k ↔ ∃ t, t ≤ 3 * m ∧ x = strN m k t := by
  unfold streetN
  rw [List.mem_map]
  constructor
  · rintro ⟨i, hi, rfl⟩
    rw [List.mem_range] at hi
    exact goN_str (by omega)
  · rintro ⟨t, ht, rfl⟩
    refine ⟨if tau k = true then t else 3 * m - t, List.mem_range.mpr (by split <;> omega), ?_⟩
    unfold goN
    by_cases h : tau k = true
    · rw [if_pos h, if_pos h]
    · rw [if_neg h, if_neg h]
      congr 1
      omega
/-- whose block, which place -/
def ownN (n m : Nat) (kap : Nat → Nat) (x : Nat) : Nat := if x < n * (3 * m + 2) then x / (3 * m + 2) else kap (x - n * (3 * m + 2))
def ancN (n m : Nat) (tau : Nat → Bool) (kap : Nat → Nat) (x : Nat) : Nat := if x < n * (3 * m + 2) then x else aheadN m tau kap (x - n * (3 * m + 2))
theorem mem_block (hk : ∀ j, j < m → kap j < n) {k x : Nat} (h : k < n) (hx : x ∈ blockN n m tau kap k) : x = gateN m k ∨ (∃ t, t ≤ 3 * m ∧ x = strN m k t) ∨ ∃ j, j < m ∧ kap j = k ∧ x = n * (3 * m + 2) + j := by
  unfold blockN at hx
  rcases List.mem_cons.mp hx with e | hx
  · exact .inl e
  · obtain ⟨t, ht, hx⟩ := List.mem_flatMap.mp hx
    obtain ⟨a, ha, e⟩ := mem_street.mp ht
    rcases List.mem_cons.mp hx with e2 | hx
    · exact .inr (.inl ⟨a, ha, e2.trans e⟩)
    · cases hm : metN n m tau kap m t with
      | none =>
        rw [hm] at hx
        simp at hx
      | some q =>
        rw [hm] at hx
        have e3 : x = q := by simpa using hx
        obtain ⟨j, hj, e4, e5⟩ := metN_some hm
        rw [e] at e4
        obtain ⟨e6, _⟩ := str_inj ha (ahead_le hj) e4
        exact .inr (.inr ⟨j, hj, e6.symm, e3.trans e5⟩)
theorem own_block (hk : ∀ j, j < m → kap j < n) {k x : Nat} (h : k < n) (hx : x ∈ blockN n m tau kap k) : ownN n m kap x = k := by
  unfold ownN
  rcases mem_block hk h hx with e | ⟨t, ht, e⟩ | ⟨j, hj, e1, e2⟩
  · rw [e, if_pos (gateN_lt h)]
    unfold gateN
    exact Nat.mul_div_cancel _ (by omega)
  · rw [e, if_pos (strN_lt h ht)]
    unfold strN
    rw [Nat.add_assoc, Nat.mul_comm, Nat.mul_add_div (by omega), Nat.div_eq_of_lt (by omega)]
    omega
  · rw [e2, if_neg (by omega), Nat.add_sub_cancel_left]
    exact e1
theorem anc_ins (hk : ∀ j, j < m → kap j < n) {k t x : Nat} (h : k < n) (ht : t ∈ streetN m tau k) (hx : x ∈ ins (metN n m tau kap m) t) : ancN n m tau kap x = t := by
  obtain ⟨a, ha, e⟩ := mem_street.mp ht
  unfold ancN
  rcases List.mem_cons.mp hx with e2 | hx
  · rw [e2, e, if_pos (strN_lt h ha)]
  · cases hm : metN n m tau kap m t with
    | none =>
      rw [hm] at hx
      simp at hx
    | some q =>
      rw [hm] at hx
      have e3 : x = q := by simpa using hx
      obtain ⟨j, hj, e4, e5⟩ := metN_some hm
      rw [e3, e5, if_neg (by omega), Nat.add_sub_cancel_left, e4]
theorem mem_walk (hk : ∀ j, j < m → kap j < n) {x : Nat} : x ∈ walkN n m tau kap ↔ x < n * (3 * m + 2) + m := by
  unfold walkN
  rw [List.mem_flatMap]
  constructor
  · rintro ⟨k, hkr, hx⟩
    have h := List.mem_range.mp hkr
    rcases mem_block hk h hx with e | ⟨t, ht, e⟩ | ⟨j, hj, e1, e2⟩
    · have := gateN_lt (m := m) h
      omega
    · have := strN_lt (m := m) h ht
      omega
    · omega
  · intro hx
    by_cases c : x < n * (3 * m + 2)
    · have hd : x / (3 * m + 2) < n := Nat.div_lt_of_lt_mul (by rw [Nat.mul_comm]; exact c)
      refine ⟨x / (3 * m + 2), List.mem_range.mpr hd, ?_⟩
      have e := Nat.div_add_mod x (3 * m + 2)
      have hl := Nat.mod_lt x (show 0 < 3 * m + 2 by omega)
      rw [Nat.mul_comm] at e
      generalize x / (3 * m + 2) = k at *
      generalize x % (3 * m + 2) = r at *
      unfold blockN
      by_cases c2 : r = 0
      · refine List.mem_cons.mpr (.inl ?_)
        unfold gateN
        omega
      · refine List.mem_cons_of_mem _ (List.mem_flatMap.mpr ⟨strN m k (r - 1), mem_street.mpr ⟨r - 1, by omega, rfl⟩, ?_⟩)
        refine List.mem_cons.mpr (.inl ?_)
        unfold strN
        omega
    · obtain ⟨j, rfl⟩ : ∃ j, x = n * (3 * m + 2) + j := ⟨x - n * (3 * m + 2), by omega⟩
      have hj : j < m := by omega
      refine ⟨kap j, List.mem_range.mpr (hk j hj), ?_⟩
      unfold blockN
      refine List.mem_cons_of_mem _ (List.mem_flatMap.mpr ⟨aheadN m tau kap j, mem_street.mpr ⟨_, ahead_le hj, rfl⟩, ?_⟩)
      refine List.mem_cons_of_mem _ ?_
      rw [metN_at hj (Nat.le_refl _)]
      exact List.mem_cons_self
theorem nodup_ins (hk : ∀ j, j < m → kap j < n) {k t : Nat} (h : k < n) (ht : t ∈ streetN m tau k) : (ins (metN n m tau kap m) t).Nodup := by
  unfold ins
  cases hm : metN n m tau kap m t with
  | none => simp
  | some q =>
    obtain ⟨j, hj, e4, e5⟩ := metN_some hm
    have h2 := aheadN_lt (tau := tau) hk hj
    have : t ≠ q := by omega
    simp [this]
theorem nodup_walk (hk : ∀ j, j < m → kap j < n) : (walkN n m tau kap).Nodup := by
  unfold walkN List.Nodup
  rw [List.pairwise_flatMap]
  refine ⟨fun k hkr => ?_, ?_⟩
  · have h := List.mem_range.mp hkr
    have hb : (blockN n m tau kap k).Nodup := by
      unfold blockN
      rw [List.nodup_cons]
      refine ⟨fun hx => ?_, ?_⟩
      · obtain ⟨t, ht, hx⟩ := List.mem_flatMap.mp hx
        have ea := anc_ins hk h ht hx
        obtain ⟨a, ha, e⟩ := mem_street.mp ht
        unfold ancN at ea
        rw [if_pos (gateN_lt h), e] at ea
        unfold gateN strN at ea
        omega
      · unfold List.Nodup
        rw [List.pairwise_flatMap]
        refine ⟨fun t ht => nodup_ins hk h ht, ?_⟩
        have nd : (streetN m tau k).Nodup := by
          unfold streetN List.Nodup
          rw [List.pairwise_map]
          refine List.Pairwise.imp_of_mem ?_ List.nodup_range
          intro i j hi hj hne e
          rw [List.mem_range] at hi hj
          exact hne (goN_inj (by omega) (by omega) e)
        refine List.Pairwise.imp_of_mem ?_ nd
        intro t t' ht ht' hne x hx y hy e
        subst e
        exact hne ((anc_ins hk h ht hx).symm.trans (anc_ins hk h ht' hy))
    exact hb
  · refine List.Pairwise.imp_of_mem ?_ List.nodup_range
    intro k k' hkr hkr' hne x hx y hy e
    subst e
    exact hne ((own_block hk (List.mem_range.mp hkr) hx).symm.trans (own_block hk (List.mem_range.mp hkr') hy))
theorem walk_perm (hk : ∀ j, j < m → kap j < n) : (walkN n m tau kap).Perm (List.range (n * (3 * m + 2) + m)) :=
  (List.perm_ext_iff_of_nodup (nodup_walk hk) List.nodup_range).mpr fun x => by rw [mem_walk hk, List.mem_range]
end

/-! ### three for one -/
def triN (t : Nat) : List Nat := [3 * t, 3 * t + 1, 3 * t + 2]
def ringN (l : List Nat) : List Nat := l.flatMap triN
theorem ringN_len : ∀ l : List Nat, (ringN l).length = 3 * l.length
  | [] => rfl
  | a :: l => by
    have e : ringN (a :: l) = 3 * a :: (3 * a + 1) :: (3 * a + 2) :: ringN l := rfl
    rw [e]
    simp only [List.length_cons]
    rw [ringN_len l]
    omega
theorem ringN_at : ∀ (l : List Nat) (q r t : Nat), l[q]? = some t → r < 3 → (ringN l)[3 * q + r]? = some (3 * t + r)
  | [], _, _, _, h, _ => by simp at h
  | a :: l, 0, r, t, h, hr => by
    have e : a = t := by simpa using h
    subst e
    have e : ringN (a :: l) = 3 * a :: (3 * a + 1) :: (3 * a + 2) :: ringN l := rfl
    rw [e]
    match r, hr with
    | 0, _ => rfl
    | 1, _ => rfl
    | 2, _ => rfl
  | a :: l, q + 1, r, t, h, hr => by
    have e : ringN (a :: l) = 3 * a :: (3 * a + 1) :: (3 * a + 2) :: ringN l := rfl
    have e2 : 3 * (q + 1) + r = (3 * q + r) + 1 + 1 + 1 := by omega
    rw [e, e2]
    simp only [List.getElem?_cons_succ]
    exact ringN_at l q r t (by simpa using h) hr
theorem range_tri : ∀ n, ringN (List.range n) = List.range (3 * n)
  | 0 => rfl
  | n + 1 => by
    have e : 3 * (n + 1) = 3 * n + 1 + 1 + 1 := by omega
    have h : ringN (List.range (n + 1)) = ringN (List.range n) ++ triN n := by
      unfold ringN
      rw [List.range_succ, List.flatMap_append]
      simp
    rw [h, e, List.range_succ, List.range_succ, List.range_succ, range_tri n]
    simp [triN]
theorem ring_perm {l : List Nat} {n : Nat} (h : l.Perm (List.range n)) : (ringN l).Perm (List.range (3 * n)) := by
  rw [← range_tri]
  unfold ringN
  exact h.flatMap_right triN
/-- the ring's pairs, one way -/
def TriR (R : Nat → Nat → Prop) (x y : Nat) : Prop := (∃ t, x = 3 * t ∧ y = 3 * t + 1) ∨ (∃ t, x = 3 * t + 1 ∧ y = 3 * t + 2) ∨ ∃ u v, x = 3 * u + 2 ∧ y = 3 * v ∧ R u v

/-! ### turned rounds, as functions on the whole line -/
/-- l is n places of f, which comes again behind n -/
structure Turn {α : Type} (f : Int → α) (l : List α) : Prop where
  at_ : ∀ i, i < l.length → l[i]? = some (f (i : Int))
  per : ∀ i : Int, f (i + l.length) = f i
def lineOf (l : List Nat) (i : Int) : Nat := l.getD (i % l.length).toNat 0
theorem turn_line (l : List Nat) : Turn (lineOf l) l where
  at_ := fun i hi => by
    unfold lineOf
    rw [Int.emod_eq_of_lt (by omega) (by omega), Int.toNat_natCast, List.getD_eq_getElem?_getD, List.getElem?_eq_getElem hi]
    rfl
  per := fun i => by
    unfold lineOf
    rw [Int.add_emod_right]
theorem Turn.perk {α : Type} {f : Int → α} {l : List α} (T : Turn f l) (i : Int) : ∀ k : Nat, f (i + k * l.length) = f i
  | 0 => by simp
  | k + 1 => by
    have e : i + ((k + 1 : Nat) : Int) * l.length = (i + (k : Int) * l.length) + l.length := by
      rw [Int.natCast_add, Int.add_mul]
      omega
    rw [e, T.per, T.perk i k]
theorem Turn.mod {α : Type} {f : Int → α} {l : List α} (T : Turn f l) (i : Int) : f (i % l.length) = f i := by
  rcases Int.le_total 0 (i / l.length) with h | h
  · have e := T.perk (i % l.length) (i / l.length).toNat
    rw [Int.toNat_of_nonneg h, Int.mul_comm, Int.emod_add_mul_ediv] at e
    exact e.symm
  · have e := T.perk i (-(i / l.length)).toNat
    rw [Int.toNat_of_nonneg (by omega)] at e
    have e2 : i + -(i / (l.length : Int)) * (l.length : Int) = i % l.length := by
      have e3 := Int.emod_add_mul_ediv i l.length
      rw [Int.neg_mul, Int.mul_comm]
      omega
    rw [e2] at e
    exact e
/-- each step of the line -/
def Line {α : Type} (R : α → α → Prop) (f : Int → α) : Prop := ∀ i : Int, R (f i) (f (i + 1))
theorem line_of_cyc {α : Type} {R : α → α → Prop} {f : Int → α} {l : List α} (T : Turn f l) (h : Cyc R l) (hl : 0 < l.length) : Line R f := by
  intro i
  have b1 : 0 ≤ (i + 1) % (l.length : Int) := Int.emod_nonneg _ (by omega)
  have b2 : (i + 1) % (l.length : Int) < l.length := Int.emod_lt_of_pos _ (by omega)
  rw [← T.mod (i + 1)]
  obtain ⟨k, hk⟩ : ∃ k : Nat, (i + 1) % (l.length : Int) = k := ⟨((i + 1) % (l.length : Int)).toNat, by omega⟩
  have hkl : k < l.length := by omega
  have e1 : f i = f ((k : Int) - 1) := by
    rw [← T.mod i, ← T.mod ((k : Int) - 1), ← hk]
    congr 1
    rw [Int.emod_sub_emod]
    congr 1
    omega
  rw [e1, hk]
  by_cases hk0 : k = 0
  · subst hk0
    have e2 : f (((0 : Nat) : Int) - 1) = f ((l.length - 1 : Nat) : Int) := by
      rw [← T.per]
      congr 1
      omega
    rw [e2]
    exact h 0 _ _ (by unfold prevIx; rw [if_pos rfl]; exact T.at_ _ (by omega)) (T.at_ 0 hkl)
  · have e2 : (k : Int) - 1 = ((k - 1 : Nat) : Int) := by omega
    rw [e2]
    exact h k _ _ (by unfold prevIx; rw [if_neg hk0]; exact T.at_ _ (by omega)) (T.at_ k hkl)
theorem cyc_of_line {α : Type} {R : α → α → Prop} {f : Int → α} {l : List α} (T : Turn f l) (h : Line R f) : Cyc R l := by
  intro k x y hx hy
  have hk : k < l.length := (List.getElem?_eq_some_iff.mp hy).1
  have ey : y = f (k : Int) := Option.some.inj (hy.symm.trans (T.at_ k hk))
  by_cases hk0 : k = 0
  · subst hk0
    unfold prevIx at hx
    rw [if_pos rfl] at hx
    have ex : x = f ((l.length - 1 : Nat) : Int) := Option.some.inj (hx.symm.trans (T.at_ _ (by omega)))
    have hh := h (-1)
    have e2 : f (-1) = f ((l.length - 1 : Nat) : Int) := by
      rw [← T.per]
      congr 1
      omega
    rw [e2] at hh
    rw [ex, ey]
    exact hh
  · unfold prevIx at hx
    rw [if_neg hk0] at hx
    have ex : x = f ((k - 1 : Nat) : Int) := Option.some.inj (hx.symm.trans (T.at_ _ (by omega)))
    have hh := h ((k - 1 : Nat) : Int)
    have e2 : ((k - 1 : Nat) : Int) + 1 = (k : Int) := by omega
    rw [e2] at hh
    rw [ex, ey]
    exact hh
/-- begun elsewhere -/
theorem turn_rot {α : Type} {f : Int → α} {l : List α} (T : Turn f l) {r : Nat} (hr : r ≤ l.length) : Turn (fun i => f (i + r)) (l.drop r ++ l.take r) where
  at_ := fun i hi => by
    have hlen : (l.drop r ++ l.take r).length = l.length := by
      rw [List.length_append, List.length_drop, List.length_take]
      omega
    rw [hlen] at hi
    by_cases c : i < (l.drop r).length
    · rw [List.getElem?_append_left c, List.getElem?_drop]
      rw [List.length_drop] at c
      rw [T.at_ _ (by omega)]
      congr 2
      omega
    · rw [List.getElem?_append_right (by omega)]
      rw [List.length_drop] at c ⊢
      rw [List.getElem?_take_of_lt (by omega), T.at_ _ (by omega), ← T.per]
      congr 2
      omega
  per := fun i => by
    have hlen : (l.drop r ++ l.take r).length = l.length := by
      rw [List.length_append, List.length_drop, List.length_take]
      omega
    rw [hlen]
    show f (i + l.length + r) = f (i + r)
    rw [← T.per (i + r)]
    congr 1
    omega
/-- the other way round -/
theorem turn_rev {α : Type} {f : Int → α} {l : List α} (T : Turn f l) : Turn (fun i => f (-1 - i)) l.reverse where
  at_ := fun i hi => by
    rw [List.length_reverse] at hi
    rw [List.getElem?_reverse hi, T.at_ _ (by omega), ← T.per (-1 - (i : Int))]
    congr 2
    omega
  per := fun i => by
    rw [List.length_reverse]
    show f (-1 - (i + l.length)) = f (-1 - i)
    rw [← T.per (-1 - (i + l.length))]
    congr 1
    omega
theorem line_rev {α : Type} {R : α → α → Prop} {f : Int → α} (h : Line R f) (c : Int) : Line (fun x y => R y x) (fun i => f (c - i)) := by
  intro i
  have hh := h (c - (i + 1))
  have e : c - (i + 1) + 1 = c - i := by omega
  rw [e] at hh
  exact hh
theorem line_rot {α : Type} {R : α → α → Prop} {f : Int → α} (h : Line R f) (c : Int) : Line R (fun i => f (i + c)) := by
  intro i
  have hh := h (i + c)
  have e : i + c + 1 = i + 1 + c := by omega
  rw [e] at hh
  exact hh
/-- the threefold line -/
def triF (f : Int → Nat) (i : Int) : Nat := 3 * f (i / 3) + (i % 3).toNat
theorem triF_at (f : Int → Nat) (q : Int) (r : Nat) (hr : r < 3) : triF f (3 * q + r) = 3 * f q + r := by
  unfold triF
  have e1 : (3 * q + (r : Int)) / 3 = q := by omega
  have e2 : ((3 * q + (r : Int)) % 3).toNat = r := by omega
  rw [e1, e2]
theorem turn_tri {f : Int → Nat} {l : List Nat} (T : Turn f l) : Turn (triF f) (ringN l) where
  at_ := fun i hi => by
    rw [ringN_len] at hi
    have hq : i / 3 < l.length := by omega
    have h := ringN_at l (i / 3) (i % 3) _ (T.at_ _ hq) (by omega)
    have e : 3 * (i / 3) + i % 3 = i := by omega
    rw [e] at h
    rw [h]
    unfold triF
    congr 2
  per := fun i => by
    unfold triF
    rw [ringN_len]
    have e1 : (i + ((3 * l.length : Nat) : Int)) / 3 = i / 3 + l.length := by omega
    have e2 : (i + ((3 * l.length : Nat) : Int)) % 3 = i % 3 := by omega
    rw [e1, e2, T.per]
theorem line_tri {R : Nat → Nat → Prop} {f : Int → Nat} (h : Line R f) : Line (TriR R) (triF f) := by
  intro i
  have hi : i = 3 * (i / 3) + ((i % 3).toNat : Nat) := by omega
  have hlt : (i % 3).toNat < 3 := by omega
  generalize i / 3 = q at hi
  generalize (i % 3).toNat = r at hi hlt
  subst hi
  rw [triF_at f q r hlt]
  match r, hlt with
  | 0, _ =>
    have e : 3 * q + ((0 : Nat) : Int) + 1 = 3 * q + ((1 : Nat) : Int) := by omega
    rw [e, triF_at f q 1 (by omega)]
    exact .inl ⟨_, rfl, rfl⟩
  | 1, _ =>
    have e : 3 * q + ((1 : Nat) : Int) + 1 = 3 * q + ((2 : Nat) : Int) := by omega
    rw [e, triF_at f q 2 (by omega)]
    exact .inr (.inl ⟨_, rfl, rfl⟩)
  | 2, _ =>
    have e : 3 * q + ((2 : Nat) : Int) + 1 = 3 * (q + 1) + ((0 : Nat) : Int) := by omega
    rw [e, triF_at f (q + 1) 0 (by omega)]
    exact .inr (.inr ⟨_, _, rfl, rfl, h q⟩)
end Hm
set_option Elab.async false
set_option linter.all false
set_option maxRecDepth 100000
set_option maxHeartbeats 4000000
namespace Hm
open PySem PySem.Spec PyProof.Rows L2
/-! ### the defs of the top, by their places -/
def topS (i : Nat) : Stmt := PySem.Challenge.pw_chainturn_k58_whole_rounds.main.body.getD i (.Pass ⟨0, 0, 0, 0⟩)
abbrev sRight : Stmt := topS 1
abbrev sAreT : Stmt := topS 2
abbrev sCHold : Stmt := topS 3
abbrev sOnce : Stmt := topS 8
abbrev sSteps : Stmt := topS 9
abbrev sEither : Stmt := topS 10
abbrev sRHold : Stmt := topS 11
abbrev sGHold : Stmt := topS 12
abbrev sLen : Stmt := topS 13
abbrev sTHold : Stmt := topS 14
abbrev sGate : Stmt := topS 16
abbrev sStreet : Stmt := topS 17
abbrev sRTown : Stmt := topS 18
abbrev sSWays : Stmt := topS 19
abbrev sDetour : Stmt := topS 20
abbrev sTWalk : Stmt := topS 21
abbrev sFWalk : Stmt := topS 22
abbrev sBWalk : Stmt := topS 23
abbrev sTMend : Stmt := topS 25
abbrev sFMend : Stmt := topS 26
abbrev sBMend : Stmt := topS 27
abbrev sTPrice : Stmt := topS 28
abbrev sFPrice : Stmt := topS 29
abbrev sBPrice : Stmt := topS 30
abbrev sLMix : Stmt := topS 32
abbrev sLAt : Stmt := topS 33
abbrev sLCl : Stmt := topS 34
abbrev sLRight : Stmt := topS 35
abbrev sLHold : Stmt := topS 36
abbrev sLAll : Stmt := topS 37
abbrev sLGoes : Stmt := topS 38
abbrev sLCheap : Stmt := topS 39
abbrev sLRef : Stmt := topS 40
abbrev sLaw : Stmt := topS 41
abbrev nRight : List Str := ["sign", "truths"]
theorem scRight : FnScope nRight ["sign", "truths"] (defScope sRight) := ⟨rfl, rfl, rfl, by decide +kernel, rfl, by decide +kernel, by decide +kernel⟩
abbrev nAreT : List Str := ["answer", "many", "truth"]
theorem scAreT : FnScope nAreT ["answer", "many"] (defScope sAreT) := ⟨rfl, rfl, rfl, by decide +kernel, rfl, by decide +kernel, by decide +kernel⟩
abbrev nCHold : List Str := ["question", "answer", "row", "sign"]
theorem scCHold : FnScope nCHold ["question", "answer"] (defScope sCHold) := ⟨rfl, rfl, rfl, by decide +kernel, rfl, by decide +kernel, by decide +kernel⟩
abbrev nOnce : List Str := ["count", "answer"]
theorem scOnce : FnScope nOnce ["count", "answer"] (defScope sOnce) := ⟨rfl, rfl, rfl, by decide +kernel, rfl, by decide +kernel, by decide +kernel⟩
abbrev nSteps : List Str := ["answer", "k"]
theorem scSteps : FnScope nSteps ["answer"] (defScope sSteps) := ⟨rfl, rfl, rfl, by decide +kernel, rfl, by decide +kernel, by decide +kernel⟩
abbrev nEither : List Str := ["one", "other"]
theorem scEither : FnScope nEither ["one", "other"] (defScope sEither) := ⟨rfl, rfl, rfl, by decide +kernel, rfl, by decide +kernel, by decide +kernel⟩
abbrev nRHold : List Str := ["question", "answer", "led", "way", "step"]
theorem scRHold : FnScope nRHold ["question", "answer"] (defScope sRHold) := ⟨rfl, rfl, rfl, by decide +kernel, rfl, by decide +kernel, by decide +kernel⟩
abbrev nGHold : List Str := ["question", "answer", "led", "pair", "one", "other"]
theorem scGHold : FnScope nGHold ["question", "answer"] (defScope sGHold) := ⟨rfl, rfl, rfl, by decide +kernel, rfl, by decide +kernel, by decide +kernel⟩
abbrev nLen : List Str := ["question", "answer", "lengths", "one", "other", "length"]
theorem scLen : FnScope nLen ["question", "answer"] (defScope sLen) := ⟨rfl, rfl, rfl, by decide +kernel, rfl, by decide +kernel, by decide +kernel⟩
abbrev nTHold : List Str := ["question", "answer"]
theorem scTHold : FnScope nTHold ["question", "answer"] (defScope sTHold) := ⟨rfl, rfl, rfl, by decide +kernel, rfl, by decide +kernel, by decide +kernel⟩
abbrev nGate : List Str := ["rows", "name"]
theorem scGate : FnScope nGate ["rows", "name"] (defScope sGate) := ⟨rfl, rfl, rfl, by decide +kernel, rfl, by decide +kernel, by decide +kernel⟩
abbrev nStreet : List Str := ["rows", "name", "at"]
theorem scStreet : FnScope nStreet ["rows", "name", "at"] (defScope sStreet) := ⟨rfl, rfl, rfl, by decide +kernel, rfl, by decide +kernel, by decide +kernel⟩
abbrev nRTown : List Str := ["question", "row"]
theorem scRTown : FnScope nRTown ["question", "row"] (defScope sRTown) := ⟨rfl, rfl, rfl, by decide +kernel, rfl, by decide +kernel, by decide +kernel⟩
abbrev nSWays : List Str := ["question", "name", "rows", "following", "found", "end", "at", "one"]
theorem scSWays : FnScope nSWays ["question", "name"] (defScope sSWays) := ⟨rfl, rfl, rfl, by decide +kernel, rfl, by decide +kernel, by decide +kernel⟩
abbrev nDetour : List Str := ["question", "row", "sign", "one"]
theorem scDetour : FnScope nDetour ["question", "row", "sign"] (defScope sDetour) := ⟨rfl, rfl, rfl, by decide +kernel, rfl, by decide +kernel, by decide +kernel⟩
abbrev nTWalk : List Str := ["question", "ways", "name", "row", "signs", "town", "sign", "ahead", "behind"]
theorem scTWalk : FnScope nTWalk ["question"] (defScope sTWalk) := ⟨rfl, rfl, rfl, by decide +kernel, rfl, by decide +kernel, by decide +kernel⟩
abbrev nFWalk : List Str := ["question", "answer", "rows", "met", "row", "signs", "sign", "found", "name", "towns", "town", "one", "at"]
theorem scFWalk : FnScope nFWalk ["question", "answer"] (defScope sFWalk) := ⟨rfl, rfl, rfl, by decide +kernel, rfl, by decide +kernel, by decide +kernel⟩
abbrev nBWalk : List Str := ["question", "answer", "rows", "behind", "k", "name"]
theorem scBWalk : FnScope nBWalk ["question", "answer"] (defScope sBWalk) := ⟨rfl, rfl, rfl, by decide +kernel, rfl, by decide +kernel, by decide +kernel⟩
abbrev nTMend : List Str := ["question", "pairs", "town", "start", "end"]
theorem scTMend : FnScope nTMend ["question"] (defScope sTMend) := ⟨rfl, rfl, rfl, by decide +kernel, rfl, by decide +kernel, by decide +kernel⟩
abbrev nFMend : List Str := ["question", "answer", "found", "town"]
theorem scFMend : FnScope nFMend ["question", "answer"] (defScope sFMend) := ⟨rfl, rfl, rfl, by decide +kernel, rfl, by decide +kernel, by decide +kernel⟩
abbrev nBMend : List Str := ["question", "answer", "middles", "first", "step", "row", "k", "town"]
theorem scBMend : FnScope nBMend ["question", "answer"] (defScope sBMend) := ⟨rfl, rfl, rfl, by decide +kernel, rfl, by decide +kernel, by decide +kernel⟩
abbrev nTPrice : List Str := ["question", "one", "other"]
theorem scTPrice : FnScope nTPrice ["question"] (defScope sTPrice) := ⟨rfl, rfl, rfl, by decide +kernel, rfl, by decide +kernel, by decide +kernel⟩
abbrev nFPrice : List Str := ["question", "answer"]
theorem scFPrice : FnScope nFPrice ["question", "answer"] (defScope sFPrice) := ⟨rfl, rfl, rfl, by decide +kernel, rfl, by decide +kernel, by decide +kernel⟩
abbrev nBPrice : List Str := ["question", "answer"]
theorem scBPrice : FnScope nBPrice ["question", "answer"] (defScope sBPrice) := ⟨rfl, rfl, rfl, by decide +kernel, rfl, by decide +kernel, by decide +kernel⟩
abbrev nLMix : List Str := ["_law_cell"]
theorem scLMix : FnScope nLMix ["_law_cell"] (defScope sLMix) := ⟨rfl, rfl, rfl, by decide +kernel, rfl, by decide +kernel, by decide +kernel⟩
abbrev nLAt : List Str := ["_law_script", "_law_k"]
theorem scLAt : FnScope nLAt ["_law_script", "_law_k"] (defScope sLAt) := ⟨rfl, rfl, rfl, by decide +kernel, rfl, by decide +kernel, by decide +kernel⟩
abbrev nLCl : List Str := ["_law_script", "_law_most", "_law_seed", "_law_n", "_law_planted", "_law_k", "_law_truths", "_law_rows", "_law_cell", "_law_size", "_law_row", "_law_at_here"]
theorem scLCl : FnScope nLCl ["_law_script", "_law_most"] (defScope sLCl) := ⟨rfl, rfl, rfl, by decide +kernel, rfl, by decide +kernel, by decide +kernel⟩
abbrev nLRight : List Str := ["_law_sign", "_law_truths"]
theorem scLRight : FnScope nLRight ["_law_sign", "_law_truths"] (defScope sLRight) := ⟨rfl, rfl, rfl, by decide +kernel, rfl, by decide +kernel, by decide +kernel⟩
abbrev nLHold : List Str := ["_law_n", "_law_rows", "_law_truths", "_law_row", "_law_sign"]
theorem scLHold : FnScope nLHold ["_law_n", "_law_rows", "_law_truths"] (defScope sLHold) := ⟨rfl, rfl, rfl, by decide +kernel, rfl, by decide +kernel, by decide +kernel⟩
abbrev nLAll : List Str := ["_law_count", "_law_answer", "_law_met", "_law_town", "_law_k"]
theorem scLAll : FnScope nLAll ["_law_count", "_law_answer"] (defScope sLAll) := ⟨rfl, rfl, rfl, by decide +kernel, rfl, by decide +kernel, by decide +kernel⟩
abbrev nLGoes : List Str := ["_law_question", "_law_answer", "_law_either", "_law_taken", "_law_one", "_law_k"]
theorem scLGoes : FnScope nLGoes ["_law_question", "_law_answer", "_law_either"] (defScope sLGoes) := ⟨rfl, rfl, rfl, by decide +kernel, rfl, by decide +kernel, by decide +kernel⟩
abbrev nLCheap : List Str := ["_law_question", "_law_answer", "_law_lengths", "_law_one", "_law_other", "_law_length", "_law_total", "_law_k"]
theorem scLCheap : FnScope nLCheap ["_law_question", "_law_answer"] (defScope sLCheap) := ⟨rfl, rfl, rfl, by decide +kernel, rfl, by decide +kernel, by decide +kernel⟩
abbrev nLRef : List Str := ["_law_question", "_law_truths", "_law_word"]
theorem scLRef : FnScope nLRef ["_law_question", "_law_truths"] (defScope sLRef) := ⟨rfl, rfl, rfl, by decide +kernel, rfl, by decide +kernel, by decide +kernel⟩
abbrev nLaw : List Str := ["_law_script", "_law_n", "_law_rows", "_law_truths", "_law_first", "_law_second", "_law_third", "_law_fourth", "_law_walked", "_law_ring", "_law_tour", "_law_seed", "_law_at_here", "_law_found", "_law_one"]
theorem scLaw : FnScope nLaw ["_law_script"] (defScope sLaw) := ⟨rfl, rfl, rfl, by decide +kernel, rfl, by decide +kernel, by decide +kernel⟩
end Hm
set_option Elab.async false
set_option linter.all false
set_option maxRecDepth 100000
set_option maxHeartbeats 4000000
namespace Hm
open PySem PySem.Spec PyProof.Rows L2
/-! ### heaps -/
theorem keepU {H0 H : Hp} {D : Addr} {o : HO} (s : Same H0 H) (h : H0 D = none) : Same H0 (upd H D o) := fun b x e => by
  rw [upd_ne (ne_of_none e h)]
  exact s _ _ e
theorem keepN {H : Hp} {D : Addr} {o : HO} (h : H D = none) : Same H (upd H D o) := keepU (Same.refl H) h
theorem keepT {H0 H : Hp} {T : Addr} {o : HO} (s : Same H0 H) (h : H T = none) : Same H0 (upd H T o) := s.trans (keepN h)
theorem sqt_same {K : PySem.W.Frag} {H H' : Hp} {a : Addr} {xs : List V} (e : Same H H') (h : SqT K H a xs) : SqT K H' a xs := by
  rcases h with (h | ⟨o, h⟩) | h
  · exact .inl (.inl (e _ _ h))
  · exact .inl (.inr ⟨o, e _ _ h⟩)
  · exact .inr h
/-- tuples of two ints at these addresses -/
abbrev PK : Type := Addr × (Int × Int)
def pairO (q : Int × Int) : HO := .tup [.int q.1, .int q.2]
def refs (ks : List PK) : List V := ks.map fun x => V.ref x.1
def PairsAt (H : Hp) (ks : List PK) : Prop := ∀ x ∈ ks, H x.1 = some (pairO x.2)
theorem PairsAt.same {H H' : Hp} {ks : List PK} (h : PairsAt H ks) (s : Same H H') : PairsAt H' ks := fun x hx => s _ _ (h x hx)
theorem PairsAt.snoc {H : Hp} {ks : List PK} {x : PK} (h : PairsAt H ks) (hx : H x.1 = some (pairO x.2)) : PairsAt H (ks ++ [x]) := fun y hy => by
  rcases List.mem_append.mp hy with z | z
  · exact h y z
  · rw [List.mem_singleton.mp z]
    exact hx
theorem PairsAt.get {H : Hp} {ks : List PK} {i : Nat} {x : PK} (h : PairsAt H ks) (e : ks[i]? = some x) : H x.1 = some (pairO x.2) := h x (List.mem_of_getElem? e)
/-- a list of such tuples grows -/
theorem PairsAt.upd {H : Hp} {ks : List PK} {D : Addr} {xs ys : List V} (h : PairsAt H ks) (hD : H D = some (.lst xs)) : PairsAt (upd H D (.lst ys)) ks := fun x hx => by
  rw [upd_ne (ne_of (h x hx) hD (fun z => nomatch z))]
  exact h x hx
theorem refs_snoc (ks : List PK) (x : PK) : refs (ks ++ [x]) = refs ks ++ [V.ref x.1] := by
  unfold refs
  rw [List.map_append]
  rfl
theorem refs_get {ks : List PK} {i : Nat} {x : PK} (e : ks[i]? = some x) : (refs ks)[i]? = some (V.ref x.1) := by
  unfold refs
  rw [List.getElem?_map, e]
  rfl
theorem refs_len (ks : List PK) : (refs ks).length = ks.length := List.length_map ..
/-- a list object that holds pairs -/
structure PL (K : PySem.W.Frag) (H : Hp) (a : Addr) (qs : List (Int × Int)) : Prop where
  ex : ∃ ks : List PK, SqL K H a (refs ks) ∧ ks.map (·.2) = qs ∧ PairsAt H ks
theorem PL.same {K : PySem.W.Frag} {H H' : Hp} {a : Addr} {qs : List (Int × Int)} (h : PL K H a qs) (s : Same H H') : PL K H' a qs := by
  obtain ⟨ks, h1, h2, h3⟩ := h.ex
  exact ⟨ks, s.seq h1, h2, h3.same s⟩
/-! ### rules of a comprehension's block, which has the def's own written part -/
theorem ixL {X : Cx} (K : PySem.W.Frag) (h : X.K = K := by rfl) : IxR X (rIxL K) := h ▸ ix_list
theorem ixT {X : Cx} (K : PySem.W.Frag) (h : X.K = K := by rfl) : IxR X (rIxT K) := h ▸ ix_tup
theorem piT {X : Cx} {tg l : Expr} {tl : TE} (K : PySem.W.Frag) (h : PE X l tl) (e : X.K = K := by rfl) : PI X tg l (iTup K tl) := e ▸ pi_tup h
theorem piL {X : Cx} {tg l : Expr} {tl : TE} (K : PySem.W.Frag) (h : PE X l tl) (e : X.K = K := by rfl) : PI X tg l (iList K tl) := e ▸ pi_list h
theorem anyK {X : Cx} (K : PySem.W.Frag) (e : X.K = K := by rfl) (hc : X.calm = true := by rfl) : CallR X (.builtin "any") (rAny K) := e ▸ cr_any hc
theorem isiK {X : Cx} (K : PySem.W.Frag) (e : X.K = K := by rfl) : CallR X (.builtin "isinstance") (rIsi K) := e ▸ call_isi
/-- the scope of a comprehension -/
def lcS : Expr → Scope
  | .ListComp _ _ sc _ => sc
  | _ => { kind := .function, names := [], isGenerator := false, isCoroutine := false }
/-- the first argument of what is returned -/
def retArg : Stmt → Expr
  | .Return (some (.Call _ (e :: _) _ _)) _ => e
  | _ => .Constant .none 0 ⟨0, 0, 0, 0⟩
/-! ### rows of signs -/
abbrev RK : Type := Addr × List Int
def rowRefs (rk : List RK) : List V := rk.map fun x => V.ref x.1
structure RowsAt (K : PySem.W.Frag) (H : Hp) (ra : Addr) (rows : List (List Int)) : Prop where
  ex : ∃ rk : List RK, SqL K H ra (rowRefs rk) ∧ rk.map (·.2) = rows ∧ ∀ x ∈ rk, SqT K H x.1 (x.2.map V.int)
theorem RowsAt.same {K : PySem.W.Frag} {H H' : Hp} {ra : Addr} {rows : List (List Int)} (h : RowsAt K H ra rows) (s : Same H H') : RowsAt K H' ra rows := by
  obtain ⟨rk, h1, h2, h3⟩ := h.ex
  exact ⟨rk, s.seq h1, h2, fun x hx => sqt_same s (h3 x hx)⟩
theorem rowRefs_at {rk : List RK} {i : Nat} {x : V} (h : (rowRefs rk)[i]? = some x) : ∃ r, rk[i]? = some r ∧ x = V.ref r.1 := by
  unfold rowRefs at h
  rw [List.getElem?_map] at h
  cases e : rk[i]? with
  | none =>
    rw [e] at h
    cases h
  | some r =>
    rw [e] at h
    exact ⟨r, rfl, (Option.some.inj h).symm⟩
theorem refs_at {ks : List PK} {i : Nat} {x : V} (h : (refs ks)[i]? = some x) : ∃ r, ks[i]? = some r ∧ x = V.ref r.1 := by
  unfold refs at h
  rw [List.getElem?_map] at h
  cases e : ks[i]? with
  | none =>
    rw [e] at h
    cases h
  | some r =>
    rw [e] at h
    exact ⟨r, rfl, (Option.some.inj h).symm⟩
theorem iL_at {ns : List Int} {i : Nat} {x : V} (h : (ns.map V.int)[i]? = some x) : ∃ r, ns[i]? = some r ∧ x = V.int r := by
  rw [List.getElem?_map] at h
  cases e : ns[i]? with
  | none =>
    rw [e] at h
    cases h
  | some r =>
    rw [e] at h
    exact ⟨r, rfl, (Option.some.inj h).symm⟩
/-- clauses -/
structure ClQ (K : PySem.W.Frag) (H : Hp) (qa : Addr) (n : Nat) (rows : List (List Int)) : Prop where
  ex : ∃ (z : Str) (ra : Addr), SqT K H qa [.str z, .int n, .ref ra] ∧ RowsAt K H ra rows
theorem ClQ.same {K : PySem.W.Frag} {H H' : Hp} {qa : Addr} {n : Nat} {rows : List (List Int)} (h : ClQ K H qa n rows) (s : Same H H') : ClQ K H' qa n rows := by
  obtain ⟨z, ra, h1, h2⟩ := h.ex
  exact ⟨z, ra, sqt_same s h1, h2.same s⟩
/-! ### signs -/
def OkSign (n : Nat) (s : Int) : Prop := (1 ≤ s ∧ s ≤ n) ∨ (-(n : Int) ≤ s ∧ s ≤ -1)
def nameOf (s : Int) : Nat := s.natAbs - 1
def rightB (bs : List Bool) (s : Int) : Bool := if 0 < s then bs.getD (nameOf s) false else !(bs.getD (nameOf s) false)
def OkRows (n : Nat) (rows : List (List Int)) : Prop := rows.length ≤ 100 ∧ ∀ row ∈ rows, row.length ≤ 100 ∧ ∀ s ∈ row, OkSign n s
/-! ### ints in lists -/
abbrev iL (ns : List Int) : List V := ns.map V.int
theorem iL_get {ns : List Int} {i : Nat} {z : Int} (e : ns[i]? = some z) : (iL ns)[i]? = some (.int z) := by
  rw [List.getElem?_map, e]
  rfl
theorem iL_len (ns : List Int) : (iL ns).length = ns.length := List.length_map ..
theorem atI_neg1 {α : Type} {xs : List α} {v : α} (h : xs[xs.length - 1]? = some v) : atI xs (-1) = some v := by
  have hl : xs.length - 1 < xs.length := (List.getElem?_eq_some_iff.mp h).1
  have e : xs.getLast? = some v := by
    rw [List.getLast?_eq_getElem?]
    exact h
  obtain ⟨ys, rfl⟩ := List.getLast?_eq_some_iff.mp e
  exact atI_last ys v
/-- answer[k - 1], the last one ahead of the first -/
theorem atI_prev {α : Type} {xs : List α} {k : Nat} {v : α} (h : xs[prevIx xs.length k]? = some v) : atI xs ((k : Int) - 1) = some v := by
  unfold prevIx at h
  by_cases c : k = 0
  · subst c
    rw [if_pos rfl] at h
    exact atI_neg1 h
  · rw [if_neg c] at h
    have e : (k : Int) - 1 = ((k - 1 : Nat) : Int) := by omega
    rw [e]
    exact atI_nat h
theorem prevIx_lt {n k : Nat} (h : k < n) : prevIx n k < n := by
  unfold prevIx
  split <;> omega
theorem sz {n : Nat} (h : n ≤ 100000) : n < sizeLine := Nat.lt_of_le_of_lt h (by decide)
theorem szle {n : Nat} (h : n ≤ 100000) : n ≤ sizeLine := Nat.le_of_lt (sz h)
/-- over range(n), from 0 -/
theorem lc_r0 {n : Nat} {g : TG} {tt : TT} {te : TE} {vs : List Nat} {σ : L2.St} {H1 : Hp} {D : Addr} {Qd : Hp → Prop} (Pv : Nat → Hp → Prop) (h0 : Pv 0 (upd H1 D (.lst [])))
    (hs : ∀ i H, i < n → Pv i H → g (.int i) (wipe σ vs) H fun σ2 H2 => wipe σ2 vs = wipe σ vs ∧ tt σ2 H2 fun b H3 =>
      if b = true then te σ2 H3 fun y H4 => ∃ acc, H4 D = some (.lst acc) ∧ acc.length < sizeLine ∧ Pv (i + 1) (upd H4 D (.lst (acc ++ [y]))) else Pv (i + 1) H3) (hd : ∀ H, Pv n H → Qd H) :
    ∃ W : Nat → Nat → Hp → Prop, (∃ m, W 0 m (upd H1 D (.lst []))) ∧ ∀ i m H, W i m H →
      ((Itr 0 n).stop i H ∧ Qd H) ∨ ((Itr 0 n).go i H ∧ ∃ Nx : Hp → Prop, (∀ H', Nx H' → ∃ m', m' < m ∧ W (i + 1) m' H') ∧ ∀ x H', (Itr 0 n).yld i H x H' → g x (wipe σ vs) H' fun σ2 H2 => wipe σ2 vs = wipe σ vs ∧ tt σ2 H2 fun b H3 =>
        if b = true then te σ2 H3 fun y H4 => ∃ acc, H4 D = some (.lst acc) ∧ acc.length < sizeLine ∧ Nx (upd H4 D (.lst (acc ++ [y]))) else Nx H3) :=
  lc_range (lo := 0) (n := n) (g := g) (tt := tt) (te := te) (vs := vs) (σ := σ) (H1 := H1) (D := D) (Qd := Qd) Pv h0 (fun i H hi p => by rw [Int.zero_add]; exact hs i H hi p) hd
theorem for_r0 {n : Nat} {g : TG} {tb : TS} {D : Ends} {σ : L2.St} {H : Hp} (Pv : Nat → L2.St → Hp → Prop) (h0 : Pv 0 σ H)
    (hs : ∀ i σ H, i < n → Pv i σ H → g (.int i) σ H fun σ2 H2 => tb { D with nx := Pv (i + 1), ct := Pv (i + 1), bk := D.nx } σ2 H2) (hd : ∀ σ H, Pv n σ H → D.nx σ H) :
    ∃ W : Nat → Nat → L2.St → Hp → Prop, (∃ m, W 0 m σ H) ∧ ∀ i m σ H, W i m σ H →
      ((Itr 0 n).stop i H ∧ D.nx σ H) ∨ ((Itr 0 n).go i H ∧ ∃ N : L2.St → Hp → Prop, (∀ σ' H', N σ' H' → ∃ m', m' < m ∧ W (i + 1) m' σ' H') ∧ ∀ x H', (Itr 0 n).yld i H x H' → g x σ H' fun σ2 H2 => tb { D with nx := N, ct := N, bk := D.nx } σ2 H2) :=
  for_range (lo := 0) (n := n) (g := g) (tb := tb) (D := D) (σ := σ) (H := H) Pv h0 (fun i σ H hi p => by rw [Int.zero_add]; exact hs i σ H hi p) hd
/-- the steps of a list of towns -/
def stepsI (ns : List Int) : List (Int × Int) := (List.range ns.length).map fun k => (ns.getD (prevIx ns.length k) 0, ns.getD k 0)
theorem stepsI_len (ns : List Int) : (stepsI ns).length = ns.length := by
  unfold stepsI
  rw [List.length_map, List.length_range]
theorem stepsI_get {ns : List Int} {k : Nat} (h : k < ns.length) : (stepsI ns)[k]? = some (ns.getD (prevIx ns.length k) 0, ns.getD k 0) := by
  unfold stepsI
  rw [List.getElem?_map, List.getElem?_range h]
  rfl
theorem iL_getD {ns : List Int} {k : Nat} (h : k < ns.length) : (iL ns)[k]? = some (.int (ns.getD k 0)) := iL_get (by rw [List.getD_eq_getElem?_getD, List.getElem?_eq_getElem h]; rfl)
theorem take_snoc {α : Type} {l : List α} {i : Nat} {x : α} (h : l[i]? = some x) : l.take (i + 1) = l.take i ++ [x] := by
  rw [List.take_add_one, h]
  rfl
theorem getD_get {ns : List Int} {k : Nat} (h : k < ns.length) : ns[k]? = some (ns.getD k 0) := by
  rw [List.getD_eq_getElem?_getD, List.getElem?_eq_getElem h]
  rfl
end Hm
set_option Elab.async false
set_option linter.all false
set_option maxRecDepth 100000
set_option maxHeartbeats 4000000
namespace Hm
open PySem PySem.Spec PyProof.Rows L2
/-! ### what the top leaves -/
abbrev FnP (K : PySem.W.Frag) (x : Str) (st : Stmt) (f : Addr) (fd : FuncData) : Prop := FunD K x x (defArgs st) (defBody st) (defScope st) [] [] f fd
/-- a def that its name finds -/
structure Df (K : PySem.W.Frag) (mg : Str → Option Value) (x : Str) (st : Stmt) (ps : List Str) : Prop where
  ex : ∃ f fd, FnP K x st f fd ∧ mg x = some (.ref f) ∧ Binds K fd ps []
structure Tops (K : PySem.W.Frag) (mg : Str → Option Value) : Prop where
  fRight : Df K mg "right" sRight ["sign", "truths"]
  fAreT : Df K mg "are_truths" sAreT ["answer", "many"]
  fCHold : Df K mg "clauses_hold" sCHold ["question", "answer"]
  fOnce : Df K mg "all_once" sOnce ["count", "answer"]
  fSteps : Df K mg "steps_of" sSteps ["answer"]
  fEither : Df K mg "either_way" sEither ["one", "other"]
  fRHold : Df K mg "rounds_hold" sRHold ["question", "answer"]
  fGHold : Df K mg "ring_holds" sGHold ["question", "answer"]
  fLen : Df K mg "length_of" sLen ["question", "answer"]
  fTHold : Df K mg "tour_holds" sTHold ["question", "answer"]
  fGate : Df K mg "gate" sGate ["rows", "name"]
  fStreet : Df K mg "street" sStreet ["rows", "name", "at"]
  fRTown : Df K mg "row_town" sRTown ["question", "row"]
  fSWays : Df K mg "street_ways" sSWays ["question", "name"]
  fDetour : Df K mg "detour" sDetour ["question", "row", "sign"]
  fTWalk : Df K mg "turn_walking" sTWalk ["question"]
  fFWalk : Df K mg "forth_walking" sFWalk ["question", "answer"]
  fBWalk : Df K mg "back_walking" sBWalk ["question", "answer"]
  fTMend : Df K mg "turn_mending" sTMend ["question"]
  fFMend : Df K mg "forth_mending" sFMend ["question", "answer"]
  fBMend : Df K mg "back_mending" sBMend ["question", "answer"]
  fTPrice : Df K mg "turn_pricing" sTPrice ["question"]
  fFPrice : Df K mg "forth_pricing" sFPrice ["question", "answer"]
  fBPrice : Df K mg "back_pricing" sBPrice ["question", "answer"]
  fLMix : Df K mg "_law_mixed" sLMix ["_law_cell"]
  fLAt : Df K mg "_law_at" sLAt ["_law_script", "_law_k"]
  fLCl : Df K mg "_law_clauses" sLCl ["_law_script", "_law_most"]
  fLRight : Df K mg "_law_right" sLRight ["_law_sign", "_law_truths"]
  fLHold : Df K mg "_law_hold" sLHold ["_law_n", "_law_rows", "_law_truths"]
  fLAll : Df K mg "_law_all" sLAll ["_law_count", "_law_answer"]
  fLGoes : Df K mg "_law_goes" sLGoes ["_law_question", "_law_answer", "_law_either"]
  fLCheap : Df K mg "_law_cheap" sLCheap ["_law_question", "_law_answer"]
  fLRef : Df K mg "_law_refused" sLRef ["_law_question", "_law_truths"]
  b_len : mg "len" = none
  b_range : mg "range" = none
  b_all : mg "all" = none
  b_any : mg "any" = none
  b_sorted : mg "sorted" = none
  b_list : mg "list" = none
  b_tuple : mg "tuple" = none
  b_set : mg "set" = none
  b_isinstance : mg "isinstance" = none
  b_enumerate : mg "enumerate" = none
  b_reversed : mg "reversed" = none
  b_sum : mg "sum" = none
  b_int : mg "int" = none
  b_abs : mg "abs" = none
  b_min : mg "min" = none
  b_max : mg "max" = none
  b_bool : mg "bool" = none
  xc : ∃ C : Addr, mg "NoAnswer" = some (.ref C) ∧ PySem.W.excIn K C He.veBase "ValueError.__new__" = true ∧ PySem.W.keepIn K (.ref C) = true ∧ PySem.W.subIn K (.ref C) (.type "BaseException") = some true ∧
    PySem.W.typeIn K (.ref C) = some (.type "type") ∧ PySem.W.exmOne K (.ref C) (.ref C) = some true
section
variable {P : Program} {w : World} {K : PySem.W.Frag} {mg : Str → Option Value} {base : Heap}
/-- a def that may be called by its name -/
structure Cl (P : Program) (w : World) (K : PySem.W.Frag) (mg : Str → Option Value) (base : Heap) (k : Nat) (x : Str) (sp : Sp) : Prop where
  ex : ∃ (f : Addr) (fd : FuncData) (ps : List Str), FnOk P w K mg base CX0 k f fd ps sp ∧ mg x = some (.ref f) ∧ PySem.W.keepIn K (.ref f) = true ∧ Binds K fd ps []
theorem pe_k {X : Cx} {k j : Nat} {x : Str} {sp : Sp} {p pos : Pos} {e : Expr} {es : List Expr} {t : TA} (c : Cl X.prog X.w X.K X.mg X.base k x sp) (hr : Room j X.A) (ha : PA X (e :: es) t) (hk : k ≤ j := by decide) (hg : Gl X x := by rfl)
    (hdb : (x == ("__debug__" : Str)) = false := by decide) (he : starEach (e :: es) X.env = (false, eval e X.env) :: starEach es X.env := by rfl) (hpl : (backTo pos (starEach es X.env)).any (·.1) = false := by rfl) :
    PE X (.Call (.Name x p) (e :: es) [] pos) (tCall sp [] E0 t) := by
  obtain ⟨f, fd, ps, F, hm, kp, b⟩ := c.ex
  exact pe_call F (hr.mono hk) hg hm kp b .nil pass0 ha hdb he hpl
/-- a def's promise from its body -/
theorem mkC {x : Str} {st : Stmt} {N ps : List Str} {k : Nat} {sp : Sp} (D : Df K mg x st ps) (S : FnScope N ps (defScope st)) (len : ∀ vs H Q E, sp vs H Q E → vs.length = ps.length)
    (hbody : ∀ (f : Addr) (cdv : Value) (A : Around) (outer : List Env) (s : Shared) (H : Hp) (vs : List V) (Q : VK) (E : XK), Room k (A.deeper (envOfC x (defScope st) s.heap.objs.size f cdv)) → sp vs H Q E →
      ∃ t, PSs (cxOf CX0 P w K mg base N x (defScope st) f cdv A outer s H E).nox (defBody st) t ∧ t { nx := fun _ H' => Q .non H', rt := Q } (start N vs) H) : Cl P w K mg base (k + 1) x sp := by
  obtain ⟨f, fd, F, hm, b⟩ := D.ex
  refine ⟨f, fd, ps, F.ok S len (fun cdv A outer s H vs Q E hr h => ?_), hm, F.kp, b⟩
  obtain ⟨t, h1, h2⟩ := hbody f cdv A outer s H vs Q E hr h
  exact ⟨t, PSs.nox h1, h2⟩
end
end Hm
set_option Elab.async false
set_option linter.all false
set_option maxRecDepth 100000
set_option maxHeartbeats 4000000
namespace Hm
open PySem PySem.Spec PyProof.Rows L2
section
variable {P : Program} {w : World} {K : PySem.W.Frag} {mg : Str → Option Value} {base : Heap}
/-! ### steps_of -/
def spSteps (K : PySem.W.Frag) : Sp := fun vs H Q _ => ∃ (a : Addr) (ns : List Int), vs = [.ref a] ∧ SqL K H a (iL ns) ∧ ns.length ≤ 10000 ∧
  ∀ H' p, Same H H' → H p = none → ∀ ks, H' p = some (.lst (refs ks)) → ks.map (·.2) = stepsI ns → PairsAt H' ks → Q (.ref p) H'
theorem ok_steps (T : Tops K mg) : Cl P w K mg base 1 "steps_of" (spSteps K) := by
  refine mkC T.fSteps scSteps (fun vs H Q E h => ?_) (fun f cdv A outer s H vs Q E hr h => ?_)
  · obtain ⟨a, ns, rfl, _⟩ := h
    rfl
  · obtain ⟨a, ns, rfl, hS, hl, q⟩ := h
    refine ⟨_, pss_one (ps_ret (pe_lc (own := [("k", 1)]) (g := gName 1) (tt := tYes) (by rfl) scSteps.nd
      (pi_range1 rfl T.b_range (pa_cons (pe_callB call_len_seq (by rfl) T.b_len PySem.boot_len (pa_cons (pv 0) pa_nil)) pa_nil))
      (blkOk_by (own := [("k", 1)]) (N := nSteps) (sc := defScope sSteps) (by decide +kernel))
      (fun _ _ _ _ _ => pg_name (i := 1) scSteps.nd rfl (Or.inl rfl)) (fun _ _ _ _ _ => pts_nil)
      (fun _ _ _ _ _ => pe_tup (pa_cons (pe_ix (ixL K) (pv 0) (pe_op op_sub (pv 1) pe_int) (fun _ _ => rfl)) (pa_cons (pe_ix (ixL K) (pv 0) (pv 1) (fun _ _ => rfl)) pa_nil))))), ?_⟩
    refine ⟨_, rfl, a, _, rfl, .inl hS, _, rfl, by omega, ?_, ?_⟩
    · rw [iL_len]
      omega
    rw [iL_len, Int.toNat_natCast]
    intro D hD
    refine lc_r0 (n := ns.length) (fun i H3 => Same H H3 ∧ ∃ ks, H3 D = some (.lst (refs ks)) ∧ ks.map (·.2) = (stepsI ns).take i ∧ PairsAt H3 ks) ⟨keepN hD, [], upd_same, rfl, fun _ h => nomatch h⟩ ?_ ?_
    · intro i H3 hi ⟨s3, ks, h1, h2, h3⟩
      refine ⟨rfl, ?_⟩
      have hA := s3.seq hS
      have hp : prevIx ns.length i < ns.length := prevIx_lt hi
      refine ⟨_, rfl, _, rfl, _, _, rfl, rfl, a, _, _, _, rfl, rfl, hA, atI_prev (k := i) (v := V.int (ns.getD (prevIx ns.length i) 0)) (by rw [iL_len]; exact iL_getD hp), ?_⟩
      refine ⟨_, rfl, _, rfl, a, _, _, _, rfl, rfl, hA, atI_nat (iL_getD hi), ?_⟩
      refine ⟨by show 2 ≤ sizeLine; decide, fun T hT => ?_⟩
      have ne : D ≠ T := ne_of_none h1 hT
      refine ⟨refs ks, by rw [upd_ne ne]; exact h1, ?_, ?_⟩
      · rw [refs_len, ← List.length_map (f := (·.2)), h2, List.length_take]
        exact sz (by omega)
      · refine ⟨keepU (keepT s3 hT) hD, ks ++ [(T, (ns.getD (prevIx ns.length i) 0, ns.getD i 0))], by rw [upd_same, refs_snoc], ?_, ?_⟩
        · rw [List.map_append, h2, take_snoc (stepsI_get hi)]
          rfl
        · exact ((h3.same (keepN hT)).snoc upd_same).upd (by rw [upd_ne ne]; exact h1)
    · intro H3 ⟨s3, ks, h1, h2, h3⟩
      refine q H3 D s3 hD ks h1 ?_ h3
      rw [h2, List.take_of_length_le (by rw [stepsI_len]; omega)]
/-! ### either_way -/
def eitherI (q : Int × Int) : Int × Int := if q.1 < q.2 then q else (q.2, q.1)
def spEither : Sp := fun vs H Q _ => ∃ i j : Int, vs = [.int i, .int j] ∧ ∀ p, H p = none → Q (.ref p) (upd H p (pairO (eitherI (i, j))))
theorem ok_either (T : Tops K mg) : Cl P w K mg base 1 "either_way" spEither := by
  refine mkC T.fEither scEither (fun vs H Q E h => ?_) (fun f cdv A outer s H vs Q E hr h => ?_)
  · obtain ⟨i, j, rfl, _⟩ := h
    rfl
  · obtain ⟨i, j, rfl, q⟩ := h
    refine ⟨_, pss_cons (ps_if (pt_cmpR op_lt (pv 0) (pv 1) (nomark _)) (pss_one (ps_ret (pe_tup (pa_cons (pv 0) (pa_cons (pv 1) pa_nil))))) pss_nil)
      (pss_one (ps_ret (pe_tup (pa_cons (pv 1) (pa_cons (pv 0) pa_nil))))), ?_⟩
    refine ⟨_, rfl, _, rfl, i, j, rfl, rfl, _, rfl, ite2 (fun c => ?_) (fun c => ?_)⟩
    · have c' : i < j := of_decide_eq_true c
      refine ⟨_, rfl, _, rfl, by show 2 ≤ sizeLine; decide, fun p hp => ?_⟩
      have e := q p hp
      unfold eitherI at e
      rw [if_pos c'] at e
      exact e
    · have c' : ¬ i < j := fun z => c (decide_eq_true z)
      refine ⟨_, rfl, _, rfl, by show 2 ≤ sizeLine; decide, fun p hp => ?_⟩
      have e := q p hp
      unfold eitherI at e
      rw [if_neg c'] at e
      exact e
/-! ### gate, street -/
theorem gateI (m k : Nat) : (k : Int) * (3 * (m : Int) + 2) = ((gateN m k : Nat) : Int) := by
  unfold gateN
  rw [Int.natCast_mul, Int.natCast_add, Int.natCast_mul]
  rfl
theorem strI (m k t : Nat) : (k : Int) * (3 * (m : Int) + 2) + 1 + (t : Int) = ((strN m k t : Nat) : Int) := by
  unfold strN
  rw [Int.natCast_add, Int.natCast_add, Int.natCast_mul, Int.natCast_add, Int.natCast_mul]
  rfl
def spGate : Sp := fun vs H Q _ => ∃ m k : Nat, vs = [.int m, .int k] ∧ m ≤ 1000 ∧ k ≤ 1000 ∧ Q (.int (gateN m k : Nat)) H
theorem ok_gate (T : Tops K mg) : Cl P w K mg base 1 "gate" spGate := by
  refine mkC T.fGate scGate (fun vs H Q E h => ?_) (fun f cdv A outer s H vs Q E hr h => ?_)
  · obtain ⟨m, k, rfl, _⟩ := h
    rfl
  · obtain ⟨m, k, rfl, hm, hk, q⟩ := h
    refine ⟨_, pss_one (ps_ret (pe_op op_mul (pv 1) (pe_op op_add (pe_op op_mul pe_int (pv 0)) pe_int))), ?_⟩
    refine ⟨_, rfl, _, rfl, _, _, rfl, rfl, .inl ⟨by decide, by decide⟩, _, _, rfl, rfl, _, _, rfl, rfl, .inl ⟨?_, ?_⟩, ?_⟩
    · omega
    · omega
    · rw [← gateI] at q
      exact q
def spStreet : Sp := fun vs H Q _ => ∃ m k t : Nat, vs = [.int m, .int k, .int t] ∧ m ≤ 1000 ∧ k ≤ 1000 ∧ Q (.int (strN m k t : Nat)) H
theorem ok_street (T : Tops K mg) : Cl P w K mg base 1 "street" spStreet := by
  refine mkC T.fStreet scStreet (fun vs H Q E h => ?_) (fun f cdv A outer s H vs Q E hr h => ?_)
  · obtain ⟨m, k, t, rfl, _⟩ := h
    rfl
  · obtain ⟨m, k, t, rfl, hm, hk, q⟩ := h
    refine ⟨_, pss_one (ps_ret (pe_op op_add (pe_op op_add (pe_op op_mul (pv 1) (pe_op op_add (pe_op op_mul pe_int (pv 0)) pe_int)) pe_int) (pv 2))), ?_⟩
    refine ⟨_, rfl, _, rfl, _, _, rfl, rfl, .inl ⟨by decide, by decide⟩, _, _, rfl, rfl, _, _, rfl, rfl, .inl ⟨?_, ?_⟩, ?_⟩
    · omega
    · omega
    refine ⟨_, _, rfl, rfl, _, rfl, _, _, rfl, rfl, ?_⟩
    rw [← strI] at q
    exact q
end
end Hm
set_option Elab.async false
set_option linter.all false
set_option maxRecDepth 100000
set_option maxHeartbeats 4000000
namespace Hm
open PySem PySem.Spec PyProof.Rows L2
section
variable {P : Program} {w : World} {K : PySem.W.Frag} {mg : Str → Option Value} {base : Heap}
/-! ### right -/
theorem bl_get {bs : List Bool} {k : Nat} (h : k < bs.length) : (bs.map V.bl)[k]? = some (.bl (bs.getD k false)) := by
  rw [List.getElem?_map, List.getD_eq_getElem?_getD, List.getElem?_eq_getElem h]
  rfl
def spRight (K : PySem.W.Frag) : Sp := fun vs H Q _ => ∃ (s : Int) (bs : List Bool) (ta : Addr), vs = [.int s, .ref ta] ∧ SqL K H ta (bs.map V.bl) ∧ OkSign bs.length s ∧ Q (.bl (rightB bs s)) H
theorem ok_right (T : Tops K mg) : Cl P w K mg base 1 "right" (spRight K) := by
  refine mkC T.fRight scRight (fun vs H Q E h => ?_) (fun f cdv A outer s H vs Q E hr h => ?_)
  · obtain ⟨i, bs, ta, rfl, _⟩ := h
    rfl
  · obtain ⟨i, bs, ta, rfl, hS, ok, q⟩ := h
    refine ⟨_, pss_cons (ps_if (pt_cmpR op_gt (pv 0) pe_int (nomark _)) (pss_one (ps_ret (pe_ix ix_list (pv 1) (pe_op op_sub (pv 0) pe_int) (fun _ _ => rfl)))) pss_nil)
      (pss_one (ps_ret (pe_not (pe_ix ix_list (pv 1) (pe_op op_sub (pe_op op_sub pe_int (pv 0)) pe_int) (fun _ _ => rfl))))), ?_⟩
    refine ⟨_, rfl, i, 0, rfl, rfl, _, rfl, ite2 (fun c => ?_) (fun c => ?_)⟩
    · have c' : 0 < i := of_decide_eq_true c
      refine ⟨_, rfl, _, rfl, _, _, rfl, rfl, ta, _, _, _, rfl, rfl, hS, at_of (j := nameOf i) (by unfold nameOf; omega) (bl_get (by unfold nameOf; rcases ok with o | o <;> omega)), ?_⟩
      unfold rightB at q
      rw [if_pos c'] at q
      exact q
    · have c' : ¬ 0 < i := fun z => c (decide_eq_true z)
      have hn : (nameOf i : Int) = 0 - i - 1 := by
        unfold nameOf
        rcases ok with o | o <;> omega
      refine ⟨_, rfl, _, rfl, _, _, rfl, rfl, _, _, rfl, rfl, ta, _, _, _, rfl, rfl, hS, at_of (j := nameOf i) hn.symm (bl_get (by rcases ok with o | o <;> omega)), _, rfl, ?_⟩
      unfold rightB at q
      rw [if_neg c'] at q
      exact q
/-! ### are_truths -/
def spAreT (K : PySem.W.Frag) : Sp := fun vs H Q _ => ∃ (bs : List Bool) (ta : Addr), vs = [.ref ta, .int bs.length] ∧ H ta = some (.lst (bs.map V.bl)) ∧ bs.length ≤ 1000 ∧ ∀ H', Same H H' → Q (.bl true) H'
theorem ok_areT (T : Tops K mg) : Cl P w K mg base 1 "are_truths" (spAreT K) := by
  refine mkC T.fAreT scAreT (fun vs H Q E h => ?_) (fun f cdv A outer s H vs Q E hr h => ?_)
  · obtain ⟨bs, ta, rfl, _⟩ := h
    rfl
  · obtain ⟨bs, ta, rfl, hS, hl, q⟩ := h
    refine ⟨_, pss_cons (ps_if (PW.pt (pw_or (pt_not (pt_val (pe_callB call_isi (by rfl) T.b_isinstance (by decide +kernel) (pa_cons (pv 0) (pa_cons (pe_bltn (v := .ty "list") (by rfl) T.b_list boot_list rfl) pa_nil)))))
        (pw_or1 (pt_cmpR op_ne (pe_callB call_len_seq (by rfl) T.b_len PySem.boot_len (pa_cons (pv 0) pa_nil)) (pv 1) (nomark _)))))
        (pss_one (ps_ret pe_bl)) pss_nil)
      (pss_one (ps_ret (pe_callB (cr_all rfl) (by rfl) T.b_all (by decide +kernel) (pa_cons (pe_lc (own := [("truth", 2)]) (g := gName 2) (tt := tYes) (by rfl) scAreT.nd (pi_list (pv 0))
        (blkOk_by (own := [("truth", 2)]) (N := nAreT) (sc := defScope sAreT) (by decide +kernel))
        (fun _ _ _ _ _ => pg_name (i := 2) scAreT.nd rfl (Or.inl rfl)) (fun _ _ _ _ _ => pts_nil)
        (fun _ _ _ _ _ => pe_callB (isiK K) (by rfl) T.b_isinstance (by decide +kernel) (pa_cons (pv 2) (pa_cons (pe_bltn (v := .ty "bool") (by rfl) T.b_bool boot_bool rfl) pa_nil)))) pa_nil)))), ?_⟩
    refine ⟨_, rfl, .ref ta, .ty "list", .type "list", .type "list", true, rfl, .ty _, .base (.lst hS), kit_ty (by decide +kernel), true, rfl, ?_⟩
    refine iteF ?_
    refine ⟨_, rfl, ta, _, rfl, .inl (.of hS), _, rfl, rfl, _, rfl, ?_⟩
    refine iteNS (by rw [List.length_map]) ?_
    refine ⟨_, rfl, ta, rfl, ⟨_, .of hS⟩, fun D hD => ?_⟩
    refine lc_list (xs := bs.map V.bl) (fun i H3 => H3 = upd H D (.lst (((List.replicate bs.length true).map V.bl).take i))) rfl ?_ ?_ ?_
    · rintro i H3 _ rfl
      exact (keepN hD).seq (.of hS)
    · rintro i x H3 hx rfl
      have hi : i < bs.length := by
        have := (List.getElem?_eq_some_iff.mp hx).1
        rw [List.length_map] at this
        exact this
      rw [List.getElem?_map, List.getElem?_eq_getElem hi] at hx
      have ex : x = V.bl bs[i] := (Option.some.inj hx).symm
      subst ex
      refine ⟨rfl, ?_⟩
      refine ⟨_, rfl, .bl bs[i], .ty "bool", .type "bool", .type "bool", true, rfl, .ty _, .base (.bl _), kit_ty (by decide +kernel), ?_⟩
      refine ⟨_, upd_same, ?_, ?_⟩
      · rw [List.length_take]
        exact sz (by omega)
      · rw [upd_upd, take_snoc (x := V.bl true)]
        rw [List.getElem?_map, List.getElem?_replicate, if_pos hi]
        rfl
    · rintro H3 rfl
      rw [List.length_map, List.take_of_length_le (by simp)]
      refine ⟨D, List.replicate bs.length true, rfl, .of upd_same, ?_⟩
      have e : (List.replicate bs.length true).all id = true := by simp
      rw [e]
      exact q _ (keepN hD)
/-! ### clauses_hold -/
def holdB (rows : List (List Int)) (bs : List Bool) : Bool := rows.all fun row => row.any (rightB bs)
def scOuter : Scope := lcS (retArg ((defBody sCHold).getD 1 (.Pass ⟨0, 0, 0, 0⟩)))
def spCHold (K : PySem.W.Frag) : Sp := fun vs H Q _ => ∃ (qa ta : Addr) (bs : List Bool) (rows : List (List Int)), vs = [.ref qa, .ref ta] ∧ H ta = some (.lst (bs.map V.bl)) ∧ bs.length ≤ 1000 ∧ ClQ K H qa bs.length rows ∧ OkRows bs.length rows ∧
  ∀ H', Same H H' → Q (.bl (holdB rows bs)) H'
theorem ok_cHold (T : Tops K mg) : Cl P w K mg base 2 "clauses_hold" (spCHold K) := by
  have Ca : Cl P w K mg base 1 "are_truths" (spAreT K) := ok_areT T
  have Cr : Cl P w K mg base 1 "right" (spRight K) := ok_right T
  refine mkC T.fCHold scCHold (fun vs H Q E h => ?_) (fun f cdv A outer s H vs Q E hr h => ?_)
  · obtain ⟨qa, ta, bs, rows, rfl, _⟩ := h
    rfl
  · obtain ⟨qa, ta, bs, rows, rfl, hS, hl, ⟨z, ra, hq, hra⟩, ok, q⟩ := h
    refine ⟨_, pss_cons (ps_if (pt_not (pt_val (pe_k Ca hr (pa_cons (pv 1) (pa_cons (pe_ix ix_tup (pv 0) pe_int (fun _ _ => rfl)) pa_nil))))) (pss_one (ps_ret pe_bl)) pss_nil)
      (pss_one (ps_ret (pe_callB (cr_all rfl) (by rfl) T.b_all (by decide +kernel) (pa_cons (pe_lc (own := [("row", 2)]) (g := gName 2) (tt := tYes) (by rfl) scCHold.nd (pi_list (pe_ix ix_tup (pv 0) pe_int (fun _ _ => rfl)))
        (blkOk_by (own := [("row", 2)]) (N := nCHold) (sc := defScope sCHold) (by decide +kernel))
        (fun _ _ _ _ _ => pg_name (i := 2) scCHold.nd rfl (Or.inl rfl)) (fun _ _ _ _ _ => pts_nil)
        (fun _ _ _ _ _ => pe_callB (anyK K) (by rfl) T.b_any (by decide +kernel) (pa_cons (pe_lc (own := [("sign", 3)]) (g := gName 3) (tt := tYes) (by rfl) scCHold.nd (piT K (pv 2))
          (blkOk_by (own := [("sign", 3)]) (N := nCHold) (sc := relS scOuter (defScope sCHold)) (by decide +kernel))
          (fun _ _ _ _ _ => pg_name (i := 3) scCHold.nd rfl (Or.inl rfl)) (fun _ _ _ _ _ => pts_nil)
          (fun _ _ _ _ _ => pe_k Cr hr (pa_cons (pv 3) (pa_cons (pv 1) pa_nil)))) pa_nil))) pa_nil)))), ?_⟩
    refine ⟨_, rfl, _, rfl, qa, _, 1, _, rfl, rfl, hq, atI_nat (j := 1) rfl, bs, ta, rfl, hS, hl, fun H1 s1 => ?_⟩
    refine ⟨true, rfl, iteF ?_⟩
    have hra1 := hra.same s1
    obtain ⟨rk, k1, k2, k3⟩ := hra1.ex
    refine ⟨_, rfl, qa, _, 2, _, rfl, rfl, sqt_same s1 hq, atI_nat (j := 2) rfl, ra, rfl, ⟨_, k1⟩, fun D hD => ?_⟩
    refine lc_list (xs := rowRefs rk) (fun i H3 => Same H1 H3 ∧ H3 D = some (.lst (((rows.map fun row => row.any (rightB bs)).map V.bl).take i))) ⟨keepN hD, upd_same⟩ (fun i H3 _ p => p.1.seq k1) ?_ ?_
    · rintro i x H3 hx ⟨s3, hD3⟩
      obtain ⟨r, hr1, rfl⟩ := rowRefs_at hx
      have hrow := sqt_same s3 (k3 r (List.mem_of_getElem? hr1))
      have hm : r.2 ∈ rows := by
        rw [← k2]
        exact List.mem_map.mpr ⟨_, List.mem_of_getElem? hr1, rfl⟩
      obtain ⟨o1, o2⟩ := ok.2 _ hm
      have hri : rows[i]? = some r.2 := by
        rw [← k2, List.getElem?_map, hr1]
        rfl
      generalize r.2 = row at hrow o1 o2 hri
      refine ⟨rfl, _, rfl, _, rfl, ⟨_, hrow⟩, fun D2 hD2 => ?_⟩
      refine lc_tup (xs := row.map V.int) (fun j H4 => H4 = upd H3 D2 (.lst (((row.map (rightB bs)).map V.bl).take j))) rfl ?_ ?_ ?_
      · rintro j H4 _ rfl
        exact sqt_same (keepN hD2) hrow
      · rintro j y H4 hy rfl
        obtain ⟨i2, hy2, rfl⟩ := iL_at hy
        refine ⟨rfl, _, rfl, _, rfl, i2, bs, ta, rfl, ((s1.trans s3).trans (keepN hD2)).seq (.of hS), o2 _ (List.mem_of_getElem? hy2), _, upd_same, ?_, ?_⟩
        · rw [List.length_take, List.length_map, List.length_map]
          exact sz (by omega)
        · rw [upd_upd, take_snoc (x := V.bl (rightB bs i2))]
          rw [List.getElem?_map, List.getElem?_map, hy2]
          rfl
      · rintro H4 rfl
        rw [List.length_map, List.take_of_length_le (by simp)]
        refine ⟨D2, row.map (rightB bs), rfl, .of upd_same, ?_⟩
        have ne : D ≠ D2 := ne_of_none hD3 hD2
        refine ⟨_, by rw [upd_ne ne]; exact hD3, ?_, keepU (keepT s3 hD2) hD, ?_⟩
        · rw [List.length_take]
          have h100 := ok.1
          exact sz (by rw [List.length_map, List.length_map]; omega)
        · rw [upd_same, take_snoc (x := V.bl (row.any (rightB bs)))]
          · simp
          · rw [List.getElem?_map, List.getElem?_map, hri]
            rfl
    · rintro H3 ⟨s3, hD3⟩
      have hlr : (rowRefs rk).length = rows.length := by
        unfold rowRefs
        rw [← k2, List.length_map, List.length_map]
      rw [hlr, List.take_of_length_le (by simp)] at hD3
      refine ⟨D, rows.map fun row => row.any (rightB bs), rfl, .of hD3, ?_⟩
      have e : (rows.map fun row => row.any (rightB bs)).all id = holdB rows bs := by
        unfold holdB
        rw [List.all_map]
        rfl
      rw [e]
      exact q _ (s1.trans s3)
end
end Hm
set_option Elab.async false
set_option linter.all false
set_option maxRecDepth 100000
set_option maxHeartbeats 4000000
namespace Hm
open PySem PySem.Spec PyProof.Rows L2
/-! ### dicts by what they find -/
theorem putK_le {κ : Type} [DecidableEq κ] (kvs : List (κ × V)) (k : κ) (v : V) : (putK kvs k v).length ≤ kvs.length + 1 := by
  unfold putK
  split
  · rw [List.length_map]
    omega
  · rw [List.length_append]
    exact Nat.le_refl _
def keyP (q : Int × Int) : List Key := [.inl q.1, .inl q.2]
theorem keyP_inj {p q : Int × Int} (h : keyP p = keyP q) : p = q := by
  obtain ⟨a, b⟩ := p
  obtain ⟨c, d⟩ := q
  unfold keyP at h
  simp only [List.cons.injEq, Sum.inl.injEq, and_true] at h
  obtain ⟨rfl, rfl⟩ := h
  rfl
theorem pairO_key (q : Int × Int) : pairO q = .tup ((keyP q).map kV) := rfl
/-- a dict whose keys are the first i of these pairs (and perhaps others), each with the value v -/
structure Has (H : Hp) (d : Addr) (qs : List (Int × Int)) (v : V) (n : Nat) : Prop where
  ex : ∃ kvs : List (List Key × V), H d = some (.dT kvs) ∧ kvs.length ≤ n ∧ ∀ q ∈ qs, valV kvs (keyP q) = some v
theorem Has.nil {H : Hp} {d : Addr} {v : V} : Has (upd H d (.dT [])) d [] v 0 := ⟨[], upd_same, Nat.le_refl _, fun _ h => nomatch h⟩
theorem Has.same {H H' : Hp} {d : Addr} {qs : List (Int × Int)} {v : V} {n : Nat} (h : Has H d qs v n) (s : H' d = H d) : Has H' d qs v n := by
  obtain ⟨kvs, h1, h2, h3⟩ := h.ex
  exact ⟨kvs, s.trans h1, h2, h3⟩
theorem Has.sameS {H H' : Hp} {d : Addr} {qs : List (Int × Int)} {v : V} {n : Nat} (h : Has H d qs v n) (s : Same H H') : Has H' d qs v n := by
  obtain ⟨kvs, h1, h2, h3⟩ := h.ex
  exact ⟨kvs, s _ _ h1, h2, h3⟩
theorem Has.dict {H : Hp} {d : Addr} {qs : List (Int × Int)} {v : V} {n : Nat} (h : Has H d qs v n) : ∃ kvs, H d = some (.dT kvs) := by
  obtain ⟨kvs, h1, _⟩ := h.ex
  exact ⟨kvs, h1⟩
/-- d[k] = v -/
theorem Has.put {H : Hp} {d b : Addr} {qs : List (Int × Int)} {v : V} {n : Nat} {q : Int × Int} (h : Has H d qs v n) (hb : H b = some (pairO q)) (hn : n ≤ 100000) :
    ∃ H', DPut H d (.ref b) v H' ∧ Has H' d (qs ++ [q]) v (n + 1) ∧ ∀ c, c ≠ d → H' c = H c := by
  obtain ⟨kvs, h1, h2, h3⟩ := h.ex
  refine ⟨_, DPut.t (k := keyP q) h1 hb (sz (by omega)), ⟨putK kvs (keyP q) v, upd_same, Nat.le_trans (putK_le _ _ _) (by omega), fun p hp => ?_⟩, fun c hc => upd_ne hc⟩
  rw [valV_put]
  by_cases e : keyP p = keyP q
  · rw [if_pos e]
  · rw [if_neg e]
    rcases List.mem_append.mp hp with z | z
    · exact h3 p z
    · exact absurd (congrArg keyP (List.mem_singleton.mp z)) e
theorem Has.get {H : Hp} {d b : Addr} {qs : List (Int × Int)} {v : V} {n : Nat} {q : Int × Int} (h : Has H d qs v n) (hb : H b = some (pairO q)) (hq : q ∈ qs) : DGet H d (.ref b) (some v) := by
  obtain ⟨kvs, h1, h2, h3⟩ := h.ex
  rw [← h3 q hq]
  exact DGet.t (k := keyP q) h1 hb
theorem keepD {H0 H H' : Hp} {d : Addr} (s : Same H0 H) (hd : H0 d = none) (e : ∀ c, c ≠ d → H' c = H c) : Same H0 H' := fun b x hx => by
  rw [e b (ne_of_none hx hd)]
  exact s _ _ hx
/-! ### towns -/
def rangeI (n : Nat) : List Int := (List.range n).map fun i : Nat => (i : Int)
theorem rangeI_sorted (n : Nat) : (rangeI n).Pairwise (· ≤ ·) := by
  unfold rangeI
  rw [List.pairwise_map]
  exact List.Pairwise.imp (fun h => by omega) List.pairwise_lt_range
theorem sorted_same {a b : List Int} (hp : a.Perm b) (ha : a.Pairwise (· ≤ ·)) (hb : b.Pairwise (· ≤ ·)) : a = b :=
  hp.eq_of_pairwise (fun x y _ _ h1 h2 => Int.le_antisymm h1 h2) ha hb
theorem dpAll_ints (K : PySem.W.Frag) (H : Hp) : ∀ ns : List Int, DpAll K H (ns.map V.int) (ns.map PyData.int)
  | [] => .nil
  | n :: r => .cons (.int n) (dpAll_ints K H r)
theorem rgV_range (n : Nat) : rgV 0 (n : Int) = (rangeI n).map V.int := by
  unfold rgV rangeI
  rw [List.map_map]
  have e : ((n : Int) - 0).toNat = n := by omega
  rw [e]
  apply List.map_congr_left
  intro i _
  show V.int (0 + (i : Int)) = V.int i
  rw [Int.zero_add]
section
variable {P : Program} {w : World} {K : PySem.W.Frag} {mg : Str → Option Value} {base : Heap}
/-! ### all_once -/
def spOnce (K : PySem.W.Frag) : Sp := fun vs H Q _ => ∃ (n : Nat) (a : Addr) (ns : List Int), vs = [.int n, .ref a] ∧ SqL K H a (iL ns) ∧ ns.Perm (rangeI n) ∧ n ≤ 100000 ∧ ∀ H', Same H H' → Q (.bl true) H'
theorem ok_once (T : Tops K mg) : Cl P w K mg base 1 "all_once" (spOnce K) := by
  refine mkC T.fOnce scOnce (fun vs H Q E h => ?_) (fun f cdv A outer s H vs Q E hr h => ?_)
  · obtain ⟨n, a, ns, rfl, _⟩ := h
    rfl
  · obtain ⟨n, a, ns, rfl, hS, hp, hn, q⟩ := h
    refine ⟨_, pss_one (ps_ret (pe_cmpR (op_eqD hr.units) (pe_callB cr_sortedI (by rfl) T.b_sorted (by decide +kernel) (pa_cons (pv 1) pa_nil)) (pe_listRg (by rfl) (by rfl) T.b_list (prg_1 (by rfl) T.b_range (pv 0))) (nomark _))), ?_⟩
    refine ⟨_, rfl, a, ns, rfl, hS, fun ns' p hp' ho hpn => ?_⟩
    refine ⟨_, rfl, n, rfl, .of_le (by omega) (by omega) (by omega) (by omega), fun r hr0 => ?_⟩
    obtain rfl : ns' = rangeI n := sorted_same (hp'.trans hp) ho (rangeI_sorted n)
    rw [rgV_range]
    have ne : p ≠ r := fun z => by
      rw [← z, upd_same] at hr0
      cases hr0
    refine ⟨.list ((rangeI n).map PyData.int), .list ((rangeI n).map PyData.int), .lst (.of (by rw [upd_ne ne, upd_same])) (dpAll_ints _ _ _), .lst (.of upd_same) (dpAll_ints _ _ _), PySem.W.ke_shaped_ints _, PySem.W.ke_shaped_ints _, ?_⟩
    rw [SeqAt.eqv_refl _ (SeqAt.canLay_of_shaped (PySem.W.ke_shaped_ints _))]
    exact q _ (keepT (keepN hpn) hr0)
/-! ### rounds_hold -/
/-- a question of rounds, of a ring -/
structure RQ (K : PySem.W.Frag) (H : Hp) (qa : Addr) (n : Nat) (qs : List (Int × Int)) : Prop where
  ex : ∃ (z : Str) (wa : Addr), SqT K H qa [.str z, .int n, .ref wa] ∧ PL K H wa qs
theorem RQ.same {H H' : Hp} {qa : Addr} {n : Nat} {qs : List (Int × Int)} (h : RQ K H qa n qs) (s : Same H H') : RQ K H' qa n qs := by
  obtain ⟨z, wa, h1, h2⟩ := h.ex
  exact ⟨z, wa, sqt_same s h1, h2.same s⟩
def spRHold (K : PySem.W.Frag) : Sp := fun vs H Q _ => ∃ (qa a : Addr) (n : Nat) (qs : List (Int × Int)) (ns : List Int), vs = [.ref qa, .ref a] ∧ RQ K H qa n qs ∧ qs.length ≤ 10000 ∧ SqL K H a (iL ns) ∧ ns.Perm (rangeI n) ∧ n ≤ 10000 ∧
  (∀ st ∈ stepsI ns, st ∈ qs) ∧ ∀ H', Same H H' → Q (.bl true) H'
theorem ok_rHold (T : Tops K mg) : Cl P w K mg base 2 "rounds_hold" (spRHold K) := by
  have Co : Cl P w K mg base 1 "all_once" (spOnce K) := ok_once T
  have Cs : Cl P w K mg base 1 "steps_of" (spSteps K) := ok_steps T
  refine mkC T.fRHold scRHold (fun vs H Q E h => ?_) (fun f cdv A outer s H vs Q E hr h => ?_)
  · obtain ⟨qa, a, n, qs, ns, rfl, _⟩ := h
    rfl
  · obtain ⟨qa, a, n, qs, ns, rfl, ⟨z, wa, hq, hw⟩, hql, hS, hp, hn, hst, q⟩ := h
    refine ⟨_, pss_cons (ps_set (i := 2) scRHold.nd rfl (.inr rfl) pe_dnewT)
      (pss_cons (ps_for PassesOwn.never rfl (pi_list (pe_ix ix_tup (pv 0) pe_int (fun _ _ => rfl))) (pg_name (i := 3) scRHold.nd rfl (Or.inl rfl)) (pss_one (ps_dput (hu_of hr) (pv 2) (pv 3) pe_bl rfl)))
      (pss_one (ps_ret (pe_and (pe_k Co hr (pa_cons (pe_ix ix_tup (pv 0) pe_int (fun _ _ => rfl)) (pa_cons (pv 1) pa_nil)))
        (pe_one (pe_callB (cr_all rfl) (by rfl) T.b_all (by decide +kernel) (pa_cons (pe_lc (own := [("step", 4)]) (g := gName 4) (tt := tYes) (by rfl) scRHold.nd (pi_list (pe_k Cs hr (pa_cons (pv 1) pa_nil)))
          (blkOk_by (own := [("step", 4)]) (N := nRHold) (sc := defScope sRHold) (by decide +kernel))
          (fun _ _ _ _ _ => pg_name (i := 4) scRHold.nd rfl (Or.inl rfl)) (fun _ _ _ _ _ => pts_nil)
          (fun _ _ _ _ _ => pe_cmp (pc_din (hu_of hr) (pv 4) (pv 2)) rfl)) pa_nil))))))), ?_⟩
    -- led = {}
    intro d hd
    obtain ⟨ks, k1, k2, k3⟩ := hw.ex
    have s1 : Same H (upd H d (.dT [])) := keepN hd
    refine ⟨_, rfl, qa, _, 2, _, rfl, rfl, sqt_same s1 hq, atI_nat (j := 2) rfl, wa, rfl, ⟨_, s1.seq k1⟩, ?_⟩
    refine for_list (xs := refs ks) (fun i σ H3 => ∃ y3 y4, σ = [some (.ref qa), some (.ref a), some (.ref d), y3, y4] ∧ Same H H3 ∧ Has H3 d ((ks.take i).map (·.2)) (.bl true) i) ⟨none, none, rfl, s1, Has.nil⟩ ?_ ?_ ?_
    · rintro i σ H3 _ ⟨_, _, _, s3, _⟩
      exact s3.seq k1
    · rintro i x σ H3 hx ⟨y3, y4, rfl, s3, hh⟩
      obtain ⟨r, hr1, rfl⟩ := refs_at hx
      have hil : i < ks.length := (List.getElem?_eq_some_iff.mp hr1).1
      have hkl : ks.length = qs.length := by rw [← k2, List.length_map]
      obtain ⟨H4, p1, p2, p3⟩ := hh.put (q := r.2) (s3 _ _ (k3 r (List.mem_of_getElem? hr1))) (by omega)
      refine ⟨_, rfl, _, rfl, d, H4, rfl, p1, _, _, rfl, keepD s3 hd p3, ?_⟩
      rw [take_snoc hr1, List.map_append]
      exact p2
    · rintro σ H3 ⟨y3, y4, rfl, s3, hh⟩
      rw [List.take_of_length_le (by rw [refs_len]; exact Nat.le_refl _), k2] at hh
      refine ⟨_, rfl, qa, _, 1, _, rfl, rfl, sqt_same s3 hq, atI_nat (j := 1) rfl, _, rfl, n, a, ns, rfl, s3.seq hS, hp, by omega, fun H4 s4 => ?_⟩
      refine ⟨true, rfl, iteT ?_⟩
      have s5 : Same H H4 := s3.trans s4
      have hnl : ns.length = n := by
        rw [hp.length_eq]
        unfold rangeI
        rw [List.length_map, List.length_range]
      refine ⟨_, rfl, a, ns, rfl, s5.seq hS, by omega, fun H5 p s6 hpn js j1 j2 j3 => ?_⟩
      have hh5 : Has H5 d qs (.bl true) (refs ks).length := (hh.sameS s4).sameS s6
      refine ⟨p, rfl, ⟨_, .of j1⟩, fun D hD => ?_⟩
      refine lc_list (xs := refs js) (fun i H6 => H6 = upd H5 D (.lst (((List.replicate js.length true).map V.bl).take i))) rfl ?_ ?_ ?_
      · rintro i H6 _ rfl
        exact (keepN hD).seq (.of j1)
      · rintro i x H6 hx rfl
        obtain ⟨r, hr1, rfl⟩ := refs_at hx
        have hil : i < js.length := (List.getElem?_eq_some_iff.mp hr1).1
        have hjl : js.length = ns.length := by rw [← stepsI_len, ← j2, List.length_map]
        have hmem : r.2 ∈ qs := hst _ (by rw [← j2]; exact List.mem_map.mpr ⟨r, List.mem_of_getElem? hr1, rfl⟩)
        have hk : upd H5 D (.lst (((List.replicate js.length true).map V.bl).take i)) r.1 = some (pairO r.2) := by
          rw [upd_ne (ne_of_none (j3 r (List.mem_of_getElem? hr1)) hD)]
          exact j3 r (List.mem_of_getElem? hr1)
        have hh6 : Has (upd H5 D (.lst (((List.replicate js.length true).map V.bl).take i))) d qs (.bl true) (refs ks).length := hh5.sameS (keepN hD)
        refine ⟨rfl, _, rfl, _, rfl, d, _, rfl, hh6.get hk hmem, _, upd_same, ?_, ?_⟩
        · rw [List.length_take, List.length_map, List.length_replicate]
          exact sz (by omega)
        · rw [upd_upd, take_snoc (x := V.bl true)]
          · rfl
          · rw [List.getElem?_map, List.getElem?_replicate, if_pos hil]
            rfl
      · rintro H6 rfl
        rw [refs_len, List.take_of_length_le (by simp)]
        refine ⟨D, List.replicate js.length true, rfl, .of upd_same, ?_⟩
        have e : (List.replicate js.length true).all id = true := by simp
        rw [e]
        exact q _ (keepU (s5.trans s6) (s5.trans s6 |>.free hD))
end
end Hm
set_option Elab.async false
set_option linter.all false
set_option maxRecDepth 100000
set_option maxHeartbeats 4000000
namespace Hm
open PySem PySem.Spec PyProof.Rows L2
theorem pgT {X : Cx} {es : List Expr} {k : Nat} {t : TGs} {pos : Pos} (K : PySem.W.Frag) (n : Nat) (h : PGs X es t) (e : X.K = K := by rfl) (hc : X.calm = true := by rfl)
    (hn : (assignEach es X.env).length = n := by rfl) (hst : (assignEach es X.env).findIdx? (·.1) = none := by rfl) : PG X (.Tuple es k pos) (gTup K n t) := e ▸ pg_tup hc h hn hst
section
variable {P : Program} {w : World} {K : PySem.W.Frag} {mg : Str → Option Value} {base : Heap}
/-! ### ring_holds -/
def spGHold (K : PySem.W.Frag) : Sp := fun vs H Q _ => ∃ (qa a : Addr) (n : Nat) (qs : List (Int × Int)) (ns : List Int), vs = [.ref qa, .ref a] ∧ RQ K H qa n qs ∧ qs.length ≤ 10000 ∧ SqL K H a (iL ns) ∧ ns.Perm (rangeI n) ∧ n ≤ 10000 ∧
  (∀ st ∈ stepsI ns, eitherI st ∈ qs) ∧ ∀ H', Same H H' → Q (.bl true) H'
theorem ok_gHold (T : Tops K mg) : Cl P w K mg base 2 "ring_holds" (spGHold K) := by
  have Co : Cl P w K mg base 1 "all_once" (spOnce K) := ok_once T
  have Cs : Cl P w K mg base 1 "steps_of" (spSteps K) := ok_steps T
  have Ce : Cl P w K mg base 1 "either_way" spEither := ok_either T
  refine mkC T.fGHold scGHold (fun vs H Q E h => ?_) (fun f cdv A outer s H vs Q E hr h => ?_)
  · obtain ⟨qa, a, n, qs, ns, rfl, _⟩ := h
    rfl
  · obtain ⟨qa, a, n, qs, ns, rfl, ⟨z, wa, hq, hw⟩, hql, hS, hp, hn, hst, q⟩ := h
    refine ⟨_, pss_cons (ps_set (i := 2) scGHold.nd rfl (.inr rfl) pe_dnewT)
      (pss_cons (ps_for PassesOwn.never rfl (pi_list (pe_ix ix_tup (pv 0) pe_int (fun _ _ => rfl))) (pg_name (i := 3) scGHold.nd rfl (Or.inl rfl)) (pss_one (ps_dput (hu_of hr) (pv 2) (pv 3) pe_bl rfl)))
      (pss_one (ps_ret (pe_and (pe_k Co hr (pa_cons (pe_ix ix_tup (pv 0) pe_int (fun _ _ => rfl)) (pa_cons (pv 1) pa_nil)))
        (pe_one (pe_callB (cr_all rfl) (by rfl) T.b_all (by decide +kernel) (pa_cons (pe_lc (own := [("one", 4), ("other", 5)]) (tt := tYes) (by rfl) scGHold.nd (pi_list (pe_k Cs hr (pa_cons (pv 1) pa_nil)))
          (blkOk_by (own := [("one", 4), ("other", 5)]) (N := nGHold) (sc := defScope sGHold) (by decide +kernel))
          (fun _ _ _ _ _ => pgT K 2 (pgs_cons (pg_name (i := 4) scGHold.nd rfl (Or.inl rfl)) (pgs_cons (pg_name (i := 5) scGHold.nd rfl (Or.inl rfl)) pgs_nil))) (fun _ _ _ _ _ => pts_nil)
          (fun _ _ _ _ _ => pe_cmp (pc_din (hu_of hr) (pe_k Ce hr (pa_cons (pv 4) (pa_cons (pv 5) pa_nil))) (pv 2)) rfl)) pa_nil))))))), ?_⟩
    intro d hd
    obtain ⟨ks, k1, k2, k3⟩ := hw.ex
    have s1 : Same H (upd H d (.dT [])) := keepN hd
    refine ⟨_, rfl, qa, _, 2, _, rfl, rfl, sqt_same s1 hq, atI_nat (j := 2) rfl, wa, rfl, ⟨_, s1.seq k1⟩, ?_⟩
    refine for_list (xs := refs ks) (fun i σ H3 => ∃ y3, σ = [some (.ref qa), some (.ref a), some (.ref d), y3, none, none] ∧ Same H H3 ∧ Has H3 d ((ks.take i).map (·.2)) (.bl true) i) ⟨none, rfl, s1, Has.nil⟩ ?_ ?_ ?_
    · rintro i σ H3 _ ⟨_, _, s3, _⟩
      exact s3.seq k1
    · rintro i x σ H3 hx ⟨y3, rfl, s3, hh⟩
      obtain ⟨r, hr1, rfl⟩ := refs_at hx
      have hil : i < ks.length := (List.getElem?_eq_some_iff.mp hr1).1
      have hkl : ks.length = qs.length := by rw [← k2, List.length_map]
      obtain ⟨H4, p1, p2, p3⟩ := hh.put (q := r.2) (s3 _ _ (k3 r (List.mem_of_getElem? hr1))) (by omega)
      refine ⟨_, rfl, _, rfl, d, H4, rfl, p1, _, rfl, keepD s3 hd p3, ?_⟩
      rw [take_snoc hr1, List.map_append]
      exact p2
    · rintro σ H3 ⟨y3, rfl, s3, hh⟩
      rw [List.take_of_length_le (by rw [refs_len]; exact Nat.le_refl _), k2] at hh
      refine ⟨_, rfl, qa, _, 1, _, rfl, rfl, sqt_same s3 hq, atI_nat (j := 1) rfl, _, rfl, n, a, ns, rfl, s3.seq hS, hp, by omega, fun H4 s4 => ?_⟩
      refine ⟨true, rfl, iteT ?_⟩
      have s5 : Same H H4 := s3.trans s4
      have hnl : ns.length = n := by
        rw [hp.length_eq]
        unfold rangeI
        rw [List.length_map, List.length_range]
      refine ⟨_, rfl, a, ns, rfl, s5.seq hS, by omega, fun H5 p s6 hpn js j1 j2 j3 => ?_⟩
      have hh5 : Has H5 d qs (.bl true) (refs ks).length := (hh.sameS s4).sameS s6
      refine ⟨p, rfl, ⟨_, .of j1⟩, fun D hD => ?_⟩
      refine lc_list (xs := refs js) (fun i H6 => Same H5 H6 ∧ H6 D = some (.lst (((List.replicate js.length true).map V.bl).take i))) ⟨keepN hD, upd_same⟩ ?_ ?_ ?_
      · rintro i H6 _ ⟨s7, _⟩
        exact s7.seq (.of j1)
      · rintro i x H6 hx ⟨s7, hD6⟩
        obtain ⟨r, hr1, rfl⟩ := refs_at hx
        have hil : i < js.length := (List.getElem?_eq_some_iff.mp hr1).1
        have hjl : js.length = ns.length := by rw [← stepsI_len, ← j2, List.length_map]
        have hmem : eitherI r.2 ∈ qs := hst _ (by rw [← j2]; exact List.mem_map.mpr ⟨r, List.mem_of_getElem? hr1, rfl⟩)
        have hk := s7 _ _ (j3 r (List.mem_of_getElem? hr1))
        refine ⟨r.1, _, rfl, .of hk, rfl, _, _, rfl, _, _, rfl, rfl, rfl, ?_⟩
        refine ⟨_, rfl, _, rfl, r.2.1, r.2.2, rfl, fun t ht => ?_⟩
        have ne : D ≠ t := ne_of_none hD6 ht
        have hh6 : Has (upd H6 t (pairO (eitherI r.2))) d qs (.bl true) (refs ks).length := (hh5.sameS s7).sameS (keepN ht)
        refine ⟨_, rfl, d, _, rfl, hh6.get upd_same hmem, _, by rw [upd_ne ne]; exact hD6, ?_, keepU (keepT s7 ht) hD, ?_⟩
        · rw [List.length_take, List.length_map, List.length_replicate]
          exact sz (by omega)
        · rw [upd_same, take_snoc (x := V.bl true)]
          · rfl
          · rw [List.getElem?_map, List.getElem?_replicate, if_pos hil]
            rfl
      · rintro H6 ⟨s7, hD6⟩
        rw [refs_len, List.take_of_length_le (by simp)] at hD6
        refine ⟨D, List.replicate js.length true, rfl, .of hD6, ?_⟩
        have e : (List.replicate js.length true).all id = true := by simp
        rw [e]
        exact q _ ((s5.trans s6).trans s7)
/-! ### length_of, tour_holds -/
def roadO (q : Int × Int) : HO := .tup [.int q.1, .int q.2, .int 1]
/-- a tour of these roads, each of length 1, far 2, most n -/
structure TQ (K : PySem.W.Frag) (H : Hp) (qa : Addr) (n : Nat) (qs : List (Int × Int)) : Prop where
  ex : ∃ (z : Str) (wa : Addr), SqT K H qa [.str z, .int n, .ref wa, .int 2, .int n] ∧ ∃ ks : List PK, SqL K H wa (refs ks) ∧ ks.map (·.2) = qs ∧ ∀ x ∈ ks, H x.1 = some (roadO x.2)
theorem TQ.same {H H' : Hp} {qa : Addr} {n : Nat} {qs : List (Int × Int)} (h : TQ K H qa n qs) (s : Same H H') : TQ K H' qa n qs := by
  obtain ⟨z, wa, h1, ks, h2, h3, h4⟩ := h.ex
  exact ⟨z, wa, sqt_same s h1, ks, s.seq h2, h3, fun x hx => s _ _ (h4 x hx)⟩
def spLen (K : PySem.W.Frag) : Sp := fun vs H Q _ => ∃ (qa a : Addr) (n : Nat) (qs : List (Int × Int)) (ns : List Int), vs = [.ref qa, .ref a] ∧ TQ K H qa n qs ∧ qs.length ≤ 10000 ∧ SqL K H a (iL ns) ∧ ns.length ≤ 10000 ∧
  (∀ st ∈ stepsI ns, eitherI st ∈ qs) ∧ ∀ H', Same H H' → Q (.int ns.length) H'
theorem sum_ones (n : Nat) : (List.replicate n (1 : Int)).sum = n := by
  induction n with
  | zero => rfl
  | succ n ih =>
    rw [List.replicate_succ, List.sum_cons, ih]
    omega
theorem ok_len (T : Tops K mg) : Cl P w K mg base 2 "length_of" (spLen K) := by
  have Cs : Cl P w K mg base 1 "steps_of" (spSteps K) := ok_steps T
  have Ce : Cl P w K mg base 1 "either_way" spEither := ok_either T
  refine mkC T.fLen scLen (fun vs H Q E h => ?_) (fun f cdv A outer s H vs Q E hr h => ?_)
  · obtain ⟨qa, a, n, qs, ns, rfl, _⟩ := h
    rfl
  · obtain ⟨qa, a, n, qs, ns, rfl, ⟨z, wa, hq, ks, k1, k2, k3⟩, hql, hS, hnl, hst, q⟩ := h
    refine ⟨_, pss_cons (ps_set (i := 2) scLen.nd rfl (.inr rfl) pe_dnewT)
      (pss_cons (ps_for PassesOwn.never rfl (pi_list (pe_ix ix_tup (pv 0) pe_int (fun _ _ => rfl))) (pg_tup rfl (pgs_cons (pg_name (i := 3) scLen.nd rfl (Or.inl rfl)) (pgs_cons (pg_name (i := 4) scLen.nd rfl (Or.inl rfl)) (pgs_cons (pg_name (i := 5) scLen.nd rfl (Or.inl rfl)) pgs_nil))))
        (pss_one (ps_dput (hu_of hr) (pv 2) (pe_tup (pa_cons (pv 3) (pa_cons (pv 4) pa_nil))) (pv 5) rfl)))
      (pss_one (ps_ret (pe_callB (cr_sum rfl) (by rfl) T.b_sum (by decide +kernel) (pa_cons (pe_lc (own := [("one", 3), ("other", 4)]) (tt := tYes) (by rfl) scLen.nd (pi_list (pe_k Cs hr (pa_cons (pv 1) pa_nil)))
          (blkOk_by (own := [("one", 3), ("other", 4)]) (N := nLen) (sc := defScope sLen) (by decide +kernel))
          (fun _ _ _ _ _ => pgT K 2 (pgs_cons (pg_name (i := 3) scLen.nd rfl (Or.inl rfl)) (pgs_cons (pg_name (i := 4) scLen.nd rfl (Or.inl rfl)) pgs_nil))) (fun _ _ _ _ _ => pts_nil)
          (fun _ _ _ _ _ => pe_dget2 (hu_of hr) (pv 2) (pe_k Ce hr (pa_cons (pv 3) (pa_cons (pv 4) pa_nil))) (pe_ix (ixT K) (pv 0) pe_int (fun _ _ => rfl)) ⟨rfl, rfl, rfl, rfl⟩)) pa_nil))))), ?_⟩
    intro d hd
    have s1 : Same H (upd H d (.dT [])) := keepN hd
    refine ⟨_, rfl, qa, _, 2, _, rfl, rfl, sqt_same s1 hq, atI_nat (j := 2) rfl, wa, rfl, ⟨_, s1.seq k1⟩, ?_⟩
    refine for_list (xs := refs ks) (fun i σ H3 => ∃ y3 y4 y5, σ = [some (.ref qa), some (.ref a), some (.ref d), y3, y4, y5] ∧ Same H H3 ∧ Has H3 d ((ks.take i).map (·.2)) (.int 1) i) ⟨none, none, none, rfl, s1, Has.nil⟩ ?_ ?_ ?_
    · rintro i σ H3 _ ⟨_, _, _, _, s3, _⟩
      exact s3.seq k1
    · rintro i x σ H3 hx ⟨y3, y4, y5, rfl, s3, hh⟩
      obtain ⟨r, hr1, rfl⟩ := refs_at hx
      have hil : i < ks.length := (List.getElem?_eq_some_iff.mp hr1).1
      have hkl : ks.length = qs.length := by rw [← k2, List.length_map]
      have hk := s3 _ _ (k3 r (List.mem_of_getElem? hr1))
      refine ⟨r.1, _, rfl, .of hk, rfl, _, _, rfl, _, _, rfl, _, _, rfl, rfl, ?_⟩
      refine ⟨_, rfl, _, rfl, _, rfl, _, rfl, by show 2 ≤ sizeLine; decide, fun t ht => ?_⟩
      obtain ⟨H4, p1, p2, p3⟩ := (hh.sameS (keepN (o := pairO r.2) ht)).put (q := r.2) (b := t) upd_same (by omega)
      refine ⟨d, H4, rfl, p1, _, _, _, rfl, keepD (keepT s3 ht) hd p3, ?_⟩
      rw [take_snoc hr1, List.map_append]
      exact p2
    · rintro σ H3 ⟨y3, y4, y5, rfl, s3, hh⟩
      rw [List.take_of_length_le (by rw [refs_len]; exact Nat.le_refl _), k2] at hh
      refine ⟨_, rfl, a, ns, rfl, s3.seq hS, by omega, fun H5 p s6 hpn js j1 j2 j3 => ?_⟩
      have hh5 : Has H5 d qs (.int 1) (refs ks).length := hh.sameS s6
      have s5 : Same H H5 := s3.trans s6
      have hjl : js.length = ns.length := by rw [← stepsI_len, ← j2, List.length_map]
      refine ⟨p, rfl, ⟨_, .of j1⟩, fun D hD => ?_⟩
      refine lc_list (xs := refs js) (fun i H6 => Same H5 H6 ∧ H6 D = some (.lst (((List.replicate js.length (1 : Int)).map V.int).take i))) ⟨keepN hD, upd_same⟩ ?_ ?_ ?_
      · rintro i H6 _ ⟨s7, _⟩
        exact s7.seq (.of j1)
      · rintro i x H6 hx ⟨s7, hD6⟩
        obtain ⟨r, hr1, rfl⟩ := refs_at hx
        have hil : i < js.length := (List.getElem?_eq_some_iff.mp hr1).1
        have hmem : eitherI r.2 ∈ qs := hst _ (by rw [← j2]; exact List.mem_map.mpr ⟨r, List.mem_of_getElem? hr1, rfl⟩)
        have hk := s7 _ _ (j3 r (List.mem_of_getElem? hr1))
        have hh6 := hh5.sameS s7
        obtain ⟨kvs, hkv⟩ := hh6.dict
        refine ⟨r.1, _, rfl, .of hk, rfl, _, _, rfl, _, _, rfl, rfl, rfl, ?_⟩
        refine ⟨_, rfl, d, rfl, .inr ⟨kvs, .of hkv⟩, _, rfl, _, rfl, r.2.1, r.2.2, rfl, fun t ht => ?_⟩
        have ne : D ≠ t := ne_of_none hD6 ht
        have s8 : Same H (upd H6 t (pairO (eitherI r.2))) := s5.trans (keepT s7 ht)
        refine ⟨_, rfl, qa, _, 3, _, rfl, rfl, sqt_same s8 hq, atI_nat (j := 3) rfl, _, (hh6.sameS (keepN ht)).get upd_same hmem, _, by rw [upd_ne ne]; exact hD6, ?_, keepU (keepT s7 ht) hD, ?_⟩
        · rw [List.length_take, List.length_map, List.length_replicate]
          exact sz (by omega)
        · rw [upd_same, take_snoc (x := V.int 1)]
          · rfl
          · rw [List.getElem?_map, List.getElem?_replicate, if_pos hil]
            rfl
      · rintro H6 ⟨s7, hD6⟩
        rw [refs_len, List.take_of_length_le (by simp)] at hD6
        refine ⟨D, List.replicate js.length 1, rfl, .of hD6, ?_⟩
        rw [sum_ones, hjl]
        exact q _ (s5.trans s7)
def spTHold (K : PySem.W.Frag) : Sp := fun vs H Q _ => ∃ (qa a : Addr) (n : Nat) (qs : List (Int × Int)) (ns : List Int), vs = [.ref qa, .ref a] ∧ TQ K H qa n qs ∧ qs.length ≤ 10000 ∧ SqL K H a (iL ns) ∧ ns.Perm (rangeI n) ∧ n ≤ 10000 ∧
  (∀ st ∈ stepsI ns, eitherI st ∈ qs) ∧ ∀ H', Same H H' → Q (.bl true) H'
theorem rangeI_len (n : Nat) : (rangeI n).length = n := by
  unfold rangeI
  rw [List.length_map, List.length_range]
theorem ok_tHold (T : Tops K mg) : Cl P w K mg base 3 "tour_holds" (spTHold K) := by
  have Co : Cl P w K mg base 1 "all_once" (spOnce K) := ok_once T
  have Cl' : Cl P w K mg base 2 "length_of" (spLen K) := ok_len T
  refine mkC T.fTHold scTHold (fun vs H Q E h => ?_) (fun f cdv A outer s H vs Q E hr h => ?_)
  · obtain ⟨qa, a, n, qs, ns, rfl, _⟩ := h
    rfl
  · obtain ⟨qa, a, n, qs, ns, rfl, tq, hql, hS, hp, hn, hst, q⟩ := h
    obtain ⟨z, wa, hq, _⟩ := tq.ex
    refine ⟨_, pss_one (ps_ret (pe_and (pe_k Co hr (pa_cons (pe_ix ix_tup (pv 0) pe_int (fun _ _ => rfl)) (pa_cons (pv 1) pa_nil)))
      (pe_one (pe_cmpR op_le (pe_k Cl' hr (pa_cons (pv 0) (pa_cons (pv 1) pa_nil))) (pe_ix ix_tup (pv 0) pe_int (fun _ _ => rfl)) (nomark _))))), ?_⟩
    refine ⟨_, rfl, qa, _, 1, _, rfl, rfl, hq, atI_nat (j := 1) rfl, _, rfl, n, a, ns, rfl, hS, hp, by omega, fun H4 s4 => ?_⟩
    refine ⟨true, rfl, iteT ?_⟩
    have hnl : ns.length = n := by rw [hp.length_eq, rangeI_len]
    refine ⟨_, rfl, _, rfl, qa, a, n, qs, ns, rfl, tq.same s4, hql, s4.seq hS, by omega, hst, fun H5 s5 => ?_⟩
    refine ⟨_, rfl, qa, _, 4, _, rfl, rfl, sqt_same (s4.trans s5) hq, atI_nat (j := 4) rfl, _, _, rfl, rfl, ?_⟩
    have e : decide ((ns.length : Int) ≤ (n : Int)) = true := decide_eq_true (by omega)
    show Q (.bl (decide ((ns.length : Int) ≤ (n : Int)))) H5
    rw [e]
    exact q _ (s4.trans s5)
end
end Hm
set_option Elab.async false
set_option linter.all false
set_option maxRecDepth 100000
set_option maxHeartbeats 4000000
namespace Hm
open PySem PySem.Spec PyProof.Rows L2
/-- a list of new pairs that grows at D -/
structure Grow (H0 H : Hp) (D : Addr) (qs : List (Int × Int)) : Prop where
  same : Same H0 H
  ex : ∃ ks : List PK, H D = some (.lst (refs ks)) ∧ ks.map (·.2) = qs ∧ PairsAt H ks
theorem Grow.nil {H0 : Hp} {D : Addr} (h : H0 D = none) : Grow H0 (upd H0 D (.lst [])) D [] := ⟨keepN h, [], upd_same, rfl, fun _ z => nomatch z⟩
theorem Grow.at_ {H0 H : Hp} {D : Addr} {qs : List (Int × Int)} (g : Grow H0 H D qs) : ∃ xs, H D = some (.lst xs) ∧ xs.length = qs.length := by
  obtain ⟨ks, h1, h2, _⟩ := g.ex
  exact ⟨_, h1, by rw [refs_len, ← h2, List.length_map]⟩
theorem Grow.more {H0 H H' : Hp} {D : Addr} {qs : List (Int × Int)} (g : Grow H0 H D qs) (s : Same H H') : Grow H0 H' D qs := by
  obtain ⟨ks, h1, h2, h3⟩ := g.ex
  exact ⟨g.same.trans s, ks, s _ _ h1, h2, h3.same s⟩
theorem Grow.push {H0 H : Hp} {D T : Addr} {qs : List (Int × Int)} {q : Int × Int} (g : Grow H0 H D qs) (hT : H T = some (pairO q)) (h0 : H0 D = none) (hl : qs.length ≤ 100000) :
    ∃ acc, H D = some (.lst acc) ∧ acc.length < sizeLine ∧ Grow H0 (upd H D (.lst (acc ++ [.ref T]))) D (qs ++ [q]) := by
  obtain ⟨ks, h1, h2, h3⟩ := g.ex
  refine ⟨_, h1, ?_, keepU g.same h0, ks ++ [(T, q)], ?_, ?_, ?_⟩
  · rw [refs_len, ← List.length_map (f := (·.2)), h2]
    exact sz hl
  · rw [upd_same, refs_snoc]
  · rw [List.map_append, h2]
    rfl
  · exact (h3.snoc (x := (T, q)) hT).upd h1
theorem Grow.pl {H0 H : Hp} {D : Addr} {qs : List (Int × Int)} (g : Grow H0 H D qs) (K : PySem.W.Frag) : PL K H D qs := by
  obtain ⟨ks, h1, h2, h3⟩ := g.ex
  exact ⟨ks, .of h1, h2, h3⟩
def natP (a b : Nat) : Int × Int := ((a : Int), (b : Int))
section
variable {P : Program} {w : World} {K : PySem.W.Frag} {mg : Str → Option Value} {base : Heap}
/-! ### row_town -/
def spRTown (K : PySem.W.Frag) : Sp := fun vs H Q _ => ∃ (qa : Addr) (n j : Nat) (rows : List (List Int)), vs = [.ref qa, .int j] ∧ ClQ K H qa n rows ∧ rows.length ≤ 1000 ∧ n ≤ 1000 ∧ Q (.int ((n * (3 * rows.length + 2) + j : Nat) : Int)) H
theorem RowsAt.len {H : Hp} {ra : Addr} {rows : List (List Int)} (h : RowsAt K H ra rows) : ∃ xs, SqL K H ra xs ∧ xs.length = rows.length := by
  obtain ⟨rk, k1, k2, _⟩ := h.ex
  exact ⟨_, k1, by rw [← k2]; unfold rowRefs; rw [List.length_map, List.length_map]⟩
theorem ok_rTown (T : Tops K mg) : Cl P w K mg base 2 "row_town" (spRTown K) := by
  have Cg : Cl P w K mg base 1 "gate" spGate := ok_gate T
  refine mkC T.fRTown scRTown (fun vs H Q E h => ?_) (fun f cdv A outer s H vs Q E hr h => ?_)
  · obtain ⟨qa, n, j, rows, rfl, _⟩ := h
    rfl
  · obtain ⟨qa, n, j, rows, rfl, ⟨z, ra, hq, hra⟩, hm, hn, q⟩ := h
    obtain ⟨xs, x1, x2⟩ := hra.len
    refine ⟨_, pss_one (ps_ret (pe_op op_add (pe_k Cg hr (pa_cons (pe_callB call_len_seq (by rfl) T.b_len PySem.boot_len (pa_cons (pe_ix ix_tup (pv 0) pe_int (fun _ _ => rfl)) pa_nil)) (pa_cons (pe_ix ix_tup (pv 0) pe_int (fun _ _ => rfl)) pa_nil))) (pv 1))), ?_⟩
    refine ⟨_, rfl, qa, _, 2, _, rfl, rfl, hq, atI_nat (j := 2) rfl, ra, xs, rfl, .inl x1, _, rfl, qa, _, 1, _, rfl, rfl, hq, atI_nat (j := 1) rfl, rows.length, n, by rw [x2]; rfl, hm, hn, ?_⟩
    refine ⟨_, rfl, _, _, rfl, rfl, ?_⟩
    have e : ((n * (3 * rows.length + 2) + j : Nat) : Int) = ((gateN rows.length n : Nat) : Int) + (j : Int) := by
      unfold gateN
      exact Int.natCast_add _ _
    rw [e] at q
    exact q
/-! ### detour -/
def detI (m j : Nat) (s : Int) : Int × Int := if 0 < s then natP (strN m (nameOf s) (3 * j + 1)) (strN m (nameOf s) (3 * j + 2)) else natP (strN m (nameOf s) (3 * j + 2)) (strN m (nameOf s) (3 * j + 1))
def spDetour (K : PySem.W.Frag) : Sp := fun vs H Q _ => ∃ (qa : Addr) (n j : Nat) (i : Int) (rows : List (List Int)), vs = [.ref qa, .int j, .int i] ∧ ClQ K H qa n rows ∧ rows.length ≤ 1000 ∧ n ≤ 1000 ∧ j ≤ 1000 ∧ OkSign n i ∧
  ∀ p, H p = none → Q (.ref p) (upd H p (pairO (detI rows.length j i)))
theorem ok_detour (T : Tops K mg) : Cl P w K mg base 2 "detour" (spDetour K) := by
  have Cs : Cl P w K mg base 1 "street" spStreet := ok_street T
  refine mkC T.fDetour scDetour (fun vs H Q E h => ?_) (fun f cdv A outer s H vs Q E hr h => ?_)
  · obtain ⟨qa, n, j, i, rows, rfl, _⟩ := h
    rfl
  · obtain ⟨qa, n, j, i, rows, rfl, ⟨z, ra, hq, hra⟩, hm, hn, hj, hi, q⟩ := h
    obtain ⟨xs, x1, x2⟩ := hra.len
    refine ⟨_, pss_cons (ps_set (i := 3) scDetour.nd rfl (.inl rfl) (pe_k Cs hr (pa_cons (pe_callB call_len_seq (by rfl) T.b_len PySem.boot_len (pa_cons (pe_ix ix_tup (pv 0) pe_int (fun _ _ => rfl)) pa_nil))
        (pa_cons (pe_op op_sub (pe_callB call_abs (by rfl) T.b_abs (by decide +kernel) (pa_cons (pv 2) pa_nil)) pe_int) (pa_cons (pe_op op_add (pe_op op_mul pe_int (pv 1)) pe_int) pa_nil)))))
      (pss_cons (ps_if (pt_cmpR op_gt (pv 2) pe_int (nomark _)) (pss_one (ps_ret (pe_tup (pa_cons (pv 3) (pa_cons (pe_op op_add (pv 3) pe_int) pa_nil))))) pss_nil)
      (pss_one (ps_ret (pe_tup (pa_cons (pe_op op_add (pv 3) pe_int) (pa_cons (pv 3) pa_nil)))))), ?_⟩
    have en : (if i < 0 then -i else i) - 1 = ((nameOf i : Nat) : Int) := by
      unfold nameOf
      rcases hi with o | o
      · rw [if_neg (by omega)]
        omega
      · rw [if_pos (by omega)]
        omega
    have et : (3 : Int) * (j : Int) + 1 = ((3 * j + 1 : Nat) : Int) := by omega
    have eu : ((strN rows.length (nameOf i) (3 * j + 1) : Nat) : Int) + 1 = ((strN rows.length (nameOf i) (3 * j + 2) : Nat) : Int) := by
      unfold strN
      omega
    refine ⟨_, rfl, qa, _, 2, _, rfl, rfl, hq, atI_nat (j := 2) rfl, ra, xs, rfl, .inl x1, _, rfl, i, rfl, _, 1, rfl, rfl, _, rfl, 3, _, rfl, rfl, .inl ⟨by decide, by decide⟩, _, 1, rfl, rfl, rows.length, nameOf i, 3 * j + 1, ?_, hm, ?_, ?_⟩
    · show [V.int xs.length, V.int ((if i < 0 then -i else i) - 1), V.int (3 * (j : Int) + 1)] ++ [] = _
      rw [x2, en, et]
      rfl
    · unfold nameOf
      rcases hi with o | o <;> omega
    refine ⟨_, rfl, i, 0, rfl, rfl, _, rfl, ite2 (fun c => ?_) (fun c => ?_)⟩
    · have c' : 0 < i := of_decide_eq_true c
      refine ⟨_, rfl, _, rfl, _, 1, rfl, rfl, by show 2 ≤ sizeLine; decide, fun p hp => ?_⟩
      have e := q p hp
      unfold detI at e
      rw [if_pos c'] at e
      exact e
    · have c' : ¬ 0 < i := fun z => c (decide_eq_true z)
      refine ⟨_, rfl, _, 1, rfl, rfl, _, rfl, by show 2 ≤ sizeLine; decide, fun p hp => ?_⟩
      have e := q p hp
      unfold detI at e
      rw [if_neg c'] at e
      exact e
/-! ### street_ways -/
def endsL (n m k : Nat) (l : List Nat) : List (Int × Int) := l.flatMap fun e => [natP (gateN m k) e, natP e (gateN m ((k + 1) % n))]
theorem endsL_len (n m k : Nat) : ∀ l : List Nat, (endsL n m k l).length = 2 * l.length
  | [] => rfl
  | e :: l => by
    have h : endsL n m k (e :: l) = natP (gateN m k) e :: natP e (gateN m ((k + 1) % n)) :: endsL n m k l := rfl
    rw [h, List.length_cons, List.length_cons, endsL_len n m k l, List.length_cons]
    omega
def upsL (m k i : Nat) : List (Int × Int) := (List.range i).flatMap fun t => [natP (strN m k t) (strN m k (t + 1)), natP (strN m k (t + 1)) (strN m k t)]
def swL (n m k : Nat) : List (Int × Int) := endsL n m k [strN m k 0, strN m k (3 * m)] ++ upsL m k (3 * m)
theorem upsL_len (m k : Nat) : ∀ i, (upsL m k i).length = 2 * i
  | 0 => rfl
  | i + 1 => by
    have e : upsL m k (i + 1) = upsL m k i ++ [natP (strN m k i) (strN m k (i + 1)), natP (strN m k (i + 1)) (strN m k i)] := by
      unfold upsL
      rw [List.range_succ, List.flatMap_append]
      simp
    rw [e, List.length_append, upsL_len m k i]
    simp
    omega
theorem upsL_succ (m k i : Nat) : upsL m k (i + 1) = upsL m k i ++ [natP (strN m k i) (strN m k (i + 1))] ++ [natP (strN m k (i + 1)) (strN m k i)] := by
  unfold upsL
  rw [List.range_succ, List.flatMap_append]
  simp
theorem swL_len (n m k : Nat) : (swL n m k).length = 4 + 6 * m := by
  unfold swL
  rw [List.length_append, upsL_len]
  show 4 + 2 * (3 * m) = 4 + 6 * m
  omega
def spSWays (K : PySem.W.Frag) : Sp := fun vs H Q _ => ∃ (qa : Addr) (n k : Nat) (rows : List (List Int)), vs = [.ref qa, .int k] ∧ ClQ K H qa n rows ∧ rows.length ≤ 1000 ∧ n ≤ 1000 ∧ k < n ∧
  ∀ H' p, H p = none → Grow H H' p (swL n rows.length k) → Q (.ref p) H'
theorem ok_sWays (T : Tops K mg) : Cl P w K mg base 2 "street_ways" (spSWays K) := by
  have Cg : Cl P w K mg base 1 "gate" spGate := ok_gate T
  have Cs : Cl P w K mg base 1 "street" spStreet := ok_street T
  refine mkC T.fSWays scSWays (fun vs H Q E h => ?_) (fun f cdv A outer s H vs Q E hr h => ?_)
  · obtain ⟨qa, n, k, rows, rfl, _⟩ := h
    rfl
  · obtain ⟨qa, n, k, rows, rfl, ⟨z, ra, hq, hra⟩, hm, hn, hk, q⟩ := h
    obtain ⟨xs, x1, x2⟩ := hra.len
    refine ⟨_, pss_cons (ps_set (i := 2) scSWays.nd rfl (.inl rfl) (pe_callB call_len_seq (by rfl) T.b_len PySem.boot_len (pa_cons (pe_ix ix_tup (pv 0) pe_int (fun _ _ => rfl)) pa_nil)))
      (pss_cons (ps_set (i := 3) scSWays.nd rfl (.inl rfl) (pe_k Cg hr (pa_cons (pv 2) (pa_cons (pe_op op_mod (pe_op op_add (pv 1) pe_int) (pe_ix ix_tup (pv 0) pe_int (fun _ _ => rfl))) pa_nil))))
      (pss_cons (ps_set (i := 4) scSWays.nd rfl (.inl rfl) (pe_lst pa_nil))
      (pss_cons (ps_for PassesOwn.never rfl (pi_tup (pe_tup (pa_cons (pe_k Cs hr (pa_cons (pv 2) (pa_cons (pv 1) (pa_cons pe_int pa_nil)))) (pa_cons (pe_k Cs hr (pa_cons (pv 2) (pa_cons (pv 1) (pa_cons (pe_op op_mul pe_int (pv 2)) pa_nil)))) pa_nil)))) (pg_name (i := 5) scSWays.nd rfl (Or.inl rfl))
        (pss_cons (ps_expr (pe_bm PySem.F.plainAttrs_list PySem.F.slot_list_append PySem.F.type_list_append mt_append (pv 4) (pa_cons (pe_tup (pa_cons (pe_k Cg hr (pa_cons (pv 2) (pa_cons (pv 1) pa_nil))) (pa_cons (pv 5) pa_nil))) pa_nil)))
        (pss_one (ps_expr (pe_bm PySem.F.plainAttrs_list PySem.F.slot_list_append PySem.F.type_list_append mt_append (pv 4) (pa_cons (pe_tup (pa_cons (pv 5) (pa_cons (pv 3) pa_nil))) pa_nil))))))
      (pss_cons (ps_for PassesOwn.never rfl (pi_range1 rfl T.b_range (pa_cons (pe_op op_mul pe_int (pv 2)) pa_nil)) (pg_name (i := 6) scSWays.nd rfl (Or.inl rfl))
        (pss_cons (ps_set (i := 7) scSWays.nd rfl (.inl rfl) (pe_k Cs hr (pa_cons (pv 2) (pa_cons (pv 1) (pa_cons (pv 6) pa_nil)))))
        (pss_cons (ps_expr (pe_bm PySem.F.plainAttrs_list PySem.F.slot_list_append PySem.F.type_list_append mt_append (pv 4) (pa_cons (pe_tup (pa_cons (pv 7) (pa_cons (pe_op op_add (pv 7) pe_int) pa_nil))) pa_nil)))
        (pss_one (ps_expr (pe_bm PySem.F.plainAttrs_list PySem.F.slot_list_append PySem.F.type_list_append mt_append (pv 4) (pa_cons (pe_tup (pa_cons (pe_op op_add (pv 7) pe_int) (pa_cons (pv 7) pa_nil))) pa_nil)))))))
      (pss_one (ps_ret (pv 4))))))), ?_⟩
    generalize hM : rows.length = m at *
    have e2 : V.int (xs.length : Int) = V.int (m : Int) := by rw [x2]
    have e3 : (3 : Int) * (m : Int) = ((3 * m : Nat) : Int) := by omega
    have ef : ((k : Int) + 1) % (n : Int) = (((k + 1) % n : Nat) : Int) := by
      rw [Int.natCast_emod]
      rfl
    refine ⟨_, rfl, qa, _, 2, _, rfl, rfl, hq, atI_nat (j := 2) rfl, ra, xs, rfl, .inl x1, ?_⟩
    rw [e2]
    refine ⟨_, rfl, _, rfl, _, 1, rfl, rfl, _, rfl, qa, _, 1, _, rfl, rfl, hq, atI_nat (j := 1) rfl, _, _, rfl, rfl, by omega, m, (k + 1) % n, ?_, hm, ?_, ?_⟩
    · show [V.int m, V.int (((k : Int) + 1) % (n : Int))] ++ [] = _
      rw [ef]
      rfl
    · exact Nat.le_trans (Nat.le_of_lt (Nat.mod_lt _ (by omega))) hn
    refine ⟨Nat.zero_le _, fun D hD => ?_⟩
    refine ⟨_, rfl, _, rfl, m, k, 0, rfl, hm, by omega, _, rfl, _, rfl, _, rfl, 3, _, rfl, rfl, .inl ⟨by decide, by decide⟩, m, k, 3 * m, ?_, hm, by omega, ?_⟩
    · show [V.int m, V.int k, V.int (3 * (m : Int))] ++ [] = _
      rw [e3]
      rfl
    refine ⟨by show 2 ≤ sizeLine; decide, fun t ht => ?_⟩
    refine ⟨t, rfl, ⟨_, .of upd_same⟩, ?_⟩
    have g0 : Grow H (upd (upd H D (.lst [])) t (.tup [.int (strN m k 0 : Nat), .int (strN m k (3 * m) : Nat)])) D [] := (Grow.nil hD).more (keepN ht)
    refine for_tup (xs := [.int (strN m k 0 : Nat), .int (strN m k (3 * m) : Nat)]) (fun i σ H3 => ∃ y5, σ = [some (.ref qa), some (.int k), some (.int m), some (.int (gateN m ((k + 1) % n) : Nat)), some (.ref D), y5, none, none] ∧
      Grow H H3 D (endsL n m k ([strN m k 0, strN m k (3 * m)].take i)) ∧ H3 t = some (.tup [.int (strN m k 0 : Nat), .int (strN m k (3 * m) : Nat)])) ⟨none, rfl, g0, upd_same⟩ (fun i σ H3 _ ⟨_, _, _, p⟩ => .of p) ?_ ?_
    · rintro i x σ H3 hx ⟨y5, rfl, g, ht3⟩
      obtain ⟨e, he, rfl⟩ : ∃ e : Nat, [strN m k 0, strN m k (3 * m)][i]? = some e ∧ x = .int e := by
        match i, hx with
        | 0, hx => exact ⟨_, rfl, (Option.some.inj hx).symm⟩
        | 1, hx => exact ⟨_, rfl, (Option.some.inj hx).symm⟩
        | i + 2, hx => simp at hx
      have hlen : (endsL n m k ([strN m k 0, strN m k (3 * m)].take i)).length ≤ 100 := by
        rw [endsL_len, List.length_take]
        have h2 : min i [strN m k 0, strN m k (3 * m)].length ≤ 2 := Nat.min_le_right _ _
        omega
      obtain ⟨ys, y1, _⟩ := g.at_
      refine ⟨_, rfl, .inl ⟨rfl, _, .of y1⟩, _, rfl, _, rfl, m, k, rfl, hm, by omega, _, rfl, by show 2 ≤ sizeLine; decide, fun t2 ht2 => ?_⟩
      have ne2 : t ≠ t2 := ne_of_none ht3 ht2
      obtain ⟨acc, a1, a2, a3⟩ := (g.more (keepN (o := pairO (natP (gateN m k) e)) ht2)).push upd_same hD (by omega)
      refine ⟨D, acc, _, rfl, rfl, a1, a2, ?_⟩
      obtain ⟨ys2, y2, _⟩ := a3.at_
      have hneD : t ≠ D := ne_of ht3 y1 (fun z => nomatch z)
      have ht4 : upd (upd H3 t2 (pairO (natP (gateN m k) e))) D (.lst (acc ++ [V.ref t2])) t = some (.tup [.int (strN m k 0 : Nat), .int (strN m k (3 * m) : Nat)]) := by
        rw [upd_ne hneD, upd_ne ne2]
        exact ht3
      refine ⟨_, rfl, .inl ⟨rfl, _, .of y2⟩, _, rfl, _, rfl, by show 2 ≤ sizeLine; decide, fun t3 ht3' => ?_⟩
      obtain ⟨acc2, b1, b2, b3⟩ := (a3.more (keepN (o := pairO (natP e (gateN m ((k + 1) % n)))) ht3')).push upd_same hD (by rw [List.length_append]; show _ + 1 ≤ _; omega)
      refine ⟨D, acc2, _, rfl, rfl, b1, b2, _, rfl, ?_, ?_⟩
      · rw [take_snoc he]
        have e5 : endsL n m k (List.take i [strN m k 0, strN m k (3 * m)] ++ [e]) = endsL n m k (List.take i [strN m k 0, strN m k (3 * m)]) ++ [natP (gateN m k) e] ++ [natP e (gateN m ((k + 1) % n))] := by
          unfold endsL
          rw [List.flatMap_append]
          simp
        rw [e5]
        exact b3
      · rw [upd_ne hneD, upd_ne (ne_of_none ht4 ht3')]
        exact ht4
    · rintro σ H3 ⟨y5, rfl, g, _⟩
      refine ⟨_, rfl, 3, _, rfl, rfl, .inl ⟨by decide, by decide⟩, _, rfl, ?_, ?_, ?_⟩
      · show -(2 ^ 62) ≤ (3 : Int) * (m : Int)
        omega
      · show (3 : Int) * (m : Int) < 2 ^ 62
        omega
      have en : ((3 : Int) * (m : Int)).toNat = 3 * m := by omega
      show ∃ W, _
      rw [show ((fun i j : Int => i * j) 3 (m : Int)).toNat = 3 * m from en]
      refine for_r0 (n := 3 * m) (fun i σ H4 => ∃ y6 y7, σ = [some (.ref qa), some (.int k), some (.int m), some (.int (gateN m ((k + 1) % n) : Nat)), some (.ref D), y5, y6, y7] ∧
        Grow H H4 D (endsL n m k [strN m k 0, strN m k (3 * m)] ++ upsL m k i)) ⟨none, none, rfl, by
          have e6 : upsL m k 0 = [] := rfl
          rw [e6, List.append_nil]
          exact g⟩ ?_ ?_
      · rintro i σ H4 hi ⟨y6, y7, rfl, g4⟩
        have hl4 : (endsL n m k [strN m k 0, strN m k (3 * m)] ++ upsL m k i).length = 4 + 2 * i := by
          rw [List.length_append, upsL_len]
          rfl
        have eu : ((strN m k i : Nat) : Int) + 1 = ((strN m k (i + 1) : Nat) : Int) := by
          unfold strN
          omega
        refine ⟨_, rfl, _, rfl, _, rfl, m, k, i, rfl, hm, by omega, ?_⟩
        obtain ⟨ys, y1, _⟩ := g4.at_
        refine ⟨_, rfl, .inl ⟨rfl, _, .of y1⟩, _, rfl, _, rfl, _, 1, rfl, rfl, by show 2 ≤ sizeLine; decide, fun t2 ht2 => ?_⟩
        obtain ⟨acc, a1, a2, a3⟩ := (g4.more (keepN (o := pairO (natP (strN m k i) (strN m k (i + 1)))) ht2)).push upd_same hD (by omega)
        refine ⟨D, acc, _, rfl, rfl, a1, a2, ?_⟩
        obtain ⟨ys2, y2, _⟩ := a3.at_
        refine ⟨_, rfl, .inl ⟨rfl, _, .of y2⟩, _, rfl, _, 1, rfl, rfl, _, rfl, by show 2 ≤ sizeLine; decide, fun t3 ht3' => ?_⟩
        obtain ⟨acc2, b1, b2, b3⟩ := (a3.more (keepN (o := pairO (natP (strN m k (i + 1)) (strN m k i))) ht3')).push upd_same hD (by rw [List.length_append]; show _ + 1 ≤ _; omega)
        refine ⟨D, acc2, _, rfl, rfl, b1, b2, _, _, rfl, ?_⟩
        rw [upsL_succ, ← List.append_assoc, ← List.append_assoc]
        exact b3
      · rintro σ H4 ⟨y6, y7, rfl, g4⟩
        exact ⟨_, rfl, q _ D hD g4⟩
end
end Hm
set_option Elab.async false
set_option linter.all false
set_option maxRecDepth 100000
set_option maxHeartbeats 4000000
/-! Sets of pairs of more than sixty-three: the table's slots are all met, whatever its mask. -/
namespace Hm
open PySem PySem.Spec PyProof.Rows L2
/-! ### x -> 5 x + 1 goes through all rests of a power of two -/
def geo : Nat → Nat
  | 0 => 0
  | k + 1 => geo k * 5 + 1
theorem geo_pow : ∀ n, 4 * geo n + 1 = 5 ^ n
  | 0 => rfl
  | n + 1 => by
    rw [Nat.pow_succ, ← geo_pow n]
    show 4 * (geo n * 5 + 1) + 1 = (4 * geo n + 1) * 5
    omega
theorem geo_add (a b : Nat) : geo (a + b) = geo a + geo b + 4 * (geo a * geo b) := by
  have h1 := geo_pow (a + b)
  rw [Nat.pow_add, ← geo_pow a, ← geo_pow b, Nat.add_mul, Nat.mul_add, Nat.mul_one, Nat.one_mul] at h1
  have e : 4 * geo a * (4 * geo b) = 16 * (geo a * geo b) := by
    rw [Nat.mul_mul_mul_comm]
  omega
theorem geo_two : ∀ k, ∃ c, geo (2 ^ k) = 2 ^ k * (2 * c + 1)
  | 0 => ⟨0, rfl⟩
  | k + 1 => by
    obtain ⟨c, hc⟩ := geo_two k
    have e : geo (2 ^ (k + 1)) = 2 * geo (2 ^ k) * (1 + 2 * geo (2 ^ k)) := by
      rw [Nat.pow_succ, Nat.mul_two, geo_add, Nat.mul_add, Nat.mul_one, Nat.mul_mul_mul_comm]
      omega
    refine ⟨c + geo (2 ^ k) * (2 * c + 1), ?_⟩
    rw [e]
    have e2 : 2 * geo (2 ^ k) = 2 ^ (k + 1) * (2 * c + 1) := by
      rw [hc, Nat.pow_succ, Nat.mul_comm (2 ^ k) 2, Nat.mul_assoc]
    rw [e2, Nat.mul_assoc]
    congr 1
    rw [← e2, Nat.mul_add, Nat.mul_one]
    have e3 : (2 * c + 1) * (2 * geo (2 ^ k)) = 2 * (geo (2 ^ k) * (2 * c + 1)) := by
      rw [Nat.mul_comm, Nat.mul_assoc]
    omega
theorem geo_turn (k b : Nat) : geo (2 ^ k + b) % 2 ^ k = geo b % 2 ^ k := by
  obtain ⟨c, hc⟩ := geo_two k
  have e : geo (2 ^ k + b) = geo b + 2 ^ k * ((2 * c + 1) + 4 * ((2 * c + 1) * geo b)) := by
    have e1 : 2 ^ k * ((2 * c + 1) + 4 * ((2 * c + 1) * geo b)) = 2 ^ k * (2 * c + 1) + 4 * (2 ^ k * (2 * c + 1) * geo b) := by
      rw [Nat.mul_add, Nat.mul_left_comm (2 ^ k) 4, Nat.mul_assoc (2 ^ k)]
    rw [geo_add, hc, e1]
    omega
  rw [e, Nat.add_mul_mod_self_left]
theorem geo_half (k b : Nat) : geo (2 ^ k + b) % 2 ^ (k + 1) = (geo b + 2 ^ k) % 2 ^ (k + 1) := by
  obtain ⟨c, hc⟩ := geo_two k
  have e : geo (2 ^ k + b) = (geo b + 2 ^ k) + 2 ^ (k + 1) * (c + 2 * ((2 * c + 1) * geo b)) := by
    have e1 : 2 ^ (k + 1) * (c + 2 * ((2 * c + 1) * geo b)) = 2 ^ k * (2 * c) + 4 * (2 ^ k * ((2 * c + 1) * geo b)) := by
      rw [Nat.pow_succ, Nat.mul_assoc, Nat.mul_add, Nat.mul_add, Nat.mul_left_comm 4]
      congr 2
      omega
    have e2 : 2 ^ k * (2 * c + 1) = 2 ^ k * (2 * c) + 2 ^ k := by rw [Nat.mul_add, Nat.mul_one]
    rw [geo_add, hc, e1, Nat.mul_assoc, e2]
    omega
  rw [e, Nat.add_mul_mod_self_left]
theorem geo_all : ∀ k j, j < 2 ^ k → ∃ b, b < 2 ^ k ∧ geo b % 2 ^ k = j
  | 0, j, h => ⟨0, by decide, by
    have h' : j < 1 := h
    show 0 % 1 = j
    omega⟩
  | k + 1, j, h => by
    have hp : 2 ^ (k + 1) = 2 * 2 ^ k := by rw [Nat.pow_succ, Nat.mul_comm]
    obtain ⟨b, hb, e⟩ := geo_all k (j % 2 ^ k) (Nat.mod_lt _ (Nat.two_pow_pos k))
    have m1 : geo b % 2 ^ (k + 1) % 2 ^ k = j % 2 ^ k := by
      rw [Nat.mod_mod_of_dvd _ ⟨2, by rw [Nat.pow_succ]⟩, e]
    have lt1 : geo b % 2 ^ (k + 1) < 2 ^ (k + 1) := Nat.mod_lt _ (Nat.two_pow_pos _)
    have h2 := geo_half k b
    rw [Nat.add_mod] at h2
    have lt2 : 2 ^ k < 2 ^ (k + 1) := by
      have := Nat.two_pow_pos k
      omega
    rw [Nat.mod_eq_of_lt lt2] at h2
    have hpos := Nat.two_pow_pos k
    have cut : ∀ x, x < 2 * 2 ^ k → x % 2 ^ k = if x < 2 ^ k then x else x - 2 ^ k := by
      intro x hx
      split
      · exact Nat.mod_eq_of_lt ‹_›
      · rw [Nat.mod_eq_sub_mod (by omega), Nat.mod_eq_of_lt (by omega)]
    rw [hp] at lt1 h h2
    rw [hp] at m1
    generalize hr : geo b % (2 * 2 ^ k) = r at *
    generalize 2 ^ k = M at *
    rw [cut r lt1, cut j h] at m1
    by_cases c : r = j
    · exact ⟨b, by omega, by rw [hp]; exact hr.trans c⟩
    · refine ⟨M + b, by omega, ?_⟩
      rw [hp, h2]
      by_cases c1 : r < M
      · rw [if_pos c1] at m1
        split at m1
        · omega
        · rw [Nat.mod_eq_of_lt (by omega)]
          omega
      · rw [if_neg c1] at m1
        split at m1
        · rw [Nat.mod_eq_sub_mod (by omega), Nat.mod_eq_of_lt (by omega)]
          omega
        · omega
/-- the masks that come -/
def BigM (m : Nat) : Prop := m = 7 ∨ m = 31 ∨ m = 127 ∨ m = 511 ∨ m = 2047
theorem BigM.pow {m : Nat} (h : BigM m) : ∃ k, m + 1 = 2 ^ k := by
  rcases h with e | e | e | e | e
  · exact ⟨3, by rw [e]⟩
  · exact ⟨5, by rw [e]⟩
  · exact ⟨7, by rw [e]⟩
  · exact ⟨9, by rw [e]⟩
  · exact ⟨11, by rw [e]⟩
theorem BigM.le {m : Nat} (h : BigM m) : m ≤ 2047 := by
  rcases h with e | e | e | e | e <;> omega
theorem BigM.odd {m : Nat} (h : BigM m) : m % 2 = 1 := by
  rcases h with e | e | e | e | e <;> omega
theorem lcg_geo (m : Nat) : ∀ n, lcgN m n = geo n % (m + 1)
  | 0 => (Nat.zero_mod _).symm
  | n + 1 => by
    show (lcgN m n * 5 + 1) % (m + 1) = (geo n * 5 + 1) % (m + 1)
    rw [lcg_geo m n, Nat.add_mod, Nat.mod_mul_mod, ← Nat.add_mod]
theorem lcg_meets {m i j : Nat} (h : BigM m) (hi : i ≤ m) (hj : j ≤ m) : ∃ k, k ≤ m ∧ lcgI m i k = j := by
  obtain ⟨k, hk⟩ := h.pow
  obtain ⟨a, ha, ea⟩ := geo_all k i (by omega)
  obtain ⟨b, hb, eb⟩ := geo_all k j (by omega)
  have e1 : lcgN m a = i := by rw [lcg_geo, hk, ea]
  have e2 : lcgN m b = j := by rw [lcg_geo, hk, eb]
  have e3 : lcgN m (2 ^ k + b) = j := by rw [lcg_geo, hk, geo_turn, eb]
  rw [← e1]
  by_cases c : a ≤ b
  · refine ⟨b - a, by omega, ?_⟩
    rw [lcgN_add, Nat.add_sub_cancel' c, e2]
  · refine ⟨2 ^ k + b - a, by omega, ?_⟩
    rw [lcgN_add, Nat.add_sub_cancel' (by omega), e3]
/-- the n-th run begins at any slot, for some n below the bound -/
theorem runs_meet {m j : Nat} (hm : BigM m) (h : Int) (hj : j ≤ m) : ∃ n, n ≤ m + 12 ∧ runI m (SetTable.bits h) n = j := by
  obtain ⟨k, h1, h2⟩ := lcg_meets hm (runI_le m (SetTable.bits h) 12) hj
  refine ⟨12 + k, by omega, ?_⟩
  rw [runI_tail (bits_lt h)]
  exact h2
theorem way_lt {m : Nat} {h : Int} (k : Nat) : way m h k ≤ m := by
  have hb : SetTable.bits h % (m + 1) ≤ m := Nat.le_of_lt_succ (Nat.mod_lt _ (Nat.succ_pos m))
  have r := runEnd_bd hb
  have q : (nth m (runAt m (SetTable.bits h % (m + 1)) (SetTable.bits h)) k).j + (nth m (runAt m (SetTable.bits h % (m + 1)) (SetTable.bits h)) k).more ≤ m := by
    refine nth_in k _ ?_
    unfold runAt
    dsimp only
    omega
  exact Nat.le_trans (Nat.le_add_right _ _) q

/-! ### tables without dummies -/
structure Tab (t : SetTable) (n : Nat) : Prop where
  ris : Ris t.place.toList
  dm : t.dummies = #[]
  sz : t.place.size = n
  big : BigM t.mask
theorem Tab.first {t : SetTable} {n : Nat} (T : Tab t n) (hn : n ≤ t.mask) (h : Int) : ∃ K, K < 10 * SetTable.turns t.mask ∧ way t.mask h K ∉ t.place.toList ∧ ∀ k, k < K → way t.mask h k ∈ t.place.toList := by
  have hs := T.sz
  obtain ⟨j, hj, hfree⟩ := st_missing t.place.toList (t.mask + 1) (by rw [Array.length_toList]; omega)
  obtain ⟨r, hr, er⟩ := runs_meet T.big h (Nat.le_of_lt_succ hj)
  obtain ⟨k, hk, ek⟩ := run_nth t.mask (SetTable.bits h) r
  have hw : way t.mask h k ∉ t.place.toList := by
    have e : way t.mask h k = j := by
      unfold way
      rw [ek]
      exact er
    rw [e]
    exact hfree
  obtain ⟨K, h1, h2, h3⟩ := st_least (p := fun k => way t.mask h k ∉ t.place.toList) k hw
  refine ⟨K, ?_, h2, fun i hi => Classical.byContradiction fun c => h3 i hi c⟩
  unfold SetTable.turns
  omega
theorem Tab.put {t : SetTable} {n j : Nat} (T : Tab t n) (hj : j ∉ t.place.toList) : Tab (t.put j).1 (n + 1) ∧ (t.put j).2 = SetTable.below t.place j ∧ SetTable.below t.place j ≤ n ∧ (t.put j).1.mask = t.mask ∧ (t.put j).1.led = t.led ∧
    (t.put j).1.plain = t.plain ∧ (t.put j).1.fill = n + 1 := by
  obtain ⟨c1, _, _⟩ := below_cut T.ris j
  have hne : t.place[SetTable.below t.place j]? ≠ some j := fun e => hj (List.mem_of_getElem? (by rw [Array.getElem?_toList]; exact e))
  have hsz : (t.put j).1.place.size = n + 1 := by
    rw [← Array.length_toList, put_place, len_ins _ (by rw [Array.length_toList]; exact c1), Array.length_toList, T.sz]
  refine ⟨⟨ris_insert T.ris hne, put_dm T.dm j, hsz, T.big⟩, rfl, by rw [← T.sz]; exact c1, rfl, rfl, rfl, ?_⟩
  unfold SetTable.fill
  rw [hsz, put_dm T.dm j]
  rfl

/-! ### a table laid anew -/
/-- the first k hashes sit, each on a slot of its own -/
structure Sits (m k : Nat) (owner : Array (Option Nat)) : Prop where
  sz : owner.size = m + 1
  has : ∀ i, i < k → ∃ j, j ≤ m ∧ oAt owner j = some i
  lt : ∀ i j, j ≤ m → oAt owner j = some i → i < k
  one : ∀ i j j', j ≤ m → j' ≤ m → oAt owner j = some i → oAt owner j' = some i → j = j'
theorem Sits.free {m k : Nat} {owner : Array (Option Nat)} (S : Sits m k owner) (hk : k ≤ m) : ∃ j, j ≤ m ∧ oAt owner j = none := by
  refine Classical.byContradiction fun c => ?_
  have full : ∀ j, j ≤ m → ∃ i, oAt owner j = some i := fun j hj => by
    cases e : oAt owner j with
    | none => exact absurd ⟨j, hj, e⟩ c
    | some i => exact ⟨i, rfl⟩
  have nd : ((List.range (m + 1)).map fun j => (oAt owner j).getD 0).Nodup := by
    unfold List.Nodup
    rw [List.pairwise_map]
    refine List.Pairwise.imp_of_mem ?_ List.nodup_range
    intro a b ha hb hne e
    rw [List.mem_range] at ha hb
    obtain ⟨i, hi⟩ := full a (by omega)
    obtain ⟨i', hi'⟩ := full b (by omega)
    rw [hi, hi'] at e
    have e' : i = i' := e
    subst e'
    exact hne (S.one i a b (by omega) (by omega) hi hi')
  have q := nat_nodup_len _ (List.range k) nd fun x hx => by
    obtain ⟨j, hj, e⟩ := List.mem_map.mp hx
    rw [List.mem_range] at hj
    obtain ⟨i, hi⟩ := full j (by omega)
    rw [hi] at e
    have e' : i = x := e
    subst e'
    exact List.mem_range.mpr (S.lt i j (by omega) hi)
  rw [List.length_map, List.length_range, List.length_range] at q
  omega
/-- the search for a free slot ends at one -/
theorem finds_free {m j0 : Nat} (hm : BigM m) (owner : Array (Option Nat)) (h : Int) (h0 : j0 ≤ m) (e0 : oAt owner j0 = none) :
    ∃ j, SetTable.layClean.free m owner (SetTable.turns m) (SetTable.bits h % (m + 1)) (SetTable.bits h) = some j ∧ j ≤ m ∧ oAt owner j = none := by
  obtain ⟨n, hn, en⟩ := runs_meet hm h h0
  have hw : way m h (off m (SetTable.bits h % (m + 1)) (SetTable.bits h) n) = j0 := by
    unfold way
    rw [nth_off, itL_run]
    exact en
  obtain ⟨K, k1, k2, k3⟩ := st_least (p := fun k => (oAt owner (way m h k)).isNone = true) _ (by rw [hw, e0]; rfl)
  refine ⟨way m h K, ?_, way_lt K, Option.isNone_iff_eq_none.mp k2⟩
  refine free_spec m owner _ n _ _ K (by unfold SetTable.turns; omega) k1 (fun k hk => ?_) k2
  have q := k3 k hk
  exact Bool.eq_false_iff.mpr q
theorem Sits.next {m k : Nat} {owner : Array (Option Nat)} (S : Sits m k owner) (hm : BigM m) (hk : k ≤ m) (h : Int) :
    ∃ j, SetTable.layClean.free m owner (SetTable.turns m) (SetTable.bits h % (m + 1)) (SetTable.bits h) = some j ∧ Sits m (k + 1) (owner.setIfInBounds j (some k)) := by
  obtain ⟨j0, h0, e0⟩ := S.free hk
  obtain ⟨j, f, hj, ej⟩ := finds_free hm owner h h0 e0
  have hjs : j < owner.size := by
    rw [S.sz]
    omega
  have hme := oAt_set_self (some k) hjs
  refine ⟨j, f, by rw [Array.size_setIfInBounds]; exact S.sz, fun i hi => ?_, fun i a ha e => ?_, fun i a b ha hb e1 e2 => ?_⟩
  · by_cases c : i < k
    · obtain ⟨a, ha, ea⟩ := S.has i c
      have ne : a ≠ j := fun z => by
        rw [z, ej] at ea
        cases ea
      exact ⟨a, ha, by rw [oAt_set_ne _ ne]; exact ea⟩
    · have ei : i = k := by omega
      subst ei
      exact ⟨j, hj, hme⟩
  · by_cases c : a = j
    · rw [c, hme] at e
      have e' : k = i := Option.some.inj e
      omega
    · rw [oAt_set_ne _ c] at e
      have := S.lt i a ha e
      omega
  · have old : ∀ {x}, x ≤ m → x ≠ j → oAt (owner.setIfInBounds j (some k)) x = some i → oAt owner x = some i ∧ i < k := fun {x} hx hne e => by
      rw [oAt_set_ne _ hne] at e
      exact ⟨e, S.lt i x hx e⟩
    by_cases ca : a = j
    · by_cases cb : b = j
      · rw [ca, cb]
      · obtain ⟨_, hi⟩ := old hb cb e2
        rw [ca, hme] at e1
        have e' : k = i := Option.some.inj e1
        omega
    · obtain ⟨q1, hi⟩ := old ha ca e1
      by_cases cb : b = j
      · rw [cb, hme] at e2
        have e' : k = i := Option.some.inj e2
        omega
      · exact S.one i a b ha hb q1 (old hb cb e2).1
theorem sits_fold {m : Nat} (hm : BigM m) : ∀ (hs : List Int) (k : Nat) (owner : Array (Option Nat)), Sits m k owner → k + hs.length ≤ m → ∃ o', hs.foldl (stepF m) (some (owner, k)) = some (o', k + hs.length) ∧ Sits m (k + hs.length) o'
  | [], k, owner, S, _ => ⟨owner, rfl, S⟩
  | h :: hs, k, owner, S, hl => by
    rw [List.length_cons] at hl
    obtain ⟨j, f, S'⟩ := S.next hm (by omega) h
    obtain ⟨o', e, S2⟩ := sits_fold hm hs (k + 1) _ S' (by omega)
    have en : k + 1 + hs.length = k + (h :: hs).length := by
      rw [List.length_cons]
      omega
    rw [en] at e S2
    refine ⟨o', ?_, S2⟩
    rw [List.foldl_cons, stepF_some f]
    exact e
theorem relaid_big (t : SetTable) {hs : Array Int} {wanted M : Nat} (hw : SetTable.sizeAbove wanted - 1 = M) (hM : BigM M) (hn : hs.size ≤ M) :
    ∃ t' order, t.relaid hs wanted = some (t', order) ∧ order.toList.Perm (List.range hs.size) ∧ Tab t' hs.size ∧ t'.mask = M ∧ t'.led = t.led ∧ t'.plain = t.plain := by
  have nobody : ∀ {i j}, j ≤ M → oAt (Array.replicate (M + 1) none) j ≠ some i := fun hj e => by
    rw [oAt_init hj] at e
    cases e
  have S0 : Sits M 0 (Array.replicate (M + 1) none) := ⟨by simp, fun i hi => absurd hi (Nat.not_lt_zero i), fun i j hj e => absurd e (nobody hj), fun i a b ha _ e _ => absurd e (nobody ha)⟩
  obtain ⟨owner, e, S⟩ := sits_fold hM hs.toList 0 _ S0 (by rw [Array.length_toList]; omega)
  rw [Nat.zero_add, Array.length_toList] at e S
  have el : SetTable.layClean M hs = some owner := by
    rw [layClean_eq, e]
    rfl
  have er : t.relaid hs wanted = some (tabOf t M owner, ((liveOf M owner).map (·.2)).toArray) := by
    rw [relaid_eq, hw, el]
    rfl
  have hr := ris_live (fun j => owner.getD j none) (List.range (M + 1)) List.pairwise_lt_range
  have r1 : Ris ((liveOf M owner).map (·.1)) := hr.1
  have nd2 : ((liveOf M owner).map (·.2)).Nodup := by
    have nd1 : ((liveOf M owner).map (·.1)).Nodup := List.Pairwise.imp (fun h => Nat.ne_of_lt h) r1
    unfold List.Nodup at nd1 ⊢
    rw [List.pairwise_map] at nd1 ⊢
    refine List.Pairwise.imp_of_mem ?_ nd1
    rintro ⟨a, i⟩ ⟨b, i'⟩ ha hb hne e1
    have e2 : i = i' := e1
    subst e2
    obtain ⟨a1, a2⟩ := (mem_live S.sz).1 ha
    obtain ⟨b1, b2⟩ := (mem_live S.sz).1 hb
    exact hne (S.one i a b a1 b1 a2 b2)
  have all2 : ∀ i, i < hs.size → i ∈ (liveOf M owner).map (·.2) := fun i hi => by
    obtain ⟨j, j1, j2⟩ := S.has i hi
    exact List.mem_map.mpr ⟨(j, i), (mem_live S.sz).2 ⟨j1, j2⟩, rfl⟩
  have len : ((liveOf M owner).map (·.2)).length = hs.size := by
    have a := nat_nodup_len _ (List.range hs.size) nd2 fun x hx => by
      obtain ⟨⟨j, i⟩, q, e1⟩ := List.mem_map.mp hx
      have e2 : i = x := e1
      subst e2
      obtain ⟨b1, b2⟩ := (mem_live S.sz).1 q
      exact List.mem_range.mpr (S.lt i j b1 b2)
    have b := nat_nodup_len (List.range hs.size) _ List.nodup_range fun i hi => all2 i (List.mem_range.mp hi)
    rw [List.length_range] at a b
    omega
  refine ⟨tabOf t M owner, ((liveOf M owner).map (·.2)).toArray, er, perm_range _ _ len all2, ⟨r1, rfl, ?_, hM⟩, rfl, rfl, rfl⟩
  show ((liveOf M owner).map (·.1)).toArray.size = hs.size
  rw [List.size_toArray, ← len, List.length_map, List.length_map]
end Hm
set_option Elab.async false
set_option linter.all false
set_option maxRecDepth 100000
set_option maxHeartbeats 4000000
namespace Hm
open PySem PySem.Spec PyProof.Rows L2
/-! ### a set object that holds tuples of ints, at most 1200 (perhaps some twice) -/
abbrev TLst : Type := List (Addr × List Int)
structure SetB (P : Program) (w : World) (h : Heap) (a : Addr) (L : TLst) (es : Array (Int × Value)) (ep : Nat) (t : SetTable) : Prop where
  ob : ∃ o, h.get? a = some o ∧ o.ExactSet ∧ o.data = .set es ep t
  rows : es.toList = rowsOf P w L
  tab : Tab t L.length
  tup : ∀ p ∈ L, IsT P w h p.2 p.1
  plain : t.plain = true
  led : w.params.followText "set-order" = true ∨ t.led = true
  room : L.length * 5 < t.mask * 3
  few : L.length ≤ 1200
section
variable {P : Program} {w : World} {A : Around} {E : Value → Shared → Prop} {s : Shared} {a : Addr} {L : TLst} {es : Array (Int × Value)} {ep : Nat} {t : SetTable}
theorem rows_size (h : es.toList = rowsOf P w L) : es.size = L.length := by
  have e := congrArg List.length h
  unfold rowsOf at e
  rwa [Array.length_toList, List.length_map] at e
theorem rows_at (h : es.toList = rowsOf P w L) {i : Nat} {p : Addr × List Int} (hp : L[i]? = some p) : es[i]? = some (thash P w p.2, Value.ref p.1) := by
  rw [← Array.getElem?_toList, h]
  unfold rowsOf
  rw [List.getElem?_map, hp]
  rfl
theorem tab_fits {n : Nat} (T : Tab t n) (h : n * 5 < t.mask * 3) : t.fits n = true := by
  unfold SetTable.fits SetTable.fill
  rw [T.sz, T.dm]
  simp only [Bool.and_eq_true, beq_iff_eq, decide_eq_true_eq]
  refine ⟨trivial, ?_⟩
  show n + 0 ≤ t.mask
  omega
theorem SetB.fits (R : SetB P w s.heap a L es ep t) : t.fits es.size = true := by
  rw [rows_size R.rows]
  exact tab_fits R.tab R.room
/-- where the search of a hash begins -/
abbrev from0 (t : SetTable) (h : Int) : SetTable.Probe := runAt t.mask (SetTable.bits h % (t.mask + 1)) (SetTable.bits h)
theorem no_dummy (m : Nat) : ∀ (n : Nat) (p : SetTable.Probe), p.dummy = none → (nth m p n).dummy = none
  | 0, _, h => h
  | n + 1, p, h => by
    refine no_dummy m n (adv m p) ?_
    unfold adv
    split <;> exact h
/-- the search, from the c-th step on: it ends at an equal tuple, or at the first free slot -/
theorem search_b (R : SetB P w s.heap a L es ep t) {x : Addr} {k : List Int} (hx : IsT P w s.heap k x) (hu : A.units < cLine) {K : Nat} (hKf : K < 10 * SetTable.turns t.mask)
    (hK : way t.mask (thash P w k) K ∉ t.place.toList) (hKb : ∀ c, c < K → way t.mask (thash P w k) c ∈ t.place.toList) {Q : SetFound → Shared → Prop}
    (hin : (∃ p ∈ L, p.2 = k) → Q (.there none) s) (hout : Q (.free (way t.mask (thash P w k) K) false) s) :
    ∀ (f c : Nat) (st : Option SetTable.Probe), st.getD (t.probeStart (thash P w k)) = nth t.mask (from0 t (thash P w k)) c → c ≤ K → K - c < f → wpAny (model P w) A (setSearchFrom a (.ref x) (thash P w k) true f st) Q E s
  | 0, c, st, _, _, hf => absurd hf (Nat.not_lt_zero _)
  | f + 1, c, st, hst, hc, hf => by
    obtain ⟨o, ho, hex, hd⟩ := R.ob
    have goes : ∀ q, nth t.mask (nth t.mask (from0 t (thash P w k)) c) q = nth t.mask (from0 t (thash P w k)) (c + q) := fun q => (nth_add t.mask c _ q).symm
    have goesJ : ∀ q, (nth t.mask (nth t.mask (from0 t (thash P w k)) c) q).j = way t.mask (thash P w k) (c + q) := fun q => by rw [goes]
    have cK : c + (K - c) = K := by omega
    rw [setSearchFrom_succ]
    refine wpAny_bind (wpAny_setState_of ho hd R.fits ?_)
    dsimp only
    have hg : ¬ t.gaveWay = true := by
      unfold SetTable.gaveWay
      rw [R.tab.big.odd]
      decide
    refine wp_if_neg hg ?_
    try refine wpAny_bind (wpAny_pure ?_)
    have spec := go_spec t R.tab.ris R.tab.dm (fun i => (es[i]?.map (·.1)).getD 0) (thash P w k) (10 * SetTable.turns t.mask) (K - c) (nth t.mask (from0 t (thash P w k)) c) (no_dummy t.mask c _ rfl) (by omega)
      (fun q hq => by rw [goesJ]; exact hKb (c + q) (by omega)) (by rw [goesJ, cK]; exact hK)
    rcases spec with ⟨q, i, hq, hi, _, _, hpr⟩ | ⟨_, hpr⟩
    · have hp1 : t.probe (fun i => (es[i]?.map (·.1)).getD 0) (thash P w k) (st.getD (t.probeStart (thash P w k))) = some (.candidate (way t.mask (thash P w k) (c + q)) i (nth t.mask (from0 t (thash P w k)) (c + (q + 1)))) := by
        rw [hst, ← goesJ, ← goes]
        exact hpr
      rw [hp1]
      dsimp only
      rw [goesJ] at hi
      have hil : i < L.length := by
        have h1 : i < t.place.toList.length := (List.getElem?_eq_some_iff.mp hi).1
        rw [Array.length_toList, R.tab.sz] at h1
        exact h1
      obtain ⟨p, hp⟩ : ∃ p, L[i]? = some p := ⟨_, List.getElem?_eq_getElem hil⟩
      have hpL : p ∈ L := List.mem_of_getElem? hp
      have onward : wpAny (model P w) A (searchRest a (.ref x) (thash P w k) true f es t (way t.mask (thash P w k) (c + q)) i (nth t.mask (from0 t (thash P w k)) (c + (q + 1)))) Q E s := by
        unfold searchRest
        rw [rows_at R.rows hp]
        dsimp only
        refine wpAny_bind (wpAny_holding (wpAny_eqBool_tuple hu (R.tup p hpL) hx ?_))
        refine wpAny_bind (wpAny_setState_of ho hd R.fits ?_)
        dsimp only
        by_cases same : p.2 = k
        · refine wp_if_pos (by simp [same]) (wpAny_pure (hin ⟨p, hpL, same⟩))
        · refine wp_if_neg (by simp [same]) ?_
          try refine wpAny_bind (wpAny_pure ?_)
          rw [sameMem]
          dsimp only
          have live : t.slot (way t.mask (thash P w k) (c + q)) = .live i := slot_live R.tab.ris hi
          simp only [if_true, live, rows_at R.rows hp]
          refine wpAny_bind (wpAny_isSame_ref_self (wpAny_bind (wpAny_pure ?_)))
          simp only [if_true]
          refine wp_if_neg (by simp [same]) ?_
          exact search_b R hx hu hKf hK hKb hin hout f (c + (q + 1)) _ rfl (by omega) (by omega)
      by_cases hl : t.led = true
      · refine wp_if_neg (by simp [hl]) ?_
        try refine wpAny_bind (wpAny_pure ?_)
        exact onward
      · refine wp_if_pos (by simp [hl]) (wpAny_bind (seen_tup hx (fun y hy => ?_) ?_))
        · obtain ⟨e, he, rfl⟩ := List.mem_map.mp hy
          have he2 : e ∈ es.toList := by
            have he1 : e ∈ es ∧ e.1 = thash P w k := by simpa using he
            simpa using he1.1
          rw [R.rows] at he2
          obtain ⟨p2, hp2, rfl⟩ := List.mem_map.mp he2
          exact ⟨p2.2, p2.1, rfl, R.tup p2 hp2⟩
        · refine wp_if_neg (by decide) ?_
          try refine wpAny_bind (wpAny_pure ?_)
          exact onward
    · have hp1 : t.probe (fun i => (es[i]?.map (·.1)).getD 0) (thash P w k) (st.getD (t.probeStart (thash P w k))) = some (.empty (way t.mask (thash P w k) K) none) := by
        have e2 : way t.mask (thash P w k) K = (nth t.mask (nth t.mask (from0 t (thash P w k)) c) (K - c)).j := by rw [goesJ, cK]
        rw [hst, e2]
        exact hpr
      rw [hp1]
      dsimp only
      exact wpAny_pure hout
theorem search_all (R : SetB P w s.heap a L es ep t) {x : Addr} {k : List Int} (hx : IsT P w s.heap k x) (hu : A.units < cLine) {Q : SetFound → Shared → Prop} (hin : (∃ p ∈ L, p.2 = k) → Q (.there none) s)
    (hout : ∀ j, j ∉ t.place.toList → Q (.free j false) s) : wpAny (model P w) A (setSearch a (.ref x) (thash P w k) true) Q E s := by
  have room := R.room
  obtain ⟨K, h1, h2, h3⟩ := R.tab.first (by omega) (thash P w k)
  have big := R.tab.big.le
  have few : K < 100000 := by
    unfold SetTable.turns at h1
    omega
  unfold setSearch
  exact search_b R hx hu h1 h2 h3 hin (hout _ h2) 100000 0 none rfl (Nat.zero_le _) (by omega)

/-! ### the table laid anew -/
theorem relay_b {o : Obj} (ho : s.heap.get? a = some o) (hex : o.ExactSet) (hd : o.data = .set es ep t) (hrows : es.toList = rowsOf P w L) (T : Tab t L.length) (hfl : L.length ≤ t.mask)
    (tup : ∀ p ∈ L, IsT P w s.heap p.2 p.1) (pl : t.plain = true) (ld : w.params.followText "set-order" = true ∨ t.led = true) (few : L.length ≤ 1200) {wanted M : Nat}
    (hw : SetTable.sizeAbove wanted - 1 = M) (hM : BigM M) (hw2 : SetTable.sizeAbove wanted ≤ 2048) (hn : L.length * 5 < M * 3) {Q : Unit → Shared → Prop}
    (hQ : ∀ h' L' es' ep' t', Heap.SameBut a s.heap h' → SetB P w h' a L' es' ep' t' → L'.Perm L → Q () { s with heap := h' }) : wpAny (model P w) A (setRelay a wanted) Q E s := by
  have hsl := rows_size hrows
  have hfits : t.fits es.size = true := by
    unfold SetTable.fits SetTable.fill
    rw [T.sz, T.dm, hsl]
    simp only [Bool.and_eq_true, beq_iff_eq, decide_eq_true_eq]
    exact ⟨trivial, by show L.length + 0 ≤ t.mask; omega⟩
  obtain ⟨t', order, e, hp, T', em, el, epl⟩ := relaid_big t (hs := es.map (·.1)) (wanted := wanted) hw hM (by rw [Array.size_map, hsl]; omega)
  rw [Array.size_map, hsl] at hp T'
  obtain ⟨L2, r1, r2, _⟩ := order_rows L es order hrows hp
  have hs2 := rows_size r1
  rw [r2.length_eq] at hs2
  rw [setRelay_eq]
  refine wpAny_bind (wpAny_setState_of ho hd hfits ?_)
  dsimp only
  refine wp_if_neg (by rw [sizeLine_eq]; omega) ?_
  try refine wpAny_bind (wpAny_pure ?_)
  rw [e]
  dsimp only
  refine wpAny_bind ?_
  refine wp_if_neg (by rw [hs2, hsl]; simp) ?_
  try refine wpAny_bind (wpAny_pure ?_)
  refine wpAny_pure ?_
  dsimp only
  refine wpAny_storeSet_of ho hd ?_ (by rw [hs2, sizeLine_eq]; omega)
  have sb : Heap.SameBut a s.heap (s.heap.update a (Obj.putSet (order.filterMap (es[·]?)) t')) := Heap.SameBut.update ..
  refine hQ _ L2 (order.filterMap (es[·]?)) (ep + 1) t' sb ⟨⟨_, store_at ho hd, ⟨hex.1, hex.2.1, hex.2.2⟩, rfl⟩, r1, ?_, fun p hpm => isT_same (tup p (r2.mem_iff.mp hpm)) ho hd sb, epl.trans pl, by rw [el]; exact ld, ?_, by rw [r2.length_eq]; exact few⟩ r2
  · rw [r2.length_eq]
    exact T'
  · rw [r2.length_eq, em]
    exact hn
theorem sizes5 : SetTable.sizeAbove (SetTable.grown 5) = 32 := by decide +kernel
theorem sizes19 : SetTable.sizeAbove (SetTable.grown 19) = 128 := by decide +kernel
theorem sizes77 : SetTable.sizeAbove (SetTable.grown 77) = 512 := by decide +kernel
theorem sizes307 : SetTable.sizeAbove (SetTable.grown 307) = 2048 := by decide +kernel

/-- one more: what the set holds then -/
theorem add_b (R : SetB P w s.heap a L es ep t) {x : Addr} {k : List Int} (hx : IsT P w s.heap k x) (hu : A.units < cLine) (hfew : L.length + 1 ≤ 1200) {Q : Bool → Shared → Prop}
    (hQ : ∀ b h' L' es' ep' t', Heap.SameBut a s.heap h' → SetB P w h' a L' es' ep' t' → ((L' = L ∧ ∃ p ∈ L, p.2 = k) ∨ L'.Perm ((x, k) :: L)) → Q b { s with heap := h' }) :
    wpAny (model P w) A (setAddHashed a (.ref x) (thash P w k)) Q E s := by
  obtain ⟨o, ho, hex, hd⟩ := R.ob
  have hsl := rows_size R.rows
  have hroom := R.room
  unfold setAddHashed
  refine wpAny_holding ?_
  rw [show (100000 : Nat) = 99999 + 1 from rfl, setAddHashedIn_succ]
  refine wpAny_bind (wpAny_setState_of ho hd R.fits ?_)
  dsimp only
  refine wp_if_neg (by simp [byScan, Value.scannable]) ?_
  try refine wpAny_bind (wpAny_pure ?_)
  refine wpAny_bind (search_all R hx hu (fun hm => ?_) fun j hj => ?_)
  · dsimp only
    exact wpAny_pure (hQ false s.heap L es ep t (Heap.SameBut.refl a s.heap) R (.inl ⟨rfl, hm⟩))
  · dsimp only
    refine wpAny_bind (wpAny_setState_of ho hd R.fits ?_)
    dsimp only
    obtain ⟨q1, q2, q3, q4, q5, q6, q7⟩ := R.tab.put hj
    have hpl : (t.put j).1.plain = true := by rw [q6]; exact R.plain
    generalize hpt : t.put j = pt at q1 q2 q3 q4 q5 q6 q7 hpl ⊢
    obtain ⟨t1, p⟩ := pt
    dsimp only at q1 q2 q3 q4 q5 q6 q7 hpl ⊢
    subst q2
    first
      | (refine wpAny_bind ?_; refine wp_if_pos hpl ?_; refine hashBy_tup hx ?_)
      | refine wp_if_pos hpl (wpAny_bind (hashBy_tup hx ?_))
    simp only [if_true]
    generalize SetTable.below t.place j = p at q3 ⊢
    have hin : (SetTable.insertAt es p (thash P w k, Value.ref x)).toList = rowsOf P w (L.take p ++ (x, k) :: L.drop p) := by
      rw [SetTable.toList_insertAt, rows_put, R.rows]
    have pm := put_perm L p (x, k)
    have hlen := pm.length_eq
    rw [List.length_cons] at hlen
    have hes := rows_size hin
    generalize SetTable.insertAt es p (thash P w k, Value.ref x) = es1 at hin hes ⊢
    generalize L.take p ++ (x, k) :: L.drop p = L1 at pm hlen hin hes
    rw [← hlen] at q1 q7
    refine wpAny_bind (wpAny_storeSet_of ho hd ?_ (by rw [hes, sizeLine_eq]; omega))
    have sb : Heap.SameBut a s.heap (s.heap.update a (Obj.putSet es1 t1)) := Heap.SameBut.update ..
    have ho1 := store_at (es' := es1) (t' := t1) ho hd
    generalize s.heap.update a (Obj.putSet es1 t1) = h1 at sb ho1 ⊢
    have tup1 : ∀ p ∈ L1, IsT P w h1 p.2 p.1 := fun p hp => by
      rcases List.mem_cons.mp (pm.mem_iff.mp hp) with e | hp
      · rw [e]
        exact isT_same hx ho hd sb
      · exact isT_same (R.tup p hp) ho hd sb
    have ld1 : w.params.followText "set-order" = true ∨ t1.led = true := by rw [q5]; exact R.led
    have tf : t1.tooFull = decide (L1.length * 5 ≥ t1.mask * 3) := by
      unfold SetTable.tooFull
      rw [q7]
    by_cases hf : t1.tooFull = true
    · first
        | (refine wpAny_bind ?_; refine wp_if_pos (by simp [hf]) ?_)
        | (refine wp_if_pos (by simp [hf]) ?_; refine wpAny_bind ?_)
      rw [tf, decide_eq_true_eq] at hf
      rw [hsl]
      have go : ∀ M, SetTable.sizeAbove (SetTable.grown (L.length + 1)) = M + 1 → BigM M → L1.length * 5 < M * 3 →
          wpAny (model P w) A (setRelay a (SetTable.grown (L.length + 1))) (fun _ s' => wpAny (model P w) A (pure true) Q E s') E { s with heap := h1 } := fun M e1 e2 e3 => by
        have hM := e2.le
        refine relay_b (s := { s with heap := h1 }) ho1 ⟨hex.1, hex.2.1, hex.2.2⟩ rfl hin q1 (by rw [q4]; omega) tup1 hpl ld1 (by omega) (by rw [e1]; omega) e2 (by rw [e1]; omega) e3 ?_
        intro h2 L2 es2 ep2 t2 sb2 R2 pm2
        exact wpAny_pure (hQ true h2 L2 es2 ep2 t2 (sb.trans sb2) R2 (.inr (pm2.trans pm)))
      rw [hlen, q4] at hf
      rcases R.tab.big with e | e | e | e | e
      · have el : L.length = 4 := by omega
        exact go 31 (by rw [el, sizes5]) (.inr (.inl rfl)) (by omega)
      · have el : L.length = 18 := by omega
        exact go 127 (by rw [el, sizes19]) (.inr (.inr (.inl rfl))) (by omega)
      · have el : L.length = 76 := by omega
        exact go 511 (by rw [el, sizes77]) (.inr (.inr (.inr (.inl rfl)))) (by omega)
      · have el : L.length = 306 := by omega
        exact go 2047 (by rw [el, sizes307]) (.inr (.inr (.inr (.inr rfl)))) (by omega)
      · omega
    · first
        | refine wp_if_neg (by simp [hf]) ?_
        | (refine wpAny_bind ?_; refine wp_if_neg (by simp [hf]) ?_; refine wpAny_pure ?_)
      rw [tf, decide_eq_true_eq] at hf
      exact wpAny_pure (hQ true h1 L1 es1 (ep + 1) t1 sb ⟨⟨_, ho1, ⟨hex.1, hex.2.1, hex.2.2⟩, rfl⟩, hin, q1, tup1, hpl, ld1, by omega, by omega⟩ (.inr pm))
end
end Hm
set_option Elab.async false
set_option linter.all false
set_option maxRecDepth 100000
set_option maxHeartbeats 4000000
namespace Hm
open PySem PySem.Spec PyProof.Rows L2
section
variable {P : Program} {w : World} {A : Around} {E : Value → Shared → Prop} {s : Shared}
theorem SetB.keep {h h' : Heap} {a : Addr} {L : TLst} {es : Array (Int × Value)} {ep : Nat} {t : SetTable} (R : SetB P w h a L es ep t) (ha : ∀ o, h.get? a = some o → h'.get? a = some o) (ht : ∀ p ∈ L, IsT P w h' p.2 p.1) : SetB P w h' a L es ep t :=
  { R with ob := (let ⟨o, ho, r⟩ := R.ob; ⟨o, ha o ho, r⟩), tup := ht }
/-- the set object as it is made -/
abbrev newSetO (w : World) : Obj := { cls := .type "set", dict := none, data := .set #[] 0 (.fresh 0 0 (!w.params.followText "set-order")) }
theorem setB_new {h : Heap} {a : Addr} (ho : h.get? a = some (newSetO w)) : SetB P w h a [] #[] 0 (.fresh 0 0 (!w.params.followText "set-order")) := by
  refine ⟨⟨_, ho, ⟨rfl, rfl, rfl⟩, rfl⟩, rfl, ⟨List.Pairwise.nil, rfl, rfl, .inl rfl⟩, fun p hp => (nomatch hp), rfl, ?_, (by show 0 * 5 < 7 * 3; decide), Nat.zero_le _⟩
  cases hb : w.params.followText "set-order" with
  | true => exact .inl rfl
  | false => exact .inr rfl

/-- the loop that puts all items of an iterator into the set -/
theorem update_b {I S : Addr} {fp wr : List Addr} {G : Array GenState → Array GenState → Prop} {n : Nat} {Pv : Nat → Value → Prop} {St : Nat → Shared → Prop} {R : Result → Shared → Prop} {ks : TLst} {h0 : Heap}
    (W : WalksS P w A.in1 I fp wr G n Pv St) (hSf : S ∉ fp) (hn : n = ks.length) (hfew : ks.length ≤ 1200) (hval : ∀ i v, Pv i v → ∃ p, ks[i]? = some p ∧ v = .ref p.1)
    (hk : ∀ p ∈ ks, IsT P w h0 p.2 p.1) (hS0 : h0.get? S = none) (hw0 : ∀ b ∈ wr, h0.get? b = none) (hu : A.in1.units < cLine) :
    ∀ (d i : Nat) (s : Shared), n = i + d → St i s → (∀ b o, h0.get? b = some o → s.heap.get? b = some o) → (∃ L es ep t, SetB P w s.heap S L es ep t ∧ L2.Got ks i L) →
      (∀ s' L es ep t, Moved (S :: wr) G s s' → SetB P w s'.heap S L es ep t → L2.Got ks n L → (∀ b o, h0.get? b = some o → s'.heap.get? b = some o) → R (.ok (.ret .none)) s') →
      codeAny (model P w) A (.builtin "set.update.loop" ⟨[.ref S, .ref I], []⟩) R s := by
  have hSw : S ∉ wr := fun h => hSf (W.sub _ h)
  have wide : ∀ b ∈ wr, b ∈ S :: wr := fun b hb => List.mem_cons_of_mem _ hb
  have stays : ∀ {s s' : Shared}, Moved wr G s s' → (∀ b o, h0.get? b = some o → s.heap.get? b = some o) → ∀ b o, h0.get? b = some o → s'.heap.get? b = some o := fun hm k b o e =>
    hm.heap b o (fun hb => absurd e (by rw [hw0 b hb]; exact fun z => nomatch z)) (k b o e)
  have moved : ∀ {s s' : Shared} {i : Nat} {L es ep t}, Moved wr G s s' → (∀ b o, h0.get? b = some o → s.heap.get? b = some o) → SetB P w s.heap S L es ep t → L2.Got ks i L → SetB P w s'.heap S L es ep t := fun hm k B g =>
    B.keep (fun o e => hm.heap S o hSw e) fun p hp => isT_keep (hk p (List.mem_of_mem_take (g.sub p hp))) (stays hm k)
  intro d
  induction d with
  | zero =>
    intro i s hi hst hkp ⟨L, es, ep, t, hB, g⟩ hR
    obtain rfl : n = i := hi
    refine codeAny_builtin F.entry_set_update_loop ?_
    rw [Around.under_plainId F.plain_set_update_loop _]
    show wpAny _ A.in1 (pyNext (.ref I) >>= _) _ _ s
    refine wpAny_bind (W.done s _ _ hst fun s' hm => ?_)
    show wpAny _ A.in1 (ret Value.none) _ _ s'
    exact wpAny_pure (hR s' L es ep t (hm.mono wide) (moved hm hkp hB g) g (stays hm hkp))
  | succ d ih =>
    intro i s hi hst hkp ⟨L, es, ep, t, hB, g⟩ hR
    have hlt : i < n := by omega
    refine codeAny_builtin F.entry_set_update_loop ?_
    rw [Around.under_plainId F.plain_set_update_loop _]
    show wpAny _ A.in1 (pyNext (.ref I) >>= _) _ _ s
    refine wpAny_bind (W.item i s _ _ hlt hst fun v s' hP hst' hm => ?_)
    obtain ⟨p, hp, rfl⟩ := hval i v hP
    have kp1 := stays hm hkp
    have hx : IsT P w s'.heap p.2 p.1 := isT_keep (hk p (List.mem_of_getElem? hp)) kp1
    show wpAny _ A.in1 (holding [Value.ref p.1] (setAdd S (.ref p.1)) >>= _) _ _ s'
    refine wpAny_bind (wpAny_holding ?_)
    unfold setAdd
    refine wpAny_holding (wpAny_bind (wpAny_pyHash_tuple hu hx ?_))
    have gl := g.len
    have B1 : SetB P w s'.heap S L es ep t := moved hm hkp hB g
    refine add_b (s := { s' with toks := s'.toks + (p.2.length + 1) }) B1 hx hu (by omega) fun b h' L' es' ep' t' sb B2 cs => ?_
    have g' : L2.Got ks (i + 1) L' := by
      rcases cs with ⟨rfl, q, hq, e⟩ | pm
      · exact g.same hp (List.mem_map.mpr ⟨q, hq, e⟩)
      · exact g.more hp pm
    have kp2 : ∀ b o, h0.get? b = some o → h'.get? b = some o := fun b o e => (sb.2 b (fun z => absurd e (by rw [z, hS0]; exact fun y => nomatch y))).trans (kp1 b o e)
    refine wpAny_pure ⟨plainId_quiet F.plain_set_update_loop _, ih (i + 1) _ (by omega) (W.frame _ s' _ _ hst' (Nat.le_add_right _ _) fun b hb o e => ?_) kp2 ⟨L', es', ep', t', B2, g'⟩ fun s2 L2' es2 ep2 t2 hm2 B3 g2 kp3 => ?_⟩
    · rw [sb.2 b (fun z => hSf (z ▸ hb))]
      exact e
    · refine hR s2 L2' es2 ep2 t2 (Moved.trans W.gtrans ((hm.mono wide).then_heap (Nat.le_add_right _ _) fun b o hb e => ?_) hm2) B3 g2 kp3
      rw [sb.2 b (fun z => hb (by rw [z]; exact List.mem_cons_self))]
      exact e

set_option maxHeartbeats 8000000 in
/-- set(xs), xs a list of tuples of ints -/
theorem call_set_b {l : Addr} {items : Array Value} (ks : TLst) {Q : Value → Shared → Prop} (hh : A.handled = none) (hl : s.heap.IsList l items) (hit : items.toList = ks.map fun p => Value.ref p.1)
    (hk : ∀ p ∈ ks, IsT P w s.heap p.2 p.1) (hfew : ks.length ≤ 1200) (hu : A.units + 3 < cLine)
    (h : ∀ (h' : Heap) (tk : Nat) L es ep t, SetB P w h' s.heap.objs.size L es ep t → L2.Got ks ks.length L → (∀ b o, s.heap.get? b = some o → h'.get? b = some o) → Q (.ref s.heap.objs.size) { s with heap := h', toks := tk }) :
    wpAny (model P w) A (call (.type "set") [.ref l]) Q E s := by
  have hisz : items.size = ks.length := by
    rw [← Array.length_toList, hit, List.length_map]
  obtain ⟨c, tl, hmro⟩ := F.called_set.mro
  have hmade := F.called_set.made
  have hsub := F.called_set.sub
  refine wpAny_call (codeAny_of_tree ?_)
  show wpAny _ _ (callAny (.type "set") _) _ _ _
  refine wpAny_pure ⟨Code.quiet_builtin _ (by decide +kernel), codeAny_builtin F.entry_type_call ?_⟩
  rw [Around.under_plain (weight_type_call_type "set" [.ref l] []) rfl]
  have h1 := F.called_set.notType
  have h2 := F.called_set.canCreate
  have hct := F.typeCall_set_1 (.ref l)
  repeat (any_goals (first | assumption | wp_step))
  refine codeAny_mono (code_set_led1 (.ref l) (E := E) (Q₁ := fun obj s₁ => obj = .ref s.heap.objs.size ∧ s₁ = { s with heap := s.heap.push (newSetO w) }) ⟨rfl, rfl⟩) fun r s₁ hr => ?_
  cases r with
  | error e => exact hr
  | ok fl =>
    cases fl with
    | ret obj =>
      obtain ⟨rfl, rfl⟩ := hr
      have hS : (s.heap.push (newSetO w)).get? s.heap.objs.size = some (newSetO w) := Heap.get?_push_size _ rfl
      have hT : Shared.TypeIs { s with heap := s.heap.push (newSetO w) } (.ref s.heap.objs.size) "set" := ⟨_, hS, rfl⟩
      have hli := F.called_set.init.lookup
      have hbi := F.called_set.init.bind (.ref s.heap.objs.size)
      repeat (any_goals (first | assumption | wp_step))
      refine codeAny_mono (codeAny_call_builtin (R := wants (fun r s₂ => r = .none ∧ ∃ h' tk L es ep t, s₂ = { s with heap := h', toks := tk } ∧ SetB P w h' s.heap.objs.size L es ep t ∧ L2.Got ks ks.length L ∧
          (∀ b o, s.heap.get? b = some o → h'.get? b = some o)) E) F.called_set.init.plain F.entry_set_init (check_set_init_1 hT ?_)) fun r₂ s₂ hr₂ => ?_
      · obtain ⟨⟨ocls, odict, odata, oslots⟩, hol, hcl, nl, hdl⟩ := hl
        simp only at hcl hdl
        subst hcl
        subst hdl
        have hol' : (s.heap.push (newSetO w)).get? l = some { cls := .type "list", dict := odict, data := .seq items nl, slots := oslots } := Heap.get?_push_of_some _ hol
        have hsls := F.sub_list_set
        have hslf := F.sub_list_frozenset
        have hne : (Value.type "list" == Value.type "dict") = false := by decide
        have hl1 : (s.heap.push (newSetO w)).IsList l items := ⟨_, hol', rfl, nl, rfl⟩
        unfold Builtin.«set.__init__» noKeywords Builtin.Frozenset.updateFrom
        generalize hPI : pyIter = PI
        wp_walk
        subst hPI
        refine wpAny_pyIter_list hl1 ?_
        refine wpAny_bind (wpAny_runValue ?_)
        have hlS : l < s.heap.objs.size := Heap.lt_size hol
        have szp : (s.heap.push (newSetO w)).objs.size = s.heap.objs.size + 1 := Heap.size_push ..
        have fresh : ∀ b, s.heap.objs.size ≤ b → s.heap.get? b = none := fun b hb => by
          cases q : s.heap.get? b with
          | none => rfl
          | some o => exact absurd (Nat.lt_of_lt_of_le (Heap.lt_size q) hb) (Nat.lt_irrefl _)
        have hneI : l ≠ (s.heap.push (newSetO w)).objs.size := by
          rw [szp]
          exact Nat.ne_of_lt (Nat.lt_succ_of_lt hlS)
        refine update_b (S := s.heap.objs.size) (ks := ks) (h0 := s.heap) ((Walks.list (by simp [hh]) _ l hneI items).toS) ?h1 hisz hfew ?h2 hk (fresh _ (Nat.le_refl _)) ?h3 hu items.size 0 _ (Nat.zero_add _).symm
          ⟨⟨_, Heap.get?_push_size _ rfl, rfl, rfl⟩, (hl1.push _)⟩ (fun b o e => Heap.get?_push_of_some _ (Heap.get?_push_of_some _ e)) ?h4 ?h5
        case h1 =>
          rw [szp]
          intro hm
          rcases List.mem_cons.mp hm with z | z
          · exact absurd z (Nat.ne_of_lt (Nat.lt_succ_self _))
          · exact absurd (List.mem_singleton.mp z) (Nat.ne_of_gt hlS)
        case h2 =>
          intro i v hv
          have q : items.toList[i]? = some v := by
            rw [Array.getElem?_toList]
            exact hv
          rw [hit, List.getElem?_map] at q
          obtain ⟨p, hp, e⟩ := Option.map_eq_some_iff.mp q
          exact ⟨p, hp, e.symm⟩
        case h3 =>
          intro b hb
          refine fresh b ?_
          rw [List.mem_singleton.mp hb, szp]
          exact Nat.le_succ _
        case h4 => exact ⟨[], #[], 0, _, setB_new (Heap.get?_push_of_some _ hS), Got.zero ks⟩
        case h5 =>
          rintro ⟨h', g2, d', tk', os'⟩ L es ep t hm hB g' kp
          obtain rfl : g2 = s.gens := hm.gens
          obtain rfl : d' = s.drawn := hm.drawn
          obtain rfl : os' = s.os := hm.os
          refine wpAny_pure ?_
          show wpAny _ _ (ret Value.none) _ _ _
          rw [hisz] at g'
          exact wpAny_pure ⟨rfl, h', tk', L, es, ep, t, rfl, hB, g', kp⟩
      · cases r₂ with
        | error e => exact hr₂
        | ok fl₂ =>
          cases fl₂ with
          | ret r =>
            obtain ⟨rfl, h', tk, L, es, ep, t, rfl, hB, g', kp⟩ := hr₂
            repeat (any_goals (first | assumption | wp_step))
            exact h _ _ _ _ _ _ hB g' kp
          | _ => exact hr₂.elim
    | _ => exact hr.elim

/-! ### sorted(set) -/
theorem pair_of {h : Heap} {b : Addr} {i j : Int} (x : IsT P w h [i, j] b) : Srt.IsPair h (.ref b) i j := by
  obtain ⟨o, ⟨vs⟩, n, ho, hc, hd, hi⟩ := x
  dsimp only at hi
  cases hi with
  | cons h1 r1 =>
    cases r1 with
    | cons h2 r2 =>
      cases r2
      obtain ⟨t, rfl⟩ := Value.isInt_shape h1
      obtain ⟨u, rfl⟩ := Value.isInt_shape h2
      exact ⟨b, o, t, u, n, rfl, ho, hc, hd⟩
/-- sorted of such a set of pairs: a new list of what it holds, in some order -/
theorem sorted_b {a : Addr} {L : TLst} {es : Array (Int × Value)} {ep : Nat} {t : SetTable} {Q : Value → Shared → Prop} (R : SetB P w s.heap a L es ep t) (hh : A.handled = none) (h2 : ∀ p ∈ L, ∃ i j, p.2 = [i, j])
    (hQ : ∀ s' p (out : List Value) (c : Nat), (∀ b o, s.heap.get? b = some o → s'.heap.get? b = some o) → s'.gens = s.gens → s'.os = s.os → s.heap.objs.size ≤ p →
      s'.heap.get? p = some (seqObj "list" out.toArray c) → out.Perm (L.map fun q => Value.ref q.1) → Q (.ref p) s') : wpAny (model P w) A (call (.builtin "sorted") [.ref a]) Q E s := by
  obtain ⟨o, ho, hex, hd⟩ := R.ob
  have hsz := rows_size R.rows
  have hfew := R.few
  refine Calls.call_function_entry kind_sorted plain_sorted entry_sorted (args_sorted1 _) ?_
  unfold Builtin.«sorted»
  refine wpAny_bind (m := checkCount "sorted" 1 1 _) (wpAny_pure ?_)
  refine wpAny_bind (collect_set (A := A.in1) hh ⟨o, ho, hex.1, hd⟩ R.fits (by unfold scanBound; omega) R.tab.ris R.led fun s1 vs k1 hz g1 o1 pm => ?_)
  have hes : es.toList.map (·.2) = L.map fun q => Value.ref q.1 := by
    rw [R.rows]
    unfold rowsOf
    rw [List.map_map]
    rfl
  rw [hes] at pm
  have hvl : vs.length ≤ sizeLine := by
    rw [pm.length_eq, List.length_map, sizeLine_eq]
    omega
  refine wpAny_bind (wpAny_newList ?_ hvl)
  have hoL : (s1.heap.push (seqObj "list" vs.toArray 0)).get? s1.heap.objs.size = some (seqObj "list" vs.toArray 0) := Heap.get?_push_size _ rfl
  refine wpAny_bind (wpAny_holding (wpAny_call_entry (s := { s1 with heap := s1.heap.push (seqObj "list" vs.toArray 0) }) slot_list_sort ⟨_, hoL, rfl⟩ entry_list_sort
    (Srt.list_sort_any hoL hvl (fun h2' => Srt.pairs_sortable (s := { s1 with heap := s1.heap.push (seqObj "list" vs.toArray 0) }) (by omega) (fun v hv => ?_) fun o' e => ?_) fun out hp => ⟨_, rfl, ?_⟩) (args_list_sort _)))
  · obtain ⟨q, hq, e⟩ := List.mem_map.mp (pm.mem_iff.mp hv)
    obtain ⟨i, j, eq⟩ := h2 q hq
    have tq := R.tup q hq
    rw [eq] at tq
    rw [← e]
    exact ⟨i, j, (pair_of tq).keeps fun b u e' _ => Heap.get?_push_of_some _ (k1 b u e')⟩
  · rw [hoL] at e
    obtain rfl := Option.some.inj e
    intro c
    exact absurd (Value.type.inj c) (by decide)
  · obtain ⟨c, hc⟩ := sortedHeap_at (vs := vs) (out := out.toArray) hoL
    refine wpAny_pure ⟨_, rfl, hQ _ s1.heap.objs.size out c (fun b u e => ?_) g1 o1 hz hc (hp.trans pm)⟩
    have q := k1 b u e
    have hlt := Heap.lt_size q
    show (sortedHeap (s1.heap.push (seqObj "list" vs.toArray 0)) s1.heap.objs.size vs out.toArray).get? b = some u
    rw [sortedHeap_old (Nat.ne_of_lt hlt) (by rw [size_push']; exact Nat.lt_succ_of_lt hlt)]
    exact Heap.get?_push_of_some _ q
end
/-! ### the rules -/
/-- the set at a, without its tuples -/
structure SetB0 (P : Program) (w : World) (h : Heap) (a : Addr) (L : TLst) : Prop where
  ex : ∃ (es : Array (Int × Value)) (ep : Nat) (t : SetTable), (∃ o, h.get? a = some o ∧ o.ExactSet ∧ o.data = .set es ep t) ∧ es.toList = rowsOf P w L ∧ Tab t L.length ∧ t.plain = true ∧
    (w.params.followText "set-order" = true ∨ t.led = true) ∧ L.length * 5 < t.mask * 3 ∧ L.length ≤ 1200
def SetBO (P : Program) (w : World) (a : Addr) (L : TLst) : HO := .ext fun h => SetB0 P w h a L
theorem setBO_ok {P : Program} {w : World} {H : Hp} {h : Heap} {a : Addr} {L : TLst} {es : Array (Int × Value)} {ep : Nat} {t : SetTable} (R : SetB P w h a L es ep t) : ObjOk P w H h a (SetBO P w a L) := by
  have ⟨o, ho, r⟩ := R.ob
  refine ⟨⟨es, ep, t, R.ob, R.rows, R.tab, R.plain, R.led, R.room, R.few⟩, ⟨o, ho⟩, fun h1 h2 p k => ?_⟩
  have ⟨es', ep', t', ⟨o', ho', r'⟩, q'⟩ := SetB0.ex p
  exact ⟨es', ep', t', ⟨o', k o' ho', r'⟩, q'⟩
def keyT (x : PK) : Addr × List Int := (x.1, [x.2.1, x.2.2])
section
variable {X : Cx}
/-- set(xs) -/
def rSetB (K : PySem.W.Frag) (P : Program) (w : World) : List V → Hp → VK → Prop := fun xs H Q => ∃ (l : Addr) (ks : List PK), xs = [V.ref l] ∧ SqL K H l (refs ks) ∧ PairsAt H ks ∧ ks.length ≤ 1200 ∧
  ∀ (a : Addr) (js : List PK), H a = none → (∀ p ∈ js, p ∈ ks) → (∀ p ∈ ks, p.2 ∈ js.map (·.2)) → js.length ≤ 1200 → Q (.ref a) (upd H a (SetBO P w a (js.map keyT)))
theorem keyT_of {ks : List PK} : ∀ {L : TLst}, (∀ p ∈ L, p ∈ ks.map keyT) → ∃ js : List PK, L = js.map keyT ∧ ∀ p ∈ js, p ∈ ks
  | [], _ => ⟨[], rfl, fun p h => nomatch h⟩
  | p :: L, h => by
    obtain ⟨x, hx, e⟩ := List.mem_map.mp (h p List.mem_cons_self)
    obtain ⟨js, e2, h2⟩ := keyT_of (L := L) fun q hq => h q (List.mem_cons_of_mem _ hq)
    refine ⟨x :: js, by rw [List.map_cons, e, e2], fun q hq => ?_⟩
    rcases List.mem_cons.mp hq with z | z
    · rw [z]
      exact hx
    · exact h2 q z
theorem cr_setB (hc : X.calm = true) (hu : X.A.units + 64 < cLine) : CallR X (.type "set") (rSetB X.K X.prog X.w) := by
  intro pins s σ H xs us Q I r h
  obtain ⟨l, ks, rfl, hl, hk, hf, q⟩ := h
  rw [Vals.ref1 r]
  obtain ⟨its, rv, pl, hz⟩ := I.list hl
  have hn : H s.heap.objs.size = none := I.hok.fresh (Nat.le_refl _)
  have rv' : Vals ((ks.map keyT).map fun p => V.ref p.1) its := by
    rw [List.map_map]
    exact rv
  refine call_set_b (P := X.prog) (w := X.w) (ks.map keyT) (I.ok.hd hc) pl.isList (by simpa using refs_of_vals rv') (fun p hp => ?_) (by rw [List.length_map]; exact hf) (by omega) fun h' tk L es ep t R g k => ?_
  · obtain ⟨x, hx, rfl⟩ := List.mem_map.mp hp
    exact I.isT (k := [x.2.1, x.2.2]) (.of (hk x hx))
  · obtain ⟨js, rfl, hj⟩ := keyT_of (ks := ks) fun p hp => List.mem_of_mem_take (g.sub p hp)
    refine ⟨.ref s.heap.objs.size, _, I.laid (t' := tk) k (Nat.le_refl _) (setBO_ok R), rfl, q _ js hn hj (fun p hp => ?_) ?_⟩
    · have h1 := g.all (keyT p) (by rw [List.take_length]; exact List.mem_map.mpr ⟨p, hp, rfl⟩)
      rw [List.map_map] at h1
      obtain ⟨y, hy, e⟩ := List.mem_map.mp h1
      refine List.mem_map.mpr ⟨y, hy, ?_⟩
      have e' : [y.2.1, y.2.2] = [p.2.1, p.2.2] := e
      simp only [List.cons.injEq, and_true] at e'
      exact Prod.ext e'.1 e'.2
    · have h1 := R.few
      rwa [List.length_map] at h1
/-- sorted of it -/
def rSortB (P : Program) (w : World) : List V → Hp → VK → Prop := fun vs H Q => ∃ (a : Addr) (js : List PK), vs = [V.ref a] ∧ H a = some (SetBO P w a (js.map keyT)) ∧ PairsAt H js ∧ js.length ≤ 1200 ∧
  ∀ (is : List PK) (p : Addr), is.Perm js → H p = none → Q (.ref p) (upd H p (.lst (refs is)))
theorem refs_perm {js : List PK} : ∀ {out : List Value}, out.Perm (js.map fun x => Value.ref x.1) → ∃ is : List PK, is.Perm js ∧ out = is.map fun x => Value.ref x.1 := by
  intro out hp
  induction js generalizing out with
  | nil =>
    rw [List.map_nil] at hp
    exact ⟨[], .refl _, hp.eq_nil⟩
  | cons j js ih =>
    rw [List.map_cons] at hp
    have hm : Value.ref j.1 ∈ out := hp.mem_iff.mpr List.mem_cons_self
    obtain ⟨l1, l2, rfl⟩ := List.append_of_mem hm
    have hp2 : (l1 ++ l2).Perm (js.map fun x => Value.ref x.1) := List.Perm.cons_inv (List.perm_middle.symm.trans hp)
    obtain ⟨is, p1, e1⟩ := ih hp2
    refine ⟨is.take l1.length ++ j :: is.drop l1.length, ?_, ?_⟩
    · refine List.perm_middle.trans (List.Perm.cons j ?_)
      rw [List.take_append_drop]
      exact p1
    · rw [List.map_append, List.map_cons, List.map_take, List.map_drop, ← e1, List.take_left, List.drop_left]
theorem vals_of_refs2 : ∀ is : List PK, Vals (refs is) (is.map fun x => Value.ref x.1)
  | [] => .nil
  | x :: is => .cons rfl (vals_of_refs2 is)
theorem cr_sortB (hc : X.calm = true) : CallR X (.builtin "sorted") (rSortB X.prog X.w) := by
  intro pins s σ H vs us Q I r h
  obtain ⟨a, js, rfl, ha, hk, hf, q⟩ := h
  rw [Vals.ref1 r]
  have R0 : SetB0 X.prog X.w s.heap a (js.map keyT) := (I.hok a _ ha).1
  obtain ⟨es, ep, t, h1, h2, h3, h4, h5, h6, h7⟩ := R0.ex
  have tups : ∀ p ∈ js.map keyT, IsT X.prog X.w s.heap p.2 p.1 := fun p hp => by
    obtain ⟨x, hx, rfl⟩ := List.mem_map.mp hp
    exact I.isT (k := [x.2.1, x.2.2]) (.of (hk x hx))
  refine sorted_b (P := X.prog) (w := X.w) ⟨h1, h2, h3, tups, h4, h5, h6, h7⟩ (I.ok.hd hc) (fun p hp => ?_) fun s' p out c k g o hp hg pm => ?_
  · obtain ⟨x, hx, rfl⟩ := List.mem_map.mp hp
    exact ⟨_, _, rfl⟩
  · rw [List.map_map] at pm
    obtain ⟨is, p1, e1⟩ := refs_perm pm
    have hn : H p = none := I.hok.fresh hp
    have hv : Vals (refs is) out := by
      rw [e1]
      exact vals_of_refs2 is
    have hlen : (refs is).length ≤ sizeLine := by
      rw [refs_len, p1.length_eq, sizeLine_eq]
      omega
    have J : Inv X pins σ (upd H p (.lst (refs is))) { s with heap := s'.heap, gens := s'.gens, drawn := s'.drawn, toks := s'.toks } :=
      I.call (ch := []) (Un.laid k hp hn) (I.hok.laid k hp ⟨hlen, out, c, hv, hg⟩) (by rw [g]; exact I.bare) (fun _ z => nomatch z)
    have e : s' = { s with heap := s'.heap, gens := s'.gens, drawn := s'.drawn, toks := s'.toks } := by
      cases s'
      cases s
      cases o
      rfl
    rw [e]
    exact ⟨.ref p, _, J, rfl, q is p p1 hn⟩
end
end Hm
set_option Elab.async false
set_option linter.all false
set_option maxRecDepth 100000
set_option maxHeartbeats 4000000
namespace Hm
open PySem PySem.Spec PyProof.Rows L2
/-- for i, x in enumerate(xs) -/
theorem for_en {K : PySem.W.Frag} {a : Addr} {xs : List V} {g : TG} {tb : TS} {D : Ends} {σ : L2.St} {H : Hp} (Pv : Nat → L2.St → Hp → Prop) (h0 : Pv 0 σ H) (hl : ∀ i σ H, i ≤ xs.length → Pv i σ H → SqL K H a xs)
    (hs : ∀ i x σ H T, xs[i]? = some x → Pv i σ H → H T = none → g (.ref T) σ (upd H T (.tup [.int (i : Nat), x])) fun σ2 H2 => tb { D with nx := Pv (i + 1), ct := Pv (i + 1), bk := D.nx } σ2 H2) (hd : ∀ σ H, Pv xs.length σ H → D.nx σ H) :
    ∃ W : Nat → Nat → L2.St → Hp → Prop, (∃ m, W 0 m σ H) ∧ ∀ i m σ H, W i m σ H →
      ((Ite K a).stop i H ∧ D.nx σ H) ∨ ((Ite K a).go i H ∧ ∃ N : L2.St → Hp → Prop, (∀ σ' H', N σ' H' → ∃ m', m' < m ∧ W (i + 1) m' σ' H') ∧ ∀ x H', (Ite K a).yld i H x H' → g x σ H' fun σ2 H2 => tb { D with nx := N, ct := N, bk := D.nx } σ2 H2) := by
  refine ⟨fun i m σ H => i + m = xs.length ∧ Pv i σ H, ⟨xs.length, Nat.zero_add _, h0⟩, ?_⟩
  rintro i m σ H ⟨em, p⟩
  have q := hl i σ H (by omega) p
  by_cases c : i < xs.length
  · have hx : xs[i]? = some xs[i] := List.getElem?_eq_getElem c
    refine .inr ⟨⟨xs, _, q, hx⟩, Pv (i + 1), fun σ' H' p' => ⟨m - 1, by omega, by omega, p'⟩, fun v H' y => ?_⟩
    obtain ⟨T, x, rfl, hT, rfl, f⟩ := y
    exact hs i x σ H T (f xs q) p hT
  · have e : i = xs.length := by omega
    subst e
    exact .inl ⟨⟨xs, q, Nat.le_refl _⟩, hd σ H p⟩
theorem Grow.ext {H0 H H' : Hp} {D p : Addr} {qs qs2 : List (Int × Int)} (g : Grow H0 H D qs) (g2 : Grow H H' p qs2) (h0 : H0 D = none) (hl : qs.length + qs2.length ≤ 100000) :
    ∃ xs zs, H' D = some (.lst xs) ∧ H' p = some (.lst zs) ∧ xs.length + zs.length ≤ sizeLine ∧ Grow H0 (upd H' D (.lst (xs ++ zs))) D (qs ++ qs2) := by
  obtain ⟨ks, h1, h2, h3⟩ := g.ex
  obtain ⟨js, j1, j2, j3⟩ := g2.ex
  have hD := g2.same _ _ h1
  refine ⟨_, _, hD, j1, ?_, keepU (g.same.trans g2.same) h0, ks ++ js, ?_, ?_, ?_⟩
  · rw [refs_len, refs_len, ← List.length_map (f := (·.2)) (as := ks), h2, ← List.length_map (f := (·.2)) (as := js), j2]
    exact szle hl
  · rw [upd_same]
    unfold refs
    rw [List.map_append]
  · rw [List.map_append, h2, j2]
  · refine PairsAt.upd (fun x hx => ?_) hD
    rcases List.mem_append.mp hx with z | z
    · exact g2.same _ _ (h3 x z)
    · exact j3 x z
/-! ### turn_walking -/
def rowW (m N0 j : Nat) (row : List Int) : List (Int × Int) := row.flatMap fun s => [((detI m j s).1, ((N0 + j : Nat) : Int)), (((N0 + j : Nat) : Int), (detI m j s).2)]
def rowsW (m N0 : Nat) (rows : List (List Int)) (i : Nat) : List (Int × Int) := (List.range i).flatMap fun j => rowW m N0 j (rows.getD j [])
def wayL (n : Nat) (rows : List (List Int)) : List (Int × Int) := (List.range n).flatMap (swL n rows.length) ++ rowsW rows.length (n * (3 * rows.length + 2)) rows rows.length
theorem rowW_len (m N0 j : Nat) : ∀ row : List Int, (rowW m N0 j row).length = 2 * row.length
  | [] => rfl
  | s :: row => by
    have h : rowW m N0 j (s :: row) = ((detI m j s).1, ((N0 + j : Nat) : Int)) :: (((N0 + j : Nat) : Int), (detI m j s).2) :: rowW m N0 j row := rfl
    rw [h, List.length_cons, List.length_cons, rowW_len m N0 j row, List.length_cons]
    omega
theorem rowW_snoc (m N0 j : Nat) (row : List Int) (s : Int) : rowW m N0 j (row ++ [s]) = rowW m N0 j row ++ [((detI m j s).1, ((N0 + j : Nat) : Int))] ++ [(((N0 + j : Nat) : Int), (detI m j s).2)] := by
  unfold rowW
  rw [List.flatMap_append]
  simp
theorem rowsW_succ (m N0 : Nat) (rows : List (List Int)) (i : Nat) : rowsW m N0 rows (i + 1) = rowsW m N0 rows i ++ rowW m N0 i (rows.getD i []) := by
  unfold rowsW
  rw [List.range_succ, List.flatMap_append]
  simp
theorem flat_succ {β : Type} (f : Nat → List β) (i : Nat) : (List.range (i + 1)).flatMap f = (List.range i).flatMap f ++ f i := by
  rw [List.range_succ, List.flatMap_append]
  simp
theorem flat_mono {β : Type} (f : Nat → List β) {i n : Nat} (h : i ≤ n) : ((List.range i).flatMap f).length ≤ ((List.range n).flatMap f).length := by
  induction h with
  | refl => exact Nat.le_refl _
  | step _ ih =>
    rw [flat_succ, List.length_append]
    omega
section
variable {P : Program} {w : World} {K : PySem.W.Frag} {mg : Str → Option Value} {base : Heap}
def spTWalk (K : PySem.W.Frag) : Sp := fun vs H Q _ => ∃ (qa : Addr) (n : Nat) (rows : List (List Int)), vs = [.ref qa] ∧ ClQ K H qa n rows ∧ OkRows n rows ∧ n ≤ 1000 ∧ (wayL n rows).length ≤ 1200 ∧
  ∀ H' p qs, Same H H' → H p = none → RQ K H' p (n * (3 * rows.length + 2) + rows.length) qs → (∀ q, q ∈ qs ↔ q ∈ wayL n rows) → qs.length ≤ 1200 → Q (.ref p) H'
set_option maxHeartbeats 8000000 in
theorem ok_tWalk (T : Tops K mg) : Cl P w K mg base 3 "turn_walking" (spTWalk K) := by
  have Cw : Cl P w K mg base 2 "street_ways" (spSWays K) := ok_sWays T
  have Cr : Cl P w K mg base 2 "row_town" (spRTown K) := ok_rTown T
  have Cd : Cl P w K mg base 2 "detour" (spDetour K) := ok_detour T
  refine mkC T.fTWalk scTWalk (fun vs H Q E h => ?_) (fun f cdv A outer s H vs Q E hr h => ?_)
  · obtain ⟨qa, n, rows, rfl, _⟩ := h
    rfl
  · obtain ⟨qa, n, rows, rfl, cq, ok, hn, hwl, q⟩ := h
    obtain ⟨z, ra, hq, hra⟩ := cq.ex
    obtain ⟨rk, k1, k2, k3⟩ := hra.ex
    have hlr : (rowRefs rk).length = rows.length := by
      unfold rowRefs
      rw [← k2, List.length_map, List.length_map]
    refine ⟨_, pss_cons (ps_set (i := 1) scTWalk.nd rfl (.inl rfl) (pe_lst pa_nil))
      (pss_cons (ps_for PassesOwn.never rfl (pi_range1 rfl T.b_range (pa_cons (pe_ix ix_tup (pv 0) pe_int (fun _ _ => rfl)) pa_nil)) (pg_name (i := 2) scTWalk.nd rfl (Or.inl rfl))
        (pss_one (ps_expr (pe_bm PySem.F.plainAttrs_list PySem.F.slot_list_extend PySem.F.type_list_extend mt_extend (pv 1) (pa_cons (pe_k Cw hr (pa_cons (pv 0) (pa_cons (pv 2) pa_nil))) pa_nil)))))
      (pss_cons (ps_for PassesOwn.never rfl (pi_enum (by rfl) T.b_enumerate (pa_cons (pe_ix ix_tup (pv 0) pe_int (fun _ _ => rfl)) pa_nil)) (pg_tup rfl (pgs_cons (pg_name (i := 3) scTWalk.nd rfl (Or.inl rfl)) (pgs_cons (pg_name (i := 4) scTWalk.nd rfl (Or.inl rfl)) pgs_nil)))
        (pss_cons (ps_set (i := 5) scTWalk.nd rfl (.inl rfl) (pe_k Cr hr (pa_cons (pv 0) (pa_cons (pv 3) pa_nil))))
        (pss_one (ps_for PassesOwn.never rfl (pi_tup (pv 4)) (pg_name (i := 6) scTWalk.nd rfl (Or.inl rfl))
          (pss_cons (ps_asg (pe_k Cd hr (pa_cons (pv 0) (pa_cons (pv 3) (pa_cons (pv 6) pa_nil)))) (pg_tup rfl (pgs_cons (pg_name (i := 7) scTWalk.nd rfl (Or.inl rfl)) (pgs_cons (pg_name (i := 8) scTWalk.nd rfl (Or.inl rfl)) pgs_nil))))
          (pss_cons (ps_expr (pe_bm PySem.F.plainAttrs_list PySem.F.slot_list_append PySem.F.type_list_append mt_append (pv 1) (pa_cons (pe_tup (pa_cons (pv 7) (pa_cons (pv 5) pa_nil))) pa_nil)))
          (pss_one (ps_expr (pe_bm PySem.F.plainAttrs_list PySem.F.slot_list_append PySem.F.type_list_append mt_append (pv 1) (pa_cons (pe_tup (pa_cons (pv 5) (pa_cons (pv 8) pa_nil))) pa_nil))))))))))
      (pss_one (ps_ret (pe_tup (pa_cons pe_str (pa_cons (pe_k Cr hr (pa_cons (pv 0) (pa_cons (pe_callB call_len_seq (by rfl) T.b_len PySem.boot_len (pa_cons (pe_ix ix_tup (pv 0) pe_int (fun _ _ => rfl)) pa_nil)) pa_nil)))
        (pa_cons (pe_callB (cr_sortB rfl) (by rfl) T.b_sorted (by decide +kernel) (pa_cons (pe_callTy (cr_setB rfl hr.units) (by rfl) T.b_set (by decide +kernel) (pa_cons (pv 1) pa_nil)) pa_nil)) pa_nil)))))))), ?_⟩
    refine ⟨Nat.zero_le _, fun D hD => ?_⟩
    have s1 : Same H (upd H D (.lst [])) := keepN hD
    refine ⟨_, rfl, qa, _, 1, _, rfl, rfl, sqt_same s1 hq, atI_nat (j := 1) rfl, _, rfl, by omega, by omega, ?_⟩
    rw [Int.toNat_natCast]
    refine for_r0 (n := n) (fun i σ H3 => ∃ y2, σ = [some (.ref qa), some (.ref D), y2, none, none, none, none, none, none] ∧ Grow H H3 D ((List.range i).flatMap (swL n rows.length))) ⟨none, rfl, Grow.nil hD⟩ ?_ ?_
    · rintro i σ H3 hi ⟨y2, rfl, g⟩
      obtain ⟨ys, y1, _⟩ := g.at_
      refine ⟨_, rfl, .inl ⟨rfl, _, .of y1⟩, _, rfl, _, rfl, qa, n, i, rows, rfl, cq.same g.same, by have := ok.1; omega, hn, hi, fun H4 p hp g2 => ?_⟩
      have hlen : ((List.range i).flatMap (swL n rows.length)).length + (swL n rows.length i).length ≤ 100000 := by
        rw [← List.length_append, ← flat_succ]
        refine Nat.le_trans (flat_mono (swL n rows.length) (show i + 1 ≤ n from hi)) ?_
        unfold wayL at hwl
        rw [List.length_append] at hwl
        omega
      obtain ⟨xs, zs, x1, x2, x3, x4⟩ := g.ext g2 hD hlen
      refine ⟨D, p, xs, zs, rfl, rfl, x1, x2, x3, _, rfl, ?_⟩
      rw [flat_succ]
      exact x4
    · rintro σ H3 ⟨y2, rfl, g⟩
      have hwl2 : ((List.range n).flatMap (swL n rows.length)).length + (rowsW rows.length (n * (3 * rows.length + 2)) rows rows.length).length ≤ 1200 := by
        rw [← List.length_append]
        exact hwl
      generalize hN0 : n * (3 * rows.length + 2) = N0 at *
      refine ⟨_, rfl, qa, _, 2, _, rfl, rfl, sqt_same g.same hq, atI_nat (j := 2) rfl, ra, rowRefs rk, rfl, g.same.seq k1, ?_⟩
      refine for_en (xs := rowRefs rk) (fun i σ H4 => ∃ y3 y4 y5 y6 y7 y8, σ = [some (.ref qa), some (.ref D), y2, y3, y4, y5, y6, y7, y8] ∧ Grow H H4 D ((List.range n).flatMap (swL n rows.length) ++ rowsW rows.length N0 rows i)) ⟨none, none, none, none, none, none, rfl, by
        have e : rowsW rows.length N0 rows 0 = [] := rfl
        rw [e, List.append_nil]
        exact g⟩ ?_ ?_ ?_
      · rintro i σ H4 _ ⟨_, _, _, _, _, _, _, g4⟩
        exact g4.same.seq k1
      · rintro i x σ H4 T1 hx ⟨y3, y4, y5, y6, y7, y8, rfl, g4⟩ hT1
        obtain ⟨r, hr1, rfl⟩ := rowRefs_at hx
        have hil : i < rows.length := by
          rw [← hlr]
          exact (List.getElem?_eq_some_iff.mp hx).1
        have hri : rows[i]? = some r.2 := by
          rw [← k2, List.getElem?_map, hr1]
          rfl
        have hget : rows.getD i [] = r.2 := by
          rw [List.getD_eq_getElem?_getD, hri]
          rfl
        obtain ⟨o1, o2⟩ := ok.2 r.2 (List.mem_of_getElem? hri)
        have g5 := g4.more (keepN (o := .tup [.int (i : Nat), .ref r.1]) hT1)
        refine ⟨T1, _, rfl, .of upd_same, rfl, _, _, rfl, _, _, rfl, rfl, ?_⟩
        refine ⟨_, rfl, _, rfl, qa, n, i, rows, rfl, cq.same g5.same, by have := ok.1; omega, hn, ?_⟩
        have hrow := sqt_same g5.same (k3 r (List.mem_of_getElem? hr1))
        rw [hN0]
        have hlen5 : ∀ j, j ≤ r.2.length → ((List.range n).flatMap (swL n rows.length) ++ rowsW rows.length N0 rows i ++ rowW rows.length N0 i (r.2.take j)).length ≤ 2000 := by
          intro j hj
          have h1 : (rowsW rows.length N0 rows i).length ≤ (rowsW rows.length N0 rows rows.length).length := flat_mono _ (Nat.le_of_lt hil)
          rw [List.length_append, List.length_append, rowW_len, List.length_take]
          omega
        refine ⟨_, rfl, r.1, rfl, ⟨_, hrow⟩, ?_⟩
        refine for_tup (xs := r.2.map V.int) (fun j σ H5 => ∃ y6 y7 y8, σ = [some (.ref qa), some (.ref D), y2, some (.int i), some (.ref r.1), some (.int (N0 + i : Nat)), y6, y7, y8] ∧
          Grow H H5 D ((List.range n).flatMap (swL n rows.length) ++ rowsW rows.length N0 rows i ++ rowW rows.length N0 i (r.2.take j))) ⟨y6, y7, y8, rfl, by
            have e : rowW rows.length N0 i (r.2.take 0) = [] := rfl
            rw [e, List.append_nil]
            exact g5⟩ ?_ ?_ ?_
        · rintro j σ H5 _ ⟨_, _, _, _, g6⟩
          exact sqt_same g6.same (k3 r (List.mem_of_getElem? hr1))
        · rintro j y σ H5 hy ⟨y6, y7, y8, rfl, g6⟩
          obtain ⟨i2, hy2, rfl⟩ := iL_at hy
          have hjl : j < r.2.length := (List.getElem?_eq_some_iff.mp hy2).1
          have hl6 := hlen5 j (Nat.le_of_lt hjl)
          refine ⟨_, rfl, _, rfl, _, rfl, qa, n, i, i2, rows, rfl, cq.same g6.same, by have := ok.1; omega, hn, by have := ok.1; omega, o2 _ (List.mem_of_getElem? hy2), fun p hp => ?_⟩
          have g7 := g6.more (keepN (o := pairO (detI rows.length i i2)) hp)
          refine ⟨p, _, rfl, .of upd_same, rfl, _, _, rfl, _, _, rfl, rfl, ?_⟩
          obtain ⟨ys, y1, _⟩ := g7.at_
          refine ⟨_, rfl, .inl ⟨rfl, _, .of y1⟩, _, rfl, _, rfl, by show 2 ≤ sizeLine; decide, fun t2 ht2 => ?_⟩
          obtain ⟨acc, a1, a2, a3⟩ := (g7.more (keepN (o := pairO ((detI rows.length i i2).1, ((N0 + i : Nat) : Int))) ht2)).push upd_same hD (by omega)
          refine ⟨D, acc, _, rfl, rfl, a1, a2, ?_⟩
          obtain ⟨ys2, y2', _⟩ := a3.at_
          refine ⟨_, rfl, .inl ⟨rfl, _, .of y2'⟩, _, rfl, _, rfl, by show 2 ≤ sizeLine; decide, fun t3 ht3 => ?_⟩
          obtain ⟨acc2, b1, b2, b3⟩ := (a3.more (keepN (o := pairO (((N0 + i : Nat) : Int), (detI rows.length i i2).2)) ht3)).push upd_same hD (by rw [List.length_append]; show _ + 1 ≤ _; omega)
          refine ⟨D, acc2, _, rfl, rfl, b1, b2, _, _, _, rfl, ?_⟩
          rw [take_snoc hy2, rowW_snoc, ← List.append_assoc, ← List.append_assoc]
          exact b3
        · rintro σ H5 ⟨y6, y7, y8, rfl, g6⟩
          rw [List.length_map, List.take_length] at g6
          refine ⟨_, _, _, _, _, _, rfl, ?_⟩
          rw [rowsW_succ, hget, ← List.append_assoc]
          exact g6
      · rintro σ H4 ⟨y3, y4, y5, y6, y7, y8, rfl, g4⟩
        rw [hlr] at g4
        refine ⟨_, rfl, _, rfl, qa, _, 2, _, rfl, rfl, sqt_same g4.same hq, atI_nat (j := 2) rfl, ra, rowRefs rk, rfl, .inl (g4.same.seq k1), qa, n, rows.length, rows, by rw [hlr]; rfl, cq.same g4.same, by have := ok.1; omega, hn, ?_⟩
        rw [hN0]
        obtain ⟨ks, m1, m2, m3⟩ := g4.ex
        have hkl : ks.length ≤ 1200 := by
          rw [← List.length_map (f := (·.2)), m2, List.length_append]
          exact hwl2
        refine ⟨_, rfl, D, ks, rfl, .of m1, m3, hkl, fun a js ha j1 j2 j3 => ?_⟩
        have m3' : PairsAt (upd H4 a (SetBO P w a (js.map keyT))) js := fun x hx => by
          rw [upd_ne (ne_of_none (m3 x (j1 x hx)) ha)]
          exact m3 x (j1 x hx)
        refine ⟨a, js, rfl, upd_same, m3', j3, fun is b hp hb => ?_⟩
        refine ⟨by show 3 ≤ sizeLine; decide, fun p hp' => ?_⟩
        have s5 : Same H (upd (upd H4 a (SetBO P w a (js.map keyT))) b (.lst (refs is))) := keepT (keepT g4.same ha) hb
        refine q _ p (is.map (·.2)) (keepT s5 hp') (s5.free hp') ⟨_, b, .of upd_same, is, .of ?_, rfl, fun x hx => ?_⟩ (fun x => ?_) ?_
        · rw [upd_ne (fun z => by rw [← z, upd_same] at hp'; cases hp')]
          exact upd_same
        · have hx' := m3' x (hp.mem_iff.mp hx)
          have h2 : upd (upd H4 a (SetBO P w a (js.map keyT))) b (.lst (refs is)) x.1 = some (pairO x.2) := by
            rw [upd_ne (ne_of_none hx' hb)]
            exact hx'
          rw [upd_ne (ne_of_none h2 hp')]
          exact h2
        · have e : wayL n rows = ks.map (·.2) := by
            rw [m2]
            unfold wayL
            rw [hN0]
          rw [e]
          constructor
          · intro hx
            obtain ⟨y, hy, rfl⟩ := List.mem_map.mp hx
            exact List.mem_map.mpr ⟨y, j1 y (hp.mem_iff.mp hy), rfl⟩
          · intro hx
            obtain ⟨y, hy, rfl⟩ := List.mem_map.mp hx
            exact ((hp.map (·.2)).mem_iff).mpr (j2 y hy)
        · rw [List.length_map, hp.length_eq]
          exact j3
end
end Hm
set_option Elab.async false
set_option linter.all false
set_option maxRecDepth 100000
set_option maxHeartbeats 4000000
/-! list(reversed(xs)), xs a list. -/
namespace Hm
open PySem PySem.Spec PyProof.Rows L2
section
variable {prog : Program} {w : World} {A : Around} {E : Value → Shared → Prop} {s : Shared}
/-- a fresh list takes all that a list's reversed iterator yields -/
theorem extend_rev {R : Result → Shared → Prop} {S it l : Addr} {items : Array Value} {c₀ : Nat} {res : Value} (hh : A.handled = none) (hit : s.heap.IsRevIter it l ((items.size : Int) - 1)) (hl : s.heap.IsList l items)
    (hne : l ≠ it) (hn : items.size ≤ sizeLine) (hSi : S ≠ it) (hSl : S ≠ l) (hS : s.heap.get? S = some { cls := .type "list", data := .seq #[] c₀ })
    (hR : ∀ h' tk acc c', (∀ b o, b ≠ S → b ≠ it → s.heap.get? b = some o → h'.get? b = some o) → h'.get? S = some { cls := .type "list", dict := none, data := .seq acc c', slots := #[] } →
      ItemsOf (fun i v => items[items.size - 1 - i]? = some v) acc items.size → R (.ok (.ret res)) { s with heap := h', toks := tk }) :
    wpAny (model prog w) A.in1 (Builtin.List.listExtendWith (.ref S) (.ref it) res)
      (fun fin s' => match fin with | .done f => R (.ok f) s' | .again c' => c'.quiet = true ∧ codeAny (model prog w) A c' R s') (fun e s' => R (.error e) s') s := by
  have W := (Walks.listRev (prog := prog) (w := w) (A := A.in1) hh it l hne items).toS
  have hSf : S ∉ [it, l] := by
    intro hm
    rcases List.mem_cons.mp hm with z | z
    · exact hSi z
    · exact hSl (List.mem_singleton.mp z)
  have hT : s.TypeIs (.ref it) "list_reverseiterator" := hit.typeIs
  have other : Builtin.List.listSameRef (.ref S) (.ref it) = false := by simp [Builtin.List.listSameRef, hSi]
  unfold Builtin.List.listExtendWith
  refine wpAny_bind (wpAny_typeOf hT ?_)
  rw [if_neg (by rw [other]; decide)]
  refine wpAny_bind (wpAny_pyIter_revIter hit ?_)
  refine wpAny_bind (wpAny_holding ?_)
  unfold Builtin.List.listLengthHint
  refine wpAny_bind (wpAny_specialOf hT RT.nolen_lri ?_)
  show wpAny _ A.in1 (specialOf (Value.ref it) (Str.ofString "__length_hint__") >>= _) _ _ _
  refine wpAny_bind (wpAny_specialOf hT RT.hint_lri ?_)
  generalize hid : ("list_reverseiterator.__length_hint__" : String) = w0
  wp_delta
  rw [show splitId w0 = some ("list_reverseiterator", "__length_hint__") from by subst hid; decide +kernel]
  subst hid
  refine wpAny_bind (wpAny_isInstance (b := true) hT (by rw [isSubtype_type]; kernel_rfl) ?_)
  refine wpAny_pure ?_
  rw [if_neg (by decide)]
  have e0 : ((items.size : Nat) : Int) - 1 - ((0 : Nat) : Int) = (items.size : Int) - 1 := by omega
  refine wpAny_pure ⟨plainId_quiet F.plain_extend_loop _, codeAny_extend_loopS W hn S hSf res items.size 0 s #[] c₀ rfl (Nat.zero_le _) ⟨Nat.zero_le _, by rw [e0]; exact hit, hl⟩ hS (ItemsOf.nil _) fun s' acc c' hm hS' hacc => ?_⟩
  rw [Moved.eq_with hm]
  refine hR s'.heap s'.toks acc c' (fun b o h1 h2 e => hm.heap b o (fun hmem => ?_) e) hS' hacc
  rcases List.mem_cons.mp hmem with z | z
  · exact h1 z
  · exact h2 (List.mem_singleton.mp z)
theorem call_list_rev {it l : Addr} {items : Array Value} {Q : Value → Shared → Prop} (hh : A.handled = none) (hit : s.heap.IsRevIter it l ((items.size : Int) - 1)) (hl : s.heap.IsList l items) (hne : l ≠ it) (hn : items.size ≤ sizeLine)
    (hQ : ∀ h' tk acc c', (∀ b o, b ≠ it → s.heap.get? b = some o → h'.get? b = some o) → h'.get? s.heap.objs.size = some { cls := .type "list", dict := none, data := .seq acc c', slots := #[] } →
      ItemsOf (fun i v => items[items.size - 1 - i]? = some v) acc items.size → Q (.ref s.heap.objs.size) { s with heap := h', toks := tk }) :
    wpAny (model prog w) A (call (.type "list") [.ref it]) Q E s := by
  refine callType_codes (Q₁ := fun obj s₁ => obj = .ref s.heap.objs.size ∧ s₁ = { s with heap := s.heap.push { cls := .type "list", data := .seq #[] } }) PySem.F.called_list (PySem.F.typeCall_list_1 _) PySem.F.entry_list_init
    (code_list_new _ ⟨rfl, rfl⟩) fun obj s₁ h₁ => ?_
  obtain ⟨rfl, rfl⟩ := h₁
  have hS : (s.heap.push { cls := .type "list", data := .seq #[] }).get? s.heap.objs.size = some { cls := .type "list", data := .seq #[] } := Heap.get?_push_size _ rfl
  have lt1 : it < s.heap.objs.size := let ⟨_, e, _⟩ := hit; Heap.lt_size e
  have lt2 : l < s.heap.objs.size := let ⟨_, e, _⟩ := hl; Heap.lt_size e
  refine ⟨⟨_, hS, rfl⟩, PySem.F.args_list_init_2 _ _, ?_⟩
  show wpAny _ _ (do let old ← Builtin.List.listItems (.ref s.heap.objs.size); Builtin.List.listUpdate (.ref s.heap.objs.size) (fun _ => #[]); letGo old.toList.reverse; Builtin.List.listExtendWith (.ref s.heap.objs.size) (.ref it) .none) _ _ _
  refine wpAny_bind ?_
  unfold Builtin.List.listItems
  refine wpAny_bind (wpAny_seqItems hS rfl (wpAny_pure ?_))
  show wpAny _ _ (updateSeq s.heap.objs.size (fun _ => #[]) >>= fun _ => letGo (#[] : Array Value).toList.reverse >>= fun _ => Builtin.List.listExtendWith (.ref s.heap.objs.size) (.ref it) .none) _ _ _
  refine wpAny_bind (wpAny_updateSeq hS rfl ?_)
  have hS2 := Heap.get?_update_self (Obj.mapSeq (fun _ => (#[] : Array Value))) hS rfl
  have kp : ∀ b o, s.heap.get? b = some o → ((s.heap.push { cls := .type "list", data := .seq #[] }).update s.heap.objs.size (Obj.mapSeq (fun _ => (#[] : Array Value)))).get? b = some o := fun b o e =>
    (Heap.get?_update_other _ _ (Nat.ne_of_gt (Heap.lt_size e))).trans (Heap.get?_push_of_some _ e)
  refine wpAny_bind (wpAny_letGo ?_)
  refine extend_rev (A := A.in1) (S := s.heap.objs.size) (items := items) hh (hit.at fun o e => kp _ o e) ?_ hne hn (Nat.ne_of_gt lt1) (Nat.ne_of_gt lt2) hS2 fun h' tk acc c' hk hS' hacc => ?_
  · obtain ⟨o, e, r⟩ := hl
    exact ⟨o, kp _ _ e, r⟩
  · exact ⟨rfl, hQ h' tk acc c' (fun b o hb e => hk b o (Nat.ne_of_lt (Heap.lt_size e)) hb (kp b o e)) hS' hacc⟩
end
def tLstRev (K : PySem.W.Frag) (te : TE) : TE := fun σ H Q => te σ H fun v H1 => ∃ (a : Addr) (xs : List V), v = .ref a ∧ SqL K H1 a xs ∧ ∀ q, H1 q = none → Q (.ref q) (upd H1 q (.lst xs.reverse))
theorem pe_lstRev {X : Cx} {e : Expr} {te : TE} {p p2 pos pos2 : Pos} (hc : X.calm = true) (hg : Gl X "list") (hm : X.mg "list" = none) (hg2 : Gl X "reversed") (hm2 : X.mg "reversed" = none) (he : PE X e te)
    (hs : starEach [e] X.env = (false, eval e X.env) :: starEach [] X.env := by rfl)
    (hs2 : starEach [.Call (.Name "reversed" p2) [e] [] pos2] X.env = (false, eval (.Call (.Name "reversed" p2) [e] [] pos2) X.env) :: starEach [] X.env := by rfl) :
    PE X (.Call (.Name "list" p) [.Call (.Name "reversed" p2) [e] [] pos2] [] pos) (tLstRev X.K te) := by
  refine ⟨fun pins s σ H Q I h => ?_⟩
  refine Call_ (ld_blt I hg hm boot_list (PyProof.Rows.callWith_type1 (args_cons (Call_ (ld_blt I hg2 hm2 PyProof.Rows.boot_reversed (PyProof.Rows.callWith_type1 (args_cons (thn (he.run pins s σ H _ I h) fun u s1 ⟨v, H1, I1, r1, q1⟩ => args_nil ?_) hs) hs rfl))) hs2) hs2 rfl))
  obtain ⟨a, xs, rfl, hq, q⟩ := q1
  obtain rfl : u = Value.ref a := r1
  obtain ⟨its, rv, pl, hz⟩ := I1.list hq
  have hl := pl.isList
  refine call_reversed_list hl (args_nil ?_)
  have hne : a ≠ s1.heap.objs.size := let ⟨_, e, _⟩ := hl; Nat.ne_of_lt (Heap.lt_size e)
  have hn : its.toArray.size ≤ sizeLine := by
    rw [List.size_toArray, ← rv.length]
    exact hz
  have sz2 : (s1.heap.push (revObj a ((its.toArray.size : Int) - 1))).objs.size = s1.heap.objs.size + 1 := Heap.size_push ..
  refine call_list_rev (s := { s1 with heap := s1.heap.push (revObj a ((its.toArray.size : Int) - 1)) }) (I1.ok.hd hc) ⟨_, Heap.get?_push_size _ rfl, rfl, rfl⟩ (hl.push _) hne hn fun h' tk acc c' hk hS hacc => ?_
  dsimp only at hS hk
  rw [sz2] at hS
  have keeps : ∀ b o, s1.heap.get? b = some o → h'.get? b = some o := fun b o e => hk b o (Nat.ne_of_lt (Heap.lt_size e)) (Heap.get?_push_of_some _ e)
  have hle : s1.heap.objs.size ≤ s1.heap.objs.size + 1 := Nat.le_succ _
  show EP X pins σ Q (.ref (s1.heap.push (revObj a ((its.toArray.size : Int) - 1))).objs.size) _
  rw [sz2]
  refine ⟨.ref (s1.heap.objs.size + 1), upd H1 (s1.heap.objs.size + 1) (.lst xs.reverse), I1.laid (t' := tk) keeps hle ⟨?_, acc.toList, c', RT.vals_rev rv hacc, ?_⟩, rfl, q _ (I1.hok.fresh hle)⟩
  · rw [List.length_reverse]
    exact hz
  · rw [Array.toArray_toList]
    exact hS
end Hm
set_option Elab.async false
set_option linter.all false
set_option maxRecDepth 100000
set_option maxHeartbeats 8000000
namespace Hm
open PySem PySem.Spec PyProof.Rows L2
/-! ### the walk's data -/
def natV (t : Nat) : V := V.int (t : Int)
def firstR (bs : List Bool) (row : List Int) : Int := (row.filter (rightB bs)).headD 0
def tauF (bs : List Bool) (k : Nat) : Bool := bs.getD k false
def kapF (bs : List Bool) (rows : List (List Int)) (j : Nat) : Nat := nameOf (firstR bs (rows.getD j []))
theorem nameOf_lt {n : Nat} {s : Int} (h : OkSign n s) : nameOf s < n := by
  unfold nameOf
  rcases h with o | o <;> omega
theorem first_mem {bs : List Bool} {row : List Int} (h : row.any (rightB bs) = true) : firstR bs row ∈ row ∧ rightB bs (firstR bs row) = true ∧ (row.filter (rightB bs))[0]? = some (firstR bs row) := by
  unfold firstR
  cases e : row.filter (rightB bs) with
  | nil =>
    obtain ⟨x, hx, hr⟩ := List.any_eq_true.mp h
    have hm : x ∈ row.filter (rightB bs) := List.mem_filter.mpr ⟨hx, hr⟩
    rw [e] at hm
    exact nomatch hm
  | cons x r =>
    have hm : x ∈ row.filter (rightB bs) := by
      rw [e]
      exact List.mem_cons_self
    obtain ⟨h1, h2⟩ := List.mem_filter.mp hm
    exact ⟨h1, h2, rfl⟩
theorem det_right {bs : List Bool} {rows : List (List Int)} {m j : Nat} (h : rightB bs (firstR bs (rows.getD j [])) = true) :
    detI m j (firstR bs (rows.getD j [])) = natP (aheadN m (tauF bs) (kapF bs rows) j) (behindN m (tauF bs) (kapF bs rows) j) := by
  unfold rightB at h
  unfold detI aheadN behindN kapF tauF
  by_cases c : 0 < firstR bs (rows.getD j [])
  · rw [if_pos c] at h
    rw [if_pos c, h]
    simp only [if_true]
  · rw [if_neg c] at h
    have h' : bs.getD (nameOf (firstR bs (rows.getD j []))) false = false := by
      cases e : bs.getD (nameOf (firstR bs (rows.getD j []))) false with
      | false => rfl
      | true =>
        rw [e] at h
        cases h
    rw [if_neg c, h']
    simp only [Bool.false_eq_true, if_false]
/-- the dict of what stands behind a street's town -/
structure Met (H : Hp) (d : Addr) (f : Nat → Option Nat) (i : Nat) : Prop where
  ex : ∃ kvs : List (Key × V), H d = some (.dK kvs) ∧ kvs.length ≤ i ∧ ∀ p : Nat, valV kvs (.inl (p : Int)) = (f p).map natV
theorem Met.same {H H' : Hp} {d : Addr} {f : Nat → Option Nat} {i : Nat} (h : Met H d f i) (s : Same H H') : Met H' d f i := by
  obtain ⟨kvs, h1, h2, h3⟩ := h.ex
  exact ⟨kvs, s _ _ h1, h2, h3⟩
theorem Met.get {H : Hp} {d : Addr} {f : Nat → Option Nat} {i : Nat} (h : Met H d f i) (p : Nat) : DGet H d (natV p) ((f p).map natV) := by
  obtain ⟨kvs, h1, h2, h3⟩ := h.ex
  rw [← h3 p]
  exact DGet.k (k := .inl (p : Int)) h1
theorem streetN_up {m k : Nat} {tau : Nat → Bool} (h : tau k = true) : streetN m tau k = (List.range (3 * m + 1)).map (strN m k) := by
  unfold streetN goN
  rw [h]
  rfl
theorem streetN_dn {m k : Nat} {tau : Nat → Bool} (h : tau k = false) : streetN m tau k = ((List.range (3 * m + 1)).map (strN m k)).reverse := by
  unfold streetN goN
  rw [h]
  apply List.ext_getElem?
  intro i
  by_cases hi : i < 3 * m + 1
  · rw [List.getElem?_map, List.getElem?_range hi, List.getElem?_reverse (by simpa using hi), List.length_map, List.length_range, List.getElem?_map, List.getElem?_range (by omega)]
    simp only [Bool.false_eq_true, if_false, Option.map_some]
    congr 2
  · rw [List.getElem?_eq_none (by simpa using hi), List.getElem?_eq_none (by simpa using hi)]
theorem ins_len (met : Nat → Option Nat) : ∀ l : List Nat, (l.flatMap (ins met)).length ≤ 2 * l.length
  | [] => Nat.le_refl _
  | t :: l => by
    rw [List.flatMap_cons, List.length_append, List.length_cons]
    have h := ins_len met l
    have h2 : (ins met t).length ≤ 2 := by
      unfold ins
      cases met t <;> simp
    omega
theorem block_len {n m k : Nat} {tau : Nat → Bool} {kap : Nat → Nat} : (blockN n m tau kap k).length ≤ 6 * m + 3 := by
  unfold blockN
  rw [List.length_cons]
  have h := ins_len (metN n m tau kap m) (streetN m tau k)
  unfold streetN at h
  rw [List.length_map, List.length_range] at h
  unfold streetN
  omega
theorem blocks_len {n m : Nat} {tau : Nat → Bool} {kap : Nat → Nat} : ∀ i, ((List.range i).flatMap (blockN n m tau kap)).length ≤ i * (6 * m + 3)
  | 0 => Nat.zero_le _
  | i + 1 => by
    rw [flat_succ, List.length_append, Nat.add_mul]
    have h1 := blocks_len (n := n) (m := m) (tau := tau) (kap := kap) i
    have h2 := block_len (n := n) (m := m) (tau := tau) (kap := kap) (k := i)
    omega
theorem nat_at {l : List Nat} {i : Nat} {x : V} (h : (l.map natV)[i]? = some x) : ∃ t, l[i]? = some t ∧ x = natV t := by
  rw [List.getElem?_map] at h
  obtain ⟨t, h1, h2⟩ := Option.map_eq_some_iff.mp h
  exact ⟨t, h1, h2.symm⟩
theorem iL_snoc (a : List Int) (x : Int) : iL (a ++ [x]) = iL a ++ [V.int x] := List.map_append
theorem nat_snoc (a : List Nat) (x : Nat) : (a ++ [x]).map natV = a.map natV ++ [natV x] := List.map_append
theorem filter_snoc {α : Type} (p : α → Bool) {l : List α} {i : Nat} {x : α} (h : l[i]? = some x) : (l.take (i + 1)).filter p = (l.take i).filter p ++ if p x = true then [x] else [] := by
  rw [take_snoc h, List.filter_append]
  cases e : p x <;> simp [List.filter_cons, e]
section
variable {P : Program} {w : World} {K : PySem.W.Frag} {mg : Str → Option Value} {base : Heap}
/-- behind an if all goes on alike -/
def tCut (t u : TS) : TS := fun D σ H => ∃ Mid : L2.St → Hp → Prop, t { D with nx := Mid } σ H ∧ ∀ σ' H', Mid σ' H' → u D σ' H'
theorem pss_cut {X : Cx} {st : Stmt} {rest : List Stmt} {t u : TS} (h1 : PS X st t) (h2 : PSs X rest u) : PSs X (st :: rest) (tCut t u) := by
  refine ⟨fun pins s σ H D I h => ?_⟩
  obtain ⟨Mid, h, hm⟩ := h
  refine wpAny_execs_cons (thn (h1.run pins s σ H { D with nx := Mid } I h) fun f s1 q => ?_)
  cases f with
  | next =>
    obtain ⟨σ', H', I', q⟩ := q
    exact h2.run pins s1 σ' H' D I' (hm _ _ q)
  | ret v => exact q
  | brk => exact q
  | cont => exact q
theorem Met.put {H : Hp} {d : Addr} {f : Nat → Option Nat} {i a b : Nat} (h : Met H d f i) (hi : i ≤ 10000) : ∃ H', DPut H d (natV a) (natV b) H' ∧ Met H' d (fun p => if p = a then some b else f p) (i + 1) ∧ ∀ c, c ≠ d → H' c = H c := by
  obtain ⟨kvs, h1, h2, h3⟩ := h.ex
  refine ⟨_, DPut.k (k := .inl (a : Int)) h1 (sz (by omega)), ⟨_, upd_same, Nat.le_trans (putK_le _ _ _) (by omega), fun p => ?_⟩, fun c hc => upd_ne hc⟩
  rw [valV_put]
  by_cases e : p = a
  · subst e
    rw [if_pos rfl, if_pos rfl]
    rfl
  · rw [if_neg e, if_neg (fun z => e (by
      have z' := Sum.inl.inj z
      omega)), h3 p]
/-! ### forth_walking, where the truths hold -/
def spFWalk (K : PySem.W.Frag) : Sp := fun vs H Q _ => ∃ (qa ta : Addr) (bs : List Bool) (rows : List (List Int)), vs = [.ref qa, .ref ta] ∧ H ta = some (.lst (bs.map V.bl)) ∧ bs.length ≤ 100 ∧ ClQ K H qa bs.length rows ∧ OkRows bs.length rows ∧ holdB rows bs = true ∧
  ∀ H' p, Same H H' → H p = none → H' p = some (.lst ((walkN bs.length rows.length (tauF bs) (kapF bs rows)).map natV)) → Q (.ref p) H'
theorem ok_fWalk (T : Tops K mg) : Cl P w K mg base 3 "forth_walking" (spFWalk K) := by
  have Cc : Cl P w K mg base 2 "clauses_hold" (spCHold K) := ok_cHold T
  have Ci : Cl P w K mg base 1 "right" (spRight K) := ok_right T
  have Cd : Cl P w K mg base 2 "detour" (spDetour K) := ok_detour T
  have Cr : Cl P w K mg base 2 "row_town" (spRTown K) := ok_rTown T
  have Cg : Cl P w K mg base 1 "gate" spGate := ok_gate T
  have Cs : Cl P w K mg base 1 "street" spStreet := ok_street T
  refine mkC T.fFWalk scFWalk (fun vs H Q E h => ?_) (fun f cdv A outer s H vs Q E hr h => ?_)
  · obtain ⟨qa, ta, bs, rows, rfl, _⟩ := h
    rfl
  · obtain ⟨qa, ta, bs, rows, rfl, hS, hl, cq, ok, hold, q⟩ := h
    obtain ⟨z, ra, hq, hra⟩ := cq.ex
    refine ⟨_, pss_cons (ps_if (pt_not (pt_val (pe_k Cc hr (pa_cons (pv 0) (pa_cons (pv 1) pa_nil))))) pss_never pss_nil)
      (pss_cons (ps_set (i := 2) scFWalk.nd rfl (.inr rfl) (pe_callB call_len_seq (by rfl) T.b_len PySem.boot_len (pa_cons (pe_ix ix_tup (pv 0) pe_int (fun _ _ => rfl)) pa_nil)))
      (pss_cons (ps_set (i := 3) scFWalk.nd rfl (.inl rfl) pe_dnewK)
      (pss_cons (ps_for PassesOwn.never rfl (pi_enum (by rfl) T.b_enumerate (pa_cons (pe_ix ix_tup (pv 0) pe_int (fun _ _ => rfl)) pa_nil)) (pg_tup rfl (pgs_cons (pg_name (i := 4) scFWalk.nd rfl (Or.inl rfl)) (pgs_cons (pg_name (i := 5) scFWalk.nd rfl (Or.inl rfl)) pgs_nil)))
        (pss_cons (ps_set (i := 6) scFWalk.nd rfl (.inl rfl) (pe_ix ix_list (pe_lc (own := [("one", 11)]) (g := gName 11) (by rfl) scFWalk.nd (pi_tup (pv 5))
            (blkOk_by (own := [("one", 11)]) (N := nFWalk) (sc := defScope sFWalk) (by decide +kernel))
            (fun _ _ _ _ _ => pg_name (i := 11) scFWalk.nd rfl (Or.inl rfl)) (fun _ _ _ _ _ => pts_one (pt_val (pe_k Ci hr (pa_cons (pv 11) (pa_cons (pv 1) pa_nil))))) (fun _ _ _ _ _ => pv 11)) pe_int (fun _ _ => rfl)))
        (pss_one (ps_dput (hu_of hr) (pv 3) (pe_ix ix_tup (pe_k Cd hr (pa_cons (pv 0) (pa_cons (pv 4) (pa_cons (pv 6) pa_nil)))) pe_int (fun _ _ => rfl)) (pe_k Cr hr (pa_cons (pv 0) (pa_cons (pv 4) pa_nil))) rfl))))
      (pss_cons (ps_set (i := 7) scFWalk.nd rfl (.inl rfl) (pe_lst pa_nil))
      (pss_cons (ps_for PassesOwn.never rfl (pi_range1 rfl T.b_range (pa_cons (pe_ix ix_tup (pv 0) pe_int (fun _ _ => rfl)) pa_nil)) (pg_name (i := 8) scFWalk.nd rfl (Or.inr rfl))
        (pss_cons (ps_expr (pe_bm PySem.F.plainAttrs_list PySem.F.slot_list_append PySem.F.type_list_append mt_append (pv 7) (pa_cons (pe_k Cg hr (pa_cons (pv 2) (pa_cons (pv 8) pa_nil))) pa_nil)))
        (pss_cons (ps_setLc (i := 9) (own := [("at", 12)]) (g := gName 12) (tt := tYes) (by rfl) scFWalk.nd rfl rfl (sw_true rfl rfl rfl (by decide +kernel)) (pi_range1 rfl T.b_range (pa_cons (pe_op op_add (pe_op op_mul pe_int (pv 2)) pe_int) pa_nil))
            (blkOk_by (own := [("at", 12)]) (N := nFWalk) (sc := defScope sFWalk) (by decide +kernel))
            (fun _ _ _ _ _ => pg_name (i := 12) scFWalk.nd rfl (Or.inl rfl)) (fun _ _ _ _ _ => pts_nil) (fun _ _ _ _ _ => pe_k Cs hr (pa_cons (pv 2) (pa_cons (pv 8) (pa_cons (pv 12) pa_nil)))))
        (pss_cut (ps_if (pt_not (pt_val (pe_ix ix_list (pv 1) (pv 8) (fun _ _ => rfl)))) (pss_one (ps_set (i := 9) scFWalk.nd rfl (.inl rfl) (pe_lstRev (by rfl) (by rfl) T.b_list (by rfl) T.b_reversed (pv 9)))) pss_nil)
        (pss_one (ps_for PassesOwn.never rfl (pi_list (pv 9)) (pg_name (i := 10) scFWalk.nd rfl (Or.inl rfl))
          (pss_cons (ps_expr (pe_bm PySem.F.plainAttrs_list PySem.F.slot_list_append PySem.F.type_list_append mt_append (pv 7) (pa_cons (pv 10) pa_nil)))
          (pss_one (ps_if (pt_cmp (pc_din (hu_of hr) (pv 10) (pv 3)) rfl) (pss_one (ps_expr (pe_bm PySem.F.plainAttrs_list PySem.F.slot_list_append PySem.F.type_list_append mt_append (pv 7) (pa_cons (pe_dget (hu_of hr) (pv 3) (pv 10) (fun _ _ => rfl)) pa_nil)))) pss_nil)))))))))
      (pss_one (ps_ret (pv 7)))))))), ?_⟩
    obtain ⟨rk, k1, k2, k3⟩ := hra.ex
    have hlr : (rowRefs rk).length = rows.length := by
      unfold rowRefs
      rw [← k2, List.length_map, List.length_map]
    obtain ⟨ok1, ok2⟩ := ok
    refine ⟨_, rfl, _, rfl, qa, ta, bs, rows, rfl, hS, by omega, cq, ⟨ok1, ok2⟩, fun H1 s1 => ?_⟩
    refine ⟨_, rfl, ?_⟩
    rw [hold]
    refine iteF ?_
    refine ⟨_, rfl, qa, _, 2, _, rfl, rfl, sqt_same s1 hq, atI_nat (j := 2) rfl, ra, rowRefs rk, rfl, .inl (s1.seq k1), ?_⟩
    rw [hlr]
    generalize hm : rows.length = m at *
    generalize hn : bs.length = n at *
    intro d hd
    have s2 : Same H (upd H1 d (.dK [])) := keepT s1 hd
    refine ⟨_, rfl, qa, _, 2, _, rfl, rfl, sqt_same s2 hq, atI_nat (j := 2) rfl, ra, rowRefs rk, rfl, s2.seq k1, ?_⟩
    refine for_en (xs := rowRefs rk) (fun i σ H4 => ∃ y4 y5 y6, σ = [some (.ref qa), some (.ref ta), some (.int m), some (.ref d), y4, y5, y6, none, none, none, none, none, none] ∧ Same H H4 ∧ H d = none ∧ Met H4 d (metN n m (tauF bs) (kapF bs rows) i) i)
      ⟨none, none, none, rfl, s2, s1.free hd, ⟨[], upd_same, Nat.le_refl _, fun p => rfl⟩⟩ (fun i σ H4 _ ⟨_, _, _, _, s4, _⟩ => s4.seq k1) ?_ ?_
    · rintro i x σ H4 T1 hx ⟨y4, y5, y6, rfl, s4, hd0, met⟩ hT1
      obtain ⟨r, hr1, rfl⟩ := rowRefs_at hx
      have hil : i < m := by
        rw [← hlr]
        exact (List.getElem?_eq_some_iff.mp hx).1
      have hri : rows[i]? = some r.2 := by
        rw [← k2, List.getElem?_map, hr1]
        rfl
      have hget : rows.getD i [] = r.2 := by
        rw [List.getD_eq_getElem?_getD, hri]
        rfl
      obtain ⟨o1, o2⟩ := ok2 r.2 (List.mem_of_getElem? hri)
      have hany : r.2.any (rightB bs) = true := List.all_eq_true.mp hold r.2 (List.mem_of_getElem? hri)
      obtain ⟨f1, f2, f3⟩ := first_mem hany
      have s5 : Same H (upd H4 T1 (.tup [.int (i : Nat), .ref r.1])) := keepT s4 hT1
      have met5 := met.same (keepN (o := .tup [.int (i : Nat), .ref r.1]) hT1)
      refine ⟨T1, _, rfl, .of upd_same, rfl, _, _, rfl, _, _, rfl, rfl, ?_⟩
      have hrow := sqt_same s5 (k3 r (List.mem_of_getElem? hr1))
      generalize upd H4 T1 (.tup [.int (i : Nat), .ref r.1]) = H5 at s5 met5 hrow
      refine ⟨_, rfl, r.1, rfl, ⟨_, hrow⟩, fun D2 hD2 => ?_⟩
      refine lc_tup (xs := r.2.map V.int) (fun j H6 => H6 = upd H5 D2 (.lst (iL ((r.2.take j).filter (rightB bs))))) rfl ?_ ?_ ?_
      · rintro j H6 _ rfl
        exact sqt_same (keepN hD2) hrow
      · rintro j y H6 hy rfl
        obtain ⟨i2, hy2, rfl⟩ := iL_at hy
        refine ⟨rfl, _, rfl, _, rfl, i2, bs, ta, rfl, (s5.trans (keepN hD2)).seq (.of hS), by rw [hn]; exact o2 _ (List.mem_of_getElem? hy2), _, rfl, ite2 (fun c => ?_) (fun c => ?_)⟩
        · refine ⟨_, rfl, _, upd_same, ?_, ?_⟩
          · rw [iL_len]
            have h1 := List.length_filter_le (rightB bs) (r.2.take j)
            rw [List.length_take] at h1
            exact sz (by omega)
          · rw [upd_upd, filter_snoc _ hy2, if_pos c, iL_snoc]
        · rw [filter_snoc _ hy2, if_neg c, List.append_nil]
      · rintro H6 rfl
        rw [List.length_map, List.take_length]
        refine ⟨D2, _, 0, _, rfl, rfl, .of upd_same, atI_nat (j := 0) (iL_get f3), ?_⟩
        have s6 : Same H (upd H5 D2 (.lst (iL (r.2.filter (rightB bs))))) := keepT s5 hD2
        have met6 := met5.same (keepN (o := .lst (iL (r.2.filter (rightB bs)))) hD2)
        generalize upd H5 D2 (.lst (iL (r.2.filter (rightB bs)))) = H7 at s6 met6
        refine ⟨_, rfl, _, rfl, qa, n, i, rows, rfl, cq.same s6, by omega, by omega, ?_⟩
        rw [hm]
        refine ⟨_, rfl, _, rfl, _, rfl, _, rfl, qa, n, i, firstR bs r.2, rows, rfl, cq.same s6, by omega, by omega, by omega, o2 _ f1, fun p hp => ?_⟩
        rw [hm]
        have e : detI m i (firstR bs r.2) = natP (aheadN m (tauF bs) (kapF bs rows) i) (behindN m (tauF bs) (kapF bs rows) i) := by
          rw [← hget]
          exact det_right (by rw [hget]; exact f2)
        rw [e]
        obtain ⟨H8, p1, p2, p3⟩ := (met6.same (keepN (o := pairO (natP (aheadN m (tauF bs) (kapF bs rows) i) (behindN m (tauF bs) (kapF bs rows) i))) hp)).put (a := aheadN m (tauF bs) (kapF bs rows) i) (b := n * (3 * m + 2) + i) (by omega)
        exact ⟨p, _, 0, _, rfl, rfl, .of upd_same, atI_nat (j := 0) rfl, d, H8, rfl, p1, _, _, _, rfl, keepD (keepT s6 hp) hd0 p3, hd0, p2⟩
    · rintro σ H4 ⟨y4, y5, y6, rfl, s4, hd0, met⟩
      rw [hlr] at met
      refine ⟨Nat.zero_le _, fun D hD => ?_⟩
      have s5 : Same H (upd H4 D (.lst [])) := keepT s4 hD
      refine ⟨_, rfl, qa, _, 1, _, rfl, rfl, sqt_same s5 hq, atI_nat (j := 1) rfl, _, rfl, by omega, by omega, ?_⟩
      rw [Int.toNat_natCast]
      refine for_r0 (n := n) (fun k σ H6 => ∃ y8 y9 y10, σ = [some (.ref qa), some (.ref ta), some (.int m), some (.ref d), y4, y5, y6, some (.ref D), y8, y9, y10, none, none] ∧ Same H4 H6 ∧
        H6 D = some (.lst (((List.range k).flatMap (blockN n m (tauF bs) (kapF bs rows))).map natV))) ⟨none, none, none, rfl, keepN hD, upd_same⟩ ?_ ?_
      · rintro k σ H6 hk ⟨y8, y9, y10, rfl, s6, hD6⟩
        have hpl := blocks_len (n := n) (m := m) (tau := tauF bs) (kap := kapF bs rows) k
        have hbig : k * (6 * m + 3) ≤ 99 * 603 := Nat.mul_le_mul (by omega) (by omega)
        generalize hpre : (List.range k).flatMap (blockN n m (tauF bs) (kapF bs rows)) = pre at *
        refine ⟨_, rfl, .inl ⟨rfl, _, .of hD6⟩, _, rfl, _, rfl, m, k, rfl, by omega, by omega, D, _, _, rfl, rfl, hD6, ?_, ?_⟩
        · rw [List.length_map]
          exact sz (by omega)
        have e1 : pre.map natV ++ [V.int ((gateN m k : Nat) : Int)] = (pre ++ [gateN m k]).map natV := by
          rw [List.map_append]
          rfl
        rw [e1]
        have s7 : Same H4 (upd H6 D (.lst ((pre ++ [gateN m k]).map natV))) := keepU s6 hD
        have hD7 : upd H6 D (.lst ((pre ++ [gateN m k]).map natV)) D = some (.lst ((pre ++ [gateN m k]).map natV)) := upd_same
        generalize upd H6 D (.lst ((pre ++ [gateN m k]).map natV)) = H7 at s7 hD7
        have e31 : ((3 : Int) * (m : Int) + 1) = ((3 * m + 1 : Nat) : Int) := by omega
        refine ⟨_, rfl, 3, m, rfl, rfl, .inl ⟨by decide, by decide⟩, 3 * (m : Int), 1, rfl, rfl, ((3 * m + 1 : Nat) : Int), ?_, by omega, by omega, ?_⟩
        · show [V.int (3 * (m : Int) + 1)] = _
          rw [e31]
        rw [Int.toNat_natCast]
        intro D3 hD3
        refine lc_r0 (n := 3 * m + 1) (fun j H8 => H8 = upd H7 D3 (.lst (((List.range j).map (strN m k)).map natV))) rfl ?_ ?_
        · rintro j H8 hj rfl
          refine ⟨rfl, _, rfl, _, rfl, _, rfl, m, k, j, rfl, by omega, by omega, _, upd_same, ?_, ?_⟩
          · rw [List.length_map, List.length_map, List.length_range]
            exact sz (by omega)
          · rw [upd_upd, List.range_succ, List.map_append, List.map_append]
            rfl
        rintro H8 rfl
        have neD : D ≠ D3 := ne_of_none hD7 hD3
        have s8 : Same H4 (upd H7 D3 (.lst (((List.range (3 * m + 1)).map (strN m k)).map natV))) := keepT s7 hD3
        have hD8 : upd H7 D3 (.lst (((List.range (3 * m + 1)).map (strN m k)).map natV)) D = some (.lst ((pre ++ [gateN m k]).map natV)) := by
          rw [upd_ne neD]
          exact hD7
        have h38 : upd H7 D3 (.lst (((List.range (3 * m + 1)).map (strN m k)).map natV)) D3 = some (.lst (((List.range (3 * m + 1)).map (strN m k)).map natV)) := upd_same
        generalize upd H7 D3 (.lst (((List.range (3 * m + 1)).map (strN m k)).map natV)) = H8 at s8 hD8 h38
        -- if not answer[name]
        refine ⟨fun σ' H' => ∃ a9, σ' = [some (.ref qa), some (.ref ta), some (.int m), some (.ref d), y4, y5, y6, some (.ref D), some (.int k), some (.ref a9), y10, none, none] ∧ Same H4 H' ∧
          H' D = some (.lst ((pre ++ [gateN m k]).map natV)) ∧ H' a9 = some (.lst ((streetN m (tauF bs) k).map natV)) ∧ a9 ≠ D, ?_, ?_⟩
        · refine ⟨_, rfl, _, rfl, ta, _, _, _, rfl, rfl, ((s4.trans s8).seq (.of hS)), atI_nat (bl_get (by omega)), _, rfl, ?_⟩
          cases ht : bs.getD k false with
          | true =>
            refine iteF ⟨D3, rfl, s8, hD8, ?_, neD.symm⟩
            rw [streetN_up ht]
            exact h38
          | false =>
            refine iteT ⟨_, rfl, D3, _, rfl, .of h38, fun a9 h9 => ⟨a9, rfl, keepT s8 h9, ?_, ?_, (ne_of_none hD8 h9).symm⟩⟩
            · rw [upd_ne (ne_of_none hD8 h9)]
              exact hD8
            · rw [upd_same, streetN_dn ht, List.map_reverse]
        rintro σ' H9 ⟨a9, rfl, s9, hD9, h99, ne9⟩
        have met9 := met.same s9
        refine ⟨_, rfl, a9, rfl, ⟨_, .of h99⟩, ?_⟩
        have hsl : (streetN m (tauF bs) k).length = 3 * m + 1 := by
          unfold streetN
          rw [List.length_map, List.length_range]
        refine for_list (xs := (streetN m (tauF bs) k).map natV) (fun j σ HA => ∃ y10, σ = [some (.ref qa), some (.ref ta), some (.int m), some (.ref d), y4, y5, y6, some (.ref D), some (.int k), some (.ref a9), y10, none, none] ∧ Same H4 HA ∧
          HA a9 = some (.lst ((streetN m (tauF bs) k).map natV)) ∧ HA D = some (.lst ((pre ++ [gateN m k] ++ ((streetN m (tauF bs) k).take j).flatMap (ins (metN n m (tauF bs) (kapF bs rows) m))).map natV))) ⟨y10, rfl, s9, h99, by
            rw [List.take_zero, List.flatMap_nil, List.append_nil]
            exact hD9⟩ (fun j σ HA _ ⟨_, _, _, e, _⟩ => .of e) ?_ ?_
        · rintro j x σ HA hx ⟨y10, rfl, sA, a9A, hDA⟩
          obtain ⟨t, htj, rfl⟩ := nat_at hx
          have hjl : j < 3 * m + 1 := by
            rw [← hsl]
            exact (List.getElem?_eq_some_iff.mp htj).1
          have hil2 := ins_len (metN n m (tauF bs) (kapF bs rows) m) ((streetN m (tauF bs) k).take j)
          rw [List.length_take] at hil2
          have hlt : (pre ++ [gateN m k] ++ ((streetN m (tauF bs) k).take j).flatMap (ins (metN n m (tauF bs) (kapF bs rows) m))).length ≤ 90000 := by
            rw [List.length_append, List.length_append]
            show _ + 1 + _ ≤ _
            omega
          have hnext : ((streetN m (tauF bs) k).take (j + 1)).flatMap (ins (metN n m (tauF bs) (kapF bs rows) m)) = ((streetN m (tauF bs) k).take j).flatMap (ins (metN n m (tauF bs) (kapF bs rows) m)) ++ (t :: (metN n m (tauF bs) (kapF bs rows) m t).toList) := by
            rw [take_snoc htj, List.flatMap_append]
            simp [ins]
          generalize hcur : pre ++ [gateN m k] ++ ((streetN m (tauF bs) k).take j).flatMap (ins (metN n m (tauF bs) (kapF bs rows) m)) = cur at *
          have hnext2 : pre ++ [gateN m k] ++ ((streetN m (tauF bs) k).take (j + 1)).flatMap (ins (metN n m (tauF bs) (kapF bs rows) m)) = cur ++ (t :: (metN n m (tauF bs) (kapF bs rows) m t).toList) := by
            rw [hnext, ← List.append_assoc, hcur]
          refine ⟨_, rfl, .inl ⟨rfl, _, .of hDA⟩, _, rfl, D, _, _, rfl, rfl, hDA, by rw [List.length_map]; exact sz (by omega), ?_⟩
          have sB : Same H4 (upd HA D (.lst (cur.map natV ++ [natV t]))) := keepU sA hD
          have hDB : upd HA D (.lst (cur.map natV ++ [natV t])) D = some (.lst ((cur ++ [t]).map natV)) := by rw [upd_same, nat_snoc]
          have a9B : upd HA D (.lst (cur.map natV ++ [natV t])) a9 = some (.lst ((streetN m (tauF bs) k).map natV)) := by
            rw [upd_ne ne9]
            exact a9A
          generalize upd HA D (.lst (cur.map natV ++ [natV t])) = HB at sB hDB a9B
          have metB := met.same sB
          refine ⟨_, rfl, _, rfl, d, _, rfl, metB.get t, _, rfl, ?_⟩
          cases hmt : metN n m (tauF bs) (kapF bs rows) m t with
          | none =>
            refine iteF ⟨_, rfl, sB, a9B, ?_⟩
            rw [hnext2, hmt]
            exact hDB
          | some b =>
            have hg := metB.get t
            rw [hmt] at hg
            refine iteT ⟨_, rfl, .inl ⟨rfl, _, .of hDB⟩, _, rfl, _, rfl, d, natV b, rfl, hg, D, _, _, rfl, rfl, hDB, by rw [List.length_map, List.length_append]; exact sz (by show _ + 1 ≤ _; omega), _, rfl, keepU sB hD, ?_, ?_⟩
            · rw [upd_ne ne9]
              exact a9B
            · rw [upd_same, hnext2, hmt, ← nat_snoc, List.append_assoc]
              rfl
        · rintro σ HA ⟨y10, rfl, sA, a9A, hDA⟩
          refine ⟨_, _, _, rfl, sA, ?_⟩
          rw [hDA, List.length_map, List.take_length, flat_succ, hpre]
          unfold blockN
          rw [List.append_assoc]
          rfl
      · rintro σ H6 ⟨y8, y9, y10, rfl, s6, hD6⟩
        exact ⟨_, rfl, q _ D (s4.trans s6) (s4.free hD) hD6⟩
end
end Hm
set_option Elab.async false
set_option linter.all false
set_option maxRecDepth 100000
set_option maxHeartbeats 8000000
namespace Hm
open PySem PySem.Spec PyProof.Rows L2
section
variable {P : Program} {w : World} {K : PySem.W.Frag} {mg : Str → Option Value} {base : Heap}
/-! ### forth_walking, where the truths do not hold -/
def spFWalkX (C : Addr) (K : PySem.W.Frag) : Sp := fun vs H _ E => ∃ (qa ta : Addr) (bs : List Bool) (rows : List (List Int)), vs = [.ref qa, .ref ta] ∧ H ta = some (.lst (bs.map V.bl)) ∧ bs.length ≤ 100 ∧ ClQ K H qa bs.length rows ∧ OkRows bs.length rows ∧ holdB rows bs = false ∧
  ∀ H', Same H H' → E (.ref C) none H'
theorem ok_fWalkX (T : Tops K mg) {C : Addr} (x1 : mg "NoAnswer" = some (.ref C)) (x2 : PySem.W.excIn K C He.veBase "ValueError.__new__" = true) (x3 : PySem.W.keepIn K (.ref C) = true) (x4 : PySem.W.subIn K (.ref C) (.type "BaseException") = some true)
    (x5 : PySem.W.typeIn K (.ref C) = some (.type "type")) {f : Addr} {fd : FuncData} (F : FnP K "forth_walking" sFWalk f fd) : FnOk P w K mg base (L2.CX P w) 3 f fd ["question", "answer"] (spFWalkX C K) := by
  have Cc : Cl P w K mg base 2 "clauses_hold" (spCHold K) := ok_cHold T
  refine F.ok scFWalk (fun vs H Q E h => ?_) (fun cdv A outer s H vs Q E hr h => ?_)
  · obtain ⟨qa, ta, bs, rows, rfl, _⟩ := h
    rfl
  · obtain ⟨qa, ta, bs, rows, rfl, hS, hl, cq, ok, hold, q⟩ := h
    refine ⟨_, pss_cons (ps_if (pt_not (pt_val (pe_k Cc hr (pa_cons (pv 0) (pa_cons (pv 1) pa_nil)))))
      (pss_one (ps_raise rfl (takes_of rfl rfl rfl rfl) (pmk_own PySem.F.excBase_ValueError x2 x1 x3 (raises_own x4 x5) rfl))) pss_nil) pss_never, ?_⟩
    refine ⟨_, rfl, _, rfl, qa, ta, bs, rows, rfl, hS, by omega, cq, ok, fun H1 s1 => ?_⟩
    refine ⟨_, rfl, ?_⟩
    rw [hold]
    exact iteT (q H1 s1)
/-! ### _law_refused -/
def spLRef (K : PySem.W.Frag) : Sp := fun vs H Q _ => ∃ (qa ta : Addr) (bs : List Bool) (rows : List (List Int)), vs = [.ref qa, .ref ta] ∧ H ta = some (.lst (bs.map V.bl)) ∧ bs.length ≤ 100 ∧ ClQ K H qa bs.length rows ∧ OkRows bs.length rows ∧ holdB rows bs = false ∧
  ∀ H', Same H H' → Q (.bl true) H'
theorem ok_lRef (T : Tops K mg) : Cl P w K mg base 4 "_law_refused" (spLRef K) := by
  obtain ⟨C, x1, x2, x3, x4, x5, x6⟩ := T.xc
  obtain ⟨fw, fdw, Fw, mw, bw⟩ := T.fFWalk.ex
  have G : FnOk P w K mg base (L2.CX P w) 3 fw fdw ["question", "answer"] (spFWalkX C K) := ok_fWalkX T x1 x2 x3 x4 x5 Fw
  refine mkC T.fLRef scLRef (fun vs H Q E h => ?_) (fun f cdv A outer s H vs Q E hr h => ?_)
  · obtain ⟨qa, ta, bs, rows, rfl, _⟩ := h
    rfl
  · obtain ⟨qa, ta, bs, rows, rfl, hS, hl, cq, ok, hold, q⟩ := h
    refine ⟨_, pss_cons (ps_set (i := 2) scLRef.nd rfl (.inl rfl) pe_str)
      (pss_cons (ps_try_only rfl rfl ⟨rfl, by decide, .inl x1⟩ takes0
        (fun W pn xe tk _ => pss_one (ps_expr (pe_callS G hr rfl mw Fw.kp bw (fun σ => passAt tk σ) (pa_cons (pv 0) (pa_cons (pv 1) pa_nil)))))
        (fun a oe cls d pn _ _ => pss_one (ps_set (i := 2) scLRef.nd rfl (.inl rfl) pe_str)))
      (pss_one (ps_ret (pe_cmpR op_eq (pv 2) pe_str (nomark _))))), ?_⟩
    refine ⟨_, rfl, _, rfl, qa, ta, bs, rows, rfl, hS, hl, cq, ok, hold, fun H1 s1 => ?_⟩
    refine ⟨true, x6, fun _ a ha => ?_, fun z => nomatch z⟩
    refine ⟨_, rfl, rfl, ?_⟩
    exact q H1 s1
end
end Hm
set_option Elab.async false
set_option linter.all false
set_option maxRecDepth 100000
set_option maxHeartbeats 8000000
namespace Hm
open PySem PySem.Spec PyProof.Rows L2
theorem perm_map {α β : Type} (f : α → β) {ks : List α} : ∀ {ys : List β}, ys.Perm (ks.map f) → ∃ is : List α, is.Perm ks ∧ ys = is.map f := by
  induction ks with
  | nil =>
    intro ys hp
    rw [List.map_nil] at hp
    exact ⟨[], .refl _, hp.eq_nil⟩
  | cons j js ih =>
    intro ys hp
    rw [List.map_cons] at hp
    have hm : f j ∈ ys := hp.mem_iff.mpr List.mem_cons_self
    obtain ⟨l1, l2, rfl⟩ := List.append_of_mem hm
    obtain ⟨is, p1, e1⟩ := ih (List.Perm.cons_inv (List.perm_middle.symm.trans hp))
    refine ⟨is.take l1.length ++ j :: is.drop l1.length, ?_, ?_⟩
    · refine List.perm_middle.trans (List.Perm.cons j ?_)
      rw [List.take_append_drop]
      exact p1
    · rw [List.map_append, List.map_cons, List.map_take, List.map_drop, ← e1, List.take_left, List.drop_left]
def natI (l : List Nat) : List Int := l.map fun t : Nat => (t : Int)
theorem natI_iL (l : List Nat) : iL (natI l) = l.map natV := by
  show (l.map fun t : Nat => (t : Int)).map V.int = _
  rw [List.map_map]
  rfl
theorem natI_len (l : List Nat) : (natI l).length = l.length := List.length_map ..
theorem natI_at {l : List Nat} {i t : Nat} (h : l[i]? = some t) : (natI l)[i]? = some (t : Int) := by
  unfold natI
  rw [List.getElem?_map, h]
  rfl
/-! ### turn_mending -/
def triL (i : Nat) : List (Int × Int) := (List.range i).flatMap fun t => [natP (3 * t) (3 * t + 1), natP (3 * t + 1) (3 * t + 2)]
def mendQ (q : Int × Int) : Int × Int := eitherI (3 * q.1 + 2, 3 * q.2)
def mendL (n : Nat) (qs : List (Int × Int)) : List (Int × Int) := triL n ++ qs.map mendQ
theorem triL_succ (i : Nat) : triL (i + 1) = triL i ++ [natP (3 * i) (3 * i + 1)] ++ [natP (3 * i + 1) (3 * i + 2)] := by
  unfold triL
  rw [List.range_succ, List.flatMap_append]
  simp
theorem triL_len : ∀ i, (triL i).length = 2 * i
  | 0 => rfl
  | i + 1 => by
    rw [triL_succ, List.length_append, List.length_append, triL_len i]
    show 2 * i + 1 + 1 = 2 * (i + 1)
    omega
section
variable {P : Program} {w : World} {K : PySem.W.Frag} {mg : Str → Option Value} {base : Heap}
def spTMend (K : PySem.W.Frag) : Sp := fun vs H Q _ => ∃ (qa : Addr) (n : Nat) (qs : List (Int × Int)), vs = [.ref qa] ∧ RQ K H qa n qs ∧ n ≤ 1000 ∧ qs.length ≤ 1200 ∧
  ∀ H' p qs', Same H H' → H p = none → RQ K H' p (3 * n) qs' → (∀ x, x ∈ qs' ↔ x ∈ mendL n qs) → qs'.length ≤ 4000 → Q (.ref p) H'
theorem ok_tMend (T : Tops K mg) : Cl P w K mg base 2 "turn_mending" (spTMend K) := by
  have Ce : Cl P w K mg base 1 "either_way" spEither := ok_either T
  refine mkC T.fTMend scTMend (fun vs H Q E h => ?_) (fun f cdv A outer s H vs Q E hr h => ?_)
  · obtain ⟨qa, n, qs, rfl, _⟩ := h
    rfl
  · obtain ⟨qa, n, qs, rfl, ⟨z, wa, hq, ks, k1, k2, k3⟩, hn, hql, q⟩ := h
    refine ⟨_, pss_cons (ps_set (i := 1) scTMend.nd rfl (.inl rfl) (pe_lst pa_nil))
      (pss_cons (ps_for PassesOwn.never rfl (pi_range1 rfl T.b_range (pa_cons (pe_ix ix_tup (pv 0) pe_int (fun _ _ => rfl)) pa_nil)) (pg_name (i := 2) scTMend.nd rfl (Or.inl rfl))
        (pss_cons (ps_expr (pe_bm PySem.F.plainAttrs_list PySem.F.slot_list_append PySem.F.type_list_append mt_append (pv 1) (pa_cons (pe_tup (pa_cons (pe_op op_mul pe_int (pv 2)) (pa_cons (pe_op op_add (pe_op op_mul pe_int (pv 2)) pe_int) pa_nil))) pa_nil)))
        (pss_one (ps_expr (pe_bm PySem.F.plainAttrs_list PySem.F.slot_list_append PySem.F.type_list_append mt_append (pv 1) (pa_cons (pe_tup (pa_cons (pe_op op_add (pe_op op_mul pe_int (pv 2)) pe_int) (pa_cons (pe_op op_add (pe_op op_mul pe_int (pv 2)) pe_int) pa_nil))) pa_nil))))))
      (pss_cons (ps_for PassesOwn.never rfl (pi_list (pe_ix ix_tup (pv 0) pe_int (fun _ _ => rfl))) (pg_tup rfl (pgs_cons (pg_name (i := 3) scTMend.nd rfl (Or.inl rfl)) (pgs_cons (pg_name (i := 4) scTMend.nd rfl (Or.inl rfl)) pgs_nil)))
        (pss_one (ps_expr (pe_bm PySem.F.plainAttrs_list PySem.F.slot_list_append PySem.F.type_list_append mt_append (pv 1) (pa_cons (pe_k Ce hr (pa_cons (pe_op op_add (pe_op op_mul pe_int (pv 3)) pe_int) (pa_cons (pe_op op_mul pe_int (pv 4)) pa_nil))) pa_nil)))))
      (pss_one (ps_ret (pe_tup (pa_cons pe_str (pa_cons (pe_op op_mul pe_int (pe_ix ix_tup (pv 0) pe_int (fun _ _ => rfl)))
        (pa_cons (pe_callB cr_sortedP (by rfl) T.b_sorted (by decide +kernel) (pa_cons (pv 1) pa_nil)) pa_nil)))))))), ?_⟩
    have kq : ks.length = qs.length := by rw [← k2, List.length_map]
    refine ⟨Nat.zero_le _, fun D hD => ?_⟩
    refine ⟨_, rfl, qa, _, 1, _, rfl, rfl, sqt_same (keepN hD) hq, atI_nat (j := 1) rfl, _, rfl, by omega, by omega, ?_⟩
    rw [Int.toNat_natCast]
    refine for_r0 (n := n) (fun i σ H3 => ∃ y2, σ = [some (.ref qa), some (.ref D), y2, none, none] ∧ Grow H H3 D (triL i)) ⟨none, rfl, Grow.nil hD⟩ ?_ ?_
    · rintro i σ H3 hi ⟨y2, rfl, g⟩
      have gl := triL_len i
      obtain ⟨ys, y1, _⟩ := g.at_
      refine ⟨_, rfl, .inl ⟨rfl, _, .of y1⟩, _, rfl, 3, _, rfl, rfl, .inl ⟨by decide, by decide⟩, _, rfl, 3, _, rfl, rfl, .inl ⟨by decide, by decide⟩, _, 1, rfl, rfl, by show 2 ≤ sizeLine; decide, fun t1 ht1 => ?_⟩
      have e1 : HO.tup [V.int (3 * (i : Int)), V.int (3 * (i : Int) + 1)] = pairO (natP (3 * i) (3 * i + 1)) := by
        unfold pairO natP
        rw [Int.natCast_add, Int.natCast_mul]
        rfl
      have e2 : HO.tup [V.int (3 * (i : Int) + 1), V.int (3 * (i : Int) + 2)] = pairO (natP (3 * i + 1) (3 * i + 2)) := by
        unfold pairO natP
        rw [Int.natCast_add, Int.natCast_add, Int.natCast_mul]
        rfl
      obtain ⟨acc, a1, a2, a3⟩ := (g.more (keepN (o := HO.tup [V.int (3 * (i : Int)), V.int (3 * (i : Int) + 1)]) ht1)).push (q := natP (3 * i) (3 * i + 1)) (by rw [upd_same, e1]) hD (by omega)
      refine ⟨D, acc, _, rfl, rfl, a1, a2, ?_⟩
      obtain ⟨ys2, y2', _⟩ := a3.at_
      refine ⟨_, rfl, .inl ⟨rfl, _, .of y2'⟩, _, rfl, 3, _, rfl, rfl, .inl ⟨by decide, by decide⟩, _, 1, rfl, rfl, _, rfl, 3, _, rfl, rfl, .inl ⟨by decide, by decide⟩, _, 2, rfl, rfl, by show 2 ≤ sizeLine; decide, fun t2 ht2 => ?_⟩
      obtain ⟨acc2, b1, b2, b3⟩ := (a3.more (keepN (o := HO.tup [V.int (3 * (i : Int) + 1), V.int (3 * (i : Int) + 2)]) ht2)).push (q := natP (3 * i + 1) (3 * i + 2)) (by rw [upd_same, e2]) hD (by rw [List.length_append]; show _ + 1 ≤ _; omega)
      refine ⟨D, acc2, _, rfl, rfl, b1, b2, _, rfl, ?_⟩
      rw [triL_succ]
      exact b3
    · rintro σ H3 ⟨y2, rfl, g⟩
      have gl := triL_len n
      refine ⟨_, rfl, qa, _, 2, _, rfl, rfl, sqt_same g.same hq, atI_nat (j := 2) rfl, wa, rfl, ⟨_, g.same.seq k1⟩, ?_⟩
      refine for_list (xs := refs ks) (fun i σ H4 => ∃ y3 y4, σ = [some (.ref qa), some (.ref D), y2, y3, y4] ∧ Grow H H4 D (triL n ++ (qs.take i).map mendQ)) ⟨none, none, rfl, by
        rw [List.take_zero, List.map_nil, List.append_nil]
        exact g⟩ (fun i σ H4 _ ⟨_, _, _, g4⟩ => g4.same.seq k1) ?_ ?_
      · rintro i x σ H4 hx ⟨y3, y4, rfl, g4⟩
        obtain ⟨r, hr1, rfl⟩ := refs_at hx
        have hil : i < ks.length := (List.getElem?_eq_some_iff.mp hr1).1
        have hri : qs[i]? = some r.2 := by
          rw [← k2, List.getElem?_map, hr1]
          rfl
        have hk := g4.same _ _ (k3 r (List.mem_of_getElem? hr1))
        refine ⟨r.1, _, rfl, .of hk, rfl, _, _, rfl, _, _, rfl, rfl, ?_⟩
        obtain ⟨ys, y1, _⟩ := g4.at_
        refine ⟨_, rfl, .inl ⟨rfl, _, .of y1⟩, _, rfl, 3, _, rfl, rfl, .inl ⟨by decide, by decide⟩, _, 2, rfl, rfl, _, rfl, 3, _, rfl, rfl, .inl ⟨by decide, by decide⟩, 3 * r.2.1 + 2, 3 * r.2.2, rfl, fun t1 ht1 => ?_⟩
        obtain ⟨acc, a1, a2, a3⟩ := (g4.more (keepN (o := pairO (eitherI (3 * r.2.1 + 2, 3 * r.2.2))) ht1)).push (q := mendQ r.2) upd_same hD (by rw [List.length_append, List.length_map, List.length_take]; omega)
        refine ⟨D, acc, _, rfl, rfl, a1, a2, _, _, rfl, ?_⟩
        rw [take_snoc hri, List.map_append, ← List.append_assoc]
        exact a3
      · rintro σ H4 ⟨y3, y4, rfl, g4⟩
        rw [refs_len, kq, List.take_length] at g4
        refine ⟨_, rfl, qa, _, 1, _, rfl, rfl, sqt_same g4.same hq, atI_nat (j := 1) rfl, 3, _, rfl, rfl, .inl ⟨by decide, by decide⟩, ?_⟩
        obtain ⟨js, j1, j2, j3⟩ := g4.ex
        refine ⟨_, rfl, D, refs js, rfl, .of j1, fun x hx => ?_, fun ys b hp hb => ?_⟩
        · obtain ⟨y, hy, rfl⟩ := List.mem_map.mp hx
          exact ⟨y.1, y.2.1, y.2.2, rfl, j3 y hy⟩
        obtain ⟨is, p1, rfl⟩ := perm_map (fun x : PK => V.ref x.1) hp
        refine ⟨by show 3 ≤ sizeLine; decide, fun p hp' => ?_⟩
        have s5 : Same H (upd H4 b (.lst (is.map fun x : PK => V.ref x.1))) := keepT g4.same hb
        refine q _ p (is.map (·.2)) (keepT s5 hp') (s5.free hp') ⟨"ring", b, .of (K := K) ?_, is, .of ?_, rfl, fun x hx => ?_⟩ (fun x => ?_) ?_
        · rw [upd_same]
          have e : (3 : Int) * (n : Int) = ((3 * n : Nat) : Int) := by omega
          show some (HO.tup [_, V.int (3 * (n : Int)), _]) = _
          rw [e]
        · rw [upd_ne (fun z => by rw [← z, upd_same] at hp'; cases hp')]
          exact upd_same
        · have hx' := j3 x (p1.mem_iff.mp hx)
          have h2 : upd H4 b (.lst (is.map fun x : PK => V.ref x.1)) x.1 = some (pairO x.2) := by
            rw [upd_ne (ne_of_none hx' hb)]
            exact hx'
          rw [upd_ne (ne_of_none h2 hp')]
          exact h2
        · rw [(p1.map (·.2)).mem_iff, j2]
          rfl
        · rw [List.length_map, p1.length_eq, ← List.length_map (f := (·.2)), j2, List.length_append, List.length_map]
          omega
/-! ### forth_mending -/
def spFMend (K : PySem.W.Frag) : Sp := fun vs H Q _ => ∃ (qa a : Addr) (n : Nat) (qs : List (Int × Int)) (l : List Nat), vs = [.ref qa, .ref a] ∧ RQ K H qa n qs ∧ qs.length ≤ 10000 ∧ SqL K H a (l.map natV) ∧ l.Perm (List.range n) ∧ n ≤ 10000 ∧
  (∀ st ∈ stepsI (natI l), st ∈ qs) ∧ ∀ H' p, Same H H' → H p = none → H' p = some (.lst ((ringN l).map natV)) → Q (.ref p) H'
theorem natI_perm {l : List Nat} {n : Nat} (h : l.Perm (List.range n)) : (natI l).Perm (rangeI n) := h.map _
theorem ok_fMend (T : Tops K mg) : Cl P w K mg base 3 "forth_mending" (spFMend K) := by
  have Ch : Cl P w K mg base 2 "rounds_hold" (spRHold K) := ok_rHold T
  refine mkC T.fFMend scFMend (fun vs H Q E h => ?_) (fun f cdv A outer s H vs Q E hr h => ?_)
  · obtain ⟨qa, a, n, qs, l, rfl, _⟩ := h
    rfl
  · obtain ⟨qa, a, n, qs, l, rfl, rq, hql, hS, hp, hn, hst, q⟩ := h
    refine ⟨_, pss_cons (ps_if (pt_not (pt_val (pe_k Ch hr (pa_cons (pv 0) (pa_cons (pv 1) pa_nil))))) pss_never pss_nil)
      (pss_cons (ps_set (i := 2) scFMend.nd rfl (.inl rfl) (pe_lst pa_nil))
      (pss_cons (ps_for PassesOwn.never rfl (pi_list (pv 1)) (pg_name (i := 3) scFMend.nd rfl (Or.inl rfl))
        (pss_one (ps_expr (pe_bm PySem.F.plainAttrs_list PySem.F.slot_list_extend PySem.F.type_list_extend mt_extend (pv 2) (pa_cons (pe_lst (pa_cons (pe_op op_mul pe_int (pv 3)) (pa_cons (pe_op op_add (pe_op op_mul pe_int (pv 3)) pe_int) (pa_cons (pe_op op_add (pe_op op_mul pe_int (pv 3)) pe_int) pa_nil)))) pa_nil)))))
      (pss_one (ps_ret (pv 2))))), ?_⟩
    have hll : l.length = n := by rw [hp.length_eq, List.length_range]
    refine ⟨_, rfl, _, rfl, qa, a, n, qs, natI l, rfl, rq, hql, by rw [natI_iL]; exact hS, natI_perm hp, hn, hst, fun H1 s1 => ?_⟩
    refine ⟨true, rfl, iteF ?_⟩
    refine ⟨Nat.zero_le _, fun D hD => ?_⟩
    have hA : SqL K (upd H1 D (.lst [])) a (l.map natV) := (keepN hD).seq (s1.seq hS)
    refine ⟨_, rfl, a, rfl, ⟨_, hA⟩, ?_⟩
    refine for_list (xs := l.map natV) (fun i σ H3 => ∃ y3, σ = [some (.ref qa), some (.ref a), some (.ref D), y3] ∧ Same H1 H3 ∧ H3 D = some (.lst ((ringN (l.take i)).map natV))) ⟨none, rfl, keepN hD, upd_same⟩ (fun i σ H3 _ ⟨_, _, s3, _⟩ => s3.seq (s1.seq hS)) ?_ ?_
    · rintro i x σ H3 hx ⟨y3, rfl, s3, hD3⟩
      obtain ⟨t, ht, rfl⟩ := nat_at hx
      have hil : i < l.length := (List.getElem?_eq_some_iff.mp ht).1
      refine ⟨_, rfl, .inl ⟨rfl, _, .of hD3⟩, _, rfl, 3, _, rfl, rfl, .inl ⟨by decide, by decide⟩, _, rfl, 3, _, rfl, rfl, .inl ⟨by decide, by decide⟩, _, 1, rfl, rfl, _, rfl, 3, _, rfl, rfl, .inl ⟨by decide, by decide⟩, _, 2, rfl, rfl, by show 3 ≤ sizeLine; decide, fun t1 ht1 => ?_⟩
      have ne : D ≠ t1 := ne_of_none hD3 ht1
      have e3 : [V.int (3 * (t : Int)), V.int (3 * (t : Int) + 1), V.int (3 * (t : Int) + 2)] = (triN t).map natV := by
        unfold triN natV
        simp only [List.map_cons, List.map_nil, Int.natCast_add, Int.natCast_mul]
        rfl
      refine ⟨D, t1, _, _, rfl, rfl, by rw [upd_ne ne]; exact hD3, upd_same, ?_, _, rfl, keepU (keepT s3 ht1) hD, ?_⟩
      · rw [List.length_map, ringN_len, List.length_take]
        show _ + 3 ≤ sizeLine
        rw [sizeLine_eq]
        omega
      · rw [upd_same, take_snoc ht]
        have e4 : ringN (l.take i ++ [t]) = ringN (l.take i) ++ triN t := by
          unfold ringN
          rw [List.flatMap_append]
          simp
        rw [e4, List.map_append, ← e3]
    · rintro σ H3 ⟨y3, rfl, s3, hD3⟩
      rw [List.length_map, List.take_length] at hD3
      exact ⟨_, rfl, q _ D (s1.trans s3) (s1.free hD) hD3⟩
/-! ### pricing -/
def spTPrice (K : PySem.W.Frag) : Sp := fun vs H Q _ => ∃ (qa : Addr) (n : Nat) (qs : List (Int × Int)), vs = [.ref qa] ∧ RQ K H qa n qs ∧ qs.length ≤ 10000 ∧ ∀ H' p, Same H H' → H p = none → TQ K H' p n qs → Q (.ref p) H'
theorem ok_tPrice (T : Tops K mg) : Cl P w K mg base 1 "turn_pricing" (spTPrice K) := by
  refine mkC T.fTPrice scTPrice (fun vs H Q E h => ?_) (fun f cdv A outer s H vs Q E hr h => ?_)
  · obtain ⟨qa, n, qs, rfl, _⟩ := h
    rfl
  · obtain ⟨qa, n, qs, rfl, ⟨z, wa, hq, ks, k1, k2, k3⟩, hql, q⟩ := h
    refine ⟨_, pss_one (ps_ret (pe_tup (pa_cons pe_str (pa_cons (pe_ix ix_tup (pv 0) pe_int (fun _ _ => rfl))
      (pa_cons (pe_lc (own := [("one", 1), ("other", 2)]) (tt := tYes) (by rfl) scTPrice.nd (pi_list (pe_ix ix_tup (pv 0) pe_int (fun _ _ => rfl)))
          (blkOk_by (own := [("one", 1), ("other", 2)]) (N := nTPrice) (sc := defScope sTPrice) (by decide +kernel))
          (fun _ _ _ _ _ => pgT K 2 (pgs_cons (pg_name (i := 1) scTPrice.nd rfl (Or.inl rfl)) (pgs_cons (pg_name (i := 2) scTPrice.nd rfl (Or.inl rfl)) pgs_nil))) (fun _ _ _ _ _ => pts_nil)
          (fun _ _ _ _ _ => pe_tup (pa_cons (pv 1) (pa_cons (pv 2) (pa_cons pe_int pa_nil)))))
      (pa_cons pe_int (pa_cons (pe_ix ix_tup (pv 0) pe_int (fun _ _ => rfl)) pa_nil))))))), ?_⟩
    have kq : ks.length = qs.length := by rw [← k2, List.length_map]
    refine ⟨_, rfl, qa, _, 1, _, rfl, rfl, hq, atI_nat (j := 1) rfl, ?_⟩
    refine ⟨_, rfl, qa, _, 2, _, rfl, rfl, hq, atI_nat (j := 2) rfl, wa, rfl, ⟨_, k1⟩, fun D hD => ?_⟩
    refine lc_list (xs := refs ks) (fun i H3 => Same H H3 ∧ ∃ js : List PK, H3 D = some (.lst (refs js)) ∧ js.map (·.2) = qs.take i ∧ ∀ x ∈ js, H3 x.1 = some (roadO x.2)) ⟨keepN hD, [], upd_same, rfl, fun _ h => nomatch h⟩ (fun i H3 _ p => p.1.seq k1) ?_ ?_
    · rintro i x H3 hx ⟨s3, js, j1, j2, j3⟩
      obtain ⟨r, hr1, rfl⟩ := refs_at hx
      have hil : i < ks.length := (List.getElem?_eq_some_iff.mp hr1).1
      have hri : qs[i]? = some r.2 := by
        rw [← k2, List.getElem?_map, hr1]
        rfl
      have hk := s3 _ _ (k3 r (List.mem_of_getElem? hr1))
      refine ⟨r.1, _, rfl, .of hk, rfl, _, _, rfl, _, _, rfl, rfl, rfl, ?_⟩
      refine ⟨_, rfl, _, rfl, by show 3 ≤ sizeLine; decide, fun t ht => ?_⟩
      have ne : D ≠ t := ne_of_none j1 ht
      refine ⟨_, by rw [upd_ne ne]; exact j1, ?_, keepU (keepT s3 ht) hD, js ++ [(t, r.2)], by rw [upd_same, refs_snoc], ?_, fun y hy => ?_⟩
      · rw [refs_len, ← List.length_map (f := (·.2)), j2, List.length_take]
        exact sz (by omega)
      · rw [List.map_append, j2, take_snoc hri]
        rfl
      · rcases List.mem_append.mp hy with c | c
        · have h1 := j3 y c
          have h2 : upd H3 t (roadO r.2) y.1 = some (roadO y.2) := by
            rw [upd_ne (ne_of_none h1 ht)]
            exact h1
          rw [upd_ne (ne_of h1 j1 (fun e => nomatch e))]
          exact h2
        · rw [List.mem_singleton.mp c]
          rw [upd_ne ne.symm]
          exact upd_same
    · rintro H3 ⟨s3, js, j1, j2, j3⟩
      rw [refs_len, kq, List.take_length] at j2
      refine ⟨_, rfl, qa, _, 1, _, rfl, rfl, sqt_same s3 hq, atI_nat (j := 1) rfl, by show 5 ≤ sizeLine; decide, fun p hp => ?_⟩
      refine q _ p (keepT s3 hp) (s3.free hp) ⟨_, D, .of upd_same, js, .of ?_, j2, fun x hx => ?_⟩
      · rw [upd_ne (ne_of_none j1 hp)]
        exact j1
      · rw [upd_ne (ne_of_none (j3 x hx) hp)]
        exact j3 x hx
def spFPrice (K : PySem.W.Frag) : Sp := fun vs H Q _ => ∃ (qa a : Addr) (n : Nat) (qs : List (Int × Int)) (l : List Nat), vs = [.ref qa, .ref a] ∧ RQ K H qa n qs ∧ qs.length ≤ 10000 ∧ SqL K H a (l.map natV) ∧ l.Perm (List.range n) ∧ n ≤ 10000 ∧
  (∀ st ∈ stepsI (natI l), eitherI st ∈ qs) ∧ ∀ H' p, Same H H' → H p = none → H' p = some (.lst (l.map natV)) → Q (.ref p) H'
theorem ok_fPrice (T : Tops K mg) : Cl P w K mg base 3 "forth_pricing" (spFPrice K) := by
  have Ch : Cl P w K mg base 2 "ring_holds" (spGHold K) := ok_gHold T
  refine mkC T.fFPrice scFPrice (fun vs H Q E h => ?_) (fun f cdv A outer s H vs Q E hr h => ?_)
  · obtain ⟨qa, a, n, qs, l, rfl, _⟩ := h
    rfl
  · obtain ⟨qa, a, n, qs, l, rfl, rq, hql, hS, hp, hn, hst, q⟩ := h
    refine ⟨_, pss_cons (ps_if (pt_not (pt_val (pe_k Ch hr (pa_cons (pv 0) (pa_cons (pv 1) pa_nil))))) pss_never pss_nil)
      (pss_one (ps_ret (pe_callTy call_list_of (by rfl) T.b_list (by decide +kernel) (pa_cons (pv 1) pa_nil)))), ?_⟩
    refine ⟨_, rfl, _, rfl, qa, a, n, qs, natI l, rfl, rq, hql, by rw [natI_iL]; exact hS, natI_perm hp, hn, hst, fun H1 s1 => ?_⟩
    refine ⟨true, rfl, iteF ?_⟩
    exact ⟨_, rfl, a, _, rfl, .inl (s1.seq hS), fun p hp' => q _ p (keepT s1 hp') (s1.free hp') upd_same⟩
theorem ok_bPrice (T : Tops K mg) : Cl P w K mg base 4 "back_pricing" (spFPrice K) := by
  have Ch : Cl P w K mg base 3 "tour_holds" (spTHold K) := ok_tHold T
  have Ct : Cl P w K mg base 1 "turn_pricing" (spTPrice K) := ok_tPrice T
  refine mkC T.fBPrice scBPrice (fun vs H Q E h => ?_) (fun f cdv A outer s H vs Q E hr h => ?_)
  · obtain ⟨qa, a, n, qs, l, rfl, _⟩ := h
    rfl
  · obtain ⟨qa, a, n, qs, l, rfl, rq, hql, hS, hp, hn, hst, q⟩ := h
    refine ⟨_, pss_cons (ps_if (pt_not (pt_val (pe_k Ch hr (pa_cons (pe_k Ct hr (pa_cons (pv 0) pa_nil)) (pa_cons (pv 1) pa_nil))))) pss_never pss_nil)
      (pss_one (ps_ret (pe_callTy call_list_of (by rfl) T.b_list (by decide +kernel) (pa_cons (pv 1) pa_nil)))), ?_⟩
    refine ⟨_, rfl, qa, n, qs, rfl, rq, hql, fun H0 t s0 ht tq => ?_⟩
    refine ⟨_, rfl, t, a, n, qs, natI l, rfl, tq, hql, by rw [natI_iL]; exact s0.seq hS, natI_perm hp, hn, hst, fun H1 s1 => ?_⟩
    refine ⟨true, rfl, iteF ?_⟩
    have s2 := s0.trans s1
    exact ⟨_, rfl, a, _, rfl, .inl (s2.seq hS), fun p hp' => q _ p (keepT s2 hp') (s2.free hp') upd_same⟩
end
end Hm
set_option Elab.async false
set_option linter.all false
set_option maxRecDepth 100000
set_option maxHeartbeats 8000000
namespace Hm
open PySem PySem.Spec PyProof.Rows L2
/-! ### what comes behind each town -/
def nxtF (l : List Nat) : Nat → Nat → Option Nat
  | 0, _ => none
  | i + 1, p => if p = l.getD (prevIx l.length i) 0 then some (l.getD i 0) else nxtF l i p
theorem natD_get {l : List Nat} {k : Nat} (h : k < l.length) : l[k]? = some (l.getD k 0) := by
  rw [List.getD_eq_getElem?_getD, List.getElem?_eq_getElem h]
  rfl
theorem nodup_get {l : List Nat} (h : l.Nodup) {i j : Nat} (hi : i < l.length) (hj : j < l.length) (e : l.getD i 0 = l.getD j 0) : i = j := by
  have e1 : l[i] = l[j] := by
    rw [List.getD_eq_getElem?_getD, List.getD_eq_getElem?_getD, List.getElem?_eq_getElem hi, List.getElem?_eq_getElem hj] at e
    exact e
  have hp : ∀ i j : Nat, ∀ (hi : i < l.length) (hj : j < l.length), i < j → l[i] ≠ l[j] := fun i j hi hj c => List.pairwise_iff_getElem.mp h i j hi hj c
  rcases Nat.lt_trichotomy i j with c | c | c
  · exact absurd e1 (hp i j hi hj c)
  · exact c
  · exact absurd e1.symm (hp j i hj hi c)
theorem prev_inj {n i j : Nat} (hi : i < n) (hj : j < n) (e : prevIx n i = prevIx n j) : i = j := by
  unfold prevIx at e
  split at e <;> split at e <;> omega
theorem nxtF_at {l : List Nat} (hn : l.Nodup) {i : Nat} (hi : i < l.length) : ∀ j, j ≤ l.length → i < j → nxtF l j (l.getD (prevIx l.length i) 0) = some (l.getD i 0)
  | 0, _, h => by omega
  | j + 1, hj, h => by
    unfold nxtF
    by_cases e : i = j
    · subst e
      rw [if_pos rfl]
    · rw [if_neg (fun z => e (prev_inj hi hj (nodup_get hn (prevIx_lt hi) (prevIx_lt hj) z)))]
      exact nxtF_at hn hi j (by omega) (by omega)
theorem nat_get {l : List Nat} {i t : Nat} (h : l[i]? = some t) : (l.map natV)[i]? = some (natV t) := by
  rw [List.getElem?_map, h]
  rfl
section
variable {P : Program} {w : World} {K : PySem.W.Frag} {mg : Str → Option Value} {base : Heap}
/-! ### back_walking -/
def spBWalk (K : PySem.W.Frag) : Sp := fun vs H Q _ => ∃ (qa a : Addr) (n : Nat) (rows : List (List Int)) (l : List Nat) (x : Nat → Nat), vs = [.ref qa, .ref a] ∧ ClQ K H qa n rows ∧ OkRows n rows ∧ n ≤ 1000 ∧ (wayL n rows).length ≤ 1200 ∧
  n * (3 * rows.length + 2) + rows.length ≤ 10000 ∧ SqL K H a (l.map natV) ∧ l.Perm (List.range (n * (3 * rows.length + 2) + rows.length)) ∧ (∀ st ∈ stepsI (natI l), st ∈ wayL n rows) ∧
  (∀ k, k < n → ∃ i, l[prevIx l.length i]? = some (gateN rows.length k) ∧ l[i]? = some (x k)) ∧
  ∀ H' p, Same H H' → H p = none → H' p = some (.lst (((List.range n).map fun k => decide (x k = strN rows.length k 0)).map V.bl)) → Q (.ref p) H'
theorem ok_bWalk (T : Tops K mg) : Cl P w K mg base 4 "back_walking" (spBWalk K) := by
  have Ch : Cl P w K mg base 2 "rounds_hold" (spRHold K) := ok_rHold T
  have Ct : Cl P w K mg base 3 "turn_walking" (spTWalk K) := ok_tWalk T
  have Cg : Cl P w K mg base 1 "gate" spGate := ok_gate T
  have Cs : Cl P w K mg base 1 "street" spStreet := ok_street T
  refine mkC T.fBWalk scBWalk (fun vs H Q E h => ?_) (fun f cdv A outer s H vs Q E hr h => ?_)
  · obtain ⟨qa, a, n, rows, l, x, rfl, _⟩ := h
    rfl
  · obtain ⟨qa, a, n, rows, l, x, rfl, cq, ok, hn, hwl, hbig, hS, hp, hst, hx, q⟩ := h
    refine ⟨_, pss_cons (ps_if (pt_not (pt_val (pe_k Ch hr (pa_cons (pe_k Ct hr (pa_cons (pv 0) pa_nil)) (pa_cons (pv 1) pa_nil))))) pss_never pss_nil)
      (pss_cons (ps_set (i := 2) scBWalk.nd rfl (.inr rfl) (pe_callB call_len_seq (by rfl) T.b_len PySem.boot_len (pa_cons (pe_ix ix_tup (pv 0) pe_int (fun _ _ => rfl)) pa_nil)))
      (pss_cons (ps_set (i := 3) scBWalk.nd rfl (.inr rfl) pe_dnewK)
      (pss_cons (ps_for PassesOwn.never rfl (pi_range1 rfl T.b_range (pa_cons (pe_callB call_len_seq (by rfl) T.b_len PySem.boot_len (pa_cons (pv 1) pa_nil)) pa_nil)) (pg_name (i := 4) scBWalk.nd rfl (Or.inl rfl))
        (pss_one (ps_dput (hu_of hr) (pv 3) (pe_ix ix_list (pv 1) (pe_op op_sub (pv 4) pe_int) (fun _ _ => rfl)) (pe_ix ix_list (pv 1) (pv 4) (fun _ _ => rfl)) rfl)))
      (pss_one (ps_ret (pe_lc (own := [("name", 5)]) (g := gName 5) (tt := tYes) (by rfl) scBWalk.nd (pi_range1 rfl T.b_range (pa_cons (pe_ix ix_tup (pv 0) pe_int (fun _ _ => rfl)) pa_nil))
          (blkOk_by (own := [("name", 5)]) (N := nBWalk) (sc := defScope sBWalk) (by decide +kernel))
          (fun _ _ _ _ _ => pg_name (i := 5) scBWalk.nd rfl (Or.inl rfl)) (fun _ _ _ _ _ => pts_nil)
          (fun _ _ _ _ _ => pe_cmpR op_eq (pe_dget (hu_of hr) (pv 3) (pe_k Cg hr (pa_cons (pv 2) (pa_cons (pv 5) pa_nil))) (fun _ _ => rfl)) (pe_k Cs hr (pa_cons (pv 2) (pa_cons (pv 5) (pa_cons pe_int pa_nil)))) (nomark _)))))))), ?_⟩
    obtain ⟨z, ra, hq, hra⟩ := cq.ex
    obtain ⟨xs, x1, x2⟩ := hra.len
    have hll : l.length = n * (3 * rows.length + 2) + rows.length := by rw [hp.length_eq, List.length_range]
    have hnd : l.Nodup := hp.nodup_iff.mpr List.nodup_range
    refine ⟨_, rfl, qa, n, rows, rfl, cq, ok, hn, hwl, fun H0 t qs s0 ht rq hqs hql => ?_⟩
    refine ⟨_, rfl, t, a, _, qs, natI l, rfl, rq, by omega, by rw [natI_iL]; exact s0.seq hS, natI_perm hp, hbig, fun st h => (hqs st).mpr (hst st h), fun H1 s1 => ?_⟩
    refine ⟨true, rfl, iteF ?_⟩
    have s2 := s0.trans s1
    refine ⟨_, rfl, qa, _, 2, _, rfl, rfl, sqt_same s2 hq, atI_nat (j := 2) rfl, ra, xs, rfl, .inl (s2.seq x1), ?_⟩
    rw [x2]
    generalize hm : rows.length = m at *
    intro d hd
    have s3 : Same H (upd H1 d (.dK [])) := keepT s2 hd
    refine ⟨_, rfl, a, l.map natV, rfl, .inl (s3.seq hS), _, rfl, by rw [List.length_map]; omega, by rw [List.length_map]; omega, ?_⟩
    rw [List.length_map, Int.toNat_natCast]
    refine for_r0 (n := l.length) (fun i σ H3 => ∃ y4, σ = [some (.ref qa), some (.ref a), some (.int m), some (.ref d), y4, none] ∧ Same H H3 ∧ Met H3 d (nxtF l i) i) ⟨none, rfl, s3, ⟨[], upd_same, Nat.le_refl _, fun p => rfl⟩⟩ ?_ ?_
    · rintro i σ H3 hi ⟨y4, rfl, s4, met⟩
      obtain ⟨H8, p1, p2, p3⟩ := met.put (a := l.getD (prevIx l.length i) 0) (b := l.getD i 0) (by omega)
      refine ⟨_, rfl, _, rfl, a, _, _, _, rfl, rfl, s4.seq hS, atI_nat (nat_get (natD_get hi)), ?_⟩
      refine ⟨_, rfl, _, rfl, _, rfl, _, 1, rfl, rfl, a, _, _, _, rfl, rfl, s4.seq hS, atI_prev (by rw [List.length_map]; exact nat_get (natD_get (prevIx_lt hi))), ?_⟩
      exact ⟨d, H8, rfl, p1, _, rfl, keepD s4 (s2.free hd) p3, p2⟩
    · rintro σ H3 ⟨y4, rfl, s4, met⟩
      refine ⟨_, rfl, qa, _, 1, _, rfl, rfl, sqt_same s4 hq, atI_nat (j := 1) rfl, _, rfl, by omega, by omega, ?_⟩
      rw [Int.toNat_natCast]
      intro D hD
      refine lc_r0 (n := n) (fun j H8 => H8 = upd H3 D (.lst (((List.range j).map fun k => decide (x k = strN m k 0)).map V.bl))) rfl ?_ ?_
      · rintro j H8 hj rfl
        have met8 := met.same (keepN (o := .lst (((List.range j).map fun k => decide (x k = strN m k 0)).map V.bl)) hD)
        obtain ⟨i, hi1, hi2⟩ := hx j hj
        have hil : i < l.length := (List.getElem?_eq_some_iff.mp hi2).1
        have g := met8.get (gateN m j)
        have e1 : gateN m j = l.getD (prevIx l.length i) 0 := Option.some.inj (hi1.symm.trans (natD_get (prevIx_lt hil)))
        have e2 : x j = l.getD i 0 := Option.some.inj (hi2.symm.trans (natD_get hil))
        rw [show nxtF l l.length (gateN m j) = some (x j) by rw [e1, e2]; exact nxtF_at hnd hil _ (Nat.le_refl _) hil] at g
        refine ⟨rfl, _, rfl, _, rfl, _, rfl, m, j, rfl, by have := ok.1; omega, by omega, d, _, rfl, g, ?_⟩
        refine ⟨_, rfl, _, rfl, m, j, 0, rfl, by have := ok.1; omega, by omega, rfl, _, upd_same, ?_, ?_⟩
        · rw [List.length_map, List.length_map, List.length_range]
          exact sz (by omega)
        · rw [upd_upd, List.range_succ, List.map_append, List.map_append]
          have e3 : decide (V.int (x j) = V.int (strN m j 0)) = decide (x j = strN m j 0) := by
            rw [decide_eq_decide]
            constructor
            · intro h
              exact Int.ofNat.inj (V.int.inj h)
            · intro h
              rw [h]
          show _ = upd H3 D (.lst (_ ++ [V.bl (decide (x j = strN m j 0))]))
          rw [← e3]
          rfl
      · rintro H8 rfl
        exact q _ D (keepT s4 hD) (s4.free hD) upd_same
end
end Hm
set_option Elab.async false
set_option linter.all false
set_option maxRecDepth 100000
set_option maxHeartbeats 8000000
namespace Hm
open PySem PySem.Spec PyProof.Rows L2
/-! ### back_mending -/
def midB (l : List Nat) (k : Nat) : Bool := l.getD k 0 % 3 == 1
def midsN (l : List Nat) : List Nat := (List.range l.length).filter (midB l)
def stepN (l : List Nat) (f : Nat) : Int := if l.getD ((f + 1) % l.length) 0 = l.getD f 0 + 1 then 1 else -1
def rowN (l : List Nat) (f : Nat) : List Nat := (List.range l.length).map fun k : Nat => lineOf l ((f : Int) + stepN l f * (k : Int))
def mid3 (t : Nat) : Bool := t % 3 == 1
def backM (l : List Nat) : List Nat := match midsN l with
  | [] => []
  | f :: _ => ((rowN l f).filter mid3).map fun t => t / 3
def lenR (K : PySem.W.Frag) : List V → Hp → VK → Prop := fun xs H Q => ∃ p ys, xs = [.ref p] ∧ (SqL K H p ys ∨ SqT K H p ys) ∧ Q (.int ys.length) H
theorem lenK {X : Cx} (K : PySem.W.Frag) (e : X.K = K := by rfl) : CallR X (.builtin "len") (lenR K) := e ▸ call_len_seq
theorem range_filter (p : Nat → Bool) (j : Nat) : (List.range (j + 1)).filter p = (List.range j).filter p ++ if p j = true then [j] else [] := by
  rw [List.range_succ, List.filter_append]
  cases e : p j <;> simp [List.filter_cons, e]
theorem eq_int (i j : Nat) : decide (V.int (i : Int) = V.int (j : Int)) = (i == j) := by
  rw [dec_int]
  rw [Bool.eq_iff_iff, beq_iff_eq, beq_iff_eq]
  omega
theorem line_at {l : List Nat} (hl : 0 < l.length) (i : Int) : atI (l.map natV) (i % (l.length : Int)) = some (natV (lineOf l i)) := by
  have b1 : 0 ≤ i % (l.length : Int) := Int.emod_nonneg _ (by omega)
  have b2 : i % (l.length : Int) < l.length := Int.emod_lt_of_pos _ (by omega)
  unfold lineOf
  obtain ⟨k, hk⟩ : ∃ k : Nat, i % (l.length : Int) = k := ⟨(i % (l.length : Int)).toNat, by omega⟩
  rw [hk, Int.toNat_natCast]
  exact atI_nat (nat_get (natD_get (by omega)))
section
variable {P : Program} {w : World} {K : PySem.W.Frag} {mg : Str → Option Value} {base : Heap}
def spBMend (K : PySem.W.Frag) : Sp := fun vs H Q _ => ∃ (qa a : Addr) (n : Nat) (qs : List (Int × Int)) (l : List Nat), vs = [.ref qa, .ref a] ∧ RQ K H qa n qs ∧ n ≤ 1000 ∧ qs.length ≤ 1200 ∧ SqL K H a (l.map natV) ∧ l.Perm (List.range (3 * n)) ∧
  (∀ st ∈ stepsI (natI l), eitherI st ∈ mendL n qs) ∧ ∀ H' p, Same H H' → H p = none → H' p = some (.lst ((backM l).map natV)) → Q (.ref p) H'
theorem ok_bMend (T : Tops K mg) : Cl P w K mg base 3 "back_mending" (spBMend K) := by
  have Ch : Cl P w K mg base 2 "ring_holds" (spGHold K) := ok_gHold T
  have Ct : Cl P w K mg base 2 "turn_mending" (spTMend K) := ok_tMend T
  refine mkC T.fBMend scBMend (fun vs H Q E h => ?_) (fun f cdv A outer s H vs Q E hr h => ?_)
  · obtain ⟨qa, a, n, qs, l, rfl, _⟩ := h
    rfl
  · obtain ⟨qa, a, n, qs, l, rfl, rq, hn, hql, hS, hp, hst, q⟩ := h
    refine ⟨_, pss_cons (ps_if (pt_not (pt_val (pe_k Ch hr (pa_cons (pe_k Ct hr (pa_cons (pv 0) pa_nil)) (pa_cons (pv 1) pa_nil))))) pss_never pss_nil)
      (pss_cons (ps_setLc (i := 2) (own := [("k", 6)]) (g := gName 6) (by rfl) scBMend.nd rfl rfl (sw_true rfl rfl rfl (by decide +kernel)) (pi_range1 rfl T.b_range (pa_cons (pe_callB call_len_seq (by rfl) T.b_len PySem.boot_len (pa_cons (pv 1) pa_nil)) pa_nil))
            (blkOk_by (own := [("k", 6)]) (N := nBMend) (sc := defScope sBMend) (by decide +kernel))
            (fun _ _ _ _ _ => pg_name (i := 6) scBMend.nd rfl (Or.inl rfl)) (fun _ _ _ _ _ => pts_one (pt_cmpR op_eq (pe_op op_mod (pe_ix (ixL K) (pv 1) (pv 6) (fun _ _ => rfl)) pe_int) pe_int (nomark _))) (fun _ _ _ _ _ => pv 6))
      (pss_cons (ps_if (pt_cmpR (op_eqD hr.units) (pv 2) (pe_lst pa_nil) (nomark _)) (pss_one (ps_ret (pe_lst pa_nil))) pss_nil)
      (pss_cons (ps_set (i := 3) scBMend.nd rfl (.inr rfl) (pe_ix ix_list (pv 2) pe_int (fun _ _ => rfl)))
      (pss_cons (ps_set (i := 4) scBMend.nd rfl (.inr rfl) (pe_un un_neg pe_int))
      (pss_cut (ps_if (pt_cmpR op_eq (pe_ix ix_list (pv 1) (pe_op op_mod (pe_op op_add (pv 3) pe_int) (pe_callB call_len_seq (by rfl) T.b_len PySem.boot_len (pa_cons (pv 1) pa_nil))) (fun _ _ => rfl)) (pe_op op_add (pe_ix ix_list (pv 1) (pv 3) (fun _ _ => rfl)) pe_int) (nomark _))
        (pss_one (ps_set (i := 4) scBMend.nd rfl (.inr rfl) pe_int)) pss_nil)
      (pss_cons (ps_setLc (i := 5) (own := [("k", 6)]) (g := gName 6) (tt := tYes) (by rfl) scBMend.nd rfl rfl (sw_true rfl rfl rfl (by decide +kernel)) (pi_range1 rfl T.b_range (pa_cons (pe_callB call_len_seq (by rfl) T.b_len PySem.boot_len (pa_cons (pv 1) pa_nil)) pa_nil))
            (blkOk_by (own := [("k", 6)]) (N := nBMend) (sc := defScope sBMend) (by decide +kernel))
            (fun _ _ _ _ _ => pg_name (i := 6) scBMend.nd rfl (Or.inl rfl)) (fun _ _ _ _ _ => pts_nil)
            (fun _ _ _ _ _ => pe_ix (ixL K) (pv 1) (pe_op op_mod (pe_op op_add (pv 3) (pe_op op_mul (pv 4) (pv 6))) (pe_callB (lenK K) (by rfl) T.b_len PySem.boot_len (pa_cons (pv 1) pa_nil))) (fun _ _ => rfl)))
      (pss_one (ps_ret (pe_lc (own := [("town", 7)]) (g := gName 7) (by rfl) scBMend.nd (pi_list (pv 5))
            (blkOk_by (own := [("town", 7)]) (N := nBMend) (sc := defScope sBMend) (by decide +kernel))
            (fun _ _ _ _ _ => pg_name (i := 7) scBMend.nd rfl (Or.inl rfl)) (fun _ _ _ _ _ => pts_one (pt_cmpR op_eq (pe_op op_mod (pv 7) pe_int) pe_int (nomark _))) (fun _ _ _ _ _ => pe_op op_fdiv (pv 7) pe_int)))))))))), ?_⟩
    have hll : l.length = 3 * n := by rw [hp.length_eq, List.length_range]
    refine ⟨_, rfl, qa, n, qs, rfl, rq, hn, hql, fun H0 t qs' s0 ht rq' hqs hql' => ?_⟩
    refine ⟨_, rfl, t, a, _, qs', natI l, rfl, rq', by omega, by rw [natI_iL]; exact s0.seq hS, natI_perm hp, by omega, fun st h => (hqs _).mpr (hst st h), fun H1 s1 => ?_⟩
    refine ⟨true, rfl, iteF ?_⟩
    have s2 := s0.trans s1
    -- middles
    refine ⟨_, rfl, a, l.map natV, rfl, .inl (s2.seq hS), _, rfl, by rw [List.length_map]; omega, by rw [List.length_map]; omega, ?_⟩
    rw [List.length_map, Int.toNat_natCast]
    intro D hD
    have hSD : ∀ o, SqL K (upd H1 D o) a (l.map natV) := fun o => (keepT s2 hD).seq hS
    refine lc_r0 (n := l.length) (fun j H8 => H8 = upd H1 D (.lst (((List.range j).filter (midB l)).map natV))) rfl ?_ ?_
    · rintro j H8 hj rfl
      refine ⟨rfl, _, rfl, _, rfl, a, _, _, _, rfl, rfl, hSD _, atI_nat (nat_get (natD_get hj)), l.getD j 0, 3, rfl, rfl, by omega, ?_⟩
      have e1 : decide (V.int (((l.getD j 0 : Nat) : Int) % 3) = V.int 1) = midB l j := by
        have := eq_int (l.getD j 0 % 3) 1
        rw [Int.natCast_emod] at this
        exact this
      refine ⟨rfl, _, rfl, ?_⟩
      rw [e1]
      refine ite2 (fun c => ?_) (fun c => ?_)
      · refine ⟨_, rfl, _, upd_same, ?_, ?_⟩
        · rw [List.length_map]
          have h1 := List.length_filter_le (midB l) (List.range j)
          rw [List.length_range] at h1
          exact sz (by omega)
        · rw [upd_upd, range_filter, if_pos c, nat_snoc]
          rfl
      · rw [range_filter, if_neg c, List.append_nil]
    rintro H8 rfl
    have s3 : Same H (upd H1 D (.lst ((midsN l).map natV))) := keepT s2 hD
    have hD0 : H D = none := s2.free hD
    have hD3 : upd H1 D (.lst ((midsN l).map natV)) D = some (.lst ((midsN l).map natV)) := upd_same
    rw [show (List.range l.length).filter (midB l) = midsN l from rfl]
    generalize upd H1 D (.lst ((midsN l).map natV)) = H3 at s3 hD3 ⊢
    refine ⟨_, rfl, Nat.zero_le _, fun r hr0 => ?_⟩
    have s4 : Same H (upd H3 r (.lst [])) := keepT s3 hr0
    have hD4 : upd H3 r (.lst []) D = some (.lst ((midsN l).map natV)) := by
      rw [upd_ne (ne_of_none hD3 hr0)]
      exact hD3
    have hr4 : upd H3 r (.lst []) r = some (.lst []) := upd_same
    refine ⟨.list ((natI (midsN l)).map PyData.int), .list [], .lst (.of (by rw [hD4, ← natI_iL])) (dpAll_ints _ _ _), .lst (.of hr4) .nil, PySem.W.ke_shaped_ints _, rfl, ?_⟩
    generalize upd H3 r (.lst []) = H4 at s4 hD4
    cases hmid : midsN l with
    | nil =>
      refine ⟨true, rfl, iteT ⟨Nat.zero_le _, fun p hp' => q _ p (keepT s4 hp') (s4.free hp') ?_⟩⟩
      rw [upd_same]
      unfold backM
      rw [hmid]
      rfl
    | cons f0 fr =>
      rw [hmid] at hD4
      refine ⟨false, rfl, iteF ?_⟩
      have hf : f0 ∈ midsN l := by
        rw [hmid]
        exact List.mem_cons_self
      have hfl : f0 < l.length := List.mem_range.mp (List.mem_filter.mp hf).1
      have hS4 := s4.seq hS
      refine ⟨_, rfl, D, _, 0, natV f0, rfl, rfl, .of hD4, atI_nat (j := 0) rfl, ?_⟩
      refine ⟨1, rfl, ?_⟩
      refine ⟨fun σ' H' => H' = H4 ∧ σ' = [some (.ref qa), some (.ref a), some (.ref D), some (natV f0), some (.int (stepN l f0)), none, none, none], ?_, ?_⟩
      · refine ⟨_, rfl, _, rfl, _, 1, rfl, rfl, _, rfl, a, l.map natV, rfl, .inl hS4, _, _, rfl, rfl, by rw [List.length_map]; omega, a, _, _, natV (l.getD ((f0 + 1) % l.length) 0), rfl, rfl, hS4, ?_, ?_⟩
        · have e : ((f0 : Int) + 1) % ((l.map natV).length : Int) = (((f0 + 1) % l.length : Nat) : Int) := by
            rw [List.length_map, Int.natCast_emod]
            rfl
          rw [e]
          exact atI_nat (nat_get (natD_get (Nat.mod_lt _ (by omega))))
        refine ⟨_, rfl, _, rfl, a, _, _, _, rfl, rfl, hS4, atI_nat (nat_get (natD_get hfl)), _, 1, rfl, rfl, rfl, _, rfl, ?_⟩
        have e1 : decide (natV (l.getD ((f0 + 1) % l.length) 0) = V.int (((l.getD f0 0 : Nat) : Int) + 1)) = (l.getD ((f0 + 1) % l.length) 0 == l.getD f0 0 + 1) := eq_int _ _
        rw [e1]
        refine ite2 (fun c => ⟨rfl, ?_⟩) (fun c => ⟨rfl, ?_⟩)
        · unfold stepN
          rw [if_pos (beq_iff_eq.mp c)]
          rfl
        · unfold stepN
          rw [if_neg (fun z => c (beq_iff_eq.mpr z))]
          rfl
      rintro σ' H' ⟨rfl, rfl⟩
      refine ⟨_, rfl, a, l.map natV, rfl, .inl hS4, _, rfl, by rw [List.length_map]; omega, by rw [List.length_map]; omega, ?_⟩
      rw [List.length_map, Int.toNat_natCast]
      intro D5 hD5
      have hS5 : ∀ o, SqL K (upd H' D5 o) a (l.map natV) := fun o => (keepT s4 hD5).seq hS
      have hstep : stepN l f0 = 1 ∨ stepN l f0 = -1 := by
        unfold stepN
        split
        · exact .inl rfl
        · exact .inr rfl
      refine lc_r0 (n := l.length) (fun j H8 => H8 = upd H' D5 (.lst (((List.range j).map fun k : Nat => lineOf l ((f0 : Int) + stepN l f0 * (k : Int))).map natV))) rfl ?_ ?_
      · rintro j H8 hj rfl
        refine ⟨rfl, _, rfl, _, rfl, _, rfl, _, rfl, _, _, rfl, rfl, .inl (by rcases hstep with e | e <;> rw [e] <;> decide), _, _, rfl, rfl, _, rfl, a, l.map natV, rfl, .inl (hS5 _), _, _, rfl, rfl, by rw [List.length_map]; omega, a, _, _, natV (lineOf l ((f0 : Int) + stepN l f0 * (j : Int))), rfl, rfl, hS5 _, ?_, ?_⟩
        · rw [List.length_map]
          exact line_at (by omega) _
        refine ⟨_, upd_same, ?_, ?_⟩
        · rw [List.length_map, List.length_map, List.length_range]
          exact sz (by omega)
        · rw [upd_upd, List.range_succ, List.map_append, List.map_append]
          rfl
      rintro H8 rfl
      have s6 : Same H (upd H' D5 (.lst ((rowN l f0).map natV))) := keepT s4 hD5
      have h56 : upd H' D5 (.lst ((rowN l f0).map natV)) D5 = some (.lst ((rowN l f0).map natV)) := upd_same
      rw [show ((List.range l.length).map fun k : Nat => lineOf l ((f0 : Int) + stepN l f0 * (k : Int))) = rowN l f0 from rfl]
      generalize upd H' D5 (.lst ((rowN l f0).map natV)) = H6 at s6 h56 ⊢
      have hrl : (rowN l f0).length = l.length := by
        unfold rowN
        rw [List.length_map, List.length_range]
      refine ⟨_, rfl, D5, rfl, ⟨_, .of h56⟩, fun D7 hD7 => ?_⟩
      refine lc_list (xs := (rowN l f0).map natV) (fun j H8 => H8 = upd H6 D7 (.lst (((((rowN l f0).take j).filter mid3).map fun t => t / 3).map natV))) rfl ?_ ?_ ?_
      · rintro j H8 _ rfl
        exact (keepN hD7).seq (.of h56)
      · rintro j x H8 hx rfl
        obtain ⟨t, ht', rfl⟩ := nat_at hx
        have hjl : j < (rowN l f0).length := (List.getElem?_eq_some_iff.mp ht').1
        refine ⟨rfl, _, rfl, t, 3, rfl, rfl, by omega, ?_⟩
        have e1 : decide (V.int ((t : Int) % 3) = V.int 1) = mid3 t := by
          have := eq_int (t % 3) 1
          rw [Int.natCast_emod] at this
          exact this
        refine ⟨rfl, _, rfl, ?_⟩
        rw [e1]
        refine ite2 (fun c => ?_) (fun c => ?_)
        · refine ⟨_, rfl, t, 3, rfl, rfl, ⟨by decide, by decide⟩, _, upd_same, ?_, ?_⟩
          · rw [List.length_map, List.length_map]
            have h1 := List.length_filter_le mid3 ((rowN l f0).take j)
            rw [List.length_take] at h1
            exact sz (by omega)
          · rw [upd_upd, filter_snoc _ ht', if_pos c, List.map_append, List.map_append]
            rfl
        · rw [filter_snoc _ ht', if_neg c, List.append_nil]
      · rintro H8 rfl
        rw [List.length_map, List.take_length]
        refine q _ D7 (keepT s6 hD7) (s6.free hD7) ?_
        rw [upd_same]
        unfold backM
        rw [hmid]
end
end Hm
set_option Elab.async false
set_option linter.all false
set_option maxRecDepth 100000
set_option maxHeartbeats 8000000
namespace Hm
open PySem PySem.Spec PyProof.Rows L2
theorem eq_intI (i j : Int) : decide (V.int i = V.int j) = decide (i = j) := by
  rw [dec_int]
  rfl
section
variable {P : Program} {w : World} {K : PySem.W.Frag} {mg : Str → Option Value} {base : Heap}
/-! ### _law_mixed, _law_at -/
def spLMix : Sp := fun vs H Q _ => ∃ z : Int, vs = [.int z] ∧ ∀ r : Nat, r < 2147483629 → Q (.int r) H
theorem ok_lMix (T : Tops K mg) : Cl P w K mg base 1 "_law_mixed" spLMix := by
  refine mkC T.fLMix scLMix (fun vs H Q E h => ?_) (fun f cdv A outer s H vs Q E hr h => ?_)
  · obtain ⟨z, rfl, _⟩ := h
    rfl
  · obtain ⟨z, rfl, q⟩ := h
    refine ⟨_, pss_one (ps_ret (pe_op op_mod (pe_op op_mul (pe_op op_mul (pe_op op_add (pe_op op_mod (pv 0) pe_int) pe_int) pe_int) pe_int) pe_int)), ?_⟩
    refine ⟨_, rfl, _, _, rfl, rfl, by show (0:Int) < 2147483647; decide, _, _, rfl, rfl, _, _, rfl, rfl, .inr ⟨by decide, by decide⟩, _, _, rfl, rfl, .inr ⟨by decide, by decide⟩, _, _, rfl, rfl, by show (0:Int) < 2147483629; decide, ?_⟩
    show Q (.int ((z % 2147483647 + 11) * 48271 * 69621 % 2147483629)) H
    generalize (z % 2147483647 + 11) * 48271 * 69621 = y
    have h1 : 0 ≤ y % 2147483629 := by omega
    have h2 : y % 2147483629 < 2147483629 := by omega
    have e : V.int (y % 2147483629) = V.int (((y % 2147483629).toNat : Nat) : Int) := by rw [Int.toNat_of_nonneg h1]
    show Q (V.int (y % 2147483629)) H
    rw [e]
    exact q _ (by omega)
def spLAt (K : PySem.W.Frag) : Sp := fun vs H Q _ => ∃ (a : Addr) (ns : List Int) (k : Nat), vs = [.ref a, .int k] ∧ SqL K H a (iL ns) ∧ ∀ r : Nat, r < 2147483629 → Q (.int r) H
theorem ok_lAt (T : Tops K mg) : Cl P w K mg base 2 "_law_at" (spLAt K) := by
  have Cm : Cl P w K mg base 1 "_law_mixed" spLMix := ok_lMix T
  refine mkC T.fLAt scLAt (fun vs H Q E h => ?_) (fun f cdv A outer s H vs Q E hr h => ?_)
  · obtain ⟨a, ns, k, rfl, _⟩ := h
    rfl
  · obtain ⟨a, ns, k, rfl, hS, q⟩ := h
    refine ⟨_, pss_cons (ps_if (pt_cmpR op_lt (pv 1) (pe_callB call_len_seq (by rfl) T.b_len PySem.boot_len (pa_cons (pv 0) pa_nil)) (nomark _))
        (pss_one (ps_ret (pe_k Cm hr (pa_cons (pe_ix ix_list (pv 0) (pv 1) (fun _ _ => rfl)) pa_nil)))) pss_nil)
      (pss_one (ps_ret (pe_k Cm hr (pa_cons pe_int pa_nil)))), ?_⟩
    refine ⟨_, rfl, _, rfl, a, _, rfl, .inl hS, _, _, rfl, rfl, _, rfl, ite2 (fun c => ?_) (fun c => ?_)⟩
    · have hk : k < ns.length := by
        have := of_decide_eq_true c
        rw [iL_len] at this
        omega
      exact ⟨_, rfl, _, rfl, a, _, _, _, rfl, rfl, hS, atI_nat (iL_getD hk), _, rfl, q⟩
    · exact ⟨_, rfl, q⟩
/-! ### _law_right, _law_hold -/
def spLRight (K : PySem.W.Frag) : Sp := fun vs H Q _ => ∃ (s : Int) (bs : List Bool) (ta : Addr), vs = [.int s, .ref ta] ∧ SqL K H ta (bs.map V.bl) ∧ OkSign bs.length s ∧ Q (.bl (rightB bs s)) H
theorem abs_name {n : Nat} {i : Int} (hi : OkSign n i) : (if i < 0 then -i else i) - 1 = ((nameOf i : Nat) : Int) := by
  unfold nameOf
  rcases hi with o | o
  · rw [if_neg (by omega)]
    omega
  · rw [if_pos (by omega)]
    omega
theorem ok_lRight (T : Tops K mg) : Cl P w K mg base 1 "_law_right" (spLRight K) := by
  refine mkC T.fLRight scLRight (fun vs H Q E h => ?_) (fun f cdv A outer s H vs Q E hr h => ?_)
  · obtain ⟨s, bs, ta, rfl, _⟩ := h
    rfl
  · obtain ⟨s, bs, ta, rfl, hS, hs, q⟩ := h
    refine ⟨_, pss_one (ps_ret (pe_cmpR op_eq (pe_ix ix_list (pv 1) (pe_op op_sub (pe_callB call_abs (by rfl) T.b_abs (by decide +kernel) (pa_cons (pv 0) pa_nil)) pe_int) (fun _ _ => rfl)) (pe_cmpR op_gt (pv 0) pe_int (nomark _)) (nomark _))), ?_⟩
    refine ⟨_, rfl, _, rfl, s, rfl, _, 1, rfl, rfl, ta, _, _, .bl (bs.getD (nameOf s) false), rfl, rfl, hS, ?_, ?_⟩
    · rw [abs_name hs]
      exact atI_nat (bl_get (nameOf_lt hs))
    refine ⟨_, rfl, _, _, rfl, rfl, rfl, ?_⟩
    have e : decide (V.bl (bs.getD (nameOf s) false) = V.bl (decide (0 < s))) = rightB bs s := by
      rw [dec_bl]
      unfold rightB
      by_cases c : 0 < s
      · rw [if_pos c, decide_eq_true c]
        cases bs.getD (nameOf s) false <;> rfl
      · rw [if_neg c, decide_eq_false c]
        cases bs.getD (nameOf s) false <;> rfl
    show Q (.bl (decide (V.bl (bs.getD (nameOf s) false) = V.bl (decide (0 < s))))) H
    rw [e]
    exact q
/-- the test of _law_hold -/
def spLHold (K : PySem.W.Frag) : Sp := fun vs H Q _ => ∃ (ta ra : Addr) (bs : List Bool) (rows : List (List Int)), vs = [.int bs.length, .ref ra, .ref ta] ∧ SqL K H ta (bs.map V.bl) ∧ bs.length ≤ 1000 ∧ RowsAt K H ra rows ∧ OkRows bs.length rows ∧
  ∀ H', Same H H' → Q (.bl (holdB rows bs)) H'
def scOuterL : Scope := lcS (retArg ((defBody sLHold).getD 1 (.Pass ⟨0, 0, 0, 0⟩)))
theorem ok_lHold (T : Tops K mg) : Cl P w K mg base 2 "_law_hold" (spLHold K) := by
  have Cr : Cl P w K mg base 1 "_law_right" (spLRight K) := ok_lRight T
  refine mkC T.fLHold scLHold (fun vs H Q E h => ?_) (fun f cdv A outer s H vs Q E hr h => ?_)
  · obtain ⟨ta, ra, bs, rows, rfl, _⟩ := h
    rfl
  · obtain ⟨ta, ra, bs, rows, rfl, hS, hl, hra, ok, q⟩ := h
    refine ⟨_, pss_cons (ps_if (pt_cmpR op_ne (pe_callB call_len_seq (by rfl) T.b_len PySem.boot_len (pa_cons (pv 2) pa_nil)) (pv 0) (nomark _)) (pss_one (ps_ret pe_bl)) pss_nil)
      (pss_one (ps_ret (pe_callB (cr_all rfl) (by rfl) T.b_all (by decide +kernel) (pa_cons (pe_lc (own := [("_law_row", 3)]) (g := gName 3) (tt := tYes) (by rfl) scLHold.nd (pi_list (pv 1))
        (blkOk_by (own := [("_law_row", 3)]) (N := nLHold) (sc := defScope sLHold) (by decide +kernel))
        (fun _ _ _ _ _ => pg_name (i := 3) scLHold.nd rfl (Or.inl rfl)) (fun _ _ _ _ _ => pts_nil)
        (fun _ _ _ _ _ => pe_callB (anyK K) (by rfl) T.b_any (by decide +kernel) (pa_cons (pe_lc (own := [("_law_sign", 4)]) (g := gName 4) (tt := tYes) (by rfl) scLHold.nd (piT K (pv 3))
          (blkOk_by (own := [("_law_sign", 4)]) (N := nLHold) (sc := relS scOuterL (defScope sLHold)) (by decide +kernel))
          (fun _ _ _ _ _ => pg_name (i := 4) scLHold.nd rfl (Or.inl rfl)) (fun _ _ _ _ _ => pts_nil)
          (fun _ _ _ _ _ => pe_k Cr hr (pa_cons (pv 4) (pa_cons (pv 2) pa_nil)))) pa_nil))) pa_nil)))), ?_⟩
    refine ⟨_, rfl, ta, _, rfl, .inl hS, _, rfl, rfl, _, rfl, ?_⟩
    refine iteNS (by rw [List.length_map]) ?_
    obtain ⟨rk, k1, k2, k3⟩ := hra.ex
    refine ⟨_, rfl, ra, rfl, ⟨_, k1⟩, fun D hD => ?_⟩
    refine lc_list (xs := rowRefs rk) (fun i H3 => Same H H3 ∧ H3 D = some (.lst (((rows.map fun row => row.any (rightB bs)).map V.bl).take i))) ⟨keepN hD, upd_same⟩ (fun i H3 _ p => p.1.seq k1) ?_ ?_
    · rintro i x H3 hx ⟨s3, hD3⟩
      obtain ⟨r, hr1, rfl⟩ := rowRefs_at hx
      have hrow := sqt_same s3 (k3 r (List.mem_of_getElem? hr1))
      have hm : r.2 ∈ rows := by
        rw [← k2]
        exact List.mem_map.mpr ⟨_, List.mem_of_getElem? hr1, rfl⟩
      obtain ⟨o1, o2⟩ := ok.2 _ hm
      have hri : rows[i]? = some r.2 := by
        rw [← k2, List.getElem?_map, hr1]
        rfl
      generalize r.2 = row at hrow o1 o2 hri
      refine ⟨rfl, _, rfl, _, rfl, ⟨_, hrow⟩, fun D2 hD2 => ?_⟩
      refine lc_tup (xs := row.map V.int) (fun j H4 => H4 = upd H3 D2 (.lst (((row.map (rightB bs)).map V.bl).take j))) rfl ?_ ?_ ?_
      · rintro j H4 _ rfl
        exact sqt_same (keepN hD2) hrow
      · rintro j y H4 hy rfl
        obtain ⟨i2, hy2, rfl⟩ := iL_at hy
        refine ⟨rfl, _, rfl, _, rfl, i2, bs, ta, rfl, (s3.trans (keepN hD2)).seq hS, o2 _ (List.mem_of_getElem? hy2), _, upd_same, ?_, ?_⟩
        · rw [List.length_take, List.length_map, List.length_map]
          exact sz (by omega)
        · rw [upd_upd, take_snoc (x := V.bl (rightB bs i2))]
          rw [List.getElem?_map, List.getElem?_map, hy2]
          rfl
      · rintro H4 rfl
        rw [List.length_map, List.take_of_length_le (by simp)]
        refine ⟨D2, row.map (rightB bs), rfl, .of upd_same, ?_⟩
        have ne : D ≠ D2 := ne_of_none hD3 hD2
        refine ⟨_, by rw [upd_ne ne]; exact hD3, ?_, keepU (keepT s3 hD2) hD, ?_⟩
        · rw [List.length_take]
          have h100 := ok.1
          exact sz (by rw [List.length_map, List.length_map]; omega)
        · rw [upd_same, take_snoc (x := V.bl (row.any (rightB bs)))]
          · simp
          · rw [List.getElem?_map, List.getElem?_map, hri]
            rfl
    · rintro H3 ⟨s3, hD3⟩
      have hlr : (rowRefs rk).length = rows.length := by
        unfold rowRefs
        rw [← k2, List.length_map, List.length_map]
      rw [hlr, List.take_of_length_le (by simp)] at hD3
      refine ⟨D, rows.map fun row => row.any (rightB bs), rfl, .of hD3, ?_⟩
      have e : (rows.map fun row => row.any (rightB bs)).all id = holdB rows bs := by
        unfold holdB
        rw [List.all_map]
        rfl
      rw [e]
      exact q _ s3
/-! ### _law_all -/
structure HasI (H : Hp) (d : Addr) (ps : List Int) (n : Nat) : Prop where
  ex : ∃ kvs : List (Key × V), H d = some (.dK kvs) ∧ kvs.length ≤ n ∧ ∀ p ∈ ps, valV kvs (.inl p) = some (.bl true)
theorem HasI.same {H H' : Hp} {d : Addr} {ps : List Int} {n : Nat} (h : HasI H d ps n) (s : Same H H') : HasI H' d ps n := by
  obtain ⟨kvs, h1, h2, h3⟩ := h.ex
  exact ⟨kvs, s _ _ h1, h2, h3⟩
theorem HasI.put {H : Hp} {d : Addr} {ps : List Int} {n : Nat} {p : Int} (h : HasI H d ps n) (hn : n ≤ 100000) :
    ∃ H', DPut H d (.int p) (.bl true) H' ∧ HasI H' d (ps ++ [p]) (n + 1) ∧ ∀ c, c ≠ d → H' c = H c := by
  obtain ⟨kvs, h1, h2, h3⟩ := h.ex
  refine ⟨_, DPut.k (k := .inl p) h1 (sz (by omega)), ⟨_, upd_same, Nat.le_trans (putK_le _ _ _) (by omega), fun x hx => ?_⟩, fun c hc => upd_ne hc⟩
  rw [valV_put]
  by_cases e : (.inl x : Key) = .inl p
  · rw [if_pos e]
  · rw [if_neg e]
    rcases List.mem_append.mp hx with z | z
    · exact h3 x z
    · exact absurd (congrArg Sum.inl (List.mem_singleton.mp z)) e
theorem HasI.get {H : Hp} {d : Addr} {ps : List Int} {n : Nat} {p : Int} (h : HasI H d ps n) (hp : p ∈ ps) : DGet H d (.int p) (some (.bl true)) := by
  obtain ⟨kvs, h1, h2, h3⟩ := h.ex
  rw [← h3 p hp]
  exact DGet.k (k := .inl p) h1
theorem ok_lAll (T : Tops K mg) : Cl P w K mg base 1 "_law_all" (spOnce K) := by
  refine mkC T.fLAll scLAll (fun vs H Q E h => ?_) (fun f cdv A outer s H vs Q E hr h => ?_)
  · obtain ⟨n, a, ns, rfl, _⟩ := h
    rfl
  · obtain ⟨n, a, ns, rfl, hS, hp, hn, q⟩ := h
    refine ⟨_, pss_cons (ps_set (i := 2) scLAll.nd rfl (.inr rfl) pe_dnewK)
      (pss_cons (ps_for PassesOwn.never rfl (pi_list (pv 1)) (pg_name (i := 3) scLAll.nd rfl (Or.inl rfl)) (pss_one (ps_dput (hu_of hr) (pv 2) (pv 3) pe_bl rfl)))
      (pss_one (ps_ret (pe_and (pe_cmpR op_eq (pe_callB call_len_seq (by rfl) T.b_len PySem.boot_len (pa_cons (pv 1) pa_nil)) (pv 0) (nomark _))
        (pe_one (pe_callB (cr_all rfl) (by rfl) T.b_all (by decide +kernel) (pa_cons (pe_lc (own := [("_law_k", 4)]) (g := gName 4) (tt := tYes) (by rfl) scLAll.nd (pi_range1 rfl T.b_range (pa_cons (pv 0) pa_nil))
          (blkOk_by (own := [("_law_k", 4)]) (N := nLAll) (sc := defScope sLAll) (by decide +kernel))
          (fun _ _ _ _ _ => pg_name (i := 4) scLAll.nd rfl (Or.inl rfl)) (fun _ _ _ _ _ => pts_nil)
          (fun _ _ _ _ _ => pe_cmp (pc_din (hu_of hr) (pv 4) (pv 2)) rfl)) pa_nil))))))), ?_⟩
    have hnl : ns.length = n := by rw [hp.length_eq, rangeI_len]
    intro d hd
    have s1 : Same H (upd H d (.dK [])) := keepN hd
    refine ⟨_, rfl, a, rfl, ⟨_, s1.seq hS⟩, ?_⟩
    refine for_list (xs := iL ns) (fun i σ H3 => ∃ y3, σ = [some (.int n), some (.ref a), some (.ref d), y3, none] ∧ Same H H3 ∧ HasI H3 d (ns.take i) i) ⟨none, rfl, s1, ⟨[], upd_same, Nat.le_refl _, fun _ h => nomatch h⟩⟩ ?_ ?_ ?_
    · rintro i σ H3 _ ⟨_, _, s3, _⟩
      exact s3.seq hS
    · rintro i x σ H3 hx ⟨y3, rfl, s3, hh⟩
      obtain ⟨z, hz, rfl⟩ := iL_at hx
      have hil : i < ns.length := (List.getElem?_eq_some_iff.mp hz).1
      obtain ⟨H4, p1, p2, p3⟩ := hh.put (p := z) (by omega)
      refine ⟨_, rfl, _, rfl, d, H4, rfl, p1, _, rfl, keepD s3 hd p3, ?_⟩
      rw [take_snoc hz]
      exact p2
    · rintro σ H3 ⟨y3, rfl, s3, hh⟩
      rw [iL_len, List.take_length] at hh
      refine ⟨_, rfl, a, _, rfl, .inl (s3.seq hS), _, rfl, rfl, ?_⟩
      have e : decide (V.int ((iL ns).length : Int) = V.int (n : Int)) = true := by
        rw [iL_len, hnl]
        exact decide_eq_true rfl
      refine ⟨_, rfl, ?_⟩
      rw [e]
      refine iteT ?_
      refine ⟨_, rfl, _, rfl, by omega, by omega, ?_⟩
      rw [Int.toNat_natCast]
      intro D hD
      refine lc_r0 (n := n) (fun j H6 => H6 = upd H3 D (.lst (((List.replicate n true).map V.bl).take j))) rfl ?_ ?_
      · rintro j H6 hj rfl
        have hm : (j : Int) ∈ ns := by
          rw [hp.mem_iff]
          exact List.mem_map.mpr ⟨j, List.mem_range.mpr hj, rfl⟩
        refine ⟨rfl, _, rfl, _, rfl, d, _, rfl, (hh.same (keepN hD)).get hm, _, upd_same, ?_, ?_⟩
        · rw [List.length_take, List.length_map, List.length_replicate]
          exact sz (by omega)
        · rw [upd_upd, take_snoc (x := V.bl true)]
          · rfl
          · rw [List.getElem?_map, List.getElem?_replicate, if_pos hj]
            rfl
      · rintro H6 rfl
        rw [List.take_of_length_le (by simp)]
        refine ⟨D, List.replicate n true, rfl, .of upd_same, ?_⟩
        have e : (List.replicate n true).all id = true := by simp
        rw [e]
        exact q _ (keepT s3 hD)
end
end Hm
set_option Elab.async false
set_option linter.all false
set_option maxRecDepth 100000
set_option maxHeartbeats 8000000
namespace Hm
open PySem PySem.Spec PyProof.Rows L2
def twQ (ei : Bool) (q : Int × Int) : List (Int × Int) := q :: if ei = true then [(q.2, q.1)] else []
def twL (ei : Bool) (qs : List (Int × Int)) : List (Int × Int) := qs.flatMap (twQ ei)
theorem twL_snoc (ei : Bool) (qs : List (Int × Int)) (q : Int × Int) : twL ei (qs ++ [q]) = twL ei qs ++ twQ ei q := by
  unfold twL
  rw [List.flatMap_append]
  simp
theorem mem_either {st : Int × Int} {qs : List (Int × Int)} (h : eitherI st ∈ qs) : st ∈ twL true qs := by
  unfold twL
  refine List.mem_flatMap.mpr ⟨_, h, ?_⟩
  unfold eitherI twQ
  obtain ⟨a, b⟩ := st
  by_cases c : a < b
  · simp [c]
  · simp [c]
theorem mem_plain {st : Int × Int} {qs : List (Int × Int)} (h : st ∈ qs) : st ∈ twL false qs := List.mem_flatMap.mpr ⟨_, h, List.mem_cons_self⟩
section
variable {P : Program} {w : World} {K : PySem.W.Frag} {mg : Str → Option Value} {base : Heap}
/-! ### _law_goes -/
def spLGoes (K : PySem.W.Frag) : Sp := fun vs H Q _ => ∃ (qa a : Addr) (ei : Bool) (n : Nat) (qs : List (Int × Int)) (ns : List Int), vs = [.ref qa, .ref a, .bl ei] ∧ RQ K H qa n qs ∧ qs.length ≤ 10000 ∧ H a = some (.lst (iL ns)) ∧ ns.Perm (rangeI n) ∧ n ≤ 10000 ∧
  (∀ st ∈ stepsI ns, st ∈ twL ei qs) ∧ ∀ H', Same H H' → Q (.bl true) H'
theorem ok_lGoes (T : Tops K mg) : Cl P w K mg base 2 "_law_goes" (spLGoes K) := by
  have Ca : Cl P w K mg base 1 "_law_all" (spOnce K) := ok_lAll T
  refine mkC T.fLGoes scLGoes (fun vs H Q E h => ?_) (fun f cdv A outer s H vs Q E hr h => ?_)
  · obtain ⟨qa, a, ei, n, qs, ns, rfl, _⟩ := h
    rfl
  · obtain ⟨qa, a, ei, n, qs, ns, rfl, ⟨z, wa, hq, hw⟩, hql, hA, hp, hn, hst, q⟩ := h
    refine ⟨_, pss_cons (ps_if (PW.pt (pw_or (pt_not (pt_val (pe_callB call_isi (by rfl) T.b_isinstance (by decide +kernel) (pa_cons (pv 1) (pa_cons (pe_bltn (v := .ty "list") (by rfl) T.b_list boot_list rfl) pa_nil)))))
        (pw_or1 (pt_not (pt_val (pe_k Ca hr (pa_cons (pe_ix ix_tup (pv 0) pe_int (fun _ _ => rfl)) (pa_cons (pv 1) pa_nil)))))))) pss_never pss_nil)
      (pss_cons (ps_set (i := 3) scLGoes.nd rfl (.inr rfl) pe_dnewT)
      (pss_cons (ps_for PassesOwn.never rfl (pi_list (pe_ix ix_tup (pv 0) pe_int (fun _ _ => rfl))) (pg_name (i := 4) scLGoes.nd rfl (Or.inl rfl))
        (pss_cons (ps_dput (hu_of hr) (pv 3) (pe_tup (pa_cons (pe_ix ix_tup (pv 4) pe_int (fun _ _ => rfl)) (pa_cons (pe_ix ix_tup (pv 4) pe_int (fun _ _ => rfl)) pa_nil))) pe_bl rfl)
        (pss_one (ps_if (pt_val (pv 2)) (pss_one (ps_dput (hu_of hr) (pv 3) (pe_tup (pa_cons (pe_ix ix_tup (pv 4) pe_int (fun _ _ => rfl)) (pa_cons (pe_ix ix_tup (pv 4) pe_int (fun _ _ => rfl)) pa_nil))) pe_bl rfl)) pss_nil))))
      (pss_one (ps_ret (pe_callB (cr_all rfl) (by rfl) T.b_all (by decide +kernel) (pa_cons (pe_lc (own := [("_law_k", 5)]) (g := gName 5) (tt := tYes) (by rfl) scLGoes.nd (pi_range1 rfl T.b_range (pa_cons (pe_callB call_len_seq (by rfl) T.b_len PySem.boot_len (pa_cons (pv 1) pa_nil)) pa_nil))
          (blkOk_by (own := [("_law_k", 5)]) (N := nLGoes) (sc := defScope sLGoes) (by decide +kernel))
          (fun _ _ _ _ _ => pg_name (i := 5) scLGoes.nd rfl (Or.inl rfl)) (fun _ _ _ _ _ => pts_nil)
          (fun _ _ _ _ _ => pe_cmp (pc_din (hu_of hr) (pe_tup (pa_cons (pe_ix (ixL K) (pv 1) (pe_op op_sub (pv 5) pe_int) (fun _ _ => rfl)) (pa_cons (pe_ix (ixL K) (pv 1) (pv 5) (fun _ _ => rfl)) pa_nil))) (pv 3)) rfl)) pa_nil)))))), ?_⟩
    have hnl : ns.length = n := by rw [hp.length_eq, rangeI_len]
    refine ⟨_, rfl, .ref a, .ty "list", .type "list", .type "list", true, rfl, .ty _, .base (.lst hA), kit_ty (by decide +kernel), true, rfl, ?_⟩
    refine iteF ?_
    refine ⟨_, rfl, qa, _, 1, _, rfl, rfl, hq, atI_nat (j := 1) rfl, _, rfl, n, a, ns, rfl, .of hA, hp, by omega, fun H1 s1 => ?_⟩
    refine ⟨true, rfl, iteF ?_⟩
    intro d hd
    obtain ⟨ks, k1, k2, k3⟩ := hw.ex
    have kq : ks.length = qs.length := by rw [← k2, List.length_map]
    have s2 : Same H (upd H1 d (.dT [])) := keepT s1 hd
    have hd0 : H d = none := s1.free hd
    refine ⟨_, rfl, qa, _, 2, _, rfl, rfl, sqt_same s2 hq, atI_nat (j := 2) rfl, wa, rfl, ⟨_, s2.seq k1⟩, ?_⟩
    refine for_list (xs := refs ks) (fun i σ H3 => ∃ y4, σ = [some (.ref qa), some (.ref a), some (.bl ei), some (.ref d), y4, none] ∧ Same H H3 ∧ Has H3 d (twL ei (qs.take i)) (.bl true) (2 * i)) ⟨none, rfl, s2, Has.nil⟩ ?_ ?_ ?_
    · rintro i σ H3 _ ⟨_, _, s3, _⟩
      exact s3.seq k1
    · rintro i x σ H3 hx ⟨y4, rfl, s3, hh⟩
      obtain ⟨r, hr1, rfl⟩ := refs_at hx
      have hil : i < ks.length := (List.getElem?_eq_some_iff.mp hr1).1
      have hri : qs[i]? = some r.2 := by
        rw [← k2, List.getElem?_map, hr1]
        rfl
      have hk0 := k3 r (List.mem_of_getElem? hr1)
      have hk := s3 _ _ hk0
      refine ⟨_, rfl, _, rfl, r.1, _, 0, _, rfl, rfl, .of hk, atI_nat (j := 0) rfl, _, rfl, r.1, _, 1, _, rfl, rfl, .of hk, atI_nat (j := 1) rfl, by show 2 ≤ sizeLine; decide, fun t ht => ?_⟩
      obtain ⟨H4, p1, p2, p3⟩ := (hh.sameS (keepN (o := pairO r.2) ht)).put (q := r.2) (b := t) upd_same (by omega)
      refine ⟨d, H4, rfl, p1, ?_⟩
      have s4 : Same H H4 := keepD (keepT s3 ht) hd0 p3
      cases ei with
      | false =>
        refine ⟨_, rfl, _, rfl, iteF ⟨_, rfl, s4, ?_⟩⟩
        obtain ⟨kvs, e1, e2, e3⟩ := p2.ex
        refine ⟨kvs, e1, by omega, ?_⟩
        rw [take_snoc hri, twL_snoc]
        exact e3
      | true =>
        have hk4 := s4 _ _ hk0
        refine ⟨_, rfl, _, rfl, iteT ?_⟩
        refine ⟨_, rfl, _, rfl, r.1, _, 1, _, rfl, rfl, .of hk4, atI_nat (j := 1) rfl, _, rfl, r.1, _, 0, _, rfl, rfl, .of hk4, atI_nat (j := 0) rfl, by show 2 ≤ sizeLine; decide, fun t2 ht2 => ?_⟩
        obtain ⟨H5, p4, p5, p6⟩ := (p2.sameS (keepN (o := pairO (r.2.2, r.2.1)) ht2)).put (q := (r.2.2, r.2.1)) (b := t2) upd_same (by omega)
        refine ⟨d, H5, rfl, p4, _, rfl, keepD (keepT s4 ht2) hd0 p6, ?_⟩
        rw [take_snoc hri, twL_snoc]
        have e : twL true (qs.take i) ++ twQ true r.2 = twL true (qs.take i) ++ [r.2] ++ [(r.2.2, r.2.1)] := by
          rw [List.append_assoc]
          rfl
        rw [e]
        exact p5
    · rintro σ H3 ⟨y4, rfl, s3, hh⟩
      rw [refs_len, kq, List.take_length] at hh
      have hS3 : SqL K H3 a (iL ns) := .of (s3 _ _ hA)
      refine ⟨_, rfl, a, _, rfl, .inl hS3, _, rfl, by rw [iL_len]; omega, by rw [iL_len]; omega, ?_⟩
      rw [iL_len, Int.toNat_natCast]
      intro D hD
      refine lc_r0 (n := ns.length) (fun i H6 => Same H3 H6 ∧ H6 D = some (.lst (((List.replicate ns.length true).map V.bl).take i))) ⟨keepN hD, upd_same⟩ ?_ ?_
      · rintro i H6 hi ⟨s7, hD6⟩
        have hA6 := s7.seq hS3
        have hpr : prevIx ns.length i < ns.length := prevIx_lt hi
        refine ⟨rfl, _, rfl, _, rfl, _, 1, rfl, rfl, a, _, _, _, rfl, rfl, hA6, atI_prev (k := i) (v := V.int (ns.getD (prevIx ns.length i) 0)) (by rw [iL_len]; exact iL_getD hpr), ?_⟩
        refine ⟨_, rfl, _, rfl, a, _, _, _, rfl, rfl, hA6, atI_nat (iL_getD hi), ?_⟩
        refine ⟨by show 2 ≤ sizeLine; decide, fun t ht => ?_⟩
        have ne : D ≠ t := ne_of_none hD6 ht
        have hmem : (ns.getD (prevIx ns.length i) 0, ns.getD i 0) ∈ twL ei qs := hst _ (List.mem_of_getElem? (stepsI_get hi))
        have hh6 : Has (upd H6 t (pairO (ns.getD (prevIx ns.length i) 0, ns.getD i 0))) d (twL ei qs) (.bl true) (2 * qs.length) := by
          have := (hh.sameS s7).sameS (keepN (o := pairO (ns.getD (prevIx ns.length i) 0, ns.getD i 0)) ht)
          exact this
        refine ⟨_, rfl, d, _, rfl, hh6.get upd_same hmem, _, by show upd H6 t _ D = _; rw [upd_ne ne]; exact hD6, ?_, keepU (keepT s7 ht) hD, ?_⟩
        · rw [List.length_take, List.length_map, List.length_replicate]
          exact sz (by omega)
        · rw [upd_same, take_snoc (x := V.bl true)]
          · rfl
          · rw [List.getElem?_map, List.getElem?_replicate, if_pos hi]
            rfl
      · rintro H6 ⟨s7, hD6⟩
        rw [List.take_of_length_le (by simp)] at hD6
        refine ⟨D, List.replicate ns.length true, rfl, .of hD6, ?_⟩
        have e : (List.replicate ns.length true).all id = true := by simp
        rw [e]
        exact q _ (s3.trans s7)
/-! ### _law_cheap -/
theorem ok_lCheap (T : Tops K mg) : Cl P w K mg base 2 "_law_cheap" (spTHold K) := by
  have Ca : Cl P w K mg base 1 "_law_all" (spOnce K) := ok_lAll T
  refine mkC T.fLCheap scLCheap (fun vs H Q E h => ?_) (fun f cdv A outer s H vs Q E hr h => ?_)
  · obtain ⟨qa, a, n, qs, ns, rfl, _⟩ := h
    rfl
  · obtain ⟨qa, a, n, qs, ns, rfl, ⟨z, wa, hq, ks, k1, k2, k3⟩, hql, hS, hp, hn, hst, q⟩ := h
    refine ⟨_, pss_cons (ps_set (i := 2) scLCheap.nd rfl (.inr rfl) pe_dnewT)
      (pss_cons (ps_for PassesOwn.never rfl (pi_list (pe_ix ix_tup (pv 0) pe_int (fun _ _ => rfl))) (pg_tup rfl (pgs_cons (pg_name (i := 3) scLCheap.nd rfl (Or.inl rfl)) (pgs_cons (pg_name (i := 4) scLCheap.nd rfl (Or.inl rfl)) (pgs_cons (pg_name (i := 5) scLCheap.nd rfl (Or.inl rfl)) pgs_nil))))
        (pss_cons (ps_dput (hu_of hr) (pv 2) (pe_tup (pa_cons (pv 3) (pa_cons (pv 4) pa_nil))) (pv 5) rfl)
        (pss_one (ps_dput (hu_of hr) (pv 2) (pe_tup (pa_cons (pv 4) (pa_cons (pv 3) pa_nil))) (pv 5) rfl))))
      (pss_cons (ps_set (i := 6) scLCheap.nd rfl (.inl rfl) (pe_callB (cr_sum rfl) (by rfl) T.b_sum (by decide +kernel) (pa_cons (pe_lc (own := [("_law_k", 7)]) (g := gName 7) (tt := tYes) (by rfl) scLCheap.nd (pi_range1 rfl T.b_range (pa_cons (pe_callB call_len_seq (by rfl) T.b_len PySem.boot_len (pa_cons (pv 1) pa_nil)) pa_nil))
          (blkOk_by (own := [("_law_k", 7)]) (N := nLCheap) (sc := defScope sLCheap) (by decide +kernel))
          (fun _ _ _ _ _ => pg_name (i := 7) scLCheap.nd rfl (Or.inl rfl)) (fun _ _ _ _ _ => pts_nil)
          (fun _ _ _ _ _ => pe_dget2 (hu_of hr) (pv 2) (pe_tup (pa_cons (pe_ix (ixL K) (pv 1) (pe_op op_sub (pv 7) pe_int) (fun _ _ => rfl)) (pa_cons (pe_ix (ixL K) (pv 1) (pv 7) (fun _ _ => rfl)) pa_nil))) (pe_ix (ixT K) (pv 0) pe_int (fun _ _ => rfl)) ⟨rfl, rfl, rfl, rfl⟩)) pa_nil)))
      (pss_one (ps_ret (pe_and (pe_k Ca hr (pa_cons (pe_ix ix_tup (pv 0) pe_int (fun _ _ => rfl)) (pa_cons (pv 1) pa_nil)))
        (pe_one (pe_cmpR op_le (pv 6) (pe_ix ix_tup (pv 0) pe_int (fun _ _ => rfl)) (nomark _)))))))), ?_⟩
    have hnl : ns.length = n := by rw [hp.length_eq, rangeI_len]
    have kq : ks.length = qs.length := by rw [← k2, List.length_map]
    intro d hd
    have s2 : Same H (upd H d (.dT [])) := keepN hd
    refine ⟨_, rfl, qa, _, 2, _, rfl, rfl, sqt_same s2 hq, atI_nat (j := 2) rfl, wa, rfl, ⟨_, s2.seq k1⟩, ?_⟩
    refine for_list (xs := refs ks) (fun i σ H3 => ∃ y3 y4 y5, σ = [some (.ref qa), some (.ref a), some (.ref d), y3, y4, y5, none, none] ∧ Same H H3 ∧ Has H3 d (twL true (qs.take i)) (.int 1) (2 * i)) ⟨none, none, none, rfl, s2, Has.nil⟩ ?_ ?_ ?_
    · rintro i σ H3 _ ⟨_, _, _, _, s3, _⟩
      exact s3.seq k1
    · rintro i x σ H3 hx ⟨y3, y4, y5, rfl, s3, hh⟩
      obtain ⟨r, hr1, rfl⟩ := refs_at hx
      have hil : i < ks.length := (List.getElem?_eq_some_iff.mp hr1).1
      have hri : qs[i]? = some r.2 := by
        rw [← k2, List.getElem?_map, hr1]
        rfl
      have hk := s3 _ _ (k3 r (List.mem_of_getElem? hr1))
      refine ⟨r.1, _, rfl, .of hk, rfl, _, _, rfl, _, _, rfl, _, _, rfl, rfl, ?_⟩
      refine ⟨_, rfl, _, rfl, _, rfl, _, rfl, by show 2 ≤ sizeLine; decide, fun t ht => ?_⟩
      obtain ⟨H4, p1, p2, p3⟩ := (hh.sameS (keepN (o := pairO r.2) ht)).put (q := r.2) (b := t) upd_same (by omega)
      refine ⟨d, H4, rfl, p1, ?_⟩
      have s4 : Same H H4 := keepD (keepT s3 ht) hd p3
      refine ⟨_, rfl, _, rfl, _, rfl, _, rfl, by show 2 ≤ sizeLine; decide, fun t2 ht2 => ?_⟩
      obtain ⟨H5, p4, p5, p6⟩ := (p2.sameS (keepN (o := pairO (r.2.2, r.2.1)) ht2)).put (q := (r.2.2, r.2.1)) (b := t2) upd_same (by omega)
      refine ⟨d, H5, rfl, p4, _, _, _, rfl, keepD (keepT s4 ht2) hd p6, ?_⟩
      rw [take_snoc hri, twL_snoc]
      have e : twL true (qs.take i) ++ twQ true r.2 = twL true (qs.take i) ++ [r.2] ++ [(r.2.2, r.2.1)] := by
        rw [List.append_assoc]
        rfl
      rw [e]
      exact p5
    · rintro σ H3 ⟨y3, y4, y5, rfl, s3, hh⟩
      rw [refs_len, kq, List.take_length] at hh
      have hS3 : SqL K H3 a (iL ns) := s3.seq hS
      refine ⟨_, rfl, a, _, rfl, .inl hS3, _, rfl, by rw [iL_len]; omega, by rw [iL_len]; omega, ?_⟩
      rw [iL_len, Int.toNat_natCast]
      intro D hD
      refine lc_r0 (n := ns.length) (fun i H6 => Same H3 H6 ∧ H6 D = some (.lst (((List.replicate ns.length (1 : Int)).map V.int).take i))) ⟨keepN hD, upd_same⟩ ?_ ?_
      · rintro i H6 hi ⟨s7, hD6⟩
        have hA6 := s7.seq hS3
        have hpr : prevIx ns.length i < ns.length := prevIx_lt hi
        obtain ⟨kvs, hkv⟩ := (hh.sameS s7).dict
        refine ⟨rfl, _, rfl, d, rfl, .inr ⟨kvs, .of hkv⟩, _, rfl, _, rfl, _, 1, rfl, rfl, a, _, _, _, rfl, rfl, hA6, atI_prev (k := i) (v := V.int (ns.getD (prevIx ns.length i) 0)) (by rw [iL_len]; exact iL_getD hpr), ?_⟩
        refine ⟨_, rfl, _, rfl, a, _, _, _, rfl, rfl, hA6, atI_nat (iL_getD hi), ?_⟩
        refine ⟨by show 2 ≤ sizeLine; decide, fun t ht => ?_⟩
        have ne : D ≠ t := ne_of_none hD6 ht
        have hmem : (ns.getD (prevIx ns.length i) 0, ns.getD i 0) ∈ twL true qs := mem_either (hst _ (List.mem_of_getElem? (stepsI_get hi)))
        have s8 : Same H (upd H6 t (pairO (ns.getD (prevIx ns.length i) 0, ns.getD i 0))) := s3.trans (keepT s7 ht)
        have hh6 : Has (upd H6 t (pairO (ns.getD (prevIx ns.length i) 0, ns.getD i 0))) d (twL true qs) (.int 1) (2 * qs.length) := by
          have := (hh.sameS s7).sameS (keepN (o := pairO (ns.getD (prevIx ns.length i) 0, ns.getD i 0)) ht)
          exact this
        refine ⟨_, rfl, qa, _, 3, _, rfl, rfl, sqt_same s8 hq, atI_nat (j := 3) rfl, _, hh6.get upd_same hmem, _, by show upd H6 t _ D = _; rw [upd_ne ne]; exact hD6, ?_, keepU (keepT s7 ht) hD, ?_⟩
        · rw [List.length_take, List.length_map, List.length_replicate]
          exact sz (by omega)
        · rw [upd_same, take_snoc (x := V.int 1)]
          · rfl
          · rw [List.getElem?_map, List.getElem?_replicate, if_pos hi]
            rfl
      · rintro H6 ⟨s7, hD6⟩
        rw [List.take_of_length_le (by simp)] at hD6
        refine ⟨D, List.replicate ns.length 1, rfl, .of hD6, ?_⟩
        rw [sum_ones]
        have s9 := s3.trans s7
        refine ⟨_, rfl, qa, _, 1, _, rfl, rfl, sqt_same s9 hq, atI_nat (j := 1) rfl, _, rfl, n, a, ns, rfl, s9.seq hS, hp, by omega, fun H7 s10 => ?_⟩
        refine ⟨true, rfl, iteT ?_⟩
        refine ⟨_, rfl, _, rfl, qa, _, 4, _, rfl, rfl, sqt_same (s9.trans s10) hq, atI_nat (j := 4) rfl, _, _, rfl, rfl, ?_⟩
        have e : decide ((ns.length : Int) ≤ (n : Int)) = true := decide_eq_true (by omega)
        show Q (.bl (decide ((ns.length : Int) ≤ (n : Int)))) H7
        rw [e]
        exact q _ (s9.trans s10)
end
end Hm
set_option Elab.async false
set_option linter.all false
set_option maxRecDepth 100000
set_option maxHeartbeats 8000000
namespace Hm
open PySem PySem.Spec PyProof.Rows L2
theorem cut_ints (ns : List Int) : ∃ ms : List Int, cutV (iL ns) (some 1) (some 9) = iL ms ∧ ms.length ≤ 8 := by
  refine ⟨(ns.drop (HT.sIx ns.length 0 (some 1))).take (HT.sIx ns.length ns.length (some 9) - HT.sIx ns.length 0 (some 1)), ?_, ?_⟩
  · unfold cutV
    rw [iL_len]
    show _ = List.map V.int (List.take _ (List.drop _ ns))
    rw [List.map_take, List.map_drop]
  · rw [List.length_take, List.length_drop]
    have e1 : HT.sIx ns.length 0 (some 1) = min 1 ns.length := rfl
    have e9 : HT.sIx ns.length ns.length (some 9) = min 9 ns.length := rfl
    rw [e1, e9]
    omega
theorem iL_set (ss : List Int) (j : Nat) (v : Int) : (iL ss).set j (.int v) = iL (ss.set j v) := (List.map_set ..).symm
/-- rows that grow -/
structure RGrow (n : Nat) (H0 H : Hp) (R : Addr) (i : Nat) : Prop where
  same : Same H0 H
  ex : ∃ rk : List RK, H R = some (.lst (rowRefs rk)) ∧ rk.length ≤ i ∧ ∀ x ∈ rk, H x.1 = some (.tup (x.2.map V.int)) ∧ x.2.length ≤ 4 ∧ ∀ s ∈ x.2, OkSign n s
theorem RGrow.more {n : Nat} {H0 H H' : Hp} {R : Addr} {i : Nat} (g : RGrow n H0 H R i) (s : Same H H') : RGrow n H0 H' R i := by
  obtain ⟨rk, h1, h2, h3⟩ := g.ex
  exact ⟨g.same.trans s, rk, s _ _ h1, h2, fun x hx => ⟨s _ _ (h3 x hx).1, (h3 x hx).2⟩⟩
theorem rowRefs_snoc (rk : List RK) (x : RK) : rowRefs (rk ++ [x]) = rowRefs rk ++ [V.ref x.1] := by
  unfold rowRefs
  rw [List.map_append]
  rfl
theorem RGrow.push {n : Nat} {H0 H : Hp} {R t : Addr} {i : Nat} {ss : List Int} (g : RGrow n H0 H R i) (h0 : H0 R = none) (ht : H t = some (.tup (ss.map V.int))) (hi : i ≤ 1000) (h4 : ss.length ≤ 4) (ok : ∀ s ∈ ss, OkSign n s) :
    ∃ acc, H R = some (.lst acc) ∧ acc.length < sizeLine ∧ RGrow n H0 (upd H R (.lst (acc ++ [.ref t]))) R (i + 1) := by
  obtain ⟨rk, h1, h2, h3⟩ := g.ex
  refine ⟨_, h1, ?_, keepU g.same h0, rk ++ [(t, ss)], ?_, ?_, ?_⟩
  · unfold rowRefs
    rw [List.length_map]
    exact sz (by omega)
  · rw [upd_same, rowRefs_snoc]
  · rw [List.length_append]
    show _ + 1 ≤ _
    omega
  · intro x hx
    have hx' : H x.1 = some (.tup (x.2.map V.int)) ∧ x.2.length ≤ 4 ∧ ∀ s ∈ x.2, OkSign n s := by
      rcases List.mem_append.mp hx with z | z
      · exact h3 x z
      · rw [List.mem_singleton.mp z]
        exact ⟨ht, h4, ok⟩
    refine ⟨?_, hx'.2⟩
    rw [upd_ne (ne_of hx'.1 h1 (fun z => nomatch z))]
    exact hx'.1
theorem RGrow.up {n : Nat} {H0 H : Hp} {R : Addr} {i : Nat} (g : RGrow n H0 H R i) : RGrow n H0 H R (i + 1) := by
  obtain ⟨rk, h1, h2, h3⟩ := g.ex
  exact ⟨g.same, rk, h1, by omega, h3⟩
theorem absI_ok {n : Nat} {s : Int} (h : OkSign n s) : OkSign n (if s < 0 then -s else s) ∧ OkSign n (-(if s < 0 then -s else s)) := by
  unfold OkSign at *
  split <;> omega
section
variable {P : Program} {w : World} {K : PySem.W.Frag} {mg : Str → Option Value} {base : Heap}
/-! ### _law_clauses -/
def spLCl (K : PySem.W.Frag) : Sp := fun vs H Q _ => ∃ (a : Addr) (ns : List Int), vs = [.ref a, .int 8] ∧ SqL K H a (iL ns) ∧ ∀ (H' : Hp) (p R T2 : Addr) (bs : List Bool) (rows : List (List Int)), Same H H' → H' p = some (.tup [.int bs.length, .ref R, .ref T2]) →
  bs.length ≤ 10 → RowsAt K H' R rows → rows.length ≤ 8 → (∀ row ∈ rows, row.length ≤ 4 ∧ ∀ s ∈ row, OkSign bs.length s) → H' T2 = some (.lst (bs.map V.bl)) → Q (.ref p) H'
theorem ok_lCl (T : Tops K mg) : Cl P w K mg base 3 "_law_clauses" (spLCl K) := by
  have Ca : Cl P w K mg base 2 "_law_at" (spLAt K) := ok_lAt T
  have Cm : Cl P w K mg base 1 "_law_mixed" spLMix := ok_lMix T
  refine mkC T.fLCl scLCl (fun vs H Q E h => ?_) (fun f cdv A outer s H vs Q E hr h => ?_)
  · obtain ⟨a, ns, rfl, _⟩ := h
    rfl
  · obtain ⟨a, ns, rfl, hS, q⟩ := h
    refine ⟨_, pss_cons (ps_set (i := 2) scLCl.nd rfl (.inr rfl) (pe_k Ca hr (pa_cons (pv 0) (pa_cons pe_int pa_nil))))
      (pss_cut (ps_set (i := 3) scLCl.nd rfl (.inl rfl) (pe_ix ix_list (pe_lst (pa_cons (pe_op op_mod (pv 2) pe_int) (pa_cons (pe_op op_add pe_int (pe_op op_mod (pe_op op_fdiv (pv 2) pe_int) pe_int)) pa_nil)))
          (pe_callTy call_int1 (by rfl) T.b_int (by decide +kernel) (pa_cons (pe_cmpR op_eq (pe_op op_mod (pe_op op_fdiv (pv 2) pe_int) pe_int) pe_int (nomark _)) pa_nil)) (fun _ _ => rfl)))
      (pss_cons (ps_set (i := 4) scLCl.nd rfl (.inl rfl) (pe_cmpR op_gt (pe_op op_mod (pe_op op_fdiv (pv 2) pe_int) pe_int) pe_int (nomark _)))
      (pss_cons (ps_setLc (i := 6) (own := [("_law_k", 5)]) (g := gName 5) (tt := tYes) (by rfl) scLCl.nd rfl rfl (sw_true rfl rfl rfl (by decide +kernel)) (pi_range1 rfl T.b_range (pa_cons (pv 3) pa_nil))
            (blkOk_by (own := [("_law_k", 5)]) (N := nLCl) (sc := defScope sLCl) (by decide +kernel))
            (fun _ _ _ _ _ => pg_name (i := 5) scLCl.nd rfl (Or.inl rfl)) (fun _ _ _ _ _ => pts_nil)
            (fun _ _ _ _ _ => pe_cmpR op_eq (pe_op op_mod (pe_op op_fdiv (pe_op op_fdiv (pv 2) pe_int) (pe_op op_shl pe_int (pv 5))) pe_int) pe_int (nomark _)))
      (pss_cons (ps_set (i := 7) scLCl.nd rfl (.inl rfl) (pe_lst pa_nil))
      (pss_cons (ps_for PassesOwn.never rfl (pi_list (pe_slice sl_list (pv 0) (po_some pe_int) (po_some (pe_op op_add pe_int (pv 1))))) (pg_name (i := 8) scLCl.nd rfl (Or.inl rfl))
        (pss_cons (ps_set (i := 2) scLCl.nd rfl (.inr rfl) (pe_k Cm hr (pa_cons (pv 8) pa_nil)))
        (pss_cut (ps_set (i := 9) scLCl.nd rfl (.inl rfl) (pe_callB (call_min2 rfl) (by rfl) T.b_min (by decide +kernel) (pa_cons (pe_op op_mul pe_int (pv 3)) (pa_cons (pe_op op_mod (pv 2) pe_int) pa_nil))))
        (pss_cut (ps_if (PW.pt (pw_and (pt_val (pv 4)) (pw_and1 (pt_cmpR op_eq (pv 9) pe_int (nomark _)))))
          (pss_one (ps_set (i := 9) scLCl.nd rfl (.inl rfl) (pe_callB (call_min2 rfl) (by rfl) T.b_min (by decide +kernel) (pa_cons pe_int (pa_cons (pv 3) pa_nil))))) pss_nil)
        (pss_cons (ps_set (i := 2) scLCl.nd rfl (.inr rfl) (pe_op op_fdiv (pv 2) pe_int))
        (pss_cons (ps_set (i := 10) scLCl.nd rfl (.inl rfl) (pe_lst pa_nil))
        (pss_cons (ps_for PassesOwn.never rfl (pi_range1 rfl T.b_range (pa_cons (pv 9) pa_nil)) (pg_name (i := 5) scLCl.nd rfl (Or.inl rfl))
          (pss_cons (ps_expr (pe_bm PySem.F.plainAttrs_list PySem.F.slot_list_append PySem.F.type_list_append mt_append (pv 10) (pa_cons (pe_op op_mul (pe_ix ix_list (pe_lst (pa_cons pe_int (pa_cons (pe_un un_neg pe_int) pa_nil))) (pe_op op_mod (pe_op op_fdiv (pv 2) (pv 3)) pe_int) (fun _ _ => rfl)) (pe_op op_add pe_int (pe_op op_mod (pv 2) (pv 3)))) pa_nil)))
          (pss_one (ps_set (i := 2) scLCl.nd rfl (.inr rfl) (pe_op op_fdiv (pv 2) (pe_op op_mul pe_int (pv 3)))))))
        (pss_cut (ps_if (PW.pt (pw_and (pt_val (pv 4)) (pw_and1 (pt_cmpR op_gt (pv 9) pe_int (nomark _)))))
          (pss_cons (ps_set (i := 11) scLCl.nd rfl (.inl rfl) (pe_op op_mod (pv 2) (pv 9)))
          (pss_one (ps_asg (pe_ifExp (pt_val (pe_ix ix_list (pv 6) (pe_op op_sub (pe_callB call_abs (by rfl) T.b_abs (by decide +kernel) (pa_cons (pe_ix ix_list (pv 10) (pv 11) (fun _ _ => rfl)) pa_nil)) pe_int) (fun _ _ => rfl)))
            (pe_callB call_abs (by rfl) T.b_abs (by decide +kernel) (pa_cons (pe_ix ix_list (pv 10) (pv 11) (fun _ _ => rfl)) pa_nil))
            (pe_un un_neg (pe_callB call_abs (by rfl) T.b_abs (by decide +kernel) (pa_cons (pe_ix ix_list (pv 10) (pv 11) (fun _ _ => rfl)) pa_nil)))) (pg_sub (pv 10) (pv 11) set_list)))) pss_nil)
        (pss_one (ps_if (PW.pt (pw_or (pt_cmpR op_gt (pv 3) pe_int (nomark _)) (pw_or1 (pt_not (pt_val (pv 4))))))
          (pss_one (ps_expr (pe_bm PySem.F.plainAttrs_list PySem.F.slot_list_append PySem.F.type_list_append mt_append (pv 7) (pa_cons (pe_callTy call_tuple_of (by rfl) T.b_tuple (by decide +kernel) (pa_cons (pv 10) pa_nil)) pa_nil)))) pss_nil))))))))))
      (pss_one (ps_ret (pe_tup (pa_cons (pv 3) (pa_cons (pv 7) (pa_cons (pv 6) pa_nil))))))))))), ?_⟩
    refine ⟨_, rfl, a, ns, 0, rfl, hS, fun sd0 _ => ?_⟩
    generalize ((sd0 : Nat) : Int) = sd
    refine ⟨fun σ' H' => ∃ n : Nat, n ≤ 10 ∧ Same H H' ∧ σ' = [some (.ref a), some (.int 8), some (.int sd), some (.int n), none, none, none, none, none, none, none, none], ?_, ?_⟩
    · refine ⟨_, rfl, _, _, rfl, rfl, by show (0 : Int) < 5; decide, _, rfl, _, 120, rfl, rfl, ⟨by decide, by decide⟩, _, 6, rfl, rfl, by show (0 : Int) < 6; decide, 5, _, rfl, rfl, by show 2 ≤ sizeLine; decide, fun D hD => ?_⟩
      refine ⟨_, rfl, _, 15, rfl, rfl, ⟨by decide, by decide⟩, _, 8, rfl, rfl, by show (0 : Int) < 8; decide, rfl, ?_⟩
      refine .inr ⟨_, rfl, ?_⟩
      have h5 : 0 ≤ sd % 5 ∧ sd % 5 < 5 := by omega
      have h6 : 0 ≤ sd / 120 % 6 ∧ sd / 120 % 6 < 6 := by omega
      by_cases c : decide (V.int (sd / 15 % 8) = V.int 3) = true
      · refine ⟨D, _, 1, .int (5 + sd / 120 % 6), rfl, ?_, .of upd_same, atI_nat (j := 1) rfl, (5 + sd / 120 % 6).toNat, by omega, keepN hD, ?_⟩
        · show V.int (if decide (V.int (sd / 15 % 8) = V.int 3) = true then 1 else 0) = V.int 1
          rw [if_pos c]
        · rw [Int.toNat_of_nonneg (by omega)]
          rfl
      · refine ⟨D, _, 0, .int (sd % 5), rfl, ?_, .of upd_same, atI_nat (j := 0) rfl, (sd % 5).toNat, by omega, keepN hD, ?_⟩
        · show V.int (if decide (V.int (sd / 15 % 8) = V.int 3) = true then 1 else 0) = V.int 0
          rw [if_neg c]
        · rw [Int.toNat_of_nonneg (by omega)]
          rfl
    rintro σ' H1 ⟨n, hn, s1, rfl⟩
    refine ⟨_, rfl, _, 5, rfl, rfl, ⟨by decide, by decide⟩, _, 3, rfl, rfl, by show (0 : Int) < 3; decide, _, 0, rfl, rfl, ?_⟩
    obtain ⟨pl, hpl⟩ : ∃ pl : Bool, decide ((0 : Int) < sd / 5 % 3) = pl := ⟨_, rfl⟩
    refine ⟨_, rfl, _, rfl, by omega, by omega, ?_⟩
    rw [Int.toNat_natCast]
    intro T2 hT2
    refine lc_r0 (n := n) (fun j H8 => ∃ bs : List Bool, bs.length = j ∧ H8 = upd H1 T2 (.lst (bs.map V.bl))) ⟨[], rfl, rfl⟩ ?_ ?_
    · rintro j H8 hj ⟨bs, hb, rfl⟩
      refine ⟨rfl, _, rfl, _, 720, rfl, rfl, ⟨by decide, by decide⟩, _, rfl, 1, j, rfl, rfl, ⟨by omega, by omega, by decide⟩, _, _, rfl, rfl, ?_, _, 2, rfl, rfl, by show (0 : Int) < 2; decide, rfl, ?_⟩
      · have hb2 : (2 : Int) ^ (j : Int).toNat ≤ 2 ^ 10 := by
          rw [Int.toNat_natCast]
          exact_mod_cast Nat.pow_le_pow_right (by decide : 0 < 2) (by omega : j ≤ 10)
        have hb3 : (0 : Int) < 2 ^ (j : Int).toNat := Int.pow_pos (by decide)
        constructor
        · show (0 : Int) < 1 * 2 ^ (j : Int).toNat
          omega
        · show (1 : Int) * 2 ^ (j : Int).toNat < 1073741824
          omega
      · refine ⟨_, upd_same, ?_, bs ++ [decide (V.int (sd / 720 / (1 * 2 ^ (j : Int).toNat) % 2) = V.int 1)], ?_, ?_⟩
        · rw [List.length_map]
          exact sz (by omega)
        · rw [List.length_append, hb]
          rfl
        · rw [upd_upd, List.map_append]
          rfl
    rintro H8 ⟨bs, hb, rfl⟩
    have s2 : Same H (upd H1 T2 (.lst (bs.map V.bl))) := keepT s1 hT2
    have hT : upd H1 T2 (.lst (bs.map V.bl)) T2 = some (.lst (bs.map V.bl)) := upd_same
    generalize upd H1 T2 (.lst (bs.map V.bl)) = H2 at s2 hT
    refine ⟨Nat.zero_le _, fun R hR => ?_⟩
    have g0 : RGrow n H2 (upd H2 R (.lst [])) R 0 := ⟨keepN hR, [], upd_same, Nat.le_refl _, fun _ h => nomatch h⟩
    obtain ⟨ms, hms, hml⟩ := cut_ints ns
    refine ⟨_, rfl, 1, rfl, _, rfl, 1, 8, rfl, rfl, 9, rfl, a, _, rfl, (s2.trans g0.same).seq hS, fun p hp => ?_⟩
    rw [hms]
    have hpn : H2 p = none := g0.same.free hp
    refine ⟨p, rfl, ⟨_, .of upd_same⟩, ?_⟩
    refine for_list (xs := iL ms) (fun i σ H3 => ∃ z y5 y8 y9 y10 y11, σ = [some (.ref a), some (.int 8), some (.int z), some (.int n), some (.bl pl), y5, some (.ref T2), some (.ref R), y8, y9, y10, y11] ∧ H3 p = some (.lst (iL ms)) ∧ RGrow n H2 H3 R i) ⟨sd, none, none, none, none, none, (by rw [← hpl]; rfl), upd_same, g0.more (keepN hp)⟩ ?_ ?_ ?_
    · rintro i σ H3 _ ⟨_, _, _, _, _, _, _, e, _⟩
      exact .of e
    · rintro i x σ H3 hx ⟨z, y5, y8, y9, y10, y11, rfl, hp3, g⟩
      obtain ⟨zc, hzc, rfl⟩ := iL_at hx
      have hil : i < 8 := by
        have := (List.getElem?_eq_some_iff.mp hzc).1
        omega
      refine ⟨_, rfl, zc, rfl, fun r0 _ => ?_⟩
      generalize ((r0 : Nat) : Int) = z1
      refine ⟨fun σ' H' => H' = H3 ∧ ∃ k : Nat, k ≤ 4 ∧ (n = 0 → k = 0) ∧ σ' = [some (.ref a), some (.int 8), some (.int z1), some (.int n), some (.bl pl), y5, some (.ref T2), some (.ref R), some (.int zc), some (.int k), y10, y11], ?_, ?_⟩
      · refine ⟨_, rfl, 5, n, rfl, rfl, .inl ⟨by decide, by decide⟩, _, rfl, _, 5, rfl, rfl, by show (0 : Int) < 5; decide, _, _, rfl, rfl, (if z1 % 5 < 5 * (n : Int) then z1 % 5 else 5 * (n : Int)).toNat, ?_, ?_, ?_⟩
        · split <;> omega
        · intro hn0
          split <;> omega
        · have e : (if z1 % 5 < 5 * (n : Int) then z1 % 5 else 5 * (n : Int)) = (((if z1 % 5 < 5 * (n : Int) then z1 % 5 else 5 * (n : Int)).toNat : Nat) : Int) := by
            rw [Int.toNat_of_nonneg]
            split <;> omega
          rw [← e]
          rfl
      rintro σ' H3' ⟨rfl, k0, hk4, hk0, rfl⟩
      refine ⟨fun σ' H' => H' = H3' ∧ ∃ k : Nat, k ≤ 4 ∧ (n = 0 → k = 0) ∧ σ' = [some (.ref a), some (.int 8), some (.int z1), some (.int n), some (.bl pl), y5, some (.ref T2), some (.ref R), some (.int zc), some (.int k), y10, y11], ?_, ?_⟩
      · refine ⟨_, rfl, pl, rfl, ite2 (fun c => ?_) (fun c => ?_)⟩
        · refine ⟨_, rfl, rfl, _, rfl, ite2 (fun c2 => ?_) (fun c2 => ?_)⟩
          · refine ⟨_, rfl, 1, n, rfl, rfl, (if (n : Int) < 1 then (n : Int) else 1).toNat, ?_, ?_, ?_⟩
            · split <;> omega
            · intro hn0
              split <;> omega
            · have e : (if (n : Int) < 1 then (n : Int) else 1) = (((if (n : Int) < 1 then (n : Int) else 1).toNat : Nat) : Int) := by
                rw [Int.toNat_of_nonneg]
                split <;> omega
              rw [← e]
              rfl
          · exact ⟨rfl, k0, hk4, hk0, rfl⟩
        · exact iteF ⟨rfl, k0, hk4, hk0, rfl⟩
      clear hk4 hk0 k0
      rintro σ' H3 ⟨rfl, k, hk4, hk0, rfl⟩
      refine ⟨_, rfl, _, 5, rfl, rfl, ⟨by decide, by decide⟩, ?_⟩
      refine ⟨Nat.zero_le _, fun D hD => ?_⟩
      refine ⟨_, rfl, _, rfl, by omega, by omega, ?_⟩
      rw [Int.toNat_natCast]
      refine for_r0 (n := k) (fun j σ H4 => ∃ z2 y5 ss, σ = [some (.ref a), some (.int 8), some (.int z2), some (.int n), some (.bl pl), y5, some (.ref T2), some (.ref R), some (.int zc), some (.int k), some (.ref D), y11] ∧ Same H3 H4 ∧ H4 D = some (.lst (iL ss)) ∧ ss.length = j ∧ ∀ s ∈ ss, OkSign n s) ⟨_, y5, [], rfl, keepN hD, upd_same, rfl, fun _ h => nomatch h⟩ ?_ ?_
      · rintro j σ H4 hj ⟨z2, y5, ss, rfl, s4, hD4, hss, hok⟩
        have hn0 : 0 < n := by
          rcases Nat.eq_zero_or_pos n with e | e
          · have := hk0 e
            omega
          · exact e
        refine ⟨_, rfl, .inl ⟨rfl, _, .of hD4⟩, ?_⟩
        refine ⟨1, rfl, by show 2 ≤ sizeLine; decide, fun t ht => ?_⟩
        have ne : D ≠ t := ne_of_none hD4 ht
        refine ⟨_, rfl, _, rfl, _, _, rfl, rfl, ⟨by omega, by omega⟩, _, 2, rfl, rfl, by show (0 : Int) < 2; decide, ?_⟩
        have hsg : ∃ g : Int, (g = 1 ∨ g = -1) ∧ atI [V.int 1, V.int (-1)] (z2 / (n : Int) % 2) = some (.int g) := by
          rcases (by omega : z2 / (n : Int) % 2 = 0 ∨ z2 / (n : Int) % 2 = 1) with e | e
          · exact ⟨1, .inl rfl, by rw [e]; exact atI_nat (j := 0) rfl⟩
          · exact ⟨-1, .inr rfl, by rw [e]; exact atI_nat (j := 1) rfl⟩
        obtain ⟨g2, hg1, hg2⟩ := hsg
        refine ⟨t, _, _, _, rfl, rfl, .of upd_same, hg2, ?_⟩
        refine ⟨_, rfl, _, rfl, _, _, rfl, rfl, by show (0 : Int) < n; omega, 1, _, rfl, rfl, g2, _, rfl, rfl, .inl (by rcases hg1 with e | e <;> rw [e] <;> decide), ?_⟩
        have hsn : OkSign n (g2 * (1 + z2 % (n : Int))) := by
          have h1 : 0 ≤ z2 % (n : Int) := Int.emod_nonneg _ (by omega)
          have h2 : z2 % (n : Int) < n := Int.emod_lt_of_pos _ (by omega)
          unfold OkSign
          rcases hg1 with e | e <;> rw [e] <;> omega
        refine ⟨D, iL ss, _, rfl, rfl, by rw [upd_ne ne]; exact hD4, by rw [iL_len]; exact sz (by omega), ?_⟩
        refine ⟨_, rfl, _, rfl, 2, n, rfl, rfl, .inl ⟨by decide, by decide⟩, _, _, rfl, rfl, ⟨by show (0 : Int) < 2 * (n : Int); omega, by show (2 : Int) * (n : Int) < 1073741824; omega⟩, ?_⟩
        refine ⟨_, _, ss ++ [g2 * (1 + z2 % (n : Int))], rfl, keepU (keepT s4 ht) hD, ?_, ?_, ?_⟩
        · rw [upd_same, iL_snoc]
        · rw [List.length_append, hss]
          rfl
        · intro s hs
          rcases List.mem_append.mp hs with c | c
          · exact hok s c
          · rw [List.mem_singleton.mp c]
            exact hsn
      · rintro σ H4 ⟨z2, y5, ss, rfl, s4, hD4, hss, hok⟩
        have hT4 : H4 T2 = some (.lst (bs.map V.bl)) := s4 _ _ (g.same _ _ hT)
        refine ⟨fun σ' H' => ∃ ss y11, σ' = [some (.ref a), some (.int 8), some (.int z2), some (.int n), some (.bl pl), y5, some (.ref T2), some (.ref R), some (.int zc), some (.int k), some (.ref D), y11] ∧ Same H3 H' ∧ H' D = some (.lst (iL ss)) ∧ ss.length = k ∧ ∀ s ∈ ss, OkSign n s, ?_, ?_⟩
        · refine ⟨_, rfl, pl, rfl, ite2 (fun c => ?_) (fun c => ?_)⟩
          · refine ⟨_, rfl, _, 0, rfl, rfl, _, rfl, ite2 (fun c2 => ?_) (fun c2 => ?_)⟩
            · have hk : 0 < k := by
                have := of_decide_eq_true c2
                omega
              refine ⟨_, rfl, _, rfl, _, _, rfl, rfl, by show (0 : Int) < k; omega, ?_⟩
              have b1 : 0 ≤ z2 % (k : Int) := Int.emod_nonneg _ (by omega)
              have b2 : z2 % (k : Int) < k := Int.emod_lt_of_pos _ (by omega)
              obtain ⟨e, he⟩ : ∃ e : Nat, z2 % (k : Int) = e := ⟨(z2 % (k : Int)).toNat, by omega⟩
              have hel : e < ss.length := by omega
              have hse : OkSign n (ss.getD e 0) := hok _ (List.mem_of_getElem? (getD_get hel))
              obtain ⟨ok1, ok2⟩ := absI_ok hse
              have hidx : atI (iL ss) (z2 % (k : Int)) = some (.int (ss.getD e 0)) := by
                rw [he]
                exact atI_nat (iL_getD hel)
              have hixn : ixN (iL ss).length (z2 % (k : Int)) = some e := by
                rw [he]
                rw [iL_len]
                unfold ixN
                rw [if_pos (by omega), if_pos (by omega), Int.toNat_natCast]
              have hset : ∀ v : Int, OkSign n v → ∀ s ∈ ss.set e v, OkSign n s := fun v hv s hs => by
                rcases List.mem_or_eq_of_mem_set hs with c | c
                · exact hok s c
                · rw [c]
                  exact hv
              refine ⟨_, rfl, _, rfl, _, rfl, D, _, _, _, rfl, rfl, .of hD4, hidx, _, rfl, _, 1, rfl, rfl, T2, _, _, .bl (bs.getD (nameOf (ss.getD e 0)) false), rfl, rfl, .of hT4, ?_, _, rfl, ite2 (fun c3 => ?_) (fun c3 => ?_)⟩
              · rw [abs_name hse]
                exact atI_nat (bl_get (by rw [hb]; exact nameOf_lt hse))
              · refine ⟨_, rfl, _, rfl, D, _, _, _, rfl, rfl, .of hD4, hidx, _, rfl, ?_⟩
                refine ⟨_, rfl, _, rfl, D, _, _, e, rfl, rfl, hD4, ?_, ss.set e _, _, rfl, keepU s4 hD, ?_, ?_, hset _ ok1⟩
                · exact hixn
                · rw [upd_same, iL_set]
                · rw [List.length_set]
                  exact hss
              · refine ⟨_, rfl, _, rfl, D, _, _, _, rfl, rfl, .of hD4, hidx, _, rfl, _, rfl, ?_⟩
                refine ⟨_, rfl, _, rfl, D, _, _, e, rfl, rfl, hD4, ?_, ss.set e _, _, rfl, keepU s4 hD, ?_, ?_, hset _ ok2⟩
                · exact hixn
                · rw [upd_same, iL_set]
                · rw [List.length_set]
                  exact hss
            · exact ⟨ss, y11, rfl, s4, hD4, hss, hok⟩
          · exact iteF ⟨ss, y11, rfl, s4, hD4, hss, hok⟩
        clear hD4 hss hok s4 ss hT4
        rintro σ' H5 ⟨ss, y11, rfl, s5, hD5, hss, hok⟩
        have hp5 : H5 p = some (.lst (iL ms)) := s5 _ _ hp3
        have g5 : RGrow n H2 H5 R i := g.more s5
        have hpR : p ≠ R := fun z => by
          rw [z, upd_same] at hp
          cases hp
        refine ⟨_, rfl, _, 0, rfl, rfl, _, rfl, ite2 (fun c => ?_) (fun c => ?_)⟩
        · refine iteT ?_
          obtain ⟨rk, k1, _⟩ := g5.ex
          refine ⟨_, rfl, .inl ⟨rfl, _, .of k1⟩, _, rfl, D, _, rfl, .inl ⟨.of hD5, fun t ht => ?_⟩⟩
          obtain ⟨acc, a1, a2, a3⟩ := (g5.more (keepN (o := .tup (iL ss)) ht)).push (t := t) (ss := ss) hR upd_same (by omega) (by omega) hok
          refine ⟨R, acc, _, rfl, rfl, a1, a2, _, _, _, _, _, _, rfl, ?_, a3⟩
          have hpt : upd H5 t (.tup (iL ss)) p = some (.lst (iL ms)) := keepN ht _ _ hp5
          rw [upd_ne (fun z => hpR z)]
          exact hpt
        · refine ⟨_, rfl, pl, rfl, ite2 (fun c4 => ?_) (fun c4 => ?_)⟩
          · obtain ⟨rk, k1, _⟩ := g5.ex
            refine ⟨_, rfl, .inl ⟨rfl, _, .of k1⟩, _, rfl, D, _, rfl, .inl ⟨.of hD5, fun t ht => ?_⟩⟩
            obtain ⟨acc, a1, a2, a3⟩ := (g5.more (keepN (o := .tup (iL ss)) ht)).push (t := t) (ss := ss) hR upd_same (by omega) (by omega) hok
            refine ⟨R, acc, _, rfl, rfl, a1, a2, _, _, _, _, _, _, rfl, ?_, a3⟩
            have hpt : upd H5 t (.tup (iL ss)) p = some (.lst (iL ms)) := keepN ht _ _ hp5
            rw [upd_ne (fun z => hpR z)]
            exact hpt
          · exact ⟨_, _, _, _, _, _, rfl, hp5, g5.up⟩
    · rintro σ H3 ⟨z, y5, y8, y9, y10, y11, rfl, hp3, g⟩
      refine ⟨_, rfl, _, rfl, _, rfl, by show 3 ≤ sizeLine; decide, fun r hr0 => ?_⟩
      obtain ⟨rk, k1, k2, k3⟩ := g.ex
      rw [iL_len] at k2
      have s9 : Same H3 (upd H3 r (.tup [.int (n : Nat), .ref R, .ref T2])) := keepN hr0
      subst hb
      refine q _ r R T2 bs (rk.map (·.2)) (keepT (s2.trans g.same) hr0) upd_same hn ⟨rk, .of (s9 _ _ k1), rfl, fun x hx => .of (s9 _ _ (k3 x hx).1)⟩ ?_ ?_ (s9 _ _ (g.same _ _ hT))
      · rw [List.length_map]
        omega
      · intro row hrow
        obtain ⟨x, hx, rfl⟩ := List.mem_map.mp hrow
        exact (k3 x hx).2
end
end Hm
set_option Elab.async false
set_option linter.all false
set_option maxRecDepth 100000
set_option maxHeartbeats 8000000
namespace Hm
open PySem PySem.Spec PyProof.Rows L2
/-! ### the ways are there -/
def WayR (n : Nat) (rows : List (List Int)) (a b : Nat) : Prop := natP a b ∈ wayL n rows
theorem way_street {n : Nat} {rows : List (List Int)} {k : Nat} (hk : k < n) {q : Int × Int} (h : q ∈ swL n rows.length k) : q ∈ wayL n rows :=
  List.mem_append.mpr (.inl (List.mem_flatMap.mpr ⟨k, List.mem_range.mpr hk, h⟩))
theorem way_row {n : Nat} {rows : List (List Int)} {j : Nat} (hj : j < rows.length) {s : Int} (hs : s ∈ rows.getD j []) {q : Int × Int}
    (h : q = ((detI rows.length j s).1, ((n * (3 * rows.length + 2) + j : Nat) : Int)) ∨ q = (((n * (3 * rows.length + 2) + j : Nat) : Int), (detI rows.length j s).2)) : q ∈ wayL n rows := by
  refine List.mem_append.mpr (.inr (List.mem_flatMap.mpr ⟨j, List.mem_range.mpr hj, List.mem_flatMap.mpr ⟨s, hs, ?_⟩⟩))
  rcases h with h | h
  · rw [h]
    exact List.mem_cons_self
  · rw [h]
    exact List.mem_cons_of_mem _ List.mem_cons_self
theorem up_mem {m k t : Nat} (h : t < 3 * m) : natP (strN m k t) (strN m k (t + 1)) ∈ upsL m k (3 * m) := List.mem_flatMap.mpr ⟨t, List.mem_range.mpr h, List.mem_cons_self⟩
theorem dn_mem {m k t : Nat} (h : t < 3 * m) : natP (strN m k (t + 1)) (strN m k t) ∈ upsL m k (3 * m) := List.mem_flatMap.mpr ⟨t, List.mem_range.mpr h, List.mem_cons_of_mem _ List.mem_cons_self⟩
theorem ways_ok {n : Nat} {rows : List (List Int)} {bs : List Bool} (hold : holdB rows bs = true) : Ways n rows.length (tauF bs) (kapF bs rows) (WayR n rows) where
  g0 := fun k hk => way_street hk (List.mem_append.mpr (.inl (List.mem_flatMap.mpr ⟨_, List.mem_cons_self, List.mem_cons_self⟩)))
  g1 := fun k hk => way_street hk (List.mem_append.mpr (.inl (List.mem_flatMap.mpr ⟨_, List.mem_cons_of_mem _ List.mem_cons_self, List.mem_cons_self⟩)))
  e0 := fun k hk => way_street hk (List.mem_append.mpr (.inl (List.mem_flatMap.mpr ⟨_, List.mem_cons_self, List.mem_cons_of_mem _ List.mem_cons_self⟩)))
  e1 := fun k hk => way_street hk (List.mem_append.mpr (.inl (List.mem_flatMap.mpr ⟨_, List.mem_cons_of_mem _ List.mem_cons_self, List.mem_cons_of_mem _ List.mem_cons_self⟩)))
  up := fun k t hk ht => way_street hk (List.mem_append.mpr (.inr (up_mem ht)))
  dn := fun k t hk ht => way_street hk (List.mem_append.mpr (.inr (dn_mem ht)))
  ou := fun j hj => by
    obtain ⟨f1, f2, _⟩ := first_mem (bs := bs) (row := rows.getD j []) (List.all_eq_true.mp hold _ (by
      rw [List.getD_eq_getElem?_getD, List.getElem?_eq_getElem hj]
      exact List.getElem_mem hj))
    refine way_row hj f1 (.inl ?_)
    rw [det_right f2]
    rfl
  ba := fun j hj => by
    obtain ⟨f1, f2, _⟩ := first_mem (bs := bs) (row := rows.getD j []) (List.all_eq_true.mp hold _ (by
      rw [List.getD_eq_getElem?_getD, List.getElem?_eq_getElem hj]
      exact List.getElem_mem hj))
    refine way_row hj f1 (.inr ?_)
    rw [det_right f2]
    rfl
theorem kap_lt {n : Nat} {rows : List (List Int)} {bs : List Bool} (ok : OkRows n rows) (hold : holdB rows bs = true) : ∀ j, j < rows.length → kapF bs rows j < n := fun j hj => by
  have hm : rows.getD j [] ∈ rows := by
    rw [List.getD_eq_getElem?_getD, List.getElem?_eq_getElem hj]
    exact List.getElem_mem hj
  obtain ⟨f1, _, _⟩ := first_mem (bs := bs) (row := rows.getD j []) (List.all_eq_true.mp hold _ hm)
  exact nameOf_lt ((ok.2 _ hm).2 _ f1)
theorem flat_len {β : Type} (f : Nat → List β) (c : Nat) (h : ∀ i, (f i).length = c) : ∀ n, ((List.range n).flatMap f).length = n * c
  | 0 => by simp
  | n + 1 => by
    rw [flat_succ, List.length_append, flat_len f c h n, h, Nat.add_mul, Nat.one_mul]
theorem rowsW_len {m N0 : Nat} {rows : List (List Int)} (h : ∀ row ∈ rows, row.length ≤ 4) : ∀ i, (rowsW m N0 rows i).length ≤ i * 8
  | 0 => Nat.le_refl _
  | i + 1 => by
    rw [rowsW_succ, List.length_append, rowW_len]
    have h1 := rowsW_len (m := m) (N0 := N0) h i
    have h2 : (rows.getD i []).length ≤ 4 := by
      rw [List.getD_eq_getElem?_getD]
      cases e : rows[i]? with
      | none => exact Nat.zero_le _
      | some r => exact h r (List.mem_of_getElem? e)
    omega
theorem wayL_len {n : Nat} {rows : List (List Int)} (hn : n ≤ 10) (hm : rows.length ≤ 8) (h : ∀ row ∈ rows, row.length ≤ 4) : (wayL n rows).length ≤ 1200 := by
  unfold wayL
  rw [List.length_append, flat_len _ (4 + 6 * rows.length) (fun i => swL_len n rows.length i)]
  have h1 := rowsW_len (m := rows.length) (N0 := n * (3 * rows.length + 2)) h rows.length
  have h2 : n * (4 + 6 * rows.length) ≤ 10 * (4 + 6 * 8) := Nat.mul_le_mul hn (by omega)
  omega
/-! ### steps -/
theorem steps_cyc {l : List Nat} {R : Nat → Nat → Prop} (h : Cyc R l) {st : Int × Int} (hs : st ∈ stepsI (natI l)) : ∃ x y, x ∈ l ∧ y ∈ l ∧ R x y ∧ st = natP x y := by
  unfold stepsI at hs
  obtain ⟨k, hk, rfl⟩ := List.mem_map.mp hs
  rw [natI_len, List.mem_range] at hk
  have e1 := natD_get (prevIx_lt hk)
  have e2 := natD_get hk
  refine ⟨_, _, List.mem_of_getElem? e1, List.mem_of_getElem? e2, h k _ _ e1 e2, ?_⟩
  unfold natP
  rw [natI_len, List.getD_eq_getElem?_getD, List.getD_eq_getElem?_getD (l := natI l), natI_at e1, natI_at e2]
  rfl
theorem steps_way {n : Nat} {rows : List (List Int)} {l : List Nat} (h : Cyc (WayR n rows) l) : ∀ st ∈ stepsI (natI l), st ∈ wayL n rows := fun st hs => by
  obtain ⟨x, y, _, _, hr, rfl⟩ := steps_cyc h hs
  exact hr
theorem tri_mend {N : Nat} {qs : List (Int × Int)} {R : Nat → Nat → Prop} (hR : ∀ a b, R a b → natP a b ∈ qs) {x y : Nat} (hx : x < 3 * N) (h : TriR R x y) : eitherI (natP x y) ∈ mendL N qs := by
  unfold mendL
  rcases h with ⟨t, rfl, rfl⟩ | ⟨t, rfl, rfl⟩ | ⟨u, v, rfl, rfl, hr⟩
  · refine List.mem_append.mpr (.inl (List.mem_flatMap.mpr ⟨t, List.mem_range.mpr (by omega), ?_⟩))
    have e : eitherI (natP (3 * t) (3 * t + 1)) = natP (3 * t) (3 * t + 1) := by
      unfold eitherI natP
      rw [if_pos (by show ((3 * t : Nat) : Int) < ((3 * t + 1 : Nat) : Int); omega)]
    rw [e]
    exact List.mem_cons_self
  · refine List.mem_append.mpr (.inl (List.mem_flatMap.mpr ⟨t, List.mem_range.mpr (by omega), ?_⟩))
    have e : eitherI (natP (3 * t + 1) (3 * t + 2)) = natP (3 * t + 1) (3 * t + 2) := by
      unfold eitherI natP
      rw [if_pos (by show ((3 * t + 1 : Nat) : Int) < ((3 * t + 2 : Nat) : Int); omega)]
    rw [e]
    exact List.mem_cons_of_mem _ List.mem_cons_self
  · refine List.mem_append.mpr (.inr (List.mem_map.mpr ⟨natP u v, hR _ _ hr, ?_⟩))
    unfold mendQ natP
    simp only [Int.natCast_add, Int.natCast_mul]
    rfl
theorem either_swap (a b : Int) : eitherI (a, b) = eitherI (b, a) := by
  unfold eitherI
  show (if a < b then (a, b) else (b, a)) = if b < a then (b, a) else (a, b)
  by_cases c : a < b
  · rw [if_pos c, if_neg (by omega)]
  · rw [if_neg c]
    by_cases d : b < a
    · rw [if_pos d]
    · rw [if_neg d]
      have e : a = b := by omega
      rw [e]
/-- the ring's list, turned -/
theorem steps_mend {N : Nat} {qs : List (Int × Int)} {R : Nat → Nat → Prop} (hR : ∀ a b, R a b → natP a b ∈ qs) {l : List Nat} (hp : l.Perm (List.range (3 * N))) (h : Cyc (TriR R) l ∨ Cyc (fun x y => TriR R y x) l) :
    ∀ st ∈ stepsI (natI l), eitherI st ∈ mendL N qs := fun st hs => by
  rcases h with h | h
  · obtain ⟨x, y, hx, _, hr, rfl⟩ := steps_cyc h hs
    exact tri_mend hR (List.mem_range.mp (hp.mem_iff.mp hx)) hr
  · obtain ⟨x, y, _, hy, hr, rfl⟩ := steps_cyc h hs
    unfold natP
    rw [either_swap]
    exact tri_mend hR (List.mem_range.mp (hp.mem_iff.mp hy)) hr
/-! ### back_mending tells the walk, turned -/
theorem line_turn {g : Int → Nat} {l : List Nat} (T : Turn g l) (hl : 0 < l.length) (i : Int) : lineOf l i = g i := by
  have b1 : 0 ≤ i % (l.length : Int) := Int.emod_nonneg _ (by omega)
  have b2 : i % (l.length : Int) < l.length := Int.emod_lt_of_pos _ (by omega)
  unfold lineOf
  rw [List.getD_eq_getElem?_getD, T.at_ _ (by omega)]
  show g (((i % (l.length : Int)).toNat : Nat) : Int) = g i
  rw [Int.toNat_of_nonneg b1, T.mod]
theorem tri_filter (w : Int → Nat) (q : Int) : ∀ N : Nat, (((List.range (3 * N)).map fun k : Nat => triF w (3 * q + 1 + (k : Int))).filter mid3).map (fun t => t / 3) = (List.range N).map fun i : Nat => w (q + (i : Int))
  | 0 => rfl
  | N + 1 => by
    have e : 3 * (N + 1) = 3 * N + 1 + 1 + 1 := by omega
    have t0 : triF w (3 * q + 1 + ((3 * N : Nat) : Int)) = 3 * w (q + N) + 1 := by
      have h := triF_at w (q + N) 1 (by omega)
      rw [← h]
      congr 1
      omega
    have t1 : triF w (3 * q + 1 + ((3 * N + 1 : Nat) : Int)) = 3 * w (q + N) + 2 := by
      have h := triF_at w (q + N) 2 (by omega)
      rw [← h]
      congr 1
      omega
    have t2 : triF w (3 * q + 1 + ((3 * N + 1 + 1 : Nat) : Int)) = 3 * w (q + N + 1) := by
      have h := triF_at w (q + N + 1) 0 (by omega)
      rw [Nat.add_zero] at h
      rw [← h]
      congr 1
      omega
    rw [e, List.range_succ, List.range_succ, List.range_succ, List.map_append, List.map_append, List.map_append, List.filter_append, List.filter_append, List.filter_append, List.map_append, List.map_append, List.map_append, tri_filter w q N, List.range_succ, List.map_append]
    simp only [List.map_cons, List.map_nil]
    rw [t0, t1, t2]
    have m0 : mid3 (3 * w (q + N) + 1) = true := by
      unfold mid3
      rw [beq_iff_eq]
      omega
    have m1 : mid3 (3 * w (q + N) + 2) = false := by
      unfold mid3
      rw [beq_eq_false_iff_ne]
      omega
    have m2 : mid3 (3 * w (q + N + 1)) = false := by
      unfold mid3
      rw [beq_eq_false_iff_ne]
      omega
    have d0 : (3 * w (q + N) + 1) / 3 = w (q + N) := by omega
    simp [List.filter_cons, m0, m1, m2, d0]
theorem triF_mod (w : Int → Nat) (i : Int) : triF w i % 3 = (i % 3).toNat := by
  unfold triF
  omega
theorem back_tri {w : Int → Nat} {l : List Nat} {N : Nat} (hl : l.length = 3 * N) {c : Int} (h : Turn (fun i => triF w (i + c)) l ∨ Turn (fun i => triF w (c - i)) l) :
    ∃ q : Int, backM l = (List.range N).map fun i : Nat => w (q + (i : Int)) := by
  rcases Nat.eq_zero_or_pos N with hN | hN
  · subst hN
    refine ⟨0, ?_⟩
    have e : l = [] := List.length_eq_zero_iff.mp (by omega)
    subst e
    rfl
  have hl0 : 0 < l.length := by omega
  have ne : midsN l ≠ [] := by
    obtain ⟨k, hk3, hk⟩ : ∃ k : Nat, k < 3 ∧ midB l k = true := by
      rcases h with T | T
      · refine ⟨((1 - c) % 3).toNat, by omega, ?_⟩
        unfold midB
        rw [List.getD_eq_getElem?_getD, T.at_ _ (by omega)]
        show (triF w ((((1 - c) % 3).toNat : Nat) + c) % 3 == 1) = true
        rw [triF_mod, beq_iff_eq]
        omega
      · refine ⟨((c - 1) % 3).toNat, by omega, ?_⟩
        unfold midB
        rw [List.getD_eq_getElem?_getD, T.at_ _ (by omega)]
        show (triF w (c - (((c - 1) % 3).toNat : Nat)) % 3 == 1) = true
        rw [triF_mod, beq_iff_eq]
        omega
    intro z
    have hm : k ∈ midsN l := List.mem_filter.mpr ⟨List.mem_range.mpr (by omega), hk⟩
    rw [z] at hm
    exact nomatch hm
  unfold backM
  cases hmid : midsN l with
  | nil => exact absurd hmid ne
  | cons f r =>
    have hf : f ∈ midsN l := by
      rw [hmid]
      exact List.mem_cons_self
    obtain ⟨f1, f2⟩ := List.mem_filter.mp hf
    have hfl := List.mem_range.mp f1
    have hmod : (f + 1) % l.length < l.length := Nat.mod_lt _ hl0
    rcases h with T | T
    · have ef : l.getD f 0 = triF w ((f : Int) + c) := by
        rw [List.getD_eq_getElem?_getD, T.at_ _ hfl]
        rfl
      unfold midB at f2
      rw [ef, triF_mod, beq_iff_eq] at f2
      have hq : (f : Int) + c = 3 * (((f : Int) + c) / 3) + 1 := by omega
      generalize ((f : Int) + c) / 3 = q at hq
      have en : l.getD ((f + 1) % l.length) 0 = triF w ((f : Int) + 1 + c) := by
        rw [List.getD_eq_getElem?_getD, T.at_ _ hmod]
        have hm := T.mod ((f : Int) + 1)
        rw [show ((((f + 1) % l.length : Nat)) : Int) = ((f : Int) + 1) % (l.length : Int) from by rw [Int.natCast_emod]; rfl]
        exact hm
      have hs : stepN l f = 1 := by
        unfold stepN
        rw [if_pos]
        rw [en, ef]
        have a1 := triF_at w q 1 (by omega)
        have a2 := triF_at w q 2 (by omega)
        have b1 : (f : Int) + c = 3 * q + ((1 : Nat) : Int) := by omega
        have b2 : (f : Int) + 1 + c = 3 * q + ((2 : Nat) : Int) := by omega
        rw [b1, b2, a1, a2]
      refine ⟨q, ?_⟩
      have hr : rowN l f = (List.range (3 * N)).map fun k : Nat => triF w (3 * q + 1 + (k : Int)) := by
        unfold rowN
        rw [hl]
        refine List.map_congr_left fun k _ => ?_
        rw [hs, line_turn T hl0]
        show triF w ((f : Int) + 1 * (k : Int) + c) = _
        congr 1
        omega
      show ((rowN l f).filter mid3).map (fun t => t / 3) = _
      rw [hr]
      exact tri_filter w q N
    · have ef : l.getD f 0 = triF w (c - (f : Int)) := by
        rw [List.getD_eq_getElem?_getD, T.at_ _ hfl]
        rfl
      unfold midB at f2
      rw [ef, triF_mod, beq_iff_eq] at f2
      have hq : c - (f : Int) = 3 * ((c - (f : Int)) / 3) + 1 := by omega
      generalize (c - (f : Int)) / 3 = q at hq
      have en : l.getD ((f + 1) % l.length) 0 = triF w (c - ((f : Int) + 1)) := by
        rw [List.getD_eq_getElem?_getD, T.at_ _ hmod]
        have hm := T.mod ((f : Int) + 1)
        rw [show ((((f + 1) % l.length : Nat)) : Int) = ((f : Int) + 1) % (l.length : Int) from by rw [Int.natCast_emod]; rfl]
        exact hm
      have hs : stepN l f = -1 := by
        unfold stepN
        rw [if_neg]
        rw [en, ef]
        have a1 := triF_at w q 1 (by omega)
        have a2 := triF_at w q 0 (by omega)
        have b1 : c - (f : Int) = 3 * q + ((1 : Nat) : Int) := by omega
        have b2 : c - ((f : Int) + 1) = 3 * q + ((0 : Nat) : Int) := by omega
        rw [b1, b2, a1, a2]
        omega
      refine ⟨q, ?_⟩
      have hr : rowN l f = (List.range (3 * N)).map fun k : Nat => triF w (3 * q + 1 + (k : Int)) := by
        unfold rowN
        rw [hl]
        refine List.map_congr_left fun k _ => ?_
        rw [hs, line_turn T hl0]
        show triF w (c - ((f : Int) + -1 * (k : Int))) = _
        congr 1
        omega
      show ((rowN l f).filter mid3).map (fun t => t / 3) = _
      rw [hr]
      exact tri_filter w q N
/-- the list begun elsewhere -/
theorem rot_of {w : Int → Nat} {l : List Nat} (T : Turn w l) (q : Int) : ∃ r, r ≤ l.length ∧ ((List.range l.length).map fun i : Nat => w (q + (i : Int))) = l.drop r ++ l.take r := by
  rcases Nat.eq_zero_or_pos l.length with h0 | h0
  · refine ⟨0, Nat.zero_le _, ?_⟩
    have e : l = [] := List.length_eq_zero_iff.mp h0
    subst e
    rfl
  have b1 : 0 ≤ q % (l.length : Int) := Int.emod_nonneg _ (by omega)
  have b2 : q % (l.length : Int) < l.length := Int.emod_lt_of_pos _ (by omega)
  refine ⟨(q % (l.length : Int)).toNat, by omega, ?_⟩
  have hr : (q % (l.length : Int)).toNat ≤ l.length := by omega
  have T2 := turn_rot T hr
  have hlen : (l.drop (q % (l.length : Int)).toNat ++ l.take (q % (l.length : Int)).toNat).length = l.length := by
    rw [List.length_append, List.length_drop, List.length_take]
    omega
  apply List.ext_getElem?
  intro i
  by_cases hi : i < l.length
  · rw [List.getElem?_map, List.getElem?_range hi, T2.at_ _ (by rw [hlen]; exact hi)]
    show some (w (q + (i : Int))) = some (w ((i : Int) + ((q % (l.length : Int)).toNat : Nat)))
    rw [Int.toNat_of_nonneg b1, ← T.mod (q + (i : Int)), ← T.mod ((i : Int) + q % (l.length : Int)), Int.add_emod_emod, Int.add_comm q]
  · rw [List.getElem?_eq_none (by simpa using hi), List.getElem?_eq_none (by rw [hlen]; omega)]
theorem rot_perm {α : Type} (l : List α) (r : Nat) : (l.drop r ++ l.take r).Perm l := by
  refine List.perm_append_comm.trans ?_
  rw [List.take_append_drop]
/-- two that follow one another on the line do so in the list -/
theorem pair_at {g : Int → Nat} {l : List Nat} (T : Turn g l) (hl : 0 < l.length) {z : Int} {a b : Nat} (ha : g z = a) (hb : g (z + 1) = b) : ∃ i, l[prevIx l.length i]? = some a ∧ l[i]? = some b := by
  apply Classical.byContradiction
  intro no
  have c : Cyc (fun x y => ¬(x = a ∧ y = b)) l := fun k x y hx hy => fun ⟨e1, e2⟩ => no ⟨k, by rw [hx, e1], by rw [hy, e2]⟩
  exact line_of_cyc T c hl z ⟨ha, hb⟩
end Hm
set_option Elab.async false
set_option linter.all false
set_option maxRecDepth 100000
set_option maxHeartbeats 8000000
namespace Hm
open PySem PySem.Spec PyProof.Rows L2
theorem cyc_nil {R : Nat → Nat → Prop} {l : List Nat} (h : l.length = 0) : Cyc R l := fun k x y _ hy => by
  have := (List.getElem?_eq_some_iff.mp hy).1
  omega
def rotL (l : List Nat) (r : Nat) : List Nat := l.drop r ++ l.take r
def turnL (l : List Nat) (r : Nat) (rev : Bool) : List Nat := if rev = true then (rotL l r).reverse else rotL l r
theorem rotL_len (l : List Nat) (r : Nat) : (rotL l r).length = l.length := (rot_perm l r).length_eq
theorem turnL_perm (l : List Nat) (r : Nat) (rev : Bool) : (turnL l r rev).Perm l := by
  unfold turnL
  split
  · exact (List.reverse_perm _).trans (rot_perm l r)
  · exact rot_perm l r
theorem rot_cyc {R : Nat → Nat → Prop} {l : List Nat} (h : Cyc R l) {r : Nat} (hr : r ≤ l.length) : Cyc R (rotL l r) := by
  rcases Nat.eq_zero_or_pos l.length with h0 | h0
  · exact cyc_nil (by rw [rotL_len]; exact h0)
  · have T := turn_line l
    exact cyc_of_line (turn_rot T hr) (line_rot (line_of_cyc T h h0) _)
theorem rot_pair {l : List Nat} {r i a b : Nat} (hr : r ≤ l.length) (ha : l[i]? = some a) (hb : l[i + 1]? = some b) : ∃ i, (rotL l r)[prevIx (rotL l r).length i]? = some a ∧ (rotL l r)[i]? = some b := by
  have hi : i + 1 < l.length := (List.getElem?_eq_some_iff.mp hb).1
  have T := turn_line l
  refine pair_at (turn_rot T hr) (by have := rotL_len l r; unfold rotL at this; omega) (z := (i : Int) - r) ?_ ?_
  · show lineOf l ((i : Int) - r + r) = a
    rw [Int.sub_add_cancel]
    exact Option.some.inj ((T.at_ i (by omega)).symm.trans ha)
  · show lineOf l ((i : Int) - r + 1 + r) = b
    have e : (i : Int) - r + 1 + r = ((i + 1 : Nat) : Int) := by omega
    rw [e]
    exact Option.some.inj ((T.at_ _ hi).symm.trans hb)
theorem turn_forms {W : List Nat} {r : Nat} (hr : r ≤ (ringN W).length) (rev : Bool) :
    ∃ c : Int, Turn (fun i => triF (lineOf W) (i + c)) (turnL (ringN W) r rev) ∨ Turn (fun i => triF (lineOf W) (c - i)) (turnL (ringN W) r rev) := by
  have T2 := turn_rot (turn_tri (turn_line W)) hr
  unfold turnL
  cases rev with
  | false => exact ⟨r, .inl T2⟩
  | true =>
    refine ⟨(r : Int) - 1, .inr ?_⟩
    have T3 := turn_rev T2
    have e : (fun i : Int => triF (lineOf W) ((r : Int) - 1 - i)) = fun i => triF (lineOf W) (-1 - i + (r : Int)) := by
      funext i
      congr 1
      omega
    rw [e]
    exact T3
theorem turn_cyc {R : Nat → Nat → Prop} {W : List Nat} (h : Cyc R W) {r : Nat} (hr : r ≤ (ringN W).length) (rev : Bool) :
    Cyc (TriR R) (turnL (ringN W) r rev) ∨ Cyc (fun x y => TriR R y x) (turnL (ringN W) r rev) := by
  rcases Nat.eq_zero_or_pos W.length with h0 | h0
  · refine .inl (cyc_nil ?_)
    rw [(turnL_perm _ r rev).length_eq, ringN_len, h0]
  · have hl := line_tri (line_of_cyc (turn_line W) h h0)
    have T2 := turn_rot (turn_tri (turn_line W)) hr
    unfold turnL
    cases rev with
    | false => exact .inl (cyc_of_line T2 (line_rot hl _))
    | true => exact .inr (cyc_of_line (turn_rev T2) (line_rev (line_rot hl _) (-1)))
theorem told {W : List Nat} {r : Nat} (hr : r ≤ (ringN W).length) (rev : Bool) : ∃ r2, r2 ≤ W.length ∧ backM (turnL (ringN W) r rev) = rotL W r2 := by
  obtain ⟨c, h⟩ := turn_forms hr rev
  obtain ⟨q, e⟩ := back_tri (N := W.length) (by rw [(turnL_perm _ r rev).length_eq, ringN_len]) h
  obtain ⟨r2, h1, h2⟩ := rot_of (turn_line W) q
  exact ⟨r2, h1, by rw [e, h2]; rfl⟩
theorem turnL_false (l : List Nat) (r : Nat) : turnL l r false = rotL l r := rfl
theorem turnL_true (l : List Nat) (r : Nat) : turnL l r true = (rotL l r).reverse := rfl
theorem turnL_zero (l : List Nat) : turnL l 0 false = l := by
  show l.drop 0 ++ l.take 0 = l
  simp
/-! ### slices -/
theorem cut_from (l : List Nat) {a : Nat} (h : a ≤ l.length) : cutV (l.map natV) (some (a : Int)) none = (l.drop a).map natV := by
  unfold cutV
  rw [HT.sIx_nat, HT.sIx_none, List.length_map, List.map_drop, Nat.min_eq_left h]
  apply List.take_of_length_le
  rw [List.length_drop, List.length_map]
  omega
theorem cut_to (l : List Nat) {a : Nat} (h : a ≤ l.length) : cutV (l.map natV) none (some (a : Int)) = (l.take a).map natV := by
  unfold cutV
  rw [HT.sIx_nat, HT.sIx_none, List.length_map, List.map_take, Nat.min_eq_left h, List.drop_zero, Nat.sub_zero]
/-! ### what is found -/
def foundL (m : Nat) (bs : List Bool) : List Bool := (List.range bs.length).map fun k => decide (goN m (tauF bs) k 0 = strN m k 0)
theorem foundL_len (m : Nat) (bs : List Bool) : (foundL m bs).length = bs.length := by
  unfold foundL
  rw [List.length_map, List.length_range]
theorem found_eq {m : Nat} {bs : List Bool} (h : 0 < m) : foundL m bs = bs := by
  apply List.ext_getElem?
  intro i
  unfold foundL
  by_cases hi : i < bs.length
  · rw [List.getElem?_map, List.getElem?_range hi, List.getElem?_eq_getElem hi]
    have e : tauF bs i = bs[i] := by
      unfold tauF
      rw [List.getD_eq_getElem?_getD, List.getElem?_eq_getElem hi]
      rfl
    show some (decide (goN m (tauF bs) i 0 = strN m i 0)) = some bs[i]
    rw [← e]
    unfold goN
    cases tauF bs i with
    | true => simp
    | false =>
      simp
      omega
  · rw [List.getElem?_eq_none (by simpa using hi), List.getElem?_eq_none (by omega)]
theorem found_holds {rows : List (List Int)} {bs : List Bool} (h : holdB rows bs = true) : holdB rows (foundL rows.length bs) = true := by
  rcases Nat.eq_zero_or_pos rows.length with e | e
  · have : rows = [] := List.length_eq_zero_iff.mp e
    subst this
    rfl
  · rw [found_eq e]
    exact h
end Hm
set_option Elab.async false
set_option linter.all false
set_option maxRecDepth 100000
set_option maxHeartbeats 8000000
namespace Hm
open PySem PySem.Spec PyProof.Rows L2
def spLaw (K : PySem.W.Frag) : Sp := fun vs H Q _ => ∃ (a : Addr) (ns : List Int), vs = [.ref a] ∧ SqL K H a (ns.map V.int) ∧ ns.length ≤ 63 ∧ ∀ H', Q (.bl true) H'
theorem ok_law {P : Program} {w : World} {K : PySem.W.Frag} {mg : Str → Option Value} {base : Heap} {f : Addr} {fd : FuncData} (T : Tops K mg) (F : FnP K "law" sLaw f fd) : FnOk P w K mg base CX0 5 f fd ["_law_script"] (spLaw K) := by
  have Cc : Cl P w K mg base 3 "_law_clauses" (spLCl K) := ok_lCl T
  have Ch : Cl P w K mg base 2 "_law_hold" (spLHold K) := ok_lHold T
  have Cr : Cl P w K mg base 4 "_law_refused" (spLRef K) := ok_lRef T
  have C2 : Cl P w K mg base 3 "turn_walking" (spTWalk K) := ok_tWalk T
  have C3 : Cl P w K mg base 2 "turn_mending" (spTMend K) := ok_tMend T
  have C4 : Cl P w K mg base 1 "turn_pricing" (spTPrice K) := ok_tPrice T
  have Cw : Cl P w K mg base 3 "forth_walking" (spFWalk K) := ok_fWalk T
  have Cg : Cl P w K mg base 2 "_law_goes" (spLGoes K) := ok_lGoes T
  have Cm : Cl P w K mg base 3 "forth_mending" (spFMend K) := ok_fMend T
  have Cp : Cl P w K mg base 3 "forth_pricing" (spFPrice K) := ok_fPrice T
  have Cx : Cl P w K mg base 2 "_law_cheap" (spTHold K) := ok_lCheap T
  have Ca : Cl P w K mg base 2 "_law_at" (spLAt K) := ok_lAt T
  have Bp : Cl P w K mg base 4 "back_pricing" (spFPrice K) := ok_bPrice T
  have Bm : Cl P w K mg base 3 "back_mending" (spBMend K) := ok_bMend T
  have Bw : Cl P w K mg base 4 "back_walking" (spBWalk K) := ok_bWalk T
  refine F.ok scLaw (fun vs H Q E h => ?_) (fun cdv A outer s H vs Q E hr h => ?_)
  · obtain ⟨a, ns, rfl, _⟩ := h
    rfl
  · obtain ⟨a, ns, rfl, hS, hl, q⟩ := h
    refine ⟨_, PSs.nox (pss_cons (ps_asg (pe_k Cc hr (pa_cons (pv 0) (pa_cons pe_int pa_nil))) (pg_tup rfl (pgs_cons (pg_name (i := 1) scLaw.nd rfl (Or.inl rfl)) (pgs_cons (pg_name (i := 2) scLaw.nd rfl (Or.inl rfl)) (pgs_cons (pg_name (i := 3) scLaw.nd rfl (Or.inl rfl)) pgs_nil)))))
      (pss_cons (ps_set (i := 4) scLaw.nd rfl (.inl rfl) (pe_tup (pa_cons pe_str (pa_cons (pv 1) (pa_cons (pe_callTy call_list_of (by rfl) T.b_list (by decide +kernel) (pa_cons (pv 2) pa_nil)) pa_nil)))))
      (pss_cons (ps_if (pt_not (pt_val (pe_k Ch hr (pa_cons (pv 1) (pa_cons (pv 2) (pa_cons (pv 3) pa_nil)))))) (pss_one (ps_ret (pe_k Cr hr (pa_cons (pv 4) (pa_cons (pe_callTy call_list_of (by rfl) T.b_list (by decide +kernel) (pa_cons (pv 3) pa_nil)) pa_nil))))) pss_nil)
      (pss_cons (ps_set (i := 5) scLaw.nd rfl (.inl rfl) (pe_k C2 hr (pa_cons (pv 4) pa_nil)))
      (pss_cons (ps_set (i := 6) scLaw.nd rfl (.inl rfl) (pe_k C3 hr (pa_cons (pv 5) pa_nil)))
      (pss_cons (ps_set (i := 7) scLaw.nd rfl (.inl rfl) (pe_k C4 hr (pa_cons (pv 6) pa_nil)))
      (pss_cons (ps_set (i := 8) scLaw.nd rfl (.inl rfl) (pe_k Cw hr (pa_cons (pv 4) (pa_cons (pe_callTy call_list_of (by rfl) T.b_list (by decide +kernel) (pa_cons (pv 3) pa_nil)) pa_nil))))
      (pss_cons (ps_if (pt_not (pt_val (pe_k Cg hr (pa_cons (pv 5) (pa_cons (pv 8) (pa_cons pe_bl pa_nil)))))) pss_never pss_nil)
      (pss_cons (ps_set (i := 9) scLaw.nd rfl (.inl rfl) (pe_k Cm hr (pa_cons (pv 5) (pa_cons (pv 8) pa_nil))))
      (pss_cons (ps_if (pt_not (pt_val (pe_k Cg hr (pa_cons (pv 6) (pa_cons (pv 9) (pa_cons pe_bl pa_nil)))))) pss_never pss_nil)
      (pss_cons (ps_set (i := 10) scLaw.nd rfl (.inl rfl) (pe_k Cp hr (pa_cons (pv 6) (pa_cons (pv 9) pa_nil))))
      (pss_cons (ps_if (PW.pt (pw_or (pt_not (pt_val (pe_callB call_isi (by rfl) T.b_isinstance (by decide +kernel) (pa_cons (pv 10) (pa_cons (pe_bltn (v := .ty "list") (by rfl) T.b_list boot_list rfl) pa_nil)))))
        (pw_or1 (pt_not (pt_val (pe_k Cx hr (pa_cons (pv 7) (pa_cons (pv 10) pa_nil)))))))) pss_never pss_nil)
      (pss_cons (ps_set (i := 11) scLaw.nd rfl (.inl rfl) (pe_k Ca hr (pa_cons (pv 0) (pa_cons (pe_op op_fdiv (pe_callB call_len_seq (by rfl) T.b_len PySem.boot_len (pa_cons (pv 0) pa_nil)) pe_int) pa_nil))))
      (pss_cons (ps_set (i := 12) scLaw.nd rfl (.inl rfl) (pe_op op_mod (pv 11) (pe_callB (call_max2 rfl) (by rfl) T.b_max (by decide +kernel) (pa_cons pe_int (pa_cons (pe_callB call_len_seq (by rfl) T.b_len PySem.boot_len (pa_cons (pv 10) pa_nil)) pa_nil)))))
      (pss_cons (ps_set (i := 10) scLaw.nd rfl (.inl rfl) (pe_op op_cat (pe_slice sl_list (pv 10) (po_some (pv 12)) po_none) (pe_slice sl_list (pv 10) po_none (po_some (pv 12)))))
      (pss_cut (ps_if (pt_cmpR op_eq (pe_op op_mod (pe_op op_fdiv (pv 11) pe_int) pe_int) pe_int (nomark _)) (pss_one (ps_set (i := 10) scLaw.nd rfl (.inl rfl) (pe_revL (pv 10)))) pss_nil)
      (pss_cons (ps_set (i := 9) scLaw.nd rfl (.inl rfl) (pe_k Bp hr (pa_cons (pv 6) (pa_cons (pv 10) pa_nil))))
      (pss_cons (ps_if (pt_not (pt_val (pe_k Cg hr (pa_cons (pv 6) (pa_cons (pv 9) (pa_cons pe_bl pa_nil)))))) pss_never pss_nil)
      (pss_cons (ps_set (i := 8) scLaw.nd rfl (.inl rfl) (pe_k Bm hr (pa_cons (pv 5) (pa_cons (pv 9) pa_nil))))
      (pss_cons (ps_if (pt_not (pt_val (pe_k Cg hr (pa_cons (pv 5) (pa_cons (pv 8) (pa_cons pe_bl pa_nil)))))) pss_never pss_nil)
      (pss_cons (ps_set (i := 13) scLaw.nd rfl (.inl rfl) (pe_k Bw hr (pa_cons (pv 4) (pa_cons (pv 8) pa_nil))))
      (pss_cons (ps_if (PW.pt (pw_or (pt_not (pt_val (pe_callB call_isi (by rfl) T.b_isinstance (by decide +kernel) (pa_cons (pv 13) (pa_cons (pe_bltn (v := .ty "list") (by rfl) T.b_list boot_list rfl) pa_nil)))))
        (pw_or1 (pt_not (pt_val (pe_callB (cr_all rfl) (by rfl) T.b_all (by decide +kernel) (pa_cons (pe_lc (own := [("_law_one", 14)]) (g := gName 14) (tt := tYes) (by rfl) scLaw.nd (pi_list (pv 13))
          (blkOk_by (own := [("_law_one", 14)]) (N := nLaw) (sc := defScope sLaw) (by decide +kernel))
          (fun _ _ _ _ _ => pg_name (i := 14) scLaw.nd rfl (Or.inl rfl)) (fun _ _ _ _ _ => pts_nil)
          (fun _ _ _ _ _ => pe_callB (isiK K) (by rfl) T.b_isinstance (by decide +kernel) (pa_cons (pv 14) (pa_cons (pe_bltn (v := .ty "bool") (by rfl) T.b_bool boot_bool rfl) pa_nil)))) pa_nil))))))) pss_never pss_nil)
      (pss_one (ps_ret (pe_k Ch hr (pa_cons (pv 1) (pa_cons (pv 2) (pa_cons (pv 13) pa_nil)))))))))))))))))))))))))))), ?_⟩
    -- the clauses
    refine ⟨_, rfl, a, ns, rfl, hS, fun H1 p R T2 bs rows s1 hp hn hR hm hrow hT => ?_⟩
    refine ⟨p, _, rfl, .of hp, rfl, _, _, rfl, _, _, rfl, _, _, rfl, rfl, ?_⟩
    have ok : OkRows bs.length rows := ⟨by omega, fun row h => ⟨by have := (hrow row h).1; omega, (hrow row h).2⟩⟩
    obtain ⟨rk, k1, k2, k3⟩ := hR.ex
    refine ⟨_, rfl, _, rfl, R, _, rfl, .inl k1, fun l1 hl1 => ?_⟩
    refine ⟨by show 3 ≤ sizeLine; decide, fun fa hfa => ?_⟩
    have s3 : Same H1 (upd (upd H1 l1 (.lst (rowRefs rk))) fa (.tup [.str "clauses", .int bs.length, .ref l1])) := keepT (keepN hl1) hfa
    have cq : ClQ K (upd (upd H1 l1 (.lst (rowRefs rk))) fa (.tup [.str "clauses", .int bs.length, .ref l1])) fa bs.length rows :=
      ⟨"clauses", l1, .of upd_same, rk, .of (by rw [upd_ne (fun z => by rw [← z, upd_same] at hfa; cases hfa)]; exact upd_same), k2, fun x hx => sqt_same s3 (k3 x hx)⟩
    have hS3 := (s1.trans s3).seq hS
    have hR3 := hR.same s3
    have hT3 := s3 _ _ hT
    generalize upd (upd H1 l1 (.lst (rowRefs rk))) fa (.tup [.str "clauses", .int bs.length, .ref l1]) = H3 at cq hS3 hR3 hT3 ⊢
    clear s3 hp hfa hl1 k1 k2 k3 hR hT s1
    obtain ⟨N, hN⟩ : ∃ N, bs.length * (3 * rows.length + 2) + rows.length = N := ⟨_, rfl⟩
    have hNb : N ≤ 300 := by
      have h1 : bs.length * (3 * rows.length + 2) ≤ 10 * (3 * 8 + 2) := Nat.mul_le_mul hn (by omega)
      omega
    have hwl : (wayL bs.length rows).length ≤ 1200 := wayL_len hn hm fun row h => (hrow row h).1
    refine ⟨_, rfl, _, rfl, _, rfl, T2, R, bs, rows, rfl, .of hT3, by omega, hR3, ok, fun H4 s4 => ?_⟩
    refine ⟨_, rfl, ?_⟩
    cases hold : holdB rows bs with
    | false =>
      refine iteT ?_
      exact ⟨_, rfl, _, rfl, T2, _, rfl, .inl (.of (s4 _ _ hT3)), fun l5 h5 => ⟨fa, l5, bs, rows, rfl, upd_same, by omega, cq.same (keepT s4 h5), ok, hold, fun H6 _ => q _⟩⟩
    | true =>
    refine iteF ?_
    have wk := ways_ok (n := bs.length) hold
    have hcyc := walk_cyc wk
    have hperm := walk_perm (n := bs.length) (m := rows.length) (tau := tauF bs) (kap := kapF bs rows) (kap_lt ok hold)
    have hgate : ∀ k, k < bs.length → ∃ i, (walkN bs.length rows.length (tauF bs) (kapF bs rows))[i]? = some (gateN rows.length k) ∧ (walkN bs.length rows.length (tauF bs) (kapF bs rows))[i + 1]? = some (goN rows.length (tauF bs) k 0) := fun k hk => walk_gate hk
    rw [hN] at hperm
    obtain ⟨W, hWe⟩ : ∃ W, walkN bs.length rows.length (tauF bs) (kapF bs rows) = W := ⟨_, rfl⟩
    rw [hWe] at hcyc hperm hgate
    have hWl : W.length = N := by rw [hperm.length_eq, List.length_range]
    have hGl : (ringN W).length = 3 * N := by rw [ringN_len, hWl]
    have hGp := ring_perm hperm
    -- second, third, fourth
    refine ⟨_, rfl, fa, bs.length, rows, rfl, cq.same s4, ok, by omega, hwl, fun H5 p5 qs s5 h5 rq hqs hql => ?_⟩
    rw [hN] at rq
    have hR1 : ∀ x y, WayR bs.length rows x y → natP x y ∈ qs := fun x y h => (hqs _).mpr h
    have hst1 : ∀ (l : List Nat), Cyc (WayR bs.length rows) l → ∀ st ∈ stepsI (natI l), st ∈ qs := fun l h st hs => (hqs st).mpr (steps_way h st hs)
    refine ⟨_, rfl, p5, N, qs, rfl, rq, by omega, hql, fun H6 p6 qs3 s6 h6 rq3 hqs3 hql3 => ?_⟩
    have hst3 : ∀ (l : List Nat), l.Perm (List.range (3 * N)) → (Cyc (TriR (WayR bs.length rows)) l ∨ Cyc (fun x y => TriR (WayR bs.length rows) y x) l) → ∀ st ∈ stepsI (natI l), eitherI st ∈ qs3 :=
      fun l hp hc st hs => (hqs3 _).mpr (steps_mend hR1 hp hc st hs)
    refine ⟨_, rfl, p6, 3 * N, qs3, rfl, rq3, by omega, fun H7 p7 s7 h7 tq => ?_⟩
    have s37 := (s4.trans s5).trans (s6.trans s7)
    -- walked
    refine ⟨_, rfl, _, rfl, T2, _, rfl, .inl (.of (s37 _ _ hT3)), fun l8 h8 => ?_⟩
    refine ⟨fa, l8, bs, rows, rfl, upd_same, by omega, cq.same (keepT s37 h8), ok, hold, fun H9 p9 s9 h9 hW => ?_⟩
    rw [hWe] at hW
    have s79 : Same H7 H9 := (keepN h8).trans s9
    have rq9 := rq.same ((s6.trans s7).trans s79)
    have rq39 := rq3.same (s7.trans s79)
    have tq9 := tq.same s79
    have cq9 := cq.same (s37.trans s79)
    have hS9 := (s37.trans s79).seq hS3
    have hR9 := hR3.same (s37.trans s79)
    clear hS3 hR3 hT3 cq rq rq3 tq s37 s79 s9 s7 s6 s5 s4 h5 h6 h7 h8
    refine ⟨_, rfl, _, rfl, p5, p9, false, N, qs, natI W, rfl, rq9, by omega, by rw [natI_iL]; exact hW, natI_perm hperm, by omega, fun st hs => mem_plain (hst1 W hcyc st hs), fun H10 s10 => ?_⟩
    refine ⟨true, rfl, iteF ?_⟩
    -- ring
    refine ⟨_, rfl, _, rfl, p5, p9, N, qs, W, rfl, rq9.same s10, by omega, .of (s10 _ _ hW), hperm, by omega, hst1 W hcyc, fun H11 p11 s11 h11 hG => ?_⟩
    have hst0 : ∀ st ∈ stepsI (natI (ringN W)), eitherI st ∈ qs3 := by
      have h0 := turn_cyc hcyc (r := 0) (Nat.zero_le _) false
      rw [turnL_false, show rotL (ringN W) 0 = ringN W from turnL_zero _] at h0
      exact hst3 _ hGp h0
    have s911 := s10.trans s11
    refine ⟨_, rfl, _, rfl, p6, p11, true, 3 * N, qs3, natI (ringN W), rfl, rq39.same s911, by omega, by rw [natI_iL]; exact hG, natI_perm hGp, by omega, fun st hs => mem_either (hst0 st hs), fun H12 s12 => ?_⟩
    refine ⟨true, rfl, iteF ?_⟩
    have s912 := s911.trans s12
    refine ⟨_, rfl, _, rfl, p6, p11, 3 * N, qs3, ringN W, rfl, rq39.same s912, by omega, .of (s12 _ _ hG), hGp, by omega, hst0, fun H13 p13 s13 h13 hG13 => ?_⟩
    have s913 := s912.trans s13
    refine ⟨_, rfl, .ref p13, .ty "list", .type "list", .type "list", true, rfl, .ty _, .base (.lst hG13), kit_ty (by decide +kernel), true, rfl, ?_⟩
    refine iteF ?_
    refine ⟨_, rfl, _, rfl, p7, p13, 3 * N, qs3, natI (ringN W), rfl, tq9.same s913, by omega, by rw [natI_iL]; exact .of hG13, natI_perm hGp, by omega, hst0, fun H14 s14 => ?_⟩
    refine ⟨true, rfl, iteF ?_⟩
    have s914 := s913.trans s14
    have hG14 := s14 _ _ hG13
    have hS14 := s914.seq hS9
    have rq14 := rq9.same s914
    have rq314 := rq39.same s914
    have cq14 := cq9.same s914
    have hR14 := hR9.same s914
    clear s914 s913 s912 s911 s10 s11 s12 s13 s14 hS9 rq9 rq39 cq9 hR9 tq9 hW hG hG13 h9 h11 h13
    -- the turned tour
    refine ⟨_, rfl, _, rfl, a, _, rfl, .inl hS14, _, 2, rfl, rfl, ⟨by decide, by decide⟩, a, ns, ns.length / 2, ?_, hS14, fun sd _ => ?_⟩
    · have e : ((iL ns).length : Int) / 2 = ((ns.length / 2 : Nat) : Int) := by
        rw [iL_len]
        omega
      show [V.ref a, V.int (((iL ns).length : Int) / 2)] ++ [] = _
      rw [e]
      rfl
    refine ⟨_, rfl, _, rfl, p13, _, rfl, .inl (.of hG14), 1, _, rfl, _, _, rfl, rfl, ?_, ?_⟩
    · show (0 : Int) < if (((ringN W).map natV).length : Int) > 1 then (((ringN W).map natV).length : Int) else 1
      split <;> omega
    obtain ⟨c, hc, hcl⟩ : ∃ c : Nat, (sd : Int) % (if (((ringN W).map natV).length : Int) > 1 then (((ringN W).map natV).length : Int) else 1) = (c : Int) ∧ c ≤ (ringN W).length := by
      rw [List.length_map]
      refine ⟨((sd : Int) % (if ((ringN W).length : Int) > 1 then ((ringN W).length : Int) else 1)).toNat, ?_, ?_⟩
      · rw [Int.toNat_of_nonneg]
        refine Int.emod_nonneg _ ?_
        split <;> omega
      · split
        · have h1 := Int.emod_lt_of_pos (sd : Int) (show (0 : Int) < ((ringN W).length : Int) by omega)
          omega
        · rw [Int.emod_one]
          exact Nat.zero_le _
    refine ⟨_, rfl, _, rfl, (c : Int), congrArg V.int hc, p13, _, rfl, .of hG14, fun l15 h15 => ?_⟩
    refine ⟨_, rfl, _, rfl, (c : Int), congrArg V.int hc, p13, _, rfl, (keepN h15).seq (.of hG14), fun l16 h16 => ?_⟩
    rw [cut_from _ hcl] at h16 ⊢
    rw [cut_to _ hcl]
    have n56 : l15 ≠ l16 := fun z => by
      rw [← z, upd_same] at h16
      cases h16
    refine ⟨l15, l16, _, _, rfl, rfl, by rw [upd_ne n56]; exact upd_same, upd_same, ?_, fun p17 h17 => ?_⟩
    · rw [List.length_map, List.length_map, List.length_drop, List.length_take]
      exact szle (by omega)
    have s17 := keepT (o := .lst (((ringN W).drop c).map natV ++ ((ringN W).take c).map natV)) ((keepN (o := .lst (((ringN W).drop c).map natV)) h15).trans (keepN (o := .lst (((ringN W).take c).map natV)) h16)) h17
    have hp17 : upd (upd (upd H14 l15 (.lst (((ringN W).drop c).map natV))) l16 (.lst (((ringN W).take c).map natV))) p17 (.lst (((ringN W).drop c).map natV ++ ((ringN W).take c).map natV)) p17 = some (.lst ((rotL (ringN W) c).map natV)) := by
      rw [upd_same, ← List.map_append]
      rfl
    generalize upd (upd (upd H14 l15 (.lst (((ringN W).drop c).map natV))) l16 (.lst (((ringN W).take c).map natV))) p17 (.lst (((ringN W).drop c).map natV ++ ((ringN W).take c).map natV)) = H17 at s17 hp17
    obtain ⟨y12, hy12⟩ : ∃ y : V, V.int ((sd : Int) % (if (((ringN W).map natV).length : Int) > 1 then (((ringN W).map natV).length : Int) else 1)) = y := ⟨_, rfl⟩
    refine ⟨fun σ' H' => ∃ (rev : Bool) (p18 : Addr), σ' = [some (.ref a), some (.int bs.length), some (.ref R), some (.ref T2), some (.ref fa), some (.ref p5), some (.ref p6), some (.ref p7), some (.ref p9), some (.ref p11), some (.ref p18), some (.int sd), some y12, none, none] ∧ Same H14 H' ∧ H' p18 = some (.lst ((turnL (ringN W) c rev).map natV)), ?_, ?_⟩
    · refine ⟨_, rfl, _, 1000, rfl, rfl, ⟨by decide, by decide⟩, _, 2, rfl, rfl, by show (0 : Int) < 2; decide, rfl, _, rfl, ite2 (fun c1 => ?_) (fun c1 => ?_)⟩
      · refine ⟨_, rfl, p17, _, rfl, .of hp17, fun p18 h18 => ⟨true, p18, by rw [← hy12]; rfl, keepT s17 h18, ?_⟩⟩
        rw [upd_same, turnL_true, List.map_reverse]
      · exact ⟨false, p17, by rw [← hy12]; rfl, s17, hp17⟩
    rintro σ' H18 ⟨rev, p18, rfl, s18, hG18⟩
    have hTp : (turnL (ringN W) c rev).Perm (List.range (3 * N)) := (turnL_perm _ c rev).trans hGp
    have hTc := turn_cyc hcyc hcl rev
    obtain ⟨r2, hr2, hback⟩ := told hcl rev
    have hst2 := hst3 _ hTp hTc
    have hst4 : ∀ st ∈ stepsI (natI (turnL (ringN W) c rev)), eitherI st ∈ mendL N qs := steps_mend hR1 hTp hTc
    generalize turnL (ringN W) c rev = G2 at hTp hTc hback hst2 hst4 hG18
    refine ⟨_, rfl, _, rfl, p6, p18, 3 * N, qs3, G2, rfl, rq314.same s18, by omega, .of hG18, hTp, by omega, hst2, fun H19 p19 s19 h19 hG19 => ?_⟩
    have s1419 := s18.trans s19
    refine ⟨_, rfl, _, rfl, p6, p19, true, 3 * N, qs3, natI G2, rfl, rq314.same s1419, by omega, by rw [natI_iL]; exact hG19, natI_perm hTp, by omega, fun st hs => mem_either (hst2 st hs), fun H20 s20 => ?_⟩
    refine ⟨true, rfl, iteF ?_⟩
    have s1420 := s1419.trans s20
    refine ⟨_, rfl, _, rfl, p5, p19, N, qs, G2, rfl, rq14.same s1420, by omega, hql, .of (s20 _ _ hG19), hTp, hst4, fun H21 p21 s21 h21 hV => ?_⟩
    rw [hback] at hV
    have hVc := rot_cyc hcyc hr2
    have hVp : (rotL W r2).Perm (List.range N) := (rot_perm W r2).trans hperm
    have hVg : ∀ k, k < bs.length → ∃ i, (rotL W r2)[prevIx (rotL W r2).length i]? = some (gateN rows.length k) ∧ (rotL W r2)[i]? = some (goN rows.length (tauF bs) k 0) := fun k hk => by
      obtain ⟨i, g1, g2⟩ := hgate k hk
      exact rot_pair hr2 g1 g2
    generalize rotL W r2 = V2 at hV hVc hVp hVg
    have s1421 := s1420.trans s21
    refine ⟨_, rfl, _, rfl, p5, p21, false, N, qs, natI V2, rfl, rq14.same s1421, by omega, by rw [natI_iL]; exact hV, natI_perm hVp, by omega, fun st hs => mem_plain (hst1 V2 hVc st hs), fun H22 s22 => ?_⟩
    refine ⟨true, rfl, iteF ?_⟩
    have s1422 := s1421.trans s22
    refine ⟨_, rfl, _, rfl, fa, p21, bs.length, rows, V2, fun k => goN rows.length (tauF bs) k 0, rfl, cq14.same s1422, ok, by omega, hwl, by omega, .of (s22 _ _ hV), by rw [hN]; exact hVp, steps_way hVc, hVg, fun H23 p23 s23 h23 hF => ?_⟩
    have hF' : H23 p23 = some (.lst ((foundL rows.length bs).map V.bl)) := hF
    have s1423 := s1422.trans s23
    have hfl := foundL_len rows.length bs
    have hfh := found_holds hold
    generalize foundL rows.length bs = fb at hF' hfl hfh
    refine ⟨_, rfl, .ref p23, .ty "list", .type "list", .type "list", true, rfl, .ty _, .base (.lst hF'), kit_ty (by decide +kernel), true, rfl, ?_⟩
    refine iteF ?_
    refine ⟨_, rfl, p23, rfl, ⟨_, .of hF'⟩, fun D hD => ?_⟩
    refine lc_list (xs := fb.map V.bl) (fun i H3 => H3 = upd H23 D (.lst (((List.replicate fb.length true).map V.bl).take i))) rfl ?_ ?_ ?_
    · rintro i H3 _ rfl
      exact (keepN hD).seq (.of hF')
    · rintro i x H3 hx rfl
      have hi : i < fb.length := by
        have := (List.getElem?_eq_some_iff.mp hx).1
        rw [List.length_map] at this
        exact this
      rw [List.getElem?_map, List.getElem?_eq_getElem hi] at hx
      have ex : x = V.bl fb[i] := (Option.some.inj hx).symm
      subst ex
      refine ⟨rfl, ?_⟩
      refine ⟨_, rfl, .bl fb[i], .ty "bool", .type "bool", .type "bool", true, rfl, .ty _, .base (.bl _), kit_ty (by decide +kernel), ?_⟩
      refine ⟨_, upd_same, ?_, ?_⟩
      · rw [List.length_take]
        exact sz (by omega)
      · rw [upd_upd, take_snoc (x := V.bl true)]
        rw [List.getElem?_map, List.getElem?_replicate, if_pos hi]
        rfl
    · rintro H3 rfl
      rw [List.length_map, List.take_of_length_le (by simp)]
      refine ⟨D, List.replicate fb.length true, rfl, .of upd_same, ?_⟩
      have e : (List.replicate fb.length true).all id = true := by simp
      rw [e]
      refine ⟨true, rfl, iteF ?_⟩
      have s24 : Same H14 (upd H23 D (.lst ((List.replicate fb.length true).map V.bl))) := keepT s1423 hD
      refine ⟨_, rfl, _, rfl, _, rfl, p23, R, fb, rows, by rw [hfl]; rfl, .of (keepN hD _ _ hF'), by omega, hR14.same s24, by rw [hfl]; exact ok, fun H25 s25 => ?_⟩
      rw [hfh]
      exact q _
end Hm
set_option Elab.async false
set_option linter.all false
set_option maxRecDepth 100000
set_option maxHeartbeats 0
namespace Hm
open PySem PySem.Spec PyProof.Rows L2
def hdRight : He.DefD := ⟨("right", none), "right", "right", defArgs sRight, defBody sRight, defScope sRight, [], []⟩
def hdAreT : He.DefD := ⟨("are_truths", none), "are_truths", "are_truths", defArgs sAreT, defBody sAreT, defScope sAreT, [], []⟩
def hdCHold : He.DefD := ⟨("clauses_hold", none), "clauses_hold", "clauses_hold", defArgs sCHold, defBody sCHold, defScope sCHold, [], []⟩
def hdOnce : He.DefD := ⟨("all_once", none), "all_once", "all_once", defArgs sOnce, defBody sOnce, defScope sOnce, [], []⟩
def hdSteps : He.DefD := ⟨("steps_of", none), "steps_of", "steps_of", defArgs sSteps, defBody sSteps, defScope sSteps, [], []⟩
def hdEither : He.DefD := ⟨("either_way", none), "either_way", "either_way", defArgs sEither, defBody sEither, defScope sEither, [], []⟩
def hdRHold : He.DefD := ⟨("rounds_hold", none), "rounds_hold", "rounds_hold", defArgs sRHold, defBody sRHold, defScope sRHold, [], []⟩
def hdGHold : He.DefD := ⟨("ring_holds", none), "ring_holds", "ring_holds", defArgs sGHold, defBody sGHold, defScope sGHold, [], []⟩
def hdLen : He.DefD := ⟨("length_of", none), "length_of", "length_of", defArgs sLen, defBody sLen, defScope sLen, [], []⟩
def hdTHold : He.DefD := ⟨("tour_holds", none), "tour_holds", "tour_holds", defArgs sTHold, defBody sTHold, defScope sTHold, [], []⟩
def hdGate : He.DefD := ⟨("gate", none), "gate", "gate", defArgs sGate, defBody sGate, defScope sGate, [], []⟩
def hdStreet : He.DefD := ⟨("street", none), "street", "street", defArgs sStreet, defBody sStreet, defScope sStreet, [], []⟩
def hdRTown : He.DefD := ⟨("row_town", none), "row_town", "row_town", defArgs sRTown, defBody sRTown, defScope sRTown, [], []⟩
def hdSWays : He.DefD := ⟨("street_ways", none), "street_ways", "street_ways", defArgs sSWays, defBody sSWays, defScope sSWays, [], []⟩
def hdDetour : He.DefD := ⟨("detour", none), "detour", "detour", defArgs sDetour, defBody sDetour, defScope sDetour, [], []⟩
def hdTWalk : He.DefD := ⟨("turn_walking", none), "turn_walking", "turn_walking", defArgs sTWalk, defBody sTWalk, defScope sTWalk, [], []⟩
def hdFWalk : He.DefD := ⟨("forth_walking", none), "forth_walking", "forth_walking", defArgs sFWalk, defBody sFWalk, defScope sFWalk, [], []⟩
def hdBWalk : He.DefD := ⟨("back_walking", none), "back_walking", "back_walking", defArgs sBWalk, defBody sBWalk, defScope sBWalk, [], []⟩
def hdTMend : He.DefD := ⟨("turn_mending", none), "turn_mending", "turn_mending", defArgs sTMend, defBody sTMend, defScope sTMend, [], []⟩
def hdFMend : He.DefD := ⟨("forth_mending", none), "forth_mending", "forth_mending", defArgs sFMend, defBody sFMend, defScope sFMend, [], []⟩
def hdBMend : He.DefD := ⟨("back_mending", none), "back_mending", "back_mending", defArgs sBMend, defBody sBMend, defScope sBMend, [], []⟩
def hdTPrice : He.DefD := ⟨("turn_pricing", none), "turn_pricing", "turn_pricing", defArgs sTPrice, defBody sTPrice, defScope sTPrice, [], []⟩
def hdFPrice : He.DefD := ⟨("forth_pricing", none), "forth_pricing", "forth_pricing", defArgs sFPrice, defBody sFPrice, defScope sFPrice, [], []⟩
def hdBPrice : He.DefD := ⟨("back_pricing", none), "back_pricing", "back_pricing", defArgs sBPrice, defBody sBPrice, defScope sBPrice, [], []⟩
def hdLMix : He.DefD := ⟨("_law_mixed", none), "_law_mixed", "_law_mixed", defArgs sLMix, defBody sLMix, defScope sLMix, [], []⟩
def hdLAt : He.DefD := ⟨("_law_at", none), "_law_at", "_law_at", defArgs sLAt, defBody sLAt, defScope sLAt, [], []⟩
def hdLCl : He.DefD := ⟨("_law_clauses", none), "_law_clauses", "_law_clauses", defArgs sLCl, defBody sLCl, defScope sLCl, [], []⟩
def hdLRight : He.DefD := ⟨("_law_right", none), "_law_right", "_law_right", defArgs sLRight, defBody sLRight, defScope sLRight, [], []⟩
def hdLHold : He.DefD := ⟨("_law_hold", none), "_law_hold", "_law_hold", defArgs sLHold, defBody sLHold, defScope sLHold, [], []⟩
def hdLAll : He.DefD := ⟨("_law_all", none), "_law_all", "_law_all", defArgs sLAll, defBody sLAll, defScope sLAll, [], []⟩
def hdLGoes : He.DefD := ⟨("_law_goes", none), "_law_goes", "_law_goes", defArgs sLGoes, defBody sLGoes, defScope sLGoes, [], []⟩
def hdLCheap : He.DefD := ⟨("_law_cheap", none), "_law_cheap", "_law_cheap", defArgs sLCheap, defBody sLCheap, defScope sLCheap, [], []⟩
def hdLRef : He.DefD := ⟨("_law_refused", none), "_law_refused", "_law_refused", defArgs sLRef, defBody sLRef, defScope sLRef, [], []⟩
def hdLaw : He.DefD := ⟨("law", none), "law", "law", defArgs sLaw, defBody sLaw, defScope sLaw, [], []⟩
def hFn : List He.DefD := [hdRight, hdAreT, hdCHold, hdOnce, hdSteps, hdEither, hdRHold, hdGHold, hdLen, hdTHold, hdGate, hdStreet, hdRTown, hdSWays, hdDetour, hdTWalk, hdFWalk, hdBWalk, hdTMend, hdFMend, hdBMend, hdTPrice, hdFPrice, hdBPrice, hdLMix, hdLAt, hdLCl, hdLRight, hdLHold, hdLAll, hdLGoes, hdLCheap, hdLRef, hdLaw]
def hFa : List He.Fa := [.glo "right", .glo "are_truths", .glo "clauses_hold", .glo "all_once", .glo "steps_of", .glo "either_way", .glo "rounds_hold", .glo "ring_holds", .glo "length_of", .glo "tour_holds", .glo "gate", .glo "street", .glo "row_town", .glo "street_ways", .glo "detour", .glo "turn_walking", .glo "forth_walking", .glo "back_walking", .glo "turn_mending", .glo "forth_mending", .glo "back_mending", .glo "turn_pricing", .glo "forth_pricing", .glo "back_pricing", .glo "_law_mixed", .glo "_law_at", .glo "_law_clauses", .glo "_law_right", .glo "_law_hold", .glo "_law_all", .glo "_law_goes", .glo "_law_cheap", .glo "_law_refused", .glo "law", .free "len", .free "range", .free "all", .free "any", .free "sorted", .free "list", .free "tuple", .free "set", .free "isinstance", .free "enumerate", .free "reversed", .free "sum", .free "int", .free "abs", .free "min", .free "max", .free "bool", .glo "NoAnswer", .exc "NoAnswer", .exm "NoAnswer" "NoAnswer" true]
def hLoose1 : List Str := ["right", "are_truths", "clauses_hold", "all_once", "steps_of", "either_way", "rounds_hold", "ring_holds", "length_of", "tour_holds", "gate", "street", "row_town", "street_ways", "detour", "turn_walking", "forth_walking", "back_walking"]
def hLoose2 : List Str := ["turn_mending", "forth_mending", "back_mending", "turn_pricing", "forth_pricing", "back_pricing", "_law_mixed", "_law_at", "_law_clauses", "_law_right", "_law_hold", "_law_all", "_law_goes", "_law_cheap", "_law_refused", "ChainError", "NoAnswer"]
def hLoose : List Str := hLoose1 ++ hLoose2
abbrev hR : PySem.W.OpenRow := PySem.W.OpenLaw.row PySem.Challenge.rw_chainturn_k58_whole_rounds
abbrev hHk : PySem.W.Hook := He.hookD 6 hFa hFn
def hOb (s : PySem.W.SharedT) : He.AlD := He.obsDG 6 hFa hFn (HandSHeadRun.getT s)
theorem hOb_eq (s : PySem.W.SharedT) : hOb s = hHk.obs s.abs := He.obsDG_eq (HandSHeadRun.getT_eq s)
theorem hRun (w : World) : HandSHeadRun.RunEq hR (PySem.W.view hR.prog [41]) hHk hOb 2000 hLoose w := by
  intro os
  kernel_rfl
theorem hTops {K : PySem.W.Frag} {h : Heap} {mg : Str → Option Value} (X : K.In h) (G : h.Ns mainGlobals mg) (c : He.SaysD hFa hFn K) : Tops K mg := by
  constructor
  · obtain ⟨fd, F⟩ := c.def_ 0 (d := hdRight) rfl
    exact ⟨_, fd, F, He.glo_ok X G (c.fact 0 (f := .glo "right") rfl), FunD.bindsN F fun _ _ _ _ _ _ us hl => match us, hl with | [_, _], _ => rfl⟩
  · obtain ⟨fd, F⟩ := c.def_ 1 (d := hdAreT) rfl
    exact ⟨_, fd, F, He.glo_ok X G (c.fact 1 (f := .glo "are_truths") rfl), FunD.bindsN F fun _ _ _ _ _ _ us hl => match us, hl with | [_, _], _ => rfl⟩
  · obtain ⟨fd, F⟩ := c.def_ 2 (d := hdCHold) rfl
    exact ⟨_, fd, F, He.glo_ok X G (c.fact 2 (f := .glo "clauses_hold") rfl), FunD.bindsN F fun _ _ _ _ _ _ us hl => match us, hl with | [_, _], _ => rfl⟩
  · obtain ⟨fd, F⟩ := c.def_ 3 (d := hdOnce) rfl
    exact ⟨_, fd, F, He.glo_ok X G (c.fact 3 (f := .glo "all_once") rfl), FunD.bindsN F fun _ _ _ _ _ _ us hl => match us, hl with | [_, _], _ => rfl⟩
  · obtain ⟨fd, F⟩ := c.def_ 4 (d := hdSteps) rfl
    exact ⟨_, fd, F, He.glo_ok X G (c.fact 4 (f := .glo "steps_of") rfl), FunD.bindsN F fun _ _ _ _ _ _ us hl => match us, hl with | [_], _ => rfl⟩
  · obtain ⟨fd, F⟩ := c.def_ 5 (d := hdEither) rfl
    exact ⟨_, fd, F, He.glo_ok X G (c.fact 5 (f := .glo "either_way") rfl), FunD.bindsN F fun _ _ _ _ _ _ us hl => match us, hl with | [_, _], _ => rfl⟩
  · obtain ⟨fd, F⟩ := c.def_ 6 (d := hdRHold) rfl
    exact ⟨_, fd, F, He.glo_ok X G (c.fact 6 (f := .glo "rounds_hold") rfl), FunD.bindsN F fun _ _ _ _ _ _ us hl => match us, hl with | [_, _], _ => rfl⟩
  · obtain ⟨fd, F⟩ := c.def_ 7 (d := hdGHold) rfl
    exact ⟨_, fd, F, He.glo_ok X G (c.fact 7 (f := .glo "ring_holds") rfl), FunD.bindsN F fun _ _ _ _ _ _ us hl => match us, hl with | [_, _], _ => rfl⟩
  · obtain ⟨fd, F⟩ := c.def_ 8 (d := hdLen) rfl
    exact ⟨_, fd, F, He.glo_ok X G (c.fact 8 (f := .glo "length_of") rfl), FunD.bindsN F fun _ _ _ _ _ _ us hl => match us, hl with | [_, _], _ => rfl⟩
  · obtain ⟨fd, F⟩ := c.def_ 9 (d := hdTHold) rfl
    exact ⟨_, fd, F, He.glo_ok X G (c.fact 9 (f := .glo "tour_holds") rfl), FunD.bindsN F fun _ _ _ _ _ _ us hl => match us, hl with | [_, _], _ => rfl⟩
  · obtain ⟨fd, F⟩ := c.def_ 10 (d := hdGate) rfl
    exact ⟨_, fd, F, He.glo_ok X G (c.fact 10 (f := .glo "gate") rfl), FunD.bindsN F fun _ _ _ _ _ _ us hl => match us, hl with | [_, _], _ => rfl⟩
  · obtain ⟨fd, F⟩ := c.def_ 11 (d := hdStreet) rfl
    exact ⟨_, fd, F, He.glo_ok X G (c.fact 11 (f := .glo "street") rfl), FunD.bindsN F fun _ _ _ _ _ _ us hl => match us, hl with | [_, _, _], _ => rfl⟩
  · obtain ⟨fd, F⟩ := c.def_ 12 (d := hdRTown) rfl
    exact ⟨_, fd, F, He.glo_ok X G (c.fact 12 (f := .glo "row_town") rfl), FunD.bindsN F fun _ _ _ _ _ _ us hl => match us, hl with | [_, _], _ => rfl⟩
  · obtain ⟨fd, F⟩ := c.def_ 13 (d := hdSWays) rfl
    exact ⟨_, fd, F, He.glo_ok X G (c.fact 13 (f := .glo "street_ways") rfl), FunD.bindsN F fun _ _ _ _ _ _ us hl => match us, hl with | [_, _], _ => rfl⟩
  · obtain ⟨fd, F⟩ := c.def_ 14 (d := hdDetour) rfl
    exact ⟨_, fd, F, He.glo_ok X G (c.fact 14 (f := .glo "detour") rfl), FunD.bindsN F fun _ _ _ _ _ _ us hl => match us, hl with | [_, _, _], _ => rfl⟩
  · obtain ⟨fd, F⟩ := c.def_ 15 (d := hdTWalk) rfl
    exact ⟨_, fd, F, He.glo_ok X G (c.fact 15 (f := .glo "turn_walking") rfl), FunD.bindsN F fun _ _ _ _ _ _ us hl => match us, hl with | [_], _ => rfl⟩
  · obtain ⟨fd, F⟩ := c.def_ 16 (d := hdFWalk) rfl
    exact ⟨_, fd, F, He.glo_ok X G (c.fact 16 (f := .glo "forth_walking") rfl), FunD.bindsN F fun _ _ _ _ _ _ us hl => match us, hl with | [_, _], _ => rfl⟩
  · obtain ⟨fd, F⟩ := c.def_ 17 (d := hdBWalk) rfl
    exact ⟨_, fd, F, He.glo_ok X G (c.fact 17 (f := .glo "back_walking") rfl), FunD.bindsN F fun _ _ _ _ _ _ us hl => match us, hl with | [_, _], _ => rfl⟩
  · obtain ⟨fd, F⟩ := c.def_ 18 (d := hdTMend) rfl
    exact ⟨_, fd, F, He.glo_ok X G (c.fact 18 (f := .glo "turn_mending") rfl), FunD.bindsN F fun _ _ _ _ _ _ us hl => match us, hl with | [_], _ => rfl⟩
  · obtain ⟨fd, F⟩ := c.def_ 19 (d := hdFMend) rfl
    exact ⟨_, fd, F, He.glo_ok X G (c.fact 19 (f := .glo "forth_mending") rfl), FunD.bindsN F fun _ _ _ _ _ _ us hl => match us, hl with | [_, _], _ => rfl⟩
  · obtain ⟨fd, F⟩ := c.def_ 20 (d := hdBMend) rfl
    exact ⟨_, fd, F, He.glo_ok X G (c.fact 20 (f := .glo "back_mending") rfl), FunD.bindsN F fun _ _ _ _ _ _ us hl => match us, hl with | [_, _], _ => rfl⟩
  · obtain ⟨fd, F⟩ := c.def_ 21 (d := hdTPrice) rfl
    exact ⟨_, fd, F, He.glo_ok X G (c.fact 21 (f := .glo "turn_pricing") rfl), FunD.bindsN F fun _ _ _ _ _ _ us hl => match us, hl with | [_], _ => rfl⟩
  · obtain ⟨fd, F⟩ := c.def_ 22 (d := hdFPrice) rfl
    exact ⟨_, fd, F, He.glo_ok X G (c.fact 22 (f := .glo "forth_pricing") rfl), FunD.bindsN F fun _ _ _ _ _ _ us hl => match us, hl with | [_, _], _ => rfl⟩
  · obtain ⟨fd, F⟩ := c.def_ 23 (d := hdBPrice) rfl
    exact ⟨_, fd, F, He.glo_ok X G (c.fact 23 (f := .glo "back_pricing") rfl), FunD.bindsN F fun _ _ _ _ _ _ us hl => match us, hl with | [_, _], _ => rfl⟩
  · obtain ⟨fd, F⟩ := c.def_ 24 (d := hdLMix) rfl
    exact ⟨_, fd, F, He.glo_ok X G (c.fact 24 (f := .glo "_law_mixed") rfl), FunD.bindsN F fun _ _ _ _ _ _ us hl => match us, hl with | [_], _ => rfl⟩
  · obtain ⟨fd, F⟩ := c.def_ 25 (d := hdLAt) rfl
    exact ⟨_, fd, F, He.glo_ok X G (c.fact 25 (f := .glo "_law_at") rfl), FunD.bindsN F fun _ _ _ _ _ _ us hl => match us, hl with | [_, _], _ => rfl⟩
  · obtain ⟨fd, F⟩ := c.def_ 26 (d := hdLCl) rfl
    exact ⟨_, fd, F, He.glo_ok X G (c.fact 26 (f := .glo "_law_clauses") rfl), FunD.bindsN F fun _ _ _ _ _ _ us hl => match us, hl with | [_, _], _ => rfl⟩
  · obtain ⟨fd, F⟩ := c.def_ 27 (d := hdLRight) rfl
    exact ⟨_, fd, F, He.glo_ok X G (c.fact 27 (f := .glo "_law_right") rfl), FunD.bindsN F fun _ _ _ _ _ _ us hl => match us, hl with | [_, _], _ => rfl⟩
  · obtain ⟨fd, F⟩ := c.def_ 28 (d := hdLHold) rfl
    exact ⟨_, fd, F, He.glo_ok X G (c.fact 28 (f := .glo "_law_hold") rfl), FunD.bindsN F fun _ _ _ _ _ _ us hl => match us, hl with | [_, _, _], _ => rfl⟩
  · obtain ⟨fd, F⟩ := c.def_ 29 (d := hdLAll) rfl
    exact ⟨_, fd, F, He.glo_ok X G (c.fact 29 (f := .glo "_law_all") rfl), FunD.bindsN F fun _ _ _ _ _ _ us hl => match us, hl with | [_, _], _ => rfl⟩
  · obtain ⟨fd, F⟩ := c.def_ 30 (d := hdLGoes) rfl
    exact ⟨_, fd, F, He.glo_ok X G (c.fact 30 (f := .glo "_law_goes") rfl), FunD.bindsN F fun _ _ _ _ _ _ us hl => match us, hl with | [_, _, _], _ => rfl⟩
  · obtain ⟨fd, F⟩ := c.def_ 31 (d := hdLCheap) rfl
    exact ⟨_, fd, F, He.glo_ok X G (c.fact 31 (f := .glo "_law_cheap") rfl), FunD.bindsN F fun _ _ _ _ _ _ us hl => match us, hl with | [_, _], _ => rfl⟩
  · obtain ⟨fd, F⟩ := c.def_ 32 (d := hdLRef) rfl
    exact ⟨_, fd, F, He.glo_ok X G (c.fact 32 (f := .glo "_law_refused") rfl), FunD.bindsN F fun _ _ _ _ _ _ us hl => match us, hl with | [_, _], _ => rfl⟩
  · exact He.free_ok X G (c.fact 34 (f := .free "len") rfl)
  · exact He.free_ok X G (c.fact 35 (f := .free "range") rfl)
  · exact He.free_ok X G (c.fact 36 (f := .free "all") rfl)
  · exact He.free_ok X G (c.fact 37 (f := .free "any") rfl)
  · exact He.free_ok X G (c.fact 38 (f := .free "sorted") rfl)
  · exact He.free_ok X G (c.fact 39 (f := .free "list") rfl)
  · exact He.free_ok X G (c.fact 40 (f := .free "tuple") rfl)
  · exact He.free_ok X G (c.fact 41 (f := .free "set") rfl)
  · exact He.free_ok X G (c.fact 42 (f := .free "isinstance") rfl)
  · exact He.free_ok X G (c.fact 43 (f := .free "enumerate") rfl)
  · exact He.free_ok X G (c.fact 44 (f := .free "reversed") rfl)
  · exact He.free_ok X G (c.fact 45 (f := .free "sum") rfl)
  · exact He.free_ok X G (c.fact 46 (f := .free "int") rfl)
  · exact He.free_ok X G (c.fact 47 (f := .free "abs") rfl)
  · exact He.free_ok X G (c.fact 48 (f := .free "min") rfl)
  · exact He.free_ok X G (c.fact 49 (f := .free "max") rfl)
  · exact He.free_ok X G (c.fact 50 (f := .free "bool") rfl)
  · obtain ⟨e1, e2, e3, e4⟩ := He.exc_ok (c.fact 52 (f := .exc "NoAnswer") rfl)
    exact ⟨_, He.glo_ok X G (c.fact 51 (f := .glo "NoAnswer") rfl), e1, e2, e3, e4, He.exm_ok (c.fact 53 (f := .exm "NoAnswer" "NoAnswer" true) rfl)⟩
theorem hFacts {P : Program} {w : World} {K : PySem.W.Frag} {h : Heap} {mg : Str → Option Value} {f : Addr} (X : K.In h) (G : h.Ns mainGlobals mg) (hfa : mg ("law" : Str) = some (.ref f)) (c : He.SaysD hFa hFn K) :
    ∃ fd : FuncData, (∀ (s : Shared) (v : Value), BindsTo s fd ⟨[v], []⟩ [("_law_script", v)]) ∧ ∀ base : Heap, K.In base → base.Ns mainGlobals mg → FnOk P w K mg base CX0 5 f fd ["_law_script"] (spLaw K) := by
  obtain ⟨fd, F⟩ := c.def_ 33 (d := hdLaw) rfl
  have e := hfa.symm.trans (He.glo_ok X G (c.fact 33 (f := .glo "law") rfl))
  cases e
  have b := FunD.bindsA (ps := ["_law_script"]) F fun _ _ _ _ _ _ us hl => match us, hl with | [_], _ => rfl
  exact ⟨fd, fun s v => b s [v] rfl, fun base Xb Gb => ok_law (hTops X G c) F⟩
end Hm
open PySem PySem.W PySem.Calls PyProof.Rows
theorem PySem.Challenge.cw_chainturn_k58_whole_rounds_holds : PySem.Challenge.rw_chainturn_k58_whole_rounds.Holds := by
  w_on; o_law
  refine HandSHeadRun.head_any (r := OpenLaw.row PySem.Challenge.rw_chainturn_k58_whole_rounds) (q := view (OpenLaw.row PySem.Challenge.rw_chainturn_k58_whole_rounds).prog [41]) (H := Hm.hHk) (ob := Hm.hOb) (M := 2000) (loose := Hm.hLoose) (d := HandSHeadRun.topDef (OpenLaw.row PySem.Challenge.rw_chainturn_k58_whole_rounds).prog 41) (kwd := []) Hm.hOb_eq
    (by kernel_rfl) (fun s => by kernel_rfl) Hm.hRun (by kernel_rfl) (by kernel_rfl) (by kernel_rfl) (by rfl) (by first | assumption | decide +kernel) (by decide +kernel) ⟨rfl, rfl, rfl, rfl, rfl, by decide +kernel⟩ ?hw ?hc
  case hw => w_witness2
  case hc =>
    refine L2.walk_ofE (l := PySem.Challenge.rw_chainturn_k58_whole_rounds) (n := 63) (k := 5) (x := "_law_script") (CX := L2.CX0) rfl (by decide) (by kernel_rfl) ⟨rfl, by decide, by decide⟩ ?F (fun _ _ _ _ z => z)
    intro w mg fa h Y G hmg0
    obtain ⟨K, KX, c⟩ := Y
    have hmg : mg ("law" : PySem.Str) = some (.ref fa) := by
      have e : (HandSHeadRun.topDef (OpenLaw.row PySem.Challenge.rw_chainturn_k58_whole_rounds).prog 41).name = ("law" : PySem.Str) := by kernel_rfl
      rw [← e]
      exact hmg0
    obtain ⟨fd, hb, hF⟩ := Hm.hFacts (P := (PySem.Challenge.rw_chainturn_k58_whole_rounds).prog) (w := w) KX G hmg c
    exact ⟨K, fd, Hm.spLaw K, KX, hb, fun H a ns hl _ hS => ⟨a, ns, rfl, hS, hl, fun _ => rfl⟩, hF⟩
