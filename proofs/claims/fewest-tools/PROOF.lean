import PyProof.Rows.All
import Wide.All
import OpenK.AllK
import Wide.FinOn
import HandS.ForMost
import HandS.Evl
import HandS.Deep
import HandS.Sort
import HandS.TupSets
import HandS.Gcd
import HandS.SortKw
import HandS.IsInst
import HandS.Property
import KE.DataMinMax
import HandS.Zip
import KE.GoesMore
import HandS.More
import HandS.Exc
import KE.HD0
import KE.HD1
import KE.HD2
import KE.HD3
import HandS.HeadEnd
import HandS.HeadHook1
import HandS.HeadHook2
import HandS.Wide
import HandS.Head0
import HandS.Head1
import HandS.Head2
import PySem.Challenge.RW_pegstreet_k62_fewest_tools_whole
set_option Elab.async false
set_option linter.all false
set_option maxRecDepth 100000
set_option maxHeartbeats 4000000
/-! heaps in lists: the mathematics of heappush, heappop, heapify -/
namespace Hq
section
variable {α : Type} [Inhabited α]

def g (xs : List α) (i : Nat) : α := xs.getD i default
def par (i : Nat) : Nat := (i - 1) / 2
structure Tot (lt : α → α → Bool) : Prop where
  trans : ∀ a b c, lt b a = false → lt c b = false → lt c a = false
  asym : ∀ a b, lt a b = true → lt b a = false

theorem g_of {xs : List α} {i : Nat} {x : α} (h : xs[i]? = some x) : g xs i = x := by
  unfold g; rw [List.getD_eq_getElem?_getD, h]; rfl
theorem of_lt {xs : List α} {i : Nat} (h : i < xs.length) : xs[i]? = some (g xs i) := by
  unfold g; rw [List.getD_eq_getElem?_getD, List.getElem?_eq_getElem h]; rfl

/-- two places change their items -/
def sw (xs : List α) (i j : Nat) : List α := (xs.set i (g xs j)).set j (g xs i)
theorem sw_len (xs : List α) (i j : Nat) : (sw xs i j).length = xs.length := by simp [sw]
theorem g_sw {xs : List α} {i j : Nat} (hi : i < xs.length) (hj : j < xs.length) (k : Nat) :
    g (sw xs i j) k = if k = j then g xs i else if k = i then g xs j else g xs k := by
  unfold g sw
  simp only [List.getD_eq_getElem?_getD, List.getElem?_set, List.length_set]
  by_cases h1 : k = j
  · subst h1; simp [hj, g]
  · rw [if_neg (fun e => h1 e.symm), if_neg h1]
    by_cases h2 : k = i
    · subst h2; simp [hi, g]
    · rw [if_neg (fun e => h2 e.symm), if_neg h2]
theorem sw_perm {xs : List α} {i j : Nat} (hi : i < xs.length) (hj : j < xs.length) : (sw xs i j).Perm xs := by
  have h := Array.swap_perm (xs := xs.toArray) (i := i) (j := j) (by simpa using hi) (by simpa using hj)
  have e : (xs.toArray.swap i j (by simpa using hi) (by simpa using hj)).toList = sw xs i j := by
    unfold sw Array.swap
    have e1 : g xs i = xs[i] := g_of (List.getElem?_eq_getElem hi)
    have e2 : g xs j = xs[j] := g_of (List.getElem?_eq_getElem hj)
    simp [e1, e2]
  have h2 := Array.perm_iff_toList_perm.mp h
  rw [e] at h2
  simpa using h2

inductive Desc (top : Nat) : Nat → Prop
  | refl : Desc top top
  | left {p : Nat} : Desc top p → Desc top (2 * p + 1)
  | right {p : Nat} : Desc top p → Desc top (2 * p + 2)
theorem Desc.ge {top p : Nat} (h : Desc top p) : top ≤ p := by
  induction h <;> omega
theorem Desc.up {top p : Nat} (h : Desc top p) (hn : p ≠ top) : Desc top (par p) ∧ top ≤ par p ∧ 0 < p := by
  cases h with
  | refl => exact absurd rfl hn
  | @left q h =>
    have e : par (2 * q + 1) = q := by unfold par; omega
    rw [e]; exact ⟨h, h.ge, by omega⟩
  | @right q h =>
    have e : par (2 * q + 2) = q := by unfold par; omega
    rw [e]; exact ⟨h, h.ge, by omega⟩

variable {lt : α → α → Bool}
/-- x is at most y -/
abbrev le (lt : α → α → Bool) (x y : α) : Prop := lt y x = false

def From (lt : α → α → Bool) (top : Nat) (xs : List α) : Prop := ∀ i, 0 < i → i < xs.length → top ≤ par i → le lt (g xs (par i)) (g xs i)
structure DownI (lt : α → α → Bool) (top pos : Nat) (xs : List α) : Prop where
  lt_ : pos < xs.length
  de : Desc top pos
  a : ∀ i, 0 < i → i < xs.length → top ≤ par i → i ≠ pos → par i ≠ pos → le lt (g xs (par i)) (g xs i)
  b : pos ≠ top → ∀ c, 0 < c → c < xs.length → par c = pos → le lt (g xs (par pos)) (g xs c)
structure UpI (lt : α → α → Bool) (top pos : Nat) (xs : List α) : Prop where
  lt_ : pos < xs.length
  de : Desc top pos
  a : ∀ i, 0 < i → i < xs.length → top ≤ par i → i ≠ pos → le lt (g xs (par i)) (g xs i)
  b : pos ≠ top → ∀ c, 0 < c → c < xs.length → par c = pos → le lt (g xs (par pos)) (g xs c)

theorem par_cases {c p : Nat} (h0 : 0 < c) (h : par c = p) : c = 2 * p + 1 ∨ c = 2 * p + 2 := by
  unfold par at h; omega
theorem par_left (p : Nat) : par (2 * p + 1) = p := by unfold par; omega
theorem par_right (p : Nat) : par (2 * p + 2) = p := by unfold par; omega
theorem par_lt {i : Nat} (h : 0 < i) : par i < i := by unfold par; omega

/-- one step down: c, a least child of pos, comes up -/
theorem DownI.step (T : Tot lt) {top pos c : Nat} {xs : List α} (D : DownI lt top pos xs) (h0 : 0 < c) (hc : c < xs.length) (hp : par c = pos)
    (hm : ∀ c', 0 < c' → c' < xs.length → par c' = pos → le lt (g xs c) (g xs c')) : DownI lt top c (sw xs c pos) := by
  have hpc : pos < c := by rw [← hp]; exact par_lt h0
  have G := fun k => g_sw (xs := xs) hc D.lt_ k
  refine ⟨by rw [sw_len]; exact hc, ?_, fun i hi0 hi ht hic hpi => ?_, fun _ d hd0 hd hpd => ?_⟩
  · rcases par_cases h0 hp with e | e
    · rw [e]; exact D.de.left
    · rw [e]; exact D.de.right
  · rw [sw_len] at hi
    rw [G, G]
    by_cases e1 : i = pos
    · subst e1
      have hne : i ≠ top := by
        intro e; have := par_lt hi0; omega
      have hp2 := par_lt hi0
      rw [if_neg (by omega : par i ≠ i), if_neg hpi, if_pos rfl]
      exact D.b hne c h0 hc hp
    · rw [if_neg e1, if_neg hic]
      by_cases e2 : par i = pos
      · rw [if_pos e2]
        exact hm i hi0 hi e2
      · rw [if_neg e2, if_neg hpi]
        exact D.a i hi0 hi ht e1 e2
  · rw [sw_len] at hd
    have h1 := par_lt hd0
    rw [G, G, hp, if_pos rfl, if_neg (by omega : d ≠ pos), if_neg (by omega : d ≠ c)]
    have := D.a d hd0 hd (by rw [hpd]; have := D.de.ge; omega) (by omega) (by omega)
    rw [hpd] at this
    exact this
/-- no child: the way up begins -/
theorem DownI.leaf {top pos : Nat} {xs : List α} (D : DownI lt top pos xs) (h : ¬ pos < xs.length / 2) : UpI lt top pos xs := by
  refine ⟨D.lt_, D.de, fun i h0 hi ht hne => D.a i h0 hi ht hne ?_, D.b⟩
  intro e
  rcases par_cases h0 e with q | q <;> omega
/-- one step up -/
theorem UpI.step (T : Tot lt) {top pos : Nat} {xs : List α} (U : UpI lt top pos xs) (hn : pos ≠ top) (hl : lt (g xs pos) (g xs (par pos)) = true) : UpI lt top (par pos) (sw xs (par pos) pos) := by
  obtain ⟨d1, d2, d3⟩ := U.de.up hn
  have hpl := par_lt d3
  have hpp : par pos < xs.length := Nat.lt_trans hpl U.lt_
  have G := fun k => g_sw (xs := xs) hpp U.lt_ k
  have hle : le lt (g xs pos) (g xs (par pos)) := T.asym _ _ hl
  refine ⟨by rw [sw_len]; exact hpp, d1, fun i h0 hi ht hne => ?_, fun hnt c h0 hc hp => ?_⟩
  · rw [sw_len] at hi
    rw [G, G]
    by_cases e1 : i = pos
    · subst e1
      rw [if_neg (by omega : par i ≠ i), if_pos rfl, if_pos rfl]
      exact hle
    · rw [if_neg e1, if_neg hne]
      by_cases e2 : par i = pos
      · rw [if_pos e2]
        exact U.b hn i h0 hi e2
      · rw [if_neg e2]
        by_cases e3 : par i = par pos
        · rw [if_pos e3]
          have := U.a i h0 hi ht e1
          rw [e3] at this
          exact T.trans _ _ _ hle this
        · rw [if_neg e3]
          exact U.a i h0 hi ht e1
  · rw [sw_len] at hc
    obtain ⟨q1, q2, q3⟩ := d1.up hnt
    have hlt2 := par_lt q3
    have hq := U.a (par pos) q3 hpp q2 (by omega)
    rw [G, G, if_neg (by omega : par (par pos) ≠ pos), if_neg (by omega : par (par pos) ≠ par pos)]
    by_cases e1 : c = pos
    · rw [if_pos e1]
      exact hq
    · have hcp := par_lt h0
      rw [if_neg e1, if_neg (by omega : c ≠ par pos)]
      have := U.a c h0 hc (by omega) e1
      rw [hp] at this
      exact T.trans _ _ _ hq this
theorem UpI.top {top : Nat} {xs : List α} (U : UpI lt top top xs) : From lt top xs := fun i h0 hi ht => by
  have := par_lt h0
  exact U.a i h0 hi ht (by omega)
theorem UpI.stop {top pos : Nat} {xs : List α} (U : UpI lt top pos xs) (hl : lt (g xs pos) (g xs (par pos)) = false) : From lt top xs := fun i h0 hi ht => by
  by_cases e : i = pos
  · subst e; exact hl
  · exact U.a i h0 hi ht e
theorem DownI.start {k : Nat} {xs : List α} (hk : k < xs.length) (h : From lt (k + 1) xs) : DownI lt k k xs :=
  ⟨hk, .refl, fun i h0 hi ht _ hp => h i h0 hi (by omega), fun e => absurd rfl e⟩
theorem From.half {xs : List α} {k : Nat} (hk : xs.length / 2 ≤ k) : From lt k xs := fun i h0 hi ht => by
  unfold par at ht; omega
/-- pushed at the end -/
theorem UpI.pushed {xs : List α} (x : α) (h : From lt 0 xs) : UpI lt 0 xs.length (xs ++ [x]) := by
  have G : ∀ k, k < xs.length → g (xs ++ [x]) k = g xs k := fun k hk => by
    unfold g
    simp only [List.getD_eq_getElem?_getD]
    rw [List.getElem?_append_left hk]
  have de : ∀ n, Desc 0 n := by
    intro n
    induction n using Nat.strongRecOn with
    | ind n ih =>
      by_cases h : n = 0
      · subst h; exact .refl
      · have q := ih ((n - 1) / 2) (by omega)
        by_cases e : n % 2 = 1
        · have e2 : n = 2 * ((n - 1) / 2) + 1 := by omega
          rw [e2]; exact q.left
        · have e2 : n = 2 * ((n - 1) / 2) + 2 := by omega
          rw [e2]; exact q.right
  refine ⟨by simp, de _, fun i h0 hi _ hne => ?_, fun _ c h0 hc hp => ?_⟩
  · rw [List.length_append, List.length_singleton] at hi
    have hi2 : i < xs.length := by omega
    have := par_lt h0
    rw [G _ (by omega), G _ hi2]
    exact h i h0 hi2 (Nat.zero_le _)
  · rw [List.length_append, List.length_singleton] at hc
    have := par_lt h0
    omega
/-- the first is a least one -/
theorem From.least (T : Tot lt) (hr : ∀ a, lt a a = false) {xs : List α} (h : From lt 0 xs) : ∀ i, i < xs.length → le lt (g xs 0) (g xs i) := by
  intro i
  induction i using Nat.strongRecOn with
  | ind i ih =>
    intro hi
    by_cases e : i = 0
    · subst e; exact hr _
    · have h0 : 0 < i := by omega
      have hp := par_lt h0
      exact T.trans _ _ _ (ih (par i) hp (by omega)) (h i h0 hi (Nat.zero_le _))
theorem From.least_mem (T : Tot lt) (hr : ∀ a, lt a a = false) {xs : List α} (h : From lt 0 xs) : ∀ x ∈ xs, le lt (g xs 0) x := by
  intro x hx
  obtain ⟨i, hi, e⟩ := List.getElem_of_mem hx
  have := h.least T hr i hi
  rw [g_of (List.getElem?_eq_getElem hi), e] at this
  exact this
end
end Hq
/-! readings over plain data: what is known (G) lies below what stands (H) -/
namespace Dl
open PySem PySem.Spec PyProof.Rows L2 Evl

abbrev D := PyData
/-- the value bears the data -/
inductive Dq (H : Hp) : V → D → Prop
  | non : Dq H .non .none
  | bl (b : Bool) : Dq H (.bl b) (.bool b)
  | int (i : Int) : Dq H (.int i) (.int i)
  | lst {a : Addr} {xs : List V} {ds : List D} : H a = some (.lst xs) → xs.length = ds.length → (∀ (i : Nat) (x : V) (d : D), xs[i]? = some x → ds[i]? = some d → Dq H x d) → Dq H (.ref a) (.list ds)
  | tup {a : Addr} {xs : List V} {ds : List D} : H a = some (.tup xs) → xs.length = ds.length → (∀ (i : Nat) (x : V) (d : D), xs[i]? = some x → ds[i]? = some d → Dq H x d) → Dq H (.ref a) (.tuple ds)
/-- item by item -/
structure DqA (H : Hp) (xs : List V) (ds : List D) : Prop where
  len : xs.length = ds.length
  at_ : ∀ (i : Nat) (x : V) (d : D), xs[i]? = some x → ds[i]? = some d → Dq H x d
section
variable {H H' G : Hp} {v x : V} {d : D} {xs ys : List V} {ds es : List D} {a : Addr} {K : PySem.W.Frag}
theorem Dq.mono (h : Dq H v d) (e : Ex H H') : Dq H' v d := by
  induction h with
  | non => exact .non
  | bl b => exact .bl b
  | int i => exact .int i
  | lst h1 h2 _ ih => exact .lst (e _ _ h1) h2 ih
  | tup h1 h2 _ ih => exact .tup (e _ _ h1) h2 ih
theorem DqA.mono (h : DqA H xs ds) (e : Ex H H') : DqA H' xs ds := ⟨h.len, fun i x d h1 h2 => (h.at_ i x d h1 h2).mono e⟩
theorem Dq.mkL (h : H a = some (.lst xs)) (q : DqA H xs ds) : Dq H (.ref a) (.list ds) := .lst h q.len q.at_
theorem Dq.mkT (h : H a = some (.tup xs)) (q : DqA H xs ds) : Dq H (.ref a) (.tuple ds) := .tup h q.len q.at_
theorem Dq.intE {i : Int} (h : Dq H v (.int i)) : v = .int i := by cases h; rfl
theorem Dq.blE {b : Bool} (h : Dq H v (.bool b)) : v = .bl b := by cases h; rfl
theorem Dq.nonE (h : Dq H v .none) : v = .non := by cases h; rfl
theorem Dq.lstE (h : Dq H v (.list ds)) : ∃ a xs, v = .ref a ∧ H a = some (.lst xs) ∧ DqA H xs ds := by
  cases h with
  | lst h1 h2 h3 => exact ⟨_, _, rfl, h1, h2, h3⟩
theorem Dq.tupE (h : Dq H v (.tuple ds)) : ∃ a xs, v = .ref a ∧ H a = some (.tup xs) ∧ DqA H xs ds := by
  cases h with
  | tup h1 h2 h3 => exact ⟨_, _, rfl, h1, h2, h3⟩
theorem DqA.nil : DqA H [] [] := ⟨rfl, fun i x d h => by simp at h⟩
theorem DqA.cons (h : Dq H x d) (q : DqA H xs ds) : DqA H (x :: xs) (d :: ds) := ⟨by simp [q.len], fun i y e h1 h2 => by
  cases i with
  | zero => simp at h1 h2; subst h1 h2; exact h
  | succ i => exact q.at_ i y e (by simpa using h1) (by simpa using h2)⟩
theorem DqA.consE (h : DqA H xs (d :: ds)) : ∃ x ys, xs = x :: ys ∧ Dq H x d ∧ DqA H ys ds := by
  cases xs with
  | nil => have := h.len; simp at this
  | cons x ys => exact ⟨x, ys, rfl, h.at_ 0 x d rfl rfl, by have := h.len; simpa using this, fun i y e h1 h2 => h.at_ (i + 1) y e (by simpa using h1) (by simpa using h2)⟩
theorem DqA.nilE (h : DqA H xs []) : xs = [] := List.length_eq_zero_iff.mp h.len
theorem DqA.append (h : DqA H xs ds) (q : DqA H ys es) : DqA H (xs ++ ys) (ds ++ es) := by
  refine ⟨by simp [h.len, q.len], fun i x d h1 h2 => ?_⟩
  by_cases hi : i < xs.length
  · rw [List.getElem?_append_left hi] at h1
    rw [List.getElem?_append_left (by rw [← h.len]; exact hi)] at h2
    exact h.at_ i x d h1 h2
  · rw [List.getElem?_append_right (by omega)] at h1
    rw [List.getElem?_append_right (by rw [← h.len]; omega), ← h.len] at h2
    exact q.at_ _ x d h1 h2
theorem DqA.one (h : Dq H x d) : DqA H [x] [d] := .cons h .nil
theorem DqA.snoc (h : DqA H xs ds) (q : Dq H x d) : DqA H (xs ++ [x]) (ds ++ [d]) := h.append (.one q)
theorem DqA.get (h : DqA H xs ds) {i : Nat} (hd : ds[i]? = some d) : ∃ x, xs[i]? = some x ∧ Dq H x d := by
  have hl : i < xs.length := by rw [h.len]; exact (List.getElem?_eq_some_iff.mp hd).1
  exact ⟨xs[i], List.getElem?_eq_getElem hl, h.at_ i _ d (List.getElem?_eq_getElem hl) hd⟩
theorem DqA.getV (h : DqA H xs ds) {i : Nat} (hx : xs[i]? = some x) : ∃ d, ds[i]? = some d ∧ Dq H x d := by
  have hl : i < ds.length := by rw [← h.len]; exact (List.getElem?_eq_some_iff.mp hx).1
  exact ⟨ds[i], List.getElem?_eq_getElem hl, h.at_ i x _ hx (List.getElem?_eq_getElem hl)⟩
theorem DqA.set (h : DqA H xs ds) (i : Nat) (q : Dq H x d) : DqA H (xs.set i x) (ds.set i d) := by
  refine ⟨by simp [h.len], fun j y e h1 h2 => ?_⟩
  by_cases hj : i = j
  · subst hj
    have l1 : i < xs.length := by
      have := (List.getElem?_eq_some_iff.mp h1).1
      simpa using this
    rw [List.getElem?_set_self l1] at h1
    rw [List.getElem?_set_self (by rw [← h.len]; exact l1)] at h2
    cases h1; cases h2; exact q
  · rw [List.getElem?_set_ne hj] at h1 h2
    exact h.at_ j y e h1 h2
theorem DqA.take (h : DqA H xs ds) (n : Nat) : DqA H (xs.take n) (ds.take n) := by
  refine ⟨by simp [h.len], fun i x d h1 h2 => ?_⟩
  by_cases hi : i < n
  · rw [List.getElem?_take_of_lt hi] at h1 h2; exact h.at_ i x d h1 h2
  · rw [List.getElem?_take_eq_none (by omega)] at h1; cases h1
theorem DqA.drop (h : DqA H xs ds) (n : Nat) : DqA H (xs.drop n) (ds.drop n) := by
  refine ⟨by simp [h.len], fun i x d h1 h2 => ?_⟩
  rw [List.getElem?_drop] at h1 h2
  exact h.at_ _ x d h1 h2
theorem DqA.cut (h : DqA H xs ds) (lo hi : Option Int) : DqA H (cutV xs lo hi) ((ds.drop (HT.sIx ds.length 0 lo)).take (HT.sIx ds.length ds.length hi - HT.sIx ds.length 0 lo)) := by
  unfold cutV
  rw [h.len]
  exact (h.drop _).take _
theorem DqA.ofMap {α : Type} {f : α → V} {g : α → D} {l : List α} (h : ∀ z ∈ l, Dq H (f z) (g z)) : DqA H (l.map f) (l.map g) := by
  refine ⟨by simp, fun i x d h1 h2 => ?_⟩
  rw [List.getElem?_map] at h1 h2
  cases e : l[i]? with
  | none => rw [e] at h1; cases h1
  | some z =>
    rw [e] at h1 h2
    cases h1; cases h2
    exact h z (List.mem_of_getElem? e)
theorem DqA.ints (ns : List Int) : DqA H (ns.map V.int) (ns.map PyData.int) := .ofMap fun z _ => .int z
theorem DqA.intsE {ns : List Int} (h : DqA H xs (ns.map PyData.int)) : xs = ns.map V.int := by
  apply List.ext_getElem?
  intro i
  rw [List.getElem?_map]
  cases e : xs[i]? with
  | none =>
    have : ns[i]? = none := by
      rw [List.getElem?_eq_none_iff] at e ⊢
      have := h.len
      rw [List.length_map] at this
      omega
    rw [this]; rfl
  | some x =>
    obtain ⟨d, h1, h2⟩ := h.getV e
    rw [List.getElem?_map] at h1
    cases e2 : ns[i]? with
    | none => rw [e2] at h1; cases h1
    | some n =>
      rw [e2] at h1
      cases h1
      rw [h2.intE]; rfl
theorem DqA.blsE {bs : List Bool} (h : DqA H xs (bs.map PyData.bool)) : xs = bs.map V.bl := by
  apply List.ext_getElem?
  intro i
  rw [List.getElem?_map]
  cases e : xs[i]? with
  | none =>
    have : bs[i]? = none := by
      rw [List.getElem?_eq_none_iff] at e ⊢
      have := h.len
      rw [List.length_map] at this
      omega
    rw [this]; rfl
  | some x =>
    obtain ⟨d, h1, h2⟩ := h.getV e
    rw [List.getElem?_map] at h1
    cases e2 : bs[i]? with
    | none => rw [e2] at h1; cases h1
    | some n =>
      rw [e2] at h1
      cases h1
      rw [h2.blE]; rfl
theorem dpAll_of : ∀ {xs : List V} {ds : List D}, xs.length = ds.length → (∀ (i : Nat) (x : V) (d : D), xs[i]? = some x → ds[i]? = some d → Dp K H x d) → DpAll K H xs ds
  | [], [], _, _ => .nil
  | [], _ :: _, h, _ => by simp at h
  | _ :: _, [], h, _ => by simp at h
  | x :: xs, d :: ds, h, q => .cons (q 0 x d rfl rfl) (dpAll_of (by simpa using h) fun i y e h1 h2 => q (i + 1) y e (by simpa using h1) (by simpa using h2))
theorem Dq.dp (h : Dq H v d) : Dp K H v d := by
  induction h with
  | non => exact .non
  | bl b => exact .bl b
  | int i => exact .int i
  | lst h1 h2 _ ih => exact .lst (sq_of h1) (dpAll_of h2 ih)
  | tup h1 h2 _ ih => exact .tup (st_of h1) (dpAll_of h2 ih)
end

/-! ### steps of the known part -/
structure Nx (H H1 G H2 : Hp) : Prop where
  e1 : Ex H1 H2
  e2 : Ex H G
  e3 : Ex G H2
  fr : ∀ a, H a = none → H1 a ≠ none → G a = none
section
variable {H H1 G H2 G' H3 : Hp} {p : Addr} {o : HO}
theorem Nx.refl (e : Ex H H1) : Nx H H1 H H1 := ⟨.refl _, .refl _, e, fun _ h _ => h⟩
theorem Nx.trans (a : Nx H H1 G H2) (b : Nx G H2 G' H3) : Nx H H1 G' H3 :=
  ⟨a.e1.trans b.e1, a.e2.trans b.e2, b.e3, fun c h1 h2 => b.fr c (a.fr c h1 h2) (fun e => h2 (fresh_back a.e1 e))⟩
/-- the heap has grown, nothing more is known -/
theorem Nx.grow (a : Nx H H1 G H2) (e : Ex H2 H3) : Nx H H1 G H3 := ⟨a.e1.trans e, a.e2, a.e3.trans e, a.fr⟩
theorem Nx.of (e : Ex H H1) (e1 : Ex H1 H2) : Nx H H1 H H2 := ⟨e1, .refl _, e.trans e1, fun _ h _ => h⟩
/-- a new object is known -/
theorem Nx.new (a : Nx H H1 G H2) (hp : H2 p = none) : Nx H H1 (upd G p o) (upd H2 p o) := by
  have hg : G p = none := fresh_back a.e3 hp
  refine ⟨a.e1.trans (Ex.new hp), a.e2.trans (Ex.new hg), fun b u q => ?_, fun b h1 h2 => ?_⟩
  · by_cases e : b = p
    · subst e; rw [upd_same] at q ⊢; exact q
    · rw [upd_ne e] at q ⊢; exact a.e3 b u q
  · have : b ≠ p := fun e => by subst e; exact h2 (fresh_back a.e1 hp)
    rw [upd_ne this]; exact a.fr b h1 h2
/-- a new object of which the place is told -/
theorem Nx.add (a : Nx H H1 G H2) (h1 : H1 p = none) (hp : H2 p = some o) (hg : G p = none) : Nx H H1 (upd G p o) H2 := by
  refine ⟨a.e1, a.e2.trans (Ex.new hg), fun b u q => ?_, fun b q1 q2 => ?_⟩
  · by_cases e : b = p
    · subst e; rw [upd_same] at q; cases q; exact hp
    · rw [upd_ne e] at q; exact a.e3 b u q
  · have : b ≠ p := fun e => by subst e; exact q2 h1
    rw [upd_ne this]; exact a.fr b q1 q2
/-- an object of ours, of which nothing is known, is changed -/
theorem Nx.mut (a : Nx H H1 G H2) (h1 : H1 p = none) (hg : G p = none) : Nx H H1 G (upd H2 p o) :=
  ⟨a.e1.mut h1, a.e2, a.e3.mut hg, a.fr⟩
end

abbrev RR := Hp → V → Prop
def Mono (R : RR) : Prop := ∀ G G' v, Ex G G' → R G v → R G' v
def Is (v : V) : RR := fun _ x => x = v
abbrev Da (d : D) : RR := fun G x => Dq G x d
theorem mono_is {v : V} : Mono (Is v) := fun _ _ _ _ h => h
theorem mono_da {d : D} : Mono (Da d) := fun _ _ _ e h => h.mono e
/-- what is to be shown of a result -/
def Ret (H H1 : Hp) (R : RR) (Q : VK) : Prop := ∀ v H2 G, Nx H H1 G H2 → R G v → Q v H2
def EvR (te : TE) (σ : L2.St) (H : Hp) (R : RR) : Prop := ∀ H1, Ex H H1 → ∀ Q : VK, Ret H H1 R Q → te σ H1 Q
abbrev EvD (te : TE) (σ : L2.St) (H : Hp) (d : D) : Prop := EvR te σ H (Da d)
def EvAR (ta : TA) (σ : L2.St) (H : Hp) (Rs : Hp → List V → Prop) : Prop := ∀ H1, Ex H H1 → ∀ Q : List V → Hp → Prop, (∀ vs H2 G, Nx H H1 G H2 → Rs G vs → Q vs H2) → ta σ H1 Q
section
variable {K : PySem.W.Frag} {σ : L2.St} {H H' H0 H1 G : Hp} {ta tb te tx : TE} {t u : TT} {x y z v : V} {r : R2} {R S : RR} {Q : VK} {d : D}
theorem Ret.imp (h : Ret H H1 R Q) (i : ∀ G v, S G v → R G v) : Ret H H1 S Q := fun v H2 G n s => h v H2 G n (i G v s)
theorem Ret.later (h : Ret H0 H1 R Q) (n : Nx H0 H1 G H) : Ret G H R Q := fun v H2 G' n' s => h v H2 G' (n.trans n') s
theorem EvR.imp (h : EvR te σ H R) (i : ∀ G v, Ex H G → R G v → S G v) : EvR te σ H S := fun H1 e Q q => h H1 e Q fun v H2 G n r => q v H2 G n (i G v n.e2 r)
theorem EvR.of (h : Ev te σ H v) : EvR te σ H (Is v) := fun H1 e Q q => h H1 e Q fun H2 e2 => q v H2 H (.of e e2) rfl
theorem EvR.ofD (h : Ev te σ H v) (hd : Dq H v d) : EvD te σ H d := fun H1 e Q q => h H1 e Q fun H2 e2 => q v H2 H (.of e e2) hd
theorem EvR.ev (h : EvR te σ H (Is v)) : Ev te σ H v := fun H1 e Q q => h H1 e Q fun w H2 G n r => by
  cases r; exact q H2 n.e1
theorem EvD.int {i : Int} (h : EvD te σ H (.int i)) : Ev te σ H (.int i) := fun H1 e Q q => h H1 e Q fun w H2 G n r => by
  rw [Dq.intE r]; exact q H2 n.e1
theorem EvD.bl {b : Bool} (h : EvD te σ H (.bool b)) : Ev te σ H (.bl b) := fun H1 e Q q => h H1 e Q fun w H2 G n r => by
  rw [Dq.blE r]; exact q H2 n.e1
theorem EvD.non (h : EvD te σ H .none) : Ev te σ H .non := fun H1 e Q q => h H1 e Q fun w H2 G n r => by
  rw [Dq.nonE r]; exact q H2 n.e1
theorem EvD.ofInt {i : Int} (h : Ev te σ H (.int i)) : EvD te σ H (.int i) := .ofD h (.int i)
theorem EvD.ofBl {b : Bool} (h : Ev te σ H (.bl b)) : EvD te σ H (.bool b) := .ofD h (.bl b)
theorem EvR.ofL {xs : List V} (h : EvL te σ H xs) : EvR te σ H (fun G v => ∃ p, v = .ref p ∧ G p = some (.lst xs) ∧ H p = none) := fun H1 e Q q => h H1 e Q fun p H2 hp e2 h2 =>
  q _ H2 (upd H p (.lst xs)) ((Nx.of e e2).add hp h2 (fresh_back e hp)) ⟨p, rfl, upd_same, fresh_back e hp⟩
theorem EvR.ofU {xs : List V} (h : EvU te σ H xs) : EvR te σ H (fun G v => ∃ p, v = .ref p ∧ G p = some (.tup xs) ∧ H p = none) := fun H1 e Q q => h H1 e Q fun p H2 hp e2 h2 =>
  q _ H2 (upd H p (.tup xs)) ((Nx.of e e2).add hp h2 (fresh_back e hp)) ⟨p, rfl, upd_same, fresh_back e hp⟩
theorem EvD.ofL {xs : List V} {ds : List D} (h : EvL te σ H xs) (q : DqA H xs ds) : EvD te σ H (.list ds) := (EvR.ofL h).imp fun G v e ⟨p, e1, h1, _⟩ => by
  subst e1; exact .mkL h1 (q.mono e)
theorem EvD.ofU {xs : List V} {ds : List D} (h : EvU te σ H xs) (q : DqA H xs ds) : EvD te σ H (.tuple ds) := (EvR.ofU h).imp fun G v e ⟨p, e1, h1, _⟩ => by
  subst e1; exact .mkT h1 (q.mono e)

/-! ### expressions -/
theorem ed_var {i : Nat} (h : σ[i]? = some (some v)) (hd : Dq H v d) : EvD (tVar i) σ H d := .ofD (ev_var h) hd
theorem er_var {i : Nat} (h : σ[i]? = some (some v)) : EvR (tVar i) σ H (Is v) := .of (ev_var h)
theorem ed_c (hd : Dq H v d) : EvD (tC v) σ H d := .ofD ev_c hd
/-- both parts together -/
def joinH (G H' : Hp) : Hp := fun a => match G a with
  | some o => some o
  | none => H' a
theorem joinH_l {G H' : Hp} : Ex G (joinH G H') := fun a o h => by unfold joinH; rw [h]
theorem EvR.mono (mR : Mono R) (h : EvR te σ H R) (e : Ex H H') : EvR te σ H' R := fun H1 e1 Q q => h H1 (e.trans e1) Q fun v H2 G n r => by
  refine q v H2 (joinH G H') ⟨n.e1, fun a o ha => ?_, fun a o ha => ?_, fun a h1 h2 => ?_⟩ (mR _ _ _ joinH_l r)
  · unfold joinH
    cases g : G a with
    | none => exact ha
    | some u =>
      have z1 := n.e3 a u g
      have z2 := n.e1 a o (e1 a o ha)
      rw [z1] at z2; exact z2
  · unfold joinH at ha
    cases g : G a with
    | none => rw [g] at ha; exact n.e1 a o (e1 a o ha)
    | some u => rw [g] at ha; cases ha; exact n.e3 a _ g
  · have z : H a = none := fresh_back e h1
    unfold joinH
    rw [n.fr a z h2]; exact h1
theorem EvD.mono (h : EvD te σ H d) (e : Ex H H') : EvD te σ H' d := EvR.mono mono_da h e
/-- two operands -/
theorem er_op {T : RR} (ha : EvR ta σ H R) (hb : EvR tb σ H S) (mR : Mono R) (mS : Mono S)
    (hr : ∀ G H2 v w Q, Ex H G → Ex G H2 → R G v → S G w → Ret G H2 T Q → r v w H2 Q) : EvR (tOp r ta tb) σ H T := fun H1 e Q q =>
  ha H1 e _ fun v H2 G n hv => (EvR.mono mS hb n.e2) H2 n.e3 _ fun w H3 G' n' hw => hr G' H3 v w Q (n.e2.trans n'.e2) n'.e3 (mR _ _ _ n'.e2 hv) hw (Ret.later q (n.trans n'))
/-- a scalar of two operands -/
theorem ev_op2 (ha : EvR ta σ H R) (hb : EvR tb σ H S) (mR : Mono R) (mS : Mono S)
    (hr : ∀ G H2 v w (Q : VK), Ex H G → Ex G H2 → R G v → S G w → Q z H2 → r v w H2 Q) : Ev (tOp r ta tb) σ H z := fun H1 e Q q =>
  ha H1 e _ fun v H2 G n hv => (EvR.mono mS hb n.e2) H2 n.e3 _ fun w H3 G' n' hw => hr G' H3 v w Q (n.e2.trans n'.e2) n'.e3 (mR _ _ _ n'.e2 hv) hw (q H3 (n.e1.trans n'.e1))
theorem ed_ixL {ds : List D} {i : Nat} (ha : EvD ta σ H (.list ds)) (hb : Ev tb σ H (.int (i : Int))) (h : ds[i]? = some d) : EvD (tOp (rIxL K) ta tb) σ H d :=
  er_op ha (.of hb) mono_da mono_is fun G H2 v w Q e e2 hv hw q => by
    cases hw
    obtain ⟨a, xs, rfl, h1, h2⟩ := hv.lstE
    obtain ⟨x, hx, hd⟩ := h2.get h
    exact ⟨a, xs, (i : Int), x, rfl, rfl, sq_of (e2 _ _ h1), atI_nat hx, q x H2 G (.refl e2) hd⟩
theorem ed_ixT {ds : List D} {i : Nat} (ha : EvD ta σ H (.tuple ds)) (hb : Ev tb σ H (.int (i : Int))) (h : ds[i]? = some d) : EvD (tOp (rIxT K) ta tb) σ H d :=
  er_op ha (.of hb) mono_da mono_is fun G H2 v w Q e e2 hv hw q => by
    cases hw
    obtain ⟨a, xs, rfl, h1, h2⟩ := hv.tupE
    obtain ⟨x, hx, hd⟩ := h2.get h
    exact ⟨a, xs, (i : Int), x, rfl, rfl, st_of (e2 _ _ h1), atI_nat hx, q x H2 G (.refl e2) hd⟩
/-- the last item -/
theorem ed_lastL {ds : List D} (ha : EvD ta σ H (.list (ds ++ [d]))) (hb : Ev tb σ H (.int (-1))) : EvD (tOp (rIxL K) ta tb) σ H d :=
  er_op ha (.of hb) mono_da mono_is fun G H2 v w Q e e2 hv hw q => by
    cases hw
    obtain ⟨a, xs, rfl, h1, h2⟩ := hv.lstE
    obtain ⟨x, hx, hd⟩ := h2.get (i := ds.length) (d := d) (by simp)
    have hl := h2.len
    have ex : xs = xs.dropLast ++ [x] := by
      have hne : xs ≠ [] := by intro z; rw [z] at hl; simp at hl
      have hg : xs.getLast hne = x := by
        have : xs[xs.length - 1]? = some x := by
          rw [hl, List.length_append, List.length_singleton, Nat.add_sub_cancel]; exact hx
        rw [← List.getLast?_eq_getElem?, List.getLast?_eq_getLast hne] at this
        exact Option.some.inj this
      rw [← hg, List.dropLast_concat_getLast]
    exact ⟨a, xs, -1, x, rfl, rfl, sq_of (e2 _ _ h1), by rw [ex]; exact atI_last _ _, q x H2 G (.refl e2) hd⟩
theorem ed_lastT {ds : List D} (ha : EvD ta σ H (.tuple (ds ++ [d]))) (hb : Ev tb σ H (.int (-1))) : EvD (tOp (rIxT K) ta tb) σ H d :=
  er_op ha (.of hb) mono_da mono_is fun G H2 v w Q e e2 hv hw q => by
    cases hw
    obtain ⟨a, xs, rfl, h1, h2⟩ := hv.tupE
    obtain ⟨x, hx, hd⟩ := h2.get (i := ds.length) (d := d) (by simp)
    have hl := h2.len
    have ex : xs = xs.dropLast ++ [x] := by
      have hne : xs ≠ [] := by intro z; rw [z] at hl; simp at hl
      have hg : xs.getLast hne = x := by
        have : xs[xs.length - 1]? = some x := by
          rw [hl, List.length_append, List.length_singleton, Nat.add_sub_cancel]; exact hx
        rw [← List.getLast?_eq_getElem?, List.getLast?_eq_getLast hne] at this
        exact Option.some.inj this
      rw [← hg, List.dropLast_concat_getLast]
    exact ⟨a, xs, -1, x, rfl, rfl, st_of (e2 _ _ h1), by rw [ex]; exact atI_last _ _, q x H2 G (.refl e2) hd⟩
/-! data of ints -/
abbrev eN (n : Nat) : D := .int (n : Int)
abbrev eI (i : Int) : D := .int i
theorem all_flat (ns : List Int) : (ns.map V.int).all flatV = true := by
  rw [List.all_map]; exact List.all_eq_true.mpr fun _ _ => rfl
theorem inV_int (i : Int) (ns : List Int) : inV (.int i) (ns.map V.int) = decide (i ∈ ns) := by
  unfold inV
  rw [List.any_map]
  induction ns with
  | nil => simp
  | cons n ns ih =>
    rw [List.any_cons, ih]
    have e : ((fun y => eqV y (V.int i)) ∘ V.int) n = (n == i) := rfl
    rw [e]
    by_cases h : n = i
    · subst h; simp
    · have h2 : ¬ i = n := fun z => h z.symm
      simp [h, h2]
theorem map_eN (ns : List Nat) : ns.map eN = (ns.map fun n : Nat => (n : Int)).map PyData.int := by rw [List.map_map]; rfl
theorem dec_mem_nat (n : Nat) (ns : List Nat) : decide ((n : Int) ∈ ns.map fun n : Nat => (n : Int)) = decide (n ∈ ns) := by
  apply decide_eq_decide.mpr
  rw [List.mem_map]
  constructor
  · rintro ⟨m, h, e⟩; have : m = n := by omega
    subst this; exact h
  · intro h; exact ⟨n, h, rfl⟩
section
variable {neg : Bool}
theorem ev_inL {n : Nat} {ns : List Nat} (ha : Ev ta σ H (.int (n : Int))) (hb : EvD tb σ H (.list (ns.map eN))) : Ev (tOp (rIn K neg) ta tb) σ H (.bl (if neg then !decide (n ∈ ns) else decide (n ∈ ns))) :=
  ev_op2 (.of ha) hb mono_is mono_da fun G H2 v w Q e e2 hv hw q => by
    cases hv
    obtain ⟨a, xs, rfl, h1, h2⟩ := hw.lstE
    rw [map_eN] at h2
    have ex := h2.intsE
    subst ex
    refine ⟨a, _, rfl, .inl (sq_of (e2 _ _ h1)), rfl, all_flat _, ?_⟩
    rw [inV_int, dec_mem_nat]
    exact q
theorem ev_inT {n : Nat} {ns : List Nat} (ha : Ev ta σ H (.int (n : Int))) (hb : EvD tb σ H (.tuple (ns.map eN))) : Ev (tOp (rIn K neg) ta tb) σ H (.bl (if neg then !decide (n ∈ ns) else decide (n ∈ ns))) :=
  ev_op2 (.of ha) hb mono_is mono_da fun G H2 v w Q e e2 hv hw q => by
    cases hv
    obtain ⟨a, xs, rfl, h1, h2⟩ := hw.tupE
    rw [map_eN] at h2
    have ex := h2.intsE
    subst ex
    refine ⟨a, _, rfl, .inr (st_of (e2 _ _ h1)), rfl, all_flat _, ?_⟩
    rw [inV_int, dec_mem_nat]
    exact q
end
/-- deep: x in l; x == y, x != y -/
theorem ev_inD {e : D} {ds : List D} (ha : EvD ta σ H e) (hb : EvD tb σ H (.list ds)) (s1 : SeqAt.shaped e = true) (s2 : SeqAt.shaped (.list ds) = true) : Ev (tOp (rInD K) ta tb) σ H (.bl (ds.any fun z => PyData.eqv z e)) :=
  ev_op2 ha hb mono_da mono_da fun G H2 v w Q _ e2 hv hw q => ⟨e, ds, (hv.mono e2).dp, (hw.mono e2).dp, s1, s2, q⟩
theorem ev_niD {e : D} {ds : List D} (ha : EvD ta σ H e) (hb : EvD tb σ H (.list ds)) (s1 : SeqAt.shaped e = true) (s2 : SeqAt.shaped (.list ds) = true) : Ev (tOp (rNotInD K) ta tb) σ H (.bl (!ds.any fun z => PyData.eqv z e)) :=
  ev_op2 ha hb mono_da mono_da fun G H2 v w Q _ e2 hv hw q => ⟨e, ds, (hv.mono e2).dp, (hw.mono e2).dp, s1, s2, q⟩
theorem ev_eqD {e e' : D} (ha : EvD ta σ H e) (hb : EvD tb σ H e') (s1 : SeqAt.shaped e = true) (s2 : SeqAt.shaped e' = true) : Ev (tOp (rEqD K) ta tb) σ H (.bl (PyData.eqv e e')) :=
  ev_op2 ha hb mono_da mono_da fun G H2 v w Q _ e2 hv hw q => ⟨e, e', (hv.mono e2).dp, (hw.mono e2).dp, s1, s2, q⟩
theorem ev_neD {e e' : D} (ha : EvD ta σ H e) (hb : EvD tb σ H e') (s1 : SeqAt.shaped e = true) (s2 : SeqAt.shaped e' = true) : Ev (tOp (rNeD K) ta tb) σ H (.bl (!PyData.eqv e e')) :=
  ev_op2 ha hb mono_da mono_da fun G H2 v w Q _ e2 hv hw q => ⟨e, e', (hv.mono e2).dp, (hw.mono e2).dp, s1, s2, q⟩
/-! calls of built-ins -/
theorem er_cb1 {rc : List V → Hp → VK → Prop} {T : RR} (ha : EvR ta σ H R) (hr : ∀ G H2 v Q, Ex H G → Ex G H2 → R G v → Ret G H2 T Q → rc [v] H2 Q) : EvR (tCB rc (tCons ta tNil)) σ H T := fun H1 e Q q =>
  ha H1 e _ fun v H2 G n hv => hr G H2 v Q n.e2 n.e3 hv (Ret.later q n)
theorem ev_cb1 {rc : List V → Hp → VK → Prop} (ha : EvR ta σ H R) (hr : ∀ G H2 v (Q : VK), Ex H G → Ex G H2 → R G v → Q z H2 → rc [v] H2 Q) : Ev (tCB rc (tCons ta tNil)) σ H z := fun H1 e Q q =>
  ha H1 e _ fun v H2 G n hv => hr G H2 v Q n.e2 n.e3 hv (q H2 n.e1)
abbrev rLenQ (K : PySem.W.Frag) : List V → Hp → VK → Prop := fun xs H Q => ∃ p ys, xs = [.ref p] ∧ (SqL K H p ys ∨ SqT K H p ys) ∧ Q (.int ys.length) H
theorem ev_lenL {ds : List D} (ha : EvD ta σ H (.list ds)) : Ev (tCB (rLenQ K) (tCons ta tNil)) σ H (.int (ds.length : Int)) := ev_cb1 ha fun G H2 v Q e e2 hv q => by
  obtain ⟨a, xs, rfl, h1, h2⟩ := hv.lstE
  exact ⟨a, xs, rfl, .inl (sq_of (e2 _ _ h1)), by rw [h2.len]; exact q⟩
theorem ev_lenT {ds : List D} (ha : EvD ta σ H (.tuple ds)) : Ev (tCB (rLenQ K) (tCons ta tNil)) σ H (.int (ds.length : Int)) := ev_cb1 ha fun G H2 v Q e e2 hv q => by
  obtain ⟨a, xs, rfl, h1, h2⟩ := hv.tupE
  exact ⟨a, xs, rfl, .inr (st_of (e2 _ _ h1)), by rw [h2.len]; exact q⟩
/-- a new list, a new tuple of known items -/
theorem Ret.newL {xs : List V} {ds : List D} (q : Ret G H (Da (.list ds)) Q) (e : Ex G H) (h : DqA G xs ds) {p : Addr} (hp : H p = none) : Q (.ref p) (upd H p (.lst xs)) :=
  q _ _ (upd G p (.lst xs)) ((Nx.refl e).new hp) (.mkL upd_same (h.mono (Ex.new (fresh_back e hp))))
theorem Ret.newT {xs : List V} {ds : List D} (q : Ret G H (Da (.tuple ds)) Q) (e : Ex G H) (h : DqA G xs ds) {p : Addr} (hp : H p = none) : Q (.ref p) (upd H p (.tup xs)) :=
  q _ _ (upd G p (.tup xs)) ((Nx.refl e).new hp) (.mkT upd_same (h.mono (Ex.new (fresh_back e hp))))
abbrev rTupQ (K : PySem.W.Frag) : List V → Hp → VK → Prop := fun xs H Q => ∃ p ys, xs = [.ref p] ∧ ((SqL K H p ys ∧ ∀ l, H l = none → Q (.ref l) (upd H l (.tup ys))) ∨ (SqT K H p ys ∧ Q (.ref p) H))
theorem ed_tupL {ds : List D} (ha : EvD ta σ H (.list ds)) : EvD (tCB (rTupQ K) (tCons ta tNil)) σ H (.tuple ds) := er_cb1 ha fun G H2 v Q e e2 hv q => by
  obtain ⟨a, xs, rfl, h1, h2⟩ := hv.lstE
  exact ⟨a, xs, rfl, .inl ⟨sq_of (e2 _ _ h1), fun l hl => Ret.newT q e2 h2 hl⟩⟩
abbrev rLstQ (K : PySem.W.Frag) : List V → Hp → VK → Prop := fun xs H Q => ∃ p ys, xs = [.ref p] ∧ (SqL K H p ys ∨ SqT K H p ys) ∧ ∀ l, H l = none → Q (.ref l) (upd H l (.lst ys))
theorem ed_lstL {ds : List D} (ha : EvD ta σ H (.list ds)) : EvD (tCB (rLstQ K) (tCons ta tNil)) σ H (.list ds) := er_cb1 ha fun G H2 v Q e e2 hv q => by
  obtain ⟨a, xs, rfl, h1, h2⟩ := hv.lstE
  exact ⟨a, xs, rfl, .inl (sq_of (e2 _ _ h1)), fun l hl => Ret.newL q e2 h2 hl⟩
theorem ed_lstT {ds : List D} (ha : EvD ta σ H (.tuple ds)) : EvD (tCB (rLstQ K) (tCons ta tNil)) σ H (.list ds) := er_cb1 ha fun G H2 v Q e e2 hv q => by
  obtain ⟨a, xs, rfl, h1, h2⟩ := hv.tupE
  exact ⟨a, xs, rfl, .inr (st_of (e2 _ _ h1)), fun l hl => Ret.newL q e2 h2 hl⟩
/-- list + list; list * int; slices -/
theorem ed_cat {ds es : List D} (ha : EvD ta σ H (.list ds)) (hb : EvD tb σ H (.list es)) (hz : ds.length + es.length ≤ sizeLine) : EvD (tOp rCat ta tb) σ H (.list (ds ++ es)) :=
  er_op ha hb mono_da mono_da fun G H2 v w Q e e2 hv hw q => by
    obtain ⟨a, xs, rfl, h1, h2⟩ := hv.lstE
    obtain ⟨b, ys, rfl, h3, h4⟩ := hw.lstE
    exact ⟨a, b, xs, ys, rfl, rfl, e2 _ _ h1, e2 _ _ h3, by rw [h2.len, h4.len]; exact hz, fun p hp => Ret.newL q e2 (h2.append h4) hp⟩
theorem DqA.rep {xs : List V} {ds : List D} (h : DqA G xs ds) : ∀ k : Nat, DqA G (List.replicate k xs).flatten (List.replicate k ds).flatten
  | 0 => .nil
  | k + 1 => by rw [List.replicate_succ, List.replicate_succ, List.flatten_cons, List.flatten_cons]; exact h.append (DqA.rep h k)
/-- slices -/
def cutD (ds : List D) (lo hi : Option Int) : List D := (ds.drop (HT.sIx ds.length 0 lo)).take (HT.sIx ds.length ds.length hi - HT.sIx ds.length 0 lo)
theorem ed_slL {tl th : TO} {ds : List D} {lo hi : Option Int} (h : EvD te σ H (.list ds)) (h1 : EvO tl σ H lo) (h2 : EvO th σ H hi) : EvD (tSl (rSlL K) te tl th) σ H (.list (cutD ds lo hi)) := fun H1 e Q q =>
  h H1 e _ fun v H2 G n hv => h1 H2 (e.trans n.e1) _ fun H3 e3 => h2 H3 ((e.trans n.e1).trans e3) _ fun H4 e4 => by
    obtain ⟨a, xs, rfl, g1, g2⟩ := hv.lstE
    have n4 := n.grow (e3.trans e4)
    exact ⟨a, xs, rfl, sq_of (n4.e3 _ _ g1), fun p hp => Ret.newL (Ret.later q n4) n4.e3 (g2.cut lo hi) hp⟩
/-- displays -/
def EvAD (tA : TA) (σ : L2.St) (H : Hp) (ds : List D) : Prop := ∀ H1, Ex H H1 → ∀ Q : List V → Hp → Prop, (∀ vs H2 G, Nx H H1 G H2 → DqA G vs ds → Q vs H2) → tA σ H1 Q
theorem ead_nil : EvAD tNil σ H [] := fun H1 e Q q => q [] H1 H (.refl e) .nil
theorem EvAD.mono {tA : TA} {ds : List D} (h : EvAD tA σ H ds) (e : Ex H H') : EvAD tA σ H' ds := fun H1 e1 Q q => h H1 (e.trans e1) Q fun vs H2 G n r => by
  refine q vs H2 (joinH G H') ⟨n.e1, fun a o ha => ?_, fun a o ha => ?_, fun a h1 h2 => ?_⟩ (r.mono joinH_l)
  · unfold joinH
    cases g : G a with
    | none => exact ha
    | some u =>
      have z1 := n.e3 a u g
      have z2 := n.e1 a o (e1 a o ha)
      rw [z1] at z2; exact z2
  · unfold joinH at ha
    cases g : G a with
    | none => rw [g] at ha; exact n.e1 a o (e1 a o ha)
    | some u => rw [g] at ha; cases ha; exact n.e3 a _ g
  · have z : H a = none := fresh_back e h1
    unfold joinH
    rw [n.fr a z h2]; exact h1
theorem ead_cons {tr : TA} {ds : List D} (h : EvD te σ H d) (hr : EvAD tr σ H ds) : EvAD (tCons te tr) σ H (d :: ds) := fun H1 e Q q =>
  h H1 e _ fun v H2 G n hv => (hr.mono n.e2) H2 n.e3 _ fun vs H3 G' n' hvs => q (v :: vs) H3 G' (n.trans n') (.cons (hv.mono n'.e2) hvs)
theorem ed_lst {tA : TA} {ds : List D} (h : EvAD tA σ H ds) (hz : ds.length ≤ sizeLine) : EvD (tLst tA) σ H (.list ds) := fun H1 e Q q =>
  h H1 e _ fun vs H2 G n hv => ⟨by rw [hv.len]; exact hz, fun p hp => Ret.newL (Ret.later q n) n.e3 hv hp⟩
theorem ed_tup {tA : TA} {ds : List D} (h : EvAD tA σ H ds) (hz : ds.length ≤ sizeLine) : EvD (tTup tA) σ H (.tuple ds) := fun H1 e Q q =>
  h H1 e _ fun vs H2 G n hv => ⟨by rw [hv.len]; exact hz, fun p hp => Ret.newT (Ret.later q n) n.e3 hv hp⟩
end
/-! ### promises -/
def sp1 {α : Type} (A : α → RR) (P : α → Prop) (B : α → RR) : Sp := fun vs H1 Q _ => ∃ (z : α) (G : Hp) (v : V), vs = [v] ∧ Ex G H1 ∧ P z ∧ A z G v ∧ Ret G H1 (B z) Q
def sp2 {α : Type} (A1 A2 : α → RR) (P : α → Prop) (B : α → RR) : Sp := fun vs H1 Q _ => ∃ (z : α) (G : Hp) (v w : V), vs = [v, w] ∧ Ex G H1 ∧ P z ∧ A1 z G v ∧ A2 z G w ∧ Ret G H1 (B z) Q
def sp3 {α : Type} (A1 A2 A3 : α → RR) (P : α → Prop) (B : α → RR) : Sp := fun vs H1 Q _ => ∃ (z : α) (G : Hp) (v w x : V), vs = [v, w, x] ∧ Ex G H1 ∧ P z ∧ A1 z G v ∧ A2 z G w ∧ A3 z G x ∧ Ret G H1 (B z) Q
def sp4 {α : Type} (A1 A2 A3 A4 : α → RR) (P : α → Prop) (B : α → RR) : Sp := fun vs H1 Q _ => ∃ (z : α) (G : Hp) (v w x y : V), vs = [v, w, x, y] ∧ Ex G H1 ∧ P z ∧ A1 z G v ∧ A2 z G w ∧ A3 z G x ∧ A4 z G y ∧ Ret G H1 (B z) Q
section
variable {α : Type} {σ : L2.St} {H : Hp} {t1 t2 t3 t4 : TE} {A1 A2 A3 A4 B : α → RR} {P : α → Prop} {E : XK}
theorem er_call1 (z : α) (h1 : EvR t1 σ H (A1 z)) (hP : P z) : EvR (tCall (sp1 A1 P B) [] E (tCons t1 tNil)) σ H (B z) := fun H1 e Q q =>
  h1 H1 e _ fun v H2 G n hv => ⟨z, G, v, rfl, n.e3, hP, hv, Ret.later q n⟩
theorem er_call2 (z : α) (h1 : EvR t1 σ H (A1 z)) (h2 : EvR t2 σ H (A2 z)) (m1 : Mono (A1 z)) (m2 : Mono (A2 z)) (hP : P z) : EvR (tCall (sp2 A1 A2 P B) [] E (tCons t1 (tCons t2 tNil))) σ H (B z) := fun H1 e Q q =>
  h1 H1 e _ fun v H2 G n hv => (EvR.mono m2 h2 n.e2) H2 n.e3 _ fun w H3 G' n' hw => ⟨z, G', v, w, rfl, n'.e3, hP, m1 _ _ _ n'.e2 hv, hw, Ret.later q (n.trans n')⟩
theorem er_call3 (z : α) (h1 : EvR t1 σ H (A1 z)) (h2 : EvR t2 σ H (A2 z)) (h3 : EvR t3 σ H (A3 z)) (m1 : Mono (A1 z)) (m2 : Mono (A2 z)) (m3 : Mono (A3 z)) (hP : P z) : EvR (tCall (sp3 A1 A2 A3 P B) [] E (tCons t1 (tCons t2 (tCons t3 tNil)))) σ H (B z) := fun H1 e Q q =>
  h1 H1 e _ fun v H2 G n hv => (EvR.mono m2 h2 n.e2) H2 n.e3 _ fun w H3 G' n' hw => (EvR.mono m3 h3 (n.e2.trans n'.e2)) H3 n'.e3 _ fun x H4 G2 n2 hx =>
    ⟨z, G2, v, w, x, rfl, n2.e3, hP, m1 _ _ _ (n'.e2.trans n2.e2) hv, m2 _ _ _ n2.e2 hw, hx, Ret.later q ((n.trans n').trans n2)⟩
theorem er_call4 (z : α) (h1 : EvR t1 σ H (A1 z)) (h2 : EvR t2 σ H (A2 z)) (h3 : EvR t3 σ H (A3 z)) (h4 : EvR t4 σ H (A4 z)) (m1 : Mono (A1 z)) (m2 : Mono (A2 z)) (m3 : Mono (A3 z)) (m4 : Mono (A4 z)) (hP : P z) :
    EvR (tCall (sp4 A1 A2 A3 A4 P B) [] E (tCons t1 (tCons t2 (tCons t3 (tCons t4 tNil))))) σ H (B z) := fun H1 e Q q =>
  h1 H1 e _ fun v H2 G n hv => (EvR.mono m2 h2 n.e2) H2 n.e3 _ fun w H3 G' n' hw => (EvR.mono m3 h3 (n.e2.trans n'.e2)) H3 n'.e3 _ fun x H4 G2 n2 hx =>
    (EvR.mono m4 h4 ((n.e2.trans n'.e2).trans n2.e2)) H4 n2.e3 _ fun y H5 G3 n3 hy =>
    ⟨z, G3, v, w, x, y, rfl, n3.e3, hP, m1 _ _ _ ((n'.e2.trans n2.e2).trans n3.e2) hv, m2 _ _ _ (n2.e2.trans n3.e2) hw, m3 _ _ _ n3.e2 hx, hy, Ret.later q (((n.trans n').trans n2).trans n3)⟩
end

/-! ### comprehensions -/
section
variable {K : PySem.W.Frag} {σ : L2.St} {H H0 H1 Hs G : Hp} {tl te : TE} {t : TT} {g : TG} {vs : List Nat} {j : Nat}
structure CwR (H Hs : Hp) (Pl : Nat → List D → Prop) (Dl : Addr) (i : Nat) (H' : Hp) : Prop where
  ex : ∃ G acc ds, Nx H Hs G H' ∧ G Dl = none ∧ Hs Dl = none ∧ H' Dl = some (.lst acc) ∧ DqA G acc ds ∧ Pl i ds ∧ acc.length ≤ i
theorem cw_turnR {Pl : Nat → List D → Prop} {Dl : Addr} {i : Nat} {H' : Hp} {f : Bool} {σ2 : L2.St} (p : CwR H Hs Pl Dl i H') (hi : i < 10000000) (ht : EvT t σ2 H f)
    (he : f = true → EvR te σ2 H (fun G v => ∃ e, (∀ es, Pl i es → Pl (i + 1) (es ++ [e])) ∧ Dq G v e)) (hno : f = false → ∀ es, Pl i es → Pl (i + 1) es) :
    t σ2 H' fun b H3 => if b = true then te σ2 H3 fun y H4 => ∃ acc, H4 Dl = some (.lst acc) ∧ acc.length < sizeLine ∧ CwR H Hs Pl Dl (i + 1) (upd H4 Dl (.lst (acc ++ [y]))) else CwR H Hs Pl Dl (i + 1) H3 := by
  obtain ⟨G, acc, ds, n, g1, g2, h1, q, hp, hl⟩ := p.ex
  refine ht H' (n.e2.trans n.e3) _ fun H3 e3 => ?_
  cases hf : f with
  | true =>
    show te σ2 H3 _
    have n3 := n.grow e3
    have hm : Mono (fun G v => ∃ e, (∀ es, Pl i es → Pl (i + 1) (es ++ [e])) ∧ Dq G v e) := fun _ _ _ e ⟨d, a, b⟩ => ⟨d, a, b.mono e⟩
    refine (EvR.mono hm (he hf) n.e2) H3 n3.e3 _ fun y H4 G4 n4 ⟨e, pe, hy⟩ => ?_
    have h3 : H3 Dl = some (.lst acc) := e3 _ _ h1
    have g4 : G4 Dl = none := n4.fr Dl g1 (by rw [h3]; simp)
    refine ⟨acc, n4.e1 _ _ h3, ?_, ⟨G4, acc ++ [y], ds ++ [e], (n3.trans n4).mut g2 g4, g4, g2, upd_same, (q.mono n4.e2).snoc hy, pe ds hp, ?_⟩⟩
    · exact Nat.lt_of_le_of_lt hl (Nat.lt_of_lt_of_le hi (by decide))
    · rw [List.length_append, List.length_singleton]; omega
  | false =>
    show CwR H Hs Pl Dl (i + 1) H3
    exact ⟨G, acc, ds, n.grow e3, g1, g2, e3 _ _ h1, q, hno hf ds hp, by omega⟩
theorem cw_start {Pl : Nat → List D → Prop} {Dl : Addr} (e : Ex H Hs) (hD : Hs Dl = none) (h0 : Pl 0 []) : CwR H Hs Pl Dl 0 (upd Hs Dl (.lst [])) :=
  ⟨H, [], [], (Nx.refl e).grow (Ex.new hD) |> fun n => n, fresh_back e hD, hD, upd_same, .nil, h0, Nat.le_refl _⟩
theorem cw_end {Pl : Nat → List D → Prop} {Dl : Addr} {n : Nat} {H' : Hp} {Q : VK} {R : RR} (p : CwR H Hs Pl Dl n H') (q : Ret H Hs R Q) (hR : ∀ G v es, Pl n es → Dq G v (.list es) → R G v) : Q (.ref Dl) H' := by
  obtain ⟨G, acc, ds, nx, g1, g2, h1, qa, hp, _⟩ := p.ex
  exact q _ _ (upd G Dl (.lst acc)) (nx.add g2 h1 g1) (hR _ _ ds hp (.mkL upd_same (qa.mono (Ex.new g1))))
abbrev Lp (Pl : Nat → List D → Prop) (n : Nat) : RR := fun G v => ∃ es, Pl n es ∧ Dq G v (.list es)
/-- one turn, told -/
def TurnD (σ : L2.St) (vs : List Nat) (g : TG) (t : TT) (te : TE) (Pl : Nat → List D → Prop) (i : Nat) (x : V) (G : Hp) : Prop :=
  ∃ σ2 f, (∀ H' (Q : L2.St → Hp → Prop), Ex G H' → Q σ2 H' → g x (wipe σ vs) H' Q) ∧ wipe σ2 vs = wipe σ vs ∧ EvT t σ2 G f ∧ (f = true → EvR te σ2 G (fun G' v => ∃ e, (∀ es, Pl i es → Pl (i + 1) (es ++ [e])) ∧ Dq G' v e)) ∧ (f = false → ∀ es, Pl i es → Pl (i + 1) es)
theorem TurnD.run {Pl : Nat → List D → Prop} {i : Nat} {x : V} {Dl : Addr} {H' : Hp} (T : TurnD σ vs g t te Pl i x H) (p : CwR H Hs Pl Dl i H') (hi : i < 10000000) :
    g x (wipe σ vs) H' fun σ2 H2 => wipe σ2 vs = wipe σ vs ∧ t σ2 H2 fun b H3 =>
      if b = true then te σ2 H3 fun y H4 => ∃ acc, H4 Dl = some (.lst acc) ∧ acc.length < sizeLine ∧ CwR H Hs Pl Dl (i + 1) (upd H4 Dl (.lst (acc ++ [y]))) else CwR H Hs Pl Dl (i + 1) H3 := by
  obtain ⟨σ2, f, h1, h2, h3, h4, h5⟩ := T
  have hx : Ex H H' := by obtain ⟨G, _, _, n, _⟩ := p.ex; exact n.e2.trans n.e3
  exact h1 H' _ hx ⟨h2, cw_turnR p hi h3 h4 h5⟩
theorem er_lcL {ds : List D} {Pl : Nat → List D → Prop} (hs : EvD tl σ H (.list ds)) (hz : ds.length ≤ 10000000) (h0 : Pl 0 [])
    (turn : ∀ (i : Nat) (d : D) (x : V) (G : Hp), Ex H G → ds[i]? = some d → Dq G x d → TurnD σ vs g t te Pl i x G) : EvR (tLc (iList K tl) g t te vs) σ H (Lp Pl ds.length) := fun H0 e Q q =>
  hs H0 e _ fun v Hs G n hv => by
    obtain ⟨a, xs, rfl, h1, h2⟩ := hv.lstE
    refine ⟨a, rfl, ⟨xs, sq_of (n.e3 _ _ h1)⟩, fun Dl hD => lc_list (xs := xs) (CwR G Hs Pl Dl) (cw_start n.e3 hD h0) (fun i H' _ p => ?_) (fun i x H' hi p => ?_) (fun H' p => cw_end p (Ret.later q n) fun G v es h1' h2' => ⟨es, by rw [← h2.len]; exact h1', h2'⟩)⟩
    · obtain ⟨G', _, _, n', _⟩ := p.ex
      exact sq_of (n'.e3 _ _ (n'.e2 _ _ h1))
    · obtain ⟨d, hd, hx⟩ := h2.getV hi
      exact (turn i d x G n.e2 hd hx).run p (by have := (List.getElem?_eq_some_iff.mp hd).1; omega)
theorem er_lcT {ds : List D} {Pl : Nat → List D → Prop} (hs : EvD tl σ H (.tuple ds)) (hz : ds.length ≤ 10000000) (h0 : Pl 0 [])
    (turn : ∀ (i : Nat) (d : D) (x : V) (G : Hp), Ex H G → ds[i]? = some d → Dq G x d → TurnD σ vs g t te Pl i x G) : EvR (tLc (iTup K tl) g t te vs) σ H (Lp Pl ds.length) := fun H0 e Q q =>
  hs H0 e _ fun v Hs G n hv => by
    obtain ⟨a, xs, rfl, h1, h2⟩ := hv.tupE
    refine ⟨a, rfl, ⟨xs, st_of (n.e3 _ _ h1)⟩, fun Dl hD => lc_tup (xs := xs) (CwR G Hs Pl Dl) (cw_start n.e3 hD h0) (fun i H' _ p => ?_) (fun i x H' hi p => ?_) (fun H' p => cw_end p (Ret.later q n) fun G v es h1' h2' => ⟨es, by rw [← h2.len]; exact h1', h2'⟩)⟩
    · obtain ⟨G', _, _, n', _⟩ := p.ex
      exact st_of (n'.e3 _ _ (n'.e2 _ _ h1))
    · obtain ⟨d, hd, hx⟩ := h2.getV hi
      exact (turn i d x G n.e2 hd hx).run p (by have := (List.getElem?_eq_some_iff.mp hd).1; omega)
theorem er_lcR {ta : TA} {m : Nat} {Pl : Nat → List D → Prop} (hs : EvA ta σ H [.int (m : Int)]) (hz : m ≤ 10000000) (h0 : Pl 0 [])
    (turn : ∀ (i : Nat), i < m → TurnD σ vs g t te Pl i (.int (i : Int)) H) : EvR (tLc (iRng1 ta) g t te vs) σ H (Lp Pl m) := fun H0 e Q q =>
  hs H0 e _ fun Hs e1 => by
    refine ⟨m, rfl, by omega, by omega, fun Dl hD => lc_range (lo := 0) (n := m) (CwR H Hs Pl Dl) (cw_start (e.trans e1) hD h0) (fun i H' hi p => ?_) (fun H' p => cw_end p (Ret.later q (Nx.of e e1)) fun G v es h1 h2 => ⟨es, h1, h2⟩)⟩
    rw [show (0 : Int) + (i : Int) = (i : Int) from Int.zero_add _]
    exact (turn i hi).run p (by omega)
/-! over lists of one kind: a filter and a map -/
def PlF {α : Type} (l : List α) (f : α → Bool) (e : α → D) (i : Nat) (es : List D) : Prop := es = ((l.take i).filter f).map e
theorem plF_yes {α : Type} {l : List α} {f : α → Bool} {e : α → D} {i : Nat} {z : α} (hz : l[i]? = some z) (hf : f z = true) {es : List D} (h : PlF l f e i es) : PlF l f e (i + 1) (es ++ [e z]) := by
  unfold PlF at h ⊢
  rw [h, List.take_add_one, hz, List.filter_append, List.map_append]
  simp [hf]
theorem plF_no {α : Type} {l : List α} {f : α → Bool} {e : α → D} {i : Nat} {z : α} (hz : l[i]? = some z) (hf : f z = false) {es : List D} (h : PlF l f e i es) : PlF l f e (i + 1) es := by
  unfold PlF at h ⊢
  rw [h, List.take_add_one, hz, List.filter_append, List.map_append]
  simp [hf]
def TurnF (σ : L2.St) (vs : List Nat) (g : TG) (t : TT) (te : TE) (f : Bool) (e : D) (x : V) (G : Hp) : Prop :=
  ∃ σ2, (∀ H' (Q : L2.St → Hp → Prop), Ex G H' → Q σ2 H' → g x (wipe σ vs) H' Q) ∧ wipe σ2 vs = wipe σ vs ∧ EvT t σ2 G f ∧ (f = true → EvD te σ2 G e)
theorem TurnF.turn {α : Type} {l : List α} {f : α → Bool} {e : α → D} {i : Nat} {z : α} {x : V} (hz : l[i]? = some z) (T : TurnF σ vs g t te (f z) (e z) x G) : TurnD σ vs g t te (PlF l f e) i x G := by
  obtain ⟨σ2, h1, h2, h3, h4⟩ := T
  exact ⟨σ2, f z, h1, h2, h3, fun hf => (h4 hf).imp fun G' v _ hv => ⟨e z, fun es => plF_yes hz hf, hv⟩, fun hf es => plF_no hz hf⟩
theorem Lp.all {α : Type} {l : List α} {f : α → Bool} {e : α → D} {n : Nat} (hn : l.length ≤ n) {v : V} (h : Lp (PlF l f e) n G v) : Dq G v (.list ((l.filter f).map e)) := by
  obtain ⟨es, h1, h2⟩ := h
  unfold PlF at h1
  rw [List.take_of_length_le hn] at h1
  rw [← h1]; exact h2
theorem ed_lcL {α : Type} {l : List α} {c : α → D} (f : α → Bool) (e : α → D) (hs : EvD tl σ H (.list (l.map c))) (hz : l.length ≤ 10000000)
    (turn : ∀ (z : α) (x : V) (G : Hp), Ex H G → z ∈ l → Dq G x (c z) → TurnF σ vs g t te (f z) (e z) x G) : EvD (tLc (iList K tl) g t te vs) σ H (.list ((l.filter f).map e)) := by
  refine (er_lcL (Pl := PlF l f e) hs (by rw [List.length_map]; exact hz) rfl fun i d x G eg hd hx => ?_).imp fun G v _ h => Lp.all (by rw [List.length_map]; exact Nat.le_refl _) h
  rw [List.getElem?_map] at hd
  cases hl : l[i]? with
  | none => rw [hl] at hd; cases hd
  | some z =>
    rw [hl] at hd; cases hd
    exact (turn z x G eg (List.mem_of_getElem? hl) hx).turn hl
theorem ed_lcT {α : Type} {l : List α} {c : α → D} (f : α → Bool) (e : α → D) (hs : EvD tl σ H (.tuple (l.map c))) (hz : l.length ≤ 10000000)
    (turn : ∀ (z : α) (x : V) (G : Hp), Ex H G → z ∈ l → Dq G x (c z) → TurnF σ vs g t te (f z) (e z) x G) : EvD (tLc (iTup K tl) g t te vs) σ H (.list ((l.filter f).map e)) := by
  refine (er_lcT (Pl := PlF l f e) hs (by rw [List.length_map]; exact hz) rfl fun i d x G eg hd hx => ?_).imp fun G v _ h => Lp.all (by rw [List.length_map]; exact Nat.le_refl _) h
  rw [List.getElem?_map] at hd
  cases hl : l[i]? with
  | none => rw [hl] at hd; cases hd
  | some z =>
    rw [hl] at hd; cases hd
    exact (turn z x G eg (List.mem_of_getElem? hl) hx).turn hl
theorem ed_lcR {ta : TA} {m : Nat} (f : Nat → Bool) (e : Nat → D) (hs : EvA ta σ H [.int (m : Int)]) (hz : m ≤ 10000000)
    (turn : ∀ (i : Nat), i < m → TurnF σ vs g t te (f i) (e i) (.int (i : Int)) H) : EvD (tLc (iRng1 ta) g t te vs) σ H (.list (((List.range m).filter f).map e)) := by
  refine (er_lcR (Pl := PlF (List.range m) f e) hs hz rfl fun i hi => ?_).imp fun G v _ h => Lp.all (by rw [List.length_range]; exact Nat.le_refl _) h
  have hl : (List.range m)[i]? = some i := by rw [List.getElem?_range hi]
  exact (turn i hi).turn hl
/-- the target is a name -/
theorem turnF_name {f : Bool} {e : D} {x : V} (hw : wipe ((wipe σ vs).set j (some x)) vs = wipe σ vs) (ht : EvT t ((wipe σ vs).set j (some x)) G f) (he : f = true → EvD te ((wipe σ vs).set j (some x)) G e) : TurnF σ vs (gName j) t te f e x G :=
  ⟨_, fun _ _ _ q => q, hw, ht, he⟩
theorem turnD_name {Pl : Nat → List D → Prop} {i : Nat} {f : Bool} {x : V} (hw : wipe ((wipe σ vs).set j (some x)) vs = wipe σ vs) (ht : EvT t ((wipe σ vs).set j (some x)) G f)
    (he : f = true → EvR te ((wipe σ vs).set j (some x)) G (fun G' v => ∃ e, (∀ es, Pl i es → Pl (i + 1) (es ++ [e])) ∧ Dq G' v e)) (hno : f = false → ∀ es, Pl i es → Pl (i + 1) es) : TurnD σ vs (gName j) t te Pl i x G :=
  ⟨_, f, fun _ _ _ q => q, hw, ht, he, hno⟩
theorem et_yes {H : Hp} : EvT tYes σ H true := fun H1 _ _ q => q H1 (.refl _)
/-- the target is a pair of names -/
theorem gTup2 {i1 i2 : Nat} {x : V} {d1 d2 : D} {σ0 : L2.St} (hx : Dq G x (.tuple [d1, d2])) : ∃ x1 x2, Dq G x1 d1 ∧ Dq G x2 d2 ∧ ∀ H' (Q : L2.St → Hp → Prop), Ex G H' → Q ((σ0.set i1 (some x1)).set i2 (some x2)) H' → gTup K 2 (gCons (gName i1) (gCons (gName i2) gNil)) x σ0 H' Q := by
  obtain ⟨a, xs, rfl, h1, h2⟩ := hx.tupE
  obtain ⟨x1, ys, rfl, q1, h3⟩ := h2.consE
  obtain ⟨x2, zs, rfl, q2, h4⟩ := h3.consE
  have := h4.nilE
  subst this
  exact ⟨x1, x2, q1, q2, fun H' Q e q => ⟨a, [x1, x2], rfl, st_of (e _ _ h1), rfl, x1, [x2], rfl, x2, [], rfl, rfl, q⟩⟩
theorem turnF_pair {i1 i2 : Nat} {f : Bool} {e d1 d2 : D} {x : V} (hx : Dq G x (.tuple [d1, d2])) (h : ∀ x1 x2, Dq G x1 d1 → Dq G x2 d2 → wipe (((wipe σ vs).set i1 (some x1)).set i2 (some x2)) vs = wipe σ vs ∧ EvT t (((wipe σ vs).set i1 (some x1)).set i2 (some x2)) G f ∧ (f = true → EvD te (((wipe σ vs).set i1 (some x1)).set i2 (some x2)) G e)) :
    TurnF σ vs (gTup K 2 (gCons (gName i1) (gCons (gName i2) gNil))) t te f e x G := by
  obtain ⟨x1, x2, q1, q2, q⟩ := gTup2 (K := K) (i1 := i1) (i2 := i2) (σ0 := wipe σ vs) hx
  obtain ⟨a, b, c⟩ := h x1 x2 q1 q2
  exact ⟨_, q, a, b, c⟩
end

/-! ### statements: n : Nx H0 H1 G H, from the entry (H0 known, H1 stands) to here -/
section
variable {K : PySem.W.Frag} {σ : L2.St} {H H0 H1 G : Hp} {te : TE} {t : TT} {R : RR} {Dn : Ends} {tu tw tz : TS} {v : V}
theorem l_asg {i : Nat} (n : Nx H0 H1 G H) (h : EvR te σ G R) (k : ∀ v G' H', Nx H0 H1 G' H' → Nx G H G' H' → R G' v → Dn.nx (σ.set i (some v)) H') : tAsg te (gName i) Dn σ H :=
  h H n.e3 _ fun v H2 G2 m r => k v G2 H2 (n.trans m) m r
theorem k_asg {i : Nat} (n : Nx H0 H1 G H) (h : EvR te σ G R) (k : ∀ v G' H', Nx H0 H1 G' H' → Nx G H G' H' → R G' v → tz Dn (σ.set i (some v)) H') : tSeq (tAsg te (gName i)) tz Dn σ H :=
  l_asg (Dn := { Dn with nx := tz Dn }) n h k
/-- x = a value -/
theorem l_asgV {i : Nat} (n : Nx H0 H1 G H) (h : Ev te σ H v) (k : ∀ H', Nx H0 H1 G H' → Ex H H' → Dn.nx (σ.set i (some v)) H') : tAsg te (gName i) Dn σ H :=
  h H (.refl _) _ fun H2 e => k H2 (n.grow e) e
theorem k_asgV {i : Nat} (n : Nx H0 H1 G H) (h : Ev te σ H v) (k : ∀ H', Nx H0 H1 G H' → Ex H H' → tz Dn (σ.set i (some v)) H') : tSeq (tAsg te (gName i)) tz Dn σ H :=
  l_asgV (Dn := { Dn with nx := tz Dn }) n h k
/-- x = a new list that will change -/
theorem k_asgM {i : Nat} {xs : List V} (n : Nx H0 H1 G H) (h : EvL te σ H xs) (k : ∀ p H', Nx H0 H1 G H' → Ex H H' → G p = none → H1 p = none → H p = none → H' p = some (.lst xs) → tz Dn (σ.set i (some (.ref p))) H') : tSeq (tAsg te (gName i)) tz Dn σ H :=
  h H (.refl _) _ fun p H2 hp e h2 => k p H2 (n.grow e) e (fresh_back n.e3 hp) (fresh_back n.e1 hp) hp h2
theorem k_ret {Q : VK} (n : Nx H0 H1 G H) (q : Ret H0 H1 R Q) (h : EvR te σ G R) (hq : Dn.rt = Q) : tRet te Dn σ H :=
  h H n.e3 _ fun v H2 G2 m r => by rw [hq]; exact q v H2 G2 (n.trans m) r
theorem l_if {b : Bool} (n : Nx H0 H1 G H) (h : EvT t σ H b) (h1 : b = true → ∀ H', Nx H0 H1 G H' → Ex H H' → tu Dn σ H') (h2 : b = false → ∀ H', Nx H0 H1 G H' → Ex H H' → tw Dn σ H') : tIfS t tu tw Dn σ H :=
  h H (.refl _) _ fun H2 e => by
    cases b with
    | true => exact h1 rfl H2 (n.grow e) e
    | false => exact h2 rfl H2 (n.grow e) e
theorem k_if {b : Bool} (n : Nx H0 H1 G H) (h : EvT t σ H b) (h1 : b = true → ∀ H', Nx H0 H1 G H' → Ex H H' → tu { Dn with nx := tz Dn } σ H') (h2 : b = false → ∀ H', Nx H0 H1 G H' → Ex H H' → tw { Dn with nx := tz Dn } σ H') : tSeq (tIfS t tu tw) tz Dn σ H :=
  l_if (Dn := { Dn with nx := tz Dn }) n h h1 h2
/-- an if without else -/
theorem k_when {b : Bool} (n : Nx H0 H1 G H) (h : EvT t σ H b) (h1 : b = true → ∀ H', Nx H0 H1 G H' → Ex H H' → tu { Dn with nx := tz Dn } σ H') (h2 : b = false → ∀ H', Nx H0 H1 G H' → Ex H H' → tz Dn σ H') : tSeq (tIfS t tu tNext) tz Dn σ H :=
  k_if n h h1 h2
theorem l_when {b : Bool} (n : Nx H0 H1 G H) (h : EvT t σ H b) (h1 : b = true → ∀ H', Nx H0 H1 G H' → Ex H H' → tu Dn σ H') (h2 : b = false → ∀ H', Nx H0 H1 G H' → Ex H H' → Dn.nx σ H') : tIfS t tu tNext Dn σ H :=
  l_if n h h1 h2
/-- an object of ours that we know from now on -/
theorem Nx.keep {p : Addr} {o : HO} (n : Nx H0 H1 G H) (h1 : H1 p = none) (hp : H p = some o) (hg : G p = none) : Nx H0 H1 (upd G p o) H ∧ Ex G (upd G p o) := ⟨n.add h1 hp hg, Ex.new hg⟩
/-- l.append(e), l ours -/
theorem l_app {ta : TE} {l : Addr} {xs : List V} (n : Nx H0 H1 G H) (h1 : H1 l = none) (hg : G l = none) (hl : H l = some (.lst xs)) (ha : Ev ta σ H (.ref l)) (h : EvR te σ G R) (hz : xs.length < sizeLine)
    (k : ∀ v G' H', Nx H0 H1 G' H' → Ex G G' → (∀ a, G a = none → H a ≠ none → G' a = none) → (∀ b o, b ≠ l → H b = some o → H' b = some o) → H' l = some (.lst (xs ++ [v])) → R G' v → Dn.nx σ H') : tDrop (tBM K "list" rAppend ta (tCons te tNil)) Dn σ H :=
  ha H (.refl _) _ fun H2 e2 => ⟨Or.inl ⟨rfl, xs, sq_of (e2 l _ hl)⟩, h H2 (n.e3.trans e2) _ fun v H3 G' m r => by
    have fr : ∀ a, G a = none → H a ≠ none → G' a = none := fun a q1 q2 => m.fr a q1 fun z => q2 (fresh_back e2 z)
    have g' : G' l = none := fr l hg (by rw [hl]; simp)
    refine ⟨l, xs, v, rfl, rfl, m.e1 _ _ (e2 l _ hl), hz, k v G' _ (((n.grow e2).trans m).mut h1 g') m.e2 fr (fun b o hb q => ?_) upd_same r⟩
    rw [upd_ne hb]; exact m.e1 _ _ (e2 _ _ q)⟩
theorem k_app {ta : TE} {l : Addr} {xs : List V} (n : Nx H0 H1 G H) (h1 : H1 l = none) (hg : G l = none) (hl : H l = some (.lst xs)) (ha : Ev ta σ H (.ref l)) (h : EvR te σ G R) (hz : xs.length < sizeLine)
    (k : ∀ v G' H', Nx H0 H1 G' H' → Ex G G' → (∀ a, G a = none → H a ≠ none → G' a = none) → (∀ b o, b ≠ l → H b = some o → H' b = some o) → H' l = some (.lst (xs ++ [v])) → R G' v → tz Dn σ H') : tSeq (tDrop (tBM K "list" rAppend ta (tCons te tNil))) tz Dn σ H :=
  l_app (Dn := { Dn with nx := tz Dn }) n h1 hg hl ha h hz k
/-- l[i] = e, l ours -/
theorem l_setL {ta tb : TE} {l : Addr} {xs : List V} {j : Nat} (n : Nx H0 H1 G H) (h1 : H1 l = none) (hg : G l = none) (hl : H l = some (.lst xs)) (h : EvR te σ G R) (ha : Ev ta σ H (.ref l)) (hb : Ev tb σ H (.int (j : Int))) (hj : j < xs.length)
    (k : ∀ v G' H', Nx H0 H1 G' H' → Ex G G' → (∀ a, G a = none → H a ≠ none → G' a = none) → (∀ b o, b ≠ l → H b = some o → H' b = some o) → H' l = some (.lst (xs.set j v)) → R G' v → Dn.nx σ H') : tAsg te (gSub ta tb rSetL) Dn σ H :=
  h H n.e3 _ fun v H2 G' m r => ha H2 m.e1 _ fun H3 e3 => hb H3 (m.e1.trans e3) _ fun H4 e4 => by
    have g' : G' l = none := m.fr l hg (by rw [hl]; simp)
    refine ⟨l, xs, (j : Int), j, rfl, rfl, e4 _ _ (e3 _ _ (m.e1 _ _ hl)), ixN_nat hj, k v G' _ (((n.trans m).grow (e3.trans e4)).mut h1 g') m.e2 m.fr (fun b o hb q => ?_) upd_same r⟩
    rw [upd_ne hb]; exact e4 _ _ (e3 _ _ (m.e1 _ _ q))
theorem k_setL {ta tb : TE} {l : Addr} {xs : List V} {j : Nat} (n : Nx H0 H1 G H) (h1 : H1 l = none) (hg : G l = none) (hl : H l = some (.lst xs)) (h : EvR te σ G R) (ha : Ev ta σ H (.ref l)) (hb : Ev tb σ H (.int (j : Int))) (hj : j < xs.length)
    (k : ∀ v G' H', Nx H0 H1 G' H' → Ex G G' → (∀ a, G a = none → H a ≠ none → G' a = none) → (∀ b o, b ≠ l → H b = some o → H' b = some o) → H' l = some (.lst (xs.set j v)) → R G' v → tz Dn σ H') : tSeq (tAsg te (gSub ta tb rSetL)) tz Dn σ H :=
  l_setL (Dn := { Dn with nx := tz Dn }) n h1 hg hl h ha hb hj k
/-! loops over what is known: W turn slots known heap; Pw: what a turn's end asks -/
abbrev Pw (H0 H1 Ga : Hp) (W : Nat → L2.St → Hp → Hp → Prop) (i : Nat) : L2.St → Hp → Prop := fun σ H => ∃ G', Nx H0 H1 G' H ∧ Ex Ga G' ∧ W i σ G' H
theorem l_forL {tl : TE} {g : TG} {ds : List D} (n : Nx H0 H1 G H) (h : EvD tl σ G (.list ds)) (W : Nat → L2.St → Hp → Hp → Prop) (h0 : ∀ Ga H', Nx G H Ga H' → W 0 σ Ga H')
    (hs : ∀ Ga i d x σ' G' H', Ex G Ga → ds[i]? = some d → Dq Ga x d → Nx H0 H1 G' H' → Ex Ga G' → W i σ' G' H' → g x σ' H' fun σ2 H2 => tu { Dn with nx := Pw H0 H1 Ga W (i + 1), ct := Pw H0 H1 Ga W (i + 1), bk := Dn.nx } σ2 H2)
    (hd : ∀ σ' G' H', Nx H0 H1 G' H' → Ex G G' → W ds.length σ' G' H' → Dn.nx σ' H') : tFor (iList K tl) g tu Dn σ H :=
  h H n.e3 _ fun v Hs Ga m hv => by
    obtain ⟨a, xs, rfl, h1, h2⟩ := hv.lstE
    refine ⟨a, rfl, ⟨xs, sq_of (m.e3 _ _ h1)⟩, for_list (xs := xs) (Pw H0 H1 Ga W) ⟨Ga, n.trans m, .refl _, h0 Ga Hs m⟩ (fun i σ' H' _ p => ?_) (fun i x σ' H' hi p => ?_) (fun σ' H' p => ?_)⟩
    · obtain ⟨G', n', e', _⟩ := p
      exact sq_of (n'.e3 _ _ (e' _ _ h1))
    · obtain ⟨G', n', e', w⟩ := p
      obtain ⟨d, hd', hx⟩ := h2.getV hi
      exact hs Ga i d x σ' G' H' m.e2 hd' hx n' e' w
    · obtain ⟨G', n', e', w⟩ := p
      exact hd σ' G' H' n' (m.e2.trans e') (by rw [← h2.len]; exact w)
theorem l_forT {tl : TE} {g : TG} {ds : List D} (n : Nx H0 H1 G H) (h : EvD tl σ G (.tuple ds)) (W : Nat → L2.St → Hp → Hp → Prop) (h0 : ∀ Ga H', Nx G H Ga H' → W 0 σ Ga H')
    (hs : ∀ Ga i d x σ' G' H', Ex G Ga → ds[i]? = some d → Dq Ga x d → Nx H0 H1 G' H' → Ex Ga G' → W i σ' G' H' → g x σ' H' fun σ2 H2 => tu { Dn with nx := Pw H0 H1 Ga W (i + 1), ct := Pw H0 H1 Ga W (i + 1), bk := Dn.nx } σ2 H2)
    (hd : ∀ σ' G' H', Nx H0 H1 G' H' → Ex G G' → W ds.length σ' G' H' → Dn.nx σ' H') : tFor (iTup K tl) g tu Dn σ H :=
  h H n.e3 _ fun v Hs Ga m hv => by
    obtain ⟨a, xs, rfl, h1, h2⟩ := hv.tupE
    refine ⟨a, rfl, ⟨xs, st_of (m.e3 _ _ h1)⟩, for_tup (xs := xs) (Pw H0 H1 Ga W) ⟨Ga, n.trans m, .refl _, h0 Ga Hs m⟩ (fun i σ' H' _ p => ?_) (fun i x σ' H' hi p => ?_) (fun σ' H' p => ?_)⟩
    · obtain ⟨G', n', e', _⟩ := p
      exact st_of (n'.e3 _ _ (e' _ _ h1))
    · obtain ⟨G', n', e', w⟩ := p
      obtain ⟨d, hd', hx⟩ := h2.getV hi
      exact hs Ga i d x σ' G' H' m.e2 hd' hx n' e' w
    · obtain ⟨G', n', e', w⟩ := p
      exact hd σ' G' H' n' (m.e2.trans e') (by rw [← h2.len]; exact w)
theorem l_forR {ta : TA} {g : TG} {m : Nat} (n : Nx H0 H1 G H) (h : EvA ta σ H [.int (m : Int)]) (hm : m ≤ 100000000) (W : Nat → L2.St → Hp → Hp → Prop) (h0 : ∀ H', Nx H0 H1 G H' → Ex H H' → W 0 σ G H')
    (hs : ∀ i σ' G' H', i < m → Nx H0 H1 G' H' → Ex G G' → W i σ' G' H' → g (.int (i : Int)) σ' H' fun σ2 H2 => tu { Dn with nx := Pw H0 H1 G W (i + 1), ct := Pw H0 H1 G W (i + 1), bk := Dn.nx } σ2 H2)
    (hd : ∀ σ' G' H', Nx H0 H1 G' H' → Ex G G' → W m σ' G' H' → Dn.nx σ' H') : tFor (iRng1 ta) g tu Dn σ H :=
  h H (.refl _) _ fun Hs e => by
    refine ⟨m, rfl, by omega, by omega, for_range (lo := 0) (n := m) (Pw H0 H1 G W) ⟨G, n.grow e, .refl _, h0 Hs (n.grow e) e⟩ (fun i σ' H' hi p => ?_) (fun σ' H' p => ?_)⟩
    · obtain ⟨G', n', e', w⟩ := p
      rw [show (0 : Int) + (i : Int) = (i : Int) from Int.zero_add _]
      exact hs i σ' G' H' hi n' e' w
    · obtain ⟨G', n', e', w⟩ := p
      exact hd σ' G' H' n' e' w
theorem l_forR2 {ta : TA} {g : TG} {lo m : Nat} (n : Nx H0 H1 G H) (h : EvA ta σ H [.int (lo : Int), .int (m : Int)]) (hm : m ≤ 100000000) (hlo : lo ≤ m) (W : Nat → L2.St → Hp → Hp → Prop) (h0 : ∀ H', Nx H0 H1 G H' → Ex H H' → W lo σ G H')
    (hs : ∀ i σ' G' H', lo ≤ i → i < m → Nx H0 H1 G' H' → Ex G G' → W i σ' G' H' → g (.int (i : Int)) σ' H' fun σ2 H2 => tu { Dn with nx := Pw H0 H1 G W (i + 1), ct := Pw H0 H1 G W (i + 1), bk := Dn.nx } σ2 H2)
    (hd : ∀ σ' G' H', Nx H0 H1 G' H' → Ex G G' → W m σ' G' H' → Dn.nx σ' H') : tFor (iRng2 ta) g tu Dn σ H :=
  h H (.refl _) _ fun Hs e => by
    have hn : ((m : Int) - (lo : Int)).toNat = m - lo := by omega
    refine ⟨lo, m, rfl, ⟨by omega, by omega, by omega, by omega⟩, for_range (lo := (lo : Int)) (n := ((m : Int) - (lo : Int)).toNat) (fun i => Pw H0 H1 G W (lo + i)) ⟨G, n.grow e, .refl _, h0 Hs (n.grow e) e⟩ (fun i σ' H' hi p => ?_) (fun σ' H' p => ?_)⟩
    · obtain ⟨G', n', e', w⟩ := p
      rw [show (lo : Int) + (i : Int) = ((lo + i : Nat) : Int) by omega]
      exact hs (lo + i) σ' G' H' (by omega) (by omega) n' e' w
    · obtain ⟨G', n', e', w⟩ := p
      rw [hn, show lo + (m - lo) = m by omega] at w
      exact hd σ' G' H' n' e' w
theorem l_while (n : Nx H0 H1 G H) (W : Nat → L2.St → Hp → Hp → Prop) (m0 : Nat) (h0 : W m0 σ G H)
    (hs : ∀ m σ' G' H', Nx H0 H1 G' H' → Ex G G' → W m σ' G' H' → ∃ b, EvT t σ' H' b ∧
      (b = true → ∀ H2, Ex H' H2 → tu { Dn with nx := fun σ3 H3 => ∃ m', m' < m ∧ Pw H0 H1 G W m' σ3 H3, ct := fun σ3 H3 => ∃ m', m' < m ∧ Pw H0 H1 G W m' σ3 H3, bk := Dn.nx } σ' H2) ∧ (b = false → ∀ H2, Ex H' H2 → Dn.nx σ' H2)) : tWhile t tu Dn σ H :=
  s_while (Pw H0 H1 G W) m0 ⟨G, n, .refl _, h0⟩ fun m σ' H' ⟨G', n', e', w⟩ => by
    obtain ⟨b, hb, h1, h2⟩ := hs m σ' G' H' n' e' w
    exact ⟨b, hb, fun hbt H2 e2 => ⟨_, fun σ3 H3 q => q, h1 hbt H2 e2⟩, h2⟩
end
end Dl
/-! heappush, heappop, heapify of lists of pairs of ints -/
namespace Hr
open PySem PySem.Spec PyProof.Rows L2 Hq
theorem entry_push : entryFor table "_heapq.heappush" = some Builtin.«_heapq.heappush» := entryFor_of_tree (by kernel_rfl)
theorem entry_pop : entryFor table "_heapq.heappop" = some Builtin.«_heapq.heappop» := entryFor_of_tree (by kernel_rfl)
theorem entry_ify : entryFor table "_heapq.heapify" = some Builtin.«_heapq.heapify» := entryFor_of_tree (by kernel_rfl)
theorem entry_sift : entryFor table "_heapq.heapify.sift" = some Builtin.«_heapq.heapify.sift» := entryFor_of_tree (by kernel_rfl)
theorem kind_push : builtinKind "_heapq.heappush" = none := by kernel_rfl
theorem kind_pop : builtinKind "_heapq.heappop" = none := by kernel_rfl
theorem kind_ify : builtinKind "_heapq.heapify" = none := by kernel_rfl
theorem plain_push : plainId "_heapq.heappush" = true := by decide +kernel
theorem plain_pop : plainId "_heapq.heappop" = true := by decide +kernel
theorem plain_ify : plainId "_heapq.heapify" = true := by decide +kernel
theorem plain_sift : plainId "_heapq.heapify.sift" = true := by decide +kernel
theorem args_push (a b : Value) : argsOk "_heapq.heappush" ⟨[a, b], []⟩ := by unfold argsOk; kernel_rfl
theorem args_pop (a : Value) : argsOk "_heapq.heappop" ⟨[a], []⟩ := by unfold argsOk; kernel_rfl
theorem args_ify (a : Value) : argsOk "_heapq.heapify" ⟨[a], []⟩ := by unfold argsOk; kernel_rfl

abbrev Al := Value × Int × Int
instance : Inhabited Al := ⟨(Value.none, 0, 0)⟩
def lt2 (a b : Al) : Bool := HT.lexLt [a.2.1, a.2.2] [b.2.1, b.2.2]
theorem lt2_iff (a b : Al) : lt2 a b = true ↔ a.2.1 < b.2.1 ∨ (a.2.1 = b.2.1 ∧ a.2.2 < b.2.2) := by
  unfold lt2
  rw [HT.lexLt_cons, HT.lexLt_cons, HT.lexLt_nil_nil]
  by_cases h : a.2.1 = b.2.1
  · rw [if_pos h]
    by_cases h2 : a.2.2 = b.2.2
    · rw [if_pos h2]; constructor
      · intro z; cases z
      · rintro (z | ⟨_, z⟩) <;> omega
    · rw [if_neg h2, decide_eq_true_eq]; constructor
      · intro z; exact .inr ⟨h, z⟩
      · rintro (z | ⟨_, z⟩) <;> omega
  · rw [if_neg h, decide_eq_true_eq]; constructor
    · intro z; exact .inl z
    · rintro (z | ⟨z, _⟩)
      · exact z
      · exact absurd z h
theorem lt2_no (a b : Al) : lt2 a b = false ↔ ¬ (a.2.1 < b.2.1 ∨ (a.2.1 = b.2.1 ∧ a.2.2 < b.2.2)) := by
  rw [← lt2_iff]; cases lt2 a b <;> simp
theorem tot2 : Tot lt2 := ⟨fun a b c h1 h2 => by rw [lt2_no] at *; omega, fun a b h => by rw [lt2_no]; rw [lt2_iff] at h; omega⟩
theorem irr2 (a : Al) : lt2 a a = false := by rw [lt2_no]; omega

/-- the list at a holds these pairs -/
structure Held (h : Heap) (a : Addr) (zs : List Al) : Prop where
  obj : ∃ n, h.get? a = some { cls := .type "list", data := .seq (zs.map (·.1)).toArray n }
  its : ∀ z ∈ zs, TS.TupInts h z.1 [z.2.1, z.2.2]
structure Only (h h' : Heap) (a : Addr) : Prop where
  same : ∀ b, b ≠ a → h'.get? b = h.get? b
theorem Only.refl {h : Heap} {a : Addr} : Only h h a := ⟨fun _ _ => rfl⟩
theorem Only.trans {h h1 h2 : Heap} {a : Addr} (x : Only h h1 a) (y : Only h1 h2 a) : Only h h2 a := ⟨fun b hb => (y.same b hb).trans (x.same b hb)⟩
theorem tup_only {h h' : Heap} {a : Addr} {v : Value} {ns : List Int} {its : Array Value} {n : Nat} (ha : h.get? a = some { cls := .type "list", data := .seq its n }) (o : Only h h' a) (t : TS.TupInts h v ns) : TS.TupInts h' v ns :=
  t.keeps fun b ob e hc => by
    have : b ≠ a := fun z => by
      subst z; rw [ha] at e; cases e
      simp at hc
    rw [o.same b this]; exact e

section
variable {prog : Program} {w : World} {A : Around} {E : Value → Shared → Prop} {s : Shared} {a : Addr}
theorem only_update {zs zs' : List Al} {n : Nat} {f : Array Value → Array Value} {h : Heap} (ha : h.get? a = some { cls := .type "list", data := .seq (zs.map (·.1)).toArray n }) (hf : f (zs.map (·.1)).toArray = (zs'.map (·.1)).toArray)
    (hi : ∀ z ∈ zs', TS.TupInts h z.1 [z.2.1, z.2.2]) : Held (h.update a (Obj.mapSeq f)) a zs' ∧ Only h (h.update a (Obj.mapSeq f)) a := by
  have q := PySem.IsL.update ha f
  have o : Only h (h.update a (Obj.mapSeq f)) a := ⟨fun b hb => by
    cases e : h.get? b with
    | some u => exact (Heap.get?_update_other h (Obj.mapSeq f) (Ne.symm hb)).trans e
    | none => exact (Heap.get?_update_other h (Obj.mapSeq f) (Ne.symm hb)).trans e⟩
  rw [hf] at q
  exact ⟨⟨⟨_, q⟩, fun z hz => tup_only ha o (hi z hz)⟩, o⟩
theorem items_at {o : Obj} {items : Array Value} {n : Nat} {Q : Array Value → Shared → Prop} (ho : s.heap.get? a = some o) (hd : o.data = .seq items n) (h : Q items s) :
    wpAny (model prog w) A (seqItems? (.ref a) >>= fun r => match r with
      | some xs => pure xs
      | none => unsupported "internal:_heapq") Q E s :=
  wpAny_bind (wpAny_seqItems ho hd (wpAny_pure h))

theorem less_ok {z z' : Al} {Q : Bool → Shared → Prop} (hz : TS.TupInts s.heap z.1 [z.2.1, z.2.2]) (hz' : TS.TupInts s.heap z'.1 [z'.2.1, z'.2.2]) (hu : A.units < cLine) (h : Q (lt2 z z') s) :
    wpAny (model prog w) A (holding [z.1, z'.1] (richCompare .Lt z.1 z'.1 >>= fun r => truthOfDropped r)) Q E s := by
  obtain ⟨b, xs, e1, t1, i1⟩ := hz
  obtain ⟨c, ys, e2, t2, i2⟩ := hz'
  refine wpAny_holding (wpAny_bind ?_)
  rw [e1, e2]
  refine HT.lt_tupInts t1 t2 i1 i2 hu ?_
  show wpAny _ _ (truthOfDropped (.bool (lt2 z z'))) _ _ _
  wp_delta
  wp_delta
  exact wpAny_pure h
theorem at_ok {zs : List Al} {i : Nat} (hi : i < zs.length) : (zs.map (·.1)).toArray[i]? = some (g zs i).1 := by
  rw [List.getElem?_toArray, List.getElem?_map, of_lt hi]; rfl
theorem size_ok {zs : List Al} : (zs.map (·.1)).toArray.size = zs.length := by simp
theorem g_mem {zs : List Al} {i : Nat} (hi : i < zs.length) : g zs i ∈ zs := List.mem_of_getElem? (of_lt hi)
theorem set_map {zs : List Al} {i j : Nat} : ((zs.map (·.1)).toArray.setIfInBounds i (g zs j).1).setIfInBounds j (g zs i).1 = ((sw zs i j).map (·.1)).toArray := by
  unfold sw
  simp [List.map_set]
def cS (a : Addr) (down : Bool) (pos top : Nat) (res : Value) (after : Int) : Code := .builtin "_heapq.heapify.sift" ⟨[.ref a, .bool false, .bool down, rawInt pos, rawInt top, res, rawInt after], []⟩
theorem quiet_S {a : Addr} {down : Bool} {pos top : Nat} {res : Value} {after : Int} : (cS a down pos top res after).quiet = true := plainId_quiet plain_sift _
/-- what follows when top's part is a heap -/
def Done (prog : Program) (w : World) (A : Around) (R : Result → Shared → Prop) (a : Addr) (res : Value) (top : Nat) (s : Shared) : Prop :=
  if top = 0 then R (.ok (.ret res)) s else codeAny (model prog w) A (cS a true (top - 1) (top - 1) res ((top : Int) - 2)) R s
theorem up_run {R : Result → Shared → Prop} {res : Value} {top : Nat} (hu : A.units + 1 < cLine) : ∀ (pos : Nat) (zs : List Al) (s : Shared), Held s.heap a zs → zs.length ≤ sizeLine → UpI lt2 top pos zs →
    (∀ (zs' : List Al) (h' : Heap), zs'.Perm zs → From lt2 top zs' → Held h' a zs' → Only s.heap h' a → Done prog w A R a res top { s with heap := h' }) → codeAny (model prog w) A (cS a false pos top res ((top : Int) - 1)) R s := by
  intro pos
  induction pos using Nat.strongRecOn with
  | ind pos ih =>
    intro zs s hd hz U hR
    obtain ⟨⟨n, ho⟩, hi⟩ := id hd
    have fin : From lt2 top zs → wpAny (model prog w) A.in1 (if ((top : Int) - 1) < 0 then ret res else pure (Fin.again (cS a true ((top : Int) - 1).toNat ((top : Int) - 1).toNat res ((top : Int) - 1 - 1))))
        (fun fin s' => match fin with | .done f => R (.ok f) s' | .again c' => c'.quiet = true ∧ codeAny (model prog w) A c' R s') (fun e s' => R (.error e) s') s := fun hf => by
      have d := hR zs s.heap (List.Perm.refl _) hf hd Only.refl
      unfold Done at d
      by_cases h0 : top = 0
      · rw [if_pos h0] at d
        rw [if_pos (by omega)]
        exact wpAny_pure d
      · rw [if_neg h0] at d
        rw [if_neg (by omega)]
        refine wpAny_pure ⟨quiet_S, ?_⟩
        have e1 : ((top : Int) - 1).toNat = top - 1 := by omega
        have e2 : (top : Int) - 1 - 1 = (top : Int) - 2 := by omega
        rw [e1, e2]; exact d
    refine codeAny_builtin entry_sift ?_
    rw [Around.under_plainId plain_sift _]
    unfold Builtin.«_heapq.heapify.sift»
    refine wpAny_bind ?_
    wp_delta
    refine wpAny_bind (wpAny_seqItems ho rfl (wpAny_pure ?_))
    wp_delta
    refine wpAny_ite_false rfl ?_
    wp_delta
    refine wpAny_ite_split (fun hc => ?_) (fun hc => ?_)
    · have hlt : top < pos := hc
      have hne : pos ≠ top := by omega
      obtain ⟨d1, d2, d3⟩ := U.de.up hne
      have hp := par_lt d3
      have hpl : par pos < zs.length := Nat.lt_trans hp U.lt_
      have eP : ((pos : Int).toNat - 1) / 2 = par pos := rfl
      have ePos : ((pos : Int).toNat) = pos := rfl
      wp_delta
      refine wpAny_bind ?_
      wp_delta
      rw [ePos, at_ok U.lt_]
      refine wpAny_pure (wpAny_bind ?_)
      wp_delta
      rw [show (pos - 1) / 2 = par pos from rfl, at_ok hpl]
      refine wpAny_pure ?_
      wp_delta
      refine wpAny_ite_false rfl (wpAny_bind ?_)
      wp_delta
      refine wpAny_bind (less_ok (hi _ (g_mem U.lt_)) (hi _ (g_mem hpl)) hu ?_)
      refine wpAny_bind ?_
      wp_delta
      refine wpAny_bind (wpAny_seqItems ho rfl (wpAny_pure ?_))
      refine wpAny_ite_false (by simp) ?_
      wp_delta
      refine wpAny_pure ?_
      cases hl : lt2 (g zs pos) (g zs (par pos)) with
      | true =>
        refine wpAny_ite_true rfl ?_
        refine wpAny_bind ?_
        wp_delta
        refine wpAny_bind ?_
        wp_delta
        refine wpAny_bind (wpAny_seqItems ho rfl (wpAny_pure ?_))
        refine wpAny_bind ?_
        wp_delta
        rw [at_ok hpl]
        refine wpAny_pure (wpAny_bind ?_)
        wp_delta
        rw [at_ok U.lt_]
        refine wpAny_pure ?_
        have hm : ∀ z ∈ sw zs (par pos) pos, TS.TupInts s.heap z.1 [z.2.1, z.2.2] := fun z hz => hi z ((sw_perm hpl U.lt_).mem_iff.mp hz)
        obtain ⟨hd', on'⟩ := only_update (zs' := sw zs (par pos) pos) (f := fun xs => (xs.setIfInBounds (par pos) (g zs pos).1).setIfInBounds pos (g zs (par pos)).1) ho set_map hm
        refine wpAny_updateSeq ho rfl ?_ (by rw [size_ok]; exact hz) (by show _ ≤ _; simp; omega)
        wp_delta
        refine wpAny_pure ⟨quiet_S, ?_⟩
        refine ih (par pos) hp (sw zs (par pos) pos) _ hd' (by rw [sw_len]; exact hz) (U.step tot2 hne hl) fun zs' h' p f hh oo => ?_
        exact hR zs' h' (p.trans (sw_perm hpl U.lt_)) f hh (on'.trans oo)
      | false =>
        refine wpAny_ite_false rfl ?_
        exact fin (U.stop hl)
    · have ht : pos = top := by
        have h1 : ¬ top < pos := hc
        have h2 := U.de.ge
        omega
      subst ht
      exact fin U.top
theorem down_run {R : Result → Shared → Prop} {res : Value} {top : Nat} (hu : A.units + 1 < cLine) : ∀ (m pos : Nat) (zs : List Al) (s : Shared), zs.length - pos ≤ m → Held s.heap a zs → zs.length ≤ sizeLine → DownI lt2 top pos zs →
    (∀ (zs' : List Al) (h' : Heap), zs'.Perm zs → From lt2 top zs' → Held h' a zs' → Only s.heap h' a → Done prog w A R a res top { s with heap := h' }) → codeAny (model prog w) A (cS a true pos top res ((top : Int) - 1)) R s := by
  intro m
  induction m with
  | zero =>
    intro pos zs s hm hd hz D' hR
    have := D'.lt_
    omega
  | succ m ih =>
    intro pos zs s hm hd hz D' hR
    obtain ⟨⟨n, ho⟩, hi⟩ := id hd
    have ePos : ((pos : Int).toNat) = pos := rfl
    have go : ∀ c, 0 < c → c < zs.length → par c = pos → (∀ c', 0 < c' → c' < zs.length → par c' = pos → le lt2 (g zs c) (g zs c')) → codeAny (model prog w) A (cS a true c top res ((top : Int) - 1)) R { s with heap := s.heap.update a (Obj.mapSeq fun xs => (xs.setIfInBounds c (g zs pos).1).setIfInBounds pos (g zs c).1) } := by
      intro c h0 hc hp hmin
      have hpc : pos < c := by rw [← hp]; exact par_lt h0
      have hm' : ∀ z ∈ sw zs c pos, TS.TupInts s.heap z.1 [z.2.1, z.2.2] := fun z hz => hi z ((sw_perm hc D'.lt_).mem_iff.mp hz)
      obtain ⟨hd', on'⟩ := only_update (zs' := sw zs c pos) (f := fun xs => (xs.setIfInBounds c (g zs pos).1).setIfInBounds pos (g zs c).1) ho set_map hm'
      refine ih c (sw zs c pos) _ (by rw [sw_len]; omega) hd' (by rw [sw_len]; exact hz) (D'.step tot2 h0 hc hp hmin) fun zs' h' p f hh oo => ?_
      exact hR zs' h' (p.trans (sw_perm hc D'.lt_)) f hh (on'.trans oo)
    have swp : ∀ c, c < zs.length → (codeAny (model prog w) A (cS a true c top res ((top : Int) - 1)) R { s with heap := s.heap.update a (Obj.mapSeq fun xs => (xs.setIfInBounds c (g zs pos).1).setIfInBounds pos (g zs c).1) }) →
        wpAny (model prog w) A.in1 (seqItems? (.ref a) >>= fun r => match r with
          | some xs => pure xs
          | none => unsupported "internal:_heapq") (fun xs s' => xs = (zs.map (·.1)).toArray ∧ s' = s) (fun e s' => R (.error e) s') s := fun c _ _ => items_at ho rfl ⟨rfl, rfl⟩
    refine codeAny_builtin entry_sift ?_
    rw [Around.under_plainId plain_sift _]
    unfold Builtin.«_heapq.heapify.sift»
    refine wpAny_bind ?_
    wp_delta
    refine wpAny_bind (wpAny_seqItems ho rfl (wpAny_pure ?_))
    wp_delta
    refine wpAny_ite_true rfl ?_
    rw [size_ok, ePos]
    refine wpAny_ite_split (fun hc => ?_) (fun hc => ?_)
    · have hL : 2 * pos + 1 < zs.length := by omega
      wp_delta
      refine wpAny_ite_split (fun hc2 => ?_) (fun hc2 => ?_)
      · have hR2 : 2 * pos + 2 < zs.length := hc2
        refine wpAny_bind ?_
        wp_delta
        rw [at_ok hL]
        refine wpAny_pure (wpAny_bind ?_)
        wp_delta
        rw [show 2 * pos + 1 + 1 = 2 * pos + 2 from rfl, at_ok hR2]
        refine wpAny_pure ?_
        wp_delta
        refine wpAny_ite_false rfl (wpAny_bind ?_)
        wp_delta
        refine wpAny_bind (less_ok (hi _ (g_mem hL)) (hi _ (g_mem hR2)) hu ?_)
        refine wpAny_bind ?_
        wp_delta
        refine wpAny_bind (wpAny_seqItems ho rfl (wpAny_pure ?_))
        refine wpAny_ite_false (by simp) ?_
        wp_delta
        refine wpAny_pure ?_
        cases hl : lt2 (g zs (2 * pos + 1)) (g zs (2 * pos + 2)) with
        | true =>
          refine wpAny_ite_false rfl ?_
          wp_delta
          refine wpAny_bind ?_
          wp_delta
          refine wpAny_bind ?_
          wp_delta
          refine wpAny_bind (wpAny_seqItems ho rfl (wpAny_pure ?_))
          refine wpAny_bind ?_
          wp_delta
          rw [at_ok hL]
          refine wpAny_pure (wpAny_bind ?_)
          wp_delta
          rw [at_ok D'.lt_]
          refine wpAny_pure ?_
          refine wpAny_updateSeq ho rfl ?_ (by rw [size_ok]; exact hz) (by show _ ≤ _; simp; omega)
          wp_delta
          refine wpAny_pure ⟨quiet_S, ?_⟩
          refine go (2 * pos + 1) (by omega) hL (par_left pos) fun c' h0 hc' hp => ?_
          rcases par_cases h0 hp with e | e
          · rw [e]; exact irr2 _
          · rw [e]; exact tot2.asym _ _ hl
        | false =>
          refine wpAny_ite_true rfl ?_
          wp_delta
          refine wpAny_bind ?_
          wp_delta
          refine wpAny_bind ?_
          wp_delta
          refine wpAny_bind (wpAny_seqItems ho rfl (wpAny_pure ?_))
          refine wpAny_bind ?_
          wp_delta
          rw [at_ok hR2]
          refine wpAny_pure (wpAny_bind ?_)
          wp_delta
          rw [at_ok D'.lt_]
          refine wpAny_pure ?_
          refine wpAny_updateSeq ho rfl ?_ (by rw [size_ok]; exact hz) (by show _ ≤ _; simp; omega)
          wp_delta
          refine wpAny_pure ⟨quiet_S, ?_⟩
          refine go (2 * pos + 2) (by omega) hR2 (par_right pos) fun c' h0 hc' hp => ?_
          rcases par_cases h0 hp with e | e
          · rw [e]; exact hl
          · rw [e]; exact irr2 _
      · wp_delta
        refine wpAny_bind ?_
        wp_delta
        refine wpAny_bind ?_
        wp_delta
        refine wpAny_bind (wpAny_seqItems ho rfl (wpAny_pure ?_))
        refine wpAny_bind ?_
        wp_delta
        rw [at_ok hL]
        refine wpAny_pure (wpAny_bind ?_)
        wp_delta
        rw [at_ok D'.lt_]
        refine wpAny_pure ?_
        refine wpAny_updateSeq ho rfl ?_ (by rw [size_ok]; exact hz) (by show _ ≤ _; simp; omega)
        wp_delta
        refine wpAny_pure ⟨quiet_S, ?_⟩
        refine go (2 * pos + 1) (by omega) hL (par_left pos) fun c' h0 hc' hp => ?_
        rcases par_cases h0 hp with e | e
        · rw [e]; exact irr2 _
        · omega
    · wp_delta
      refine wpAny_pure ⟨quiet_S, ?_⟩
      exact up_run hu pos zs s hd hz (D'.leaf hc) hR
theorem sift_all {R : Result → Shared → Prop} {res : Value} (hu : A.units + 1 < cLine) : ∀ (top : Nat) (zs : List Al) (s : Shared), Held s.heap a zs → zs.length ≤ sizeLine → top < zs.length → From lt2 (top + 1) zs →
    (∀ (zs' : List Al) (h' : Heap), zs'.Perm zs → From lt2 0 zs' → Held h' a zs' → Only s.heap h' a → R (.ok (.ret res)) { s with heap := h' }) → codeAny (model prog w) A (cS a true top top res ((top : Int) - 1)) R s := by
  intro top
  induction top with
  | zero =>
    intro zs s hd hz ht hf hR
    refine down_run hu _ 0 zs s (Nat.le_refl _) hd hz (DownI.start ht hf) fun zs' h' p f hh oo => ?_
    unfold Done
    rw [if_pos rfl]
    exact hR zs' h' p f hh oo
  | succ top ih =>
    intro zs s hd hz ht hf hR
    refine down_run hu _ (top + 1) zs s (Nat.le_refl _) hd hz (DownI.start ht hf) fun zs' h' p f hh oo => ?_
    unfold Done
    rw [if_neg (Nat.succ_ne_zero _)]
    have e : ((top + 1 : Nat) : Int) - 2 = (top : Int) - 1 := by omega
    rw [e]
    refine ih zs' _ hh (by rw [p.length_eq]; exact hz) (by rw [p.length_eq]; omega) f fun zs2 h2 p2 f2 hh2 oo2 => ?_
    exact hR zs2 h2 (p2.trans p) f2 hh2 (oo.trans oo2)

abbrev Post (prog : Program) (w : World) (A : Around) (R : Result → Shared → Prop) : PySem.Fin → Shared → Prop := fun fin s' => match fin with | .done f => R (.ok f) s' | .again c' => c'.quiet = true ∧ codeAny (model prog w) A c' R s'
theorem t_ify {zs : List Al} {R : Result → Shared → Prop} (hd : Held s.heap a zs) (hz : zs.length ≤ 2500) (hu : A.units + 1 < cLine)
    (hR : ∀ (zs' : List Al) (h' : Heap), zs'.Perm zs → From lt2 0 zs' → Held h' a zs' → Only s.heap h' a → R (.ok (.ret .none)) { s with heap := h' }) :
    wpAny (model prog w) A.in1 (Builtin.«_heapq.heapify» ⟨[.ref a], []⟩) (Post prog w A R) (fun e s' => R (.error e) s') s := by
  obtain ⟨⟨n, ho⟩, hi⟩ := id hd
  have hT : s.TypeIs (.ref a) "list" := ⟨_, ho, rfl⟩
  unfold Builtin.«_heapq.heapify»
  wp_delta
  refine wpAny_bind ?_
  wp_delta
  refine wpAny_bind ?_
  wp_delta
  refine wpAny_bind ?_
  wp_delta
  refine wpAny_ite_true rfl (wpAny_pure ?_)
  wp_delta
  refine wpAny_pure (wpAny_bind ?_)
  wp_delta
  refine wpAny_bind (wpAny_isInstance hT AutoSeq1.sub_list_list ?_)
  refine wpAny_ite_true rfl ?_
  wp_delta
  refine wpAny_pure (wpAny_pure ?_)
  wp_delta
  refine wpAny_bind ?_
  wp_delta
  refine wpAny_bind (wpAny_seqItems ho rfl (wpAny_pure ?_))
  wp_delta
  rw [size_ok]
  refine wpAny_ite_false (decide_eq_false (by omega)) ?_
  wp_delta
  refine wpAny_ite_split (fun hc => ?_) (fun hc => ?_)
  · refine wpAny_pure ?_
    refine hR zs s.heap (List.Perm.refl _) (fun i h0 hi _ => ?_) hd Only.refl
    have : i < 2 := by omega
    have e : i = 1 := by omega
    omega
  · wp_delta
    refine wpAny_pure ⟨quiet_S, ?_⟩
    have e : ((zs.length / 2 : Nat) : Int) - 2 = ((zs.length / 2 - 1 : Nat) : Int) - 1 := by omega
    rw [e]
    exact sift_all hu (zs.length / 2 - 1) zs s hd (Nat.le_trans hz (by decide)) (by omega) (by rw [show zs.length / 2 - 1 + 1 = zs.length / 2 by omega]; exact From.half (Nat.le_refl _)) hR
theorem t_push {v : Value} {x : Int × Int} {zs : List Al} {R : Result → Shared → Prop} (hd : Held s.heap a zs) (hf : From lt2 0 zs) (hv : TS.TupInts s.heap v [x.1, x.2]) (hz : zs.length < sizeLine) (hu : A.units + 1 < cLine)
    (hR : ∀ (zs' : List Al) (h' : Heap), zs'.Perm ((v, x) :: zs) → From lt2 0 zs' → Held h' a zs' → Only s.heap h' a → R (.ok (.ret .none)) { s with heap := h' }) :
    wpAny (model prog w) A.in1 (Builtin.«_heapq.heappush» ⟨[.ref a, v], []⟩) (Post prog w A R) (fun e s' => R (.error e) s') s := by
  obtain ⟨⟨n, ho⟩, hi⟩ := id hd
  have hT : s.TypeIs (.ref a) "list" := ⟨_, ho, rfl⟩
  unfold Builtin.«_heapq.heappush»
  refine wpAny_bind ?_
  wp_delta
  refine wpAny_bind ?_
  wp_delta
  refine wpAny_ite_true rfl (wpAny_pure ?_)
  refine wpAny_bind (wpAny_of_eq (show checkCount "heappush" 2 2 ([Value.ref a, v] : List Value).length = pure () from rfl) ?_)
  wp_delta
  refine wpAny_bind ?_
  wp_delta
  refine wpAny_bind (wpAny_isInstance hT AutoSeq1.sub_list_list ?_)
  refine wpAny_ite_true rfl ?_
  wp_delta
  refine wpAny_pure (wpAny_pure ?_)
  wp_delta
  have hm : ∀ z ∈ zs ++ [(v, x)], TS.TupInts s.heap z.1 [z.2.1, z.2.2] := fun z hz => by
    rcases List.mem_append.mp hz with h | h
    · exact hi z h
    · rw [List.mem_singleton] at h; subst h; exact hv
  obtain ⟨hd', on'⟩ := only_update (zs' := zs ++ [(v, x)]) (f := fun xs => xs.push v) ho (by simp) hm
  refine wpAny_bind (wpAny_updateSeq ho rfl ?_ (by rw [size_ok]; omega) (by show _ ≤ _; rw [Array.size_push, size_ok]; omega))
  refine wpAny_bind ?_
  wp_delta
  obtain ⟨n2, ho2⟩ := hd'.obj
  refine wpAny_bind (wpAny_seqItems ho2 rfl (wpAny_pure ?_))
  wp_delta
  refine wpAny_pure ⟨quiet_S, ?_⟩
  rw [size_ok, List.length_append, List.length_singleton, Nat.add_sub_cancel]
  refine up_run (top := 0) hu zs.length (zs ++ [(v, x)]) _ hd' (by rw [List.length_append, List.length_singleton]; exact hz) (UpI.pushed _ hf) fun zs' h' p f hh oo => ?_
  unfold Done
  rw [if_pos rfl]
  exact hR zs' h' (p.trans List.perm_append_comm) f hh (on'.trans oo)
theorem From.tail_of {zs : List Al} {z : Al} {x : Al} (h : From lt2 0 (z :: zs ++ [x])) : From lt2 1 (x :: zs) := by
  intro i h0 hi ht
  have hpi : par i < i := par_lt h0
  have h1 := h i h0 (by simp at hi ⊢; omega) (Nat.zero_le _)
  have G : ∀ k, 0 < k → k < (x :: zs).length → g (z :: zs ++ [x]) k = g (x :: zs) k := fun k k0 hk => by
    unfold g
    simp only [List.getD_eq_getElem?_getD]
    rw [List.cons_append, List.getElem?_cons, if_neg (by omega), List.getElem?_cons, if_neg (by omega), List.getElem?_append_left (by simp at hk; omega)]
  rw [G _ ht (by omega), G _ h0 hi] at h1
  exact h1
theorem t_pop {z : Al} {zs : List Al} {R : Result → Shared → Prop} (hd : Held s.heap a (z :: zs)) (hf : From lt2 0 (z :: zs)) (hz : (z :: zs).length ≤ sizeLine) (hu : A.units + 1 < cLine)
    (hR : ∀ (zs' : List Al) (h' : Heap), zs'.Perm zs → From lt2 0 zs' → Held h' a zs' → Only s.heap h' a → R (.ok (.ret z.1)) { s with heap := h' }) :
    wpAny (model prog w) A.in1 (Builtin.«_heapq.heappop» ⟨[.ref a], []⟩) (Post prog w A R) (fun e s' => R (.error e) s') s := by
  obtain ⟨⟨n, ho⟩, hi⟩ := id hd
  have hT : s.TypeIs (.ref a) "list" := ⟨_, ho, rfl⟩
  unfold Builtin.«_heapq.heappop»
  wp_delta
  refine wpAny_bind ?_
  wp_delta
  refine wpAny_bind ?_
  wp_delta
  refine wpAny_bind ?_
  wp_delta
  refine wpAny_ite_true rfl (wpAny_pure ?_)
  wp_delta
  refine wpAny_pure (wpAny_bind ?_)
  wp_delta
  refine wpAny_bind (wpAny_isInstance hT AutoSeq1.sub_list_list ?_)
  refine wpAny_ite_true rfl ?_
  wp_delta
  refine wpAny_pure (wpAny_pure ?_)
  wp_delta
  refine wpAny_bind ?_
  wp_delta
  refine wpAny_bind (wpAny_seqItems ho rfl (wpAny_pure ?_))
  rcases List.eq_nil_or_concat zs with e | ⟨ys, x, e⟩
  · subst e
    have eb : (([z] : List Al).map (·.1)).toArray.back? = some z.1 := rfl
    rw [eb]
    wp_delta
    obtain ⟨hd', on'⟩ := only_update (zs' := ([] : List Al)) (f := fun xs => xs.pop) ho (by simp) (fun z hz => by cases hz)
    refine wpAny_bind (wpAny_updateSeq ho rfl ?_ (by rw [size_ok]; exact hz) (by show _ ≤ _; rw [Array.size_pop, size_ok]; omega))
    refine wpAny_ite_true rfl ?_
    wp_delta
    exact wpAny_pure (hR [] _ (List.Perm.refl _) (fun i h0 hi => by simp at hi) hd' on')
  · have e' : zs = ys ++ [x] := by rw [e, List.concat_eq_append]
    subst e'
    have eb : ((z :: (ys ++ [x])).map (·.1)).toArray.back? = some x.1 := by
      rw [List.back?_toArray, List.getLast?_map, ← List.cons_append, List.getLast?_concat]; rfl
    rw [eb]
    wp_delta
    obtain ⟨hd1, on1⟩ := only_update (zs' := z :: ys) (f := fun xs => xs.pop) ho (by
      rw [List.pop_toArray, ← List.cons_append, List.map_append, List.map_singleton, List.dropLast_concat]) (fun y hy => hi y (by
      rcases List.mem_cons.mp hy with h | h
      · rw [h]; exact List.mem_cons_self
      · exact List.mem_cons_of_mem _ (List.mem_append_left _ h)))
    refine wpAny_bind (wpAny_updateSeq ho rfl ?_ (by rw [size_ok]; exact hz) (by show _ ≤ _; rw [Array.size_pop, size_ok]; omega))
    refine wpAny_ite_false (by simp) ?_
    refine wpAny_bind ?_
    wp_delta
    refine wpAny_pure ?_
    obtain ⟨n1, ho1⟩ := hd1.obj
    obtain ⟨hd2, on2⟩ := only_update (zs' := x :: ys) (f := fun xs => xs.setIfInBounds 0 x.1) ho1 (by simp) (fun y hy => by
      rcases List.mem_cons.mp hy with h | h
      · rw [h]; exact tup_only ho on1 (hi x (by simp))
      · exact hd1.its y (List.mem_cons_of_mem _ h))
    have hlen : (z :: ys).length ≤ sizeLine := by simp at hz ⊢; omega
    refine wpAny_bind (wpAny_updateSeq ho1 rfl ?_ (by rw [size_ok]; exact hlen) (by show _ ≤ _; rw [Array.size_setIfInBounds, size_ok]; omega))
    wp_delta
    refine wpAny_pure ⟨quiet_S, ?_⟩
    refine sift_all hu 0 (x :: ys) _ hd2 (by simp at hlen ⊢; omega) (by simp) (From.tail_of (by rw [List.cons_append]; exact hf)) fun zs' h' p f hh oo => ?_
    refine hR zs' h' (p.trans ?_) f hh ((on1.trans on2).trans oo)
    exact (List.perm_append_comm (l₁ := [x]) (l₂ := ys))
end
end Hr
/-! .. by values, over the layer -/
namespace Hr
open PySem PySem.Spec PyProof.Rows L2 Hq
abbrev Qi := Addr × Int × Int
instance : Inhabited Qi := ⟨(0, 0, 0)⟩
def al (q : Qi) : Al := (Value.ref q.1, q.2)
def bk (z : Al) : Qi := ((match z.1 with | .ref a => a | _ => 0), z.2)
theorem bk_al (q : Qi) : bk (al q) = q := rfl
def vq (q : Qi) : V := .ref q.1
theorem perm_bk {zs : List Al} {qs : List Qi} (h : zs.Perm (qs.map al)) : ∃ qs' : List Qi, zs = qs'.map al ∧ qs'.Perm qs := by
  refine ⟨zs.map bk, ?_, ?_⟩
  · rw [List.map_map]
    have : ∀ z ∈ zs, (al ∘ bk) z = z := fun z hz => by
      obtain ⟨q, _, e⟩ := List.mem_map.mp (h.mem_iff.mp hz)
      subst e; rfl
    conv => lhs; rw [← List.map_id zs]
    exact (List.map_congr_left fun z hz => (this z hz).symm)
  · have h2 := h.map bk
    rw [List.map_map] at h2
    have e : qs.map (bk ∘ al) = qs := by
      conv => rhs; rw [← List.map_id qs]
      exact List.map_congr_left fun q _ => rfl
    rw [e] at h2
    exact h2
def PairAt (K : PySem.W.Frag) (H : Hp) (q : Qi) : Prop := SqT K H q.1 ([q.2.1, q.2.2].map V.int)
abbrev Hp0 (qs : List Qi) : Prop := From lt2 0 (qs.map al)
theorem refs_of : ∀ {qs : List Qi} {us : List Value}, Vals (qs.map vq) us → us = (qs.map al).map (·.1)
  | [], _, h => by cases h; rfl
  | q :: qs, _, h => by
    cases h with
    | cons r t =>
      rw [refs_of t]
      have e : _ = Value.ref q.1 := r
      rw [e]; rfl
theorem vals_refs : ∀ qs : List Qi, Vals (qs.map vq) ((qs.map al).map (·.1))
  | [] => .nil
  | q :: qs => .cons rfl (vals_refs qs)
section
variable {X : Cx} {pins : List (Addr × Obj)} {σ : L2.St} {H : Hp} {s : Shared} {l : Addr} {qs qs' : List Qi} {h' : Heap}
theorem held_of (I : Inv X pins σ H s) (hl : H l = some (.lst (qs.map vq))) (hp : ∀ q ∈ qs, PairAt X.K H q) : Held s.heap l (qs.map al) ∧ qs.length ≤ sizeLine := by
  obtain ⟨z, its, n, r, _, e⟩ := I.lstM hl
  refine ⟨⟨⟨n, by rw [← refs_of r]; exact e⟩, fun z hz => ?_⟩, by simpa using z⟩
  obtain ⟨q, hq, e⟩ := List.mem_map.mp hz
  subst e
  exact tupI_raw I (hp q hq)
theorem inv_after (I : Inv X pins σ H s) (hl : H l = some (.lst (qs.map vq))) (hh : Held h' l (qs'.map al)) (oo : Only s.heap h' l) (hz : qs'.length ≤ sizeLine) : Inv X pins σ (upd H l (.lst (qs'.map vq))) { s with heap := h' } := by
  obtain ⟨n, e⟩ := hh.obj
  exact I.write (t' := s.toks) (x := l) (e := l) (by rw [hl]; exact trivial) (.inl rfl) (fun b u hb hu => (oo.same b hb).trans hu) ⟨_, e⟩ ⟨by simpa using hz, _, n, vals_refs qs', e⟩
def rIfy (K : PySem.W.Frag) : List V → Hp → VK → Prop := fun vs H Q => ∃ l qs, vs = [V.ref l] ∧ H l = some (.lst (qs.map vq)) ∧ (∀ q ∈ qs, PairAt K H q) ∧ qs.length ≤ 2500 ∧
  ∀ qs' : List Qi, qs'.Perm qs → Hp0 qs' → Q .non (upd H l (.lst (qs'.map vq)))
theorem cr_ify (hu : X.A.units + 1 < cLine) : CallR X (.builtin "_heapq.heapify") (rIfy X.K) := by
  intro pins s σ H vs us Q I r h
  obtain ⟨l, qs, rfl, hl, hp, hz, q⟩ := h
  have := r.ref1
  subst this
  obtain ⟨hd, _⟩ := held_of I hl hp
  refine call_function_meets (S := fun A R s' => A.units + 1 < cLine ∧ Held s'.heap l (qs.map al) ∧ ∀ (zs' : List Al) (h' : Heap), zs'.Perm (qs.map al) → From lt2 0 zs' → Held h' l zs' → Only s'.heap h' l → R (.ok (.ret .none)) { s' with heap := h' })
    kind_ify plain_ify entry_ify (args_ify _) (fun prog w A R s' hS => t_ify hS.2.1 (by simpa using hz) hS.1 hS.2.2) ⟨hu, hd, fun zs' h' p f hh oo => ?_⟩
  obtain ⟨qs', e, p'⟩ := perm_bk p
  subst e
  exact ⟨.non, _, inv_after I hl hh oo (by rw [p'.length_eq]; exact Nat.le_trans hz (by decide)), rfl, q qs' p' f⟩
def rPush (K : PySem.W.Frag) : List V → Hp → VK → Prop := fun vs H Q => ∃ l qs x, vs = [V.ref l, vq x] ∧ H l = some (.lst (qs.map vq)) ∧ (∀ q ∈ qs, PairAt K H q) ∧ PairAt K H x ∧ Hp0 qs ∧ qs.length < sizeLine ∧
  ∀ qs' : List Qi, qs'.Perm (x :: qs) → Hp0 qs' → Q .non (upd H l (.lst (qs'.map vq)))
theorem cr_push (hu : X.A.units + 1 < cLine) : CallR X (.builtin "_heapq.heappush") (rPush X.K) := by
  intro pins s σ H vs us Q I r h
  obtain ⟨l, qs, x, rfl, hl, hp, hx, hf, hz, q⟩ := h
  obtain ⟨u1, u2, rfl, r1, r2⟩ := r.two
  cases (show u1 = Value.ref l from r1)
  cases (show u2 = Value.ref x.1 from r2)
  obtain ⟨hd, _⟩ := held_of I hl hp
  refine call_function_meets (S := fun A R s' => A.units + 1 < cLine ∧ Held s'.heap l (qs.map al) ∧ TS.TupInts s'.heap (Value.ref x.1) [x.2.1, x.2.2] ∧
      ∀ (zs' : List Al) (h' : Heap), zs'.Perm ((Value.ref x.1, x.2) :: qs.map al) → From lt2 0 zs' → Held h' l zs' → Only s'.heap h' l → R (.ok (.ret .none)) { s' with heap := h' })
    kind_push plain_push entry_push (args_push _ _) (fun prog w A R s' hS => t_push hS.2.1 hf hS.2.2.1 (by simpa using hz) hS.1 hS.2.2.2) ⟨hu, hd, tupI_raw I hx, fun zs' h' p f hh oo => ?_⟩
  obtain ⟨qs', e, p'⟩ := perm_bk (qs := x :: qs) p
  subst e
  exact ⟨.non, _, inv_after I hl hh oo (by rw [p'.length_eq, List.length_cons]; omega), rfl, q qs' p' f⟩
def rPop2 (K : PySem.W.Frag) : List V → Hp → VK → Prop := fun vs H Q => ∃ l qs x, vs = [V.ref l] ∧ H l = some (.lst ((x :: qs).map vq)) ∧ (∀ q ∈ x :: qs, PairAt K H q) ∧ Hp0 (x :: qs) ∧
  ∀ qs' : List Qi, qs'.Perm qs → Hp0 qs' → (∀ q ∈ qs, x.2.1 ≤ q.2.1) → Q (vq x) (upd H l (.lst (qs'.map vq)))
theorem cr_pop (hu : X.A.units + 1 < cLine) : CallR X (.builtin "_heapq.heappop") (rPop2 X.K) := by
  intro pins s σ H vs us Q I r h
  obtain ⟨l, qs, x, rfl, hl, hp, hf, q⟩ := h
  have := r.ref1
  subst this
  obtain ⟨hd, hz⟩ := held_of I hl hp
  refine call_function_meets (S := fun A R s' => A.units + 1 < cLine ∧ Held s'.heap l (al x :: qs.map al) ∧ ∀ (zs' : List Al) (h' : Heap), zs'.Perm (qs.map al) → From lt2 0 zs' → Held h' l zs' → Only s'.heap h' l → R (.ok (.ret (al x).1)) { s' with heap := h' })
    kind_pop plain_pop entry_pop (args_pop _) (fun prog w A R s' hS => t_pop hS.2.1 hf (by simpa using hz) hS.1 hS.2.2) ⟨hu, hd, fun zs' h' p f hh oo => ?_⟩
  obtain ⟨qs', e, p'⟩ := perm_bk p
  subst e
  refine ⟨vq x, _, inv_after I hl hh oo (by rw [p'.length_eq]; simp at hz; omega), rfl, q qs' p' f fun y hy => ?_⟩
  have hm := From.least_mem tot2 irr2 hf (al y) (List.mem_cons_of_mem _ (List.mem_map_of_mem hy))
  have e0 : g ((x :: qs).map al) 0 = al x := rfl
  rw [e0] at hm
  have h2 := (lt2_no _ _).mp hm
  show (al x).2.1 ≤ (al y).2.1
  omega
end
end Hr
/-! rules that the layer lacks: set(tuple of tuples), min(xs, default=None), enumerate(tuple), a range held by a name -/
namespace Xr
open PySem PySem.Spec PyProof.Rows L2
section
variable {P : Program} {w : World} {A : Around} {E : Value → Shared → Prop} {s : Shared}
/-- a new set -/
abbrev eS (w : World) : Obj := { cls := .type "set", dict := none, data := .set #[] 0 (.fresh 0 0 (!w.params.followText "set-order")) }
set_option maxHeartbeats 4000000 in
theorem set_of_tuple {l : Addr} {items : Array Value} (ks : List (Addr × List Int)) {Q : Value → Shared → Prop} (hh : A.handled = none) (hl : s.heap.IsTuple l items) (hit : items.toList = ks.map fun p => Value.ref p.1)
    (hk : ∀ p ∈ ks, IsT P w s.heap p.2 p.1) (hfew : ks.length < 64) (hu : A.units + 3 < cLine)
    (h : ∀ (h' : Heap) (tk : Nat) L es ep t, SetTR P w h' s.heap.objs.size L es ep t → Got ks ks.length L → (∀ b o, s.heap.get? b = some o → h'.get? b = some o) → Q (.ref s.heap.objs.size) { s with heap := h', toks := tk }) :
    wpAny (model P w) A (call (.type "set") [.ref l]) Q E s := by
  have sz : items.size = ks.length := by rw [← Array.length_toList, hit, List.length_map]
  obtain ⟨c, tl, m0⟩ := F.called_set.mro
  have m1 := F.called_set.made
  have m2 := F.called_set.sub
  refine wpAny_call (codeAny_of_tree ?_)
  show wpAny _ _ (callAny (.type "set") ⟨[.ref l], []⟩) _ _ s
  refine wpAny_pure ⟨Code.quiet_builtin _ (by decide +kernel), codeAny_builtin F.entry_type_call ?_⟩
  rw [Around.under_plain (weight_type_call_type "set" [.ref l] []) rfl]
  have m3 := F.called_set.notType
  have m4 := F.called_set.canCreate
  have m5 := F.typeCall_set_1 (.ref l)
  repeat (any_goals (first | assumption | wp_step))
  refine codeAny_mono (code_set_led1 (.ref l) (E := E) (Q₁ := fun obj s₁ => obj = .ref s.heap.objs.size ∧ s₁ = { s with heap := s.heap.push (eS w) }) ⟨rfl, rfl⟩) fun r s₁ hr => ?_
  rcases r with e | fl
  · exact hr
  · cases fl with
    | ret obj =>
      obtain ⟨rfl, rfl⟩ := hr
      have g0 : (s.heap.push (eS w)).get? s.heap.objs.size = some (eS w) := Heap.get?_push_size _ rfl
      have g1 : Shared.TypeIs { s with heap := s.heap.push (eS w) } (.ref s.heap.objs.size) "set" := ⟨_, g0, rfl⟩
      have g2 := F.called_set.init.lookup
      have g3 := F.called_set.init.bind (.ref s.heap.objs.size)
      repeat (any_goals (first | assumption | wp_step))
      refine codeAny_mono (codeAny_call_builtin (R := wants (fun r s₂ => r = .none ∧ ∃ h' tk L es ep t, s₂ = { s with heap := h', toks := tk } ∧ SetTR P w h' s.heap.objs.size L es ep t ∧ Got ks ks.length L ∧
          (∀ b o, s.heap.get? b = some o → h'.get? b = some o)) E) F.called_set.init.plain F.entry_set_init (check_set_init_1 g1 ?_)) fun r₂ s₂ hr₂ => ?_
      · obtain ⟨⟨oc, od, dt, osl⟩, ho, hc, n, hd⟩ := hl
        simp only at hc hd
        subst hc hd
        have ho' : (s.heap.push (eS w)).get? l = some { cls := .type "tuple", dict := od, data := .seq items n, slots := osl } := Heap.get?_push_of_some _ ho
        have f1 := F.sub_tuple_set
        have f2 := F.sub_tuple_frozenset
        have f3 : (Value.type "tuple" == Value.type "dict") = false := by decide
        have it1 : (s.heap.push (eS w)).IsTuple l items := ⟨_, ho', rfl, n, rfl⟩
        unfold Builtin.«set.__init__» noKeywords Builtin.Frozenset.updateFrom
        generalize hq : pyIter = PI
        wp_walk
        subst hq
        refine wpAny_pyIter_tuple it1 (wpAny_bind (wpAny_runValue ?_))
        have lS : l < s.heap.objs.size := Heap.lt_size ho
        have hh3 : A.in1.in1.in1.handled = none := by simp [hh]
        have lI : l ≠ (s.heap.push (eS w)).objs.size := by rw [Heap.size_push]; exact Nat.ne_of_lt (Nat.lt_succ_of_lt lS)
        have nS : s.heap.objs.size ∉ [(s.heap.push (eS w)).objs.size, l] := fun hm => by
          rw [List.mem_cons, List.mem_singleton, Heap.size_push] at hm
          rcases hm with e | e
          · exact Nat.ne_of_lt (Nat.lt_succ_self _) e
          · exact Nat.ne_of_gt lS e
        have vals : ∀ (i : Nat) (v : Value), items[i]? = some v → ∃ p, ks[i]? = some p ∧ v = .ref p.1 := fun i v hv => by
          have q : items.toList[i]? = some v := by rw [Array.getElem?_toList]; exact hv
          rw [hit, List.getElem?_map] at q
          obtain ⟨p, hp, e⟩ := Option.map_eq_some_iff.mp q
          exact ⟨p, hp, e.symm⟩
        have none_at : ∀ b, s.heap.objs.size ≤ b → s.heap.get? b = none := fun b hb => Heap.get?_none_of_le hb
        refine set_update_tups ((Walks.tuple hh3 _ l lI items).toS) s.heap.objs.size nS ks sz hfew vals s.heap hk (none_at _ (Nat.le_refl _)) (fun b hb => none_at b (by rw [List.mem_singleton.mp hb, Heap.size_push]; omega))
          hu (items.size - 0) 0 _ (by omega) (Nat.zero_le _) ⟨⟨_, Heap.get?_push_size _ rfl, rfl, rfl⟩, it1.push _⟩ (fun b o e => Heap.get?_push_of_some _ (Heap.get?_push_of_some _ e)) ?st ?fin
        case st => exact ⟨[], #[], 0, _, setTR_fresh (Heap.get?_push_of_some _ g0), Got.zero ks⟩
        case fin =>
          intro s' L es ep t hm hS' g' hkp
          obtain ⟨h', g2', d', tk', os'⟩ := s'
          obtain rfl : g2' = s.gens := hm.gens
          obtain rfl : d' = s.drawn := hm.drawn
          obtain rfl : os' = s.os := hm.os
          rw [sz] at g'
          exact wpAny_pure (wpAny_pure ⟨rfl, h', tk', L, es, ep, t, rfl, hS', g', hkp⟩)
      · rcases r₂ with e | fl₂
        · exact hr₂
        · cases fl₂ with
          | ret r =>
            obtain ⟨rfl, h', tk, L, es, ep, t, rfl, hS', g', hk'⟩ := hr₂
            repeat (any_goals (first | assumption | wp_step))
            exact h _ _ _ _ _ _ hS' g' hk'
          | _ => exact hr₂.elim
    | _ => exact hr.elim
end
section
variable {X : Cx}
def rSetT (K : PySem.W.Frag) (P : Program) (w : World) : List V → Hp → VK → Prop := fun xs H Q => ∃ (l : Addr) (ks : List (Addr × List Int)), xs = [V.ref l] ∧ SqT K H l (ks.map fun p => V.ref p.1) ∧ (∀ p ∈ ks, SqT K H p.1 (p.2.map V.int)) ∧ ks.length < 64 ∧
  ∀ a L, H a = none → (∀ p ∈ L, p ∈ ks) → (∀ p ∈ ks, p.2 ∈ L.map (·.2)) → Q (.ref a) (upd H a (SetTO P w a L))
theorem cr_setT (hc : X.calm = true) (hu : X.A.units + 64 < cLine) : CallR X (.type "set") (rSetT X.K X.prog X.w) := by
  intro pins s σ H xs us Q I r h
  obtain ⟨l, ks, rfl, hl, hk, hf, q⟩ := h
  rw [Vals.ref1 r]
  obtain ⟨its, rv, pl, hz⟩ := I.tuple hl
  refine set_of_tuple (P := X.prog) (w := X.w) ks (I.ok.hd hc) (show s.heap.IsTuple l its.toArray from pl) (by simpa using refs_of_vals rv) (fun p hp => I.isT (hk p hp)) hf (by omega) fun h' tk L es ep t R g k => ?_
  exact ⟨.ref s.heap.objs.size, upd H s.heap.objs.size (SetTO X.prog X.w s.heap.objs.size L), I.laid (t' := tk) k (Nat.le_refl _) (setTO_new R.t0), rfl, q _ L (I.hok.fresh (Nat.le_refl _)) (fun p hp => List.mem_of_mem_take (g.sub p hp)) fun p hp => g.all p (by rw [List.take_length]; exact hp)⟩
end
end Xr
namespace Xr
open PySem PySem.Spec PyProof.Rows L2
section
variable {X : Cx}
/-- min(xs, default=None), xs a list of ints -/
def rMinD (K : PySem.W.Frag) : List V → List V → Hp → VK → Prop := fun vs zs H Q => ∃ (a : Addr) (ns : List Int), vs = [V.ref a] ∧ zs = [V.non] ∧ SqL K H a (ns.map V.int) ∧ (ns = [] → Q .non H) ∧ (∀ m, m ∈ ns → (∀ y ∈ ns, m ≤ y) → Q (.int m) H)
theorem alike_ints (ns : List Int) : PySem.W.AlikeAll (ns.map PyData.int) := by
  refine ⟨fun x hx y hy => ?_, fun x hx => ?_⟩
  · obtain ⟨i, _, rfl⟩ := List.mem_map.mp hx
    obtain ⟨j, _, rfl⟩ := List.mem_map.mp hy
    simp [PySem.W.alike]
  · obtain ⟨i, _, rfl⟩ := List.mem_map.mp hx
    simp
theorem depth_ints : ∀ ns : List Int, PyData.depthAll (ns.map PyData.int) = 0
  | [] => by simp [PyData.depthAll]
  | n :: ns => by simp [PyData.depthAll, PyData.depth, depth_ints ns]
theorem foldl_min_mem : ∀ (ns : List Int) (n : Int), ns.foldl min n ∈ n :: ns ∧ ∀ y ∈ n :: ns, ns.foldl min n ≤ y
  | [], n => ⟨List.mem_cons_self, fun y hy => by rw [List.mem_singleton] at hy; subst hy; exact Int.le_refl _⟩
  | k :: r, n => by
    obtain ⟨h1, h2⟩ := foldl_min_mem r (min n k)
    rw [List.foldl_cons]
    refine ⟨?_, fun y hy => ?_⟩
    · rcases List.mem_cons.mp h1 with e | e
      · rw [e]
        by_cases h : n ≤ k
        · rw [Int.min_eq_left h]; exact List.mem_cons_self
        · rw [Int.min_eq_right (by omega)]; exact List.mem_cons_of_mem _ List.mem_cons_self
      · exact List.mem_cons_of_mem _ (List.mem_cons_of_mem _ e)
    · have h3 := h2 (min n k) List.mem_cons_self
      rcases List.mem_cons.mp hy with e | e
      · subst e; omega
      · rcases List.mem_cons.mp e with e | e
        · subst e; omega
        · exact h2 y (List.mem_cons_of_mem _ e)
theorem cr_minD (hc : X.calm = true) (hu : X.A.units + 8 < cLine) : CallRK X (.builtin "min") ["default"] (rMinD X.K) := by
  intro pins s σ H vs zs us ws Q I r rz h
  obtain ⟨a, ns, rfl, rfl, hl, q0, q⟩ := h
  rw [Vals.ref1 r]
  obtain ⟨d, rfl, rd⟩ := rz.one
  cases (show d = Value.none from rd)
  obtain ⟨its, rv, pl, hz⟩ := I.list hl
  obtain ⟨as, hr⟩ := Dp.readsAll (X := X) I (ns.map PyData.int) (ns.map V.int) its (by
    have : ∀ ns : List Int, DpAll X.K H (ns.map V.int) (ns.map PyData.int) := fun ns => by
      induction ns with
      | nil => exact .nil
      | cons n ns ih => exact .cons (.int n) ih
    exact this ns) rv
  refine PySem.W.min_list_default (xs := ns.map PyData.int) (as := as) (I.ok.hd hc) pl.isList hr (alike_ints ns) (by rw [depth_ints]; omega) (fun e h' tk k => ?_) (fun y ys i v h' tk bs e hv hrd k => ?_)
  · have e2 : ns = [] := List.map_eq_nil_iff.mp e
    exact ⟨.non, H, I.kept (t' := tk) k, rfl, q0 e2⟩
  · cases ns with
    | nil => cases e
    | cons n ms =>
      rw [List.map_cons] at e
      injection e with e1 e2
      subst e1 e2
      rw [PySem.W.minD_ints] at hrd
      cases hrd
      obtain ⟨h1, h2⟩ := foldl_min_mem ms n
      exact ⟨.int _, H, I.kept (t' := tk) k, ⟨_, rfl⟩, q _ h1 h2⟩
/-- a range that a name holds -/
def iRgV (tl : TE) : TI := fun σ H R => tl σ H fun x H1 => ∃ a lo hi, x = .ref a ∧ H1 a = some (.rng lo hi) ∧ (-(2 ^ 62) ≤ lo ∧ lo < 2 ^ 62 ∧ -(2 ^ 62) ≤ hi ∧ hi < 2 ^ 62) ∧ R (Itr lo (hi - lo).toNat) H1
theorem pi_rgv {l tg : Expr} {tl : TE} (hl : PE X l tl) : PI X tg l (iRgV tl) := by
  refine ⟨fun pins s σ H R I h => ?_⟩
  refine thn (hl.run pins s σ H _ I h) fun v s1 ⟨x, H1, I1, r1, q1⟩ => ?_
  obtain ⟨a, lo, hi, rfl, hq, ⟨b1, b2, b3, b4⟩, q⟩ := q1
  cases (show v = Value.ref a from r1)
  obtain ⟨t, u, w, e⟩ := I1.hok a _ hq
  refine wpAny_pyIter_range (show IsRange s1.heap a lo hi 1 t u w from e) (small_one b1 b2 b3 b4) ?_
  refine ⟨s1.heap.objs.size, [s1.heap.objs.size], _, _, H1, rfl, I1.kept (t' := s1.toks) fun b o e => Heap.get?_push_of_some _ e, turn_range _ lo (hi - lo).toNat, ?_, fun b hb => ?_, q⟩
  · have e1 : lo + ((0 : Nat) : Int) * 1 = lo := by simp
    have e2 : (((hi - lo).toNat : Nat) : Int) - ((0 : Nat) : Int) = Builtin.Range.rangeSize lo hi 1 := by rw [rangeSize_one]; split <;> omega
    show IsRangeIter _ _ (lo + ((0 : Nat) : Int) * 1) ((((hi - lo).toNat : Nat) : Int) - ((0 : Nat) : Int)) 1
    rw [e1, e2]
    exact Heap.get?_push_size _ rfl
  · have e : b = s1.heap.objs.size := by simpa using hb
    subst e
    exact I1.fpOk (Nat.le_refl _) (I1.hok.fresh (Nat.le_refl _))
theorem cr_range1 : CallR X (.type "range") (fun vs H Q => ∃ i, vs = [V.int i] ∧ ∀ p, H p = none → Q (.ref p) (upd H p (.rng 0 i))) := by
  intro pins s σ H vs us Q I r h
  obtain ⟨i, rfl, q⟩ := h
  obtain ⟨u, rfl, t, rfl⟩ := r.one
  refine call_range_1 ⟨.ref s.heap.objs.size, upd H s.heap.objs.size (.rng 0 i), I.laid (t' := s.toks + 1 + 1) (fun b o e => Heap.get?_push_of_some _ e) (Nat.le_refl _) ?_, rfl, q _ (I.hok.fresh (Nat.le_refl _))⟩
  exact ⟨_, _, _, Heap.get?_push_size _ rfl⟩
end
end Xr
/-! enumerate(t), t a tuple -/
namespace Xr
open PySem PySem.Spec PyProof.Rows L2
theorem meets_enum_tup (l : Addr) (items : Array Value) (n : Nat) (dct : Option Addr) (sl : Array (Option Value)) :
    Meets (Builtin.«enumerate.__new__» ⟨[.type "enumerate", .ref l], []⟩) (fun _ R s => s.heap.get? l = some { cls := .type "tuple", dict := dct, data := .seq items n, slots := sl } ∧
      R (.ok (.ret (.ref (s.heap.objs.size + 1)))) { s with heap := (s.heap.push { cls := .type "tuple_iterator", data := .fields #[.ref l, .int 0 0] }).push { cls := .type "enumerate", data := .fields #[.none, .bool false, .ref s.heap.objs.size, rawInt 0, .none, .none] } }) :=
  .of_wp fun prog w A R s h => by
    obtain ⟨hp, g, d, tk, os⟩ := s
    obtain ⟨hl, h⟩ := h
    have hsub := sub_enumerate
    have hL : Heap.IsTuple (Shared.heap ⟨hp, g, d, tk, os⟩) l items := ⟨_, hl, rfl, n, rfl⟩
    have hz : (hp.push { cls := .type "tuple_iterator", data := .fields #[.ref l, .int 0 0] }).objs.size = hp.objs.size + 1 := Heap.size_push ..
    have h2 := h
    simp only at h2
    rw [← hz] at h2
    wp_walk using AutoSeq1.wpAny_loadPart' hl
    refine wpAny_stack_any fun st => wpAny_pure ?_
    split
    · rename_i c _ _ _ _ _
      cases (c == Value.type "enumerate") <;> (wp_walk using AutoSeq1.wpAny_loadPart' hl, wpAny_pyIter_tuple hL; exact ⟨_, rfl, h2⟩)
    · wp_walk using AutoSeq1.wpAny_loadPart' hl, wpAny_pyIter_tuple hL
      exact ⟨_, rfl, h2⟩
theorem call_enum_tup {prog : Program} {w : World} {A : Around} {E : Value → Shared → Prop} {s : Shared} {l : Addr} {items : Array Value} {Q : Value → Shared → Prop} (hL : s.heap.IsTuple l items)
    (h : ∀ h', IsEnum h' (s.heap.objs.size + 1) s.heap.objs.size 0 .none → h'.IsTupleIter s.heap.objs.size l 0 → (∀ b o, s.heap.get? b = some o → h'.get? b = some o) → Q (.ref (s.heap.objs.size + 1)) { s with heap := h' }) :
    wpAny (model prog w) A (call (.type "enumerate") [.ref l]) Q E s := by
  obtain ⟨⟨c, dct, dt, sl⟩, hl, hc, n, hd⟩ := hL
  simp only at hc hd
  subst hc hd
  have hz : (s.heap.push { cls := .type "tuple_iterator", data := .fields #[.ref l, .int 0 0] }).objs.size = s.heap.objs.size + 1 := Heap.size_push ..
  have he : IsEnum ((s.heap.push { cls := .type "tuple_iterator", data := .fields #[.ref l, .int 0 0] }).push { cls := .type "enumerate", data := .fields #[.none, .bool false, .ref s.heap.objs.size, rawInt 0, .none, .none] }) (s.heap.objs.size + 1) s.heap.objs.size 0 .none := by
    rw [← hz]; exact Heap.get?_push_size _ rfl
  refine callType_new F.called_enumerate (by decide) (F.typeCall_enumerate_1 _) (F.newCall_enumerate_1 _) (fun obj => F.args_object_init_2 obj _) F.entry_enumerate_new (meets_enum_tup l items n dct sl) ⟨hl, ?_⟩
  exact ⟨⟨_, he, rfl⟩, h _ he ⟨_, Heap.get?_push_of_some _ (Heap.get?_push_size _ rfl), rfl, rfl⟩ fun b o x => Heap.get?_push_of_some _ (Heap.get?_push_of_some _ x)⟩
/-- the tuple at a, each item in a new pair -/
def Itet (K : PySem.W.Frag) (a : Addr) : It :=
  ⟨fun i H => ∃ (xs : List V) (x : V), SqT K H a xs ∧ xs[i]? = some x, fun i H v H' => ∃ T x, v = .ref T ∧ H T = none ∧ H' = upd H T (.tup [.int (i : Nat), x]) ∧ ∀ xs, SqT K H a xs → xs[i]? = some x, fun i H => ∃ xs : List V, SqT K H a xs ∧ xs.length ≤ i⟩
theorem turn_enumT {P : Program} {w : World} {K : PySem.W.Frag} {elts : List Expr} {kk : Nat} {tpos : Pos} (a e it : Addr) :
    Turn P w K (.Tuple elts kk tpos) (Itet K a) [e, it] e (fun i h => (∃ old, IsEnum h e it ((i : Nat) : Int) old) ∧ h.IsTupleIter it a i ∧ e ≠ it) where
  mem := by simp
  obj := fun i h st b hb => by
    obtain ⟨⟨old, he⟩, ⟨o, ho, hc, hd⟩, _⟩ := st
    have e' : b = e ∨ b = it := by simpa using hb
    rcases e' with z | z
    · rw [z]; exact ⟨_, he, fun v q => nomatch q⟩
    · rw [z]; exact ⟨o, ho, fun v q => by rw [hd] at q; cases q⟩
  keep := fun i h h' st k => let ⟨⟨old, he⟩, hi, hne⟩ := st; ⟨⟨old, k e (by simp) _ he⟩, hi.at fun o q => k it (by simp) o q, hne⟩
  item := by
    intro X hP hw hK hc i pins s σ H E I hf st hg
    subst hP hw hK
    obtain ⟨⟨old, he⟩, hit, hne⟩ := st
    obtain ⟨xs, x, hq, hx⟩ := hg
    obtain ⟨its, rv, p, hz⟩ := I.tuple hq
    obtain ⟨u, hu, ru⟩ := rv.get hx
    have tp : s.heap.IsTuple a its.toArray := p
    have hel : e < s.heap.objs.size := Heap.lt_size he
    have hil : it < s.heap.objs.size := by obtain ⟨_, q, _⟩ := hit; exact Heap.lt_size q
    have hea : e ≠ a := fun z => by
      subst z
      obtain ⟨o, ho, hc', _⟩ := tp
      have he2 := he
      unfold IsEnum at he2
      rw [ho] at he2; cases he2
      simp at hc'
    have hia : a ≠ it := fun z => by
      subst z
      obtain ⟨o, ho, hc', _⟩ := tp
      obtain ⟨o2, ho2, hc2, _⟩ := hit
      rw [ho] at ho2; cases ho2
      rw [hc'] at hc2; simp at hc2
    have hil2 : i < its.toArray.size := by simpa using (List.getElem?_eq_some_iff.mp hu).1
    refine wpAny_pyNext_enum_itemD (Draws.tuple (A := X.A.in1) (I.ok.hd hc) it a hia its.toArray) he ⟨hit, tp⟩ hil2 hne (fun z => by
      have e' : e = it ∨ e = a := by simpa using z
      rcases e' with z | z
      · exact hne z
      · exact hea z) fun y h' tk hy ho st' hT hsz hk => ?_
    have ey : y = u := by
      have hy2 : its.toArray[i]? = some y := hy
      rw [List.getElem?_toArray, hu] at hy2
      exact (Option.some.inj hy2).symm
    subst ey
    obtain ⟨hit', tp'⟩ := st'
    refine ⟨_, rfl, wpAny_letOwnedTupleGo_enum (s := { s with heap := h', toks := tk + 1 }) ho fun h'' he' sb => ?_⟩
    have hT2 : h''.get? s.heap.objs.size = some { cls := .type "tuple", data := .seq #[.int i tk, y] } := (sb.2 _ (Nat.ne_of_gt hel)).trans hT
    have new : ObjOk X.prog X.w (upd H s.heap.objs.size (.tup [.int (i : Nat), x])) h'' s.heap.objs.size (.tup [.int (i : Nat), x]) :=
      ⟨by show 2 ≤ sizeLine; decide, [.int i tk, y], .cons ⟨_, rfl⟩ (.cons ru .nil), ⟨_, hT2, rfl, _, rfl⟩⟩
    have I1 : Inv X pins σ (upd H s.heap.objs.size (.tup [.int (i : Nat), x])) { s with heap := h'', toks := tk + 1 } :=
      I.turnedNew (ch := [e, it]) (fun b ob hb q => (sb.2 b (fun z => hb (by simp [z]))).trans (hk b ob (fun z => hb (by simp [z])) (fun z => hb (by simp [z])) q)) hf (Nat.le_refl _) new
    refine ⟨.ref s.heap.objs.size, _, I1, rfl, ⟨_, x, rfl, I.hok.fresh (Nat.le_refl _), rfl, fun ys hy => by rw [I.tuple_inj hy hq]; exact hx⟩, ⟨⟨y, ?_⟩, hit'.at fun o q => (sb.2 it (Ne.symm hne)).trans q, hne⟩, fun b hb => ?_⟩
    · rw [show ((i + 1 : Nat) : Int) = (i : Int) + 1 by omega]; exact he'
    · have hb' : b < s.heap.objs.size := by
        have e' : b = e ∨ b = it := by simpa using hb
        rcases e' with z | z
        · rw [z]; exact hel
        · rw [z]; exact hil
      rw [upd_ne (Nat.ne_of_lt hb')]
      exact (hf b hb).1
  done := by
    intro X hP hw hK hc i pins s σ H E I hf st hg
    subst hP hw hK
    obtain ⟨⟨old, he⟩, hit, hne⟩ := st
    obtain ⟨xs, hq, hx⟩ := hg
    obtain ⟨its, rv, p, hz⟩ := I.tuple hq
    have tp : s.heap.IsTuple a its.toArray := p
    have hia : a ≠ it := fun z => by
      subst z
      obtain ⟨o, ho, hc', _⟩ := tp
      obtain ⟨o2, ho2, hc2, _⟩ := hit
      rw [ho] at ho2; cases ho2
      rw [hc'] at hc2; simp at hc2
    obtain ⟨f0, f1, f2, f3, f4, f5⟩ := hf it (by simp)
    have hl := rv.length
    have hT : s.TypeIs (.ref e) "enumerate" := ⟨_, he, rfl⟩
    unfold pyNext
    refine wpAny_bind (wpAny_attempt (wpAny_callSpecial?_slot (name := Str.ofString "__next__") hT F.slot_enumerate_next
      (wpAny_call_entry F.slot_enumerate_next hT F.entry_enumerate_next ?_ (F.args_enumerate_next_1 _))))
    show wpAny _ _ (field (.ref e) 2 >>= _) _ _ _
    refine wpAny_bind (wpAny_field he rfl (x := .ref it) rfl ?_)
    refine wpAny_bind (wpAny_nextOf_tuple_end (I.ok.hd hc) hit tp (by simp; omega) fun h' x' hex hx' => ?_)
    obtain ⟨o, ho, hcc⟩ := hx'
    refine wpAny_bind (wpAny_isInstance (T := "StopIteration") (b := true) ⟨o, ho, hcc⟩ isSubtype_stop ?_)
    exact wpAny_pure ⟨rfl, I.turned (t' := s.toks) (fun b o hb q => hex b o hb q) f0 f1 f3 f4 f5⟩
  self := fun A i s Q E st h => let ⟨⟨_, he⟩, _⟩ := st; wpAny_pyIter_enum he h
def iEnT (K : PySem.W.Frag) (ta : TA) : TI := fun σ H R => ta σ H fun vs H1 => ∃ a xs, vs = [.ref a] ∧ SqT K H1 a xs ∧ R (Itet K a) H1
theorem pi_enumT {X : Cx} {e : Expr} {ta : TA} {p pos tpos : Pos} {elts : List Expr} {kk : Nat} (hg : Gl X "enumerate") (hm : X.mg "enumerate" = none) (ha : PA X [e] ta) (hs : starEach [e] X.env = [(false, eval e X.env)] := by rfl) :
    PI X (.Tuple elts kk tpos) (.Call (.Name "enumerate" p) [e] [] pos) (iEnT X.K ta) := by
  refine ⟨fun pins s σ H R I h => ?_⟩
  refine Call_ (ld_blt I hg hm boot_enumerate (PyProof.Rows.callWith_type1 (thn (ha.run pos pins s σ H _ I h) fun us s1 ⟨vs, H1, I1, r1, q1⟩ => ?_) hs rfl))
  obtain ⟨a, xs, rfl, hq, q⟩ := q1
  rw [Vals.ref1 r1]
  obtain ⟨its, rv, p', hz⟩ := I1.tuple hq
  refine call_enum_tup (show s1.heap.IsTuple a its.toArray from p') fun h' he hit hk => wpAny_pyIter_enum he ?_
  have I2 : Inv X pins σ H1 { s1 with heap := h' } := I1.kept (t' := s1.toks) hk
  refine ⟨s1.heap.objs.size + 1, [s1.heap.objs.size + 1, s1.heap.objs.size], _, _, H1, rfl, I2, turn_enumT a (s1.heap.objs.size + 1) s1.heap.objs.size, ⟨⟨.none, he⟩, hit, Nat.succ_ne_self _⟩, fun b hb => ?_, q⟩
  have hle : s1.heap.objs.size ≤ b := by
    have e' : b = s1.heap.objs.size + 1 ∨ b = s1.heap.objs.size := by simpa using hb
    rcases e' with z | z
    · rw [z]; exact Nat.le_add_right _ _
    · rw [z]; exact Nat.le_refl _
  exact I1.fpOk hle (I1.hok.fresh hle)
end Xr
set_option maxHeartbeats 0
/-! the head: the text by its places, the facts that the top leaves -/
namespace Hd
open PySem PySem.Spec PyProof.Rows L2 He
def top (i : Nat) : Stmt := PySem.Challenge.pw_pegstreet_k62_fewest_tools_whole.main.body.getD i (.Pass ⟨0, 0, 0, 0⟩)
abbrev s_frozen : Stmt := top 3
abbrev s_is_number : Stmt := top 4
abbrev s_ascending : Stmt := top 5
abbrev s_houses_ahead : Stmt := top 7
abbrev s_strong_parts : Stmt := top 8
abbrev s_is_bare : Stmt := top 10
abbrev s_spurred_parts : Stmt := top 11
abbrev s_is_at_most : Stmt := top 13
abbrev s_is_sum_row : Stmt := top 14
abbrev s_is_sum_table : Stmt := top 15
abbrev s_sums_from : Stmt := top 16
abbrev s_ring_sums : Stmt := top 17
abbrev s_fewest_tools : Stmt := top 18
abbrev s_shows_fewest : Stmt := top 19
abbrev s_check_pegs : Stmt := top 25
abbrev s_check_lanes : Stmt := top 26
abbrev s_law_whole : Stmt := top 29
abbrev s_law_cell : Stmt := top 30
abbrev s_law_digits : Stmt := top 31
abbrev s_law_lanes : Stmt := top 32
abbrev s_law_town : Stmt := top 33
abbrev s_law_twin : Stmt := top 34
abbrev s_law_ahead : Stmt := top 35
abbrev s_law_opened : Stmt := top 36
abbrev s_law_build : Stmt := top 37
abbrev s_law_rings : Stmt := top 38
abbrev s_law_spur : Stmt := top 39
abbrev s_law_weight : Stmt := top 40
abbrev s_law_says : Stmt := top 41
abbrev s_law_sums : Stmt := top 42
abbrev s_law_items : Stmt := top 43
abbrev s_law_lightest : Stmt := top 44
abbrev s_law : Stmt := top 45
abbrev s_Street : Stmt := top 27
abbrev s_init : Stmt := inClass s_Street 1
abbrev s_houses : Stmt := inClass s_Street 2
abbrev s_lends : Stmt := inClass s_Street 3
/-! ### facts by names -/
/-- a def: where it stands, its name, qualified name, statement -/
structure En where
  ad : PySem.W.Frag → Addr
  name : Str
  qual : Str
  st : Stmt
/-- the property Street.houses, its getter -/
def pAd (K : PySem.W.Frag) : Addr := ma K (ga K "Street") "houses"
def gAd (K : PySem.W.Frag) : Addr := match PySem.W.recIn K (pAd K) "property" with
  | some (.ref g :: _) => g
  | _ => 0
def fnV (K : PySem.W.Frag) (a : Addr) : FnV := match K.lookup a with
  | some ⟨_, _, .func fd, _⟩ => some (fd.name, fd.qualname, fd.params, fd.body, fd.scope, fd.globals, fd.closure, fd.defaults, fd.builtins)
  | _ => none
def En.val (d : En) : FnV := some (d.name, d.qual, defArgs d.st, .stmts (defBody d.st), defScope d.st, mainGlobals, [], .none, builtinsNs)
def En.ok (K : PySem.W.Frag) (d : En) : Bool := PySem.W.keepIn K (.ref (d.ad K)) && (match K.lookup (d.ad K) with
  | some ⟨_, _, .func fd, _⟩ => PySem.W.codeIn K fd.code d.qual
  | _ => false)
theorem En.fn {K : PySem.W.Frag} {d : En} (e : fnV K (d.ad K) = d.val) (c : d.ok K = true) : ∃ fd, Fun K d.name d.qual d.st (d.ad K) fd := by
  obtain ⟨kp, c2⟩ := ba c
  unfold fnV at e
  cases q : K.lookup (d.ad K) with
  | none =>
    rw [q] at c2
    cases c2
  | some o =>
    obtain ⟨oc, od, dt, osl⟩ := o
    rw [q] at c2 e
    cases dt with
    | func fd =>
      obtain ⟨n1, n2, n3, n4, n5, n6, n7, n8, n9, n10, n11, n12, n13, n14, n15⟩ := fd
      have e2 : (some (n1, n2, n3, n4, n5, n6, n7, n8, n15) : FnV) = some (d.name, d.qual, defArgs d.st, .stmts (defBody d.st), defScope d.st, mainGlobals, [], .none, builtinsNs) := e
      simp only [Option.some.injEq, Prod.mk.injEq] at e2
      obtain ⟨h1, h2, h3, h4, h5, h6, h7, h8, h9⟩ := e2
      subst h1 h2 h3 h4 h5 h6 h7 h8 h9
      exact ⟨_, ⟨oc, od, n9, n10, n11, n12, n13, n14, osl, rfl, q, c2⟩, kp⟩
    | _ => cases c2
def bltB (K : PySem.W.Frag) (x : Str) (id : String) : Bool := (match PySem.W.nsIn K mainGlobals x with
  | some (some (.builtin n)) => decide (n = id)
  | _ => false)
theorem bltB_ok {K : PySem.W.Frag} {h : Heap} {mg : Str → Option Value} (X : K.In h) (G : h.Ns mainGlobals mg) {x : Str} {id : String} (c : bltB K x id = true) : mg x = some (.builtin id) := by
  unfold bltB at c
  split at c
  · rename_i n e
    have := of_decide_eq_true c
    subst this
    exact PySem.W.mg_of X G e
  · cases c
def propB (K : PySem.W.Frag) : Bool := eqO (PySem.W.findIn K (.ref (ga K "Street")) "houses") (some (some (.ref (pAd K)))) && (eqO (PySem.W.specialIn K (.ref (pAd K)) "__get__") (some (some (.builtin "property.__get__"))) &&
  (decide (PySem.W.takesIn K (.ref (pAd K)) = some true) && (match PySem.W.recIn K (pAd K) "property" with
    | some (.ref _ :: _) => true
    | _ => false)))
theorem propB_ok {K : PySem.W.Frag} (c : propB K = true) : PropOf K (ga K "Street") "houses" (pAd K) (gAd K) := by
  obtain ⟨c1, c⟩ := ba c
  obtain ⟨c2, c⟩ := ba c
  obtain ⟨c3, c4⟩ := ba c
  refine ⟨eqO_ok c1, eqO_ok c2, of_decide_eq_true c3, ?_⟩
  unfold gAd
  split at c4
  · rename_i g rest e
    exact ⟨rest, by rw [e]⟩
  · cases c4
def ens : List En := [⟨fun K => ga K "frozen", "frozen", "frozen", s_frozen⟩,
  ⟨fun K => ga K "is_number", "is_number", "is_number", s_is_number⟩,
  ⟨fun K => ga K "ascending", "ascending", "ascending", s_ascending⟩,
  ⟨fun K => ga K "houses_ahead", "houses_ahead", "houses_ahead", s_houses_ahead⟩,
  ⟨fun K => ga K "strong_parts", "strong_parts", "strong_parts", s_strong_parts⟩,
  ⟨fun K => ga K "is_bare", "is_bare", "is_bare", s_is_bare⟩,
  ⟨fun K => ga K "spurred_parts", "spurred_parts", "spurred_parts", s_spurred_parts⟩,
  ⟨fun K => ga K "is_at_most", "is_at_most", "is_at_most", s_is_at_most⟩,
  ⟨fun K => ga K "is_sum_row", "is_sum_row", "is_sum_row", s_is_sum_row⟩,
  ⟨fun K => ga K "is_sum_table", "is_sum_table", "is_sum_table", s_is_sum_table⟩,
  ⟨fun K => ga K "sums_from", "sums_from", "sums_from", s_sums_from⟩,
  ⟨fun K => ga K "ring_sums", "ring_sums", "ring_sums", s_ring_sums⟩,
  ⟨fun K => ga K "fewest_tools", "fewest_tools", "fewest_tools", s_fewest_tools⟩,
  ⟨fun K => ga K "shows_fewest", "shows_fewest", "shows_fewest", s_shows_fewest⟩,
  ⟨fun K => ga K "check_pegs", "check_pegs", "check_pegs", s_check_pegs⟩,
  ⟨fun K => ga K "check_lanes", "check_lanes", "check_lanes", s_check_lanes⟩,
  ⟨fun K => ga K "_law_whole", "_law_whole", "_law_whole", s_law_whole⟩,
  ⟨fun K => ga K "_law_cell", "_law_cell", "_law_cell", s_law_cell⟩,
  ⟨fun K => ga K "_law_digits", "_law_digits", "_law_digits", s_law_digits⟩,
  ⟨fun K => ga K "_law_lanes", "_law_lanes", "_law_lanes", s_law_lanes⟩,
  ⟨fun K => ga K "_law_town", "_law_town", "_law_town", s_law_town⟩,
  ⟨fun K => ga K "_law_twin", "_law_twin", "_law_twin", s_law_twin⟩,
  ⟨fun K => ga K "_law_ahead", "_law_ahead", "_law_ahead", s_law_ahead⟩,
  ⟨fun K => ga K "_law_opened", "_law_opened", "_law_opened", s_law_opened⟩,
  ⟨fun K => ga K "_law_build", "_law_build", "_law_build", s_law_build⟩,
  ⟨fun K => ga K "_law_rings", "_law_rings", "_law_rings", s_law_rings⟩,
  ⟨fun K => ga K "_law_spur", "_law_spur", "_law_spur", s_law_spur⟩,
  ⟨fun K => ga K "_law_weight", "_law_weight", "_law_weight", s_law_weight⟩,
  ⟨fun K => ga K "_law_says", "_law_says", "_law_says", s_law_says⟩,
  ⟨fun K => ga K "_law_sums", "_law_sums", "_law_sums", s_law_sums⟩,
  ⟨fun K => ga K "_law_items", "_law_items", "_law_items", s_law_items⟩,
  ⟨fun K => ga K "_law_lightest", "_law_lightest", "_law_lightest", s_law_lightest⟩,
  ⟨fun K => ga K "law", "law", "law", s_law⟩,
  ⟨fun K => ma K (ga K "Street") "__init__", "__init__", "Street.__init__", s_init⟩,
  ⟨gAd, "houses", "Street.houses", s_houses⟩,
  ⟨fun K => ma K (ga K "Street") "lends_to", "lends_to", "Street.lends_to", s_lends⟩]
def fas : List Fa := [.glo "frozen", .glo "is_number", .glo "ascending", .glo "houses_ahead", .glo "strong_parts", .glo "is_bare", .glo "spurred_parts", .glo "is_at_most", .glo "is_sum_row", .glo "is_sum_table", .glo "sums_from", .glo "ring_sums", .glo "fewest_tools", .glo "shows_fewest", .glo "check_pegs", .glo "check_lanes", .glo "_law_whole", .glo "_law_cell", .glo "_law_digits", .glo "_law_lanes", .glo "_law_town", .glo "_law_twin", .glo "_law_ahead", .glo "_law_opened", .glo "_law_build", .glo "_law_rings", .glo "_law_spur", .glo "_law_weight", .glo "_law_says", .glo "_law_sums", .glo "_law_items", .glo "_law_lightest", .glo "law", .glo "Street", .cls "Street", .mkr "Street", .noat "Street" "pegs", .noat "Street" "lanes", .noat "Street" "to_lists", .noat "Street" "from_lists", .meth "Street" "lends_to", .free "isinstance", .free "tuple", .free "list", .free "int", .free "bool", .free "sorted", .free "set", .free "len", .free "range", .free "all", .free "enumerate", .free "min", .free "max", .free "sum"]
def xb (K : PySem.W.Frag) : Bool := propB K && (bltB K "heapify" "_heapq.heapify" && (bltB K "heappop" "_heapq.heappop" && bltB K "heappush" "_heapq.heappush"))
abbrev Alx : Type := Bool × List FnV
def obsX (K : PySem.W.Frag) : Alx := ((fas.all fun f => f.ok K) && ((ens.all fun d => d.ok K) && xb K), ens.map fun d => fnV K (d.ad K))
def valX : Alx := (true, ens.map En.val)
def SaysX (K : PySem.W.Frag) : Prop := obsX K = valX
def obsXG (n : Nat) (g : Addr → Option Obj) : Alx := obsX (frG g (asD g n))
def hookX (n : Nat) : PySem.W.Hook where
  α := Alx
  obs := fun s => obsXG n s.heap.get?
  val := fun _ => valX
  says := fun _ h => ∃ K : PySem.W.Frag, K.In h ∧ SaysX K
  of := fun _ _ e => ⟨_, frG_in, e⟩
  keeps := fun _ _ _ ⟨K, hK, c⟩ k => ⟨K, PySem.W.Frag.In.keeps hK k, c⟩
theorem obsXG_eq {n : Nat} {g : Addr → Option Obj} {s : Shared} (h : ∀ a, g a = s.heap.get? a) : obsXG n g = (hookX n).obs s := by
  have e : g = s.heap.get? := funext h
  rw [e] <;> rfl
section
variable {K : PySem.W.Frag}
theorem SaysX.fact (c : SaysX K) (i : Nat) {f : Fa} (h : fas[i]? = some f := by rfl) : f.ok K = true := by
  have c1 := (ba (show ((fas.all fun f => f.ok K) && ((ens.all fun d => d.ok K) && xb K)) = true from congrArg (fun z : Alx => z.1) c)).1
  exact List.all_eq_true.mp c1 f (List.mem_of_getElem? h)
theorem SaysX.def_ (c : SaysX K) (i : Nat) {d : En} (h : ens[i]? = some d := by rfl) : ∃ fd, Fun K d.name d.qual d.st (d.ad K) fd := by
  have c2 := (ba (ba (show ((fas.all fun f => f.ok K) && ((ens.all fun d => d.ok K) && xb K)) = true from congrArg (fun z : Alx => z.1) c)).2).1
  have e : ens.map (fun d => fnV K (d.ad K)) = ens.map En.val := congrArg (fun z : Alx => z.2) c
  have e2 : (ens.map fun d => fnV K (d.ad K))[i]? = (ens.map En.val)[i]? := by rw [e]
  rw [List.getElem?_map, List.getElem?_map, h] at e2
  exact En.fn (Option.some.inj e2) (List.all_eq_true.mp c2 d (List.mem_of_getElem? h))
theorem SaysX.xbs (c : SaysX K) : xb K = true := (ba (ba (show ((fas.all fun f => f.ok K) && ((ens.all fun d => d.ok K) && xb K)) = true from congrArg (fun z : Alx => z.1) c)).2).2
end
abbrev Rr : PySem.W.OpenRow := PySem.W.OpenLaw.row PySem.Challenge.rw_pegstreet_k62_fewest_tools_whole
abbrev hk : PySem.W.Hook := hookX 6
def ob (s : PySem.W.SharedT) : Alx := obsXG 6 (HeadRun.getT s)
theorem ob_eq (s : PySem.W.SharedT) : ob s = hk.obs s.abs := obsXG_eq (HeadRun.getT_eq s)
def loose1 : List Str := ["_wall", "frozen", "is_number", "ascending", "houses_ahead", "strong_parts", "is_bare", "spurred_parts", "is_at_most", "is_sum_row", "is_sum_table", "sums_from", "ring_sums", "fewest_tools", "shows_fewest", "StreetError", "BadPegs", "BadLane", "check_pegs", "check_lanes", "Street", "_law_whole"]
def loose2 : List Str := ["_law_cell", "_law_digits", "_law_lanes", "_law_town", "_law_twin", "_law_ahead", "_law_opened", "_law_build", "_law_rings", "_law_spur", "_law_weight", "_law_says", "_law_sums", "_law_items", "_law_lightest"]
end Hd
namespace Hd
open PySem PySem.Spec PyProof.Rows L2 He
theorem run (w : World) : HeadRun.RunEqI Rr (PySem.W.view Rr.prog [0, 45]) hk ob 20000 (loose1 ++ loose2) w := by
  unfold HeadRun.RunEqI
  kernel_rfl
end Hd
set_option maxHeartbeats 4000000
/-! what the defs stand on; streets; the smallest defs -/
namespace Lw
open PySem PySem.Spec PyProof.Rows L2 Evl Dl Hd He Hr Xr
theorem hu1 {A : Around} {k : Nat} (hr : Room k A) : A.units + 1 < cLine := by have := hr.un; omega
theorem hu8 {A : Around} {k : Nat} (hr : Room k A) : A.units + 8 < cLine := by have := hr.un; omega
theorem hu64 {A : Around} {k : Nat} (hr : Room k A) : A.units + 64 < cLine := by have := hr.un; omega
theorem hu65 {A : Around} {k : Nat} (hr : Room k A) : A.units + 65 < cLine := by have := hr.un; omega
theorem bt_isinstance : bootBuiltins "isinstance" = some (.builtin "isinstance") := by decide +kernel
theorem bt_len : bootBuiltins "len" = some (.builtin "len") := by decide +kernel
theorem bt_sorted : bootBuiltins "sorted" = some (.builtin "sorted") := by decide +kernel
theorem bt_all : bootBuiltins "all" = some (.builtin "all") := by decide +kernel
theorem bt_min : bootBuiltins "min" = some (.builtin "min") := by decide +kernel
theorem bt_max : bootBuiltins "max" = some (.builtin "max") := by decide +kernel
theorem bt_sum : bootBuiltins "sum" = some (.builtin "sum") := by decide +kernel
theorem bt_tuple : bootBuiltins "tuple" = some (.type "tuple") := by decide +kernel
theorem bt_list : bootBuiltins "list" = some (.type "list") := by decide +kernel
theorem bt_int : bootBuiltins "int" = some (.type "int") := by decide +kernel
theorem bt_bool : bootBuiltins "bool" = some (.type "bool") := by decide +kernel
theorem bt_set : bootBuiltins "set" = some (.type "set") := by decide +kernel
theorem bt_range : bootBuiltins "range" = some (.type "range") := by decide +kernel
/-- the class Street -/
abbrev cS (K : PySem.W.Frag) : Addr := ga K "Street"
structure Tx (K : PySem.W.Frag) (mg : Str → Option Value) : Prop where
  isinstance : mg "isinstance" = none
  tuple : mg "tuple" = none
  list : mg "list" = none
  int : mg "int" = none
  bool : mg "bool" = none
  sorted : mg "sorted" = none
  set : mg "set" = none
  len : mg "len" = none
  range : mg "range" = none
  all : mg "all" = none
  enumerate : mg "enumerate" = none
  min : mg "min" = none
  max : mg "max" = none
  sum : mg "sum" = none
  heapify : mg "heapify" = some (.builtin "_heapq.heapify")
  heappop : mg "heappop" = some (.builtin "_heapq.heappop")
  heappush : mg "heappush" = some (.builtin "_heapq.heappush")
  cl : Cls K (cS K)
  mkS : Mk K (cS K) (ma K (cS K) "__init__")
  gS : mg "Street" = some (.ref (cS K))
  n1 : NoAttr K (cS K) "pegs"
  n2 : NoAttr K (cS K) "lanes"
  n3 : NoAttr K (cS K) "to_lists"
  n4 : NoAttr K (cS K) "from_lists"
  ml : Meth K (cS K) "lends_to" (ma K (cS K) "lends_to")
  pr : PropOf K (cS K) "houses" (pAd K) (gAd K)
/-- a def of the text, ready to be called -/
structure Cal (P : Program) (w : World) (K : PySem.W.Frag) (mg : Str → Option Value) (base : Heap) (k : Nat) (name : Str) (ps : List Str) (sp : Sp) where
  f : Addr
  fd : FuncData
  g : mg name = some (.ref f)
  kp : PySem.W.keepIn K (.ref f) = true
  b : Binds K fd ps []
  ok : FnOk P w K mg base CX0 k f fd ps sp
/-- a method or a getter at f -/
structure Cam (P : Program) (w : World) (K : PySem.W.Frag) (mg : Str → Option Value) (base : Heap) (k : Nat) (f : Addr) (ps : List Str) (sp : Sp) where
  fd : FuncData
  b : Binds K fd ps []
  ok : FnOk P w K mg base CX0 k f fd ps sp
/-! ### data -/
abbrev ePr (p : Nat × Nat) : D := .tuple [eN p.1, eN p.2]
def eO : Option Nat → D
  | none => .none
  | some n => eN n
abbrev tN (ns : List Nat) : D := .tuple (ns.map eN)
abbrev lN (ns : List Nat) : D := .list (ns.map eN)
abbrev tP (ps : List (Nat × Nat)) : D := .tuple (ps.map ePr)
abbrev lP (ps : List (Nat × Nat)) : D := .list (ps.map ePr)
abbrev tO (os : List (Option Nat)) : D := .tuple (os.map eO)
abbrev lO (os : List (Option Nat)) : D := .list (os.map eO)
structure Town where
  pegs : List Nat
  lanes : List (Nat × Nat)
def Town.n (t : Town) : Nat := t.pegs.length
def Town.out (t : Town) (h : Nat) : List Nat := (t.lanes.filter fun p => p.1 == h).map (·.2)
abbrev eTown (t : Town) : D := .list [lN t.pegs, lP t.lanes]
structure Town.Ok (t : Town) : Prop where
  n1 : 1 ≤ t.n
  n7 : t.n ≤ 7
  pg : ∀ p ∈ t.pegs, 1 ≤ p ∧ p ≤ 9
  ln : ∀ p ∈ t.lanes, p.1 < t.n ∧ p.2 < t.n ∧ p.1 ≠ p.2
  st : t.lanes.Pairwise fun p q => p.1 < q.1 ∨ (p.1 = q.1 ∧ p.2 < q.2)
theorem Town.Ok.nd {t : Town} (o : t.Ok) : t.lanes.Nodup := o.st.imp fun h e => by subst e; omega
/-- a nodup list of pairs below n is short -/
theorem nodup_len : ∀ (n : Nat) (l : List Nat), l.Nodup → (∀ x ∈ l, x < n) → l.length ≤ n := by
  intro n
  induction n with
  | zero =>
    intro l _ h
    cases l with
    | nil => exact Nat.le_refl _
    | cons x r => exact absurd (h x List.mem_cons_self) (Nat.not_lt_zero _)
  | succ n ih =>
    intro l hn h
    by_cases hm : n ∈ l
    · have h2 := ih (l.erase n) (hn.erase n) fun x hx => by
        have a := h x (List.mem_of_mem_erase hx)
        have b : x ≠ n := fun e => by
          subst e
          exact (hn.mem_erase_iff.mp hx).1 rfl
        omega
      rw [List.length_erase_of_mem hm] at h2
      omega
    · have h2 := ih l hn fun x hx => by
        have a := h x hx
        have b : x ≠ n := fun e => by subst e; exact hm hx
        omega
      omega
theorem Town.Ok.out_st {t : Town} (o : t.Ok) (h : Nat) : (t.out h).Pairwise (· < ·) := by
  unfold Town.out
  rw [List.pairwise_map]
  refine (o.st.filter fun p : Nat × Nat => p.1 == h).imp_of_mem fun {p q} hp hq r => ?_
  have e1 : p.1 = h := eq_of_beq (List.mem_filter.mp hp).2
  have e2 : q.1 = h := eq_of_beq (List.mem_filter.mp hq).2
  rcases r with r | r
  · omega
  · exact r.2
theorem Town.Ok.out_nd {t : Town} (o : t.Ok) (h : Nat) : (t.out h).Nodup := (o.out_st h).imp fun r e => by subst e; exact Nat.lt_irrefl _ r
theorem Town.Ok.out_lt {t : Town} (o : t.Ok) {h x : Nat} (hx : x ∈ t.out h) : x < t.n := by
  unfold Town.out at hx
  obtain ⟨p, hp, rfl⟩ := List.mem_map.mp hx
  exact (o.ln p (List.mem_filter.mp hp).1).2.1
theorem mem_out {t : Town} {h x : Nat} : x ∈ t.out h ↔ (h, x) ∈ t.lanes := by
  unfold Town.out
  rw [List.mem_map]
  constructor
  · rintro ⟨⟨a, b⟩, hp, rfl⟩
    have h2 := List.mem_filter.mp hp
    have e : a = h := eq_of_beq h2.2
    subst e; exact h2.1
  · intro hm
    exact ⟨(h, x), List.mem_filter.mpr ⟨hm, beq_self_eq_true _⟩, rfl⟩
/-- an own street of that content -/
def StAt (C : Addr) (t : Town) : RR := fun G v => ∃ a dx vp vl vt vf, v = .ref a ∧ G a = some (.ins C dx [("pegs", vp), ("lanes", vl), ("to_lists", vt), ("from_lists", vf)]) ∧ Dq G vp (tN t.pegs) ∧ Dq G vl (tP t.lanes) ∧
  Dq G vt (.tuple ((List.range t.n).map fun h => tN (t.out h)))
theorem mono_st {C : Addr} {t : Town} : Mono (StAt C t) := fun G G' v e ⟨a, dx, vp, vl, vt, vf, h1, h2, h3, h4, h5⟩ => ⟨a, dx, vp, vl, vt, vf, h1, e _ _ h2, h3.mono e, h4.mono e, h5.mono e⟩
section
variable {K : PySem.W.Frag} {mg : Str → Option Value} {σ : L2.St} {H : Hp} {ta te : TE} {t : Town} {E : XK}
theorem er_fld {R : RR} {f : Str} (ha : EvR ta σ H (StAt (cS K) t)) (c : Cls K (cS K)) (n : NoAttr K (cS K) f)
    (hf : ∀ G vp vl vt vf, Dq G vp (tN t.pegs) → Dq G vl (tP t.lanes) → Dq G vt (.tuple ((List.range t.n).map fun h => tN (t.out h))) → ∃ v, List.lookup f [(("pegs" : Str), vp), ("lanes", vl), ("to_lists", vt), ("from_lists", vf)] = some v ∧ R G v) : EvR (tFld K ta f) σ H R := fun H1 e Q q =>
  ha H1 e _ fun v H2 G m ⟨a, dx, vp, vl, vt, vf, h1, h2, h3, h4, h5⟩ => by
    obtain ⟨x, hx, hR⟩ := hf G vp vl vt vf h3 h4 h5
    exact ⟨a, cS K, dx, _, x, h1, m.e3 _ _ h2, c, n, hx, q x H2 G m hR⟩
theorem ed_pegs (T : Tx K mg) (ha : EvR ta σ H (StAt (cS K) t)) : EvD (tFld K ta "pegs") σ H (tN t.pegs) := er_fld ha T.cl T.n1 fun G vp vl vt vf h1 h2 h3 => ⟨vp, rfl, h1⟩
theorem ed_lanes (T : Tx K mg) (ha : EvR ta σ H (StAt (cS K) t)) : EvD (tFld K ta "lanes") σ H (tP t.lanes) := er_fld ha T.cl T.n2 fun G vp vl vt vf h1 h2 h3 => ⟨vl, rfl, h2⟩
theorem ed_tol (T : Tx K mg) (ha : EvR ta σ H (StAt (cS K) t)) : EvD (tFld K ta "to_lists") σ H (.tuple ((List.range t.n).map fun h => tN (t.out h))) := er_fld ha T.cl T.n3 fun G vp vl vt vf h1 h2 h3 => ⟨vt, rfl, h3⟩
abbrev spHouses (K : PySem.W.Frag) : Sp := sp1 (fun t : Town => StAt (cS K) t) (fun _ => True) (fun t => Is (.int (t.n : Int)))
abbrev spLends (K : PySem.W.Frag) : Sp := sp2 (fun z : Town × Nat => StAt (cS K) z.1) (fun z => Is (.int (z.2 : Int))) (fun z => z.2 < z.1.n) (fun z => Da (tN (z.1.out z.2)))
/-- street.houses -/
theorem ev_houses (ha : EvR ta σ H (StAt (cS K) t)) : Ev (tProp (cS K) (spHouses K) [] E ta) σ H (.int (t.n : Int)) := fun H1 e Q q =>
  ha H1 e _ fun v H2 G m hv => by
    obtain ⟨a, dx, vp, vl, vt, vf, h1, h2, h3⟩ := id hv
    subst h1
    exact ⟨a, dx, _, rfl, m.e3 _ _ h2, t, G, .ref a, rfl, m.e3, trivial, hv, fun w H3 G' m' r => by
      cases r; exact q H3 (m.e1.trans m'.e1)⟩
/-- street.lends_to(h) -/
theorem ed_lends {h : Nat} (ha : EvR ta σ H (StAt (cS K) t)) (hb : Ev te σ H (.int (h : Int))) (hh : h < t.n) : EvD (tMeth (cS K) "lends_to" (spLends K) [] E ta (tCons te tNil)) σ H (tN (t.out h)) := fun H1 e Q q =>
  ha H1 e _ fun v H2 G m hv => by
    obtain ⟨a, dx, vp, vl, vt, vf, h1, h2, h3⟩ := id hv
    subst h1
    refine ⟨a, dx, _, rfl, m.e3 _ _ h2, rfl, hb H2 (e.trans m.e1) _ fun H3 e3 => ?_⟩
    have m3 := m.grow e3
    exact ⟨(t, h), G, .ref a, .int (h : Int), rfl, m3.e3, hh, hv, rfl, Ret.later q m3⟩
end
end Lw
/-! readings over plain data: enumerate of a tuple, a range held by a name, two clauses, isinstance -/
namespace Dl
open PySem PySem.Spec PyProof.Rows L2 Evl Xr
section
variable {K : PySem.W.Frag} {σ : L2.St} {H H0 H1 Hs G : Hp} {tl te : TE} {t : TT} {g : TG} {tu : TS} {Dn : Ends} {vs : List Nat}
/-- enumerate(t) walked by a for -/
theorem l_forE {ds : List D} (n : Nx H0 H1 G H) (h : EvD tl σ G (.tuple ds)) (W : Nat → L2.St → Hp → Hp → Prop) (h0 : ∀ Ga H', Nx G H Ga H' → W 0 σ Ga H')
    (hs : ∀ Ga (i : Nat) d x σ' G' H', Ex G Ga → ds[i]? = some d → Dq G' x (.tuple [eN i, d]) → Nx H0 H1 G' H' → Ex Ga G' → W i σ' G' H' → g x σ' H' fun σ2 H2 => tu { Dn with nx := Pw H0 H1 Ga W (i + 1), ct := Pw H0 H1 Ga W (i + 1), bk := Dn.nx } σ2 H2)
    (hW : ∀ i σ' G' H' G2 H2, Nx G' H' G2 H2 → W i σ' G' H' → W i σ' G2 H2)
    (hd : ∀ σ' G' H', Nx H0 H1 G' H' → Ex G G' → W ds.length σ' G' H' → Dn.nx σ' H') : tFor (iEnT K (tCons tl tNil)) g tu Dn σ H :=
  h H n.e3 _ fun v Hs Ga m hv => by
    obtain ⟨a, xs, rfl, h1, h2⟩ := hv.tupE
    refine ⟨a, xs, rfl, st_of (m.e3 _ _ h1), ⟨fun i k σ H => k = xs.length - i ∧ i ≤ xs.length ∧ Pw H0 H1 Ga W i σ H, ⟨xs.length, by simp, Nat.zero_le _, Ga, n.trans m, .refl _, h0 Ga Hs m⟩, ?_⟩⟩
    rintro i k σ' H' ⟨rfl, hi, G', n', e', w⟩
    have hq : SqT K H' a xs := st_of (n'.e3 _ _ (e' _ _ h1))
    by_cases hlt : i < xs.length
    · refine .inr ⟨⟨xs, xs[i], hq, by simp [hlt]⟩, Pw H0 H1 Ga W (i + 1), fun σ3 H3 p => ⟨xs.length - (i + 1), by omega, rfl, hlt, p⟩, fun x H2 y => ?_⟩
      obtain ⟨T, z, rfl, hT, rfl, hz⟩ := y
      obtain ⟨d, hd', hx⟩ := h2.getV (hz xs hq)
      have m2 : Nx G' H' (upd G' T (.tup [.int (i : Nat), z])) (upd H' T (.tup [.int (i : Nat), z])) := (Nx.refl n'.e3).new hT
      exact hs Ga i d _ σ' _ _ m.e2 hd' (.mkT upd_same (.cons (.int _) (.one (hx.mono (e'.trans m2.e2))))) (n'.trans m2) (e'.trans m2.e2) (hW _ _ _ _ _ _ m2 w)
    · have e : i = xs.length := by omega
      subst e
      exact .inl ⟨⟨xs, hq, Nat.le_refl _⟩, hd σ' G' H' n' (m.e2.trans e') (by rw [← h2.len]; exact w)⟩
/-- .. by a comprehension -/
theorem CwR.ext {Pl : Nat → List D → Prop} {Dl : Addr} {i : Nat} {H' : Hp} {T : Addr} {o : HO} (p : CwR H Hs Pl Dl i H') (hT : H' T = none) : CwR H Hs Pl Dl i (upd H' T o) := by
  obtain ⟨G, acc, ds, n, g1, g2, h1, q, hp, hl⟩ := p.ex
  have hd : T ≠ Dl := fun e => by subst e; rw [h1] at hT; cases hT
  exact ⟨G, acc, ds, n.grow (Ex.new hT), g1, g2, by rw [upd_ne hd.symm]; exact h1, q, hp, hl⟩
/-- the known part of a comprehension's way may take what is there -/
structure CwG (H Hs : Hp) (Pl : Nat → List D → Prop) (Dl : Addr) (i : Nat) (H' : Hp) (G : Hp) (acc : List V) (ds : List D) : Prop where
  n : Nx H Hs G H'
  g1 : G Dl = none
  g2 : Hs Dl = none
  h1 : H' Dl = some (.lst acc)
  q : DqA G acc ds
  hp : Pl i ds
  hl : acc.length ≤ i
theorem turn_G {Pl : Nat → List D → Prop} {Dl : Addr} {i : Nat} {H' : Hp} {x : V} {acc : List V} {ds : List D} (p : CwG H Hs Pl Dl i H' G acc ds) (hi : i < 10000000) (T : TurnD σ vs g t te Pl i x G) :
    g x (wipe σ vs) H' fun σ2 H2 => wipe σ2 vs = wipe σ vs ∧ t σ2 H2 fun b H3 =>
      if b = true then te σ2 H3 fun y H4 => ∃ acc, H4 Dl = some (.lst acc) ∧ acc.length < sizeLine ∧ CwR H Hs Pl Dl (i + 1) (upd H4 Dl (.lst (acc ++ [y]))) else CwR H Hs Pl Dl (i + 1) H3 := by
  obtain ⟨n, g1, g2, h1, q, hp, hl⟩ := p
  obtain ⟨σ2, f, k1, k2, k3, k4, k5⟩ := T
  refine k1 H' _ n.e3 ⟨k2, k3 H' n.e3 _ fun H3 e3 => ?_⟩
  cases hf : f with
  | true =>
    show te σ2 H3 _
    have n3 := n.grow e3
    refine (k4 hf) H3 n3.e3 _ fun y H4 G4 n4 ⟨e, pe, hy⟩ => ?_
    have h3 : H3 Dl = some (.lst acc) := e3 _ _ h1
    have g4 : G4 Dl = none := n4.fr Dl g1 (by rw [h3]; simp)
    refine ⟨acc, n4.e1 _ _ h3, Nat.lt_of_le_of_lt hl (Nat.lt_of_lt_of_le hi (by decide)), ⟨G4, acc ++ [y], ds ++ [e], (n3.trans n4).mut g2 g4, g4, g2, upd_same, (q.mono n4.e2).snoc hy, pe ds hp, ?_⟩⟩
    rw [List.length_append, List.length_singleton]; omega
  | false =>
    show CwR H Hs Pl Dl (i + 1) H3
    exact ⟨G, acc, ds, n.grow e3, g1, g2, e3 _ _ h1, q, k5 hf ds hp, by omega⟩
theorem er_lcE {ds : List D} {Pl : Nat → List D → Prop} (hs : EvD tl σ H (.tuple ds)) (hz : ds.length ≤ 1000000) (h0 : Pl 0 [])
    (turn : ∀ (i : Nat) (d : D) (x : V) (G : Hp), Ex H G → ds[i]? = some d → Dq G x (.tuple [eN i, d]) → TurnD σ vs g t te Pl i x G) : EvR (tLc (iEnT K (tCons tl tNil)) g t te vs) σ H (Lp Pl ds.length) := fun H0 e Q q =>
  hs H0 e _ fun v Hs Ga m hv => by
    obtain ⟨a, xs, rfl, h1, h2⟩ := hv.tupE
    refine ⟨a, xs, rfl, st_of (m.e3 _ _ h1), fun Dl hD => ⟨fun i k H => k = xs.length - i ∧ i ≤ xs.length ∧ CwR Ga Hs Pl Dl i H, ⟨xs.length, by simp, Nat.zero_le _, cw_start m.e3 hD h0⟩, ?_⟩⟩
    rintro i k H' ⟨rfl, hi, p⟩
    obtain ⟨G', acc, es, n', g1, g2, hl, qa, hp, hacc⟩ := id p.ex
    have hq : SqT K H' a xs := st_of (n'.e3 _ _ (n'.e2 _ _ h1))
    by_cases hlt : i < xs.length
    · refine .inr ⟨⟨xs, xs[i], hq, by simp [hlt]⟩, CwR Ga Hs Pl Dl (i + 1), fun H3 p => ⟨xs.length - (i + 1), by omega, rfl, hlt, p⟩, fun x H2 y => ?_⟩
      obtain ⟨T, z, rfl, hT, rfl, hz'⟩ := y
      obtain ⟨d, hd', hx⟩ := h2.getV (hz' xs hq)
      have m2 : Nx G' H' (upd G' T (.tup [.int (i : Nat), z])) (upd H' T (.tup [.int (i : Nat), z])) := (Nx.refl n'.e3).new hT
      have hd2 : T ≠ Dl := fun e => by subst e; rw [hl] at hT; cases hT
      refine turn_G (G := upd G' T (.tup [.int (i : Nat), z])) ⟨n'.trans m2, by rw [upd_ne hd2.symm]; exact g1, g2, by rw [upd_ne hd2.symm]; exact hl, qa.mono m2.e2, hp, hacc⟩ (by have := h2.len; omega) ?_
      exact turn i d _ _ (m.e2.trans (n'.e2.trans m2.e2)) hd' (.mkT upd_same (.cons (.int _) (.one (hx.mono (n'.e2.trans m2.e2)))))
    · have e : i = xs.length := by omega
      subst e
      exact .inl ⟨⟨xs, hq, Nat.le_refl _⟩, cw_end p (Ret.later q m) fun G v es h1' h2' => ⟨es, by rw [← h2.len]; exact h1', h2'⟩⟩
/-- a range that a name holds -/
theorem er_lcV {m : Nat} {a : Addr} {Pl : Nat → List D → Prop} (hs : Ev tl σ H (.ref a)) (hr : H a = some (.rng 0 (m : Int))) (hz : m ≤ 10000000) (h0 : Pl 0 [])
    (turn : ∀ (i : Nat), i < m → TurnD σ vs g t te Pl i (.int (i : Int)) H) : EvR (tLc (iRgV tl) g t te vs) σ H (Lp Pl m) := fun H0 e Q q =>
  hs H0 e _ fun Hs e1 => by
    refine ⟨a, 0, m, rfl, e1 _ _ (e _ _ hr), ⟨by omega, by omega, by omega, by omega⟩, ?_⟩
    rw [show ((m : Int) - 0).toNat = m by omega]
    refine fun Dl hD => lc_range (lo := 0) (n := m) (CwR H Hs Pl Dl) (cw_start (e.trans e1) hD h0) (fun i H' hi p => ?_) (fun H' p => cw_end p (Ret.later q (Nx.of e e1)) fun G v es h1 h2 => ⟨es, h1, h2⟩)
    rw [show (0 : Int) + (i : Int) = (i : Int) from Int.zero_add _]
    exact (turn i hi).run p (by omega)
theorem ed_lcV {m : Nat} {a : Addr} (f : Nat → Bool) (e : Nat → D) (hs : Ev tl σ H (.ref a)) (hr : H a = some (.rng 0 (m : Int))) (hz : m ≤ 10000000)
    (turn : ∀ (i : Nat), i < m → TurnF σ vs g t te (f i) (e i) (.int (i : Int)) H) : EvD (tLc (iRgV tl) g t te vs) σ H (.list (((List.range m).filter f).map e)) := by
  refine (er_lcV (Pl := PlF (List.range m) f e) hs hr hz rfl fun i hi => ?_).imp fun G v _ h => Lp.all (by rw [List.length_range]; exact Nat.le_refl _) h
  have hl : (List.range m)[i]? = some i := by rw [List.getElem?_range hi]
  exact (turn i hi).turn hl
/-- isinstance(x, T) -/
theorem ev_isi {x : V} {ty : Value} {n : String} {b : Bool} (ha : Ev tl σ H x) (hty : ∀ H', Ex H H' → TyX K H' x ty) (k : PySem.W.kitOne K ty (.type n) = some b) : Ev (tCB (rIsi K) (tCons tl (tCons (tC (.ty n)) tNil))) σ H (.bl b) := fun H1 e Q q =>
  ha H1 e _ fun H2 e2 => ⟨x, .ty n, ty, .type n, b, rfl, .ty n, hty H2 (e.trans e2), k, q H2 e2⟩
/-- isinstance(x, (T, U)) -/
theorem ev_isi2 {x : V} {ty : Value} {n m : String} {b : Bool} (ha : Ev tl σ H x) (hty : ∀ H', Ex H H' → TyX K H' x ty) (k : PySem.W.kitAny K ty [.type n, .type m] = some b) :
    Ev (tCB (rIsiT K) (tCons tl (tCons (tTup (tCons (tC (.ty n)) (tCons (tC (.ty m)) tNil))) tNil))) σ H (.bl b) := fun H1 e Q q =>
  ha H1 e _ fun H2 e2 => ⟨(by show 2 ≤ sizeLine; decide), fun p hp => ⟨x, p, [.ty n, .ty m], ty, [.type n, .type m], b, rfl, upd_same, .cons (.ty n) (.cons (.ty m) .nil), hty _ (e.trans (e2.trans (Ex.new hp))), k, q _ (e2.trans (Ex.new hp))⟩⟩
theorem ty_of {d : D} {x : V} (h : Dq H x d) : (∀ i, d = .int i → ∀ H', Ex H H' → TyX K H' x (.type "int")) ∧ (d = .none → ∀ H', Ex H H' → TyX K H' x (.type "NoneType")) ∧ (∀ ds, d = .list ds → ∀ H', Ex H H' → TyX K H' x (.type "list")) ∧ (∀ ds, d = .tuple ds → ∀ H', Ex H H' → TyX K H' x (.type "tuple")) := by
  refine ⟨fun i e H' _ => ?_, fun e H' _ => ?_, fun ds e H' ex => ?_, fun ds e H' ex => ?_⟩
  · subst e; rw [h.intE]; exact .base (.int i)
  · subst e; rw [h.nonE]; exact .base .non
  · subst e
    obtain ⟨a, xs, rfl, h1, _⟩ := h.lstE
    exact .base (.lst (ex _ _ h1))
  · subst e
    obtain ⟨a, xs, rfl, h1, _⟩ := h.tupE
    exact .base (.tup (ex _ _ h1))
end
end Dl
namespace Lw
open PySem PySem.Spec PyProof.Rows L2 Evl Dl Hd He Hr Xr
section
variable {P : Program} {w : World} {K : PySem.W.Frag} {mg : Str → Option Value} {base : Heap} {f : Addr} {fd : FuncData}
abbrev N_houses : List Str := ["self"]
theorem sc_houses : FnScope N_houses ["self"] (defScope s_houses) := ⟨rfl, rfl, rfl, by decide +kernel, rfl, by decide +kernel, by decide +kernel⟩
theorem ok_houses (F : Fun K "houses" "Street.houses" s_houses f fd) (T : Tx K mg) : FnOk P w K mg base CX0 1 f fd ["self"] (spHouses K) := by
  refine F.ok sc_houses (fun vs H Q E h => ?_) (fun cdv A outer s H1 vs Q E hr h => ?_)
  · obtain ⟨_, _, _, rfl, _⟩ := h; rfl
  · obtain ⟨t, G, v, rfl, e, _, hv, q⟩ := h
    refine ⟨_, (pss_one (ps_ret (pe_callB call_len_seq (by rfl) T.len bt_len (pa_cons (pe_fld (pv 0) rfl) pa_nil)))), ?_⟩
    have hv0 : EvR (tVar 0) (start N_houses [v]) G (StAt (cS K) t) := (er_var rfl).imp fun G' x ex hx => by cases hx; exact mono_st _ _ _ ex hv
    refine k_ret (.refl e) q (EvR.of ((ev_lenT (ed_pegs T hv0)))|>.imp fun _ _ _ hx => ?_) rfl
    cases hx
    show _ = _
    rw [List.length_map]; rfl
abbrev N_lends_to : List Str := ["self", "house"]
theorem sc_lends_to : FnScope N_lends_to ["self", "house"] (defScope s_lends) := ⟨rfl, rfl, rfl, by decide +kernel, rfl, by decide +kernel, by decide +kernel⟩
theorem ok_lends (F : Fun K "lends_to" "Street.lends_to" s_lends f fd) (T : Tx K mg) : FnOk P w K mg base CX0 1 f fd ["self", "house"] (spLends K) := by
  refine F.ok sc_lends_to (fun vs H Q E h => ?_) (fun cdv A outer s H1 vs Q E hr h => ?_)
  · obtain ⟨_, _, _, _, rfl, _⟩ := h; rfl
  · obtain ⟨⟨t, k⟩, G, v, u, rfl, e, hk, hv, hu, q⟩ := h
    cases hu
    refine ⟨_, (pss_one (ps_ret (pe_ix ix_tup (pe_fld (pv 0) rfl) (pv 1) (fun _ _ => rfl)))), ?_⟩
    have hv0 : EvR (tVar 0) (start N_lends_to [v, .int (k : Int)]) G (StAt (cS K) t) := (er_var rfl).imp fun G' x ex hx => by cases hx; exact mono_st _ _ _ ex hv
    exact k_ret (.refl e) q (ed_ixT (ed_tol T hv0) (ev_var rfl) (by rw [List.getElem?_map, List.getElem?_range hk]; rfl)) rfl
/-! item is not None and item <= bound -/
abbrev N_is_at_most : List Str := ["item", "bound"]
theorem sc_is_at_most : FnScope N_is_at_most ["item", "bound"] (defScope s_is_at_most) := ⟨rfl, rfl, rfl, by decide +kernel, rfl, by decide +kernel, by decide +kernel⟩
def atMost (o : Option Nat) (b : Nat) : Bool := match o with
  | none => false
  | some x => decide (x ≤ b)
abbrev spAtMost : Sp := sp2 (fun z : Option Nat × Nat => Da (eO z.1)) (fun z => Is (.int (z.2 : Int))) (fun _ => True) (fun z => Is (.bl (atMost z.1 z.2)))
theorem ok_is_at_most (F : Fun K "is_at_most" "is_at_most" s_is_at_most f fd) : FnOk P w K mg base CX0 1 f fd ["item", "bound"] spAtMost := by
  refine F.ok sc_is_at_most (fun vs H Q E h => ?_) (fun cdv A outer s H1 vs Q E hr h => ?_)
  · obtain ⟨_, _, _, _, rfl, _⟩ := h; rfl
  · obtain ⟨⟨o, b⟩, G, v, u, rfl, e, _, hv, hu, q⟩ := h
    cases hu
    refine ⟨_, (pss_one (ps_ret (pe_and (pe_cmpR op_notN (pv 0) pe_non (nomark _)) (pe_one (pe_cmpR op_le (pv 0) (pv 1) (nomark _)))))), ?_⟩
    refine k_ret (.refl e) q (EvR.of ?_) rfl
    cases o with
    | none =>
      have hv : Dq G v .none := hv
      cases hv.nonE
      refine ev_andV (a := false) (b := true) (ev_op (ev_var rfl) ev_c (fun H1 _ Q q => ⟨rfl, q H1 (.refl _)⟩)) (fun z => nomatch z)
    | some x =>
      have hv : Dq G v (eN x) := hv
      cases hv.intE
      refine ev_is (ev_andV (a := true) (b := decide ((x : Int) ≤ (b : Int))) (ev_op (ev_var rfl) ev_c (fun H1 _ Q q => ⟨rfl, q H1 (.refl _)⟩)) (fun _ => ev_op (ev_var rfl) (ev_var rfl) rv_I0)) ?_
      show V.bl _ = V.bl (decide (x ≤ b))
      rw [Bool.true_and]
      congr 1
      exact decide_eq_decide.mpr (by omega)
/-! isinstance(v, int) and not isinstance(v, bool) -/
theorem kit1 : PySem.W.kitOne K (.type "int") (.type "int") = some true := by rfl
theorem kit2 : PySem.W.kitOne K (.type "int") (.type "bool") = some false := by rfl
theorem kit3 : PySem.W.kitOne K (.type "bool") (.type "bool") = some true := by rfl
theorem kit4 : PySem.W.kitOne K (.type "NoneType") (.type "int") = some false := by rfl
theorem kit5 : PySem.W.kitAny K (.type "int") [.type "list", .type "tuple"] = some false := by rfl
theorem kit6 : PySem.W.kitAny K (.type "NoneType") [.type "list", .type "tuple"] = some false := by rfl
theorem kit7 : PySem.W.kitAny K (.type "list") [.type "list", .type "tuple"] = some true := by rfl
theorem kit8 : PySem.W.kitAny K (.type "tuple") [.type "list", .type "tuple"] = some true := by rfl
theorem kit9 : PySem.W.kitOne K (.type "tuple") (.type "tuple") = some true := by rfl
end
end Lw
namespace Lw
open PySem PySem.Spec PyProof.Rows L2 Evl Dl Hd He Hr Xr
section
variable {P : Program} {w : World} {K : PySem.W.Frag} {mg : Str → Option Value} {base : Heap} {f : Addr} {fd : FuncData}
theorem er_st {σ : L2.St} {G : Hp} {i : Nat} {v : V} {t : Town} (h : σ[i]? = some (some v)) (hv : StAt (cS K) t G v) : EvR (tVar i) σ G (StAt (cS K) t) := (er_var h).imp fun G' x ex hx => by cases hx; exact mono_st _ _ _ ex hv
/-! _law_says, _law_whole, is_number -/
abbrev N_law_says : List Str := ["_law_told", "_law_due"]
theorem sc_law_says : FnScope N_law_says ["_law_told", "_law_due"] (defScope s_law_says) := ⟨rfl, rfl, rfl, by decide +kernel, rfl, by decide +kernel, by decide +kernel⟩
abbrev spSays : Sp := sp2 (fun z : Bool × Bool => Is (.bl z.1)) (fun z => Is (.bl z.2)) (fun _ => True) (fun z => Is (.bl (z.1 == z.2)))
theorem ok_says (F : Fun K "_law_says" "_law_says" s_law_says f fd) (T : Tx K mg) : FnOk P w K mg base CX0 1 f fd ["_law_told", "_law_due"] spSays := by
  refine F.ok sc_law_says (fun vs H Q E h => ?_) (fun cdv A outer s H1 vs Q E hr h => ?_)
  · obtain ⟨_, _, _, _, rfl, _⟩ := h; rfl
  · obtain ⟨⟨a, b⟩, G, v, u, rfl, e, _, hv, hu, q⟩ := h
    cases hv; cases hu
    refine ⟨_, (pss_one (ps_ret (pe_and (pe_callB call_isi (by rfl) T.isinstance bt_isinstance (pa_cons (pv 0) (pa_cons (pe_bltn (v := .ty "bool") (by rfl) T.bool bt_bool rfl) pa_nil))) (pe_one (pe_cmpR op_eq (pv 0) (pv 1) (nomark _)))))), ?_⟩
    refine k_ret (.refl e) q (EvR.of (ev_is (ev_andV (a := true) (b := decide (V.bl a = V.bl b)) (ev_isi (ev_var rfl) (fun _ _ => .base (.bl a)) kit3) (fun _ => ev_op (ev_var rfl) (ev_var rfl) (rv_eq rfl))) ?_)) rfl
    cases a <;> cases b <;> rfl
abbrev N_law_whole : List Str := ["_law_value"]
theorem sc_law_whole : FnScope N_law_whole ["_law_value"] (defScope s_law_whole) := ⟨rfl, rfl, rfl, by decide +kernel, rfl, by decide +kernel, by decide +kernel⟩
abbrev spWhole : Sp := sp1 (fun i : Int => Is (.int i)) (fun _ => True) (fun _ => Is (.bl true))
theorem ok_whole (F : Fun K "_law_whole" "_law_whole" s_law_whole f fd) (T : Tx K mg) : FnOk P w K mg base CX0 1 f fd ["_law_value"] spWhole := by
  refine F.ok sc_law_whole (fun vs H Q E h => ?_) (fun cdv A outer s H1 vs Q E hr h => ?_)
  · obtain ⟨_, _, _, rfl, _⟩ := h; rfl
  · obtain ⟨i, G, v, rfl, e, _, hv, q⟩ := h
    cases hv
    refine ⟨_, (pss_one (ps_ret (pe_and (pe_callB call_isi (by rfl) T.isinstance bt_isinstance (pa_cons (pv 0) (pa_cons (pe_bltn (v := .ty "int") (by rfl) T.int bt_int rfl) pa_nil))) (pe_one (pe_not (pe_callB call_isi (by rfl) T.isinstance bt_isinstance (pa_cons (pv 0) (pa_cons (pe_bltn (v := .ty "bool") (by rfl) T.bool bt_bool rfl) pa_nil)))))))), ?_⟩
    exact k_ret (.refl e) q (EvR.of (ev_andV (a := true) (b := true) (ev_isi (ev_var rfl) (fun _ _ => .base (.int i)) kit1) (fun _ => ev_notV (ev_isi (ev_var rfl) (fun _ _ => .base (.int i)) kit2)))) rfl
abbrev N_is_number : List Str := ["value"]
theorem sc_is_number : FnScope N_is_number ["value"] (defScope s_is_number) := ⟨rfl, rfl, rfl, by decide +kernel, rfl, by decide +kernel, by decide +kernel⟩
theorem ok_number (F : Fun K "is_number" "is_number" s_is_number f fd) (T : Tx K mg) : FnOk P w K mg base CX0 1 f fd ["value"] spWhole := by
  refine F.ok sc_is_number (fun vs H Q E h => ?_) (fun cdv A outer s H1 vs Q E hr h => ?_)
  · obtain ⟨_, _, _, rfl, _⟩ := h; rfl
  · obtain ⟨i, G, v, rfl, e, _, hv, q⟩ := h
    cases hv
    refine ⟨_, (pss_one (ps_ret (pe_and (pe_callB call_isi (by rfl) T.isinstance bt_isinstance (pa_cons (pv 0) (pa_cons (pe_bltn (v := .ty "int") (by rfl) T.int bt_int rfl) pa_nil))) (pe_one (pe_not (pe_callB call_isi (by rfl) T.isinstance bt_isinstance (pa_cons (pv 0) (pa_cons (pe_bltn (v := .ty "bool") (by rfl) T.bool bt_bool rfl) pa_nil)))))))), ?_⟩
    exact k_ret (.refl e) q (EvR.of (ev_andV (a := true) (b := true) (ev_isi (ev_var rfl) (fun _ _ => .base (.int i)) kit1) (fun _ => ev_notV (ev_isi (ev_var rfl) (fun _ _ => .base (.int i)) kit2)))) rfl
/-! frozen -/
inductive Fz : Nat → D → D → Prop
  | int (k : Nat) (i : Int) : Fz k (.int i) (.int i)
  | non (k : Nat) : Fz k .none .none
  | lst {k : Nat} {ds es : List D} : ds.length ≤ 1000000 → ds.length = es.length → (∀ (i : Nat) (d e : D), ds[i]? = some d → es[i]? = some e → Fz k d e) → Fz (k + 1) (.list ds) (.tuple es)
  | tup {k : Nat} {ds es : List D} : ds.length ≤ 1000000 → ds.length = es.length → (∀ (i : Nat) (d e : D), ds[i]? = some d → es[i]? = some e → Fz k d e) → Fz (k + 1) (.tuple ds) (.tuple es)
theorem Fz.map_ {α : Type} {k : Nat} {c c' : α → D} {l : List α} (hl : l.length ≤ 1000000) (h : ∀ z ∈ l, Fz k (c z) (c' z)) : Fz (k + 1) (.list (l.map c)) (.tuple (l.map c')) ∧ Fz (k + 1) (.tuple (l.map c)) (.tuple (l.map c')) := by
  have at_ : ∀ (i : Nat) (d e : D), (l.map c)[i]? = some d → (l.map c')[i]? = some e → Fz k d e := fun i d e h1 h2 => by
    rw [List.getElem?_map] at h1 h2
    cases hz : l[i]? with
    | none => rw [hz] at h1; cases h1
    | some z => rw [hz] at h1 h2; cases h1; cases h2; exact h z (List.mem_of_getElem? hz)
  exact ⟨.lst (by simpa using hl) (by simp) at_, .tup (by simpa using hl) (by simp) at_⟩
abbrev N_frozen : List Str := ["value", "item"]
theorem sc_frozen : FnScope N_frozen ["value"] (defScope s_frozen) := ⟨rfl, rfl, rfl, by decide +kernel, rfl, by decide +kernel, by decide +kernel⟩
abbrev spFrozen (k : Nat) : Sp := sp1 (fun z : D × D => Da z.1) (fun z => Fz k z.1 z.2) (fun z => Da z.2)
theorem ok_frozen (F : Fun K "frozen" "frozen" s_frozen f fd) (T : Tx K mg) (g : mg "frozen" = some (.ref f)) (b : Binds K fd ["value"] []) : ∀ k, FnOk P w K mg base CX0 (k + 1) f fd ["value"] (spFrozen k)
  | 0 => by
    refine F.ok sc_frozen (fun vs H Q E h => ?_) (fun cdv A outer s H1 vs Q E hr h => ?_)
    · obtain ⟨_, _, _, rfl, _⟩ := h; rfl
    · obtain ⟨⟨d, d'⟩, G, v, rfl, e, hz, hv, q⟩ := h
      refine ⟨_, (pss_cons (ps_if (pt_val (pe_callB call_isiT (by rfl) T.isinstance bt_isinstance (pa_cons (pv 0) (pa_cons (pe_tup (pa_cons (pe_bltn (v := .ty "list") (by rfl) T.list bt_list rfl) (pa_cons (pe_bltn (v := .ty "tuple") (by rfl) T.tuple bt_tuple rfl) pa_nil))) pa_nil))))
          pss_never
          pss_nil)
        (pss_one (ps_ret (pv 0)))), ?_⟩
      have ty : ∃ ty, (∀ H', Ex H1 H' → TyX K H' v ty) ∧ PySem.W.kitAny K ty [.type "list", .type "tuple"] = some false ∧ d' = d := by
        cases hz with
        | int k i => exact ⟨_, (ty_of (hv.mono e)).1 i rfl, kit5, rfl⟩
        | non k => exact ⟨_, (ty_of (hv.mono e)).2.1 rfl, kit6, rfl⟩
      obtain ⟨ty, h1, h2, rfl⟩ := ty
      refine k_when (.refl e) (et_B (ev_isi2 (ev_var rfl) h1 h2)) (fun z => nomatch z) fun _ H' n _ => ?_
      exact k_ret n q (ed_var rfl hv) rfl
  | k + 1 => by
    have C := ok_frozen F T g b k
    refine F.ok sc_frozen (fun vs H Q E h => ?_) (fun cdv A outer s H1 vs Q E hr h => ?_)
    · obtain ⟨_, _, _, rfl, _⟩ := h; rfl
    · obtain ⟨⟨d, d'⟩, G, v, rfl, e, hz, hv, q⟩ := h
      have scalar : ∀ ty, (∀ H', Ex H1 H' → TyX K H' v ty) → PySem.W.kitAny K ty [.type "list", .type "tuple"] = some false → Dq G v d' → ∃ t, PSs (cxOf CX0 P w K mg base N_frozen "frozen" (defScope s_frozen) f cdv A outer s H1 E).nox (defBody s_frozen) t ∧ t { nx := fun _ H' => Q .non H', rt := Q } (start N_frozen [v]) H1 := fun ty h1 h2 hv' => by
        refine ⟨_, (pss_cons (ps_if (pt_val (pe_callB call_isiT (by rfl) T.isinstance bt_isinstance (pa_cons (pv 0) (pa_cons (pe_tup (pa_cons (pe_bltn (v := .ty "list") (by rfl) T.list bt_list rfl) (pa_cons (pe_bltn (v := .ty "tuple") (by rfl) T.tuple bt_tuple rfl) pa_nil))) pa_nil))))
            pss_never
            pss_nil)
          (pss_one (ps_ret (pv 0)))), ?_⟩
        refine k_when (.refl e) (et_B (ev_isi2 (ev_var rfl) h1 h2)) (fun z => nomatch z) fun _ H' n _ => ?_
        exact k_ret n q (ed_var rfl hv') rfl
      have body : ∀ (ds es : List D), ds.length = es.length → (∀ (i : Nat) (d e : D), ds[i]? = some d → es[i]? = some e → Fz k d e) → ∀ (σ : L2.St) (vs : List Nat) (H : Hp) (i : Nat) (d : D) (x : V), σ[1]? = some (some x) → wipe σ [1] = wipe (start N_frozen [v]) [1] → ds[i]? = some d → Dq H x d →
          EvR (tCall (spFrozen k) [] E0 (tCons (tVar 1) tNil)) σ H (fun G' v => ∃ e, (∀ zs, zs = es.take i → zs ++ [e] = es.take (i + 1)) ∧ Dq G' v e) := fun ds es hl hh σ vs H i d x hx _ hd hq => by
        have hi : i < es.length := by rw [← hl]; exact (List.getElem?_eq_some_iff.mp hd).1
        have he : es[i]? = some es[i] := List.getElem?_eq_getElem hi
        refine (er_call1 (d, es[i]) (ed_var hx hq) (hh i d _ hd he)).imp fun G' v _ hv => ⟨es[i], fun zs hz => ?_, hv⟩
        rw [List.take_add_one, he, hz]; rfl
      cases hz with
      | int k i => exact scalar _ ((ty_of (hv.mono e)).1 i rfl) kit5 hv
      | non k => exact scalar _ ((ty_of (hv.mono e)).2.1 rfl) kit6 hv
      | @lst k ds es hs hl hh =>
        refine ⟨_, (pss_cons (ps_if (pt_val (pe_callB call_isiT (by rfl) T.isinstance bt_isinstance (pa_cons (pv 0) (pa_cons (pe_tup (pa_cons (pe_bltn (v := .ty "list") (by rfl) T.list bt_list rfl) (pa_cons (pe_bltn (v := .ty "tuple") (by rfl) T.tuple bt_tuple rfl) pa_nil))) pa_nil))))
            (pss_one (ps_ret (pe_callTy call_tuple_of (by rfl) T.tuple bt_tuple (pa_cons (pe_lc (own := [("item", 1)]) rfl sc_frozen.nd (pi_list (pv 0)) (blkOk_by (N := N_frozen) (sc := defScope s_frozen) (by decide +kernel)) (fun _ _ _ _ _ => (pg_name (i := 1) sc_frozen.nd rfl (by first | exact Or.inl rfl | exact Or.inr rfl))) (fun _ _ _ _ _ => pts_nil) (fun _ _ _ _ _ => (pe_call C hr (by rfl) g F.kp b .nil pass0 (pa_cons (pv 1) pa_nil)))) pa_nil))))
            pss_nil)
          (pss_one (ps_ret (pv 0)))), ?_⟩
        refine k_when (.refl e) (et_B (ev_isi2 (ev_var rfl) ((ty_of (hv.mono e)).2.2.1 ds rfl) kit7)) (fun _ H' n _ => ?_) (fun z => nomatch z)
        refine k_ret n q (ed_tupL ?_) rfl
        refine (er_lcL (Pl := fun i zs => zs = es.take i) (ed_var rfl hv) (Nat.le_trans hs (by decide)) (by rw [List.take_zero]) fun i d x G' eg hd hx => turnD_name (f := true) rfl et_yes (fun _ => ?_) (fun z => nomatch z)).imp fun G' v _ ⟨zs, h1, h2⟩ => by
          rw [h1, hl, List.take_length] at h2; exact h2
        exact body ds es hl hh _ [1] G' i d x rfl rfl hd hx
      | @tup k ds es hs hl hh =>
        refine ⟨_, (pss_cons (ps_if (pt_val (pe_callB call_isiT (by rfl) T.isinstance bt_isinstance (pa_cons (pv 0) (pa_cons (pe_tup (pa_cons (pe_bltn (v := .ty "list") (by rfl) T.list bt_list rfl) (pa_cons (pe_bltn (v := .ty "tuple") (by rfl) T.tuple bt_tuple rfl) pa_nil))) pa_nil))))
            (pss_one (ps_ret (pe_callTy call_tuple_of (by rfl) T.tuple bt_tuple (pa_cons (pe_lc (own := [("item", 1)]) rfl sc_frozen.nd (pi_tup (pv 0)) (blkOk_by (N := N_frozen) (sc := defScope s_frozen) (by decide +kernel)) (fun _ _ _ _ _ => (pg_name (i := 1) sc_frozen.nd rfl (by first | exact Or.inl rfl | exact Or.inr rfl))) (fun _ _ _ _ _ => pts_nil) (fun _ _ _ _ _ => (pe_call C hr (by rfl) g F.kp b .nil pass0 (pa_cons (pv 1) pa_nil)))) pa_nil))))
            pss_nil)
          (pss_one (ps_ret (pv 0)))), ?_⟩
        refine k_when (.refl e) (et_B (ev_isi2 (ev_var rfl) ((ty_of (hv.mono e)).2.2.2 ds rfl) kit8)) (fun _ H' n _ => ?_) (fun z => nomatch z)
        refine k_ret n q (ed_tupL ?_) rfl
        refine (er_lcT (Pl := fun i zs => zs = es.take i) (ed_var rfl hv) (Nat.le_trans hs (by decide)) (by rw [List.take_zero]) fun i d x G' eg hd hx => turnD_name (f := true) rfl et_yes (fun _ => ?_) (fun z => nomatch z)).imp fun G' v _ ⟨zs, h1, h2⟩ => by
          rw [h1, hl, List.take_length] at h2; exact h2
        exact body ds es hl hh _ [1] G' i d x rfl rfl hd hx
end
end Lw
namespace Lw
open PySem PySem.Spec PyProof.Rows L2 Evl Dl Hd He Hr Xr
/-! ### two sorted lists with the same members are one -/
theorem sorted_ext {α : Type} (c : α → Int) : ∀ {xs ys : List α}, xs.Pairwise (fun a b => c a < c b) → ys.Pairwise (fun a b => c a < c b) → (∀ x, x ∈ xs ↔ x ∈ ys) → xs = ys
  | [], [], _, _, _ => rfl
  | [], y :: ys, _, _, h => absurd ((h y).mpr List.mem_cons_self) (by simp)
  | x :: xs, [], _, _, h => absurd ((h x).mp List.mem_cons_self) (by simp)
  | x :: xs, y :: ys, hx, hy, h => by
    obtain ⟨h1, h2⟩ := List.pairwise_cons.mp hx
    obtain ⟨k1, k2⟩ := List.pairwise_cons.mp hy
    have e : x = y := by
      rcases List.mem_cons.mp ((h x).mp List.mem_cons_self) with a | a
      · exact a
      · rcases List.mem_cons.mp ((h y).mpr List.mem_cons_self) with b | b
        · exact b.symm
        · have := k1 x a
          have := h1 y b
          omega
    subst e
    congr 1
    refine sorted_ext c h2 k2 fun z => ⟨fun hz => ?_, fun hz => ?_⟩
    · rcases List.mem_cons.mp ((h z).mp (List.mem_cons_of_mem _ hz)) with a | a
      · subst a; exact absurd (h1 z hz) (Int.lt_irrefl _)
      · exact a
    · rcases List.mem_cons.mp ((h z).mpr (List.mem_cons_of_mem _ hz)) with a | a
      · subst a; exact absurd (k1 z hz) (Int.lt_irrefl _)
      · exact a
abbrev pr2 (p : Nat × Nat) : List Int := [(p.1 : Int), (p.2 : Int)]
/-- a tuple of pairs, by its addresses -/
theorem pairs_of {G : Hp} : ∀ {xs : List V} {ps : List (Nat × Nat)}, DqA G xs (ps.map ePr) → ∃ ks : List (Addr × List Int), xs = ks.map (fun p => V.ref p.1) ∧ ks.map (·.2) = ps.map pr2 ∧ ∀ p ∈ ks, G p.1 = some (.tup (p.2.map V.int))
  | xs, [], h => ⟨[], by rw [h.nilE]; rfl, rfl, fun _ z => nomatch z⟩
  | xs, p :: ps, h => by
    obtain ⟨x, ys, rfl, hx, hy⟩ := h.consE
    obtain ⟨ks, e1, e2, e3⟩ := pairs_of hy
    obtain ⟨a, zs, rfl, g1, g2⟩ := hx.tupE
    obtain ⟨z1, r1, rfl, q1, g3⟩ := g2.consE
    obtain ⟨z2, r2, rfl, q2, g4⟩ := g3.consE
    have e4 := g4.nilE
    subst e4
    have e5 := q1.intE
    have e6 := q2.intE
    subst e5 e6
    refine ⟨(a, pr2 p) :: ks, by rw [e1]; rfl, by rw [List.map_cons, e2]; rfl, fun q hq => ?_⟩
    rcases List.mem_cons.mp hq with z | z
    · subst z; exact g1
    · exact e3 q z
theorem dqa_pairs {G : Hp} : ∀ {ks : List (Addr × List Int)} {ps : List (Nat × Nat)}, ks.map (·.2) = ps.map pr2 → (∀ p ∈ ks, G p.1 = some (.tup (p.2.map V.int))) → DqA G (ks.map fun p => V.ref p.1) (ps.map ePr)
  | [], [], _, _ => .nil
  | [], p :: ps, h, _ => by simp at h
  | k :: ks, [], h, _ => by simp at h
  | k :: ks, p :: ps, h, q => by
    rw [List.map_cons, List.map_cons] at h
    injection h with h1 h2
    have g := q k List.mem_cons_self
    rw [h1] at g
    exact .cons (.mkT g (.cons (.int _) (.one (.int _)))) (dqa_pairs h2 fun p hp => q p (List.mem_cons_of_mem _ hp))
abbrev ltP (p q : Nat × Nat) : Prop := p.1 < q.1 ∨ (p.1 = q.1 ∧ p.2 < q.2)
def cdI (ns : List Int) : Int := TS.code 64 ns
theorem cd_pair (p : Nat × Nat) : cdI (pr2 p) = (p.1 : Int) * 64 + (p.2 : Int) := code_pair _ _
section
variable {P : Program} {w : World} {K : PySem.W.Frag} {mg : Str → Option Value} {base : Heap} {f : Addr} {fd : FuncData}
/-! ascending -/
abbrev N_ascending : List Str := ["values"]
theorem sc_ascending : FnScope N_ascending ["values"] (defScope s_ascending) := ⟨rfl, rfl, rfl, by decide +kernel, rfl, by decide +kernel, by decide +kernel⟩
structure Sml (ps : List (Nat × Nat)) : Prop where
  st : ps.Pairwise ltP
  bd : ∀ p ∈ ps, p.1 < 8 ∧ p.2 < 8
  ln : ps.length < 64
abbrev spAsc : Sp := sp1 (fun ps : List (Nat × Nat) => Da (tP ps)) Sml (fun ps => Da (tP ps))
theorem ok_ascending (F : Fun K "ascending" "ascending" s_ascending f fd) (T : Tx K mg) : FnOk P w K mg base CX0 1 f fd ["values"] spAsc := by
  refine F.ok sc_ascending (fun vs H Q E h => ?_) (fun cdv A outer s H1 vs Q E hr h => ?_)
  · obtain ⟨_, _, _, rfl, _⟩ := h; rfl
  · obtain ⟨ps, G, v, rfl, e, hs, hv, q⟩ := h
    refine ⟨_, (pss_one (ps_ret (pe_callTy call_tuple_of (by rfl) T.tuple bt_tuple (pa_cons (pe_callB (cr_sortedT rfl) (by rfl) T.sorted bt_sorted (pa_cons (pe_callTy (cr_setT rfl (hu64 hr)) (by rfl) T.set bt_set (pa_cons (pv 0) pa_nil)) pa_nil)) pa_nil)))), ?_⟩
    obtain ⟨a, xs, rfl, h1, h2⟩ := hv.tupE
    obtain ⟨ks, e1, e2, e3⟩ := pairs_of h2
    subst e1
    have hlen : ks.length = ps.length := by have := congrArg List.length e2; simpa using this
    have bd : ∀ p ∈ ks, p.2.length = 2 ∧ TS.Bd 64 p.2 := fun p hp => by
      have hm : p.2 ∈ ps.map pr2 := by rw [← e2]; exact List.mem_map_of_mem hp
      obtain ⟨z, hz, ez⟩ := List.mem_map.mp hm
      have hb := hs.bd z hz
      rw [← ez]
      refine ⟨rfl, fun i hi => ?_⟩
      have hi2 : i = (z.1 : Int) ∨ i = (z.2 : Int) := by simpa using hi
      rcases hi2 with c | c <;> omega
    refine ⟨.ref a, rfl, a, ks, rfl, st_of (e _ _ h1), fun p hp => st_of (e _ _ (e3 p hp)), by rw [hlen]; exact hs.ln, fun c L nc l1 l2 => ?_⟩
    have cne : ∀ b o, H1 b = some o → (upd H1 c (SetTO P w c L)) b = some o := Ex.new nc
    refine ⟨c, L, 2, 64, rfl, upd_same, fun p hp => st_of (cne _ _ (e _ _ (e3 p (l1 p hp)))), by decide, fun p hp => bd p (l1 p hp), fun L' p pm nd hl64 pw np => ?_⟩
    refine ⟨p, _, rfl, .inl ⟨sq_of upd_same, fun t nt => ?_⟩⟩
    have sub : ∀ x ∈ L', x ∈ ks := fun x hx => l1 x (pm.mem_iff.mp hx)
    have eL : L'.map (·.2) = ps.map pr2 := by
      refine sorted_ext cdI ?_ ?_ fun x => ⟨fun hx => ?_, fun hx => ?_⟩
      · -- by the code, no two alike
        have h3 : (L'.map (·.2)).Pairwise fun a b => TS.code 64 a ≤ TS.code 64 b := by rw [List.pairwise_map]; exact pw
        have h4 := (h3.and nd).imp_of_mem fun {x y} hx hy (r : TS.code 64 x ≤ TS.code 64 y ∧ x ≠ y) => (show cdI x < cdI y from by
          have form : ∀ x ∈ L'.map (·.2), ∃ p : Nat × Nat, x = pr2 p ∧ p.1 < 8 ∧ p.2 < 8 := fun x hx => by
            obtain ⟨z, hz, rfl⟩ := List.mem_map.mp hx
            have hm : z.2 ∈ ps.map pr2 := by rw [← e2]; exact List.mem_map_of_mem (sub z hz)
            obtain ⟨p, hp, ep⟩ := List.mem_map.mp hm
            exact ⟨p, ep.symm, hs.bd p hp⟩
          obtain ⟨p, rfl, b1, b2⟩ := form x hx
          obtain ⟨q, rfl, b3, b4⟩ := form y hy
          have r1 : cdI (pr2 p) ≤ cdI (pr2 q) := r.1
          rw [cd_pair, cd_pair] at r1 ⊢
          rcases Int.lt_or_eq_of_le r1 with z | z
          · exact z
          · exfalso
            apply r.2
            have c1 : p.1 = q.1 := by omega
            have c2 : p.2 = q.2 := by omega
            rw [show p = q from Prod.ext c1 c2])
        exact h4
      · rw [List.pairwise_map]
        refine hs.st.imp_of_mem fun {p q} hp hq r => ?_
        rw [cd_pair, cd_pair]
        have b1 := hs.bd p hp
        have b2 := hs.bd q hq
        rcases r with r | r <;> omega
      · obtain ⟨z, hz, rfl⟩ := List.mem_map.mp hx
        rw [← e2]; exact List.mem_map_of_mem (sub z hz)
      · rw [← e2] at hx
        obtain ⟨z, hz, rfl⟩ := List.mem_map.mp hx
        obtain ⟨y, hy, ey⟩ := List.mem_map.mp (l2 z hz)
        exact List.mem_map.mpr ⟨y, pm.mem_iff.mpr hy, ey⟩
    have n0 : Nx G H1 G (upd (upd H1 c (SetTO P w c L)) p (.lst (L'.map fun q => V.ref q.1))) := Nx.of e ((Ex.new nc).trans (Ex.new np))
    have n1 := n0.new (o := .tup (L'.map fun q => V.ref q.1)) nt
    exact q _ _ _ n1 (.mkT upd_same ((dqa_pairs eL fun x hx => e3 x (sub x hx)).mono n1.e2))
/-! check_pegs, check_lanes -/
abbrev N_check_pegs : List Str := ["pegs", "house", "number"]
theorem sc_check_pegs : FnScope N_check_pegs ["pegs"] (defScope s_check_pegs) := ⟨rfl, rfl, rfl, by decide +kernel, rfl, by decide +kernel, by decide +kernel⟩
abbrev spChkP : Sp := sp1 (fun ps : List Nat => Da (tN ps)) (fun ps => ∀ p ∈ ps, 1 ≤ p ∧ p ≤ 9) (fun _ => Is .non)
theorem ok_check_pegs (F : Fun K "check_pegs" "check_pegs" s_check_pegs f fd) (T : Tx K mg) (C_is_number : Cal P w K mg base 1 "is_number" ["value"] spWhole) : FnOk P w K mg base CX0 2 f fd ["pegs"] spChkP := by
  refine F.ok sc_check_pegs (fun vs H Q E h => ?_) (fun cdv A outer s H1 vs Q E hr h => ?_)
  · obtain ⟨_, _, _, rfl, _⟩ := h; rfl
  · obtain ⟨ps, G, v, rfl, e, hp, hv, q⟩ := h
    refine ⟨_, (pss_one (ps_for PassesOwn.never rfl (pi_enumT (by rfl) T.enumerate (pa_cons (pv 0) pa_nil)) (pg_tup rfl (pgs_cons (pg_name (i := 1) sc_check_pegs.nd rfl (by first | exact Or.inl rfl | exact Or.inr rfl)) (pgs_cons (pg_name (i := 2) sc_check_pegs.nd rfl (by first | exact Or.inl rfl | exact Or.inr rfl)) pgs_nil)))
      (pss_one (ps_if (PW.pt (pw_or (pt_not (pt_val (pe_call C_is_number.ok (hr.mono (by decide)) (by rfl) C_is_number.g C_is_number.kp C_is_number.b .nil pass0 (pa_cons (pv 2) pa_nil)))) (pw_or (pt_cmpR op_lt (pv 2) pe_int (nomark _)) (pw_or1 (pt_cmpR op_gt (pv 2) pe_int (nomark _))))))
          (pss_one ps_never)
          pss_nil)))), ?_⟩
    refine l_forE (.refl e) (ed_var rfl hv) (fun i σ G' H' => ∃ y1 y2, σ = [some v, y1, y2]) (fun _ _ _ => ⟨_, _, rfl⟩) (fun Ga i d x σ' G' H' eg hd hx n e' hw => ?_) (fun _ _ _ _ _ _ _ w => w) (fun σ' G' H' n _ _ => q _ _ _ n rfl)
    obtain ⟨y1, y2, rfl⟩ := hw
    rw [List.getElem?_map] at hd
    obtain ⟨p, hpi, rfl⟩ := Option.map_eq_some_iff.mp hd
    have hb := hp p (List.mem_of_getElem? hpi)
    obtain ⟨x1, x2, q1, q2, qg⟩ := gTup2 (K := K) (i1 := 1) (i2 := 2) (σ0 := [some v, y1, y2]) hx
    cases q2.intE
    refine qg H' _ n.e3 ?_
    refine l_when (b := false) n (et_is (et_or (a := !true) (b := false) (et_not (et_B ?_)) fun _ => et_is (et_or (a := decide ((p : Int) < 1)) (b := decide (9 < (p : Int))) (et_test (ev_op (ev_var rfl) ev_c rv_I0)) fun _ => et_B (ev_op (ev_var rfl) ev_c rv_I0)) ?_) rfl) (fun z => nomatch z) fun _ H2 n2 _ => ⟨G', n2, e', _, _, rfl⟩
    · exact (er_call1 (P := fun _ => True) (p : Int) (EvR.of (ev_var rfl)) trivial).ev
    · rw [decide_eq_false (by omega), decide_eq_false (by omega)]; rfl
abbrev N_check_lanes : List Str := ["houses", "lanes", "index", "a", "b"]
theorem sc_check_lanes : FnScope N_check_lanes ["houses", "lanes"] (defScope s_check_lanes) := ⟨rfl, rfl, rfl, by decide +kernel, rfl, by decide +kernel, by decide +kernel⟩
abbrev spChkL : Sp := sp2 (fun z : Nat × List (Nat × Nat) => Is (.int (z.1 : Int))) (fun z => Da (tP z.2)) (fun z => ∀ p ∈ z.2, p.1 < z.1 ∧ p.2 < z.1 ∧ p.1 ≠ p.2) (fun _ => Is .non)
theorem ok_check_lanes (F : Fun K "check_lanes" "check_lanes" s_check_lanes f fd) (T : Tx K mg) : FnOk P w K mg base CX0 2 f fd ["houses", "lanes"] spChkL := by
  refine F.ok sc_check_lanes (fun vs H Q E h => ?_) (fun cdv A outer s H1 vs Q E hr h => ?_)
  · obtain ⟨_, _, _, _, rfl, _⟩ := h; rfl
  · obtain ⟨⟨n, ps⟩, G, u, v, rfl, e, hp, hu, hv, q⟩ := h
    cases hu
    refine ⟨_, (pss_one (ps_for PassesOwn.never rfl (pi_enumT (by rfl) T.enumerate (pa_cons (pv 1) pa_nil)) (pg_tup rfl (pgs_cons (pg_name (i := 2) sc_check_lanes.nd rfl (by first | exact Or.inl rfl | exact Or.inr rfl)) (pgs_cons (pg_tup rfl (pgs_cons (pg_name (i := 3) sc_check_lanes.nd rfl (by first | exact Or.inl rfl | exact Or.inr rfl)) (pgs_cons (pg_name (i := 4) sc_check_lanes.nd rfl (by first | exact Or.inl rfl | exact Or.inr rfl)) pgs_nil))) pgs_nil)))
      (pss_one (ps_if (PW.pt (pw_or (pt_cmpR op_eq (pv 3) (pv 4) (nomark _)) (pw_or (pt_cmpR op_lt (pe_callB (call_min2 rfl) (by rfl) T.min bt_min (pa_cons (pv 3) (pa_cons (pv 4) pa_nil))) pe_int (nomark _)) (pw_or1 (pt_cmpR op_ge (pe_callB (call_max2 rfl) (by rfl) T.max bt_max (pa_cons (pv 3) (pa_cons (pv 4) pa_nil))) (pv 0) (nomark _))))))
          (pss_one ps_never)
          pss_nil)))), ?_⟩
    refine l_forE (.refl e) (ed_var rfl hv) (fun i σ G' H' => ∃ y1 y2 y3, σ = [some (.int (n : Int)), some v, y1, y2, y3]) (fun _ _ _ => ⟨_, _, _, rfl⟩) (fun Ga i d x σ' G' H' eg hd hx m e' hw => ?_) (fun _ _ _ _ _ _ _ w => w) (fun σ' G' H' m _ _ => q _ _ _ m rfl)
    obtain ⟨y1, y2, y3, rfl⟩ := hw
    rw [List.getElem?_map] at hd
    obtain ⟨p, hpi, rfl⟩ := Option.map_eq_some_iff.mp hd
    have hb := hp p (List.mem_of_getElem? hpi)
    obtain ⟨t, xs, rfl, g1, g2⟩ := hx.tupE
    obtain ⟨x1, r1, rfl, q1, g3⟩ := g2.consE
    obtain ⟨x2, r2, rfl, q2, g4⟩ := g3.consE
    have e4 := g4.nilE
    subst e4
    refine ⟨t, [x1, x2], rfl, st_of (m.e3 _ _ g1), rfl, x1, [x2], rfl, x2, [], rfl, ?_⟩
    obtain ⟨z1, z2, k1, k2, qg⟩ := gTup2 (K := K) (i1 := 3) (i2 := 4) (σ0 := [some (.int (n : Int)), some v, some x1, y2, y3]) q2
    cases k1.intE
    cases k2.intE
    refine qg H' _ m.e3 ⟨rfl, ?_⟩
    have ec : ∀ a b : TE, ∀ (x y : Int) (r : List V → Hp → VK → Prop) (z : Int) (σ : L2.St) (H : Hp), Ev a σ H (.int x) → Ev b σ H (.int y) → (∀ H (Q : VK), Q (.int z) H → r [.int x, .int y] H Q) → Ev (tCB r (tCons a (tCons b tNil))) σ H (.int z) := fun a b x y r z σ H ha hb hr H1 e Q q =>
      ha H1 e _ fun H2 e2 => hb H2 (e.trans e2) _ fun H3 e3 => hr H3 Q (q H3 (e2.trans e3))
    refine l_when (b := false) m (et_is (et_or (a := decide (V.int (p.1 : Int) = V.int (p.2 : Int))) (b := false) (et_test (ev_op (ev_var rfl) (ev_var rfl) (rv_eq rfl))) fun _ => et_is (et_or (a := decide ((if (p.2 : Int) < (p.1 : Int) then (p.2 : Int) else (p.1 : Int)) < 0)) (b := decide ((n : Int) ≤ (if (p.2 : Int) > (p.1 : Int) then (p.2 : Int) else (p.1 : Int))))
        (et_test (ev_op (ec _ _ _ _ _ _ _ _ (ev_var rfl) (ev_var rfl) fun H Q q => ⟨_, _, rfl, q⟩) ev_c rv_I0)) fun _ => et_B (ev_op (ec _ _ _ _ _ _ _ _ (ev_var rfl) (ev_var rfl) fun H Q q => ⟨_, _, rfl, q⟩) (ev_var rfl) rv_I0)) ?_) ?_) (fun z => nomatch z) fun _ H2 n2 _ => ⟨G', n2, e', _, _, _, rfl⟩
    · rw [decide_eq_false (by split <;> omega), decide_eq_false (by split <;> omega)]; rfl
    · rw [decide_eq_false (fun z => hb.2.2 (by have := V.int.inj z; omega))]; rfl
end
end Lw
namespace Lw
open PySem PySem.Spec PyProof.Rows L2 Evl Dl Hd He Hr Xr
/-! a street is made -/
theorem Dq.setIns {G : Hp} {x : Addr} {C dx C' dx' : Addr} {fs fs' : List (Str × V)} (hx : G x = some (.ins C dx fs)) {v : V} {d : D} (h : Dq G v d) : Dq (upd G x (.ins C' dx' fs')) v d := by
  induction h with
  | non => exact .non
  | bl b => exact .bl b
  | int i => exact .int i
  | lst h1 h2 _ ih => exact .lst (by rw [upd_ne (fun e => by subst e; rw [hx] at h1; cases h1)]; exact h1) h2 ih
  | tup h1 h2 _ ih => exact .tup (by rw [upd_ne (fun e => by subst e; rw [hx] at h1; cases h1)]; exact h1) h2 ih
section
variable {K : PySem.W.Frag} {σ : L2.St} {H H0 H1 G : Hp} {te : TE} {i : Nat} {x C dx : Addr} {fs : List (Str × V)} {f : Str} {d : D} {Dn : Ends} {tz : TS} {v : V}
theorem ed_self (ha : σ[i]? = some (some (.ref x))) (hx : G x = some (.ins C dx fs)) (c : Cls K C) (na : NoAttr K C f) (hl : fs.lookup f = some v) (hv : Dq G v d) : EvD (tFld K (tVar i) f) σ G d := fun H1 e Q q =>
  ⟨.ref x, ha, x, C, dx, fs, v, rfl, e _ _ hx, c, na, hl, q v H1 G (.refl e) hv⟩
theorem l_fld (n : Nx H0 H1 G H) (h1 : H1 x = none) (h0 : H0 x = none) (hx : G x = some (.ins C dx fs)) (ha : σ[i]? = some (some (.ref x))) (c : Cls K C) (na : NoAttr K C f) (hl : fs.length < 1000) (he : EvD te σ G d)
    (k : ∀ v G' H', Nx H0 H1 G' H' → (∀ w e, Dq G w e → Dq G' w e) → (∀ a o, a ≠ x → G a = some o → G' a = some o) → G' x = some (.ins C dx (putF f v fs)) → Dq G' v d → Dn.nx σ H') : sFld K (tVar i) te f Dn σ H :=
  he H n.e3 _ fun v H2 G2 m hv => by
    have gx : G2 x = some (.ins C dx fs) := m.e2 _ _ hx
    have n2 := n.trans m
    refine ⟨.ref x, ha, x, C, dx, fs, rfl, m.e3 _ _ gx, c, na, hl, k v (upd G2 x (.ins C dx (putF f v fs))) _ ⟨n2.e1.mut h1, fun a o q => ?_, fun a o q => ?_, fun a q1 q2 => ?_⟩ (fun w e q => Dq.setIns gx (q.mono m.e2)) (fun a o q1 q2 => ?_) upd_same (Dq.setIns gx hv)⟩
    · have : a ≠ x := fun e => by
        subst e
        rw [h0] at q; cases q
      rw [upd_ne this]; exact n2.e2 _ _ q
    · by_cases e : a = x
      · subst e; rw [upd_same] at q ⊢; exact q
      · rw [upd_ne e] at q ⊢; exact n2.e3 _ _ q
    · have : a ≠ x := fun e => by subst e; exact q2 h1
      rw [upd_ne this]; exact n2.fr a q1 q2
    · rw [upd_ne q1]; exact m.e2 _ _ q2
theorem k_fld (n : Nx H0 H1 G H) (h1 : H1 x = none) (h0 : H0 x = none) (hx : G x = some (.ins C dx fs)) (ha : σ[i]? = some (some (.ref x))) (c : Cls K C) (na : NoAttr K C f) (hl : fs.length < 1000) (he : EvD te σ G d)
    (k : ∀ v G' H', Nx H0 H1 G' H' → (∀ w e, Dq G w e → Dq G' w e) → (∀ a o, a ≠ x → G a = some o → G' a = some o) → G' x = some (.ins C dx (putF f v fs)) → Dq G' v d → tz Dn σ H') : tSeq (sFld K (tVar i) te f) tz Dn σ H :=
  l_fld (Dn := { Dn with nx := tz Dn }) n h1 h0 hx ha c na hl he k
theorem k_expr {R : RR} (n : Nx H0 H1 G H) (h : EvR te σ G R) (k : ∀ G' H', Nx H0 H1 G' H' → Ex G G' → tz Dn σ H') : tSeq (tDrop te) tz Dn σ H :=
  h H n.e3 _ fun v H2 G2 m _ => k G2 H2 (n.trans m) m.e2
end
theorem eq_nat (a b : Nat) : decide (V.int (a : Int) = V.int (b : Int)) = (a == b) := by
  rw [show (a == b) = decide (a = b) from rfl]
  exact decide_eq_decide.mpr ⟨fun h => by have := V.int.inj h; omega, fun h => by rw [h]⟩
def cd7 (p : Nat × Nat) : Nat := p.1 * 7 + p.2
theorem lanes_len {t : Town} (o : t.Ok) : t.lanes.length ≤ 49 := by
  have h7 := o.n7
  have := nodup_len 49 (t.lanes.map cd7) (by
    rw [List.nodup_iff_pairwise_ne, List.pairwise_map]
    refine o.st.imp_of_mem fun {p q} hp hq r => ?_
    have b1 := o.ln p hp
    have b2 := o.ln q hq
    unfold cd7
    rcases r with r | r <;> omega) fun x hx => by
      obtain ⟨p, hp, rfl⟩ := List.mem_map.mp hx
      have b1 := o.ln p hp
      unfold cd7
      omega
  simpa using this
def scI : Scope := { kind := .function, names := [(".0", .local), ("house", .cell), ("tuple", .globalImplicit), ("self", .cell)], isGenerator := false, isCoroutine := false }
abbrev ePrL (p : Nat × Nat) : D := .list [eN p.1, eN p.2]
def spInit (K : PySem.W.Frag) : Sp := fun vs Hs Q _ => ∃ (t : Town) (G H1 : Hp) (x dx : Addr) (vp vl : V), vs = [.ref x, vp, vl] ∧ t.Ok ∧ Ex G H1 ∧ H1 x = none ∧ H1 dx = none ∧ dx ≠ x ∧ Hs = upd (upd H1 dx (.own x)) x (.ins (cS K) dx []) ∧
  Dq G vp (lN t.pegs) ∧ Dq G vl (.list (t.lanes.map ePrL)) ∧ ∀ H2 G', Nx G H1 G' H2 → StAt (cS K) t G' (.ref x) → Q .non H2
section
variable {P : Program} {w : World} {K : PySem.W.Frag} {mg : Str → Option Value} {base : Heap} {f : Addr} {fd : FuncData}
theorem er_make {t1 t2 : TE} {σ : L2.St} {H : Hp} {t : Town} {E : XK} (o : t.Ok) (h1 : EvD t1 σ H (lN t.pegs)) (h2 : EvD t2 σ H (.list (t.lanes.map ePrL))) : EvR (tMake (cS K) (spInit K) [] E (tCons t1 (tCons t2 tNil))) σ H (StAt (cS K) t) := fun H1 e Q q =>
  h1 H1 e _ fun v H2 G n hv => (EvD.mono h2 n.e2) H2 n.e3 _ fun w H3 G' n' hw => fun x dx hx hdx ne =>
    ⟨t, G', H3, x, dx, v, w, rfl, o, n'.e3, hx, hdx, ne, rfl, hv.mono n'.e2, hw, fun H4 G4 n4 hs => ⟨rfl, q _ H4 G4 ((n.trans n').trans n4) hs⟩⟩
abbrev N_init : List Str := ["self", "pegs", "lanes", "pairs", "houses", "house", "a", "b"]
theorem sc_init : FnScope N_init ["self", "pegs", "lanes"] (defScope s_init) := ⟨rfl, rfl, rfl, by decide +kernel, rfl, by decide +kernel, by decide +kernel⟩
theorem ok_init (F : Fun K "__init__" "Street.__init__" s_init f fd) (T : Tx K mg) (C_frozen : Cal P w K mg base 3 "frozen" ["value"] (spFrozen 2)) (C_check_pegs : Cal P w K mg base 2 "check_pegs" ["pegs"] spChkP)
    (C_check_lanes : Cal P w K mg base 2 "check_lanes" ["houses", "lanes"] spChkL) (C_ascending : Cal P w K mg base 1 "ascending" ["values"] spAsc) : FnOk P w K mg base CX0 4 f fd ["self", "pegs", "lanes"] (spInit K) := by
  refine F.ok sc_init (fun vs H Q E h => ?_) (fun cdv A outer s Hs vs Q E hr h => ?_)
  · obtain ⟨_, _, _, _, _, _, _, rfl, _⟩ := h; rfl
  · obtain ⟨t, G, H1, x, dx, vp, vl, rfl, o, e, hx, hdx, ne, rfl, hp, hl, q⟩ := h
    refine ⟨_, (pss_cons (ps_fld (pv 0) (pe_call C_frozen.ok (hr.mono (by decide)) (by rfl) C_frozen.g C_frozen.kp C_frozen.b .nil pass0 (pa_cons (pv 1) pa_nil)) rfl)
    (pss_cons (ps_expr (pe_call C_check_pegs.ok (hr.mono (by decide)) (by rfl) C_check_pegs.g C_check_pegs.kp C_check_pegs.b .nil pass0 (pa_cons (pe_fld (pv 0) rfl) pa_nil)))
    (pss_cons (ps_set (i := 3) sc_init.nd rfl (by first | exact Or.inl rfl | exact Or.inr rfl) (pe_call C_frozen.ok (hr.mono (by decide)) (by rfl) C_frozen.g C_frozen.kp C_frozen.b .nil pass0 (pa_cons (pv 2) pa_nil)))
    (pss_cons (ps_expr (pe_call C_check_lanes.ok (hr.mono (by decide)) (by rfl) C_check_lanes.g C_check_lanes.kp C_check_lanes.b .nil pass0 (pa_cons (pe_callB call_len_seq (by rfl) T.len bt_len (pa_cons (pe_fld (pv 0) rfl) pa_nil)) (pa_cons (pv 3) pa_nil))))
    (pss_cons (ps_fld (pv 0) (pe_call C_ascending.ok (hr.mono (by decide)) (by rfl) C_ascending.g C_ascending.kp C_ascending.b .nil pass0 (pa_cons (pv 3) pa_nil)) rfl)
    (pss_cons (ps_set (i := 4) sc_init.nd rfl (by first | exact Or.inl rfl | exact Or.inr rfl) (pe_callTy cr_range1 (by rfl) T.range bt_range (pa_cons (pe_callB call_len_seq (by rfl) T.len bt_len (pa_cons (pe_fld (pv 0) rfl) pa_nil)) pa_nil)))
    (pss_cons (ps_fld (pv 0) (pe_callTy call_tuple_of (by rfl) T.tuple bt_tuple (pa_cons (pe_lc (own := [("house", 5)]) (te := tCB (rTupQ K) (tCons (tLc (iTup K (tFld K (tVar 0) "lanes")) (gTup K 2 (gCons (gName 6) (gCons (gName 7) gNil))) (tTest (tOp rEq (tVar 6) (tVar 5))) (tVar 7) [6, 7]) tNil)) rfl sc_init.nd (pi_rgv (pv 4)) (blkOk_by (N := N_init) (sc := defScope s_init) (by decide +kernel)) (fun _ _ _ _ _ => (pg_name (i := 5) sc_init.nd rfl (by first | exact Or.inl rfl | exact Or.inr rfl))) (fun _ _ _ _ _ => pts_nil) (fun _ _ _ _ _ => ?inner1)) pa_nil)) rfl)
    (pss_one (ps_fld (pv 0) (pe_callTy call_tuple_of (by rfl) T.tuple bt_tuple (pa_cons (pe_lc (own := [("house", 5)]) (te := tCB (rTupQ K) (tCons (tLc (iTup K (tFld K (tVar 0) "lanes")) (gTup K 2 (gCons (gName 6) (gCons (gName 7) gNil))) (tTest (tOp rEq (tVar 7) (tVar 5))) (tVar 6) [6, 7]) tNil)) rfl sc_init.nd (pi_rgv (pv 4)) (blkOk_by (N := N_init) (sc := defScope s_init) (by decide +kernel)) (fun _ _ _ _ _ => (pg_name (i := 5) sc_init.nd rfl (by first | exact Or.inl rfl | exact Or.inr rfl))) (fun _ _ _ _ _ => pts_nil) (fun _ _ _ _ _ => ?inner2)) pa_nil)) rfl))))))))), ?main⟩
    case inner1 => exact (pe_callTy call_tuple_of (by rfl) T.tuple bt_tuple (pa_cons (pe_lc (own := [("a", 6), ("b", 7)]) rfl sc_init.nd (pi_tup (pe_fld (pv 0) rfl)) (blkOk_by (N := N_init) (sc := scI) (by decide +kernel)) (fun _ _ _ _ _ => (pg_tup rfl (pgs_cons (pg_name (i := 6) sc_init.nd rfl (by first | exact Or.inl rfl | exact Or.inr rfl)) (pgs_cons (pg_name (i := 7) sc_init.nd rfl (by first | exact Or.inl rfl | exact Or.inr rfl)) pgs_nil)))) (fun _ _ _ _ _ => pts_one (pt_cmpR op_eq (pv 6) (pv 5) (nomark _))) (fun _ _ _ _ _ => (pv 7))) pa_nil))
    case inner2 => exact (pe_callTy call_tuple_of (by rfl) T.tuple bt_tuple (pa_cons (pe_lc (own := [("a", 6), ("b", 7)]) rfl sc_init.nd (pi_tup (pe_fld (pv 0) rfl)) (blkOk_by (N := N_init) (sc := scI) (by decide +kernel)) (fun _ _ _ _ _ => (pg_tup rfl (pgs_cons (pg_name (i := 6) sc_init.nd rfl (by first | exact Or.inl rfl | exact Or.inr rfl)) (pgs_cons (pg_name (i := 7) sc_init.nd rfl (by first | exact Or.inl rfl | exact Or.inr rfl)) pgs_nil)))) (fun _ _ _ _ _ => pts_one (pt_cmpR op_eq (pv 7) (pv 5) (nomark _))) (fun _ _ _ _ _ => (pv 6))) pa_nil))
    have e1 : Ex H1 (upd (upd H1 dx (.own x)) x (.ins (cS K) dx [])) := (Ex.new hdx).trans (Ex.new (by rw [upd_ne ne.symm]; exact hx))
    have n0 : Nx G H1 (upd G x (.ins (cS K) dx [])) (upd (upd H1 dx (.own x)) x (.ins (cS K) dx [])) := (Nx.of e e1).add hx upd_same (fresh_back e hx)
    have g0 : Ex G (upd G x (.ins (cS K) dx [])) := Ex.new (fresh_back e hx)
    have fzP : Fz 2 (lN t.pegs) (tN t.pegs) := (Fz.map_ (k := 1) (by have := o.n7; unfold Town.n at this; omega) fun z _ => .int 1 _).1
    have lanes_small : t.lanes.length ≤ 49 := lanes_len o
    have fzL : Fz 2 (.list (t.lanes.map ePrL)) (tP t.lanes) := (Fz.map_ (k := 1) (by omega) fun z _ => .lst (by simp) rfl fun i d e h1 h2 => by
      rw [h1] at h2; cases h2
      match i, h1 with
      | 0, h1 => cases h1; exact .int 0 _
      | 1, h1 => cases h1; exact .int 0 _).1
    refine k_fld n0 hx (fresh_back e hx) upd_same rfl T.cl T.n1 (Nat.le_of_ble_eq_true rfl) (er_call1 (lN t.pegs, tN t.pegs) (ed_var rfl (hp.mono g0)) fzP) fun v1 G1 Ha n1 u1 w1 x1 q1 => ?_
    have p1 : ∀ {σ : L2.St} {G' : Hp} {fs}, σ[0]? = some (some (.ref x)) → G' x = some (.ins (cS K) dx (("pegs", v1) :: fs)) → Dq G' v1 (tN t.pegs) → EvD (tFld K (tVar 0) "pegs") σ G' (tN t.pegs) := fun hs hx' hv => ed_self hs hx' T.cl T.n1 rfl hv
    have hl1 : Dq G1 vl (.list (t.lanes.map ePrL)) := u1 _ _ (hl.mono g0)
    refine k_expr n1 (er_call1 t.pegs (p1 rfl x1 q1) o.pg) fun G2 Hb n2 e2 => ?_
    refine k_asg n2 (er_call1 (.list (t.lanes.map ePrL), tP t.lanes) (ed_var rfl (hl1.mono e2)) fzL) fun v3 G3 Hc n3 m3 q3 => ?_
    have x3 : G3 x = some (.ins (cS K) dx [("pegs", v1)]) := m3.e2 _ _ (e2 _ _ x1)
    have q31 : Dq G3 v1 (tN t.pegs) := q1.mono (e2.trans m3.e2)
    have ln3 : Ev (tCB (rLenQ K) (tCons (tFld K (tVar 0) "pegs") tNil)) [some (.ref x), some vp, some vl, some v3, none, none, none, none] G3 (.int (t.n : Int)) := ev_is (ev_lenT (p1 rfl x3 q31)) (by rw [List.length_map]; rfl)
    refine k_expr n3 (er_call2 (t.n, t.lanes) (.of ln3) (ed_var rfl q3) mono_is mono_da o.ln) fun G4 Hd n4 e4 => ?_
    refine k_fld n4 hx (fresh_back e hx) (e4 _ _ x3) rfl T.cl T.n2 (Nat.le_of_ble_eq_true rfl) (er_call1 t.lanes (ed_var rfl (Dq.mono q3 e4)) ⟨o.st, fun p hp => by have := o.ln p hp; have := o.n7; omega, by omega⟩) fun v5 G5 He n5 u5 w5 x5 q5 => ?_
    have q51 : Dq G5 v1 (tN t.pegs) := u5 _ _ (q31.mono e4)
    have ln5 : Ev (tCB (rLenQ K) (tCons (tFld K (tVar 0) "pegs") tNil)) [some (.ref x), some vp, some vl, some v3, none, none, none, none] G5 (.int (t.n : Int)) := ev_is (ev_lenT (p1 rfl x5 q51)) (by rw [List.length_map]; rfl)
    have hrg : EvR (tCB (fun vs H Q => ∃ i, vs = [V.int i] ∧ ∀ p, H p = none → Q (.ref p) (upd H p (.rng 0 i))) (tCons (tCB (rLenQ K) (tCons (tFld K (tVar 0) "pegs") tNil)) tNil)) [some (.ref x), some vp, some vl, some v3, none, none, none, none] G5 (fun G v => ∃ a, v = .ref a ∧ G a = some (.rng 0 (t.n : Int))) :=
      er_cb1 (.of ln5) fun G H2 v Q _ e2 hv q => by
        cases hv
        exact ⟨_, rfl, fun p hp => q _ _ _ ((Nx.refl e2).new hp) ⟨p, rfl, upd_same⟩⟩
    refine k_asg n5 hrg fun v6 G6 Hf n6 m6 ⟨ra, er6, hr6⟩ => ?_
    subst er6
    have x6 := m6.e2 _ _ x5
    have q65 : Dq G6 v5 (tP t.lanes) := q5.mono m6.e2
    have q61 : Dq G6 v1 (tN t.pegs) := q51.mono m6.e2
    have rne : ra ≠ x := fun z => by subst z; rw [x6] at hr6; cases hr6
    have o7 := o.n7
    refine k_fld (d := .tuple ((List.range t.n).map fun h => tN (t.out h))) n6 hx (fresh_back e hx) x6 rfl T.cl T.n3 (Nat.le_of_ble_eq_true rfl) (ed_tupL ?_) fun v7 G7 Hg n7 u7 w7 x7 q7 => ?_
    · have := ed_lcV (σ := [some (V.ref x), some vp, some vl, some v3, some (.ref ra), none, none, none]) (H := G6) (vs := [5]) (g := gName 5) (t := tYes)
        (te := tCB (rTupQ K) (tCons (tLc (iTup K (tFld K (tVar 0) "lanes")) (gTup K 2 (gCons (gName 6) (gCons (gName 7) gNil))) (tTest (tOp rEq (tVar 6) (tVar 5))) (tVar 7) [6, 7]) tNil))
        (fun _ => true) (fun h => tN (t.out h)) (ev_var (i := 4) rfl) hr6 (by omega) fun h hh => turnF_name rfl et_yes fun _ => ed_tupL ?_
      · rw [List.filter_eq_self.mpr fun _ _ => rfl] at this; exact this
      · rw [show (t.out h).map eN = (t.lanes.filter fun p => p.1 == h).map fun p => eN p.2 from by unfold Town.out; rw [List.map_map]; rfl]
        refine ed_lcT (fun p : Nat × Nat => p.1 == h) (fun p : Nat × Nat => eN p.2) (ed_self (i := 0) rfl x6 T.cl T.n2 rfl q65) (by omega) ?_
        intro p y Gy ey hy qy
        refine turnF_pair qy fun y1 y2 k1 k2 => ?_
        cases k1.intE; cases k2.intE
        exact ⟨rfl, et_is (et_test (ev_op (ev_var rfl) (ev_var rfl) (rv_eq rfl))) (eq_nat _ _), fun _ => .ofInt (ev_var rfl)⟩
    have r7 := w7 _ _ rne hr6
    have q75 := u7 _ _ q65
    have q71 := u7 _ _ q61
    refine l_fld (d := .tuple ((List.range t.n).map fun h => .tuple ((t.lanes.filter fun p => p.2 == h).map fun p => eN p.1))) n7 hx (fresh_back e hx) x7 rfl T.cl T.n4 (Nat.le_of_ble_eq_true rfl) (ed_tupL ?_) fun v8 G8 Hh n8 u8 w8 x8 q8 => ?_
    · have := ed_lcV (σ := [some (V.ref x), some vp, some vl, some v3, some (.ref ra), none, none, none]) (H := G7) (vs := [5]) (g := gName 5) (t := tYes)
        (te := tCB (rTupQ K) (tCons (tLc (iTup K (tFld K (tVar 0) "lanes")) (gTup K 2 (gCons (gName 6) (gCons (gName 7) gNil))) (tTest (tOp rEq (tVar 7) (tVar 5))) (tVar 6) [6, 7]) tNil))
        (fun _ => true) (fun h => .tuple ((t.lanes.filter fun p => p.2 == h).map fun p => eN p.1)) (ev_var (i := 4) rfl) r7 (by omega) fun h hh => turnF_name rfl et_yes fun _ => ed_tupL ?_
      · rw [List.filter_eq_self.mpr fun _ _ => rfl] at this; exact this
      · refine ed_lcT (fun p : Nat × Nat => p.2 == h) (fun p : Nat × Nat => eN p.1) (ed_self (i := 0) rfl x7 T.cl T.n2 rfl q75) (by omega) ?_
        intro p y Gy ey hy qy
        refine turnF_pair qy fun y1 y2 k1 k2 => ?_
        cases k1.intE; cases k2.intE
        exact ⟨rfl, et_is (et_test (ev_op (ev_var rfl) (ev_var rfl) (rv_eq rfl))) (eq_nat _ _), fun _ => .ofInt (ev_var rfl)⟩
    exact q Hh G8 n8 ⟨x, dx, v1, v5, v7, v8, rfl, x8, u8 _ _ q71, u8 _ _ q75, u8 _ _ q7⟩
end
end Lw
/-! walks, rings, strong parts: plain mathematics -/
namespace Lw
open Classical
def Town.peg (t : Town) (h : Nat) : Nat := t.pegs.getD h 0
def Pth (t : Town) : Nat → List Nat → Prop
  | _, [] => True
  | a, x :: r => (a, x) ∈ t.lanes ∧ Pth t x r
def fin : Nat → List Nat → Nat
  | a, [] => a
  | _, x :: r => fin x r
def Wt (t : Town) (p : List Nat) : Nat := (p.map t.peg).sum
variable {t : Town} {a b c h x m w : Nat} {p q r A B : List Nat}
theorem pth_app : ∀ {a : Nat} {p : List Nat}, Pth t a (p ++ q) ↔ Pth t a p ∧ Pth t (fin a p) q
  | _, [] => ⟨fun h => ⟨trivial, h⟩, fun h => h.2⟩
  | _, _ :: _ => ⟨fun h => ⟨⟨h.1, (pth_app.mp h.2).1⟩, (pth_app.mp h.2).2⟩, fun h => ⟨h.1.1, pth_app.mpr ⟨h.1.2, h.2⟩⟩⟩
theorem fin_app : ∀ {a : Nat} {p : List Nat}, fin a (p ++ q) = fin (fin a p) q
  | _, [] => rfl
  | _, x :: p => fin_app (a := x) (p := p)
theorem wt_app : Wt t (p ++ q) = Wt t p + Wt t q := by unfold Wt; rw [List.map_append, List.sum_append]
theorem wt_cons : Wt t (x :: p) = t.peg x + Wt t p := by unfold Wt; rw [List.map_cons, List.sum_cons]
theorem wt_perm (h : p.Perm q) : Wt t p = Wt t q := by unfold Wt; exact (h.map _).sum_nat
structure Wk (t : Town) (a b : Nat) (p : List Nat) : Prop where
  ne : p ≠ []
  ch : Pth t a p
  en : fin a p = b
theorem Wk.one (h : (a, b) ∈ t.lanes) : Wk t a b [b] := ⟨by simp, ⟨h, trivial⟩, rfl⟩
theorem Wk.snoc (h : Wk t a b p) (l : (b, c) ∈ t.lanes) : Wk t a c (p ++ [c]) := ⟨by simp, pth_app.mpr ⟨h.ch, by rw [h.en]; exact ⟨l, trivial⟩⟩, by rw [fin_app]; rfl⟩
theorem fin_mem : ∀ {p : List Nat} {a : Nat}, p ≠ [] → fin a p ∈ p
  | [], _, h => absurd rfl h
  | [x], _, _ => List.mem_cons_self
  | x :: y :: r, _, _ => List.mem_cons_of_mem _ (fin_mem (p := y :: r) (a := x) (by simp))
theorem pth_lt (o : t.Ok) : ∀ {p : List Nat} {a : Nat}, Pth t a p → ∀ x ∈ p, x < t.n
  | _ :: _, _, h, x, hx => by
    rcases List.mem_cons.mp hx with e | e
    · subst e; exact (o.ln _ h.1).2.1
    · exact pth_lt o h.2 x e
theorem split_of : ∀ {p : List Nat}, x ∈ p → ∃ A B, p = A ++ x :: B
  | y :: r, h => by
    rcases List.mem_cons.mp h with e | e
    · subst e; exact ⟨[], r, rfl⟩
    · obtain ⟨A, B, e⟩ := split_of e
      exact ⟨y :: A, B, by rw [e]; rfl⟩
theorem dup_of : ∀ {p : List Nat}, ¬ p.Nodup → ∃ A x B C, p = A ++ x :: (B ++ x :: C)
  | [], h => absurd List.nodup_nil h
  | y :: r, h => by
    by_cases hy : y ∈ r
    · obtain ⟨B, C, e⟩ := split_of hy
      exact ⟨[], y, B, C, by rw [e]; rfl⟩
    · have : ¬ r.Nodup := fun z => h (List.nodup_cons.mpr ⟨hy, z⟩)
      obtain ⟨A, x, B, C, e⟩ := dup_of this
      exact ⟨y :: A, x, B, C, by rw [e]; rfl⟩
theorem nodup_walk : ∀ (n : Nat) {p : List Nat}, p.length ≤ n → Wk t a b p → ∃ q, Wk t a b q ∧ q.Nodup ∧ Wt t q ≤ Wt t p
  | 0, p, h, k => absurd (List.length_eq_zero_iff.mp (Nat.le_zero.mp h)) k.ne
  | n + 1, p, h, k => by
    by_cases hn : p.Nodup
    · exact ⟨p, k, hn, Nat.le_refl _⟩
    · obtain ⟨A, x, B, C, rfl⟩ := dup_of hn
      have k2 : Wk t a b (A ++ x :: C) := by
        have h1 := pth_app.mp k.ch
        have h2 := (pth_app.mp h1.2.2).2
        refine ⟨by simp, pth_app.mpr ⟨h1.1, h1.2.1, h2.2⟩, ?_⟩
        rw [← k.en, fin_app, fin_app]
        show fin x C = fin x (B ++ x :: C)
        rw [fin_app]; rfl
      obtain ⟨q, q1, q2, q3⟩ := nodup_walk n (p := A ++ x :: C) (by simp only [List.length_append, List.length_cons] at h ⊢; omega) k2
      refine ⟨q, q1, q2, Nat.le_trans q3 ?_⟩
      simp only [wt_app, wt_cons]
      omega
/-! least sums -/
def IsMs (t : Town) (a b : Nat) : Option Nat → Prop
  | none => ∀ p, ¬ Wk t a b p
  | some w => (∃ p, Wk t a b p ∧ Wt t p = w) ∧ ∀ p, Wk t a b p → w ≤ Wt t p
theorem least_of {P : Nat → Prop} : ∀ n, P n → ∃ m, P m ∧ ∀ k, P k → m ≤ k := fun n => by
  induction n using Nat.strongRecOn with
  | ind n ih =>
    intro h
    by_cases e : ∃ k, k < n ∧ P k
    · obtain ⟨k, h1, h2⟩ := e; exact ih k h1 h2
    · exact ⟨n, h, fun k hk => Nat.le_of_not_lt fun z => e ⟨k, z, hk⟩⟩
theorem ms_ex (t : Town) (a b : Nat) : ∃ o, IsMs t a b o := by
  by_cases h : ∃ p, Wk t a b p
  · obtain ⟨p, hp⟩ := h
    obtain ⟨m, ⟨q, q1, q2⟩, h2⟩ := least_of (P := fun w => ∃ p, Wk t a b p ∧ Wt t p = w) _ ⟨p, hp, rfl⟩
    exact ⟨some m, ⟨q, q1, q2⟩, fun p hp => h2 _ ⟨p, hp, rfl⟩⟩
  · exact ⟨none, fun p hp => h ⟨p, hp⟩⟩
noncomputable def ms (t : Town) (a b : Nat) : Option Nat := Classical.choose (ms_ex t a b)
theorem ms_is (t : Town) (a b : Nat) : IsMs t a b (ms t a b) := Classical.choose_spec (ms_ex t a b)
theorem ms_uniq : ∀ {o o' : Option Nat}, IsMs t a b o → IsMs t a b o' → o = o'
  | none, none, _, _ => rfl
  | none, some _, h, h' => absurd h'.1.choose_spec.1 (h _)
  | some _, none, h, h' => absurd h.1.choose_spec.1 (h' _)
  | some w, some w', h, h' => by
    obtain ⟨⟨p, p1, p2⟩, h2⟩ := h
    obtain ⟨⟨p', p1', p2'⟩, h2'⟩ := h'
    have := h2 p' p1'
    have := h2' p p1
    congr 1; omega
theorem ms_eq {o : Option Nat} (h : IsMs t a b o) : ms t a b = o := ms_uniq (ms_is t a b) h
/-! rings, least house first -/
structure Ring (t : Town) (r : List Nat) : Prop where
  ex : ∃ m q, r = m :: q ∧ q ≠ [] ∧ (m :: q).Nodup ∧ Pth t m q ∧ (∀ x ∈ q, m < x) ∧ (fin m q, m) ∈ t.lanes
theorem min_mem : ∀ {p : List Nat}, p ≠ [] → ∃ m ∈ p, ∀ x ∈ p, m ≤ x := fun {p} h => by
  cases p with
  | nil => exact absurd rfl h
  | cons x r =>
    obtain ⟨m, h1, h2⟩ := least_of (P := fun z => z ∈ x :: r) x List.mem_cons_self
    exact ⟨m, h1, h2⟩
theorem ring_of_walk (o : t.Ok) (k : Wk t h h p) : ∃ r, Ring t r ∧ h ∈ r ∧ Wt t r ≤ Wt t p := by
  obtain ⟨q, k, nd, hw⟩ := nodup_walk _ (Nat.le_refl _) k
  obtain ⟨m, hm, hl⟩ := min_mem k.ne
  obtain ⟨A, B, rfl⟩ := split_of hm
  have pm : (m :: (B ++ A)).Perm (A ++ m :: B) := (List.perm_append_comm (l₁ := A) (l₂ := m :: B)).symm
  have h1 := pth_app.mp k.ch
  have e : fin m B = h := by have := k.en; rw [fin_app] at this; exact this
  have nd2 : (m :: (B ++ A)).Nodup := pm.nodup_iff.mpr nd
  have cl : (fin m (B ++ A), m) ∈ t.lanes := by rw [fin_app, e]; exact h1.2.1
  refine ⟨m :: (B ++ A), ⟨m, B ++ A, rfl, fun z => ?_, nd2, pth_app.mpr ⟨h1.2.2, by rw [e]; exact h1.1⟩, fun x hx => ?_, cl⟩, ?_, by rw [wt_perm pm]; exact hw⟩
  · rw [z] at cl
    exact (o.ln _ cl).2.2 rfl
  · have h2 := hl x (pm.mem_iff.mp (List.mem_cons_of_mem _ hx))
    have h3 : x ≠ m := fun z => by subst z; exact (List.nodup_cons.mp nd2).1 hx
    omega
  · refine pm.mem_iff.mpr ?_
    have := fin_mem (p := A ++ m :: B) (a := h) k.ne
    rw [k.en] at this; exact this
theorem walk_of_ring (k : Ring t r) (hh : h ∈ r) : ∃ p, Wk t h h p ∧ p.Perm r := by
  obtain ⟨m, q, rfl, ne, nd, ch, lt, cl⟩ := k
  rcases List.mem_cons.mp hh with e | e
  · subst e
    refine ⟨q ++ [h], ⟨by simp, pth_app.mpr ⟨ch, cl, trivial⟩, by rw [fin_app]; rfl⟩, List.perm_append_comm⟩
  · obtain ⟨A, B, rfl⟩ := split_of e
    have h1 := pth_app.mp ch
    have e2 : fin h B = fin m (A ++ h :: B) := by rw [fin_app]; rfl
    refine ⟨B ++ m :: (A ++ [h]), ⟨by simp, pth_app.mpr ⟨h1.2.2, by rw [e2]; exact cl, pth_app.mpr ⟨h1.1, h1.2.1, trivial⟩⟩, ?_⟩, ?_⟩
    · rw [fin_app]
      show fin m (A ++ [h]) = h
      rw [fin_app]; rfl
    · refine List.Perm.trans List.perm_append_comm ?_
      refine List.Perm.cons m ?_
      show ((A ++ [h]) ++ B).Perm (A ++ h :: B)
      rw [List.append_assoc]
      exact List.Perm.refl _
/-! least of a list -/
def mn : List Nat → Option Nat
  | [] => none
  | x :: r => match mn r with
    | none => some x
    | some y => some (if x ≤ y then x else y)
theorem mn_none : ∀ {l : List Nat}, mn l = none → l = []
  | [], _ => rfl
  | x :: r, h => by
    unfold mn at h
    cases e : mn r <;> rw [e] at h <;> cases h
theorem mn_some : ∀ {l : List Nat} {w : Nat}, mn l = some w → w ∈ l ∧ ∀ x ∈ l, w ≤ x
  | x :: r, w, h => by
    unfold mn at h
    cases e : mn r with
    | none =>
      rw [e] at h; cases h
      have := mn_none e
      subst this
      exact ⟨List.mem_cons_self, fun y hy => Nat.le_of_eq (List.mem_singleton.mp hy).symm⟩
    | some y =>
      rw [e] at h; cases h
      obtain ⟨h1, h2⟩ := mn_some e
      by_cases hxy : x ≤ y
      · show (if x ≤ y then x else y) ∈ _ ∧ _
        rw [if_pos hxy]
        exact ⟨List.mem_cons_self, fun z hz => by
          rcases List.mem_cons.mp hz with u | u
          · omega
          · have := h2 z u; omega⟩
      · show (if x ≤ y then x else y) ∈ _ ∧ _
        rw [if_neg hxy]
        exact ⟨List.mem_cons_of_mem _ h1, fun z hz => by
          rcases List.mem_cons.mp hz with u | u
          · omega
          · exact h2 z u⟩
theorem mn_eq {l : List Nat} (h1 : w ∈ l) (h2 : ∀ x ∈ l, w ≤ x) : mn l = some w := by
  cases e : mn l with
  | none => have := mn_none e; subst this; cases h1
  | some v =>
    obtain ⟨a, b⟩ := mn_some e
    have := h2 v a
    have := b w h1
    congr 1; omega
/-- the least sum home is the lightest ring's weight -/
theorem ms_home (o : t.Ok) {L : List (List Nat)} (hL : ∀ r, r ∈ L ↔ Ring t r) (h : Nat) : ms t h h = mn ((L.filter fun r => decide (h ∈ r)).map (Wt t)) := by
  refine ms_eq ?_
  cases e : mn ((L.filter fun r => decide (h ∈ r)).map (Wt t)) with
  | none =>
    intro p k
    obtain ⟨r, r1, r2, _⟩ := ring_of_walk o k
    have h1 : Wt t r ∈ (L.filter fun r => decide (h ∈ r)).map (Wt t) := List.mem_map_of_mem (List.mem_filter.mpr ⟨(hL r).mpr r1, by simpa using r2⟩)
    rw [mn_none e] at h1; cases h1
  | some w =>
    obtain ⟨h1, h2⟩ := mn_some e
    obtain ⟨r, hr, rfl⟩ := List.mem_map.mp h1
    obtain ⟨r1, r2⟩ := List.mem_filter.mp hr
    obtain ⟨p, k, pm⟩ := walk_of_ring ((hL r).mp r1) (by simpa using r2)
    refine ⟨⟨p, k, wt_perm pm⟩, fun q kq => ?_⟩
    obtain ⟨r', r1', r2', r3'⟩ := ring_of_walk o kq
    exact Nat.le_trans (h2 _ (List.mem_map_of_mem (List.mem_filter.mpr ⟨(hL r').mpr r1', by simpa using r2'⟩))) r3'
/-! reach, strong parts -/
def Reach (t : Town) (a b : Nat) : Prop := ∃ p, Pth t a p ∧ fin a p = b
theorem Reach.refl : Reach t a a := ⟨[], trivial, rfl⟩
theorem Reach.step (h : Reach t a b) (l : (b, c) ∈ t.lanes) : Reach t a c := by
  obtain ⟨p, h1, h2⟩ := h
  exact ⟨p ++ [c], pth_app.mpr ⟨h1, by rw [h2]; exact ⟨l, trivial⟩⟩, by rw [fin_app]; rfl⟩
theorem Reach.trans (h : Reach t a b) (k : Reach t b c) : Reach t a c := by
  obtain ⟨p, h1, h2⟩ := h
  obtain ⟨q, k1, k2⟩ := k
  exact ⟨p ++ q, pth_app.mpr ⟨h1, by rw [h2]; exact k1⟩, by rw [fin_app, h2]; exact k2⟩
/-- what holds at the start and is kept by every lane holds wherever one comes -/
theorem Reach.keeps {S : Nat → Prop} (h : Reach t a b) (h0 : S a) (hs : ∀ x y, S x → (x, y) ∈ t.lanes → S y) : S b := by
  obtain ⟨p, h1, rfl⟩ := h
  induction p generalizing a with
  | nil => exact h0
  | cons x r ih => exact ih (hs _ _ h0 h1.1) h1.2
noncomputable def scc (t : Town) (h : Nat) : List Nat := (List.range t.n).filter fun o => decide (Reach t h o ∧ Reach t o h)
theorem mem_scc {o : Nat} : o ∈ scc t h ↔ o < t.n ∧ Reach t h o ∧ Reach t o h := by unfold scc; rw [List.mem_filter, List.mem_range, decide_eq_true_eq]
noncomputable def parts (t : Town) : List (List Nat) := ((List.range t.n).filter fun h => decide ((scc t h).head? = some h)).map (scc t)
theorem scc_eq (h1 : Reach t a b) (h2 : Reach t b a) : scc t a = scc t b := by
  unfold scc
  refine List.filter_congr fun o _ => decide_eq_decide.mpr ⟨fun ⟨z1, z2⟩ => ⟨h2.trans z1, z2.trans h1⟩, fun ⟨z1, z2⟩ => ⟨h1.trans z1, z2.trans h2⟩⟩
theorem part_of (hh : h < t.n) : scc t h ∈ parts t := by
  have hm : h ∈ scc t h := mem_scc.mpr ⟨hh, .refl, .refl⟩
  cases e : scc t h with
  | nil => rw [e] at hm; cases hm
  | cons y r =>
    have hy : y ∈ scc t h := by rw [e]; exact List.mem_cons_self
    obtain ⟨y1, y2, y3⟩ := mem_scc.mp hy
    have ee := scc_eq y3 y2
    rw [← e, ← ee]
    exact List.mem_map_of_mem (List.mem_filter.mpr ⟨List.mem_range.mpr y1, by rw [ee, e]; simp⟩)
def bare (t : Town) (p : List Nat) : Bool := decide (1 < p.length) && p.all fun h => decide ((t.out h).length = 1)
noncomputable def spurred (t : Town) : List (List Nat) := (parts t).filter fun p => decide (1 < p.length) && !bare t p
theorem mem_spurred (hp : p ∈ spurred t) : ∃ h, h < t.n ∧ p = scc t h ∧ 1 < p.length ∧ ∃ x ∈ p, (t.out x).length ≠ 1 := by
  obtain ⟨h1, h2⟩ := List.mem_filter.mp hp
  obtain ⟨h, hh, rfl⟩ := List.mem_map.mp h1
  have h3 := List.mem_range.mp (List.mem_filter.mp hh).1
  rw [Bool.and_eq_true, decide_eq_true_eq] at h2
  refine ⟨h, h3, rfl, h2.1, ?_⟩
  have h4 := h2.2
  unfold bare at h4
  rw [decide_eq_true h2.1, Bool.true_and, Bool.not_eq_true', List.all_eq_false] at h4
  obtain ⟨x, hx, h5⟩ := h4
  exact ⟨x, hx, by simpa using h5⟩
theorem scc_nodup : (scc t h).Nodup := List.Pairwise.filter _ List.nodup_range
/-- in a part of two or more every house is on a ring -/
theorem part_walk {P : List Nat} (hp : P = scc t h) (hl : 1 < P.length) (hx : x ∈ P) : ∃ p, Wk t x x p := by
  subst hp
  have : ∃ y ∈ scc t h, y ≠ x := by
    apply Classical.byContradiction
    intro hn
    have hall : ∀ y ∈ scc t h, y = x := fun y hy => Classical.byContradiction fun z => hn ⟨y, hy, z⟩
    have hnd := scc_nodup (t := t) (h := h)
    match hs : scc t h, hl with
    | a :: b :: r, _ =>
      rw [hs] at hall hnd
      have e1 := hall a List.mem_cons_self
      have e2 := hall b (List.mem_cons_of_mem _ List.mem_cons_self)
      subst e1 e2
      exact (List.nodup_cons.mp hnd).1 List.mem_cons_self
  obtain ⟨y, hy, ne⟩ := this
  obtain ⟨_, x1, x2⟩ := mem_scc.mp hx
  obtain ⟨_, y1, y2⟩ := mem_scc.mp hy
  obtain ⟨p, p1, p2⟩ := (x2.trans y1).trans (y2.trans x1)
  obtain ⟨u, u1, u2⟩ := x2.trans y1
  obtain ⟨v, v1, v2⟩ := y2.trans x1
  refine ⟨u ++ v, ?_, pth_app.mpr ⟨u1, by rw [u2]; exact v1⟩, by rw [fin_app, u2]; exact v2⟩
  intro z
  have := (List.append_eq_nil_iff.mp z).1
  subst this
  exact ne u2.symm
def hasSpur (t : Town) (r : List Nat) : Bool := t.lanes.any fun p => decide (p.1 ∈ r) && decide (p.2 ∉ r)
theorem spur_iff : hasSpur t r = true ↔ ∃ a b, (a, b) ∈ t.lanes ∧ a ∈ r ∧ b ∉ r := by
  unfold hasSpur
  rw [List.any_eq_true]
  constructor
  · rintro ⟨⟨a, b⟩, h1, h2⟩
    rw [Bool.and_eq_true, decide_eq_true_eq, decide_eq_true_eq] at h2
    exact ⟨a, b, h1, h2⟩
  · rintro ⟨a, b, h1, h2, h3⟩
    exact ⟨(a, b), h1, by rw [Bool.and_eq_true, decide_eq_true_eq, decide_eq_true_eq]; exact ⟨h2, h3⟩⟩
theorem peg_pos (o : t.Ok) (hh : h < t.n) : 1 ≤ t.peg h := by
  unfold Town.peg
  have : h < t.pegs.length := hh
  rw [List.getD_eq_getElem?_getD, List.getElem?_eq_getElem this]
  exact (o.pg _ (List.getElem_mem this)).1
theorem reach_in (k : Wk t a a p) (hx : x ∈ p) : Reach t a x ∧ Reach t x a := by
  obtain ⟨A, B, rfl⟩ := split_of hx
  have h1 := pth_app.mp k.ch
  have e : fin x B = a := by have := k.en; rw [fin_app] at this; exact this
  exact ⟨(show Reach t a (fin a A) from ⟨A, h1.1, rfl⟩).step h1.2.1, B, h1.2.2, e⟩
noncomputable def fewest (t : Town) : Option Nat := mn ((spurred t).flatten.map fun h => (ms t h h).getD 0)
theorem spurred_ms {P : List Nat} (hP : P ∈ spurred t) (hx : x ∈ P) : ∃ w, ms t x x = some w := by
  obtain ⟨h, _, e, hl, _⟩ := mem_spurred hP
  obtain ⟨p, k⟩ := part_walk e hl hx
  cases em : ms t x x with
  | some w => exact ⟨w, rfl⟩
  | none => have := ms_is t x x; rw [em] at this; exact absurd k (this p)
theorem out_two (o : t.Ok) {a n : Nat} (hn : n ∈ t.out a) (hl : (t.out a).length ≠ 1) : ∃ c ∈ t.out a, c ≠ n := by
  apply Classical.byContradiction
  intro hno
  have hall : ∀ y ∈ t.out a, y = n := fun y hy => Classical.byContradiction fun z => hno ⟨y, hy, z⟩
  have hnd := o.out_nd a
  match hs : t.out a with
  | [] => rw [hs] at hn; cases hn
  | [y] => rw [hs] at hl; exact hl rfl
  | y :: z :: r =>
    rw [hs] at hall hnd
    have e1 := hall y List.mem_cons_self
    have e2 := hall z (List.mem_cons_of_mem _ List.mem_cons_self)
    subst e1 e2
    exact (List.nodup_cons.mp hnd).1 List.mem_cons_self
/-- the theorem: the fewest over the spurred parts is the lightest ring with a spur -/
theorem fewest_eq (o : t.Ok) {L : List (List Nat)} (hL : ∀ r, r ∈ L ↔ Ring t r) : fewest t = mn ((L.filter fun r => hasSpur t r).map (Wt t)) := by
  have up : ∀ r, Ring t r → hasSpur t r = true → ∃ P ∈ spurred t, ∃ x ∈ P, ∃ w, ms t x x = some w ∧ w ≤ Wt t r := fun r k hs => by
    obtain ⟨a, b, l, ha, hb⟩ := spur_iff.mp hs
    obtain ⟨p, kp, pm⟩ := walk_of_ring k ha
    have han : a < t.n := (o.ln _ l).1
    have hbn : b < t.n := (o.ln _ l).2.1
    have sub : ∀ y ∈ p, y ∈ scc t a := fun y hy => mem_scc.mpr ⟨pth_lt o kp.ch y hy, reach_in kp hy⟩
    have hr2 : 2 ≤ p.length := by
      obtain ⟨m, q, rfl, ne, _⟩ := k
      rw [pm.length_eq]
      cases q with
      | nil => exact absurd rfl ne
      | cons _ _ => simp
    have ndp : p.Nodup := by
      obtain ⟨m, q, rfl, _, nd, _⟩ := k
      exact pm.nodup_iff.mpr nd
    cases p with
    | nil => exact absurd rfl kp.ne
    | cons n X =>
      have hn : n ∈ t.out a := mem_out.mpr kp.ch.1
      have hb2 : b ∈ t.out a := mem_out.mpr l
      have hnb : n ≠ b := fun z => hb (by subst z; exact pm.mem_iff.mp List.mem_cons_self)
      have big : ∀ (l : List Nat), n ∈ l → b ∈ l → l.length ≠ 1 := fun l h1 h2 h3 => by
        match l, h3 with
        | [y], _ =>
          have e1 := List.mem_singleton.mp h1
          have e2 := List.mem_singleton.mp h2
          exact hnb (e1.trans e2.symm)
      have ha2 : a ∈ scc t a := mem_scc.mpr ⟨han, .refl, .refl⟩
      have len : 1 < (scc t a).length := by
        match hs2 : scc t a with
        | [] => rw [hs2] at ha2; cases ha2
        | [y] =>
          exfalso
          cases X with
          | nil => simp at hr2
          | cons z Z =>
            have e1 := sub n List.mem_cons_self
            have e2 := sub z (List.mem_cons_of_mem _ List.mem_cons_self)
            rw [hs2] at e1 e2
            have e3 := (List.mem_singleton.mp e1).trans (List.mem_singleton.mp e2).symm
            subst e3
            exact (List.nodup_cons.mp ndp).1 List.mem_cons_self
        | _ :: _ :: _ => simp
      refine ⟨scc t a, List.mem_filter.mpr ⟨part_of han, ?_⟩, a, ha2, ?_⟩
      · rw [Bool.and_eq_true, decide_eq_true_eq, Bool.not_eq_true']
        refine ⟨len, ?_⟩
        unfold bare
        rw [decide_eq_true len, Bool.true_and, List.all_eq_false]
        exact ⟨a, ha2, by simpa using big _ hn hb2⟩
      · cases em : ms t a a with
        | none => have := ms_is t a a; rw [em] at this; exact absurd kp (this _)
        | some w =>
          have := ms_is t a a
          rw [em] at this
          exact ⟨w, rfl, by rw [← wt_perm pm]; exact this.2 _ kp⟩
  have dn : ∀ P ∈ spurred t, ∀ x ∈ P, ∀ w, ms t x x = some w → (∀ P' ∈ spurred t, ∀ y ∈ P', ∀ w', ms t y y = some w' → w ≤ w') → ∃ r, Ring t r ∧ hasSpur t r = true ∧ Wt t r ≤ w := fun P hP x hx w hw hmin => by
    have hm := ms_is t x x
    rw [hw] at hm
    obtain ⟨⟨p, kp, rfl⟩, hle⟩ := hm
    obtain ⟨r, kr, hxr, hwr⟩ := ring_of_walk o kp
    by_cases hs : hasSpur t r = true
    · exact ⟨r, kr, hs, hwr⟩
    exfalso
    have hno : ∀ a b, (a, b) ∈ t.lanes → a ∈ r → b ∈ r := fun a b l ha => Classical.byContradiction fun hb => hs (spur_iff.mpr ⟨a, b, l, ha, hb⟩)
    obtain ⟨h, hh, e, hl, a, ha, hout⟩ := mem_spurred hP
    have hxs := hx
    have has := ha
    rw [e] at hxs has
    obtain ⟨_, x1, x2⟩ := mem_scc.mp hxs
    obtain ⟨_, a1, a2⟩ := mem_scc.mp has
    have har : a ∈ r := (x2.trans a1).keeps (S := fun z => z ∈ r) hxr fun u v hu l => hno u v l hu
    obtain ⟨q, kq, pm⟩ := walk_of_ring kr har
    cases q with
    | nil => exact absurd rfl kq.ne
    | cons n X =>
      obtain ⟨c, hc, hcn⟩ := out_two o (mem_out.mpr kq.ch.1) hout
      have hcr : c ∈ n :: X := pm.mem_iff.mpr (hno a c (mem_out.mp hc) har)
      have hcX : c ∈ X := (List.mem_cons.mp hcr).resolve_left hcn
      obtain ⟨A, B, rfl⟩ := split_of hcX
      have h1 := pth_app.mp kq.ch.2
      have ef : fin c B = a := by
        have := kq.en
        have e2 : fin a (n :: (A ++ c :: B)) = fin c B := by
          show fin n (A ++ c :: B) = _
          rw [fin_app]; rfl
        rw [e2] at this; exact this
      have kc : Wk t a a (c :: B) := ⟨by simp, ⟨mem_out.mp hc, h1.2.2⟩, ef⟩
      obtain ⟨w', hw'⟩ := spurred_ms hP ha
      have hm' := ms_is t a a
      rw [hw'] at hm'
      have g1 := hm'.2 _ kc
      have g2 := hmin P hP a ha w' hw'
      have g3 : Wt t (n :: (A ++ c :: B)) = Wt t r := wt_perm pm
      have g4 := peg_pos o (h := n) (pth_lt o kq.ch n List.mem_cons_self)
      rw [wt_cons, wt_app] at g3
      omega
  cases e : mn ((L.filter fun r => hasSpur t r).map (Wt t)) with
  | none =>
    unfold fewest
    cases e2 : mn ((spurred t).flatten.map fun h => (ms t h h).getD 0) with
    | none => rfl
    | some w =>
      exfalso
      obtain ⟨h1, h2⟩ := mn_some e2
      obtain ⟨x, hx, ex⟩ := List.mem_map.mp h1
      obtain ⟨P, hP, hxP⟩ := List.mem_flatten.mp hx
      obtain ⟨w', hw'⟩ := spurred_ms hP hxP
      rw [hw'] at ex
      have ex : w' = w := ex
      subst ex
      obtain ⟨r, k1, k2, k3⟩ := dn P hP x hxP w' hw' fun P' hP' y hy v hv => by
        have := h2 v (List.mem_map.mpr ⟨y, List.mem_flatten.mpr ⟨P', hP', hy⟩, by rw [hv]; rfl⟩)
        exact this
      have h3 : Wt t r ∈ (L.filter fun r => hasSpur t r).map (Wt t) := List.mem_map_of_mem (List.mem_filter.mpr ⟨(hL r).mpr k1, k2⟩)
      rw [mn_none e] at h3; cases h3
  | some w =>
    obtain ⟨h1, h2⟩ := mn_some e
    obtain ⟨r, hr, rfl⟩ := List.mem_map.mp h1
    obtain ⟨r1, r2⟩ := List.mem_filter.mp hr
    obtain ⟨P, hP, x, hx, w', hw', hle⟩ := up r ((hL r).mp r1) r2
    unfold fewest
    cases e2 : mn ((spurred t).flatten.map fun h => (ms t h h).getD 0) with
    | none =>
      exfalso
      have h3 : (ms t x x).getD 0 ∈ (spurred t).flatten.map fun h => (ms t h h).getD 0 := List.mem_map.mpr ⟨x, List.mem_flatten.mpr ⟨P, hP, hx⟩, rfl⟩
      rw [mn_none e2] at h3; cases h3
    | some v =>
      obtain ⟨g1, g2⟩ := mn_some e2
      obtain ⟨y, hy, ey⟩ := List.mem_map.mp g1
      obtain ⟨P', hP', hyP⟩ := List.mem_flatten.mp hy
      obtain ⟨u, hu⟩ := spurred_ms hP' hyP
      rw [hu] at ey
      have ey : u = v := ey
      subst ey
      obtain ⟨r', k1, k2, k3⟩ := dn P' hP' y hyP u hu fun Q hQ z hz v hv => g2 v (List.mem_map.mpr ⟨z, List.mem_flatten.mpr ⟨Q, hQ, hz⟩, by rw [hv]; rfl⟩)
      have f1 := h2 (Wt t r') (List.mem_map_of_mem (List.mem_filter.mpr ⟨(hL r').mpr k1, k2⟩))
      have f2 := g2 w' (List.mem_map.mpr ⟨x, List.mem_flatten.mpr ⟨P, hP, hx⟩, by rw [hw']; rfl⟩)
      congr 1; omega
end Lw
namespace Dl
open PySem PySem.Spec PyProof.Rows L2 Evl Xr
section
variable {K : PySem.W.Frag} {σ : L2.St} {H H0 H1 G : Hp} {tl te ta tb : TE} {t : TT} {g : TG} {vs : List Nat} {Dn : Ends} {tu tz : TS}
theorem filter_all {α : Type} (l : List α) : (l.filter fun _ => true) = l := List.filter_eq_self.mpr fun _ _ => rfl
theorem ed_mapL {α : Type} {l : List α} {c : α → D} (e : α → D) (hs : EvD tl σ H (.list (l.map c))) (hz : l.length ≤ 10000000)
    (turn : ∀ (z : α) (x : V) (G : Hp), Ex H G → z ∈ l → Dq G x (c z) → TurnF σ vs g t te true (e z) x G) : EvD (tLc (iList K tl) g t te vs) σ H (.list (l.map e)) := by
  have := ed_lcL (K := K) (fun _ => true) e hs hz turn
  rwa [filter_all] at this
theorem ed_mapT {α : Type} {l : List α} {c : α → D} (e : α → D) (hs : EvD tl σ H (.tuple (l.map c))) (hz : l.length ≤ 10000000)
    (turn : ∀ (z : α) (x : V) (G : Hp), Ex H G → z ∈ l → Dq G x (c z) → TurnF σ vs g t te true (e z) x G) : EvD (tLc (iTup K tl) g t te vs) σ H (.list (l.map e)) := by
  have := ed_lcT (K := K) (fun _ => true) e hs hz turn
  rwa [filter_all] at this
theorem ed_mapR {ta : TA} {m : Nat} (e : Nat → D) (hs : EvA ta σ H [.int (m : Int)]) (hz : m ≤ 10000000)
    (turn : ∀ (i : Nat), i < m → TurnF σ vs g t te true (e i) (.int (i : Int)) H) : EvD (tLc (iRng1 ta) g t te vs) σ H (.list ((List.range m).map e)) := by
  have := ed_lcR (fun _ => true) e hs hz turn
  rwa [filter_all] at this
theorem ea_one {x : V} (h : Ev ta σ H x) : EvA (tCons ta tNil) σ H [x] := ea_cons h ea_nil
/-- items by constant places -/
theorem ed_k0L {d : D} {ds : List D} (h : EvD ta σ H (.list (d :: ds))) : EvD (tOp (rIxL K) ta (tC (.int 0))) σ H d := ed_ixL (i := 0) h ev_c rfl
theorem ed_k1L {d d' : D} {ds : List D} (h : EvD ta σ H (.list (d' :: d :: ds))) : EvD (tOp (rIxL K) ta (tC (.int 1))) σ H d := ed_ixL (i := 1) h ev_c rfl
theorem ed_k0T {d : D} {ds : List D} (h : EvD ta σ H (.tuple (d :: ds))) : EvD (tOp (rIxT K) ta (tC (.int 0))) σ H d := ed_ixT (i := 0) h ev_c rfl
theorem ed_k1T {d d' : D} {ds : List D} (h : EvD ta σ H (.tuple (d' :: d :: ds))) : EvD (tOp (rIxT K) ta (tC (.int 1))) σ H d := ed_ixT (i := 1) h ev_c rfl
/-- sum, all, min of a list -/
theorem ev_sum {ns : List Int} (h : EvD ta σ H (.list (ns.map PyData.int))) : Ev (tCB (rSum K) (tCons ta tNil)) σ H (.int ns.sum) := ev_cb1 h fun G H2 v Q e e2 hv q => by
  obtain ⟨a, xs, rfl, h1, h2⟩ := hv.lstE
  have := h2.intsE
  subst this
  exact ⟨a, ns, rfl, sq_of (e2 _ _ h1), q⟩
theorem ev_all {bs : List Bool} (h : EvD ta σ H (.list (bs.map PyData.bool))) : Ev (tCB (rAll K) (tCons ta tNil)) σ H (.bl (bs.all id)) := ev_cb1 h fun G H2 v Q e e2 hv q => by
  obtain ⟨a, xs, rfl, h1, h2⟩ := hv.lstE
  have := h2.blsE
  subst this
  exact ⟨a, bs, rfl, sq_of (e2 _ _ h1), q⟩
theorem all_true {α : Type} {l : List α} {f : α → Bool} (h : ∀ x ∈ l, f x = true) : (l.map f).all id = true := by
  rw [List.all_map]; exact List.all_eq_true.mpr h
end
section
variable {K : PySem.W.Frag} {σ : L2.St} {H H0 H1 G : Hp} {tl te ta tb : TE} {t : TT} {g : TG} {Dn : Ends} {tu tz : TS}
theorem k_forL {tl : TE} {g : TG} {ds : List D} (n : Nx H0 H1 G H) (h : EvD tl σ G (.list ds)) (W : Nat → L2.St → Hp → Hp → Prop) (h0 : ∀ Ga H', Nx G H Ga H' → W 0 σ Ga H')
    (hs : ∀ Ga i d x σ' G' H', Ex G Ga → ds[i]? = some d → Dq Ga x d → Nx H0 H1 G' H' → Ex Ga G' → W i σ' G' H' → g x σ' H' fun σ2 H2 => tu { Dn with nx := Pw H0 H1 Ga W (i + 1), ct := Pw H0 H1 Ga W (i + 1), bk := tz Dn } σ2 H2)
    (hd : ∀ σ' G' H', Nx H0 H1 G' H' → Ex G G' → W ds.length σ' G' H' → tz Dn σ' H') : tSeq (tFor (iList K tl) g tu) tz Dn σ H :=
  l_forL (Dn := { Dn with nx := tz Dn }) n h W h0 hs hd
theorem k_forT {tl : TE} {g : TG} {ds : List D} (n : Nx H0 H1 G H) (h : EvD tl σ G (.tuple ds)) (W : Nat → L2.St → Hp → Hp → Prop) (h0 : ∀ Ga H', Nx G H Ga H' → W 0 σ Ga H')
    (hs : ∀ Ga i d x σ' G' H', Ex G Ga → ds[i]? = some d → Dq Ga x d → Nx H0 H1 G' H' → Ex Ga G' → W i σ' G' H' → g x σ' H' fun σ2 H2 => tu { Dn with nx := Pw H0 H1 Ga W (i + 1), ct := Pw H0 H1 Ga W (i + 1), bk := tz Dn } σ2 H2)
    (hd : ∀ σ' G' H', Nx H0 H1 G' H' → Ex G G' → W ds.length σ' G' H' → tz Dn σ' H') : tSeq (tFor (iTup K tl) g tu) tz Dn σ H :=
  l_forT (Dn := { Dn with nx := tz Dn }) n h W h0 hs hd
theorem k_forR {ta : TA} {g : TG} {m : Nat} (n : Nx H0 H1 G H) (h : EvA ta σ H [.int (m : Int)]) (hm : m ≤ 100000000) (W : Nat → L2.St → Hp → Hp → Prop) (h0 : ∀ H', Nx H0 H1 G H' → Ex H H' → W 0 σ G H')
    (hs : ∀ i σ' G' H', i < m → Nx H0 H1 G' H' → Ex G G' → W i σ' G' H' → g (.int (i : Int)) σ' H' fun σ2 H2 => tu { Dn with nx := Pw H0 H1 G W (i + 1), ct := Pw H0 H1 G W (i + 1), bk := tz Dn } σ2 H2)
    (hd : ∀ σ' G' H', Nx H0 H1 G' H' → Ex G G' → W m σ' G' H' → tz Dn σ' H') : tSeq (tFor (iRng1 ta) g tu) tz Dn σ H :=
  l_forR (Dn := { Dn with nx := tz Dn }) n h hm W h0 hs hd
theorem k_forR2 {ta : TA} {g : TG} {lo m : Nat} (n : Nx H0 H1 G H) (h : EvA ta σ H [.int (lo : Int), .int (m : Int)]) (hm : m ≤ 100000000) (hlo : lo ≤ m) (W : Nat → L2.St → Hp → Hp → Prop) (h0 : ∀ H', Nx H0 H1 G H' → Ex H H' → W lo σ G H')
    (hs : ∀ i σ' G' H', lo ≤ i → i < m → Nx H0 H1 G' H' → Ex G G' → W i σ' G' H' → g (.int (i : Int)) σ' H' fun σ2 H2 => tu { Dn with nx := Pw H0 H1 G W (i + 1), ct := Pw H0 H1 G W (i + 1), bk := tz Dn } σ2 H2)
    (hd : ∀ σ' G' H', Nx H0 H1 G' H' → Ex G G' → W m σ' G' H' → tz Dn σ' H') : tSeq (tFor (iRng2 ta) g tu) tz Dn σ H :=
  l_forR2 (Dn := { Dn with nx := tz Dn }) n h hm hlo W h0 hs hd
theorem k_forE {ds : List D} (n : Nx H0 H1 G H) (h : EvD tl σ G (.tuple ds)) (W : Nat → L2.St → Hp → Hp → Prop) (h0 : ∀ Ga H', Nx G H Ga H' → W 0 σ Ga H')
    (hs : ∀ Ga (i : Nat) d x σ' G' H', Ex G Ga → ds[i]? = some d → Dq G' x (.tuple [eN i, d]) → Nx H0 H1 G' H' → Ex Ga G' → W i σ' G' H' → g x σ' H' fun σ2 H2 => tu { Dn with nx := Pw H0 H1 Ga W (i + 1), ct := Pw H0 H1 Ga W (i + 1), bk := tz Dn } σ2 H2)
    (hW : ∀ i σ' G' H' G2 H2, Nx G' H' G2 H2 → W i σ' G' H' → W i σ' G2 H2)
    (hd : ∀ σ' G' H', Nx H0 H1 G' H' → Ex G G' → W ds.length σ' G' H' → tz Dn σ' H') : tSeq (tFor (iEnT K (tCons tl tNil)) g tu) tz Dn σ H :=
  l_forE (Dn := { Dn with nx := tz Dn }) n h W h0 hs hW hd
theorem k_while (n : Nx H0 H1 G H) (W : Nat → L2.St → Hp → Hp → Prop) (m0 : Nat) (h0 : W m0 σ G H)
    (hs : ∀ m σ' G' H', Nx H0 H1 G' H' → Ex G G' → W m σ' G' H' → ∃ b, EvT t σ' H' b ∧
      (b = true → ∀ H2, Ex H' H2 → tu { Dn with nx := fun σ3 H3 => ∃ m', m' < m ∧ Pw H0 H1 G W m' σ3 H3, ct := fun σ3 H3 => ∃ m', m' < m ∧ Pw H0 H1 G W m' σ3 H3, bk := tz Dn } σ' H2) ∧ (b = false → ∀ H2, Ex H' H2 → tz Dn σ' H2)) : tSeq (tWhile t tu) tz Dn σ H :=
  l_while (Dn := { Dn with nx := tz Dn }) n W m0 h0 hs
theorem k_aug {i : Nat} {f : Int → Int → Int} {a b : Int} (n : Nx H0 H1 G H) (hx : σ[i]? = some (some (.int a))) (h : Ev te σ H (.int b)) (k : ∀ H', Nx H0 H1 G H' → Ex H H' → tz Dn (σ.set i (some (.int (f a b)))) H') : tSeq (tAug i te (ipI f)) tz Dn σ H :=
  s_aug (D := { Dn with nx := tz Dn }) hx h fun H' e => k H' (n.grow e) e
theorem l_aug {i : Nat} {f : Int → Int → Int} {a b : Int} (n : Nx H0 H1 G H) (hx : σ[i]? = some (some (.int a))) (h : Ev te σ H (.int b)) (k : ∀ H', Nx H0 H1 G H' → Ex H H' → Dn.nx (σ.set i (some (.int (f a b)))) H') : tAug i te (ipI f) Dn σ H :=
  s_aug hx h fun H' e => k H' (n.grow e) e
end
end Dl
namespace Lw
open PySem PySem.Spec PyProof.Rows L2 Evl Dl Hd He Hr Xr
theorem mn_ne {l : List Nat} (h : l ≠ []) : ∃ w, mn l = some w := by
  cases e : mn l with
  | none => exact absurd (mn_none e) h
  | some w => exact ⟨w, rfl⟩
section
variable {K : PySem.W.Frag} {σ : L2.St} {H : Hp} {ta : TE}
theorem ev_minL {ns : List Nat} {w : Nat} (h : EvD ta σ H (lN ns)) (hw : mn ns = some w) : Ev (tCB (rMin K) (tCons ta tNil)) σ H (.int (w : Int)) := ev_cb1 h fun G H2 v Q e e2 hv q => by
  obtain ⟨a, xs, rfl, h1, h2⟩ := hv.lstE
  rw [map_eN] at h2
  have := h2.intsE
  subst this
  obtain ⟨m1, m2⟩ := mn_some hw
  refine ⟨a, _, rfl, sq_of (e2 _ _ h1), ?_, fun m hm hle => ?_⟩
  · rw [List.length_map]; exact List.length_pos_of_mem m1
  · obtain ⟨k, hk, rfl⟩ := List.mem_map.mp hm
    have a1 := hle (w : Int) (List.mem_map_of_mem m1)
    have a2 := m2 k hk
    rw [show (k : Int) = (w : Int) by omega]; exact q
end
/-! shapes -/
structure Sh (d : D) (k : Nat) : Prop where
  c : d.canLay0 = true
  d : d.depth ≤ k
theorem Sh.up {d : D} {k m : Nat} (h : Sh d k) (e : k ≤ m) : Sh d m := ⟨h.c, Nat.le_trans h.d e⟩
theorem sh_int (i : Int) : Sh (.int i) 0 := ⟨by simp only [PyData.canLay0], by simp only [PyData.depth]; exact Nat.le_refl _⟩
theorem sh_non : Sh .none 0 := ⟨by simp only [PyData.canLay0], by simp only [PyData.depth]; exact Nat.le_refl _⟩
theorem sh_eO : ∀ o : Option Nat, Sh (eO o) 0
  | none => sh_non
  | some n => sh_int _
theorem sh_all {k : Nat} : ∀ {ds : List D}, (∀ d ∈ ds, Sh d k) → PyData.canLayAll0 ds = true ∧ PyData.depthAll ds ≤ k
  | [], _ => ⟨by simp only [PyData.canLayAll0], by simp only [PyData.depthAll]; exact Nat.zero_le _⟩
  | d :: ds, h => by
    have h1 := h d List.mem_cons_self
    have h2 := sh_all fun x hx => h x (List.mem_cons_of_mem _ hx)
    exact ⟨by simp only [PyData.canLayAll0, h1.c, h2.1, Bool.and_self], by simp only [PyData.depthAll]; exact Nat.max_le.mpr ⟨h1.d, h2.2⟩⟩
theorem sh_lst {k : Nat} {ds : List D} (h : ∀ d ∈ ds, Sh d k) : Sh (.list ds) (k + 1) := ⟨by simp only [PyData.canLay0]; exact (sh_all h).1, by simp only [PyData.depth]; exact Nat.succ_le_succ (sh_all h).2⟩
theorem sh_tup {k : Nat} {ds : List D} (h : ∀ d ∈ ds, Sh d k) : Sh (.tuple ds) (k + 1) := ⟨by simp only [PyData.canLay0]; exact (sh_all h).1, by simp only [PyData.depth]; exact Nat.succ_le_succ (sh_all h).2⟩
theorem sh_lmap {α : Type} {k : Nat} {l : List α} {f : α → D} (h : ∀ z ∈ l, Sh (f z) k) : Sh (.list (l.map f)) (k + 1) := sh_lst fun d hd => by
  obtain ⟨z, hz, rfl⟩ := List.mem_map.mp hd; exact h z hz
theorem sh_tmap {α : Type} {k : Nat} {l : List α} {f : α → D} (h : ∀ z ∈ l, Sh (f z) k) : Sh (.tuple (l.map f)) (k + 1) := sh_tup fun d hd => by
  obtain ⟨z, hz, rfl⟩ := List.mem_map.mp hd; exact h z hz
theorem Sh.ok {d : D} {k : Nat} (h : Sh d k) (e : k ≤ 64) : SeqAt.shaped d = true := by
  unfold SeqAt.shaped
  rw [h.c, decide_eq_true (Nat.le_trans h.d e)]; rfl
theorem Sh.eq {d : D} {k : Nat} (h : Sh d k) : PyData.eqv d d = true := SeqAt.eqv_refl d h.c
theorem sh_pr (p : Nat × Nat) : Sh (ePr p) 1 := sh_tup fun d hd => by
  rcases List.mem_cons.mp hd with e | e
  · subst e; exact sh_int _
  · rw [List.mem_singleton.mp e]; exact sh_int _
theorem eqv_pr (p q : Nat × Nat) : PyData.eqv (ePr q) (ePr p) = decide (q = p) := by
  simp only [ePr, PyData.eqv, PyData.eqvAll, Bool.and_true]
  by_cases h : q = p
  · subst h; simp
  · rw [decide_eq_false h, Bool.and_eq_false_iff]
    by_cases h1 : q.1 = p.1
    · right
      have : q.2 ≠ p.2 := fun z => h (Prod.ext h1 z)
      rw [beq_eq_false_iff_ne]; omega
    · left
      rw [beq_eq_false_iff_ne]; omega
theorem any_lanes {l : List (Nat × Nat)} {p : Nat × Nat} : (l.map ePr).any (fun z => PyData.eqv z (ePr p)) = decide (p ∈ l) := by
  rw [List.any_map]
  induction l with
  | nil => simp
  | cons q r ih =>
    rw [List.any_cons, ih]
    show (PyData.eqv (ePr q) (ePr p) || decide (p ∈ r)) = _
    rw [eqv_pr]
    by_cases h : q = p
    · subst h; simp
    · have h2 : ¬ p = q := fun z => h z.symm
      simp [h, h2]
end Lw
/-! rules whose reading names the fragment itself -/
namespace Lw
open PySem PySem.Spec PyProof.Rows L2 Evl Dl Hd He Hr Xr
section
variable {X : Cx} {K : PySem.W.Frag} {e : Expr} {f : Str} {ta : TE} {pos : Pos}
theorem pe_fldK (he : PE X e ta) (hb : attributeBase e f X.env (eval e X.env) = eval e X.env) (hK : X.K = K) : PE X (.Attribute e f pos) (tFld K ta f) := hK ▸ pe_fld he hb
theorem pg_tupK {es : List Expr} {k : Nat} {t : TGs} {n : Nat} (hc : X.calm = true) (h : PGs X es t) (hK : X.K = K) (hn : (assignEach es X.env).length = n := by rfl) (hst : (assignEach es X.env).findIdx? (·.1) = none := by rfl) : PG X (.Tuple es k pos) (gTup K n t) := hK ▸ pg_tup hc h hn hst
theorem pi_tupK {tg l : Expr} {tl : TE} (hl : PE X l tl) (hK : X.K = K) : PI X tg l (iTup K tl) := hK ▸ pi_tup hl
end
end Lw
namespace Lw
open PySem PySem.Spec PyProof.Rows L2 Evl Dl Hd He Hr Xr
section
variable {P : Program} {w : World} {K : PySem.W.Frag} {mg : Str → Option Value} {base : Heap} {f : Addr} {fd : FuncData}
/-! _law_build -/
abbrev N_law_build : List Str := ["_law_street", "_law_lane"]
theorem sc_law_build : FnScope N_law_build ["_law_street"] (defScope s_law_build) := ⟨rfl, rfl, rfl, by decide +kernel, rfl, by decide +kernel, by decide +kernel⟩
abbrev spBuild (K : PySem.W.Frag) : Sp := sp1 (fun t : Town => Da (eTown t)) Town.Ok (fun t => StAt (cS K) t)
theorem ok_build (F : Fun K "_law_build" "_law_build" s_law_build f fd) (T : Tx K mg) (Ci : Cam P w K mg base 4 (ma K (cS K) "__init__") ["self", "pegs", "lanes"] (spInit K)) : FnOk P w K mg base CX0 6 f fd ["_law_street"] (spBuild K) := by
  refine F.ok sc_law_build (fun vs H Q E h => ?_) (fun cdv A outer s H1 vs Q E hr h => ?_)
  · obtain ⟨_, _, _, rfl, _⟩ := h; rfl
  · obtain ⟨t, G, v, rfl, e, o, hv, q⟩ := h
    refine ⟨_, (pss_one (ps_ret (pe_make T.mkS Ci.ok (hr.mono (by decide)) (by rfl) T.gS Ci.b .nil pass0 (pa_cons (pe_callTy (r := rLstQ K) call_list_of (by rfl) T.list bt_list (pa_cons (pe_ix (r := rIxL K) ix_list (pv 0) pe_int (fun _ _ => rfl)) pa_nil)) (pa_cons (pe_lc (own := [("_law_lane", 1)]) rfl sc_law_build.nd (pi_list (pe_ix (r := rIxL K) ix_list (pv 0) pe_int (fun _ _ => rfl))) (blkOk_by (N := N_law_build) (sc := defScope s_law_build) (by decide +kernel)) (fun _ _ _ _ _ => (pg_name (i := 1) sc_law_build.nd rfl (by first | exact Or.inl rfl | exact Or.inr rfl))) (fun _ _ _ _ _ => pts_nil) (fun _ _ _ _ _ => (pe_callTy (r := rLstQ K) call_list_of (by rfl) T.list bt_list (pa_cons (pv 1) pa_nil)))) pa_nil))))), ?_⟩
    refine k_ret (.refl e) q (er_make o (ed_lstL (ed_k0L (ed_var rfl hv))) ?_) rfl
    refine ed_mapL (c := ePr) ePrL (ed_k1L (ed_var rfl hv)) (by have := lanes_len o; omega) ?_
    intro p x G' eg hp hx
    exact turnF_name rfl et_yes fun _ => ed_lstT (ed_var rfl hx)
/-! _law_weight, _law_spur, _law_lightest -/
abbrev N_law_weight : List Str := ["_law_street", "_law_ring", "_law_house"]
theorem sc_law_weight : FnScope N_law_weight ["_law_street", "_law_ring"] (defScope s_law_weight) := ⟨rfl, rfl, rfl, by decide +kernel, rfl, by decide +kernel, by decide +kernel⟩
abbrev spWeight : Sp := sp2 (fun z : Town × List Nat => Da (eTown z.1)) (fun z => Da (tN z.2)) (fun z => z.2.length ≤ 7 ∧ ∀ x ∈ z.2, x < z.1.n) (fun z => Is (.int ((Wt z.1 z.2 : Nat) : Int)))
theorem sum_int (f : Nat → Nat) : ∀ l : List Nat, (l.map fun x => ((f x : Nat) : Int)).sum = (((l.map f).sum : Nat) : Int)
  | [] => rfl
  | x :: l => by rw [List.map_cons, List.sum_cons, List.map_cons, List.sum_cons, sum_int f l]; omega
theorem peg_at {t : Town} {h : Nat} (hh : h < t.n) : (t.pegs.map eN)[h]? = some (eN (t.peg h)) := by
  unfold Town.peg
  have : h < t.pegs.length := hh
  rw [List.getElem?_map, List.getD_eq_getElem?_getD, List.getElem?_eq_getElem this]; rfl
theorem ok_weight (F : Fun K "_law_weight" "_law_weight" s_law_weight f fd) (T : Tx K mg) : FnOk P w K mg base CX0 1 f fd ["_law_street", "_law_ring"] spWeight := by
  refine F.ok sc_law_weight (fun vs H Q E h => ?_) (fun cdv A outer s H1 vs Q E hr h => ?_)
  · obtain ⟨_, _, _, _, rfl, _⟩ := h; rfl
  · obtain ⟨⟨t, r⟩, G, v, u, rfl, e, ⟨hl, hr7⟩, hv, hu, q⟩ := h
    have hl : r.length ≤ 7 := hl
    refine ⟨_, (pss_one (ps_ret (pe_callB (r := rSum K) (cr_sum rfl) (by rfl) T.sum bt_sum (pa_cons (pe_lc (own := [("_law_house", 2)]) rfl sc_law_weight.nd (pi_tupK (K := K) (pv 1) rfl) (blkOk_by (N := N_law_weight) (sc := defScope s_law_weight) (by decide +kernel)) (fun _ _ _ _ _ => (pg_name (i := 2) sc_law_weight.nd rfl (by first | exact Or.inl rfl | exact Or.inr rfl))) (fun _ _ _ _ _ => pts_nil) (fun _ _ _ _ _ => (pe_ix (r := rIxL K) ix_list (pe_ix (r := rIxL K) ix_list (pv 0) pe_int (fun _ _ => rfl)) (pv 2) (fun _ _ => rfl)))) pa_nil)))), ?_⟩
    have h0 : EvD (tLc (iTup K (tVar 1)) (gName 2) tYes (tOp (rIxL K) (tOp (rIxL K) (tVar 0) (tC (.int 0))) (tVar 2)) [2]) (start N_law_weight [v, u]) G (.list ((r.map fun x => ((t.peg x : Nat) : Int)).map PyData.int)) := by
      rw [List.map_map]
      refine ed_mapT (c := eN) (fun x => .int ((t.peg x : Nat) : Int)) (ed_var rfl hu) (by show r.length ≤ _; omega) ?_
      intro x y G' eg hx hy
      cases hy.intE
      exact turnF_name rfl et_yes fun _ => ed_ixL (ed_k0L (ed_var rfl (hv.mono eg))) (ev_var rfl) (peg_at (hr7 x hx))
    refine k_ret (.refl e) q (EvR.of (ev_is (ev_sum h0) ?_)) rfl
    rw [sum_int]; rfl
abbrev N_law_spur : List Str := ["_law_street", "_law_ring", "_law_lane"]
theorem sc_law_spur : FnScope N_law_spur ["_law_street", "_law_ring"] (defScope s_law_spur) := ⟨rfl, rfl, rfl, by decide +kernel, rfl, by decide +kernel, by decide +kernel⟩
abbrev spSpur : Sp := sp2 (fun z : Town × List Nat => Da (eTown z.1)) (fun z => Da (tN z.2)) (fun _ => True) (fun z => fun G v => if hasSpur z.1 z.2 = true then ∃ p, Dq G v (ePr p) else v = .non)
theorem ok_spur (F : Fun K "_law_spur" "_law_spur" s_law_spur f fd) (T : Tx K mg) : FnOk P w K mg base CX0 1 f fd ["_law_street", "_law_ring"] spSpur := by
  refine F.ok sc_law_spur (fun vs H Q E h => ?_) (fun cdv A outer s H1 vs Q E hr h => ?_)
  · obtain ⟨_, _, _, _, rfl, _⟩ := h; rfl
  · obtain ⟨⟨t, r⟩, G, v, u, rfl, e, _, hv, hu, q⟩ := h
    refine ⟨_, (pss_cons (ps_for PassesOwn.never rfl (pi_list (pe_ix (r := rIxL K) ix_list (pv 0) pe_int (fun _ _ => rfl))) (pg_name (i := 2) sc_law_spur.nd rfl (by first | exact Or.inl rfl | exact Or.inr rfl))
      (pss_one (ps_if (PW.pt (pw_and (pt_cmpR (r := rIn K false) op_in_seq (pe_ix (r := rIxT K) ix_tup (pv 2) pe_int (fun _ _ => rfl)) (pv 1) (by rfl)) (pw_and1 (pt_cmpR (r := rIn K true) op_notIn_seq (pe_ix (r := rIxT K) ix_tup (pv 2) pe_int (fun _ _ => rfl)) (pv 1) (by rfl)))))
          (pss_one (ps_ret (pv 2)))
          pss_nil)))
    (pss_one (ps_ret pe_non))), ?_⟩
    refine k_forL (.refl e) (ed_k1L (ed_var rfl hv)) (fun i σ G' H' => (∃ y, σ = [some v, some u, y]) ∧ (t.lanes.take i).any (fun p => decide (p.1 ∈ r) && decide (p.2 ∉ r)) = false) (fun Ga H' _ => ⟨⟨_, rfl⟩, rfl⟩) ?_ ?_
    · intro Ga i d x σ' G' H' eg hd hx n e' hw
      obtain ⟨⟨y, rfl⟩, hw⟩ := hw
      rw [List.getElem?_map] at hd
      obtain ⟨p, hpi, rfl⟩ := Option.map_eq_some_iff.mp hd
      have hx2 := hx.mono (e'.trans n.e3)
      have hu2 := hu.mono ((eg.trans e').trans n.e3)
      have ht : (t.lanes.take (i + 1)).any (fun p => decide (p.1 ∈ r) && decide (p.2 ∉ r)) = (decide (p.1 ∈ r) && decide (p.2 ∉ r)) := by
        rw [List.take_add_one, hpi, List.any_append, hw]; simp
      refine l_when (b := decide (p.1 ∈ r) && decide (p.2 ∉ r)) n (et_is (et_and (a := decide (p.1 ∈ r)) (b := !decide (p.2 ∈ r)) (et_test (ev_inT (neg := false) (ed_k0T (ed_var rfl hx2)).int (ed_var rfl hu2))) fun _ => et_test (ev_inT (neg := true) (ed_k1T (ed_var rfl hx2)).int (ed_var rfl hu2))) (by simp)) (fun hb H2 n2 _ => ?_) (fun hb H2 n2 _ => ?_)
      · refine k_ret n2 q ((ed_var (v := x) rfl (hx.mono e')).imp fun G4 v4 _ h4 => ?_) rfl
        have hsp : hasSpur t r = true := by
          unfold hasSpur
          exact List.any_eq_true.mpr ⟨p, List.mem_of_getElem? hpi, hb⟩
        show if hasSpur t r = true then _ else _
        rw [if_pos hsp]; exact ⟨p, h4⟩
      · exact ⟨G', n2, e', ⟨_, rfl⟩, by rw [ht]; exact hb⟩
    · intro σ' G' H' n e' hw
      obtain ⟨⟨y, rfl⟩, hw⟩ := hw
      refine k_ret (R := fun G v => if hasSpur t r = true then ∃ p, Dq G v (ePr p) else v = .non) n q ((EvR.of ev_c).imp fun G4 v4 _ h4 => ?_) rfl
      have hsp : hasSpur t r = false := by
        rw [List.length_map, List.take_length] at hw; exact hw
      show if hasSpur t r = true then _ else _
      rw [if_neg (by rw [hsp]; decide)]; exact h4
abbrev N_law_lightest : List Str := ["_law_street", "_law_found", "_law_ring"]
theorem sc_law_lightest : FnScope N_law_lightest ["_law_street", "_law_found"] (defScope s_law_lightest) := ⟨rfl, rfl, rfl, by decide +kernel, rfl, by decide +kernel, by decide +kernel⟩
abbrev spLight : Sp := sp2 (fun z : Town × List (List Nat) => Da (eTown z.1)) (fun z => Da (.list (z.2.map tN))) (fun z => z.2.length ≤ 10000000 ∧ ∀ r ∈ z.2, r.length ≤ 7 ∧ ∀ x ∈ r, x < z.1.n) (fun z => Da (eO (mn (z.2.map (Wt z.1)))))
theorem ok_lightest (F : Fun K "_law_lightest" "_law_lightest" s_law_lightest f fd) (T : Tx K mg) (C_law_weight : Cal P w K mg base 1 "_law_weight" ["_law_street", "_law_ring"] spWeight) : FnOk P w K mg base CX0 2 f fd ["_law_street", "_law_found"] spLight := by
  refine F.ok sc_law_lightest (fun vs H Q E h => ?_) (fun cdv A outer s H1 vs Q E hr h => ?_)
  · obtain ⟨_, _, _, _, rfl, _⟩ := h; rfl
  · obtain ⟨⟨t, L⟩, G, v, u, rfl, e, ⟨hl, hL⟩, hv, hu, q⟩ := h
    refine ⟨_, (pss_cons (ps_if (pt_cmpR op_eq (pe_callB (r := rLenQ K) call_len_seq (by rfl) T.len bt_len (pa_cons (pv 1) pa_nil)) pe_int (nomark _))
      (pss_one (ps_ret pe_non))
      pss_nil)
    (pss_one (ps_ret (pe_callB (r := rMin K) (cr_min rfl) (by rfl) T.min bt_min (pa_cons (pe_lc (own := [("_law_ring", 2)]) rfl sc_law_lightest.nd (pi_list (pv 1)) (blkOk_by (N := N_law_lightest) (sc := defScope s_law_lightest) (by decide +kernel)) (fun _ _ _ _ _ => (pg_name (i := 2) sc_law_lightest.nd rfl (by first | exact Or.inl rfl | exact Or.inr rfl))) (fun _ _ _ _ _ => pts_nil) (fun _ _ _ _ _ => (pe_call C_law_weight.ok (hr.mono (by decide)) (by rfl) C_law_weight.g C_law_weight.kp C_law_weight.b .nil pass0 (pa_cons (pv 0) (pa_cons (pv 2) pa_nil))))) pa_nil))))), ?_⟩
    refine k_when (b := decide (L.length = 0)) (.refl e) (et_is (et_test (ev_op (ev_lenL (ed_var rfl (hu.mono e))) ev_c (rv_eq rfl))) ?_) (fun hb H2 n2 _ => ?_) (fun hb H2 n2 _ => ?_)
    · rw [List.length_map]; exact eq_nat L.length 0
    · have : L = [] := List.length_eq_zero_iff.mp (of_decide_eq_true hb)
      subst this
      exact k_ret n2 q (EvR.ofD ev_c .non) rfl
    · have hne : L ≠ [] := fun z => by subst z; exact of_decide_eq_false hb rfl
      obtain ⟨m, hm⟩ := mn_ne (l := L.map (Wt t)) (by simpa using hne)
      refine k_ret n2 q ?_ rfl
      show EvD _ _ _ (eO (mn (L.map (Wt t))))
      rw [hm]
      refine EvD.ofInt (ev_minL (ns := L.map (Wt t)) ?_ hm)
      show EvD _ _ _ (.list ((L.map (Wt t)).map eN))
      rw [List.map_map]
      refine ed_mapL (c := tN) (fun r => eN (Wt t r)) (ed_var rfl hu) hl ?_
      intro r x G' eg hr hx
      exact turnF_name rfl et_yes fun _ => (er_call2 (t, r) (ed_var rfl (hv.mono eg)) (ed_var rfl hx) mono_da mono_da (hL r hr)).imp fun G4 v4 _ h4 => by cases h4; exact .int _
end
end Lw
namespace Lw
open PySem PySem.Spec PyProof.Rows L2 Evl Dl Hd He Hr Xr Classical
theorem rv_isN {x : V} {H : Hp} : RV (fun x y H Q => y = .non ∧ Q (.bl (decide (x = .non))) H) x .non H (.bl (decide (x = .non))) := fun H1 _ Q q => ⟨rfl, q H1 (.refl _)⟩
theorem rv_notN {x : V} {H : Hp} : RV (fun x y H Q => y = .non ∧ Q (.bl (!decide (x = .non))) H) x .non H (.bl (!decide (x = .non))) := fun H1 _ Q q => ⟨rfl, q H1 (.refl _)⟩
theorem eq_natB (a b : Nat) : decide (V.int (a : Int) = V.int (b : Int)) = decide (a = b) := eq_nat a b
abbrev vN (n : Nat) : V := .int (n : Int)
theorem dqa_vN {G : Hp} (l : List Nat) : DqA G (l.map vN) (l.map eN) := .ofMap fun z _ => .int _
structure AI (t : Town) (h : Nat) (L : List Nat) (i : Nat) : Prop where
  nd : L.Nodup
  re : ∀ x ∈ L, x < t.n ∧ Reach t h x
  st : h ∈ L
  cl : ∀ j, j < i → ∀ x, L[j]? = some x → ∀ y ∈ t.out x, y ∈ L
theorem AI.add {t : Town} {h i y x : Nat} {L : List Nat} (o : t.Ok) (a : AI t h L i) (hi : i ≤ L.length) (hx : x ∈ L) (hy : y ∈ t.out x) (hn : y ∉ L) : AI t h (L ++ [y]) i := by
  refine ⟨List.nodup_append.mpr ⟨a.nd, by simp, fun u hu v hv => ?_⟩, fun z hz => ?_, List.mem_append_left _ a.st, fun j hj z hz u hu => ?_⟩
  · rw [List.mem_singleton.mp hv]; intro e; subst e; exact hn hu
  · rcases List.mem_append.mp hz with e | e
    · exact a.re z e
    · rw [List.mem_singleton.mp e]; exact ⟨o.out_lt hy, (a.re x hx).2.step (mem_out.mp hy)⟩
  · rw [List.getElem?_append_left (by omega)] at hz
    exact List.mem_append_left _ (a.cl j hj z hz u hu)
section
variable {P : Program} {w : World} {K : PySem.W.Frag} {mg : Str → Option Value} {base : Heap} {f : Addr} {fd : FuncData}
abbrev N_houses_ahead : List Str := ["street", "house", "found", "index", "here", "other"]
theorem sc_houses_ahead : FnScope N_houses_ahead ["street", "house"] (defScope s_houses_ahead) := ⟨rfl, rfl, rfl, by decide +kernel, rfl, by decide +kernel, by decide +kernel⟩
abbrev spAhead (K : PySem.W.Frag) : Sp := sp2 (fun z : Town × Nat => StAt (cS K) z.1) (fun z => Is (.int (z.2 : Int))) (fun z => z.1.Ok ∧ z.2 < z.1.n) (fun z => fun G v => ∃ L : List Nat, Dq G v (lN L) ∧ ∀ x, x ∈ L ↔ Reach z.1 z.2 x)
theorem ok_ahead (F : Fun K "houses_ahead" "houses_ahead" s_houses_ahead f fd) (T : Tx K mg) : FnOk P w K mg base CX0 1 f fd ["street", "house"] (spAhead K) := by
  refine F.ok sc_houses_ahead (fun vs H Q E h => ?_) (fun cdv A outer s H1 vs Q E hr h => ?_)
  · obtain ⟨_, _, _, _, rfl, _⟩ := h; rfl
  · obtain ⟨⟨t, h⟩, G, v, u, rfl, e, ⟨o, hh⟩, hv, hu, q⟩ := h
    cases hu
    have o : t.Ok := o
    have hh : h < t.n := hh
    refine ⟨_, (pss_cons (ps_set (i := 2) sc_houses_ahead.nd rfl (by first | exact Or.inl rfl | exact Or.inr rfl) (pe_lst (pa_cons (pv 1) pa_nil)))
    (pss_cons (ps_set (i := 3) sc_houses_ahead.nd rfl (by first | exact Or.inl rfl | exact Or.inr rfl) pe_int)
    (pss_cons (ps_while PassesOwn.never (pt_cmpR op_lt (pv 3) (pe_callB (r := rLenQ K) call_len_seq (by rfl) T.len bt_len (pa_cons (pv 2) pa_nil)) (nomark _))
      (pss_cons (ps_set (i := 4) sc_houses_ahead.nd rfl (by first | exact Or.inl rfl | exact Or.inr rfl) (pe_ix (r := rIxL K) ix_list (pv 2) (pv 3) (fun _ _ => rfl)))
        (pss_cons (ps_for PassesOwn.never rfl (pi_tupK (K := K) (pe_ix (r := rIxT K) ix_tup (pe_fldK (K := K) (pv 0) rfl rfl) (pv 4) (fun _ _ => rfl)) rfl) (pg_name (i := 5) sc_houses_ahead.nd rfl (by first | exact Or.inl rfl | exact Or.inr rfl))
          (pss_one (ps_if (pt_cmpR (r := rIn K true) op_notIn_seq (pv 5) (pv 2) (by rfl))
              (pss_one (ps_expr (pe_bm PySem.F.plainAttrs_list PySem.F.slot_list_append PySem.F.type_list_append mt_append (pv 2) (pa_cons (pv 5) pa_nil))))
              pss_nil)))
        (pss_one (ps_aug (i := 3) sc_houses_ahead.nd rfl (by first | exact Or.inl rfl | exact Or.inr rfl) pe_int ip_add)))))
    (pss_one (ps_ret (pv 2)))))), ?_⟩
    refine k_asgM (.refl e) (el_lst (ea_one (ev_var rfl)) (Nat.le_of_ble_eq_true rfl)) fun p Ha na ea gp h1p _ hp => ?_
    refine k_asgV na ev_c fun Hb nb eb => ?_
    refine k_while nb (fun m σ G' H' => ∃ (L : List Nat) (i : Nat) (y1 y2 : Option V), σ = [some v, some (.int (h : Int)), some (.ref p), some (.int (i : Int)), y1, y2] ∧ m = t.n - i ∧ i ≤ L.length ∧ G' p = none ∧ H' p = some (.lst (L.map vN)) ∧ AI t h L i) t.n
      ⟨[h], 0, none, none, rfl, rfl, Nat.zero_le _, gp, eb _ _ hp, by simp, fun x hx => by rw [List.mem_singleton.mp hx]; exact ⟨hh, .refl⟩, List.mem_cons_self, fun j hj => absurd hj (Nat.not_lt_zero _)⟩ ?_
    intro m σ' G' H' n' e' hw
    obtain ⟨L, i, y1, y2, rfl, rfl, hi, gp', hp', a⟩ := hw
    have hq : Dq H' (.ref p) (lN L) := .mkL hp' (dqa_vN L)
    have hle := nodup_len t.n L a.nd fun x hx => (a.re x hx).1
    refine ⟨decide (i < L.length), et_is (et_test (ev_op (ev_var rfl) (ev_lenL (ed_var rfl hq)) rv_I0)) ?_, fun hb H2 e2 => ?_, fun hb H2 e2 => ?_⟩
    · rw [List.length_map]; exact decide_eq_decide.mpr (by omega)
    · have hlt := of_decide_eq_true hb
      have hx : L[i]? = some L[i] := List.getElem?_eq_getElem hlt
      have hxm : L[i] ∈ L := List.getElem_mem hlt
      have n2 := n'.grow e2
      refine k_asgV n2 (EvD.int (ed_ixL (i := i) (d := eN L[i]) (ed_var rfl (hq.mono e2)) (ev_var rfl) (by rw [List.getElem?_map, hx]; rfl))) fun H3 n3 e3 => ?_
      have hp3 : H3 p = some (.lst (L.map vN)) := e3 _ _ (e2 _ _ hp')
      have hvG : StAt (cS K) t G' v := mono_st _ _ _ e' hv
      refine k_forT n3 (ed_ixT (d := tN (t.out L[i])) (ed_tol T (er_st rfl hvG)) (ev_var rfl) (by rw [List.getElem?_map, List.getElem?_range (a.re _ hxm).1]; rfl))
        (fun j σ G' H' => ∃ (L' : List Nat) (y : Option V), σ = [some v, some (.int (h : Int)), some (.ref p), some (.int (i : Int)), some (.int (L[i] : Int)), y] ∧ (∃ M, L' = L ++ M) ∧ G' p = none ∧ H' p = some (.lst (L'.map vN)) ∧ AI t h L' i ∧ ∀ z ∈ (t.out L[i]).take j, z ∈ L')
        (fun Ga H4 m4 => ⟨L, y2, rfl, ⟨[], by simp⟩, m4.fr p gp' (by rw [hp3]; simp), m4.e1 _ _ hp3, a, by simp⟩) ?_ ?_
      · intro Ga j d x σ'' G5 H5 eg hd hx5 n5 e5 hw
        obtain ⟨L', y, rfl, ⟨M, rfl⟩, gp5, hp5, a5, htk⟩ := hw
        rw [List.getElem?_map] at hd
        obtain ⟨z, hz, rfl⟩ := Option.map_eq_some_iff.mp hd
        cases hx5.intE
        have hq5 : Dq H5 (.ref p) (lN (L ++ M)) := .mkL hp5 (dqa_vN _)
        have hzo : z ∈ t.out L[i] := List.mem_of_getElem? hz
        have tk : (t.out L[i]).take (j + 1) = (t.out L[i]).take j ++ [z] := by rw [List.take_add_one, hz]; rfl
        have hle5 := nodup_len t.n _ a5.nd fun x hx => (a5.re x hx).1
        refine l_when (b := !decide (z ∈ L ++ M)) n5 (et_test (ev_inL (neg := true) (ev_var rfl) (ed_var rfl hq5))) (fun hb H6 n6 e6 => ?_) (fun hb H6 n6 e6 => ?_)
        · have hn : z ∉ L ++ M := of_decide_eq_false (by simpa using hb)
          refine l_app n6 h1p gp5 (e6 _ _ hp5) (ev_var rfl) (EvR.of (ev_var rfl)) (by rw [List.length_map]; have := o.n7; exact Nat.lt_of_le_of_lt hle5 (Nat.lt_of_le_of_lt this (by decide))) fun v7 G7 H7 n7 e7 fr7 _ hp7 hv7 => ?_
          cases hv7
          refine ⟨G7, n7, e5.trans e7, (L ++ M) ++ [z], _, rfl, ⟨M ++ [z], by simp⟩, fr7 p gp5 (by rw [e6 _ _ hp5]; simp), by rw [hp7, List.map_append (l₁ := L ++ M) (l₂ := [z])]; rfl, a5.add o (by simp; omega) (List.mem_append_left _ hxm) hzo hn, fun u hu => ?_⟩
          rw [tk] at hu
          rcases List.mem_append.mp hu with c | c
          · exact List.mem_append_left _ (htk u c)
          · exact List.mem_append_right _ c
        · refine ⟨G5, n6, e5, L ++ M, _, rfl, ⟨M, rfl⟩, gp5, e6 _ _ hp5, a5, fun u hu => ?_⟩
          rw [tk] at hu
          rcases List.mem_append.mp hu with c | c
          · exact htk u c
          · rw [List.mem_singleton.mp c]
            exact Classical.byContradiction fun hn => by rw [decide_eq_false hn] at hb; cases hb
      · intro σ'' G5 H5 n5 e5 hw
        obtain ⟨L', y, rfl, ⟨M, rfl⟩, gp5, hp5, a5, htk⟩ := hw
        refine l_aug n5 rfl ev_c fun H6 n6 e6 => ⟨t.n - (i + 1), by omega, G5, n6, e'.trans e5, L ++ M, i + 1, _, _, rfl, rfl, by simp; omega, gp5, e6 _ _ hp5, a5.nd, a5.re, a5.st, fun j hj x hx y hy => ?_⟩
        by_cases hji : j = i
        · rw [hji, List.getElem?_append_left hlt, List.getElem?_eq_getElem hlt] at hx
          cases hx
          refine htk y ?_
          rw [List.length_map, List.take_of_length_le (Nat.le_refl _)]; exact hy
        · exact a5.cl j (by omega) x hx y hy
    · have hge : ¬ i < L.length := of_decide_eq_false hb
      have n2 := n'.grow e2
      obtain ⟨n3, e3⟩ := n2.keep h1p (e2 _ _ hp') gp'
      refine k_ret n3 q ((ed_var (v := .ref p) (d := lN L) rfl (.mkL upd_same (dqa_vN L))).imp fun G9 v9 e9 h9 => ⟨L, h9, fun x => ⟨fun hx => (a.re x hx).2, fun hx => hx.keeps (S := fun z => z ∈ L) a.st fun x y hx l => ?_⟩⟩) rfl
      obtain ⟨j, hj, ej⟩ := List.mem_iff_getElem.mp hx
      exact a.cl j (by omega) x (by rw [List.getElem?_eq_getElem hj, ej]) y (mem_out.mpr l)
abbrev N_strong_parts : List Str := ["street", "ahead", "parts", "house", "part", "other"]
theorem sc_strong_parts : FnScope N_strong_parts ["street"] (defScope s_strong_parts) := ⟨rfl, rfl, rfl, by decide +kernel, rfl, by decide +kernel, by decide +kernel⟩
abbrev spParts (K : PySem.W.Frag) : Sp := sp1 (fun t : Town => StAt (cS K) t) Town.Ok (fun t => Da (.tuple ((parts t).map tN)))
theorem ok_parts (F : Fun K "strong_parts" "strong_parts" s_strong_parts f fd) (T : Tx K mg) (C_houses_ahead : Cal P w K mg base 1 "houses_ahead" ["street", "house"] (spAhead K)) (Ch : Cam P w K mg base 1 (gAd K) ["self"] (spHouses K)) : FnOk P w K mg base CX0 3 f fd ["street"] (spParts K) := by
  refine F.ok sc_strong_parts (fun vs H Q E h => ?_) (fun cdv A outer s H1 vs Q E hr h => ?_)
  · obtain ⟨_, _, _, rfl, _⟩ := h; rfl
  · obtain ⟨t, G, v, rfl, e, o, hv, q⟩ := h
    have o7 := o.n7
    refine ⟨_, (pss_cons (ps_set (i := 1) sc_strong_parts.nd rfl (by first | exact Or.inl rfl | exact Or.inr rfl) (pe_lc (own := [("house", 3)]) rfl sc_strong_parts.nd (pi_range1 (by rfl) T.range (pa_cons (pe_prop (pv 0) T.cl T.pr Ch.ok (hr.mono (by decide)) Ch.b .nil pass0 (by rfl)) pa_nil)) (blkOk_by (N := N_strong_parts) (sc := defScope s_strong_parts) (by decide +kernel)) (fun _ _ _ _ _ => (pg_name (i := 3) sc_strong_parts.nd rfl (by first | exact Or.inl rfl | exact Or.inr rfl))) (fun _ _ _ _ _ => pts_nil) (fun _ _ _ _ _ => (pe_call C_houses_ahead.ok (hr.mono (by decide)) (by rfl) C_houses_ahead.g C_houses_ahead.kp C_houses_ahead.b .nil pass0 (pa_cons (pv 0) (pa_cons (pv 3) pa_nil))))))
    (pss_cons (ps_set (i := 2) sc_strong_parts.nd rfl (by first | exact Or.inl rfl | exact Or.inr rfl) (pe_lst pa_nil))
    (pss_cons (ps_for PassesOwn.never rfl (pi_range1 (by rfl) T.range (pa_cons (pe_prop (pv 0) T.cl T.pr Ch.ok (hr.mono (by decide)) Ch.b .nil pass0 (by rfl)) pa_nil)) (pg_name (i := 3) sc_strong_parts.nd rfl (by first | exact Or.inl rfl | exact Or.inr rfl))
      (pss_cons (ps_setLc (i := 4) (own := [("other", 5)]) rfl sc_strong_parts.nd rfl rfl (sw_true rfl rfl rfl (by decide +kernel)) (pi_range1 (by rfl) T.range (pa_cons (pe_prop (pv 0) T.cl T.pr Ch.ok (hr.mono (by decide)) Ch.b .nil pass0 (by rfl)) pa_nil)) (blkOk_by (N := N_strong_parts) (sc := defScope s_strong_parts) (by decide +kernel)) (fun _ _ _ _ _ => (pg_name (i := 5) sc_strong_parts.nd rfl (by first | exact Or.inl rfl | exact Or.inr rfl))) (fun _ _ _ _ _ => pts_one (PW.pt (pw_and (pt_cmpR (r := rIn K false) op_in_seq (pv 5) (pe_ix (r := rIxL K) ix_list (pv 1) (pv 3) (fun _ _ => rfl)) (by rfl)) (pw_and1 (pt_cmpR (r := rIn K false) op_in_seq (pv 3) (pe_ix (r := rIxL K) ix_list (pv 1) (pv 5) (fun _ _ => rfl)) (by rfl)))))) (fun _ _ _ _ _ => (pv 5)))
        (pss_one (ps_if (pt_cmpR op_eq (pe_ix (r := rIxL K) ix_list (pv 4) pe_int (fun _ _ => rfl)) (pv 3) (nomark _))
          (pss_one (ps_expr (pe_bm PySem.F.plainAttrs_list PySem.F.slot_list_append PySem.F.type_list_append mt_append (pv 2) (pa_cons (pe_callTy (r := rTupQ K) call_tuple_of (by rfl) T.tuple bt_tuple (pa_cons (pv 4) pa_nil)) pa_nil))))
          pss_nil))))
    (pss_one (ps_ret (pe_callTy (r := rTupQ K) call_tuple_of (by rfl) T.tuple bt_tuple (pa_cons (pv 2) pa_nil))))))), ?_⟩
    refine k_asg (R := fun G v => ∃ Ls : List (List Nat), Dq G v (.list (Ls.map lN)) ∧ Ls.length = t.n ∧ ∀ (j : Nat) (L : List Nat), Ls[j]? = some L → ∀ x, x ∈ L ↔ Reach t j x) (.refl e) ((er_lcR (m := t.n) (Pl := fun i es => ∃ Ls : List (List Nat), es = Ls.map lN ∧ Ls.length = i ∧ ∀ (j : Nat) (L : List Nat), Ls[j]? = some L → ∀ x, x ∈ L ↔ Reach t j x) (ea_one (ev_houses (er_st rfl hv))) (by omega) ⟨[], rfl, rfl, by simp⟩ ?_).imp fun G' v' _ ⟨es, ⟨Ls, e1, e2, e3⟩, h2⟩ => ⟨Ls, by rw [← e1]; exact h2, e2, e3⟩) fun v1 G1 Ha na ma hAh => ?_
    · intro i hi
      refine turnD_name (f := true) rfl et_yes (fun _ => ?_) (fun z => nomatch z)
      refine (er_call2 (t, i) (er_st rfl hv) (er_var rfl) mono_st mono_is ⟨o, hi⟩).imp fun G' v' _ ⟨L, h1, h2⟩ => ⟨lN L, fun es ⟨Ls, e1, e2, e3⟩ => ⟨Ls ++ [L], by rw [e1, List.map_append]; rfl, by simp [e2], fun j L' hj => ?_⟩, h1⟩
      by_cases hji : j < Ls.length
      · rw [List.getElem?_append_left hji] at hj; exact e3 j L' hj
      · rw [List.getElem?_append_right (by omega)] at hj
        have : j = i := by
          have := (List.getElem?_eq_some_iff.mp hj).1
          simp at this; omega
        subst this
        rw [show j - Ls.length = 0 by omega] at hj
        cases hj; exact h2
    obtain ⟨Ls, hd1, hlen, hLs⟩ := hAh
    have hvG : StAt (cS K) t G1 v := mono_st _ _ _ ma.e2 hv
    refine k_asgM na (el_lst ea_nil (by decide)) fun p Hb nb eb gp h1p _ hp => ?_
    refine k_forR nb (ea_one (Ev.mono nb.e3 (ev_houses (er_st rfl hvG)))) (by omega) (fun i σ G' H' => ∃ (y3 y4 y5 : Option V) (xs : List V), σ = [some v, some v1, some (.ref p), y3, y4, y5] ∧ G' p = none ∧ H' p = some (.lst xs) ∧ DqA G' xs ((((List.range i).filter fun h => decide ((scc t h).head? = some h)).map (scc t)).map tN))
      (fun H' n' e' => ⟨_, _, _, [], rfl, gp, e' _ _ hp, .nil⟩) ?_ ?_
    · intro i σ' G' H' hi n' e' hw
      obtain ⟨y3, y4, y5, xs, rfl, gp', hp', hq⟩ := hw
      have hv2 : StAt (cS K) t G' v := mono_st _ _ _ e' hvG
      have hd2 := hd1.mono e'
      have gi : Ls[i]? = some Ls[i] := List.getElem?_eq_getElem (by omega)
      refine k_asg (R := Da (lN (scc t i))) n' ?_ fun v4 G4 H4 n4 m4 hs4 => ?_
      · refine ed_lcR (m := t.n) (fun o => decide (Reach t i o ∧ Reach t o i)) eN (ea_one (ev_houses (er_st rfl hv2))) (by omega) ?_
        intro j hj
        have gj : Ls[j]? = some Ls[j] := List.getElem?_eq_getElem (by omega)
        refine turnF_name rfl ?_ fun _ => .ofInt (ev_var rfl)
        refine et_is (et_and (a := decide (j ∈ Ls[i])) (b := decide (i ∈ Ls[j])) (et_test (ev_inL (neg := false) (ev_var rfl) (ed_ixL (i := i) (ed_var rfl hd2) (ev_var rfl) (by rw [List.getElem?_map, gi]; rfl)))) fun _ => et_test (ev_inL (neg := false) (ev_var rfl) (ed_ixL (i := j) (ed_var rfl hd2) (ev_var rfl) (by rw [List.getElem?_map, gj]; rfl)))) ?_
        rw [← Bool.decide_and]
        exact decide_eq_decide.mpr ⟨fun ⟨a, b⟩ => ⟨(hLs i _ gi j).mp a, (hLs j _ gj i).mp b⟩, fun ⟨a, b⟩ => ⟨(hLs i _ gi j).mpr a, (hLs j _ gj i).mpr b⟩⟩
      · have him : i ∈ scc t i := mem_scc.mpr ⟨hi, .refl, .refl⟩
        have gp4 : G4 p = none := m4.fr p gp' (by rw [hp']; simp)
        have hp4 : H4 p = some (.lst xs) := m4.e1 _ _ hp'
        have rs : (((List.range (i + 1)).filter fun h => decide ((scc t h).head? = some h)).map (scc t)) = (((List.range i).filter fun h => decide ((scc t h).head? = some h)).map (scc t)) ++ (if (scc t i).head? = some i then [scc t i] else []) := by
          rw [List.range_succ, List.filter_append, List.map_append]
          congr 1
          by_cases hc : (scc t i).head? = some i
          · rw [if_pos hc, List.filter_cons_of_pos (by simpa using hc)]; rfl
          · rw [if_neg hc, List.filter_cons_of_neg (by simpa using hc)]; rfl
        cases hsc : scc t i with
        | nil => rw [hsc] at him; cases him
        | cons y r =>
          have hs4' : Dq G4 v4 (.list (eN y :: r.map eN)) := by rw [hsc] at hs4; exact hs4
          have hlx : xs.length < sizeLine := by
            have h1 := hq.len
            rw [List.length_map, List.length_map] at h1
            have h2 := List.length_filter_le (fun h => decide ((scc t h).head? = some h)) (List.range i)
            rw [List.length_range] at h2
            exact Nat.lt_of_le_of_lt (show xs.length ≤ 7 by omega) (by decide)
          refine l_when (b := decide (y = i)) n4 (et_is (et_test (ev_op (EvD.int (ed_k0L (ed_var rfl (hs4'.mono n4.e3)))) (ev_var rfl) (rv_eq rfl))) (eq_natB y i)) (fun hb H5 n5 e5 => ?_) (fun hb H5 n5 e5 => ?_)
          · have hyi := of_decide_eq_true hb
            refine l_app (R := Da (tN (scc t i))) n5 h1p gp4 (e5 _ _ hp4) (ev_var rfl) (ed_tupL (ed_var rfl hs4)) hlx fun v7 G7 H7 n7 e7 fr7 _ hp7 hv7 => ?_
            refine ⟨G7, n7, e'.trans (m4.e2.trans e7), _, _, _, xs ++ [v7], rfl, fr7 p gp4 (by rw [e5 _ _ hp4]; simp), hp7, ?_⟩
            rw [rs, if_pos (by rw [hsc, hyi]; rfl), List.map_append]
            exact (hq.mono (m4.e2.trans e7)).snoc hv7
          · have hyi := of_decide_eq_false hb
            refine ⟨G4, n5, e'.trans m4.e2, _, _, _, xs, rfl, gp4, e5 _ _ hp4, ?_⟩
            rw [rs, if_neg (by rw [hsc]; intro z; exact hyi (Option.some.inj z)), List.append_nil]
            exact hq.mono m4.e2
    · intro σ' G' H' n' e' hw
      obtain ⟨y3, y4, y5, xs, rfl, gp', hp', hq⟩ := hw
      obtain ⟨n3, e3⟩ := n'.keep h1p hp' gp'
      exact k_ret n3 q (ed_tupL (ed_var (v := .ref p) rfl (.mkL upd_same (hq.mono e3)))) rfl
end
end Lw
/-! a comprehension of two clauses, over a tuple of tuples -/
namespace Dl
open PySem PySem.Spec PyProof.Rows L2 Evl
def C2 (H Hs : Hp) (Dl : Addr) (ds : List D) (H' : Hp) : Prop := ∃ G acc, Nx H Hs G H' ∧ G Dl = none ∧ Hs Dl = none ∧ H' Dl = some (.lst acc) ∧ DqA G acc ds
theorem take_flat {α : Type} {ps : List (List α)} {i : Nat} {p : List α} (h : ps[i]? = some p) (j : Nat) : ((ps.take i).flatten ++ p.take j).length ≤ ps.flatten.length ∧ (ps.take (i + 1)).flatten = (ps.take i).flatten ++ p := by
  have e : (ps.take (i + 1)).flatten = (ps.take i).flatten ++ p := by rw [List.take_add_one, h]; simp
  refine ⟨?_, e⟩
  have h1 : ps.flatten.length = ((ps.take (i + 1)).flatten ++ (ps.drop (i + 1)).flatten).length := by rw [← List.flatten_append, List.take_append_drop]
  rw [h1, e, List.length_append, List.length_append, List.length_append]
  have := List.length_take_le j p
  have h2 : (p.take j).length ≤ p.length := by rw [List.length_take]; omega
  omega
section
variable {K : PySem.W.Frag} {σ : L2.St} {H : Hp} {tl te : TE} {vs vs1 : List Nat} {j j1 : Nat}
theorem ed_lc2T {α : Type} {ps : List (List α)} {c e : α → D} (hs : EvD tl σ H (.tuple (ps.map fun p => .tuple (p.map c)))) (hz : ps.flatten.length ≤ 1000000)
    (hj : ∀ x, ((wipe σ vs).set j (some x))[j]? = some (some x)) (hw : ∀ x, wipe ((wipe σ vs).set j (some x)) vs = wipe σ vs) (hw1 : ∀ x y, wipe ((wipe ((wipe σ vs).set j (some x)) vs1).set j1 (some y)) vs1 = wipe ((wipe σ vs).set j (some x)) vs1)
    (turn : ∀ p ∈ ps, ∀ z ∈ p, ∀ x y G, Ex H G → Dq G y (c z) → EvD te ((wipe ((wipe σ vs).set j (some x)) vs1).set j1 (some y)) G (e z)) :
    EvD (tLc2 (iTup K tl) (gName j) tYes (iTup K (tVar j)) (gName j1) tYes te vs vs1) σ H (.list (ps.flatten.map e)) := fun H0 e0 Q q =>
  hs H0 e0 _ fun v Hs G n hv => by
    obtain ⟨a, xs, rfl, h1, h2⟩ := hv.tupE
    refine ⟨a, rfl, ⟨xs, st_of (n.e3 _ _ h1)⟩, fun Dl hD => ⟨fun i m H' => m = xs.length - i ∧ i ≤ xs.length ∧ C2 G Hs Dl ((ps.take i).flatten.map e) H', ⟨xs.length, by simp, Nat.zero_le _, G, [], (Nx.refl n.e3).grow (Ex.new hD), fresh_back n.e3 hD, hD, upd_same, .nil⟩, ?_⟩⟩
    rintro i m H' ⟨rfl, hi, cc⟩
    obtain ⟨Gc, acc, nc, gd, hsd, hd, hq⟩ := id cc
    have hqs : SqT K H' a xs := st_of (nc.e3 _ _ (nc.e2 _ _ h1))
    have hl := h2.len
    rw [List.length_map] at hl
    by_cases hlt : i < xs.length
    · refine .inr ⟨⟨xs, xs[i], hqs, by simp [hlt]⟩, C2 G Hs Dl ((ps.take (i + 1)).flatten.map e), fun H3 p => ⟨xs.length - (i + 1), by omega, rfl, hlt, p⟩, fun x H2 y => ?_⟩
      obtain ⟨rfl, hy⟩ := y
      obtain ⟨d, hdd, hx⟩ := h2.getV (hy xs hqs)
      rw [List.getElem?_map] at hdd
      obtain ⟨p, hp, rfl⟩ := Option.map_eq_some_iff.mp hdd
      obtain ⟨b, ys, rfl, g1, g2⟩ := hx.tupE
      refine ⟨hw _, ?_⟩
      show ∃ v, _ ∧ _
      refine ⟨.ref b, hj _, b, rfl, ⟨ys, st_of (nc.e3 _ _ (nc.e2 _ _ g1))⟩, fun jj k H5 => k = ys.length - jj ∧ jj ≤ ys.length ∧ C2 G Hs Dl (((ps.take i).flatten ++ p.take jj).map e) H5, ⟨ys.length, by simp, Nat.zero_le _, by rw [List.take_zero, List.append_nil]; exact cc⟩, ?_⟩
      rintro jj k H5 ⟨rfl, hjj, cc5⟩
      obtain ⟨G5, acc5, n5, gd5, _, hd5, hq5⟩ := id cc5
      have hqy : SqT K H5 b ys := st_of (n5.e3 _ _ (n5.e2 _ _ g1))
      have hl2 := g2.len
      rw [List.length_map] at hl2
      by_cases hlj : jj < ys.length
      · refine .inr ⟨⟨ys, ys[jj], hqy, by simp [hlj]⟩, C2 G Hs Dl (((ps.take i).flatten ++ p.take (jj + 1)).map e), fun H6 p => ⟨ys.length - (jj + 1), by omega, rfl, hlj, p⟩, fun x6 H6 y6 => ?_⟩
        obtain ⟨rfl, hy6⟩ := y6
        obtain ⟨d6, hd6, hx6⟩ := g2.getV (hy6 ys hqy)
        rw [List.getElem?_map] at hd6
        obtain ⟨z, hz6, rfl⟩ := Option.map_eq_some_iff.mp hd6
        refine ⟨hw1 _ _, ?_⟩
        have hturn := turn p (List.mem_of_getElem? hp) z (List.mem_of_getElem? hz6) (.ref b) x6 G5 (n.e2.trans n5.e2) (hx6.mono n5.e2)
        show te _ _ _
        refine hturn H6 n5.e3 _ fun y7 H7 G7 n7 hy7 => ?_
        have tk : p.take (jj + 1) = p.take jj ++ [z] := by rw [List.take_add_one, hz6]; rfl
        refine ⟨acc5, n7.e1 _ _ hd5, ?_, G7, acc5 ++ [y7], (n5.trans n7).mut hsd (n7.fr Dl gd5 (by rw [hd5]; simp)), n7.fr Dl gd5 (by rw [hd5]; simp), hsd, upd_same, ?_⟩
        · have := (take_flat hp jj).1
          rw [hq5.len, List.length_map]
          exact Nat.lt_of_le_of_lt (Nat.le_trans this hz) (by decide)
        · rw [tk, ← List.append_assoc, List.map_append (l₂ := [z])]
          exact (hq5.mono n7.e2).snoc hy7
      · have ej : jj = ys.length := by omega
        refine .inl ⟨⟨ys, hqy, by omega⟩, ?_⟩
        rw [ej, hl2, List.take_length] at cc5
        rw [(take_flat hp 0).2]; exact cc5
    · have ei : i = xs.length := by omega
      refine .inl ⟨⟨xs, hqs, by omega⟩, ?_⟩
      rw [ei, hl, List.take_length] at hq
      exact q _ _ (upd Gc Dl (.lst acc)) (n.trans (nc.add hsd hd gd)) (.mkL upd_same (hq.mono (Ex.new gd)))
end
end Dl
namespace Lw
open PySem PySem.Spec PyProof.Rows L2 Evl Dl Hd He Hr Xr Classical
/-! the table of least sums -/
noncomputable abbrev rowN (t : Town) (h : Nat) : List (Option Nat) := (List.range t.n).map (ms t h)
noncomputable abbrev tabD (t : Town) : D := .tuple ((List.range t.n).map fun h => tO (rowN t h))
noncomputable abbrev tabL (t : Town) : D := .list ((List.range t.n).map fun h => .list ((rowN t h).map eO))
theorem row_at {t : Town} {h b : Nat} (hb : b < t.n) : ((rowN t h).map eO)[b]? = some (eO (ms t h b)) := by
  rw [List.getElem?_map, List.getElem?_map, List.getElem?_range hb]; rfl
theorem tab_at {t : Town} {h : Nat} (hh : h < t.n) : ((List.range t.n).map fun h => tO (rowN t h))[h]? = some (tO (rowN t h)) := by
  rw [List.getElem?_map, List.getElem?_range hh]; rfl
theorem fz_row {t : Town} (o : t.Ok) (h : Nat) : Fz 1 (tO (rowN t h)) (tO (rowN t h)) ∧ Fz 1 (.list ((rowN t h).map eO)) (tO (rowN t h)) := by
  have h7 := o.n7
  have := Fz.map_ (k := 0) (c := eO) (c' := eO) (l := rowN t h) (by simp; omega) fun z _ => by
    cases z with
    | none => exact .non 0
    | some n => exact .int 0 _
  exact ⟨this.2, this.1⟩
theorem fz_tab {t : Town} (o : t.Ok) : Fz 2 (tabD t) (tabD t) ∧ Fz 2 (tabL t) (tabD t) ∧ Fz 2 (.list ((List.range t.n).map fun h => tO (rowN t h))) (tabD t) := by
  have h7 := o.n7
  have a := Fz.map_ (k := 1) (c := fun h => tO (rowN t h)) (c' := fun h => tO (rowN t h)) (l := List.range t.n) (by simp; omega) fun z _ => (fz_row o z).1
  have b := Fz.map_ (k := 1) (c := fun h => .list ((rowN t h).map eO)) (c' := fun h => tO (rowN t h)) (l := List.range t.n) (by simp; omega) fun z _ => (fz_row o z).2
  exact ⟨a.2, b.1, a.1⟩
theorem ms_one {t : Town} {a b : Nat} (l : (a, b) ∈ t.lanes) : ∃ w, ms t a b = some w ∧ w ≤ t.peg b := by
  have h := ms_is t a b
  cases e : ms t a b with
  | none => rw [e] at h; exact absurd (Wk.one l) (h _)
  | some w => rw [e] at h; exact ⟨w, rfl, by have := h.2 _ (Wk.one l); rw [wt_cons] at this; unfold Wt at this; simpa using this⟩
theorem ms_step {t : Town} {a b c u : Nat} (hu : ms t a b = some u) (l : (b, c) ∈ t.lanes) : ∃ w, ms t a c = some w ∧ w ≤ u + t.peg c := by
  have hb := ms_is t a b
  rw [hu] at hb
  obtain ⟨⟨p, kp, rfl⟩, _⟩ := hb
  have h := ms_is t a c
  cases e : ms t a c with
  | none => rw [e] at h; exact absurd (kp.snoc l) (h _)
  | some w => rw [e] at h; exact ⟨w, rfl, by have := h.2 _ (kp.snoc l); rw [wt_app, wt_cons] at this; unfold Wt at this ⊢; simpa using this⟩
theorem scc_len {t : Town} (o : t.Ok) (h : Nat) : (scc t h).length ≤ 7 := Nat.le_trans (nodup_len t.n _ scc_nodup fun x hx => (mem_scc.mp hx).1) o.n7
theorem parts_len {t : Town} (o : t.Ok) : (parts t).length ≤ 7 := by
  unfold parts
  rw [List.length_map]
  have := List.length_filter_le (fun h => decide ((scc t h).head? = some h)) (List.range t.n)
  rw [List.length_range] at this
  exact Nat.le_trans this o.n7
theorem parts_mem {t : Town} (o : t.Ok) {p : List Nat} (hp : p ∈ parts t) : p.length ≤ 7 ∧ ∀ x ∈ p, x < t.n := by
  obtain ⟨h, _, rfl⟩ := List.mem_map.mp hp
  exact ⟨scc_len o h, fun x hx => (mem_scc.mp hx).1⟩
theorem flat_len {L : List (List Nat)} (h : ∀ p ∈ L, p.length ≤ 7) : L.flatten.length ≤ 7 * L.length := by
  induction L with
  | nil => simp
  | cons p r ih =>
    have h1 := h p List.mem_cons_self
    have h2 := ih fun q hq => h q (List.mem_cons_of_mem _ hq)
    rw [List.flatten_cons, List.length_append, List.length_cons]
    omega
theorem spur_len {t : Town} (o : t.Ok) : (spurred t).flatten.length ≤ 1000000 := by
  have h1 := flat_len (L := spurred t) fun p hp => (parts_mem o (List.mem_filter.mp hp).1).1
  have h2 := List.length_filter_le (fun p => decide (1 < p.length) && !bare t p) (parts t)
  have h3 := parts_len o
  have : (spurred t).length ≤ 7 := Nat.le_trans h2 h3
  omega
section
variable {P : Program} {w : World} {K : PySem.W.Frag} {mg : Str → Option Value} {base : Heap} {f : Addr} {fd : FuncData}
abbrev N_is_bare : List Str := ["street", "part", "house"]
theorem sc_is_bare : FnScope N_is_bare ["street", "part"] (defScope s_is_bare) := ⟨rfl, rfl, rfl, by decide +kernel, rfl, by decide +kernel, by decide +kernel⟩
abbrev spBare (K : PySem.W.Frag) : Sp := sp2 (fun z : Town × List Nat => StAt (cS K) z.1) (fun z => Da (tN z.2)) (fun z => z.2.length ≤ 7 ∧ ∀ x ∈ z.2, x < z.1.n) (fun z => Is (.bl (bare z.1 z.2)))
theorem ok_bare (F : Fun K "is_bare" "is_bare" s_is_bare f fd) (T : Tx K mg) (Cl : Cam P w K mg base 1 (ma K (cS K) "lends_to") ["self", "house"] (spLends K)) : FnOk P w K mg base CX0 3 f fd ["street", "part"] (spBare K) := by
  refine F.ok sc_is_bare (fun vs H Q E h => ?_) (fun cdv A outer s H1 vs Q E hr h => ?_)
  · obtain ⟨_, _, _, _, rfl, _⟩ := h; rfl
  · obtain ⟨⟨t, p⟩, G, v, u, rfl, e, ⟨hl, hp⟩, hv, hu, q⟩ := h
    have hl : p.length ≤ 7 := hl
    refine ⟨_, (pss_one (ps_ret (pe_and (pe_cmpR op_gt (pe_callB (r := rLenQ K) call_len_seq (by rfl) T.len bt_len (pa_cons (pv 1) pa_nil)) pe_int (nomark _)) (pe_one (pe_callB (r := rAll K) (cr_all rfl) (by rfl) T.all bt_all (pa_cons (pe_lc (own := [("house", 2)]) rfl sc_is_bare.nd (pi_tupK (K := K) (pv 1) rfl) (blkOk_by (N := N_is_bare) (sc := defScope s_is_bare) (by decide +kernel)) (fun _ _ _ _ _ => (pg_name (i := 2) sc_is_bare.nd rfl (by first | exact Or.inl rfl | exact Or.inr rfl))) (fun _ _ _ _ _ => pts_nil) (fun _ _ _ _ _ => (pe_cmpR op_eq (pe_callB (r := rLenQ K) call_len_seq (by rfl) T.len bt_len (pa_cons (pe_meth (pv 0) T.cl T.ml Cl.ok (hr.mono (by decide)) Cl.b .nil pass0 (pa_cons (pv 2) pa_nil)) pa_nil)) pe_int (nomark _)))) pa_nil)))))), ?_⟩
    refine k_ret (.refl e) q (EvR.of (ev_is (ev_andV (a := decide (1 < p.length)) (b := p.all fun h => decide ((t.out h).length = 1)) (ev_is (ev_op (ev_lenT (ed_var rfl hu)) ev_c rv_I0) ?_) fun _ => ev_is (ev_all (bs := p.map fun h => decide ((t.out h).length = 1)) ?_) ?_) rfl)) rfl
    · show V.bl (decide ((1 : Int) < ((p.map eN).length : Int))) = _
      rw [List.length_map]; congr 1; exact decide_eq_decide.mpr (by omega)
    · rw [List.map_map]
      refine ed_mapT (c := eN) (fun h => .bool (decide ((t.out h).length = 1))) (ed_var rfl hu) (by omega) ?_
      intro x y G' eg hx hy
      cases hy.intE
      refine turnF_name rfl et_yes fun _ => .ofBl (ev_is (ev_op (ev_lenT (ed_lends (er_st rfl (mono_st _ _ _ eg hv)) (ev_var rfl) (hp x hx))) ev_c (rv_eq rfl)) ?_)
      rw [List.length_map]
      congr 1
      exact eq_natB _ 1
    · rw [List.all_map]; rfl
abbrev N_spurred_parts : List Str := ["street", "part"]
theorem sc_spurred_parts : FnScope N_spurred_parts ["street"] (defScope s_spurred_parts) := ⟨rfl, rfl, rfl, by decide +kernel, rfl, by decide +kernel, by decide +kernel⟩
abbrev spSpurred (K : PySem.W.Frag) : Sp := sp1 (fun t : Town => StAt (cS K) t) Town.Ok (fun t => Da (.tuple ((spurred t).map tN)))
theorem ok_spurred (F : Fun K "spurred_parts" "spurred_parts" s_spurred_parts f fd) (T : Tx K mg) (C_strong_parts : Cal P w K mg base 3 "strong_parts" ["street"] (spParts K)) (C_is_bare : Cal P w K mg base 3 "is_bare" ["street", "part"] (spBare K)) : FnOk P w K mg base CX0 4 f fd ["street"] (spSpurred K) := by
  refine F.ok sc_spurred_parts (fun vs H Q E h => ?_) (fun cdv A outer s H1 vs Q E hr h => ?_)
  · obtain ⟨_, _, _, rfl, _⟩ := h; rfl
  · obtain ⟨t, G, v, rfl, e, o, hv, q⟩ := h
    refine ⟨_, (pss_one (ps_ret (pe_callTy (r := rTupQ K) call_tuple_of (by rfl) T.tuple bt_tuple (pa_cons (pe_lc (own := [("part", 1)]) rfl sc_spurred_parts.nd (pi_tupK (K := K) (pe_call C_strong_parts.ok (hr.mono (by decide)) (by rfl) C_strong_parts.g C_strong_parts.kp C_strong_parts.b .nil pass0 (pa_cons (pv 0) pa_nil)) rfl) (blkOk_by (N := N_spurred_parts) (sc := defScope s_spurred_parts) (by decide +kernel)) (fun _ _ _ _ _ => (pg_name (i := 1) sc_spurred_parts.nd rfl (by first | exact Or.inl rfl | exact Or.inr rfl))) (fun _ _ _ _ _ => pts_one (PW.pt (pw_and (pt_cmpR op_gt (pe_callB (r := rLenQ K) call_len_seq (by rfl) T.len bt_len (pa_cons (pv 1) pa_nil)) pe_int (nomark _)) (pw_and1 (pt_not (pt_val (pe_call C_is_bare.ok (hr.mono (by decide)) (by rfl) C_is_bare.g C_is_bare.kp C_is_bare.b .nil pass0 (pa_cons (pv 0) (pa_cons (pv 1) pa_nil))))))))) (fun _ _ _ _ _ => (pv 1))) pa_nil)))), ?_⟩
    refine k_ret (.refl e) q (ed_tupL (ed_lcT (c := tN) (fun p => decide (1 < p.length) && !bare t p) tN (er_call1 t (er_st rfl hv) o) (by have := parts_len o; omega) ?_)) rfl
    intro p x G' eg hp hx
    have hpm := parts_mem o hp
    refine turnF_name rfl (et_and (et_is (et_test (ev_op (ev_lenT (ed_var rfl hx)) ev_c rv_I0)) ?_) fun _ => et_not (et_B (er_call2 (t, p) (er_st rfl (mono_st _ _ _ eg hv)) (ed_var rfl hx) mono_st mono_da hpm).ev)) fun _ => ed_var rfl hx
    show decide ((1 : Int) < ((p.map eN).length : Int)) = _
    rw [List.length_map]; exact decide_eq_decide.mpr (by omega)
abbrev N_is_sum_row : List Str := ["street", "house", "row", "b", "c"]
theorem sc_is_sum_row : FnScope N_is_sum_row ["street", "house", "row"] (defScope s_is_sum_row) := ⟨rfl, rfl, rfl, by decide +kernel, rfl, by decide +kernel, by decide +kernel⟩
abbrev spRow (K : PySem.W.Frag) : Sp := sp3 (fun z : Town × Nat => StAt (cS K) z.1) (fun z => Is (.int (z.2 : Int))) (fun z => Da (tO (rowN z.1 z.2))) (fun z => z.1.Ok) (fun _ => Is (.bl true))
theorem ok_row (F : Fun K "is_sum_row" "is_sum_row" s_is_sum_row f fd) (T : Tx K mg) (C_is_at_most : Cal P w K mg base 1 "is_at_most" ["item", "bound"] spAtMost) : FnOk P w K mg base CX0 2 f fd ["street", "house", "row"] (spRow K) := by
  refine F.ok sc_is_sum_row (fun vs H Q E h => ?_) (fun cdv A outer s H1 vs Q E hr h => ?_)
  · obtain ⟨_, _, _, _, _, rfl, _⟩ := h; rfl
  · obtain ⟨⟨t, h⟩, G, v, u, x, rfl, e, o, hv, hu, hx, q⟩ := h
    cases hu
    have o : t.Ok := o
    refine ⟨_, (pss_cons (ps_for PassesOwn.never rfl (pi_tupK (K := K) (pe_fldK (K := K) (pv 0) rfl rfl) rfl) (pg_tupK (K := K) (n := 2) rfl (pgs_cons (pg_name (i := 3) sc_is_sum_row.nd rfl (by first | exact Or.inl rfl | exact Or.inr rfl)) (pgs_cons (pg_name (i := 4) sc_is_sum_row.nd rfl (by first | exact Or.inl rfl | exact Or.inr rfl)) pgs_nil)) rfl)
      (pss_cons (ps_if (PW.pt (pw_and (pt_cmpR op_eq (pv 3) (pv 1) (nomark _)) (pw_and1 (pt_not (pt_val (pe_call C_is_at_most.ok (hr.mono (by decide)) (by rfl) C_is_at_most.g C_is_at_most.kp C_is_at_most.b .nil pass0 (pa_cons (pe_ix (r := rIxT K) ix_tup (pv 2) (pv 4) (fun _ _ => rfl)) (pa_cons (pe_ix (r := rIxT K) ix_tup (pe_fldK (K := K) (pv 0) rfl rfl) (pv 4) (fun _ _ => rfl)) pa_nil))))))))
          (pss_one (ps_ret pe_bl))
          pss_nil)
        (pss_one (ps_if (PW.pt (pw_and (pt_cmpR op_notN (pe_ix (r := rIxT K) ix_tup (pv 2) (pv 3) (fun _ _ => rfl)) pe_non (nomark _)) (pw_and1 (pt_not (pt_val (pe_call C_is_at_most.ok (hr.mono (by decide)) (by rfl) C_is_at_most.g C_is_at_most.kp C_is_at_most.b .nil pass0 (pa_cons (pe_ix (r := rIxT K) ix_tup (pv 2) (pv 4) (fun _ _ => rfl)) (pa_cons (pe_op op_add (pe_ix (r := rIxT K) ix_tup (pv 2) (pv 3) (fun _ _ => rfl)) (pe_ix (r := rIxT K) ix_tup (pe_fldK (K := K) (pv 0) rfl rfl) (pv 4) (fun _ _ => rfl))) pa_nil))))))))
          (pss_one (ps_ret pe_bl))
          pss_nil))))
    (pss_one (ps_ret pe_bl))), ?_⟩
    refine k_forT (.refl e) (ed_lanes T (er_st rfl hv)) (fun i σ G' H' => ∃ y1 y2, σ = [some v, some (.int (h : Int)), some x, y1, y2]) (fun _ _ _ => ⟨_, _, rfl⟩) ?_ ?_
    · intro Ga i d y σ' G' H' eg hd hy n e' hw
      obtain ⟨y1, y2, rfl⟩ := hw
      rw [List.getElem?_map] at hd
      obtain ⟨⟨b, c⟩, hpi, rfl⟩ := Option.map_eq_some_iff.mp hd
      have hmem := List.mem_of_getElem? hpi
      obtain ⟨z1, z2, q1, q2, qg⟩ := gTup2 (K := K) (i1 := 3) (i2 := 4) (σ0 := [some v, some (.int (h : Int)), some x, y1, y2]) hy
      cases q1.intE
      cases q2.intE
      refine qg H' _ (e'.trans n.e3) ?_
      obtain ⟨hbn, hcn, _⟩ := o.ln _ hmem
      have hbn : b < t.n := hbn
      have hcn : c < t.n := hcn
      have eG : Ex G G' := eg.trans e'
      have row : ∀ {σ : L2.St} {H : Hp} {j a : Nat}, Ex G' H → σ[2]? = some (some x) → σ[j]? = some (some (.int (a : Int))) → a < t.n → EvD (tOp (rIxT K) (tVar 2) (tVar j)) σ H (eO (ms t h a)) := fun eH h2 hj ha =>
        ed_ixT (ed_var h2 (hx.mono (eG.trans eH))) (ev_var hj) (row_at ha)
      have peg : ∀ {σ : L2.St} {H : Hp}, Ex G' H → σ[0]? = some (some v) → σ[4]? = some (some (.int (c : Int))) → Ev (tOp (rIxT K) (tFld K (tVar 0) "pegs") (tVar 4)) σ H (.int ((t.peg c : Nat) : Int)) := fun eH h0 h4 =>
        EvD.int (ed_ixT (ed_pegs T (er_st h0 (mono_st _ _ _ (eG.trans eH) hv))) (ev_var h4) (peg_at hcn))
      refine k_when (b := false) n (et_is (et_and (a := decide (b = h)) (b := !atMost (ms t h c) (t.peg c)) (et_is (et_test (ev_op (ev_var rfl) (ev_var rfl) (rv_eq rfl))) (eq_natB b h)) fun _ => et_not (et_B (er_call2 (ms t h c, t.peg c) (row n.e3 rfl rfl hcn) (.of (peg n.e3 rfl rfl)) mono_da mono_is trivial).ev)) ?_) (fun z => nomatch z) fun _ H2 n2 e2 => ?_
      · by_cases hbh : b = h
        · subst hbh
          obtain ⟨m, hm, hle⟩ := ms_one hmem
          rw [hm]; simp [atMost, hle]
        · simp [hbh]
      · refine l_when (b := false) n2 ?_ (fun z => nomatch z) fun _ H3 n3 _ => ⟨G', n3, e', _, _, rfl⟩
        cases hm : ms t h b with
        | none =>
          refine et_is (et_and (a := false) (b := true) (et_test (ev_op (EvD.non ?_) ev_c rv_notN)) fun z => nomatch z) rfl
          have := row (σ := [some v, some (.int (h : Int)), some x, some (.int (b : Int)), some (.int (c : Int))]) (j := 3) (a := b) n2.e3 rfl rfl hbn
          rw [hm] at this; exact this
        | some m =>
          have hb2 := row (σ := [some v, some (.int (h : Int)), some x, some (.int (b : Int)), some (.int (c : Int))]) (j := 3) (a := b) n2.e3 rfl rfl hbn
          rw [hm] at hb2
          obtain ⟨m', hm', hle⟩ := ms_step hm hmem
          refine et_is (et_and (a := true) (b := !atMost (ms t h c) (m + t.peg c)) (et_test (ev_op (EvD.int hb2) ev_c rv_notN)) fun _ => et_not (et_B (er_call2 (ms t h c, m + t.peg c) (row n2.e3 rfl rfl hcn) (.of (ev_is (ev_op (EvD.int hb2) (peg n2.e3 rfl rfl) rv_I0) rfl)) mono_da mono_is trivial).ev)) ?_
          rw [hm']; simp [atMost, hle]
    · intro σ' G' H' n e' hw
      exact k_ret n q (EvR.of ev_c) rfl
abbrev N_is_sum_table : List Str := ["street", "table", "house", "row"]
theorem sc_is_sum_table : FnScope N_is_sum_table ["street", "table"] (defScope s_is_sum_table) := ⟨rfl, rfl, rfl, by decide +kernel, rfl, by decide +kernel, by decide +kernel⟩
abbrev spTable (K : PySem.W.Frag) : Sp := sp2 (fun z : Town × D => StAt (cS K) z.1) (fun z => Da z.2) (fun z => z.1.Ok ∧ Fz 2 z.2 (tabD z.1)) (fun _ => Is (.bl true))
theorem ok_table (F : Fun K "is_sum_table" "is_sum_table" s_is_sum_table f fd) (T : Tx K mg) (C_frozen : Cal P w K mg base 3 "frozen" ["value"] (spFrozen 2)) (C_is_sum_row : Cal P w K mg base 2 "is_sum_row" ["street", "house", "row"] (spRow K)) : FnOk P w K mg base CX0 4 f fd ["street", "table"] (spTable K) := by
  refine F.ok sc_is_sum_table (fun vs H Q E h => ?_) (fun cdv A outer s H1 vs Q E hr h => ?_)
  · obtain ⟨_, _, _, _, rfl, _⟩ := h; rfl
  · obtain ⟨⟨t, d⟩, G, v, u, rfl, e, ⟨o, fz⟩, hv, hu, q⟩ := h
    have o : t.Ok := o
    have o7 := o.n7
    refine ⟨_, (pss_one (ps_ret (pe_callB (r := rAll K) (cr_all rfl) (by rfl) T.all bt_all (pa_cons (pe_lc (own := [("house", 2), ("row", 3)]) rfl sc_is_sum_table.nd (pi_enumT (by rfl) T.enumerate (pa_cons (pe_call C_frozen.ok (hr.mono (by decide)) (by rfl) C_frozen.g C_frozen.kp C_frozen.b .nil pass0 (pa_cons (pv 1) pa_nil)) pa_nil)) (blkOk_by (N := N_is_sum_table) (sc := defScope s_is_sum_table) (by decide +kernel)) (fun _ _ _ _ _ => (pg_tupK (K := K) (n := 2) rfl (pgs_cons (pg_name (i := 2) sc_is_sum_table.nd rfl (by first | exact Or.inl rfl | exact Or.inr rfl)) (pgs_cons (pg_name (i := 3) sc_is_sum_table.nd rfl (by first | exact Or.inl rfl | exact Or.inr rfl)) pgs_nil)) rfl)) (fun _ _ _ _ _ => pts_nil) (fun _ _ _ _ _ => (pe_call C_is_sum_row.ok (hr.mono (by decide)) (by rfl) C_is_sum_row.g C_is_sum_row.kp C_is_sum_row.b .nil pass0 (pa_cons (pv 0) (pa_cons (pv 2) (pa_cons (pv 3) pa_nil)))))) pa_nil)))), ?_⟩
    have key : EvD (tLc (iEnT K (tCons (tCall (spFrozen 2) [] E0 (tCons (tVar 1) tNil)) tNil)) (gTup K 2 (gCons (gName 2) (gCons (gName 3) gNil))) tYes (tCall (spRow K) [] E0 (tCons (tVar 0) (tCons (tVar 2) (tCons (tVar 3) tNil)))) [2, 3]) (start N_is_sum_table [v, u]) G (.list (((List.range t.n).map fun _ => true).map PyData.bool)) := by
      refine (er_lcE (Pl := fun i es => es = ((List.range i).map fun _ => true).map PyData.bool) (er_call1 (d, tabD t) (ed_var rfl hu) fz) (by simp; omega) rfl ?_).imp fun G' v' _ ⟨es, h1, h2⟩ => by
        rw [List.length_map, List.length_range] at h1
        rw [h1] at h2; exact h2
      intro i d x G' eg hd hx
      rw [List.getElem?_map] at hd
      obtain ⟨h, hh, rfl⟩ := Option.map_eq_some_iff.mp hd
      have hi := (List.getElem?_eq_some_iff.mp hh).1
      rw [List.length_range] at hi
      rw [List.getElem?_range hi] at hh
      cases hh
      obtain ⟨z1, z2, q1, q2, qg⟩ := gTup2 (K := K) (i1 := 2) (i2 := 3) (σ0 := wipe (start N_is_sum_table [v, u]) [2, 3]) hx
      cases q1.intE
      refine ⟨_, true, qg, rfl, et_yes, fun _ => ?_, fun z => nomatch z⟩
      refine (er_call3 (t, i) (er_st rfl (mono_st _ _ _ eg hv)) (er_var rfl) (ed_var rfl q2) mono_st mono_is mono_da o).imp fun G4 v4 _ h4 => ⟨.bool true, fun es hes => ?_, by cases h4; exact .bl true⟩
      show _ = ((List.range (i + 1)).map fun _ => true).map PyData.bool
      rw [hes, List.range_succ, List.map_append, List.map_append]; rfl
    refine k_ret (.refl e) q (EvR.of (ev_is (ev_all key) ?_)) rfl
    rw [all_true fun _ _ => rfl]
abbrev N_ring_sums : List Str := ["street", "house"]
theorem sc_ring_sums : FnScope N_ring_sums ["street"] (defScope s_ring_sums) := ⟨rfl, rfl, rfl, by decide +kernel, rfl, by decide +kernel, by decide +kernel⟩
abbrev spSums (K : PySem.W.Frag) : Sp := sp2 (fun z : Town × Nat => StAt (cS K) z.1) (fun z => Is (.int (z.2 : Int))) (fun z => z.1.Ok ∧ z.2 < z.1.n) (fun z => Da (tO (rowN z.1 z.2)))
abbrev spRings (K : PySem.W.Frag) : Sp := sp1 (fun t : Town => StAt (cS K) t) Town.Ok (fun t => Da (tabD t))
theorem ok_ring_sums (F : Fun K "ring_sums" "ring_sums" s_ring_sums f fd) (T : Tx K mg) (C_sums_from : Cal P w K mg base 3 "sums_from" ["street", "start"] (spSums K)) (Ch : Cam P w K mg base 1 (gAd K) ["self"] (spHouses K)) : FnOk P w K mg base CX0 4 f fd ["street"] (spRings K) := by
  refine F.ok sc_ring_sums (fun vs H Q E h => ?_) (fun cdv A outer s H1 vs Q E hr h => ?_)
  · obtain ⟨_, _, _, rfl, _⟩ := h; rfl
  · obtain ⟨t, G, v, rfl, e, o, hv, q⟩ := h
    have o7 := o.n7
    refine ⟨_, (pss_one (ps_ret (pe_callTy (r := rTupQ K) call_tuple_of (by rfl) T.tuple bt_tuple (pa_cons (pe_lc (own := [("house", 1)]) rfl sc_ring_sums.nd (pi_range1 (by rfl) T.range (pa_cons (pe_prop (pv 0) T.cl T.pr Ch.ok (hr.mono (by decide)) Ch.b .nil pass0 (by rfl)) pa_nil)) (blkOk_by (N := N_ring_sums) (sc := defScope s_ring_sums) (by decide +kernel)) (fun _ _ _ _ _ => (pg_name (i := 1) sc_ring_sums.nd rfl (by first | exact Or.inl rfl | exact Or.inr rfl))) (fun _ _ _ _ _ => pts_nil) (fun _ _ _ _ _ => (pe_call C_sums_from.ok (hr.mono (by decide)) (by rfl) C_sums_from.g C_sums_from.kp C_sums_from.b .nil pass0 (pa_cons (pv 0) (pa_cons (pv 1) pa_nil))))) pa_nil)))), ?_⟩
    refine k_ret (.refl e) q (ed_tupL (ed_mapR (fun h => tO (rowN t h)) (ea_one (ev_houses (er_st rfl hv))) (by omega) fun i hi => turnF_name rfl et_yes fun _ => ?_)) rfl
    exact er_call2 (t, i) (er_st rfl hv) (er_var rfl) mono_st mono_is ⟨o, hi⟩
abbrev N_fewest_tools : List Str := ["street", "table", "part", "house"]
theorem sc_fewest_tools : FnScope N_fewest_tools ["street"] (defScope s_fewest_tools) := ⟨rfl, rfl, rfl, by decide +kernel, rfl, by decide +kernel, by decide +kernel⟩
abbrev spFew (K : PySem.W.Frag) : Sp := sp1 (fun t : Town => StAt (cS K) t) Town.Ok (fun t => Da (eO (fewest t)))
theorem ok_fewest (F : Fun K "fewest_tools" "fewest_tools" s_fewest_tools f fd) (T : Tx K mg) (C_ring_sums : Cal P w K mg base 4 "ring_sums" ["street"] (spRings K)) (C_spurred_parts : Cal P w K mg base 4 "spurred_parts" ["street"] (spSpurred K)) : FnOk P w K mg base CX0 5 f fd ["street"] (spFew K) := by
  refine F.ok sc_fewest_tools (fun vs H Q E h => ?_) (fun cdv A outer s H1 vs Q E hr h => ?_)
  · obtain ⟨_, _, _, rfl, _⟩ := h; rfl
  · obtain ⟨t, G, v, rfl, e, o, hv, q⟩ := h
    refine ⟨_, (pss_cons (ps_set (i := 1) sc_fewest_tools.nd rfl (by first | exact Or.inl rfl | exact Or.inr rfl) (pe_call C_ring_sums.ok (hr.mono (by decide)) (by rfl) C_ring_sums.g C_ring_sums.kp C_ring_sums.b .nil pass0 (pa_cons (pv 0) pa_nil)))
    (pss_one (ps_ret (pe_callBK (cr_minD rfl (hu8 hr)) (by rfl) T.min bt_min (pa_cons (pe_lc2 (own := [("part", 2), ("house", 3)]) (vs1 := [3]) rfl sc_fewest_tools.nd (pi_tupK (K := K) (pe_call C_spurred_parts.ok (hr.mono (by decide)) (by rfl) C_spurred_parts.g C_spurred_parts.kp C_spurred_parts.b .nil pass0 (pa_cons (pv 0) pa_nil)) rfl) (blkOk_by (N := N_fewest_tools) (sc := defScope s_fewest_tools) (by decide +kernel)) (by decide) (fun _ _ _ _ _ => (pg_name (i := 2) sc_fewest_tools.nd rfl (by first | exact Or.inl rfl | exact Or.inr rfl))) (fun _ _ _ _ _ => pts_nil) (fun _ _ _ _ _ => (pi_tupK (K := K) (pv 2) rfl)) (fun _ _ _ _ _ => (pg_name (i := 3) sc_fewest_tools.nd rfl (by first | exact Or.inl rfl | exact Or.inr rfl))) (fun _ _ _ _ _ => pts_nil) (fun _ _ _ _ _ => (pe_ix (r := rIxT K) ix_tup (pe_ix (r := rIxT K) ix_tup (pv 1) (pv 3) (fun _ _ => rfl)) (pv 3) (fun _ _ => rfl)))) pa_nil) (pk_cons pe_non pk_nil))))), ?_⟩
    refine k_asg (.refl e) (er_call1 t (er_st rfl hv) o) fun v1 G1 Ha na ma hd1 => ?_
    have key : EvD (tLc2 (iTup K (tCall (spSpurred K) [] E0 (tCons (tVar 0) tNil))) (gName 2) tYes (iTup K (tVar 2)) (gName 3) tYes (tOp (rIxT K) (tOp (rIxT K) (tVar 1) (tVar 3)) (tVar 3)) [2, 3] [3]) [some v, some v1, none, none] G1 (lN ((spurred t).flatten.map fun h => (ms t h h).getD 0)) := by
      show EvD _ _ _ (.list (((spurred t).flatten.map fun h => (ms t h h).getD 0).map eN))
      rw [List.map_map]
      refine ed_lc2T (c := eN) (e := fun h => eN ((ms t h h).getD 0)) (er_call1 t (er_st rfl (mono_st _ _ _ ma.e2 hv)) o) (spur_len o) (fun x => rfl) (fun x => rfl) (fun x y => rfl) ?_
      intro p hp h hh x y G' eg hy
      cases hy.intE
      obtain ⟨m, hm⟩ := spurred_ms hp hh
      have hn := (parts_mem o (List.mem_filter.mp hp).1).2 h hh
      have : EvD (tOp (rIxT K) (tOp (rIxT K) (tVar 1) (tVar 3)) (tVar 3)) ((wipe ((wipe [some v, some v1, none, none] [2, 3]).set 2 (some x)) [3]).set 3 (some (V.int (h : Int)))) G' (eO (ms t h h)) :=
        ed_ixT (ed_ixT (i := h) (ed_var rfl (Dq.mono hd1 eg)) (ev_var rfl) (tab_at hn)) (ev_var rfl) (row_at hn)
      rw [hm] at this
      rw [hm]; exact this
    refine k_ret na q ?_ rfl
    intro H5 e5 Q5 q5
    unfold tCKw tCons
    refine key H5 e5 _ fun v6 H6 G6 n6 h6 => ?_
    obtain ⟨a, xs, rfl, h7, h8⟩ := h6.lstE
    rw [map_eN] at h8
    have := h8.intsE
    subst this
    refine ⟨a, _, rfl, rfl, sq_of (n6.e3 _ _ h7), fun hnil => q5 _ _ _ n6 ?_, fun m hm hle => q5 _ _ _ n6 ?_⟩
    · have : ((spurred t).flatten.map fun h => (ms t h h).getD 0) = [] := List.map_eq_nil_iff.mp hnil
      show Dq G6 _ (eO (fewest t))
      unfold fewest
      rw [this]; exact .non
    · obtain ⟨k, hk, rfl⟩ := List.mem_map.mp hm
      show Dq G6 _ (eO (fewest t))
      unfold fewest
      rw [mn_eq hk fun y hy => by have := hle (y : Int) (List.mem_map_of_mem hy); omega]
      exact .int _
abbrev N_shows_fewest : List Str := ["street", "count", "table", "rows", "part", "house"]
theorem sc_shows_fewest : FnScope N_shows_fewest ["street", "count", "table"] (defScope s_shows_fewest) := ⟨rfl, rfl, rfl, by decide +kernel, rfl, by decide +kernel, by decide +kernel⟩
noncomputable def shows (t : Town) (c : Int) : Bool := (spurred t).flatten.all fun h => decide (c ≤ (((ms t h h).getD 0 : Nat) : Int))
abbrev spShows (K : PySem.W.Frag) : Sp := sp3 (fun z : Town × Int × D => StAt (cS K) z.1) (fun z => Is (.int z.2.1)) (fun z => Da z.2.2) (fun z => z.1.Ok ∧ Fz 2 z.2.2 (tabD z.1)) (fun z => Is (.bl (shows z.1 z.2.1)))
theorem ok_shows (F : Fun K "shows_fewest" "shows_fewest" s_shows_fewest f fd) (T : Tx K mg) (C_frozen : Cal P w K mg base 3 "frozen" ["value"] (spFrozen 2)) (C_is_sum_table : Cal P w K mg base 4 "is_sum_table" ["street", "table"] (spTable K)) (C_spurred_parts : Cal P w K mg base 4 "spurred_parts" ["street"] (spSpurred K)) : FnOk P w K mg base CX0 5 f fd ["street", "count", "table"] (spShows K) := by
  refine F.ok sc_shows_fewest (fun vs H Q E h => ?_) (fun cdv A outer s H1 vs Q E hr h => ?_)
  · obtain ⟨_, _, _, _, _, rfl, _⟩ := h; rfl
  · obtain ⟨⟨t, c, d⟩, G, v, u, x, rfl, e, ⟨o, fz⟩, hv, hu, hx, q⟩ := h
    cases hu
    have o : t.Ok := o
    refine ⟨_, (pss_cons (ps_set (i := 3) sc_shows_fewest.nd rfl (by first | exact Or.inl rfl | exact Or.inr rfl) (pe_call C_frozen.ok (hr.mono (by decide)) (by rfl) C_frozen.g C_frozen.kp C_frozen.b .nil pass0 (pa_cons (pv 2) pa_nil)))
    (pss_cons (ps_if (pt_not (pt_val (pe_call C_is_sum_table.ok (hr.mono (by decide)) (by rfl) C_is_sum_table.g C_is_sum_table.kp C_is_sum_table.b .nil pass0 (pa_cons (pv 0) (pa_cons (pv 3) pa_nil)))))
      (pss_one (ps_ret pe_bl))
      pss_nil)
    (pss_one (ps_ret (pe_callB (r := rAll K) (cr_all rfl) (by rfl) T.all bt_all (pa_cons (pe_lc2 (own := [("part", 4), ("house", 5)]) (vs1 := [5]) rfl sc_shows_fewest.nd (pi_tupK (K := K) (pe_call C_spurred_parts.ok (hr.mono (by decide)) (by rfl) C_spurred_parts.g C_spurred_parts.kp C_spurred_parts.b .nil pass0 (pa_cons (pv 0) pa_nil)) rfl) (blkOk_by (N := N_shows_fewest) (sc := defScope s_shows_fewest) (by decide +kernel)) (by decide) (fun _ _ _ _ _ => (pg_name (i := 4) sc_shows_fewest.nd rfl (by first | exact Or.inl rfl | exact Or.inr rfl))) (fun _ _ _ _ _ => pts_nil) (fun _ _ _ _ _ => (pi_tupK (K := K) (pv 4) rfl)) (fun _ _ _ _ _ => (pg_name (i := 5) sc_shows_fewest.nd rfl (by first | exact Or.inl rfl | exact Or.inr rfl))) (fun _ _ _ _ _ => pts_nil) (fun _ _ _ _ _ => (pe_cmpR op_ge (pe_ix (r := rIxT K) ix_tup (pe_ix (r := rIxT K) ix_tup (pv 3) (pv 5) (fun _ _ => rfl)) (pv 5) (fun _ _ => rfl)) (pv 1) (nomark _)))) pa_nil)))))), ?_⟩
    refine k_asg (.refl e) (er_call1 (d, tabD t) (ed_var rfl hx) fz) fun v1 G1 Ha na ma hd1 => ?_
    have hv1 := mono_st _ _ _ ma.e2 hv
    refine k_when (b := false) na (et_is (et_not (et_B (er_call2 (t, tabD t) (er_st rfl (mono_st _ _ _ na.e3 hv1)) (ed_var rfl (Dq.mono hd1 na.e3)) mono_st mono_da ⟨o, (fz_tab o).1⟩).ev)) rfl) (fun z => nomatch z) fun _ H2 n2 _ => ?_
    have key : EvD (tLc2 (iTup K (tCall (spSpurred K) [] E0 (tCons (tVar 0) tNil))) (gName 4) tYes (iTup K (tVar 4)) (gName 5) tYes (tOp (rI0 fun i j => .bl (decide (i ≥ j))) (tOp (rIxT K) (tOp (rIxT K) (tVar 3) (tVar 5)) (tVar 5)) (tVar 1)) [4, 5] [5]) [some v, some (.int c), some x, some v1, none, none] G1 (.list (((spurred t).flatten.map fun h => decide (c ≤ (((ms t h h).getD 0 : Nat) : Int))).map PyData.bool)) := by
      rw [List.map_map]
      refine ed_lc2T (c := eN) (e := fun h => .bool (decide (c ≤ (((ms t h h).getD 0 : Nat) : Int)))) (er_call1 t (er_st rfl hv1) o) (spur_len o) (fun x => rfl) (fun x => rfl) (fun x y => rfl) ?_
      intro p hp h hh x' y G' eg hy
      cases hy.intE
      obtain ⟨m, hm⟩ := spurred_ms hp hh
      have hn := (parts_mem o (List.mem_filter.mp hp).1).2 h hh
      have : EvD (tOp (rIxT K) (tOp (rIxT K) (tVar 3) (tVar 5)) (tVar 5)) ((wipe ((wipe [some v, some (.int c), some x, some v1, none, none] [4, 5]).set 4 (some x')) [5]).set 5 (some (V.int (h : Int)))) G' (eO (ms t h h)) :=
        ed_ixT (ed_ixT (i := h) (ed_var rfl (Dq.mono hd1 eg)) (ev_var rfl) (tab_at hn)) (ev_var rfl) (row_at hn)
      rw [hm] at this
      rw [hm]
      exact .ofBl (ev_op (EvD.int this) (ev_var rfl) rv_I0)
    refine k_ret n2 q (EvR.of (ev_is (ev_all key) ?_)) rfl
    rw [List.all_map]; rfl
end
end Lw
namespace Dl
open PySem PySem.Spec PyProof.Rows L2 Evl Xr Hr
section
variable {K : PySem.W.Frag} {σ : L2.St} {H H0 H1 G : Hp} {tl te ta tb : TE} {t : TT} {g : TG} {vs : List Nat} {Dn : Ends} {tu tz : TS}
def EvF (te : TE) (σ : L2.St) (H : Hp) (ds : List D) : Prop := ∀ H1, Ex H H1 → ∀ Q : VK, (∀ p H2 G xs, Nx H H1 G H2 → G p = none → H1 p = none → H2 p = some (.lst xs) → DqA G xs ds → Q (.ref p) H2) → te σ H1 Q
theorem ef_mapT {α : Type} {l : List α} {c : α → D} (e : α → D) (hs : EvD tl σ H (.tuple (l.map c))) (hz : l.length ≤ 10000000)
    (turn : ∀ (z : α) (x : V) (G : Hp), Ex H G → z ∈ l → Dq G x (c z) → TurnF σ vs g t te true (e z) x G) : EvF (tLc (iTup K tl) g t te vs) σ H (l.map e) := fun H0 e0 Q q =>
  hs H0 e0 _ fun v Hs G n hv => by
    obtain ⟨a, xs, rfl, h1, h2⟩ := hv.tupE
    refine ⟨a, rfl, ⟨xs, st_of (n.e3 _ _ h1)⟩, fun Dl hD => lc_tup (xs := xs) (CwR G Hs (PlF l (fun _ => true) e) Dl) (cw_start n.e3 hD rfl) (fun i H' _ p => ?_) (fun i x H' hi p => ?_) (fun H' p => ?_)⟩
    · obtain ⟨G', _, _, n', _⟩ := p.ex
      exact st_of (n'.e3 _ _ (n'.e2 _ _ h1))
    · obtain ⟨d, hd, hx⟩ := h2.getV hi
      have hlt := (List.getElem?_eq_some_iff.mp hd).1
      rw [List.length_map] at hlt
      rw [List.getElem?_map] at hd
      obtain ⟨z, hz', rfl⟩ := Option.map_eq_some_iff.mp hd
      exact ((turn z x G n.e2 (List.mem_of_getElem? hz') hx).turn hz').run p (by omega)
    · obtain ⟨G', acc, ds, nx, g1, g2, h1', qa, hp, _⟩ := p.ex
      refine q Dl H' G' acc (n.trans nx) g1 (fresh_back n.e1 g2) h1' ?_
      have hl := h2.len
      rw [List.length_map] at hl
      unfold PlF at hp
      rw [filter_all, List.take_of_length_le (by omega)] at hp
      rw [← hp]; exact qa
theorem k_asgF {i : Nat} {ds : List D} (n : Nx H0 H1 G H) (h : EvF te σ G ds) (k : ∀ p G' H' xs, Nx H0 H1 G' H' → Nx G H G' H' → G' p = none → H1 p = none → H p = none → H' p = some (.lst xs) → DqA G' xs ds → tz Dn (σ.set i (some (.ref p))) H') : tSeq (tAsg te (gName i)) tz Dn σ H :=
  h H n.e3 _ fun p H2 G2 xs m gp hp h2 q => k p G2 H2 xs (n.trans m) m gp (fresh_back n.e1 hp) hp h2 q
theorem el_rep {xs : List V} {k : Nat} (h : EvL ta σ H xs) (hb : Ev tb σ H (.int (k : Int))) (hz : xs.length * k ≤ sizeLine) (hk : k < 1000) : EvL (tOp rRep ta tb) σ H (List.replicate k xs).flatten := fun H1 e Q q =>
  h H1 e _ fun p H2 hp e2 h2 => hb H2 (e.trans e2) _ fun H3 e3 => ⟨p, (k : Int), xs, rfl, rfl, e3 _ _ h2, by omega, by omega, by simpa using hz, fun r hr => by
    have := q r (upd H3 r (.lst (List.replicate k xs).flatten)) (fresh_back (e2.trans e3) hr) ((e2.trans e3).trans (Ex.new hr)) upd_same
    simpa using this⟩
/-! the heap's steps -/
abbrev tq (q : Qi) : HO := .tup [.int q.2.1, .int q.2.2]
theorem pairs_at {qs : List Qi} (e : Ex G H) (hk : ∀ q ∈ qs, G q.1 = some (tq q)) : ∀ q ∈ qs, PairAt K H q := fun q hq => st_of (e _ _ (hk q hq))
theorem k_ify {i : Nat} {ql : Addr} {qs : List Qi} (n : Nx H0 H1 G H) (h1 : H1 ql = none) (hg : G ql = none) (hl : H ql = some (.lst (qs.map vq))) (hk : ∀ q ∈ qs, G q.1 = some (tq q)) (hz : qs.length ≤ 2500) (ha : σ[i]? = some (some (.ref ql)))
    (k : ∀ qs' H', qs'.Perm qs → Hp0 qs' → Nx H0 H1 G H' → H' ql = some (.lst (qs'.map vq)) → (∀ b o, b ≠ ql → H b = some o → H' b = some o) → tz Dn σ H') : tSeq (tDrop (tCB (rIfy K) (tCons (tVar i) tNil))) tz Dn σ H :=
  ⟨.ref ql, ha, ql, qs, rfl, hl, pairs_at n.e3 hk, hz, fun qs' pm hp => k qs' _ pm hp (n.mut h1 hg) upd_same fun b o hb q => by rw [upd_ne hb]; exact q⟩
theorem l_push {i : Nat} {ql : Addr} {qs : List Qi} {a b : Int} {tx : TA} (n : Nx H0 H1 G H) (h1 : H1 ql = none) (hg : G ql = none) (hl : H ql = some (.lst (qs.map vq))) (hk : ∀ q ∈ qs, G q.1 = some (tq q)) (hz : qs.length < 100000) (hf : Hp0 qs) (ha : σ[i]? = some (some (.ref ql)))
    (hx : EvA tx σ H [.int a, .int b])
    (k : ∀ (x : Qi) qs' G' H', x.2 = (a, b) → qs'.Perm (x :: qs) → Hp0 qs' → Nx H0 H1 G' H' → Ex G G' → (∀ c, G c = none → H c ≠ none → G' c = none) → G' x.1 = some (tq x) → H' ql = some (.lst (qs'.map vq)) → (∀ b o, b ≠ ql → H b = some o → H' b = some o) → Dn.nx σ H') : tDrop (tCB (rPush K) (tCons (tVar i) (tCons (tTup tx) tNil))) Dn σ H :=
  ⟨.ref ql, ha, hx H (.refl _) _ fun H2 e2 => ⟨(show 2 ≤ sizeLine by decide), fun p hp => by
    have n2 := (n.grow e2).new (o := tq (p, a, b)) hp
    have hpl : p ≠ ql := fun z => by subst z; rw [e2 _ _ hl] at hp; cases hp
    have gp : G p = none := fresh_back (n.e3.trans e2) hp
    have hg' : upd G p (tq (p, a, b)) ql = none := by rw [upd_ne hpl.symm]; exact hg
    have hl' : upd H2 p (tq (p, a, b)) ql = some (.lst (qs.map vq)) := by rw [upd_ne hpl.symm]; exact e2 _ _ hl
    have hk' : ∀ q ∈ qs, upd G p (tq (p, a, b)) q.1 = some (tq q) := fun q hq => (Ex.new gp) _ _ (hk q hq)
    refine ⟨ql, qs, (p, a, b), rfl, hl', pairs_at n2.e3 hk', st_of upd_same, hf, Nat.lt_of_lt_of_le hz (by decide), fun qs' pm hp' => k (p, a, b) qs' (upd G p (tq (p, a, b))) _ rfl pm hp' (n2.mut h1 hg') (Ex.new gp) (fun c c1 c2 => ?_) upd_same upd_same fun b' o' hb q => ?_⟩
    · have : c ≠ p := fun z => by subst z; exact c2 (fresh_back e2 hp)
      rw [upd_ne this]; exact c1
    · rw [upd_ne hb]; exact (e2.trans (Ex.new hp)) _ _ q⟩⟩
theorem k_pop {i i1 i2 : Nat} {ql : Addr} {qs : List Qi} {x : Qi} (n : Nx H0 H1 G H) (h1 : H1 ql = none) (hg : G ql = none) (hl : H ql = some (.lst ((x :: qs).map vq))) (hk : ∀ q ∈ x :: qs, G q.1 = some (tq q)) (hf : Hp0 (x :: qs)) (ha : σ[i]? = some (some (.ref ql)))
    (k : ∀ qs' H', qs'.Perm qs → Hp0 qs' → (∀ q ∈ qs, x.2.1 ≤ q.2.1) → Nx H0 H1 G H' → H' ql = some (.lst (qs'.map vq)) → (∀ b o, b ≠ ql → H b = some o → H' b = some o) → tz Dn ((σ.set i1 (some (.int x.2.1))).set i2 (some (.int x.2.2))) H') :
    tSeq (tAsg (tCB (rPop2 K) (tCons (tVar i) tNil)) (gTup K 2 (gCons (gName i1) (gCons (gName i2) gNil)))) tz Dn σ H :=
  ⟨.ref ql, ha, ql, qs, x, rfl, hl, pairs_at n.e3 hk, hf, fun qs' pm hp' hm => by
    have n2 : Nx H0 H1 G (upd H ql (.lst (qs'.map vq))) := n.mut h1 hg
    have hx := hk x List.mem_cons_self
    obtain ⟨x1, x2, q1, q2, qg⟩ := gTup2 (K := K) (i1 := i1) (i2 := i2) (σ0 := σ) (x := .ref x.1) (G := G) (d1 := .int x.2.1) (d2 := .int x.2.2) (.mkT hx (.cons (.int _) (.one (.int _))))
    cases q1.intE
    cases q2.intE
    exact qg _ _ n2.e3 (k qs' _ pm hp' hm n2 upd_same fun b o hb q => by rw [upd_ne hb]; exact q)⟩
end
end Dl
namespace Lw
open PySem PySem.Spec PyProof.Rows L2 Evl Dl Hd He Hr Xr Classical
/-! the least-first search -/
abbrev qw (w b : Nat) : Int × Int := ((w : Int), (b : Int))
structure DI (t : Town) (s : Nat) (S : List (Option Nat)) (qs : List Qi) (F : Nat → Nat → Prop) : Prop where
  len : S.length = t.n
  ok : ∀ b w, S[b]? = some (some w) → ms t s b = some w
  qk : ∀ q ∈ qs, ∃ w b p, q.2 = qw w b ∧ Wk t s b p ∧ Wt t p = w
  f1 : ∀ c, (s, c) ∈ t.lanes → S[c]? = some none → ∃ q ∈ qs, q.2 = qw (t.peg c) c
  f2 : ∀ b u c, S[b]? = some (some u) → (b, c) ∈ t.lanes → S[c]? = some none → F b c → ∃ q ∈ qs, q.2 = qw (u + t.peg c) c
def FT : Nat → Nat → Prop := fun _ _ => True
theorem DI.perm {t : Town} {s : Nat} {S : List (Option Nat)} {qs qs' : List Qi} {F : Nat → Nat → Prop} (d : DI t s S qs F) (h : qs'.Perm qs) : DI t s S qs' F :=
  ⟨d.len, d.ok, fun q hq => d.qk q (h.mem_iff.mp hq), fun c l hc => by
    obtain ⟨q, h1, h2⟩ := d.f1 c l hc; exact ⟨q, h.mem_iff.mpr h1, h2⟩, fun b u c hb l hc hf => by
    obtain ⟨q, h1, h2⟩ := d.f2 b u c hb l hc hf; exact ⟨q, h.mem_iff.mpr h1, h2⟩⟩
theorem ms_le {t : Town} {a b w : Nat} {p : List Nat} (h : ms t a b = some w) (k : Wk t a b p) : w ≤ Wt t p := by
  have := ms_is t a b
  rw [h] at this
  exact this.2 p k
theorem DI.low {t : Town} {s : Nat} {S : List (Option Nat)} {qs : List Qi} (o : t.Ok) (d : DI t s S qs FT) {b : Nat} (hb : S[b]? = some none) : ∀ (p p0 : List Nat), p ≠ [] → Pth t s (p0 ++ p) → fin s (p0 ++ p) = b → (p0 = [] ∨ ∃ u, S[fin s p0]? = some (some u)) → ∃ q ∈ qs, q.2.1 ≤ ((Wt t (p0 ++ p) : Nat) : Int)
  | [], _, h, _, _, _ => absurd rfl h
  | x :: r, p0, _, h1, h2, h3 => by
    have g1 := pth_app.mp h1
    have hx : x < t.n := (o.ln _ g1.2.1).2.1
    have hxl : x < S.length := by rw [d.len]; exact hx
    cases hs : S[x] with
    | none =>
      have hs' : S[x]? = some none := by rw [List.getElem?_eq_getElem hxl, hs]
      rcases h3 with h3 | ⟨u, h3⟩
      · subst h3
        obtain ⟨q, q1, q2⟩ := d.f1 x g1.2.1 hs'
        refine ⟨q, q1, ?_⟩
        rw [q2, List.nil_append, wt_cons]
        show ((t.peg x : Nat) : Int) ≤ _
        omega
      · by_cases hp : p0 = []
        · subst hp
          obtain ⟨q, q1, q2⟩ := d.f1 x g1.2.1 hs'
          refine ⟨q, q1, ?_⟩
          rw [q2, List.nil_append, wt_cons]
          show ((t.peg x : Nat) : Int) ≤ _
          omega
        · obtain ⟨q, q1, q2⟩ := d.f2 _ u x h3 g1.2.1 hs' trivial
          refine ⟨q, q1, ?_⟩
          have hle := ms_le (d.ok _ _ h3) ⟨hp, g1.1, rfl⟩
          rw [q2, wt_app, wt_cons]
          show ((u + t.peg x : Nat) : Int) ≤ _
          omega
    | some u' =>
      have hs' : S[x]? = some (some u') := by rw [List.getElem?_eq_getElem hxl, hs]
      have hr : r ≠ [] := fun z => by
        subst z
        have : x = b := by rw [← h2, fin_app]; rfl
        rw [this, hb] at hs'
        cases hs'
      have e : p0 ++ x :: r = (p0 ++ [x]) ++ r := by simp
      rw [e] at h1 h2 ⊢
      exact DI.low o d hb r (p0 ++ [x]) hr h1 h2 (.inr ⟨u', by rw [fin_app]; exact hs'⟩)
/-- the least of the queue is final -/
theorem DI.least {t : Town} {s b w : Nat} {S : List (Option Nat)} {qs : List Qi} {x : Qi} (o : t.Ok) (d : DI t s S (x :: qs) FT) (hx : x.2 = qw w b) (hm : ∀ q ∈ qs, x.2.1 ≤ q.2.1) (hb : S[b]? = some none) : ms t s b = some w := by
  obtain ⟨w', b', p, e1, k, e2⟩ := d.qk x List.mem_cons_self
  rw [hx] at e1
  have ew : w = w' := Int.ofNat.inj (congrArg Prod.fst e1)
  have eb : b = b' := Int.ofNat.inj (congrArg Prod.snd e1)
  subst ew eb
  refine ms_eq ⟨⟨p, k, e2⟩, fun q kq => ?_⟩
  obtain ⟨y, hy, hle⟩ := d.low o hb q [] kq.ne kq.ch kq.en (.inl rfl)
  have h1 : (w : Int) ≤ y.2.1 := by
    have h0 : x.2.1 = (w : Int) := by rw [hx]
    rcases List.mem_cons.mp hy with z | z
    · subst z; omega
    · have := hm y z; omega
  rw [List.nil_append] at hle
  omega
theorem DI.done {t : Town} {s : Nat} {S : List (Option Nat)} (o : t.Ok) (d : DI t s S [] FT) : S = rowN t s := by
  apply List.ext_getElem?
  intro i
  by_cases hi : i < t.n
  · have hl : i < S.length := by rw [d.len]; exact hi
    rw [List.getElem?_map, List.getElem?_range hi, List.getElem?_eq_getElem hl]
    congr 1
    cases hs : S[i] with
    | some w => exact (d.ok i w (by rw [List.getElem?_eq_getElem hl, hs])).symm
    | none =>
      refine (ms_eq (o := none) fun p k => ?_).symm
      obtain ⟨q, hq, _⟩ := d.low o (b := i) (by rw [List.getElem?_eq_getElem hl, hs]) p [] k.ne k.ch k.en (.inl rfl)
      cases hq
  · have hl : ¬ i < S.length := by rw [d.len]; exact hi
    rw [List.getElem?_eq_none (by omega), List.getElem?_eq_none (by simp; omega)]
/-- one whose house is settled goes -/
theorem DI.skip {t : Town} {s w b u : Nat} {S : List (Option Nat)} {qs : List Qi} {x : Qi} (d : DI t s S (x :: qs) FT) (hx : x.2 = qw w b) (hb : S[b]? = some (some u)) : DI t s S qs FT := by
  have no : ∀ c v, S[c]? = some none → x.2 ≠ qw v c := fun c v hc e => by
    rw [hx] at e
    have : b = c := Int.ofNat.inj (congrArg Prod.snd e)
    subst this
    rw [hb] at hc; cases hc
  refine ⟨d.len, d.ok, fun q hq => d.qk q (List.mem_cons_of_mem _ hq), fun c l hc => ?_, fun b u c h1 l hc hf => ?_⟩
  · obtain ⟨q, q1, q2⟩ := d.f1 c l hc
    rcases List.mem_cons.mp q1 with z | z
    · subst z; exact absurd q2 (no c _ hc)
    · exact ⟨q, z, q2⟩
  · obtain ⟨q, q1, q2⟩ := d.f2 b u c h1 l hc hf
    rcases List.mem_cons.mp q1 with z | z
    · subst z; exact absurd q2 (no c _ hc)
    · exact ⟨q, z, q2⟩
/-- a house is settled -/
theorem DI.settle {t : Town} {s w b : Nat} {S : List (Option Nat)} {qs : List Qi} {x : Qi} (d : DI t s S (x :: qs) FT) (hx : x.2 = qw w b) (hb : S[b]? = some none) (hms : ms t s b = some w) : DI t s (S.set b (some w)) qs fun b' c => b' = b → c ∈ (t.out b).take 0 := by
  have hl : b < S.length := (List.getElem?_eq_some_iff.mp hb).1
  have ne : ∀ c, (S.set b (some w))[c]? = some none → c ≠ b ∧ S[c]? = some none := fun c hc => by
    by_cases e : b = c
    · subst e
      rw [List.getElem?_set_self hl] at hc; cases hc
    · rw [List.getElem?_set_ne e] at hc
      exact ⟨fun z => e z.symm, hc⟩
  have no : ∀ c v, c ≠ b → x.2 ≠ qw v c := fun c v hc e => by
    rw [hx] at e
    have : b = c := Int.ofNat.inj (congrArg Prod.snd e)
    exact hc this.symm
  refine ⟨by rw [List.length_set]; exact d.len, fun c v hc => ?_, fun q hq => d.qk q (List.mem_cons_of_mem _ hq), fun c l hc => ?_, fun b' u c h1 l hc hf => ?_⟩
  · by_cases e : b = c
    · subst e
      rw [List.getElem?_set_self hl] at hc
      cases hc; exact hms
    · rw [List.getElem?_set_ne e] at hc; exact d.ok c v hc
  · obtain ⟨h1, h2⟩ := ne c hc
    obtain ⟨q, q1, q2⟩ := d.f1 c l h2
    rcases List.mem_cons.mp q1 with z | z
    · subst z; exact absurd q2 (no c _ h1)
    · exact ⟨q, z, q2⟩
  · obtain ⟨g1, g2⟩ := ne c hc
    by_cases e : b' = b
    · have := hf e; rw [List.take_zero] at this; cases this
    · rw [List.getElem?_set_ne (fun z => e z.symm)] at h1
      obtain ⟨q, q1, q2⟩ := d.f2 b' u c h1 l g2 trivial
      rcases List.mem_cons.mp q1 with z | z
      · subst z; exact absurd q2 (no c _ g1)
      · exact ⟨q, z, q2⟩
theorem DI.push {t : Town} {s w b j c : Nat} {S : List (Option Nat)} {qs : List Qi} {x : Qi} (d : DI t s S qs fun b' c => b' = b → c ∈ (t.out b).take j) (hb : S[b]? = some (some w)) (hj : (t.out b)[j]? = some c) (hx : x.2 = qw (w + t.peg c) c) : DI t s S (x :: qs) fun b' c => b' = b → c ∈ (t.out b).take (j + 1) := by
  refine ⟨d.len, d.ok, fun q hq => ?_, fun c l hc => ?_, fun b' u c' h1 l hc hf => ?_⟩
  · rcases List.mem_cons.mp hq with z | z
    · subst z
      have h := ms_is t s b
      rw [d.ok b w hb] at h
      obtain ⟨⟨p, k, e⟩, _⟩ := h
      exact ⟨_, _, p ++ [c], hx, k.snoc (mem_out.mp (List.mem_of_getElem? hj)), by rw [wt_app, wt_cons, e]; unfold Wt; simp⟩
    · exact d.qk q z
  · obtain ⟨q, q1, q2⟩ := d.f1 c l hc
    exact ⟨q, List.mem_cons_of_mem _ q1, q2⟩
  · by_cases e : b' = b ∧ c' = c
    · obtain ⟨rfl, rfl⟩ := e
      rw [hb] at h1; cases h1
      exact ⟨x, List.mem_cons_self, hx⟩
    · obtain ⟨q, q1, q2⟩ := d.f2 b' u c' h1 l hc fun hb' => by
        have := hf hb'
        rw [List.take_add_one, hj] at this
        rcases List.mem_append.mp this with z | z
        · exact z
        · exact absurd ⟨hb', by simpa using z⟩ e
      exact ⟨q, List.mem_cons_of_mem _ q1, q2⟩
theorem DI.full {t : Town} {s b : Nat} {S : List (Option Nat)} {qs : List Qi} (d : DI t s S qs fun b' c => b' = b → c ∈ (t.out b).take (t.out b).length) : DI t s S qs FT :=
  ⟨d.len, d.ok, d.qk, d.f1, fun b' u c h1 l hc _ => d.f2 b' u c h1 l hc fun e => by subst e; rw [List.take_length]; exact mem_out.mpr l⟩
def vO : Option Nat → V
  | none => .non
  | some n => .int (n : Int)
theorem dqa_vO {G : Hp} (l : List (Option Nat)) : DqA G (l.map vO) (l.map eO) := .ofMap fun z _ => by
  cases z with
  | none => exact .non
  | some n => exact .int _
def nn (S : List (Option Nat)) : Nat := S.countP fun z => z.isNone
theorem nn_set : ∀ {S : List (Option Nat)} {b w : Nat}, S[b]? = some none → nn (S.set b (some w)) + 1 = nn S
  | z :: S, 0, w, h => by
    have : z = none := by simpa using h
    subst this
    simp [nn]
  | z :: S, b + 1, w, h => by
    have ih := nn_set (S := S) (b := b) (w := w) (by simpa using h)
    unfold nn at ih ⊢
    rw [List.set_cons_succ, List.countP_cons, List.countP_cons]
    omega
section
variable {P : Program} {w : World} {K : PySem.W.Frag} {mg : Str → Option Value} {base : Heap} {f : Addr} {fd : FuncData}
abbrev N_sums_from : List Str := ["street", "start", "sums", "queue", "weight", "house", "other"]
theorem sc_sums_from : FnScope N_sums_from ["street", "start"] (defScope s_sums_from) := ⟨rfl, rfl, rfl, by decide +kernel, rfl, by decide +kernel, by decide +kernel⟩
structure DW (t : Town) (s : Nat) (H' G' : Hp) (sl ql : Addr) (S : List (Option Nat)) (qs : List Qi) (F : Nat → Nat → Prop) : Prop where
  gs : G' sl = none
  hs : H' sl = some (.lst (S.map vO))
  gq : G' ql = none
  hq : H' ql = some (.lst (qs.map vq))
  hp : Hp0 qs
  hk : ∀ q ∈ qs, G' q.1 = some (tq q)
  di : DI t s S qs F
theorem ok_sums (F : Fun K "sums_from" "sums_from" s_sums_from f fd) (T : Tx K mg) (Ch : Cam P w K mg base 1 (gAd K) ["self"] (spHouses K)) (Cl : Cam P w K mg base 1 (ma K (cS K) "lends_to") ["self", "house"] (spLends K)) : FnOk P w K mg base CX0 3 f fd ["street", "start"] (spSums K) := by
  refine F.ok sc_sums_from (fun vs H Q E h => ?_) (fun cdv A outer s H1 vs Q E hr h => ?_)
  · obtain ⟨_, _, _, _, rfl, _⟩ := h; rfl
  · obtain ⟨⟨t, h⟩, G, v, u, rfl, e, ⟨o, hh⟩, hv, hu, q⟩ := h
    cases hu
    have o : t.Ok := o
    have hh : h < t.n := hh
    have o7 := o.n7
    refine ⟨_, (pss_cons (ps_set (i := 2) sc_sums_from.nd rfl (by first | exact Or.inl rfl | exact Or.inr rfl) (pe_op op_rep (pe_lst (pa_cons pe_non pa_nil)) (pe_prop (pv 0) T.cl T.pr Ch.ok (hr.mono (by decide)) Ch.b .nil pass0 (by rfl))))
    (pss_cons (ps_setLc (i := 3) (own := [("house", 5)]) rfl sc_sums_from.nd rfl rfl (sw_true rfl rfl rfl (by decide +kernel)) (pi_tupK (K := K) (pe_meth (pv 0) T.cl T.ml Cl.ok (hr.mono (by decide)) Cl.b .nil pass0 (pa_cons (pv 1) pa_nil)) rfl) (blkOk_by (N := N_sums_from) (sc := defScope s_sums_from) (by decide +kernel)) (fun _ _ _ _ _ => (pg_name (i := 5) sc_sums_from.nd rfl (by first | exact Or.inl rfl | exact Or.inr rfl))) (fun _ _ _ _ _ => pts_nil) (fun _ _ _ _ _ => (pe_tup (pa_cons (pe_ix (r := rIxT K) ix_tup (pe_fldK (K := K) (pv 0) rfl rfl) (pv 5) (fun _ _ => rfl)) (pa_cons (pv 5) pa_nil)))))
    (pss_cons (ps_expr (pe_callBfun (cr_ify (hu1 hr)) (by rfl) T.heapify (pa_cons (pv 3) pa_nil)))
    (pss_cons (ps_while PassesOwn.never (pt_cmpR op_gt (pe_callB (r := rLenQ K) call_len_seq (by rfl) T.len bt_len (pa_cons (pv 3) pa_nil)) pe_int (nomark _))
      (pss_cons (ps_asg (pe_callBfun (cr_pop (hu1 hr)) (by rfl) T.heappop (pa_cons (pv 3) pa_nil)) (pg_tupK (K := K) (n := 2) rfl (pgs_cons (pg_name (i := 4) sc_sums_from.nd rfl (by first | exact Or.inl rfl | exact Or.inr rfl)) (pgs_cons (pg_name (i := 5) sc_sums_from.nd rfl (by first | exact Or.inl rfl | exact Or.inr rfl)) pgs_nil)) rfl))
        (pss_one (ps_if (pt_cmpR op_isN (pe_ix (r := rIxL K) ix_list (pv 2) (pv 5) (fun _ _ => rfl)) pe_non (nomark _))
          (pss_cons (ps_asg (pv 4) (pg_sub (pv 2) (pv 5) set_list))
            (pss_one (ps_for PassesOwn.never rfl (pi_tupK (K := K) (pe_meth (pv 0) T.cl T.ml Cl.ok (hr.mono (by decide)) Cl.b .nil pass0 (pa_cons (pv 5) pa_nil)) rfl) (pg_name (i := 6) sc_sums_from.nd rfl (by first | exact Or.inl rfl | exact Or.inr rfl))
              (pss_one (ps_expr (pe_callBfun (cr_push (hu1 hr)) (by rfl) T.heappush (pa_cons (pv 3) (pa_cons (pe_tup (pa_cons (pe_op op_add (pv 4) (pe_ix (r := rIxT K) ix_tup (pe_fldK (K := K) (pv 0) rfl rfl) (pv 6) (fun _ _ => rfl))) (pa_cons (pv 6) pa_nil))) pa_nil))))))))
          pss_nil))))
    (pss_one (ps_ret (pe_callTy (r := rTupQ K) call_tuple_of (by rfl) T.tuple bt_tuple (pa_cons (pv 2) pa_nil)))))))), ?_⟩
    have ol : ∀ b, (t.out b).length ≤ 7 := fun b => Nat.le_trans (nodup_len t.n _ (o.out_nd b) fun x hx => o.out_lt hx) o7
    refine k_asgM (.refl e) (el_rep (xs := [.non]) (k := t.n) (el_lst (ea_one ev_c) (Nat.le_of_ble_eq_true rfl)) (Ev.mono e (ev_houses (er_st rfl hv))) (by simp; exact Nat.le_trans o7 (by decide)) (by omega)) fun sl Ha na ea gs h1s _ hs => ?_
    refine k_asgF na (ef_mapT (c := eN) (fun c => .tuple [eN (t.peg c), eN c]) (ed_lends (er_st rfl hv) (ev_var rfl) hh) (Nat.le_trans (ol h) (by decide)) ?_) fun ql Gb Hb xs nb mb gq h1q hqa hq dq => ?_
    · intro c y G' eg hc hy
      cases hy.intE
      exact turnF_name rfl et_yes fun _ => ed_tup (ead_cons (ed_ixT (ed_pegs T (er_st rfl (mono_st _ _ _ eg hv))) (ev_var rfl) (peg_at (o.out_lt hc))) (ead_cons (.ofInt (ev_var rfl)) ead_nil)) (by simp [sizeLine])
    have gsb : Gb sl = none := mb.fr sl gs (by rw [hs]; simp)
    have hsb : Hb sl = some (.lst ((List.replicate t.n (none : Option Nat)).map vO)) := by
      rw [mb.e1 _ _ hs]
      congr 2
      simp [vO]
    have hvb : StAt (cS K) t Gb v := mono_st _ _ _ mb.e2 hv
    -- the pairs of the list
    obtain ⟨qs, rfl, hkq, hqm⟩ : ∃ qs : List Qi, xs = qs.map vq ∧ (∀ q ∈ qs, Gb q.1 = some (tq q)) ∧ qs.map (·.2) = (t.out h).map fun c => qw (t.peg c) c := by
      clear hq
      generalize t.out h = l at dq
      induction l generalizing xs with
      | nil => exact ⟨[], by rw [dq.nilE]; rfl, (fun q hq => by cases hq), rfl⟩
      | cons c r ih =>
        obtain ⟨x, ys, rfl, hx, hy⟩ := dq.consE
        obtain ⟨qs, rfl, k1, k2⟩ := ih _ hy
        obtain ⟨a, zs, rfl, g1, g2⟩ := hx.tupE
        obtain ⟨z1, r1, rfl, q1, g3⟩ := g2.consE
        obtain ⟨z2, r2, rfl, q2, g4⟩ := g3.consE
        cases g4.nilE
        cases q1.intE
        cases q2.intE
        exact ⟨(a, qw (t.peg c) c) :: qs, rfl, fun q hq => by
          rcases List.mem_cons.mp hq with z | z
          · subst z; exact g1
          · exact k1 q z, by rw [List.map_cons, k2]; rfl⟩
    have hlq : qs.length ≤ 7 := by
      have := congrArg List.length hqm
      rw [List.length_map, List.length_map] at this
      have := ol h
      omega
    have slq : sl ≠ ql := fun z => by subst z; rw [hs] at hqa; cases hqa
    have d0 : DI t h (List.replicate t.n none) qs FT := by
      refine ⟨by simp, fun b w hb => ?_, fun q hq => ?_, fun c l _ => ?_, fun b u c hb => ?_⟩
      · have := List.getElem?_eq_some_iff.mp hb
        obtain ⟨_, h2⟩ := this
        simp at h2
      · have hm : q.2 ∈ qs.map (·.2) := List.mem_map_of_mem hq
        rw [hqm] at hm
        obtain ⟨c, hc, ec⟩ := List.mem_map.mp hm
        exact ⟨t.peg c, c, [c], ec.symm, .one (mem_out.mp hc), by unfold Wt; simp⟩
      · have hm : qw (t.peg c) c ∈ qs.map (·.2) := by
          rw [hqm]; exact List.mem_map.mpr ⟨c, mem_out.mpr l, rfl⟩
        obtain ⟨q, h1, h2⟩ := List.mem_map.mp hm
        exact ⟨q, h1, h2⟩
      · have := List.getElem?_eq_some_iff.mp hb
        obtain ⟨_, h2⟩ := this
        simp at h2
    refine k_ify nb h1q gq hq hkq (by omega) rfl fun qs1 Hc pm1 hp1 nc hqc only1 => ?_
    have hsc := only1 _ _ slq hsb
    refine k_while nc (fun m σ G' H' => ∃ (S : List (Option Nat)) (qs : List Qi) (y4 y5 y6 : Option V), σ = [some v, some (.int (h : Int)), some (.ref sl), some (.ref ql), y4, y5, y6] ∧ m = 8 * nn S + qs.length ∧ m ≤ 63 ∧ DW t h H' G' sl ql S qs FT) (8 * nn (List.replicate t.n none) + qs1.length)
      ⟨List.replicate t.n none, qs1, _, _, _, rfl, rfl, by rw [pm1.length_eq]; have : nn (List.replicate t.n none) ≤ t.n := (by unfold nn; exact Nat.le_trans List.countP_le_length (by simp)); omega, gsb, hsc, gq, hqc, hp1, fun q hq => hkq q (pm1.mem_iff.mp hq), d0.perm pm1⟩ ?_
    intro m σ' G' H' n' e' hw
    obtain ⟨S, qs2, y4, y5, y6, rfl, rfl, hm, dw⟩ := hw
    have hqL : Dq H' (.ref ql) (.list (qs2.map fun q => .tuple [.int q.2.1, .int q.2.2])) := .mkL dw.hq (.ofMap fun q hq => .mkT (n'.e3 _ _ (dw.hk q hq)) (.cons (.int _) (.one (.int _))))
    refine ⟨decide (0 < qs2.length), et_is (et_test (ev_op (ev_lenL (ed_var rfl hqL)) ev_c rv_I0)) ?_, fun hb H2 e2 => ?_, fun hb H2 e2 => ?_⟩
    · rw [List.length_map]; exact decide_eq_decide.mpr (by omega)
    · cases qs2 with
      | nil => exact absurd (of_decide_eq_true hb) (Nat.lt_irrefl _)
      | cons x qs3 =>
        obtain ⟨w, b, px, ex, kx, _⟩ := dw.di.qk x List.mem_cons_self
        have hbn : b < t.n := by
          have := fin_mem (a := h) kx.ne
          rw [kx.en] at this
          exact pth_lt o kx.ch _ this
        have e21 : x.2.1 = (w : Int) := by rw [ex]
        have e22 : x.2.2 = (b : Int) := by rw [ex]
        refine k_pop (n'.grow e2) h1q dw.gq (e2 _ _ dw.hq) dw.hk dw.hp rfl fun qs4 H3 pm4 hp4 hmin n3 hq3 only3 => ?_
        rw [e21, e22]
        have hs3 : H3 sl = some (.lst (S.map vO)) := only3 _ _ slq (e2 _ _ dw.hs)
        have hSL : Dq H3 (.ref sl) (lO S) := .mkL hs3 (dqa_vO S)
        have hbS : b < S.length := by rw [dw.di.len]; exact hbn
        have hSb : S[b]? = some S[b] := List.getElem?_eq_getElem hbS
        have hread : EvD (tOp (rIxL K) (tVar 2) (tVar 5)) [some v, some (.int (h : Int)), some (.ref sl), some (.ref ql), some (.int (w : Int)), some (.int (b : Int)), y6] H3 (eO S[b]) := ed_ixL (i := b) (ed_var rfl hSL) (ev_var rfl) (by rw [List.getElem?_map, hSb]; rfl)
        have hk4 : ∀ q ∈ qs4, G' q.1 = some (tq q) := fun q hq => dw.hk q (List.mem_cons_of_mem _ (pm4.mem_iff.mp hq))
        cases hSc : S[b] with
        | some u' =>
          rw [hSc] at hread hSb
          refine l_when (b := false) n3 (et_test (ev_op (EvD.int hread) ev_c rv_isN)) (fun z => nomatch z) fun _ H4 n4 e4 => ?_
          refine ⟨_, ?_, G', n4, e', S, qs4, _, _, _, rfl, rfl, ?_, dw.gs, e4 _ _ hs3, dw.gq, e4 _ _ hq3, hp4, hk4, (dw.di.skip ex hSb).perm pm4⟩
          · rw [pm4.length_eq, List.length_cons]; omega
          · rw [pm4.length_eq]; rw [List.length_cons] at hm; omega
        | none =>
          rw [hSc] at hread hSb
          have hms := dw.di.least o ex hmin hSb
          refine l_when (b := true) n3 (et_test (ev_op (EvD.non hread) ev_c rv_isN)) (fun _ H4 n4 e4 => ?_) fun z => nomatch z
          refine k_setL (R := Is (.int (w : Int))) (j := b) n4 h1s dw.gs (e4 _ _ hs3) (.of (ev_var rfl)) (ev_var rfl) (ev_var rfl) (by rw [List.length_map]; exact hbS) fun v5 G5 H5 n5 e5 fr5 only5 hs5 hv5 => ?_
          cases hv5
          have hs5' : H5 sl = some (.lst ((S.set b (some w)).map vO)) := by rw [hs5, List.map_set]; rfl
          have hq5 : H5 ql = some (.lst (qs4.map vq)) := only5 _ _ (Ne.symm slq) (e4 _ _ hq3)
          have gq5 : G5 ql = none := fr5 ql dw.gq (by rw [e4 _ _ hq3]; simp)
          have gs5 : G5 sl = none := fr5 sl dw.gs (by rw [e4 _ _ hs3]; simp)
          have hv5 : StAt (cS K) t G5 v := mono_st _ _ _ (e'.trans e5) hvb
          have hset : (S.set b (some w))[b]? = some (some w) := List.getElem?_set_self hbS
          refine l_forT n5 (ed_lends (er_st rfl hv5) (ev_var rfl) hbn) (fun j σ G' H' => ∃ (qs : List Qi) (y6 : Option V), σ = [some v, some (.int (h : Int)), some (.ref sl), some (.ref ql), some (.int (w : Int)), some (.int (b : Int)), y6] ∧ qs.length = qs4.length + j ∧ DW t h H' G' sl ql (S.set b (some w)) qs fun b' c => b' = b → c ∈ (t.out b).take j)
            (fun Ga H6 m6 => ⟨qs4, _, rfl, rfl, m6.fr sl gs5 (by rw [hs5']; simp), m6.e1 _ _ hs5', m6.fr ql gq5 (by rw [hq5]; simp), m6.e1 _ _ hq5, hp4, fun q hq => m6.e2 _ _ (e5 _ _ (hk4 q hq)), (dw.di.settle ex hSb hms).perm pm4⟩) ?_ ?_
          · intro Ga j d z σ6 G6 H6 eg hd hz n6 e6 hw
            obtain ⟨qs6, y6', rfl, hl6, dw6⟩ := hw
            rw [List.getElem?_map] at hd
            obtain ⟨c, hc, rfl⟩ := Option.map_eq_some_iff.mp hd
            cases hz.intE
            have hcn := o.out_lt (List.mem_of_getElem? hc)
            have hjl := (List.getElem?_eq_some_iff.mp hc).1
            have := ol b
            refine l_push (a := ((w + t.peg c : Nat) : Int)) (b := (c : Int)) n6 h1q dw6.gq dw6.hq dw6.hk (by rw [hl6, pm4.length_eq]; rw [List.length_cons] at hm; omega) dw6.hp rfl (ea_cons (ev_is (ev_op (ev_var rfl) (EvD.int (ed_ixT (ed_pegs T (er_st rfl (mono_st _ _ _ ((eg.trans e6).trans n6.e3) hv5))) (ev_var rfl) (peg_at hcn))) rv_I0) ?_) (ea_one (ev_var rfl))) fun x7 qs7 G7 H7 ex7 pm7 hp7 n7 e7 fr7 gx7 hq7 only7 => ?_
            · show V.int ((w : Int) + ((t.peg c : Nat) : Int)) = _
              congr 1
            · refine ⟨G7, n7, e6.trans e7, qs7, _, rfl, by rw [pm7.length_eq, List.length_cons, hl6]; omega, fr7 sl dw6.gs (by rw [dw6.hs]; simp), only7 _ _ slq dw6.hs, fr7 ql dw6.gq (by rw [dw6.hq]; simp), hq7, hp7, fun q hq => ?_, (dw6.di.push hset hc ex7).perm pm7⟩
              rcases List.mem_cons.mp (pm7.mem_iff.mp hq) with z | z
              · subst z; exact gx7
              · exact e7 _ _ (dw6.hk q z)
          · intro σ6 G6 H6 n6 e6 hw
            obtain ⟨qs6, y6', rfl, hl6, dw6⟩ := hw
            rw [List.length_map] at hl6 dw6
            have hn := nn_set (w := w) hSb
            have := ol b
            have hp4l := pm4.length_eq
            rw [List.length_cons] at hm
            refine ⟨8 * nn (S.set b (some w)) + qs6.length, by rw [List.length_cons]; omega, G6, n6, e'.trans (e5.trans e6), S.set b (some w), qs6, _, _, _, rfl, rfl, by omega, dw6.gs, dw6.hs, dw6.gq, dw6.hq, dw6.hp, dw6.hk, dw6.di.full⟩
    · have hz : qs2 = [] := by
        cases qs2 with
        | nil => rfl
        | cons x r => simp at hb
      subst hz
      have hS := dw.di.done o
      subst hS
      obtain ⟨n3, e3⟩ := (n'.grow e2).keep h1s (e2 _ _ dw.hs) dw.gs
      exact k_ret n3 q (ed_tupL (ed_var (v := .ref sl) rfl (.mkL upd_same (dqa_vO _)))) rfl
end
end Lw
namespace Dl
open PySem PySem.Spec PyProof.Rows L2 Evl
section
variable {K : PySem.W.Frag} {σ : L2.St} {H : Hp} {ta tb : TE}
theorem ed_catT {d : D} {ds es : List D} {e : D} (ha : EvD ta σ H (.tuple (d :: ds))) (hb : EvD tb σ H (.tuple (e :: es))) (hz : ds.length + es.length + 2 ≤ sizeLine) : EvD (tOp (rCatT K) ta tb) σ H (.tuple ((d :: ds) ++ (e :: es))) :=
  er_op ha hb mono_da mono_da fun G H2 v w Q e e2 hv hw q => by
    obtain ⟨a, xs, rfl, h1, h2⟩ := hv.tupE
    obtain ⟨b, ys, rfl, h3, h4⟩ := hw.tupE
    obtain ⟨x, xs', rfl, _, _⟩ := id h2.consE
    obtain ⟨y, ys', rfl, _, _⟩ := id h4.consE
    refine ⟨a, b, _, _, rfl, rfl, st_of (e2 _ _ h1), st_of (e2 _ _ h3), by simp, ?_, fun z => (by cases z), fun _ p hp => Ret.newT q e2 (h2.append h4) hp⟩
    have l1 := h2.len
    have l2 := h4.len
    rw [List.length_cons, List.length_cons] at l1 l2
    rw [List.length_cons, List.length_cons]
    omega
end
end Dl
namespace Lw
open PySem PySem.Spec PyProof.Rows L2 Evl Dl Hd He Hr Xr Classical
/-! the list of rings -/
structure PO (t : Town) (k m : Nat) (q : List Nat) : Prop where
  ln : q.length = k
  mn : m < t.n
  nd : (m :: q).Nodup
  ch : Pth t m q
  lt : ∀ x ∈ q, m < x
def hd (p : List Nat) : Nat := p.headD 0
def ext (t : Town) (p : List Nat) : List (List Nat) := ((t.out (fin 0 p)).filter fun h => decide (hd p < h) && !decide (h ∈ p)).map fun h => p ++ [h]
structure PS (t : Town) (k : Nat) (ps : List (List Nat)) : Prop where
  a : ∀ p ∈ ps, ∃ m q, p = m :: q ∧ PO t k m q
  b : ∀ m q, PO t k m q → (m :: q) ∈ ps
  c : ps.length ≤ 7 ^ (k + 1)
structure FS (t : Town) (k : Nat) (fs : List (List Nat)) : Prop where
  a : ∀ r, r ∈ fs ↔ Ring t r ∧ r.length ≤ k
  c : fs.length ≤ k * 7 ^ k
theorem last_of : ∀ (m : Nat) (q : List Nat), ∃ i, m :: q = i ++ [fin m q]
  | m, [] => ⟨[], rfl⟩
  | m, x :: q => by
    obtain ⟨i, h⟩ := last_of x q
    exact ⟨m :: i, by show m :: (x :: q) = m :: (i ++ [fin x q]); rw [← h]⟩
theorem po_len {t : Town} (o : t.Ok) {k m : Nat} {q : List Nat} (h : PO t k m q) : k + 1 ≤ t.n := by
  have := nodup_len t.n _ h.nd fun x hx => by
    rcases List.mem_cons.mp hx with e | e
    · subst e; exact h.mn
    · exact pth_lt o h.ch x e
  rw [List.length_cons, h.ln] at this; exact this
theorem ps0 {t : Town} (o : t.Ok) : PS t 0 ((List.range t.n).map fun h => [h]) := by
  refine ⟨fun p hp => ?_, fun m q h => ?_, ?_⟩
  · obtain ⟨m, hm, rfl⟩ := List.mem_map.mp hp
    exact ⟨m, [], rfl, rfl, List.mem_range.mp hm, by simp, trivial, by simp⟩
  · have : q = [] := List.length_eq_zero_iff.mp h.ln
    subst this
    exact List.mem_map.mpr ⟨m, List.mem_range.mpr h.mn, rfl⟩
  · have := o.n7; simp; omega
theorem fs0 {t : Town} : FS t 0 [] := ⟨fun r => ⟨fun h => (by cases h), fun ⟨k, h2⟩ => by obtain ⟨m, q, rfl, _⟩ := k; simp at h2⟩, by simp⟩
theorem ext_len {t : Town} (o : t.Ok) (p : List Nat) : (ext t p).length ≤ 7 := by
  unfold ext
  rw [List.length_map]
  exact Nat.le_trans (List.length_filter_le _ _) (Nat.le_trans (nodup_len t.n _ (o.out_nd _) fun x hx => o.out_lt hx) o.n7)
theorem ext_flat_len {t : Town} (o : t.Ok) : ∀ ps : List (List Nat), ((ps.map (ext t)).flatten).length ≤ 7 * ps.length
  | [] => by simp
  | p :: ps => by
    have := ext_flat_len o ps
    have := ext_len o p
    rw [List.map_cons, List.flatten_cons, List.length_append, List.length_cons]
    omega
theorem ps_step {t : Town} (o : t.Ok) {k : Nat} {ps : List (List Nat)} (h : PS t k ps) : PS t (k + 1) ((ps.map (ext t)).flatten) := by
  refine ⟨fun p hp => ?_, fun m q h2 => ?_, ?_⟩
  · obtain ⟨l, hl, hp⟩ := List.mem_flatten.mp hp
    obtain ⟨p0, hp0, rfl⟩ := List.mem_map.mp hl
    obtain ⟨y, hy, rfl⟩ := List.mem_map.mp hp
    obtain ⟨hy1, hy2⟩ := List.mem_filter.mp hy
    obtain ⟨m, q, rfl, po⟩ := h.a p0 hp0
    rw [Bool.and_eq_true, decide_eq_true_eq, Bool.not_eq_true', decide_eq_false_iff_not] at hy2
    refine ⟨m, q ++ [y], rfl, by rw [List.length_append, po.ln]; rfl, po.mn, ?_, pth_app.mpr ⟨po.ch, mem_out.mp hy1, trivial⟩, fun x hx => ?_⟩
    · rw [show m :: (q ++ [y]) = (m :: q) ++ [y] from rfl]
      refine List.nodup_append.mpr ⟨po.nd, by simp, fun u hu v hv => ?_⟩
      rw [List.mem_singleton.mp hv]; intro e; subst e; exact hy2.2 hu
    · rcases List.mem_append.mp hx with e | e
      · exact po.lt x e
      · rw [List.mem_singleton.mp e]; exact hy2.1
  · obtain ⟨i, hi⟩ := last_of m q
    have hq : q ≠ [] := fun z => by subst z; have := h2.ln; simp at this
    cases i with
    | nil => rw [List.nil_append] at hi; injection hi with _ z; exact absurd z hq
    | cons m' q' =>
      injection hi with e1 e2
      subst e1
      have e3 : q = q' ++ [fin m q] := e2
      generalize hy : fin m q = y at e3
      subst e3
      have hnd : ((m :: q') ++ [y]).Nodup := h2.nd
      have hch := pth_app.mp h2.ch
      have po : PO t k m q' := ⟨by have := h2.ln; simp at this; exact this, h2.mn, (List.nodup_append.mp hnd).1, hch.1, fun x hx => h2.lt x (List.mem_append_left _ hx)⟩
      refine List.mem_flatten.mpr ⟨ext t (m :: q'), List.mem_map_of_mem (h.b m q' po), List.mem_map.mpr ⟨y, List.mem_filter.mpr ⟨mem_out.mpr hch.2.1, ?_⟩, rfl⟩⟩
      rw [Bool.and_eq_true, decide_eq_true_eq, Bool.not_eq_true', decide_eq_false_iff_not]
      exact ⟨h2.lt y (List.mem_append_right _ List.mem_cons_self), fun z => (List.nodup_append.mp hnd).2.2 y z y List.mem_cons_self rfl⟩
  · have h1 := ext_flat_len o ps
    have h3 := h.c
    rw [Nat.pow_succ 7 (k + 1)]; omega
def closes (t : Town) (p : List Nat) : Bool := decide (1 < p.length) && decide ((fin 0 p, hd p) ∈ t.lanes)
theorem fs_step {t : Town} (o : t.Ok) {k : Nat} {ps fs : List (List Nat)} (h : PS t k ps) (g : FS t k fs) : FS t (k + 1) (fs ++ ps.filter (closes t)) := by
  refine ⟨fun r => ?_, ?_⟩
  · rw [List.mem_append, g.a, List.mem_filter]
    constructor
    · rintro (⟨h1, h2⟩ | ⟨h1, h2⟩)
      · exact ⟨h1, by omega⟩
      · obtain ⟨m, q, rfl, po⟩ := h.a r h1
        unfold closes at h2
        rw [Bool.and_eq_true, decide_eq_true_eq, decide_eq_true_eq] at h2
        exact ⟨⟨m, q, rfl, fun z => by subst z; simp at h2, po.nd, po.ch, po.lt, h2.2⟩, by rw [List.length_cons, po.ln]; exact Nat.le_refl _⟩
    · rintro ⟨h1, h2⟩
      by_cases hk : r.length ≤ k
      · exact .inl ⟨h1, hk⟩
      · obtain ⟨m, q, rfl, ne, nd, ch, lt, cl⟩ := h1
        rw [List.length_cons] at h2 hk
        refine .inr ⟨h.b m q ⟨by omega, (o.ln _ cl).2.1, nd, ch, lt⟩, ?_⟩
        unfold closes
        rw [Bool.and_eq_true, decide_eq_true_eq, decide_eq_true_eq]
        exact ⟨by rw [List.length_cons]; have := List.length_pos_iff.mpr ne; omega, cl⟩
  · rw [List.length_append]
    have h1 := g.c
    have h2 := h.c
    have h3 := List.length_filter_le (closes t) ps
    have h4 : (k + 1) * 7 ^ (k + 1) = 7 * (k * 7 ^ k) + 7 ^ (k + 1) := by
      rw [Nat.add_mul, Nat.one_mul, Nat.pow_succ]
      congr 1
      rw [← Nat.mul_assoc, Nat.mul_comm]
    rw [h4]
    omega
theorem fs_all {t : Town} (o : t.Ok) {fs : List (List Nat)} (g : FS t t.n fs) : ∀ r, r ∈ fs ↔ Ring t r := fun r => by
  rw [g.a]
  refine ⟨fun h => h.1, fun h => ⟨h, ?_⟩⟩
  obtain ⟨m, q, rfl, ne, nd, ch, lt, cl⟩ := h
  refine nodup_len t.n _ nd fun x hx => ?_
  rcases List.mem_cons.mp hx with e | e
  · subst e; exact (o.ln _ cl).2.1
  · exact pth_lt o ch x e
theorem pow7 {k : Nat} (h : k ≤ 8) : 7 ^ k ≤ 5764801 := Nat.le_trans (Nat.pow_le_pow_right (by decide) h) (by decide)
section
variable {P : Program} {w : World} {K : PySem.W.Frag} {mg : Str → Option Value} {base : Heap} {f : Addr} {fd : FuncData}
abbrev N_law_rings : List Str := ["_law_street", "_law_paths", "_law_found", "_law_turn", "_law_longer", "_law_path", "_law_nexts", "_law_house", "_law_lane"]
theorem sc_law_rings : FnScope N_law_rings ["_law_street"] (defScope s_law_rings) := ⟨rfl, rfl, rfl, by decide +kernel, rfl, by decide +kernel, by decide +kernel⟩
abbrev spRingL : Sp := sp1 (fun t : Town => Da (eTown t)) Town.Ok (fun t => fun G v => ∃ L : List (List Nat), Dq G v (.list (L.map tN)) ∧ (∀ r, r ∈ L ↔ Ring t r) ∧ L.length ≤ 10000000)
theorem ok_rings (F : Fun K "_law_rings" "_law_rings" s_law_rings f fd) (T : Tx K mg) : FnOk P w K mg base CX0 1 f fd ["_law_street"] spRingL := by
  refine F.ok sc_law_rings (fun vs H Q E h => ?_) (fun cdv A outer s H1 vs Q E hr h => ?_)
  · obtain ⟨_, _, _, rfl, _⟩ := h; rfl
  · obtain ⟨t, G, v, rfl, e, o, hv, q⟩ := h
    have o7 := o.n7
    refine ⟨_, (pss_cons (ps_setLc (i := 1) (own := [("_law_house", 7)]) rfl sc_law_rings.nd rfl rfl (sw_true rfl rfl rfl (by decide +kernel)) (pi_range1 (by rfl) T.range (pa_cons (pe_callB (r := rLenQ K) call_len_seq (by rfl) T.len bt_len (pa_cons (pe_ix (r := rIxL K) ix_list (pv 0) pe_int (fun _ _ => rfl)) pa_nil)) pa_nil)) (blkOk_by (N := N_law_rings) (sc := defScope s_law_rings) (by decide +kernel)) (fun _ _ _ _ _ => (pg_name (i := 7) sc_law_rings.nd rfl (by first | exact Or.inl rfl | exact Or.inr rfl))) (fun _ _ _ _ _ => pts_nil) (fun _ _ _ _ _ => (pe_tup (pa_cons (pv 7) pa_nil))))
    (pss_cons (ps_set (i := 2) sc_law_rings.nd rfl (by first | exact Or.inl rfl | exact Or.inr rfl) (pe_lst pa_nil))
    (pss_cons (ps_for PassesOwn.never rfl (pi_range1 (by rfl) T.range (pa_cons (pe_callB (r := rLenQ K) call_len_seq (by rfl) T.len bt_len (pa_cons (pe_ix (r := rIxL K) ix_list (pv 0) pe_int (fun _ _ => rfl)) pa_nil)) pa_nil)) (pg_name (i := 3) sc_law_rings.nd rfl (by first | exact Or.inl rfl | exact Or.inr rfl))
      (pss_cons (ps_set (i := 2) sc_law_rings.nd rfl (by first | exact Or.inl rfl | exact Or.inr rfl) (pe_op op_cat (pv 2) (pe_lc (own := [("_law_path", 5)]) rfl sc_law_rings.nd (pi_list (pv 1)) (blkOk_by (N := N_law_rings) (sc := defScope s_law_rings) (by decide +kernel)) (fun _ _ _ _ _ => (pg_name (i := 5) sc_law_rings.nd rfl (by first | exact Or.inl rfl | exact Or.inr rfl))) (fun _ _ _ _ _ => pts_one (PW.pt (pw_and (pt_cmpR op_gt (pe_callB (r := rLenQ K) call_len_seq (by rfl) T.len bt_len (pa_cons (pv 5) pa_nil)) pe_int (nomark _)) (pw_and1 (pt_cmpR (r := rInD K) (op_inD (hu65 hr)) (pe_tup (pa_cons (pe_ix (r := rIxT K) ix_tup (pv 5) (pe_un un_neg pe_int) (fun _ _ => rfl)) (pa_cons (pe_ix (r := rIxT K) ix_tup (pv 5) pe_int (fun _ _ => rfl)) pa_nil))) (pe_ix (r := rIxL K) ix_list (pv 0) pe_int (fun _ _ => rfl)) (by rfl)))))) (fun _ _ _ _ _ => (pv 5)))))
        (pss_cons (ps_set (i := 4) sc_law_rings.nd rfl (by first | exact Or.inl rfl | exact Or.inr rfl) (pe_lst pa_nil))
        (pss_cons (ps_for PassesOwn.never rfl (pi_list (pv 1)) (pg_name (i := 5) sc_law_rings.nd rfl (by first | exact Or.inl rfl | exact Or.inr rfl))
          (pss_cons (ps_setLc (i := 6) (own := [("_law_lane", 8)]) rfl sc_law_rings.nd rfl rfl (sw_true rfl rfl rfl (by decide +kernel)) (pi_list (pe_ix (r := rIxL K) ix_list (pv 0) pe_int (fun _ _ => rfl))) (blkOk_by (N := N_law_rings) (sc := defScope s_law_rings) (by decide +kernel)) (fun _ _ _ _ _ => (pg_name (i := 8) sc_law_rings.nd rfl (by first | exact Or.inl rfl | exact Or.inr rfl))) (fun _ _ _ _ _ => pts_one (pt_cmpR op_eq (pe_ix (r := rIxT K) ix_tup (pv 8) pe_int (fun _ _ => rfl)) (pe_ix (r := rIxT K) ix_tup (pv 5) (pe_un un_neg pe_int) (fun _ _ => rfl)) (nomark _))) (fun _ _ _ _ _ => (pe_ix (r := rIxT K) ix_tup (pv 8) pe_int (fun _ _ => rfl))))
            (pss_one (ps_set (i := 4) sc_law_rings.nd rfl (by first | exact Or.inl rfl | exact Or.inr rfl) (pe_op op_cat (pv 4) (pe_lc (own := [("_law_house", 7)]) rfl sc_law_rings.nd (pi_list (pv 6)) (blkOk_by (N := N_law_rings) (sc := defScope s_law_rings) (by decide +kernel)) (fun _ _ _ _ _ => (pg_name (i := 7) sc_law_rings.nd rfl (by first | exact Or.inl rfl | exact Or.inr rfl))) (fun _ _ _ _ _ => pts_one (PW.pt (pw_and (pt_cmpR op_gt (pv 7) (pe_ix (r := rIxT K) ix_tup (pv 5) pe_int (fun _ _ => rfl)) (nomark _)) (pw_and1 (pt_cmpR (r := rIn K true) op_notIn_seq (pv 7) (pv 5) (by rfl)))))) (fun _ _ _ _ _ => (pe_op (r := rCatT K) op_catT (pv 5) (pe_tup (pa_cons (pv 7) pa_nil))))))))))
        (pss_one (ps_set (i := 1) sc_law_rings.nd rfl (by first | exact Or.inl rfl | exact Or.inr rfl) (pv 4)))))))
    (pss_one (ps_ret (pv 2)))))), ?_⟩
    have ln : ∀ {σ : L2.St} {G' : Hp}, Ex G G' → σ[0]? = some (some v) → Ev (tCB (rLenQ K) (tCons (tOp (rIxL K) (tVar 0) (tC (.int 0))) tNil)) σ G' (.int (t.n : Int)) := fun eg h0 => ev_is (ev_lenL (ed_k0L (ed_var h0 (hv.mono eg)))) (by rw [List.length_map]; rfl)
    have lan : ∀ {σ : L2.St} {G' : Hp}, Ex G G' → σ[0]? = some (some v) → EvD (tOp (rIxL K) (tVar 0) (tC (.int 1))) σ G' (lP t.lanes) := fun eg h0 => ed_k1L (ed_var h0 (hv.mono eg))
    refine k_asg (R := Da (.list (((List.range t.n).map fun h => [h]).map tN))) (.refl e) ?_ fun v1 G1 Ha n1 m1 hp1 => ?_
    · rw [List.map_map]
      exact ed_mapR (fun h => tN [h]) (ea_one (ln (.refl _) rfl)) (by omega) fun i hi => turnF_name rfl et_yes fun _ => ed_tup (ead_cons (.ofInt (ev_var rfl)) ead_nil) (by simp [sizeLine])
    refine k_asg (R := Da (.list (([] : List (List Nat)).map tN))) n1 (ed_lst ead_nil (by simp)) fun v2 G2 Hb n2 m2 hf2 => ?_
    have e2 : Ex G G2 := m1.e2.trans m2.e2
    refine k_forR n2 (ea_one (Ev.mono n2.e3 (ln e2 rfl))) (by omega) (fun k σ G' H' => ∃ (vp vf : V) (y3 y4 y5 y6 y7 y8 : Option V) (ps fs : List (List Nat)), σ = [some v, some vp, some vf, y3, y4, y5, y6, y7, y8] ∧ Dq G' vp (.list (ps.map tN)) ∧ Dq G' vf (.list (fs.map tN)) ∧ PS t k ps ∧ FS t k fs)
      (fun H' n' e' => ⟨v1, v2, _, _, _, _, _, _, _, _, rfl, Dq.mono hp1 m2.e2, hf2, ps0 o, fs0⟩) ?_ ?_
    · intro k σ' G' H' hk n' e' hw
      obtain ⟨vp, vf, y3, y4, y5, y6, y7, y8, ps, fs, rfl, hp, hf, hPS, hFS⟩ := hw
      have eG : Ex G G' := e2.trans e'
      have b1 : ps.length ≤ 5764801 := Nat.le_trans hPS.c (pow7 (by omega))
      have b2 : fs.length ≤ 6 * 5764801 / 7 := by
        have h1 := hFS.c
        have h2 : k * 7 ^ k ≤ 6 * 7 ^ 6 := Nat.mul_le_mul (by omega) (Nat.pow_le_pow_right (by decide) (by omega))
        exact Nat.le_trans h1 (Nat.le_trans h2 (by decide))
      have lasts : ∀ {p : List Nat}, p ∈ ps → ∀ {σ : L2.St} {Gx : Hp} {te : TE}, EvD te σ Gx (tN p) → EvD (tOp (rIxT K) te (tUn (rU fun i => .int (-i)) (tC (.int 1)))) σ Gx (eN (fin 0 p)) ∧ EvD (tOp (rIxT K) te (tC (.int 0))) σ Gx (eN (hd p)) := fun {p} hpp {σ Gx te} hte => by
        obtain ⟨m, q, rfl, po⟩ := hPS.a p hpp
        obtain ⟨i, hi⟩ := last_of m q
        refine ⟨?_, ed_k0T hte⟩
        have h1 : EvD te σ Gx (.tuple ((i.map eN) ++ [eN (fin m q)])) := by
          have : tN (m :: q) = .tuple ((i.map eN) ++ [eN (fin m q)]) := by
            show PyData.tuple ((m :: q).map eN) = _
            rw [hi, List.map_append]
            have : fin m q = fin m q := rfl
            rfl
          rw [← this]; exact hte
        exact ed_lastT h1 (ev_un ev_c ru_neg)
      refine k_asg (R := Da (.list ((fs ++ ps.filter (closes t)).map tN))) n' ?_ fun v3 G3 H3 n3 m3 hf3 => ?_
      · rw [List.map_append]
        refine ed_cat (ed_var rfl hf) (ed_lcL (c := tN) (closes t) tN (ed_var rfl hp) (by omega) ?_) (by rw [List.length_map, List.length_map]; have := List.length_filter_le (closes t) ps; unfold sizeLine; omega)
        intro p x Gx eg hpp hx
        refine turnF_name rfl (et_and (et_is (et_test (ev_op (ev_lenT (ed_var rfl hx)) ev_c rv_I0)) ?_) fun _ => et_test (ev_is (ev_inD (e := ePr (fin 0 p, hd p)) (ed_tup (ead_cons (lasts hpp (ed_var rfl hx)).1 (ead_cons (lasts hpp (ed_var rfl hx)).2 ead_nil)) (by simp [sizeLine])) (lan (eG.trans eg) rfl) ((sh_pr _).ok (by decide)) ((sh_lmap fun z _ => sh_pr z).ok (by decide))) ?_)) fun _ => ed_var rfl hx
        · show decide ((1 : Int) < ((p.map eN).length : Int)) = _
          rw [List.length_map]; exact decide_eq_decide.mpr (by omega)
        · rw [any_lanes]
      refine k_asg (R := Da (.list (([] : List (List Nat)).map tN))) n3 (ed_lst ead_nil (by simp)) fun v4 G4 H4 n4 m4 hl4 => ?_
      have hp4 := hp.mono (m3.e2.trans m4.e2)
      have hf4 := Dq.mono hf3 m4.e2
      refine k_forL n4 (ed_var rfl hp4) (fun i σ G' H' => ∃ (vl : V) (y5 y6 y7 y8 : Option V), σ = [some v, some vp, some v3, some (.int (k : Int)), some vl, y5, y6, y7, y8] ∧ Dq G' vl (.list ((((ps.take i).map (ext t)).flatten).map tN)))
        (fun Ga H' m5 => ⟨v4, _, _, _, _, rfl, by rw [List.take_zero]; exact Dq.mono hl4 m5.e2⟩) ?_ ?_
      · intro Ga i d x σ5 G5 H5 eg5 hd5 hx5 n5 e5 hw
        obtain ⟨vl, y5, y6, y7, y8, rfl, hl5⟩ := hw
        rw [List.getElem?_map] at hd5
        obtain ⟨p, hpi, rfl⟩ := Option.map_eq_some_iff.mp hd5
        have hpp := List.mem_of_getElem? hpi
        have hx6 := hx5.mono e5
        have eG5 : Ex G G5 := eG.trans ((m3.e2.trans m4.e2).trans (eg5.trans e5))
        refine k_asg (R := Da (lN (t.out (fin 0 p)))) n5 ?_ fun v7 G7 H7 n7 m7 hn7 => ?_
        · show EvD _ _ _ (.list ((t.out (fin 0 p)).map eN))
          rw [show (t.out (fin 0 p)).map eN = (t.lanes.filter fun q => q.1 == fin 0 p).map fun q => eN q.2 from by unfold Town.out; rw [List.map_map]; rfl]
          refine ed_lcL (c := ePr) (fun q : Nat × Nat => q.1 == fin 0 p) (fun q : Nat × Nat => eN q.2) (lan eG5 rfl) (by have := lanes_len o; omega) ?_
          intro z y Gx eg hz hy
          exact turnF_name rfl (et_is (et_test (ev_op (EvD.int (ed_k0T (ed_var rfl hy))) (EvD.int (lasts hpp (ed_var (i := 5) rfl (hx6.mono eg))).1) (rv_eq rfl))) (eq_nat _ _)) fun _ => ed_k1T (ed_var rfl hy)
        · refine l_asg (R := Da (.list ((((ps.take (i + 1)).map (ext t)).flatten).map tN))) n7 ?_ fun v8 G8 H8 n8 m8 hl8 => ⟨G8, n8, e5.trans (m7.e2.trans m8.e2), v8, _, _, _, _, rfl, hl8⟩
          have tk : ((ps.take (i + 1)).map (ext t)).flatten = ((ps.take i).map (ext t)).flatten ++ ext t p := by
            rw [List.take_add_one, hpi, List.map_append, List.flatten_append]
            simp
          rw [tk, List.map_append]
          have tl : ((ps.take i).map (ext t)).flatten.length ≤ 7 ^ 8 := by
            have h1 := ext_flat_len o (ps.take i)
            have h2 : (ps.take i).length ≤ ps.length := by rw [List.length_take]; omega
            have h3 : ps.length ≤ 7 ^ 7 := Nat.le_trans hPS.c (Nat.pow_le_pow_right (by decide) (by omega))
            have h4 : 7 * 7 ^ 7 = 7 ^ 8 := by decide
            omega
          have e0 : (ext t p).map tN = ((t.out (fin 0 p)).filter fun h => decide (hd p < h) && !decide (h ∈ p)).map fun h => tN (p ++ [h]) := by unfold ext; rw [List.map_map]; rfl
          rw [e0]
          refine ed_cat (ed_var rfl (hl5.mono m7.e2)) (ed_lcL (c := eN) (fun h => decide (hd p < h) && !decide (h ∈ p)) (fun h => tN (p ++ [h])) (ed_var rfl hn7) ?_ ?_) ?_
          · exact Nat.le_trans (nodup_len t.n _ (o.out_nd _) fun x hx => o.out_lt hx) (by omega)
          · intro h y Gx eg hh hy
            cases hy.intE
            have hx7 := hx6.mono (m7.e2.trans eg)
            refine turnF_name rfl (et_and (et_is (et_test (ev_op (ev_var rfl) (EvD.int (lasts hpp (ed_var (i := 5) rfl hx7)).2) rv_I0)) ?_) fun _ => et_test (ev_inT (neg := true) (ev_var rfl) (ed_var rfl hx7))) fun _ => ?_
            · exact decide_eq_decide.mpr (by omega)
            · obtain ⟨m, q, rfl, po⟩ := hPS.a p hpp
              show EvD _ _ _ (.tuple (((m :: q) ++ [h]).map eN))
              rw [List.map_append]
              refine ed_catT (d := eN m) (ds := q.map eN) (e := eN h) (es := []) (ed_var rfl hx7) (ed_tup (ead_cons (.ofInt (ev_var rfl)) ead_nil) (by simp [sizeLine])) ?_
              rw [List.length_map, po.ln]
              show k + 0 + 2 ≤ 2 ^ 24
              omega
          · rw [List.length_map, List.length_map]
            have h1 := ext_len o p
            unfold ext at h1
            rw [List.length_map] at h1
            unfold sizeLine
            have : 7 ^ 8 = 5764801 := by decide
            omega
      · intro σ5 G5 H5 n5 e5 hw
        obtain ⟨vl, y5, y6, y7, y8, rfl, hl5⟩ := hw
        rw [List.length_map, List.take_length] at hl5
        refine l_asg n5 (ed_var (i := 4) rfl hl5) fun v9 G9 H9 n9 m9 hp9 => ⟨G9, n9, e'.trans ((m3.e2.trans m4.e2).trans (e5.trans m9.e2)), v9, v3, _, _, _, _, _, _, _, _, rfl, hp9, hf4.mono (e5.trans m9.e2), ps_step o hPS, fs_step o hPS hFS⟩
    · intro σ' G' H' n' e' hw
      obtain ⟨vp, vf, y3, y4, y5, y6, y7, y8, ps, fs, rfl, hp, hf, hPS, hFS⟩ := hw
      refine k_ret n' q ((ed_var (v := vf) rfl hf).imp fun G9 v9 _ h9 => ⟨fs, h9, fs_all o hFS, ?_⟩) rfl
      have h1 := hFS.c
      have h2 : t.n * 7 ^ t.n ≤ 7 * 7 ^ 7 := Nat.mul_le_mul (by omega) (Nat.pow_le_pow_right (by decide) (by omega))
      exact Nat.le_trans h1 (Nat.le_trans h2 (by decide))
end
end Lw
namespace Dl
open PySem PySem.Spec PyProof.Rows L2 Evl Xr Hr
section
variable {K : PySem.W.Frag} {σ : L2.St} {H H0 H1 G : Hp} {tl te ta tb : TE} {t : TT} {g : TG} {vs : List Nat} {Dn : Ends} {tu tz : TS}
theorem ef_mapL {α : Type} {l : List α} {c : α → D} (e : α → D) (hs : EvD tl σ H (.list (l.map c))) (hz : l.length ≤ 10000000)
    (turn : ∀ (z : α) (x : V) (G : Hp), Ex H G → z ∈ l → Dq G x (c z) → TurnF σ vs g t te true (e z) x G) : EvF (tLc (iList K tl) g t te vs) σ H (l.map e) := fun H0 e0 Q q =>
  hs H0 e0 _ fun v Hs G n hv => by
    obtain ⟨a, xs, rfl, h1, h2⟩ := hv.lstE
    refine ⟨a, rfl, ⟨xs, sq_of (n.e3 _ _ h1)⟩, fun Dl hD => lc_list (xs := xs) (CwR G Hs (PlF l (fun _ => true) e) Dl) (cw_start n.e3 hD rfl) (fun i H' _ p => ?_) (fun i x H' hi p => ?_) (fun H' p => ?_)⟩
    · obtain ⟨G', _, _, n', _⟩ := p.ex
      exact sq_of (n'.e3 _ _ (n'.e2 _ _ h1))
    · obtain ⟨d, hd, hx⟩ := h2.getV hi
      have hlt := (List.getElem?_eq_some_iff.mp hd).1
      rw [List.length_map] at hlt
      rw [List.getElem?_map] at hd
      obtain ⟨z, hz', rfl⟩ := Option.map_eq_some_iff.mp hd
      exact ((turn z x G n.e2 (List.mem_of_getElem? hz') hx).turn hz').run p (by omega)
    · obtain ⟨G', acc, ds, nx, g1, g2, h1', qa, hp, _⟩ := p.ex
      refine q Dl H' G' acc (n.trans nx) g1 (fresh_back n.e1 g2) h1' ?_
      have hl := h2.len
      rw [List.length_map] at hl
      unfold PlF at hp
      rw [filter_all, List.take_of_length_le (by omega)] at hp
      rw [← hp]; exact qa
theorem set_same {α : Type} : ∀ {l : List α} {i : Nat} {x : α}, l[i]? = some x → l.set i x = l
  | y :: l, 0, x, h => by simp at h; subst h; rfl
  | y :: l, i + 1, x, h => by rw [List.set_cons_succ, set_same (by simpa using h)]
/-- if t: x = e -/
theorem k_whenSet {i : Nat} {b : Bool} {v0 v1 : V} (n : Nx H0 H1 G H) (hv : σ[i]? = some (some v0)) (ht : EvT t σ H b) (he : b = true → Ev te σ H v1) (k : ∀ H', Nx H0 H1 G H' → Ex H H' → tz Dn (σ.set i (some (if b = true then v1 else v0))) H') : tSeq (tIfS t (tAsg te (gName i)) tNext) tz Dn σ H :=
  k_when n ht (fun hb H' n' e' => he hb H' e' _ fun H2 e2 => by
    have := k H2 (n'.grow e2) (e'.trans e2)
    rw [if_pos hb] at this; exact this) fun hb H' n' e' => by
    have := k H' n' e'
    rw [if_neg (by rw [hb]; decide), set_same hv] at this; exact this
end
end Dl
namespace Lw
open PySem PySem.Spec PyProof.Rows L2 Evl Dl Hd He Hr Xr Classical
theorem dqa_vOE {G : Hp} : ∀ {S : List (Option Nat)} {xs : List V}, DqA G xs (S.map eO) → xs = S.map vO
  | [], xs, h => h.nilE
  | o :: S, xs, h => by
    obtain ⟨x, ys, rfl, hx, hy⟩ := h.consE
    rw [dqa_vOE hy]
    cases o with
    | none => have hx : Dq G x .none := hx; rw [hx.nonE]; rfl
    | some n => have hx : Dq G x (eN n) := hx; rw [hx.intE]; rfl
theorem evO {te : TE} {σ : L2.St} {H : Hp} : ∀ {o : Option Nat}, EvD te σ H (eO o) → Ev te σ H (vO o)
  | none, h => EvD.non h
  | some _, h => EvD.int h
/-! the repeated relaxing -/
def LeS (S : List (Option Nat)) (b x : Nat) : Prop := ∃ w, S[b]? = some (some w) ∧ w ≤ x
structure BI (t : Town) (s k : Nat) (S : List (Option Nat)) : Prop where
  len : S.length = t.n
  so : ∀ b w, S[b]? = some (some w) → ∃ p, Wk t s b p ∧ Wt t p = w
  co : ∀ b p, Wk t s b p → p.length ≤ k → LeS S b (Wt t p)
structure LI (t : Town) (s : Nat) (S : List (Option Nat)) (i : Nat) (S' : List (Option Nat)) (ch : Bool) : Prop where
  len : S'.length = t.n
  so : ∀ b w, S'[b]? = some (some w) → ∃ p, Wk t s b p ∧ Wt t p = w
  mo : ∀ b w, S[b]? = some (some w) → LeS S' b w
  d1 : ∀ b, (s, b) ∈ t.lanes.take i → LeS S' b (t.peg b)
  d2 : ∀ a b u, (a, b) ∈ t.lanes.take i → S[a]? = some (some u) → LeS S' b (u + t.peg b)
  un : ch = false → S' = S
theorem LeS.mono {S : List (Option Nat)} {b x y : Nat} (h : LeS S b x) (e : x ≤ y) : LeS S b y := by
  obtain ⟨w, h1, h2⟩ := h; exact ⟨w, h1, Nat.le_trans h2 e⟩
theorem LI.start {t : Town} {s k : Nat} {S : List (Option Nat)} (h : BI t s k S) : LI t s S 0 S false :=
  ⟨h.len, h.so, fun b w hb => ⟨w, hb, Nat.le_refl _⟩, fun b hb => by simp at hb, fun a b u hb => by simp at hb, fun _ => rfl⟩
theorem LI.keep {t : Town} {s i a b : Nat} {S S' : List (Option Nat)} {ch : Bool} (h : LI t s S i S' ch) (hl : t.lanes[i]? = some (a, b)) (h1 : a = s → LeS S' b (t.peg b)) (h2 : ∀ u, S[a]? = some (some u) → LeS S' b (u + t.peg b)) : LI t s S (i + 1) S' ch := by
  have tk : t.lanes.take (i + 1) = t.lanes.take i ++ [(a, b)] := by rw [List.take_add_one, hl]; rfl
  refine ⟨h.len, h.so, h.mo, fun b' hb => ?_, fun a' b' u hb hu => ?_, h.un⟩
  · rw [tk] at hb
    rcases List.mem_append.mp hb with z | z
    · exact h.d1 b' z
    · have := List.mem_singleton.mp z
      injection this with e1 e2
      subst e2; exact h1 e1.symm
  · rw [tk] at hb
    rcases List.mem_append.mp hb with z | z
    · exact h.d2 a' b' u z hu
    · have := List.mem_singleton.mp z
      injection this with e1 e2
      subst e1 e2; exact h2 u hu
theorem LI.upd {t : Town} {s i a b x : Nat} {S S' : List (Option Nat)} {ch : Bool} (h : LI t s S i S' ch) (hl : t.lanes[i]? = some (a, b)) (hb : b < S'.length) (hw : ∃ p, Wk t s b p ∧ Wt t p = x) (hlt : ∀ y, S'[b]? = some (some y) → x ≤ y) (h1 : a = s → x ≤ t.peg b) (h2 : ∀ u, S[a]? = some (some u) → x ≤ u + t.peg b) :
    LI t s S (i + 1) (S'.set b (some x)) true := by
  have low : ∀ c y, LeS S' c y → LeS (S'.set b (some x)) c y := fun c y ⟨w, k1, k2⟩ => by
    by_cases e : b = c
    · subst e
      exact ⟨x, List.getElem?_set_self hb, Nat.le_trans (hlt w k1) k2⟩
    · exact ⟨w, by rw [List.getElem?_set_ne e]; exact k1, k2⟩
  have h0 : LI t s S i (S'.set b (some x)) true := ⟨by rw [List.length_set]; exact h.len, fun c w hc => by
    by_cases e : b = c
    · subst e
      rw [List.getElem?_set_self hb] at hc
      cases hc; exact hw
    · rw [List.getElem?_set_ne e] at hc; exact h.so c w hc, fun c w hc => low c w (h.mo c w hc), fun c hc => low c _ (h.d1 c hc), fun a c u hc hu => low c _ (h.d2 a c u hc hu), fun z => nomatch z⟩
  exact h0.keep hl (fun e => ⟨x, List.getElem?_set_self hb, h1 e⟩) fun u hu => ⟨x, List.getElem?_set_self hb, h2 u hu⟩
/-- the last step of a walk -/
theorem wk_last {t : Town} {s b : Nat} {p : List Nat} (k : Wk t s b p) : ∃ q, p = q ++ [b] ∧ Pth t s q ∧ (fin s q, b) ∈ t.lanes := by
  have := List.dropLast_concat_getLast k.ne
  generalize p.getLast k.ne = y at this
  generalize p.dropLast = q at this
  subst this
  have h := pth_app.mp k.ch
  have e := k.en
  rw [fin_app] at e
  have e : y = b := e
  subst e
  exact ⟨q, rfl, h.1, h.2.1⟩
theorem LI.next {t : Town} {s k : Nat} {S S' : List (Option Nat)} {ch : Bool} (g : BI t s k S) (h : LI t s S t.lanes.length S' ch) : BI t s (k + 1) S' := by
  refine ⟨h.len, h.so, fun b p kp hk => ?_⟩
  obtain ⟨q, rfl, hq, l⟩ := wk_last kp
  have wtq : Wt t (q ++ [b]) = Wt t q + t.peg b := by rw [wt_app, wt_cons]; unfold Wt; simp
  rw [wtq]
  rw [List.length_append, List.length_singleton] at hk
  by_cases e : q = []
  · subst e
    exact (h.d1 b (by rw [List.take_length]; exact l)).mono (by omega)
  · obtain ⟨u, hu, hle⟩ := g.co (fin s q) q ⟨e, hq, rfl⟩ (by omega)
    exact (h.d2 _ b u (by rw [List.take_length]; exact l) hu).mono (by omega)
structure FinS (t : Town) (s : Nat) (S : List (Option Nat)) : Prop where
  len : S.length = t.n
  so : ∀ b w, S[b]? = some (some w) → ∃ p, Wk t s b p ∧ Wt t p = w
  co : ∀ b p, Wk t s b p → p.Nodup → LeS S b (Wt t p)
theorem LI.still {t : Town} {s : Nat} {S : List (Option Nat)} {ch : Bool} {S' : List (Option Nat)} (h : LI t s S t.lanes.length S' ch) (hc : ch = false) : FinS t s S' := by
  have e := h.un hc
  subst e
  refine ⟨h.len, h.so, fun b p kp _ => ?_⟩
  have key : ∀ (n : Nat) (b : Nat) (p : List Nat), p.length ≤ n → Wk t s b p → LeS S' b (Wt t p) := fun n => by
    induction n with
    | zero => exact fun b p hp k => absurd (List.length_eq_zero_iff.mp (Nat.le_zero.mp hp)) k.ne
    | succ n ih =>
      intro b p hp kp
      obtain ⟨q, rfl, hq, l⟩ := wk_last kp
      have wtq : Wt t (q ++ [b]) = Wt t q + t.peg b := by rw [wt_app, wt_cons]; unfold Wt; simp
      rw [wtq]
      rw [List.length_append, List.length_singleton] at hp
      by_cases e : q = []
      · subst e
        exact (h.d1 b (by rw [List.take_length]; exact l)).mono (by omega)
      · obtain ⟨u, hu, hle⟩ := ih (fin s q) q (by omega) ⟨e, hq, rfl⟩
        exact (h.d2 _ b u (by rw [List.take_length]; exact l) hu).mono (by omega)
  exact key _ b p (Nat.le_refl _) kp
theorem BI.fin {t : Town} (o : t.Ok) {s : Nat} {S : List (Option Nat)} (h : BI t s t.n S) : FinS t s S :=
  ⟨h.len, h.so, fun b p kp nd => h.co b p kp (nodup_len t.n p nd fun x hx => pth_lt o kp.ch x hx)⟩
theorem FinS.done {t : Town} {s : Nat} {S : List (Option Nat)} (h : FinS t s S) : S = rowN t s := by
  apply List.ext_getElem?
  intro i
  by_cases hi : i < t.n
  · have hl : i < S.length := by rw [h.len]; exact hi
    rw [List.getElem?_map, List.getElem?_range hi, List.getElem?_eq_getElem hl]
    congr 1
    refine (ms_eq ?_).symm
    cases hs : S[i] with
    | some w =>
      refine ⟨h.so i w (by rw [List.getElem?_eq_getElem hl, hs]), fun p k => ?_⟩
      obtain ⟨q, k2, nd, hle⟩ := nodup_walk _ (Nat.le_refl _) k
      obtain ⟨w', hw', hle'⟩ := h.co i q k2 nd
      rw [List.getElem?_eq_getElem hl, hs] at hw'
      cases hw'
      omega
    | none =>
      intro p k
      obtain ⟨q, k2, nd, hle⟩ := nodup_walk _ (Nat.le_refl _) k
      obtain ⟨w', hw', hle'⟩ := h.co i q k2 nd
      rw [List.getElem?_eq_getElem hl, hs] at hw'
      cases hw'
  · have hl : ¬ i < S.length := by rw [h.len]; exact hi
    rw [List.getElem?_eq_none (by omega), List.getElem?_eq_none (by simp; omega)]
section
variable {P : Program} {w : World} {K : PySem.W.Frag} {mg : Str → Option Value} {base : Heap} {f : Addr} {fd : FuncData}
abbrev N_law_sums : List Str := ["_law_pegs", "_law_lanes_here", "_law_start", "_law_sums_here", "_law_turn", "_law_changed", "_law_lane", "_law_before", "_law_here", "_law_house"]
theorem sc_law_sums : FnScope N_law_sums ["_law_pegs", "_law_lanes_here", "_law_start"] (defScope s_law_sums) := ⟨rfl, rfl, rfl, by decide +kernel, rfl, by decide +kernel, by decide +kernel⟩
abbrev spLSums : Sp := sp3 (fun z : Town × Nat => Da (lN z.1.pegs)) (fun z => Da (lP z.1.lanes)) (fun z => Is (.int (z.2 : Int))) (fun z => z.1.Ok ∧ z.2 < z.1.n) (fun z => Da (tO (rowN z.1 z.2)))
theorem ok_lsums (F : Fun K "_law_sums" "_law_sums" s_law_sums f fd) (T : Tx K mg) : FnOk P w K mg base CX0 1 f fd ["_law_pegs", "_law_lanes_here", "_law_start"] spLSums := by
  refine F.ok sc_law_sums (fun vs H Q E h => ?_) (fun cdv A outer s H1 vs Q E hr h => ?_)
  · obtain ⟨_, _, _, _, _, rfl, _⟩ := h; rfl
  · obtain ⟨⟨t, h⟩, G, vp, vl, u, rfl, e, ⟨o, hh⟩, hp, hl, hu, q⟩ := h
    cases hu
    have o : t.Ok := o
    have hh : h < t.n := hh
    have hp : Dq G vp (lN t.pegs) := hp
    have hl : Dq G vl (lP t.lanes) := hl
    have o7 := o.n7
    have o7' : t.pegs.length ≤ 7 := o7
    refine ⟨_, (pss_cons (ps_setLc (i := 3) (own := [("_law_house", 9)]) rfl sc_law_sums.nd rfl rfl (sw_true rfl rfl rfl (by decide +kernel)) (pi_list (pv 0)) (blkOk_by (N := N_law_sums) (sc := defScope s_law_sums) (by decide +kernel)) (fun _ _ _ _ _ => (pg_name (i := 9) sc_law_sums.nd rfl (by first | exact Or.inl rfl | exact Or.inr rfl))) (fun _ _ _ _ _ => pts_nil) (fun _ _ _ _ _ => pe_non))
    (pss_cut (ps_for PassesOwn.never rfl (pi_range1 (by rfl) T.range (pa_cons (pe_callB (r := rLenQ K) call_len_seq (by rfl) T.len bt_len (pa_cons (pv 0) pa_nil)) pa_nil)) (pg_name (i := 4) sc_law_sums.nd rfl (by first | exact Or.inl rfl | exact Or.inr rfl))
      (pss_cons (ps_set (i := 5) sc_law_sums.nd rfl (by first | exact Or.inl rfl | exact Or.inr rfl) pe_bl)
        (pss_cons (ps_for PassesOwn.never rfl (pi_list (pv 1)) (pg_name (i := 6) sc_law_sums.nd rfl (by first | exact Or.inl rfl | exact Or.inr rfl))
          (pss_cons (ps_set (i := 7) sc_law_sums.nd rfl (by first | exact Or.inl rfl | exact Or.inr rfl) (pe_ix (r := rIxL K) ix_list (pv 3) (pe_ix (r := rIxT K) ix_tup (pv 6) pe_int (fun _ _ => rfl)) (fun _ _ => rfl)))
            (pss_cons (ps_if (pt_cmpR op_eq (pe_ix (r := rIxT K) ix_tup (pv 6) pe_int (fun _ _ => rfl)) (pv 2) (nomark _))
              (pss_one (ps_set (i := 7) sc_law_sums.nd rfl (by first | exact Or.inl rfl | exact Or.inr rfl) pe_int))
              pss_nil)
            (pss_cons (ps_set (i := 8) sc_law_sums.nd rfl (by first | exact Or.inl rfl | exact Or.inr rfl) (pe_ix (r := rIxL K) ix_list (pv 3) (pe_ix (r := rIxT K) ix_tup (pv 6) pe_int (fun _ _ => rfl)) (fun _ _ => rfl)))
            (pss_one (ps_if (PW.pt (pw_and (pt_cmpR op_notN (pv 7) pe_non (nomark _)) (pw_and1 (PW.pt (pw_or (pt_cmpR op_isN (pv 8) pe_non (nomark _)) (pw_or1 (pt_cmpR op_lt (pe_op op_add (pv 7) (pe_ix (r := rIxL K) ix_list (pv 0) (pe_ix (r := rIxT K) ix_tup (pv 6) pe_int (fun _ _ => rfl)) (fun _ _ => rfl))) (pv 8) (nomark _))))))))
              (pss_cons (ps_asg (pe_op op_add (pv 7) (pe_ix (r := rIxL K) ix_list (pv 0) (pe_ix (r := rIxT K) ix_tup (pv 6) pe_int (fun _ _ => rfl)) (fun _ _ => rfl))) (pg_sub (pv 3) (pe_ix (r := rIxT K) ix_tup (pv 6) pe_int (fun _ _ => rfl)) set_list))
                (pss_one (ps_set (i := 5) sc_law_sums.nd rfl (by first | exact Or.inl rfl | exact Or.inr rfl) pe_bl)))
              pss_nil))))))
        (pss_one (ps_if (pt_not (pt_val (pv 5)))
          (pss_one ps_break)
          pss_nil)))))
    (pss_one (ps_ret (pe_callTy (r := rTupQ K) call_tuple_of (by rfl) T.tuple bt_tuple (pa_cons (pv 3) pa_nil)))))), ?_⟩
    refine k_asgF (.refl e) (ef_mapL (c := eN) (fun _ => .none) (ed_var rfl hp) (by omega) fun z x G' _ _ _ => turnF_name rfl et_yes fun _ => .ofD ev_c .non) fun sl Ga Ha xs na ma gs h1s _ hs dq => ?_
    have ex : t.pegs.map (fun _ => PyData.none) = (List.replicate t.n (none : Option Nat)).map eO := by rw [List.map_const', List.map_replicate]; rfl
    rw [ex] at dq
    have exs := dqa_vOE dq
    subst exs
    refine ⟨fun σ' H' => ∃ (G' : Hp) (S : List (Option Nat)) (y4 y5 y6 y7 y8 y9 : Option V), σ' = [some vp, some vl, some (.int (h : Int)), some (.ref sl), y4, y5, y6, y7, y8, y9] ∧ Nx G H1 G' H' ∧ G' sl = none ∧ H' sl = some (.lst (S.map vO)) ∧ FinS t h S, ?_, ?_⟩
    · refine l_forR (m := t.n) na (ea_one (ev_is (ev_lenL (ed_var rfl (hp.mono (e.trans na.e1)))) (by rw [List.length_map]; rfl))) (by omega) (fun k σ G' H' => ∃ (S : List (Option Nat)) (y4 y5 y6 y7 y8 y9 : Option V), σ = [some vp, some vl, some (.int (h : Int)), some (.ref sl), y4, y5, y6, y7, y8, y9] ∧ G' sl = none ∧ H' sl = some (.lst (S.map vO)) ∧ BI t h k S)
        (fun H' n' e' => ⟨_, _, _, _, _, _, _, rfl, gs, e' _ _ hs, by simp, fun b w hb => ?_, fun b p k hk => absurd (List.length_eq_zero_iff.mp (Nat.le_zero.mp hk)) k.ne⟩) ?_ ?_
      · obtain ⟨_, h2⟩ := List.getElem?_eq_some_iff.mp hb
        simp at h2
      · intro k σ' G' H' hk n' e' hw
        obtain ⟨S, y4, y5, y6, y7, y8, y9, rfl, gs', hs', hB⟩ := hw
        have eG : Ex G G' := ma.e2.trans e'
        refine k_asgV n' ev_c fun H2 n2 e2 => ?_
        refine k_forL n2 (ed_var rfl (hl.mono eG)) (fun i σ G' H' => ∃ (S' : List (Option Nat)) (ch : Bool) (y6 y7 y8 : Option V), σ = [some vp, some vl, some (.int (h : Int)), some (.ref sl), some (.int (k : Int)), some (.bl ch), y6, y7, y8, y9] ∧ G' sl = none ∧ H' sl = some (.lst (S'.map vO)) ∧ LI t h S i S' ch)
          (fun Ga H' m5 => ⟨S, false, _, _, _, rfl, m5.fr sl gs' (by rw [e2 _ _ hs']; simp), m5.e1 _ _ (e2 _ _ hs'), LI.start hB⟩) ?_ ?_
        · intro Gb i d x σ5 G5 H5 eg5 hd5 hx5 n5 e5 hw
          obtain ⟨S', ch, y6, y7, y8, rfl, gs5, hs5, hL⟩ := hw
          rw [List.getElem?_map] at hd5
          obtain ⟨⟨a, b⟩, hpi, rfl⟩ := Option.map_eq_some_iff.mp hd5
          have hmem := List.mem_of_getElem? hpi
          obtain ⟨han, hbn, _⟩ := o.ln _ hmem
          have han : a < t.n := han
          have hbn : b < t.n := hbn
          have hx6 : Dq G5 x (ePr (a, b)) := hx5.mono e5
          have eG5 : Ex G G5 := eG.trans (eg5.trans e5)
          have la : ∀ {σ : L2.St} {H' : Hp}, Ex G5 H' → σ[6]? = some (some x) → Ev (tOp (rIxT K) (tVar 6) (tC (.int 0))) σ H' (.int (a : Int)) := fun eh h6 => EvD.int (ed_k0T (ed_var h6 (hx6.mono eh)))
          have lb : ∀ {σ : L2.St} {H' : Hp}, Ex G5 H' → σ[6]? = some (some x) → Ev (tOp (rIxT K) (tVar 6) (tC (.int 1))) σ H' (.int (b : Int)) := fun eh h6 => EvD.int (ed_k1T (ed_var h6 (hx6.mono eh)))
          have rd : ∀ {σ : L2.St} {H' : Hp} {te : TE} {c : Nat}, c < t.n → H' sl = some (.lst (S'.map vO)) → σ[3]? = some (some (.ref sl)) → Ev te σ H' (.int (c : Int)) → Ev (tOp (rIxL K) (tVar 3) te) σ H' (vO (S'.getD c none)) := fun {σ H' te c} hc hs h3 hte => by
            have hcl : c < S'.length := by rw [hL.len]; exact hc
            exact evO (ed_ixL (i := c) (ed_var h3 (.mkL hs (dqa_vO S'))) hte (by rw [List.getElem?_map, List.getD_eq_getElem?_getD, List.getElem?_eq_getElem hcl]; rfl))
          have pg : ∀ {σ : L2.St} {H' : Hp}, Ex G5 H' → σ[0]? = some (some vp) → σ[6]? = some (some x) → Ev (tOp (rIxL K) (tVar 0) (tOp (rIxT K) (tVar 6) (tC (.int 1)))) σ H' (.int ((t.peg b : Nat) : Int)) := fun eh h0 h6 => EvD.int (ed_ixL (ed_var h0 (hp.mono (eG5.trans eh))) (lb eh h6) (peg_at hbn))
          have hal : a < S'.length := by rw [hL.len]; exact han
          have hbl : b < S'.length := by rw [hL.len]; exact hbn
          have gA : S'[a]? = some (S'.getD a none) := by rw [List.getD_eq_getElem?_getD, List.getElem?_eq_getElem hal]; rfl
          have gB : S'[b]? = some (S'.getD b none) := by rw [List.getD_eq_getElem?_getD, List.getElem?_eq_getElem hbl]; rfl
          refine k_asgV n5 (rd han hs5 rfl (la n5.e3 rfl)) fun H6 n6 e6 => ?_
          refine k_whenSet (b := decide (a = h)) (v1 := .int 0) n6 rfl (et_is (et_test (ev_op (la n6.e3 rfl) (ev_var rfl) (rv_eq rfl))) (eq_natB a h)) (fun _ => ev_c) fun H7 n7 e7 => ?_
          -- the number before
          obtain ⟨bo, hbo, hb1, hb2⟩ : ∃ bo : Option Nat, (if decide (a = h) = true then V.int 0 else vO (S'.getD a none)) = vO bo ∧ (∀ u', bo = some u' → (∃ p, Wk t h b p ∧ Wt t p = u' + t.peg b) ∧ (a = h → u' = 0) ∧ ∀ u, S[a]? = some (some u) → u' ≤ u) ∧ (bo = none → a ≠ h ∧ ∀ u, S[a]? ≠ some (some u)) := by
            by_cases hah : a = h
            · refine ⟨some 0, by rw [if_pos (decide_eq_true hah)]; rfl, fun u' hu' => ?_, fun z => nomatch z⟩
              cases hu'
              subst hah
              exact ⟨⟨[b], .one hmem, by unfold Wt; simp⟩, fun _ => rfl, fun u _ => Nat.zero_le _⟩
            · refine ⟨S'.getD a none, by rw [if_neg (by simpa using hah)], fun u' hu' => ?_, fun hn => ⟨hah, fun u hu => ?_⟩⟩
              · rw [hu'] at gA
                obtain ⟨p, kp, wp⟩ := hL.so a u' gA
                refine ⟨⟨p ++ [b], kp.snoc hmem, by rw [wt_app, wt_cons, wp]; unfold Wt; simp⟩, fun z => absurd z hah, fun u hu => ?_⟩
                obtain ⟨w, hw1, hw2⟩ := hL.mo a u hu
                rw [gA] at hw1; cases hw1; exact hw2
              · obtain ⟨w, hw1, _⟩ := hL.mo a u hu
                rw [gA, hn] at hw1; cases hw1
          rw [hbo]
          have hs7 : H7 sl = some (.lst (S'.map vO)) := e7 _ _ (e6 _ _ hs5)
          refine k_asgV n7 (rd hbn hs7 rfl (lb n7.e3 rfl)) fun H8 n8 e8 => ?_
          have hs8 := e8 _ _ hs7
          cases bo with
          | none =>
            obtain ⟨hah, hau⟩ := hb2 rfl
            refine l_when (b := false) n8 (et_is (et_and (a := false) (b := false) (et_test (ev_op (ev_var (v := .non) rfl) ev_c rv_notN)) fun z => nomatch z) rfl) (fun z => nomatch z) fun _ H9 n9 e9 => ⟨G5, n9, e5, S', ch, _, _, _, rfl, gs5, e9 _ _ hs8, hL.keep hpi (fun z => absurd z hah) fun u hu => absurd hu (hau u)⟩
          | some u' =>
            obtain ⟨hwk, hz, hle⟩ := hb1 u' rfl
            have sumv : ∀ {H' : Hp} {y8 : Option V}, Ex G5 H' → Ev (tOp (rI0 fun i j => .int (i + j)) (tVar 7) (tOp (rIxL K) (tVar 0) (tOp (rIxT K) (tVar 6) (tC (.int 1))))) [some vp, some vl, some (.int (h : Int)), some (.ref sl), some (.int (k : Int)), some (.bl ch), some x, some (.int (u' : Int)), y8, y9] H' (.int ((u' + t.peg b : Nat) : Int)) := fun eh => ev_is (ev_op (ev_var rfl) (pg eh rfl rfl) rv_I0) (by congr 1)
            refine l_when (b := match S'.getD b none with | none => true | some y => decide (u' + t.peg b < y)) n8 ?_ (fun hb H9 n9 e9 => ?_) (fun hb H9 n9 e9 => ?_)
            · cases hSb : S'.getD b none with
              | none => exact et_is (et_and (a := true) (b := true) (et_test (ev_op (ev_var (v := .int (u' : Int)) rfl) ev_c rv_notN)) fun _ => et_is (et_or (a := true) (b := true) (et_test (ev_op (ev_var (v := .non) rfl) ev_c rv_isN)) fun z => nomatch z) rfl) rfl
              | some y =>
                refine et_is (et_and (a := true) (b := decide (u' + t.peg b < y)) (et_test (ev_op (ev_var (v := .int (u' : Int)) rfl) ev_c rv_notN)) fun _ => et_is (et_or (a := false) (b := decide (u' + t.peg b < y)) (et_test (ev_op (ev_var (v := .int (y : Int)) rfl) ev_c rv_isN)) fun _ => et_is (et_test (ev_op (sumv n8.e3) (ev_var (v := .int (y : Int)) rfl) rv_I0)) ?_) rfl) rfl
                exact decide_eq_decide.mpr (by omega)
            · refine k_setL (R := Is (.int ((u' + t.peg b : Nat) : Int))) (j := b) n9 h1s gs5 (e9 _ _ hs8) (.of (sumv (.refl _))) (ev_var rfl) (lb n9.e3 rfl) (by rw [List.length_map]; exact hbl) fun v5 G9 H10 n10 e10 fr10 only10 hs10 hv5 => ?_
              cases hv5
              refine l_asgV n10 ev_c fun H11 n11 e11 => ⟨G9, n11, e5.trans e10, S'.set b (some (u' + t.peg b)), true, _, _, _, rfl, fr10 sl gs5 (by rw [e9 _ _ hs8]; simp), by rw [e11 _ _ hs10, List.map_set]; rfl, hL.upd hpi hbl hwk (fun y hy => ?_) (fun z => by have := hz z; omega) fun u hu => by have := hle u hu; omega⟩
              rw [gB] at hy
              injection hy with hy
              rw [hy] at hb
              have := of_decide_eq_true hb
              omega
            · refine ⟨G5, n9, e5, S', ch, _, _, _, rfl, gs5, e9 _ _ hs8, ?_⟩
              cases hSb : S'.getD b none with
              | none => rw [hSb] at hb; cases hb
              | some y =>
                rw [hSb] at hb gB
                have hlt : ¬ u' + t.peg b < y := of_decide_eq_false hb
                exact hL.keep hpi (fun z => ⟨y, gB, by have := hz z; omega⟩) fun u hu => ⟨y, gB, by have := hle u hu; omega⟩
        · intro σ5 G5 H5 n5 e5 hw
          obtain ⟨S', ch, y6, y7, y8, rfl, gs5, hs5, hL⟩ := hw
          rw [List.length_map] at hL
          refine l_when (b := !ch) n5 (et_not (et_B (ev_var rfl))) (fun hb H6 n6 e6 => ?_) (fun hb H6 n6 e6 => ?_)
          · exact ⟨G5, S', _, _, _, _, _, _, rfl, n6, gs5, e6 _ _ hs5, hL.still (by simpa using hb)⟩
          · exact ⟨G5, n6, e'.trans e5, S', _, _, _, _, _, _, rfl, gs5, e6 _ _ hs5, hL.next hB⟩
      · intro σ' G' H' n' e' hw
        obtain ⟨S, y4, y5, y6, y7, y8, y9, rfl, gs', hs', hB⟩ := hw
        exact ⟨G', S, _, _, _, _, _, _, rfl, n', gs', hs', hB.fin o⟩
    · rintro σ' H' ⟨G', S, y4, y5, y6, y7, y8, y9, rfl, n', gs', hs', hF⟩
      have hS := hF.done
      subst hS
      obtain ⟨n3, e3⟩ := n'.keep h1s hs' gs'
      exact k_ret n3 q (ed_tupL (ed_var (v := .ref sl) rfl (.mkL upd_same (dqa_vO _)))) rfl
end
end Lw
namespace Lw
open PySem PySem.Spec PyProof.Rows L2 Evl Dl Hd He Hr Xr Classical
/-! sorted of a list of pairs -/
theorem perm_dqa {G : Hp} {xs ys : List V} (h : ys.Perm xs) : ∀ {ds : List (Nat × Nat)}, DqA G ys (ds.map ePr) → ∃ es : List (Nat × Nat), es.Perm ds ∧ DqA G xs (es.map ePr) := by
  induction h with
  | nil => exact fun q => ⟨_, .refl _, q⟩
  | cons x _ ih =>
    intro ds q
    cases ds with
    | nil => have := q.nilE; cases this
    | cons d ds =>
      obtain ⟨y, ys, e, hy, hq⟩ := q.consE
      injection e with e1 e2
      subst e1 e2
      obtain ⟨es, p, k⟩ := ih hq
      exact ⟨d :: es, p.cons d, .cons hy k⟩
  | swap x y l =>
    intro ds q
    match ds with
    | [] => have := q.nilE; cases this
    | [d] => have := q.len; simp at this
    | d1 :: d2 :: ds =>
      obtain ⟨_, _, e, h1, hq⟩ := q.consE
      injection e with e1 e2
      subst e1 e2
      obtain ⟨_, _, e, h2, hq⟩ := hq.consE
      injection e with e1 e2
      subst e1 e2
      exact ⟨d2 :: d1 :: ds, .swap _ _ _, .cons h2 (.cons h1 hq)⟩
  | trans _ _ ih1 ih2 =>
    intro ds q
    obtain ⟨es, p1, q1⟩ := ih1 q
    obtain ⟨fs, p2, q2⟩ := ih2 q1
    exact ⟨fs, p2.trans p1, q2⟩
theorem pw_dqa {G : Hp} {R : V → V → Prop} {S : Nat × Nat → Nat × Nat → Prop} (hR : ∀ x y p q, Dq G x (ePr p) → Dq G y (ePr q) → R x y → S p q) : ∀ {xs : List V} {ps : List (Nat × Nat)}, DqA G xs (ps.map ePr) → xs.Pairwise R → ps.Pairwise S
  | xs, [], _, _ => .nil
  | xs, p :: ps, h, w => by
    obtain ⟨x, ys, rfl, hx, hy⟩ := h.consE
    obtain ⟨w1, w2⟩ := List.pairwise_cons.mp w
    refine List.pairwise_cons.mpr ⟨fun q hq => ?_, pw_dqa hR hy w2⟩
    obtain ⟨i, hi, ei⟩ := List.mem_iff_getElem.mp hq
    obtain ⟨y, hy1, hy2⟩ := hy.get (i := i) (d := ePr q) (by rw [List.getElem?_map, List.getElem?_eq_getElem hi, ei]; rfl)
    exact hR x y p q hx hy2 (w1 y (List.mem_of_getElem? hy1))
theorem tupI_of {K : PySem.W.Frag} {G H : Hp} {x : V} {p : Nat × Nat} (e : Ex G H) (h : Dq G x (ePr p)) : TupI K H x (pr2 p) := by
  obtain ⟨a, zs, rfl, g1, g2⟩ := h.tupE
  obtain ⟨z1, r1, rfl, q1, g3⟩ := g2.consE
  obtain ⟨z2, r2, rfl, q2, g4⟩ := g3.consE
  cases g4.nilE
  cases q1.intE
  cases q2.intE
  exact ⟨a, rfl, st_of (e _ _ g1)⟩
theorem er_sort {K : PySem.W.Frag} {σ : L2.St} {H : Hp} {ta : TE} {ps : List (Nat × Nat)} (h : EvD ta σ H (lP ps)) (nd : ps.Nodup) (bd : ∀ p ∈ ps, p.1 < 8 ∧ p.2 < 8) (ln : ps.length < 64) :
    EvR (tCB (rSortU K 2 64) (tCons ta tNil)) σ H (fun G v => ∃ es : List (Nat × Nat), es.Perm ps ∧ es.Pairwise ltP ∧ Dq G v (lP es)) := er_cb1 h fun G H2 v Q _ e2 hv q => by
  obtain ⟨a, xs, rfl, h1, h2⟩ := hv.lstE
  have hl := h2.len
  rw [List.length_map] at hl
  refine ⟨a, xs, rfl, sq_of (e2 _ _ h1), by omega, fun x hx => ?_, fun ys p pm pw hp => ?_⟩
  · obtain ⟨i, hi, ei⟩ := List.mem_iff_getElem.mp hx
    obtain ⟨d, hd, hq⟩ := h2.getV (i := i) (x := x) (by rw [List.getElem?_eq_getElem hi, ei])
    rw [List.getElem?_map] at hd
    obtain ⟨z, hz, rfl⟩ := Option.map_eq_some_iff.mp hd
    have hb := bd z (List.mem_of_getElem? hz)
    refine ⟨pr2 z, tupI_of e2 hq, rfl, fun i hi => ?_⟩
    have hi2 : i = (z.1 : Int) ∨ i = (z.2 : Int) := by simpa using hi
    rcases hi2 with c | c <;> omega
  · obtain ⟨es, p1, q1⟩ := perm_dqa pm.symm h2
    have le : es.Pairwise fun p q => cdI (pr2 p) ≤ cdI (pr2 q) := pw_dqa (G := G) (fun x y p q hx hy hR => hR _ _ (tupI_of e2 hx) (tupI_of e2 hy)) q1 pw
    have nde : es.Nodup := p1.nodup_iff.mpr nd
    have lt : es.Pairwise ltP := (le.and nde).imp_of_mem fun {p q} hp hq r => by
      have b1 := bd p (p1.mem_iff.mp hp)
      have b2 := bd q (p1.mem_iff.mp hq)
      have r1 := r.1
      rw [cd_pair, cd_pair] at r1
      by_cases h1 : p.1 = q.1
      · refine .inr ⟨h1, ?_⟩
        have : p.2 ≠ q.2 := fun z => r.2 (Prod.ext h1 z)
        omega
      · exact .inl (by omega)
    exact q _ _ (upd G p (.lst ys)) ((Nx.refl e2).new hp) ⟨es, p1, lt, .mkL upd_same (q1.mono (Ex.new (fresh_back e2 hp)))⟩
/-- a town of sorted lanes -/
theorem town_of {pegs : List Nat} {es ps : List (Nat × Nat)} (n1 : 1 ≤ pegs.length) (n7 : pegs.length ≤ 7) (pg : ∀ p ∈ pegs, 1 ≤ p ∧ p ≤ 9) (pm : es.Perm ps) (ln : ∀ p ∈ ps, p.1 < pegs.length ∧ p.2 < pegs.length ∧ p.1 ≠ p.2) (st : es.Pairwise ltP) : Town.Ok ⟨pegs, es⟩ :=
  ⟨n1, n7, pg, fun p hp => ln p (pm.mem_iff.mp hp), st⟩
section
variable {P : Program} {w : World} {K : PySem.W.Frag} {mg : Str → Option Value} {base : Heap} {f : Addr} {fd : FuncData}
abbrev N_law_items : List Str := ["_law_table", "_law_row", "_law_item"]
theorem sc_law_items : FnScope N_law_items ["_law_table"] (defScope s_law_items) := ⟨rfl, rfl, rfl, by decide +kernel, rfl, by decide +kernel, by decide +kernel⟩
abbrev spItems : Sp := sp1 (fun t : Town => Da (tabD t)) Town.Ok (fun _ => Is (.bl true))
theorem ok_items (F : Fun K "_law_items" "_law_items" s_law_items f fd) (T : Tx K mg) (C_law_whole : Cal P w K mg base 1 "_law_whole" ["_law_value"] spWhole) : FnOk P w K mg base CX0 2 f fd ["_law_table"] spItems := by
  refine F.ok sc_law_items (fun vs H Q E h => ?_) (fun cdv A outer s H1 vs Q E hr h => ?_)
  · obtain ⟨_, _, _, rfl, _⟩ := h; rfl
  · obtain ⟨t, G, v, rfl, e, o, hv, q⟩ := h
    have o7 := o.n7
    have hv : Dq G v (tabD t) := hv
    refine ⟨_, (pss_cons (ps_if (PW.pt (pw_or (pt_not (pt_val (pe_callB (r := rIsi K) call_isi (by rfl) T.isinstance bt_isinstance (pa_cons (pv 0) (pa_cons (pe_bltn (v := .ty "tuple") (by rfl) T.tuple bt_tuple rfl) pa_nil))))) (pw_or1 (pt_not (pt_val (pe_callB (r := rAll K) (cr_all rfl) (by rfl) T.all bt_all (pa_cons (pe_lc (own := [("_law_row", 1)]) rfl sc_law_items.nd (pi_tupK (K := K) (pv 0) rfl) (blkOk_by (N := N_law_items) (sc := defScope s_law_items) (by decide +kernel)) (fun _ _ _ _ _ => (pg_name (i := 1) sc_law_items.nd rfl (by first | exact Or.inl rfl | exact Or.inr rfl))) (fun _ _ _ _ _ => pts_nil) (fun _ _ _ _ _ => (pe_callB (r := rIsi K) call_isi (by rfl) T.isinstance bt_isinstance (pa_cons (pv 1) (pa_cons (pe_bltn (v := .ty "tuple") (by rfl) T.tuple bt_tuple rfl) pa_nil))))) pa_nil)))))))
      (pss_one (ps_ret pe_bl))
      pss_nil)
    (pss_cons (ps_for PassesOwn.never rfl (pi_tupK (K := K) (pv 0) rfl) (pg_name (i := 1) sc_law_items.nd rfl (by first | exact Or.inl rfl | exact Or.inr rfl))
      (pss_one (ps_if (pt_not (pt_val (pe_callB (r := rAll K) (cr_all rfl) (by rfl) T.all bt_all (pa_cons (pe_lc (own := [("_law_item", 2)]) rfl sc_law_items.nd (pi_tupK (K := K) (pv 1) rfl) (blkOk_by (N := N_law_items) (sc := defScope s_law_items) (by decide +kernel)) (fun _ _ _ _ _ => (pg_name (i := 2) sc_law_items.nd rfl (by first | exact Or.inl rfl | exact Or.inr rfl))) (fun _ _ _ _ _ => pts_nil) (fun _ _ _ _ _ => (pe_or (pe_cmpR op_isN (pv 2) pe_non (nomark _)) (pe_one (pe_call C_law_whole.ok (hr.mono (by decide)) (by rfl) C_law_whole.g C_law_whole.kp C_law_whole.b .nil pass0 (pa_cons (pv 2) pa_nil)))))) pa_nil))))
          (pss_one (ps_ret pe_bl))
          pss_nil)))
    (pss_one (ps_ret pe_bl)))), ?_⟩
    have hvH := hv.mono e
    refine k_when (b := false) (.refl e) (et_is (et_or (a := !true) (b := !true) (et_not (et_B (ev_isi (ev_var rfl) ((ty_of hvH).2.2.2 _ rfl) kit9))) fun _ => et_not (et_B (ev_is (ev_all (bs := (List.range t.n).map fun _ => true) ?_) (by rw [all_true fun _ _ => rfl])))) rfl) (fun z => nomatch z) fun _ H2 n2 _ => ?_
    · rw [List.map_map]
      refine ed_mapT (c := fun h => tO (rowN t h)) (fun _ => .bool true) (ed_var rfl hvH) (by simp; omega) ?_
      intro h x G' eg _ hx
      exact turnF_name rfl et_yes fun _ => .ofBl (ev_isi (ev_var rfl) ((ty_of hx).2.2.2 _ rfl) kit9)
    refine k_forT n2 (ed_var rfl hv) (fun i σ G' H' => ∃ y1 y2, σ = [some v, y1, y2]) (fun _ _ _ => ⟨_, _, rfl⟩) ?_ ?_
    · intro Ga i d x σ' G' H' eg hd hx n e' hw
      obtain ⟨y1, y2, rfl⟩ := hw
      rw [List.getElem?_map] at hd
      obtain ⟨h, hh, rfl⟩ := Option.map_eq_some_iff.mp hd
      refine l_when (b := false) n (et_is (et_not (et_B (ev_is (ev_all (bs := (rowN t h).map fun _ => true) ?_) (by rw [all_true fun _ _ => rfl])))) rfl) (fun z => nomatch z) fun _ H3 n3 _ => ⟨G', n3, e', _, _, rfl⟩
      rw [List.map_map]
      refine ed_mapT (c := eO) (fun _ => .bool true) (ed_var rfl (hx.mono (e'.trans n.e3))) (by simp; omega) ?_
      intro m y G4 eg4 _ hy
      refine turnF_name rfl et_yes fun _ => .ofBl ?_
      cases m with
      | none =>
        have hy : Dq G4 y .none := hy
        cases hy.nonE
        exact ev_is (ev_orV (a := true) (b := true) (ev_op (ev_var rfl) ev_c rv_isN) fun z => nomatch z) rfl
      | some m =>
        have hy : Dq G4 y (eN m) := hy
        cases hy.intE
        exact ev_is (ev_orV (a := false) (b := true) (ev_op (ev_var rfl) ev_c rv_isN) fun _ => (er_call1 (P := fun _ => True) (m : Int) (EvR.of (ev_var rfl)) trivial).ev) rfl
    · intro σ' G' H' n e' hw
      exact k_ret n q (EvR.of ev_c) rfl
abbrev N_law_ahead : List Str := ["_law_street", "_law_house", "_law_found", "_law_turn", "_law_lane"]
theorem sc_law_ahead : FnScope N_law_ahead ["_law_street", "_law_house"] (defScope s_law_ahead) := ⟨rfl, rfl, rfl, by decide +kernel, rfl, by decide +kernel, by decide +kernel⟩
abbrev spLAhead : Sp := sp2 (fun z : Town × Nat => Da (eTown z.1)) (fun z => Is (.int (z.2 : Int))) (fun z => z.1.Ok ∧ z.2 < z.1.n) (fun z => fun G v => ∃ L : List Nat, Dq G v (lN L) ∧ L.length ≤ 7 ∧ ∀ x ∈ L, x < z.1.n)
theorem ok_lahead (F : Fun K "_law_ahead" "_law_ahead" s_law_ahead f fd) (T : Tx K mg) : FnOk P w K mg base CX0 1 f fd ["_law_street", "_law_house"] spLAhead := by
  refine F.ok sc_law_ahead (fun vs H Q E h => ?_) (fun cdv A outer s H1 vs Q E hr h => ?_)
  · obtain ⟨_, _, _, _, rfl, _⟩ := h; rfl
  · obtain ⟨⟨t, h⟩, G, v, u, rfl, e, ⟨o, hh⟩, hv, hu, q⟩ := h
    cases hu
    have o : t.Ok := o
    have hh : h < t.n := hh
    have hv : Dq G v (eTown t) := hv
    have o7 := o.n7
    refine ⟨_, (pss_cons (ps_set (i := 2) sc_law_ahead.nd rfl (by first | exact Or.inl rfl | exact Or.inr rfl) (pe_lst (pa_cons (pv 1) pa_nil)))
    (pss_cons (ps_for PassesOwn.never rfl (pi_range1 (by rfl) T.range (pa_cons (pe_callB (r := rLenQ K) call_len_seq (by rfl) T.len bt_len (pa_cons (pe_ix (r := rIxL K) ix_list (pv 0) pe_int (fun _ _ => rfl)) pa_nil)) pa_nil)) (pg_name (i := 3) sc_law_ahead.nd rfl (by first | exact Or.inl rfl | exact Or.inr rfl))
      (pss_one (ps_for PassesOwn.never rfl (pi_list (pe_ix (r := rIxL K) ix_list (pv 0) pe_int (fun _ _ => rfl))) (pg_name (i := 4) sc_law_ahead.nd rfl (by first | exact Or.inl rfl | exact Or.inr rfl))
          (pss_one (ps_if (PW.pt (pw_and (pt_cmpR (r := rIn K false) op_in_seq (pe_ix (r := rIxT K) ix_tup (pv 4) pe_int (fun _ _ => rfl)) (pv 2) (by rfl)) (pw_and1 (pt_cmpR (r := rIn K true) op_notIn_seq (pe_ix (r := rIxT K) ix_tup (pv 4) pe_int (fun _ _ => rfl)) (pv 2) (by rfl)))))
              (pss_one (ps_expr (pe_bm PySem.F.plainAttrs_list PySem.F.slot_list_append PySem.F.type_list_append mt_append (pv 2) (pa_cons (pe_ix (r := rIxT K) ix_tup (pv 4) pe_int (fun _ _ => rfl)) pa_nil))))
              pss_nil)))))
    (pss_one (ps_ret (pv 2))))), ?_⟩
    refine k_asgM (.refl e) (el_lst (ea_one (ev_var rfl)) (Nat.le_of_ble_eq_true rfl)) fun p Ha na ea gp h1p _ hp => ?_
    have W0 : ∀ L : List Nat, L.Nodup → (∀ x ∈ L, x < t.n) → L.length ≤ 7 := fun L h1 h2 => Nat.le_trans (nodup_len t.n L h1 h2) o7
    refine k_forR (m := t.n) na (ea_one (ev_is (ev_lenL (ed_k0L (ed_var rfl (hv.mono (e.trans na.e1))))) (by rw [List.length_map]; rfl))) (by omega) (fun i σ G' H' => ∃ (L : List Nat) (y3 y4 : Option V), σ = [some v, some (.int (h : Int)), some (.ref p), y3, y4] ∧ G' p = none ∧ H' p = some (.lst (L.map vN)) ∧ L.Nodup ∧ ∀ x ∈ L, x < t.n)
      (fun H' n' e' => ⟨[h], _, _, rfl, gp, e' _ _ hp, by simp, fun x hx => by rw [List.mem_singleton.mp hx]; exact hh⟩) ?_ ?_
    · intro i σ' G' H' hi n' e' hw
      obtain ⟨L, y3, y4, rfl, gp', hp', nd, lt⟩ := hw
      refine l_forL n' (ed_k1L (ed_var rfl (hv.mono e'))) (fun j σ G' H' => ∃ (L : List Nat) (y4 : Option V), σ = [some v, some (.int (h : Int)), some (.ref p), some (.int (i : Int)), y4] ∧ G' p = none ∧ H' p = some (.lst (L.map vN)) ∧ L.Nodup ∧ ∀ x ∈ L, x < t.n)
        (fun Ga H5 m5 => ⟨L, _, rfl, m5.fr p gp' (by rw [hp']; simp), m5.e1 _ _ hp', nd, lt⟩) ?_ ?_
      · intro Ga j d x σ5 G5 H5 eg hd hx n5 e5 hw
        obtain ⟨L, y4, rfl, gp5, hp5, nd, lt⟩ := hw
        rw [List.getElem?_map] at hd
        obtain ⟨⟨a, b⟩, hab, rfl⟩ := Option.map_eq_some_iff.mp hd
        have hb := (o.ln _ (List.mem_of_getElem? hab)).2.1
        have hx5 := hx.mono e5
        have hq5 : Dq H5 (.ref p) (lN L) := .mkL hp5 (dqa_vN _)
        refine l_when (b := decide (a ∈ L) && !decide (b ∈ L)) n5 (et_and (et_test (ev_inL (neg := false) (EvD.int (ed_k0T (ed_var rfl (hx5.mono n5.e3)))) (ed_var rfl hq5))) fun _ => et_test (ev_inL (neg := true) (EvD.int (ed_k1T (ed_var rfl (hx5.mono n5.e3)))) (ed_var rfl hq5))) (fun hb2 H6 n6 e6 => ?_) (fun hb2 H6 n6 e6 => ?_)
        · rw [Bool.and_eq_true, Bool.not_eq_true', decide_eq_true_eq, decide_eq_false_iff_not] at hb2
          refine l_app (R := Da (eN b)) n6 h1p gp5 (e6 _ _ hp5) (ev_var rfl) (ed_k1T (ed_var rfl hx5)) (by rw [List.length_map]; exact Nat.lt_of_le_of_lt (W0 L nd lt) (by decide)) fun v7 G7 H7 n7 e7 fr7 _ hp7 hv7 => ?_
          cases Dq.intE hv7
          refine ⟨G7, n7, e5.trans e7, L ++ [b], _, rfl, fr7 p gp5 (by rw [e6 _ _ hp5]; simp), by rw [hp7, List.map_append (l₁ := L) (l₂ := [b])]; rfl, List.nodup_append.mpr ⟨nd, by simp, fun u hu z hz => ?_⟩, fun z hz => ?_⟩
          · rw [List.mem_singleton.mp hz]; intro e; subst e; exact hb2.2 hu
          · rcases List.mem_append.mp hz with c | c
            · exact lt z c
            · rw [List.mem_singleton.mp c]; exact hb
        · exact ⟨G5, n6, e5, L, _, rfl, gp5, e6 _ _ hp5, nd, lt⟩
      · intro σ5 G5 H5 n5 e5 hw
        obtain ⟨L, y4, rfl, gp5, hp5, nd, lt⟩ := hw
        exact ⟨G5, n5, e'.trans e5, L, _, _, rfl, gp5, hp5, nd, lt⟩
    · intro σ' G' H' n' e' hw
      obtain ⟨L, y3, y4, rfl, gp', hp', nd, lt⟩ := hw
      obtain ⟨n3, e3⟩ := n'.keep h1p hp' gp'
      exact k_ret n3 q ((ed_var (v := .ref p) (d := lN L) rfl (.mkL upd_same (dqa_vN L))).imp fun G9 v9 _ h9 => ⟨L, h9, W0 L nd lt, lt⟩) rfl
abbrev N_law_opened : List Str := ["_law_street", "_law_one", "_law_two", "_law_many", "_law_beyond", "_law_ringed", "_law_house", "_law_a", "_law_missing", "_law_b", "_law_other"]
theorem sc_law_opened : FnScope N_law_opened ["_law_street", "_law_one", "_law_two"] (defScope s_law_opened) := ⟨rfl, rfl, rfl, by decide +kernel, rfl, by decide +kernel, by decide +kernel⟩
theorem ev_int1 {σ : L2.St} {H : Hp} {te : TE} {i : Int} (h : Ev te σ H (.int i)) : Ev (tCB (fun xs H Q => (∃ i, xs = [.int i] ∧ Q (.int i) H) ∨ ∃ k, xs = [.bl k] ∧ Q (.int (if k then 1 else 0)) H) (tCons te tNil)) σ H (.int i) := fun H1 e Q q =>
  h H1 e _ fun H2 e2 => .inl ⟨i, rfl, q H2 e2⟩
theorem ev_modN {σ : L2.St} {H : Hp} {ta tb : TE} {a b : Nat} (ha : Ev ta σ H (.int (a : Int))) (hb : Ev tb σ H (.int (b : Int))) (h : 0 < b) : Ev (tOp (rI (fun _ j => 0 < j) fun i j => .int (i % j)) ta tb) σ H (.int ((a % b : Nat) : Int)) :=
  ev_is (ev_op ha hb (rv_I (C := fun _ j => 0 < j) (by omega))) (by show V.int _ = _; congr 1)
abbrev spOpened : Sp := sp3 (fun z : Town × Nat × Nat => Da (eTown z.1)) (fun z => Is (.int (z.2.1 : Int))) (fun z => Is (.int (z.2.2 : Int))) (fun z => z.1.Ok) (fun _ => fun G v => ∃ t' : Town, t'.Ok ∧ Dq G v (eTown t'))
theorem ok_opened (F : Fun K "_law_opened" "_law_opened" s_law_opened f fd) (T : Tx K mg) (C_law_ahead : Cal P w K mg base 1 "_law_ahead" ["_law_street", "_law_house"] spLAhead) : FnOk P w K mg base CX0 2 f fd ["_law_street", "_law_one", "_law_two"] spOpened := by
  refine F.ok sc_law_opened (fun vs H Q E h => ?_) (fun cdv A outer s H1 vs Q E hr h => ?_)
  · obtain ⟨_, _, _, _, _, rfl, _⟩ := h; rfl
  · obtain ⟨⟨t, i1, i2⟩, G, v, u1, u2, rfl, e, o, hv, hu1, hu2, q⟩ := h
    cases hu1
    cases hu2
    have o : t.Ok := o
    have hv : Dq G v (eTown t) := hv
    have o7 := o.n7
    have lan := lanes_len o
    refine ⟨_, (pss_cons (ps_set (i := 3) sc_law_opened.nd rfl (by first | exact Or.inl rfl | exact Or.inr rfl) (pe_callB (r := rLenQ K) call_len_seq (by rfl) T.len bt_len (pa_cons (pe_ix (r := rIxL K) ix_list (pv 0) pe_int (fun _ _ => rfl)) pa_nil)))
    (pss_cons (ps_set (i := 4) sc_law_opened.nd rfl (by first | exact Or.inl rfl | exact Or.inr rfl) (pe_lc (own := [("_law_house", 6)]) rfl sc_law_opened.nd (pi_range1 (by rfl) T.range (pa_cons (pv 3) pa_nil)) (blkOk_by (N := N_law_opened) (sc := defScope s_law_opened) (by decide +kernel)) (fun _ _ _ _ _ => (pg_name (i := 6) sc_law_opened.nd rfl (by first | exact Or.inl rfl | exact Or.inr rfl))) (fun _ _ _ _ _ => pts_nil) (fun _ _ _ _ _ => (pe_call C_law_ahead.ok (hr.mono (by decide)) (by rfl) C_law_ahead.g C_law_ahead.kp C_law_ahead.b .nil pass0 (pa_cons (pv 0) (pa_cons (pv 6) pa_nil))))))
    (pss_cons (ps_set (i := 5) sc_law_opened.nd rfl (by first | exact Or.inl rfl | exact Or.inr rfl) (pe_lst pa_nil))
    (pss_cons (ps_for PassesOwn.never rfl (pi_range1 (by rfl) T.range (pa_cons (pv 3) pa_nil)) (pg_name (i := 6) sc_law_opened.nd rfl (by first | exact Or.inl rfl | exact Or.inr rfl))
      (pss_one (ps_if (pt_cmpR op_gt (pe_callB (r := rLenQ K) call_len_seq (by rfl) T.len bt_len (pa_cons (pe_lc (own := [("_law_other", 10)]) rfl sc_law_opened.nd (pi_list (pe_ix (r := rIxL K) ix_list (pv 4) (pv 6) (fun _ _ => rfl))) (blkOk_by (N := N_law_opened) (sc := defScope s_law_opened) (by decide +kernel)) (fun _ _ _ _ _ => (pg_name (i := 10) sc_law_opened.nd rfl (by first | exact Or.inl rfl | exact Or.inr rfl))) (fun _ _ _ _ _ => pts_one (PW.pt (pw_and (pt_cmpR op_ne (pv 10) (pv 6) (nomark _)) (pw_and1 (pt_cmpR (r := rIn K false) op_in_seq (pv 6) (pe_ix (r := rIxL K) ix_list (pv 4) (pv 10) (fun _ _ => rfl)) (by rfl)))))) (fun _ _ _ _ _ => (pv 10))) pa_nil)) pe_int (nomark _))
          (pss_one (ps_expr (pe_bm PySem.F.plainAttrs_list PySem.F.slot_list_append PySem.F.type_list_append mt_append (pv 5) (pa_cons (pv 6) pa_nil))))
          pss_nil)))
    (pss_cons (ps_if (pt_cmpR op_eq (pe_callB (r := rLenQ K) call_len_seq (by rfl) T.len bt_len (pa_cons (pv 5) pa_nil)) pe_int (nomark _))
      (pss_one (ps_ret (pv 0)))
      pss_nil)
    (pss_cons (ps_set (i := 7) sc_law_opened.nd rfl (by first | exact Or.inl rfl | exact Or.inr rfl) (pe_ix (r := rIxL K) ix_list (pv 5) (pe_op op_mod (pe_callTy call_int1 (by rfl) T.int bt_int (pa_cons (pv 1) pa_nil)) (pe_callB (r := rLenQ K) call_len_seq (by rfl) T.len bt_len (pa_cons (pv 5) pa_nil))) (fun _ _ => rfl)))
    (pss_cons (ps_setLc (i := 8) (own := [("_law_b", 9)]) rfl sc_law_opened.nd rfl rfl (sw_true rfl rfl rfl (by decide +kernel)) (pi_range1 (by rfl) T.range (pa_cons (pv 3) pa_nil)) (blkOk_by (N := N_law_opened) (sc := defScope s_law_opened) (by decide +kernel)) (fun _ _ _ _ _ => (pg_name (i := 9) sc_law_opened.nd rfl (by first | exact Or.inl rfl | exact Or.inr rfl))) (fun _ _ _ _ _ => pts_one (PW.pt (pw_and (pt_cmpR op_ne (pv 9) (pv 7) (nomark _)) (pw_and1 (pt_cmpR (r := rNotInD K) (op_notInD (hu65 hr)) (pe_tup (pa_cons (pv 7) (pa_cons (pv 9) pa_nil))) (pe_ix (r := rIxL K) ix_list (pv 0) pe_int (fun _ _ => rfl)) (by rfl)))))) (fun _ _ _ _ _ => (pv 9)))
    (pss_cons (ps_if (pt_cmpR op_eq (pe_callB (r := rLenQ K) call_len_seq (by rfl) T.len bt_len (pa_cons (pv 8) pa_nil)) pe_int (nomark _))
      (pss_one (ps_ret (pv 0)))
      pss_nil)
    (pss_one (ps_ret (pe_lst (pa_cons (pe_ix (r := rIxL K) ix_list (pv 0) pe_int (fun _ _ => rfl)) (pa_cons (pe_callB (cr_sortT (d := 2) (B := 64) (by decide)) (by rfl) T.sorted bt_sorted (pa_cons (pe_op op_cat (pe_ix (r := rIxL K) ix_list (pv 0) pe_int (fun _ _ => rfl)) (pe_lst (pa_cons (pe_tup (pa_cons (pv 7) (pa_cons (pe_ix (r := rIxL K) ix_list (pv 8) (pe_op op_mod (pe_callTy call_int1 (by rfl) T.int bt_int (pa_cons (pv 2) pa_nil)) (pe_callB (r := rLenQ K) call_len_seq (by rfl) T.len bt_len (pa_cons (pv 8) pa_nil))) (fun _ _ => rfl)) pa_nil))) pa_nil))) pa_nil)) pa_nil))))))))))))), ?_⟩
    refine k_asgV (.refl e) (ev_is (ev_lenL (ed_k0L (ed_var rfl (hv.mono e)))) (by rw [List.length_map])) fun Ha na ea => ?_
    refine k_asg (R := fun G v => ∃ Ls : List (List Nat), Dq G v (.list (Ls.map lN)) ∧ Ls.length = t.n ∧ ∀ L ∈ Ls, L.length ≤ 7 ∧ ∀ x ∈ L, x < t.n) na ((er_lcR (m := t.n) (Pl := fun i es => ∃ Ls : List (List Nat), es = Ls.map lN ∧ Ls.length = i ∧ ∀ L ∈ Ls, L.length ≤ 7 ∧ ∀ x ∈ L, x < t.n) (ea_one (ev_var rfl)) (by omega) ⟨[], rfl, rfl, by simp⟩ ?_).imp fun G' v' _ ⟨es, ⟨Ls, e1, e2, e3⟩, h2⟩ => ⟨Ls, by rw [← e1]; exact h2, e2, e3⟩) fun v4 G4 H4 n4 m4 h4 => ?_
    · intro i hi
      refine turnD_name (f := true) rfl et_yes (fun _ => ?_) (fun z => nomatch z)
      refine (er_call2 (t, i) (ed_var rfl hv) (er_var rfl) mono_da mono_is ⟨o, hi⟩).imp fun G' v' _ ⟨L, h1, h2⟩ => ⟨lN L, fun es ⟨Ls, e1, e2, e3⟩ => ⟨Ls ++ [L], by rw [e1, List.map_append]; rfl, by simp [e2], fun L' hL => ?_⟩, h1⟩
      rcases List.mem_append.mp hL with c | c
      · exact e3 L' c
      · rw [List.mem_singleton.mp c]; exact h2
    obtain ⟨Ls, hd4, hlen, hLs⟩ := h4
    refine k_asgM n4 (el_lst ea_nil (by decide)) fun p Hb nb eb gp h1p _ hp => ?_
    refine k_forR (m := t.n) nb (ea_one (ev_var rfl)) (by omega) (fun i σ G' H' => ∃ (R : List Nat) (y6 y7 y8 y9 y10 : Option V), σ = [some v, some (.int (i1 : Int)), some (.int (i2 : Int)), some (.int (t.n : Int)), some v4, some (.ref p), y6, y7, y8, y9, y10] ∧ G' p = none ∧ H' p = some (.lst (R.map vN)) ∧ R.length ≤ i ∧ ∀ x ∈ R, x < t.n)
      (fun H' n' e' => ⟨[], _, _, _, _, _, rfl, gp, e' _ _ hp, by simp, by simp⟩) ?_ ?_
    · intro i σ' G' H' hi n' e' hw
      obtain ⟨R, y6, y7, y8, y9, y10, rfl, gp', hp', hRl, hR⟩ := hw
      have gi : Ls[i]? = some Ls[i] := List.getElem?_eq_getElem (by omega)
      have hLi := hLs Ls[i] (List.getElem_mem _)
      have hd5 := hd4.mono (e'.trans n'.e3)
      have cnt : EvD (tLc (iList K (tOp (rIxL K) (tVar 4) (tVar 6))) (gName 10) (tAnd (tTest (tOp rNe (tVar 10) (tVar 6))) (tTest (tOp (rIn K false) (tVar 6) (tOp (rIxL K) (tVar 4) (tVar 10))))) (tVar 10) [10]) [some v, some (.int (i1 : Int)), some (.int (i2 : Int)), some (.int (t.n : Int)), some v4, some (.ref p), some (.int (i : Int)), y7, y8, y9, y10] H' (.list ((Ls[i].filter fun j => !decide (j = i) && decide (i ∈ Ls.getD j [])).map eN)) := by
        refine ed_lcL (c := eN) (fun j => !decide (j = i) && decide (i ∈ Ls.getD j [])) eN (ed_ixL (i := i) (ed_var rfl hd5) (ev_var rfl) (by rw [List.getElem?_map, gi]; rfl)) (by omega) ?_
        intro j y Gx eg hj hy
        cases hy.intE
        have hjl : j < Ls.length := by rw [hlen]; exact hLi.2 j hj
        refine turnF_name rfl (et_and (et_is (et_test (ev_op (ev_var rfl) (ev_var rfl) (rv_ne rfl))) (by rw [eq_natB])) fun _ => et_test (ev_inL (neg := false) (ns := Ls.getD j []) (ev_var rfl) (ed_ixL (i := j) (ed_var rfl (hd5.mono eg)) (ev_var rfl) (by rw [List.getElem?_map, List.getD_eq_getElem?_getD, List.getElem?_eq_getElem hjl]; rfl)))) fun _ => .ofInt (ev_var rfl)
      refine l_when (b := decide (0 < (Ls[i].filter fun j => !decide (j = i) && decide (i ∈ Ls.getD j [])).length)) n' (et_is (et_test (ev_op (ev_lenL cnt) ev_c rv_I0)) ?_) (fun hb H6 n6 e6 => ?_) (fun hb H6 n6 e6 => ?_)
      · rw [List.length_map]; exact decide_eq_decide.mpr (by omega)
      · refine l_app (R := Da (eN i)) n6 h1p gp' (e6 _ _ hp') (ev_var rfl) (EvD.ofInt (ev_var rfl)) (by rw [List.length_map]; exact Nat.lt_of_le_of_lt (show R.length ≤ 7 by omega) (by decide)) fun v7 G7 H7 n7 e7 fr7 _ hp7 hv7 => ?_
        cases Dq.intE hv7
        refine ⟨G7, n7, e'.trans e7, R ++ [i], _, _, _, _, _, rfl, fr7 p gp' (by rw [e6 _ _ hp']; simp), by rw [hp7, List.map_append (l₁ := R) (l₂ := [i])]; rfl, by simp; omega, fun z hz => ?_⟩
        rcases List.mem_append.mp hz with c | c
        · exact hR z c
        · rw [List.mem_singleton.mp c]; exact hi
      · exact ⟨G', n6, e', R, _, _, _, _, _, rfl, gp', e6 _ _ hp', by omega, hR⟩
    · intro σ' G' H' n' e' hw
      obtain ⟨R, y6, y7, y8, y9, y10, rfl, gp', hp', hRl, hR⟩ := hw
      obtain ⟨n5, e5⟩ := n'.keep h1p hp' gp'
      have hq5 : Dq (upd G' p (.lst (R.map vN))) (.ref p) (lN R) := .mkL upd_same (dqa_vN R)
      have hv5 := hv.mono (m4.e2.trans (e'.trans e5))
      refine k_when (b := decide (R.length = 0)) n5 (et_is (et_test (ev_op (ev_lenL (ed_var rfl (hq5.mono n5.e3))) ev_c (rv_eq rfl))) ?_) (fun hb H6 n6 e6 => ?_) (fun hb H6 n6 e6 => ?_)
      · rw [List.length_map]; exact eq_natB R.length 0
      · exact k_ret n6 q ((ed_var rfl hv5).imp fun G9 v9 _ h9 => ⟨t, o, h9⟩) rfl
      · have hR0 : 0 < R.length := Nat.pos_of_ne_zero (of_decide_eq_false hb)
        have hm1 : i1 % R.length < R.length := Nat.mod_lt _ hR0
        have ha : R[i1 % R.length] < t.n := hR _ (List.getElem_mem hm1)
        generalize hav : R[i1 % R.length] = a at ha
        refine k_asgV n6 (EvD.int (ed_ixL (i := i1 % R.length) (d := eN a) (ed_var rfl (hq5.mono n6.e3)) (ev_modN (ev_int1 (ev_var rfl)) (ev_is (ev_lenL (ed_var rfl (hq5.mono n6.e3))) (by rw [List.length_map])) hR0) (by rw [List.getElem?_map, List.getElem?_eq_getElem hm1, hav]; rfl))) fun H7 n7 e7 => ?_
        refine k_asg (R := Da (lN ((List.range t.n).filter fun b => !decide (b = a) && !decide ((a, b) ∈ t.lanes)))) n7 (ed_lcR (m := t.n) (fun b => !decide (b = a) && !decide ((a, b) ∈ t.lanes)) eN (ea_one (ev_var rfl)) (by omega) ?_) fun v8 G8 H8 n8 m8 hm8 => ?_
        · intro b hb
          refine turnF_name rfl (et_and (et_is (et_test (ev_op (ev_var rfl) (ev_var rfl) (rv_ne rfl))) (by rw [eq_natB])) fun _ => et_test (ev_is (ev_niD (e := ePr (a, b)) (ed_tup (ead_cons (.ofInt (ev_var rfl)) (ead_cons (.ofInt (ev_var rfl)) ead_nil)) (by simp [sizeLine])) (ed_k1L (ed_var rfl hv5)) ((sh_pr _).ok (by decide)) ((sh_lmap fun z _ => sh_pr z).ok (by decide))) (by rw [any_lanes]))) fun _ => .ofInt (ev_var rfl)
        · have hM : ∀ b ∈ (List.range t.n).filter (fun b => !decide (b = a) && !decide ((a, b) ∈ t.lanes)), b < t.n ∧ b ≠ a ∧ (a, b) ∉ t.lanes := fun b hb => by
            obtain ⟨h1, h2⟩ := List.mem_filter.mp hb
            rw [Bool.and_eq_true, Bool.not_eq_true', Bool.not_eq_true', decide_eq_false_iff_not, decide_eq_false_iff_not] at h2
            exact ⟨List.mem_range.mp h1, h2.1, h2.2⟩
          generalize (List.range t.n).filter (fun b => !decide (b = a) && !decide ((a, b) ∈ t.lanes)) = M at hm8 hM
          have hv8 := hv5.mono m8.e2
          refine k_when (b := decide (M.length = 0)) n8 (et_is (et_test (ev_op (ev_lenL (ed_var rfl (Dq.mono hm8 n8.e3))) ev_c (rv_eq rfl))) ?_) (fun hb H9 n9 e9 => ?_) (fun hb H9 n9 e9 => ?_)
          · rw [List.length_map]; exact eq_natB M.length 0
          · exact k_ret n9 q ((ed_var rfl hv8).imp fun G9 v9 _ h9 => ⟨t, o, h9⟩) rfl
          · have hM0 : 0 < M.length := Nat.pos_of_ne_zero (of_decide_eq_false hb)
            have hm2 : i2 % M.length < M.length := Nat.mod_lt _ hM0
            obtain ⟨b1, b2, b3⟩ := hM _ (List.getElem_mem hm2)
            generalize hbv : M[i2 % M.length] = b at b1 b2 b3
            have nd : (t.lanes ++ [(a, b)]).Nodup := List.nodup_append.mpr ⟨o.nd, by simp, fun x hx y hy => by rw [List.mem_singleton.mp hy]; intro z; subst z; exact b3 hx⟩
            have bd : ∀ p ∈ t.lanes ++ [(a, b)], p.1 < t.n ∧ p.2 < t.n ∧ p.1 ≠ p.2 := fun p hp => by
              rcases List.mem_append.mp hp with c | c
              · exact o.ln p c
              · rw [List.mem_singleton.mp c]; exact ⟨ha, b1, fun z => b2 z.symm⟩
            refine k_ret n9 q ?_ rfl
            intro H10 e10 Q10 q10
            have hsort : EvR _ _ G8 _ := er_sort (K := K) (σ := [some v, some (.int (i1 : Int)), some (.int (i2 : Int)), some (.int (t.n : Int)), some v4, some (.ref p), y6, some (.int (a : Int)), some v8, y9, y10]) (ps := t.lanes ++ [(a, b)])
              (ta := tOp rCat (tOp (rIxL K) (tVar 0) (tC (.int 1))) (tLst (tCons (tTup (tCons (tVar 7) (tCons (tOp (rIxL K) (tVar 8) (tOp (rI (fun _ j => 0 < j) fun i j => .int (i % j)) (tCB (fun xs H Q => (∃ i, xs = [.int i] ∧ Q (.int i) H) ∨ ∃ k, xs = [.bl k] ∧ Q (.int (if k then 1 else 0)) H) (tCons (tVar 2) tNil)) (tCB (rLenQ K) (tCons (tVar 8) tNil)))) tNil))) tNil)))
              (by
                show EvD _ _ _ (.list ((t.lanes ++ [(a, b)]).map ePr))
                rw [List.map_append]
                refine ed_cat (ed_k1L (ed_var rfl hv8)) (ed_lst (ead_cons (ed_tup (ead_cons (.ofInt (ev_var rfl)) (ead_cons (ed_ixL (i := i2 % M.length) (ed_var rfl hm8) (ev_modN (ev_int1 (ev_var rfl)) (ev_is (ev_lenL (ed_var rfl hm8)) (by rw [List.length_map])) hM0) (by rw [List.getElem?_map, List.getElem?_eq_getElem hm2, hbv]; rfl)) ead_nil)) (by simp [sizeLine])) ead_nil) (by simp [sizeLine])) ?_
                rw [List.length_map]
                show t.lanes.length + 1 ≤ 2 ^ 24
                omega) nd (fun p hp => by have := bd p hp; omega) (by rw [List.length_append, List.length_singleton]; omega)
            refine ed_k0L (K := K) (ed_var (i := 0) (σ := [some v, some (.int (i1 : Int)), some (.int (i2 : Int)), some (.int (t.n : Int)), some v4, some (.ref p), y6, some (.int (a : Int)), some v8, y9, y10]) rfl hv8) H10 e10 _ fun w1 H11 G11 n11 hw1 => ?_
            refine (EvR.mono (fun G1 G2 v ex ⟨es, h1, h2, h3⟩ => ⟨es, h1, h2, h3.mono ex⟩) hsort n11.e2) H11 n11.e3 _ fun w2 H12 G12 n12 ⟨es, pm, st, hw2⟩ => ?_
            refine ⟨by simp [sizeLine], fun pp hpp => ?_⟩
            have n13 := (n11.trans n12)
            have n14 := n13.new (o := .lst [w1, w2]) hpp
            refine q10 _ _ _ n14 ⟨⟨t.pegs, es⟩, town_of o.n1 o.n7 o.pg pm bd st, .mkL upd_same (.cons ((hw1.mono n12.e2).mono (Ex.new (fresh_back n12.e3 hpp))) (.one (hw2.mono (Ex.new (fresh_back n12.e3 hpp)))))⟩
end
end Lw
namespace Dl
open PySem PySem.Spec PyProof.Rows L2 Evl
section
variable {K : PySem.W.Frag} {σ : L2.St} {H H0 H1 G : Hp} {tl te ta tb : TE} {g : TG} {Dn : Ends} {tu tz : TS}
theorem k_forS {a : Addr} {xs : List V} (n : Nx H0 H1 G H) (h : Ev tl σ H (.ref a)) (hx : SqL K G a xs) (W : Nat → L2.St → Hp → Hp → Prop) (h0 : ∀ H', Nx H0 H1 G H' → Ex H H' → W 0 σ G H')
    (hs : ∀ i x σ' G' H', xs[i]? = some x → Nx H0 H1 G' H' → Ex G G' → W i σ' G' H' → g x σ' H' fun σ2 H2 => tu { Dn with nx := Pw H0 H1 G W (i + 1), ct := Pw H0 H1 G W (i + 1), bk := tz Dn } σ2 H2)
    (hd : ∀ σ' G' H', Nx H0 H1 G' H' → Ex G G' → W xs.length σ' G' H' → tz Dn σ' H') : tSeq (tFor (iList K tl) g tu) tz Dn σ H :=
  h H (.refl _) _ fun Hs e => by
    refine ⟨a, rfl, ⟨xs, ex_l (n.e3.trans e) hx⟩, for_list (xs := xs) (Pw H0 H1 G W) ⟨G, n.grow e, .refl _, h0 Hs (n.grow e) e⟩ (fun i σ' H' _ p => ?_) (fun i x σ' H' hi p => ?_) (fun σ' H' p => ?_)⟩
    · obtain ⟨G', n', e', _⟩ := p
      exact ex_l (e'.trans n'.e3) hx
    · obtain ⟨G', n', e', w⟩ := p
      exact hs i x σ' G' H' hi n' e' w
    · obtain ⟨G', n', e', w⟩ := p
      exact hd σ' G' H' n' e' w
end
end Dl
namespace Lw
open PySem PySem.Spec PyProof.Rows L2 Evl Dl Hd He Hr Xr Classical
def ScA (K : PySem.W.Frag) (is : List Int) : RR := fun G v => ∃ a, v = .ref a ∧ SqL K G a (is.map V.int)
theorem mono_sc {K : PySem.W.Frag} {is : List Int} : Mono (ScA K is) := fun G G' v e ⟨a, h1, h2⟩ => ⟨a, h1, ex_l e h2⟩
theorem mod_b {i m : Int} (h : 0 < m) : 0 ≤ i % m ∧ i % m < m := ⟨Int.emod_nonneg _ (by omega), Int.emod_lt_of_pos _ h⟩
theorem ev_mod {σ : L2.St} {H : Hp} {ta tb : TE} {a b : Int} (ha : Ev ta σ H (.int a)) (hb : Ev tb σ H (.int b)) (h : 0 < b) : Ev (tOp (rI (fun _ j => 0 < j) fun i j => .int (i % j)) ta tb) σ H (.int (a % b)) := ev_op ha hb (rv_I (C := fun _ j => 0 < j) h)
theorem ev_add {σ : L2.St} {H : Hp} {ta tb : TE} {a b : Int} (ha : Ev ta σ H (.int a)) (hb : Ev tb σ H (.int b)) : Ev (tOp (rI0 fun i j => .int (i + j)) ta tb) σ H (.int (a + b)) := ev_op ha hb rv_I0
theorem ev_sub {σ : L2.St} {H : Hp} {ta tb : TE} {a b : Int} (ha : Ev ta σ H (.int a)) (hb : Ev tb σ H (.int b)) : Ev (tOp (rI0 fun i j => .int (i - j)) ta tb) σ H (.int (a - b)) := ev_op ha hb rv_I0
theorem ev_mulW {σ : L2.St} {H : Hp} {ta tb : TE} {a b : Int} (ha : Ev ta σ H (.int a)) (hb : Ev tb σ H (.int b)) (h1 : a.natAbs < 2 ^ 100) (h2 : b.natAbs < 2 ^ 100) : Ev (tOp (rI CMulW fun i j => .int (i * j)) ta tb) σ H (.int (a * b)) := ev_op ha hb (rv_I (C := CMulW) (wide_mul h1 h2 (by decide) (by decide) (by decide)))
theorem ev_div {σ : L2.St} {H : Hp} {ta tb : TE} {a b : Int} (ha : Ev ta σ H (.int a)) (hb : Ev tb σ H (.int b)) (h1 : 0 < b) (h2 : b < 1073741824) : Ev (tOp (rI CDiv fun i j => .int (i / j)) ta tb) σ H (.int (a / b)) := ev_op ha hb (rv_I (C := CDiv) ⟨h1, h2⟩)
theorem sm {x : Int} (h : x.natAbs < 2147483647) : x.natAbs < 2 ^ 100 := Nat.lt_trans h (by decide)
section
variable {P : Program} {w : World} {K : PySem.W.Frag} {mg : Str → Option Value} {base : Heap} {f : Addr} {fd : FuncData}
abbrev N_law_cell : List Str := ["_law_script", "_law_k", "_law_seed", "_law_cell_here"]
theorem sc_law_cell : FnScope N_law_cell ["_law_script", "_law_k"] (defScope s_law_cell) := ⟨rfl, rfl, rfl, by decide +kernel, rfl, by decide +kernel, by decide +kernel⟩
abbrev spCell (K : PySem.W.Frag) : Sp := sp2 (fun z : List Int × Nat => ScA K z.1) (fun z => Is (.int (z.2 : Int))) (fun z => z.2 ≤ 3) (fun _ => fun G v => ∃ i : Int, v = .int i)
theorem ok_cell (F : Fun K "_law_cell" "_law_cell" s_law_cell f fd) (T : Tx K mg) : FnOk P w K mg base CX0 1 f fd ["_law_script", "_law_k"] (spCell K) := by
  refine F.ok sc_law_cell (fun vs H Q E h => ?_) (fun cdv A outer s H1 vs Q E hr h => ?_)
  · obtain ⟨_, _, _, _, rfl, _⟩ := h; rfl
  · obtain ⟨⟨is, k⟩, G, v, u, rfl, e, hk, ⟨a, rfl, hs⟩, hu, q⟩ := h
    cases hu
    have hk : k ≤ 3 := hk
    have hs : SqL K G a (is.map V.int) := hs
    refine ⟨_, (pss_cons (ps_if (pt_cmpR op_lt (pv 1) (pe_callB (r := rLenQ K) call_len_seq (by rfl) T.len bt_len (pa_cons (pv 0) pa_nil)) (nomark _))
      (pss_one (ps_ret (pe_ix (r := rIxL K) ix_list (pv 0) (pv 1) (fun _ _ => rfl))))
      pss_nil)
    (pss_cons (ps_set (i := 2) sc_law_cell.nd rfl (by first | exact Or.inl rfl | exact Or.inr rfl) pe_int)
    (pss_cons (ps_for PassesOwn.never rfl (pi_list (pv 0)) (pg_name (i := 3) sc_law_cell.nd rfl (by first | exact Or.inl rfl | exact Or.inr rfl))
      (pss_one (ps_set (i := 2) sc_law_cell.nd rfl (by first | exact Or.inl rfl | exact Or.inr rfl) (pe_op op_mod (pe_callTy call_int1 (by rfl) T.int bt_int (pa_cons (pe_op op_add (pe_op op_mulW (pv 2) pe_int) (pe_op op_mod (pe_callTy call_int1 (by rfl) T.int bt_int (pa_cons (pv 3) pa_nil)) pe_int)) pa_nil)) pe_int))))
    (pss_one (ps_ret (pe_op op_mod (pe_callTy call_int1 (by rfl) T.int bt_int (pa_cons (pe_op op_mulW (pe_op op_mulW (pe_op op_add (pv 2) pe_int) (pe_op op_add (pv 1) pe_int)) pe_int) pa_nil)) pe_int)))))), ?_⟩
    refine k_when (b := decide (k < is.length)) (.refl e) (et_is (et_test (ev_op (ev_var rfl) (ev_len (ev_var rfl) (ex_l e hs)) rv_I0)) ?_) (fun hb H2 n2 e2 => ?_) (fun hb H2 n2 e2 => ?_)
    · rw [List.length_map]; exact decide_eq_decide.mpr (by omega)
    · have hlt := of_decide_eq_true hb
      refine k_ret n2 q ((EvR.of (v := .int is[k]) (ev_op (ev_var rfl) (ev_var rfl) (rv_ixL hs (atI_nat (by rw [List.getElem?_map, List.getElem?_eq_getElem hlt]; rfl))))).imp fun G9 v9 _ h9 => ⟨_, h9⟩) rfl
    · refine k_asgV n2 ev_c fun H3 n3 e3 => ?_
      refine k_forS n3 (ev_var rfl) hs (fun i σ G' H' => ∃ (sd : Int) (y3 : Option V), σ = [some (.ref a), some (.int (k : Int)), some (.int sd), y3] ∧ 0 ≤ sd ∧ sd < 1000003) (fun _ _ _ => ⟨430, _, rfl, by decide, by decide⟩) ?_ ?_
      · intro i x σ' G' H' hx n' e' hw
        obtain ⟨sd, y3, rfl, b1, b2⟩ := hw
        rw [List.getElem?_map] at hx
        obtain ⟨z, _, rfl⟩ := Option.map_eq_some_iff.mp hx
        have hm := mod_b (i := sd * 31 + z % 1000003) (m := 1000003) (by decide)
        refine l_asgV n' (ev_mod (ev_int1 (ev_add (ev_mulW (ev_var rfl) ev_c (sm (by omega)) (by decide)) (ev_mod (ev_int1 (ev_var rfl)) ev_c (by decide)))) ev_c (by decide)) fun H4 n4 e4 => ⟨G', n4, e', _, _, rfl, hm.1, hm.2⟩
      · intro σ' G' H' n' e' hw
        obtain ⟨sd, y3, rfl, b1, b2⟩ := hw
        have c1 : ((sd + 7) * ((k : Int) + 3)).natAbs < 2 ^ 100 := by
          have h1 : (sd + 7).natAbs < 2 ^ 20 := by
            have : (sd + 7).natAbs < 1000010 := by omega
            exact Nat.lt_trans this (by decide)
          have h2 : ((k : Int) + 3).natAbs < 2 ^ 4 := by
            have : ((k : Int) + 3).natAbs < 7 := by omega
            exact Nat.lt_trans this (by decide)
          exact Nat.lt_of_lt_of_le (wide_lt h1 h2) (by decide)
        refine k_ret n' q ((EvR.of (ev_mod (ev_int1 (ev_mulW (ev_mulW (ev_add (ev_var rfl) ev_c) (ev_add (ev_var rfl) ev_c) ?_ ?_) ev_c c1 (by decide))) ev_c (by decide))).imp fun G9 v9 _ h9 => ⟨_, h9⟩) rfl
        · have : (sd + 7).natAbs < 1000010 := by omega
          exact Nat.lt_trans this (by decide)
        · have : ((k : Int) + 3).natAbs < 7 := by omega
          exact Nat.lt_trans this (by decide)
abbrev N_law_digits : List Str := ["_law_cell_here", "_law_sizes", "_law_row", "_law_rest", "_law_size", "_law_seed", "_law_k", "_law_twice"]
theorem sc_law_digits : FnScope N_law_digits ["_law_cell_here", "_law_sizes"] (defScope s_law_digits) := ⟨rfl, rfl, rfl, by decide +kernel, rfl, by decide +kernel, by decide +kernel⟩
structure Dg (ds sz : List Nat) (i : Nat) : Prop where
  ln : ds.length = i
  lt : ∀ (j d s : Nat), ds[j]? = some d → sz[j]? = some s → d < s
theorem Dg.nil {sz : List Nat} : Dg [] sz 0 := ⟨rfl, fun j d s h => by simp at h⟩
theorem Dg.snoc {ds sz : List Nat} {i d s : Nat} (h : Dg ds sz i) (hs : sz[i]? = some s) (hd : d < s) : Dg (ds ++ [d]) sz (i + 1) := by
  refine ⟨by rw [List.length_append, h.ln]; rfl, fun j d' s' h1 h2 => ?_⟩
  by_cases hj : j < ds.length
  · rw [List.getElem?_append_left hj] at h1; exact h.lt j d' s' h1 h2
  · rw [List.getElem?_append_right (by omega)] at h1
    have hj2 : j = i := by
      have := (List.getElem?_eq_some_iff.mp h1).1
      rw [List.length_singleton] at this
      have := h.ln
      omega
    subst hj2
    rw [show j - ds.length = 0 by have := h.ln; omega] at h1
    cases h1
    rw [hs] at h2; cases h2; exact hd
abbrev spDigits : Sp := sp2 (fun z : Int × List Nat => Is (.int z.1)) (fun z => Da (lN z.2)) (fun z => z.2.length ≤ 1000 ∧ ∀ s ∈ z.2, 1 ≤ s ∧ s < 1000) (fun z => fun G v => ∃ ds, Dq G v (lN ds) ∧ Dg ds z.2 z.2.length)
theorem ok_digits (F : Fun K "_law_digits" "_law_digits" s_law_digits f fd) (T : Tx K mg) : FnOk P w K mg base CX0 1 f fd ["_law_cell_here", "_law_sizes"] spDigits := by
  refine F.ok sc_law_digits (fun vs H Q E h => ?_) (fun cdv A outer s H1 vs Q E hr h => ?_)
  · obtain ⟨_, _, _, _, rfl, _⟩ := h; rfl
  · obtain ⟨⟨c, sz⟩, G, v, u, rfl, e, ⟨hl, hsz⟩, hv, hu, q⟩ := h
    cases hv
    have hu : Dq G u (lN sz) := hu
    have hl : sz.length ≤ 1000 := hl
    have hsz : ∀ s ∈ sz, 1 ≤ s ∧ s < 1000 := hsz
    refine ⟨_, (pss_cons (ps_set (i := 2) sc_law_digits.nd rfl (by first | exact Or.inl rfl | exact Or.inr rfl) (pe_lst pa_nil))
    (pss_cons (ps_set (i := 3) sc_law_digits.nd rfl (by first | exact Or.inl rfl | exact Or.inr rfl) (pe_callTy call_int1 (by rfl) T.int bt_int (pa_cons (pv 0) pa_nil)))
    (pss_cons (ps_if (pt_cmpR op_ge (pv 3) (pe_op op_pow pe_int pe_int) (nomark _))
      (pss_cons (ps_set (i := 3) sc_law_digits.nd rfl (by first | exact Or.inl rfl | exact Or.inr rfl) (pe_op op_sub (pv 3) (pe_op op_pow pe_int pe_int)))
        (pss_cons (ps_for PassesOwn.never rfl (pi_list (pv 1)) (pg_name (i := 4) sc_law_digits.nd rfl (by first | exact Or.inl rfl | exact Or.inr rfl))
          (pss_cons (ps_expr (pe_bm PySem.F.plainAttrs_list PySem.F.slot_list_append PySem.F.type_list_append mt_append (pv 2) (pa_cons (pe_op op_mod (pe_callTy call_int1 (by rfl) T.int bt_int (pa_cons (pv 3) pa_nil)) (pv 4)) pa_nil)))
            (pss_one (ps_set (i := 3) sc_law_digits.nd rfl (by first | exact Or.inl rfl | exact Or.inr rfl) (pe_op op_fdiv (pe_callTy call_int1 (by rfl) T.int bt_int (pa_cons (pv 3) pa_nil)) (pv 4))))))
        (pss_one (ps_ret (pv 2)))))
      pss_nil)
    (pss_cons (ps_set (i := 5) sc_law_digits.nd rfl (by first | exact Or.inl rfl | exact Or.inr rfl) (pe_op op_mod (pe_callTy call_int1 (by rfl) T.int bt_int (pa_cons (pv 3) pa_nil)) pe_int))
    (pss_cons (ps_for PassesOwn.never rfl (pi_range1 (by rfl) T.range (pa_cons (pe_callB (r := rLenQ K) call_len_seq (by rfl) T.len bt_len (pa_cons (pv 1) pa_nil)) pa_nil)) (pg_name (i := 6) sc_law_digits.nd rfl (by first | exact Or.inl rfl | exact Or.inr rfl))
      (pss_cons (ps_set (i := 5) sc_law_digits.nd rfl (by first | exact Or.inl rfl | exact Or.inr rfl) (pe_op op_mod (pe_callTy call_int1 (by rfl) T.int bt_int (pa_cons (pe_op op_add (pe_op op_add (pe_op op_mulW (pv 5) pe_int) (pe_op op_mulW pe_int (pv 6))) pe_int) pa_nil)) pe_int))
        (pss_cons (ps_set (i := 7) sc_law_digits.nd rfl (by first | exact Or.inl rfl | exact Or.inr rfl) (pe_op op_mod (pe_callTy call_int1 (by rfl) T.int bt_int (pa_cons (pe_op op_mulW (pv 5) (pe_op op_add (pe_op op_fdiv (pv 5) pe_int) pe_int)) pa_nil)) pe_int))
        (pss_one (ps_expr (pe_bm PySem.F.plainAttrs_list PySem.F.slot_list_append PySem.F.type_list_append mt_append (pv 2) (pa_cons (pe_op op_mod (pe_op op_fdiv (pv 7) pe_int) (pe_ix (r := rIxL K) ix_list (pv 1) (pv 6) (fun _ _ => rfl))) pa_nil)))))))
    (pss_one (ps_ret (pv 2)))))))), ?_⟩
    refine k_asgM (.refl e) (el_lst ea_nil (by decide)) fun p Ha na ea gp h1p _ hp => ?_
    refine k_asgV na (ev_int1 (ev_var rfl)) fun Hb nb eb => ?_
    have pw10 : ∀ {σ : L2.St} {H : Hp}, Ev (tOp (rI CPow fun i j => .int (i ^ j.toNat)) (tC (.int 10)) (tC (.int 18))) σ H (.int (10 ^ 18)) := fun {σ H} => ev_is (ev_op ev_c ev_c (rv_I (C := CPow) ⟨by decide, by decide, by decide⟩)) rfl
    have app : ∀ {σ : L2.St} {te : TE} {G' H' : Hp} {ds : List Nat} {i d s : Nat} {Dn : Ends} {j : Nat}, Nx G H1 G' H' → G' p = none → H' p = some (.lst (ds.map vN)) → Dg ds sz i → sz[i]? = some s → d < s → σ[j]? = some (some (.ref p)) → Ev te σ G' (.int (d : Int)) →
        (∀ G2 H2, Nx G H1 G2 H2 → Ex G' G2 → G2 p = none → H2 p = some (.lst ((ds ++ [d]).map vN)) → Dg (ds ++ [d]) sz (i + 1) → Dn.nx σ H2) → tDrop (tBM K "list" rAppend (tVar j) (tCons te tNil)) Dn σ H' := fun {σ te G' H' ds i d s Dn j} n' gp' hp' hD hs hd hj he k => by
      have hil : i < sz.length := (List.getElem?_eq_some_iff.mp hs).1
      refine l_app n' h1p gp' hp' (ev_var hj) (EvR.of he) (by rw [List.length_map, hD.ln]; exact Nat.lt_of_lt_of_le (show i < 1000 by omega) (by decide)) fun v7 G7 H7 n7 e7 fr7 _ hp7 hv7 => ?_
      cases hv7
      exact k G7 H7 n7 e7 (fr7 p gp' (by rw [hp']; simp)) (by rw [hp7, List.map_append (l₁ := ds) (l₂ := [d])]; rfl) (hD.snoc hs hd)
    refine k_when (b := decide (c ≥ 10 ^ 18)) nb (et_test (ev_op (ev_var rfl) pw10 rv_I0)) (fun hb H2 n2 e2 => ?_) (fun hb H2 n2 e2 => ?_)
    · refine k_asgV n2 (ev_sub (ev_var rfl) pw10) fun H3 n3 e3 => ?_
      refine k_forL n3 (ed_var rfl hu) (fun i σ G' H' => ∃ (ds : List Nat) (r : Int) (y0 y4 y5 y6 y7 : Option V), σ = [y0, some u, some (.ref p), some (.int r), y4, y5, y6, y7] ∧ G' p = none ∧ H' p = some (.lst (ds.map vN)) ∧ Dg ds sz i)
        (fun Ga H' m5 => ⟨[], _, _, _, _, _, _, rfl, m5.fr p gp (by rw [e3 _ _ (e2 _ _ (eb _ _ hp))]; simp), m5.e1 _ _ (e3 _ _ (e2 _ _ (eb _ _ hp))), Dg.nil⟩) ?_ ?_
      · intro Ga i d x σ' G' H' eg hd hx n' e' hw
        obtain ⟨ds, r, y0, y4, y5, y6, y7, rfl, gp', hp', hD⟩ := hw
        rw [List.getElem?_map] at hd
        obtain ⟨s, hs, rfl⟩ := Option.map_eq_some_iff.mp hd
        cases hx.intE
        obtain ⟨s1, s2⟩ := hsz s (List.mem_of_getElem? hs)
        have hm := mod_b (i := r) (m := (s : Int)) (by omega)
        refine app (d := (r % (s : Int)).toNat) n' gp' hp' hD hs (by omega) rfl (ev_is (ev_mod (ev_int1 (ev_var rfl)) (ev_var rfl) (by omega)) (by rw [Int.toNat_of_nonneg hm.1])) fun G7 H7 n7 e7 gp7 hp7 hD7 => ?_
        exact l_asgV n7 (ev_div (ev_int1 (ev_var rfl)) (ev_var rfl) (by omega) (by omega)) fun H8 n8 e8 => ⟨G7, n8, e'.trans e7, _, _, _, _, _, _, _, rfl, gp7, e8 _ _ hp7, hD7⟩
      · intro σ' G' H' n' e' hw
        obtain ⟨ds, r, y0, y4, y5, y6, y7, rfl, gp', hp', hD⟩ := hw
        rw [List.length_map] at hD
        obtain ⟨n9, e9⟩ := n'.keep h1p hp' gp'
        exact k_ret n9 q ((ed_var (v := .ref p) (d := lN ds) rfl (.mkL upd_same (dqa_vN ds))).imp fun G9 v9 _ h9 => ⟨ds, h9, hD⟩) rfl
    · refine k_asgV n2 (ev_mod (ev_int1 (ev_var rfl)) ev_c (by decide)) fun H3 n3 e3 => ?_
      have hm0 := mod_b (i := c) (m := 2147483629) (by decide)
      refine k_forR (m := sz.length) n3 (ea_one (ev_is (ev_lenL (ed_var rfl (hu.mono n3.e3))) (by rw [List.length_map]))) (by omega) (fun i σ G' H' => ∃ (ds : List Nat) (sd : Int) (y0 y3 y4 y6 y7 : Option V), σ = [y0, some u, some (.ref p), y3, y4, some (.int sd), y6, y7] ∧ G' p = none ∧ H' p = some (.lst (ds.map vN)) ∧ Dg ds sz i ∧ 0 ≤ sd ∧ sd < 2147483647)
        (fun H' n' e' => ⟨[], _, _, _, _, _, _, rfl, gp, e' _ _ (e3 _ _ (e2 _ _ (eb _ _ hp))), Dg.nil, hm0.1, by omega⟩) ?_ ?_
      · intro i σ' G' H' hi n' e' hw
        obtain ⟨ds, sd, y0, y3, y4, y6, y7, rfl, gp', hp', hD, b1, b2⟩ := hw
        have hs : sz[i]? = some sz[i] := List.getElem?_eq_getElem hi
        obtain ⟨s1, s2⟩ := hsz _ (List.getElem_mem hi)
        have hm := mod_b (i := sd * 48271 + 974711 * (i : Int) + 12345) (m := 2147483647) (by decide)
        refine k_asgV n' (ev_mod (ev_int1 (ev_add (ev_add (ev_mulW (ev_var rfl) ev_c (sm (by omega)) (by decide)) (ev_mulW ev_c (ev_var rfl) (by decide) (sm (by omega)))) ev_c)) ev_c (by decide)) fun H4 n4 e4 => ?_
        generalize sd * 48271 + 974711 * (i : Int) + 12345 = big at hm
        generalize big % 2147483647 = sd2 at hm
        have hm2 := mod_b (i := sd2 * (sd2 / 65537 + 3)) (m := 2147483629) (by decide)
        refine k_asgV n4 (ev_mod (ev_int1 (ev_mulW (ev_var rfl) (ev_add (ev_div (ev_var rfl) ev_c (by decide) (by decide)) ev_c) (sm (by omega)) (sm (by omega)))) ev_c (by decide)) fun H5 n5 e5 => ?_
        generalize sd2 * (sd2 / 65537 + 3) % 2147483629 = tw
        have hm3 := mod_b (i := tw / 19) (m := (sz[i] : Int)) (by omega)
        refine app (d := (tw / 19 % (sz[i] : Int)).toNat) n5 gp' (e5 _ _ (e4 _ _ hp')) hD hs (by omega) rfl (ev_is (ev_mod (ev_div (ev_var rfl) ev_c (by decide) (by decide)) (EvD.int (ed_ixL (i := i) (d := eN sz[i]) (ed_var rfl (hu.mono e')) (ev_var rfl) (by rw [List.getElem?_map, hs]; rfl))) (by omega)) (by rw [Int.toNat_of_nonneg hm3.1])) fun G7 H7 n7 e7 gp7 hp7 hD7 => ?_
        exact ⟨G7, n7, e'.trans e7, _, sd2, _, _, _, _, _, rfl, gp7, hp7, hD7, hm.1, hm.2⟩
      · intro σ' G' H' n' e' hw
        obtain ⟨ds, sd, y0, y3, y4, y6, y7, rfl, gp', hp', hD, _⟩ := hw
        obtain ⟨n9, e9⟩ := n'.keep h1p hp' gp'
        exact k_ret n9 q ((ed_var (v := .ref p) (d := lN ds) rfl (.mkL upd_same (dqa_vN ds))).imp fun G9 v9 _ h9 => ⟨ds, h9, hD⟩) rfl
end
end Lw
namespace Tm
/-- a nodup list of numbers below n is short -/
theorem nodup_lenT : ∀ (n : Nat) (l : List Nat), l.Nodup → (∀ x ∈ l, x < n) → l.length ≤ n := by
  intro n
  induction n with
  | zero =>
    intro l _ h
    cases l with
    | nil => exact Nat.le_refl _
    | cons x r => exact absurd (h x List.mem_cons_self) (Nat.not_lt_zero _)
  | succ n ih =>
    intro l hn h
    by_cases hm : n ∈ l
    · have h2 := ih (l.erase n) (hn.erase n) fun x hx => by
        have a := h x (List.mem_of_mem_erase hx)
        have b : x ≠ n := fun e => by
          subst e
          exact (hn.mem_erase_iff.mp hx).1 rfl
        omega
      rw [List.length_erase_of_mem hm] at h2
      omega
    · have h2 := ih l hn fun x hx => by
        have a := h x hx
        have b : x ≠ n := fun e => by subst e; exact hm hx
        omega
      omega
/-- pairs below 7 without repetition are few -/
theorem pairs_len {l : List (Nat × Nat)} (nd : l.Nodup) (b : ∀ p ∈ l, p.1 < 7 ∧ p.2 < 7) : l.length ≤ 49 := by
  have h : (l.map fun p => p.1 * 7 + p.2).Nodup := by
    unfold List.Nodup
    rw [List.pairwise_map]
    refine List.Pairwise.imp_of_mem (fun {p q} hp hq r e => ?_) nd
    have h1 := b p hp
    have h2 := b q hq
    have e1 : p.1 = q.1 := by omega
    have e2 : p.2 = q.2 := by omega
    exact r (Prod.ext e1 e2)
  have := nodup_lenT 49 _ h fun x hx => by
    obtain ⟨p, hp, rfl⟩ := List.mem_map.mp hx
    have := b p hp
    omega
  rwa [List.length_map] at this
theorem nodup_snoc {α : Type} {l : List α} {x : α} (nd : l.Nodup) (h : x ∉ l) : (l ++ [x]).Nodup :=
  List.nodup_append.mpr ⟨nd, by simp, fun a ha b hb e => by rw [List.mem_singleton.mp hb] at e; subst e; exact h ha⟩
/-- where it first stands -/
def FirstAt (l : List Nat) (a j : Nat) : Prop := l[j]? = some a ∧ ∀ m z, m < j → l[m]? = some z → z ≠ a
theorem first_at : ∀ {l : List Nat} {a : Nat}, a ∈ l → ∃ j, FirstAt l a j
  | x :: l, a, h => by
    by_cases e : x = a
    · subst e
      exact ⟨0, rfl, fun m z hm => absurd hm (Nat.not_lt_zero _)⟩
    · rcases List.mem_cons.mp h with h | h
      · exact absurd h.symm e
      · obtain ⟨j, h1, h2⟩ := first_at h
        refine ⟨j + 1, by simpa using h1, fun m z hm hz => ?_⟩
        cases m with
        | zero =>
          have : x = z := by simpa using hz
          subst this; exact e
        | succ m => exact h2 m z (by omega) (by simpa using hz)
/-- put in at a place -/
theorem ins_perm {L : List Nat} {k : Nat} (h : L.Perm (List.range k)) (pl : Nat) : (L.take pl ++ [k] ++ L.drop pl).Perm (List.range (k + 1)) := by
  rw [List.range_succ, List.append_assoc]
  refine List.Perm.trans (l₂ := k :: (L.take pl ++ L.drop pl)) ?_ ?_
  · exact List.perm_middle
  · rw [List.take_append_drop]
    refine (List.Perm.cons k h).trans ?_
    exact (List.perm_append_comm (l₁ := [k]) (l₂ := List.range k))
structure Ord (L : List Nat) (n : Nat) : Prop where
  nd : L.Nodup
  ln : L.length = n
  lt : ∀ x ∈ L, x < n
  mem : ∀ x, x < n → x ∈ L
theorem ord_of {L : List Nat} {n : Nat} (h : L.Perm (List.range n)) : Ord L n :=
  ⟨h.nodup_iff.mpr List.nodup_range, by rw [h.length_eq, List.length_range], fun x hx => List.mem_range.mp (h.mem_iff.mp hx), fun x hx => h.mem_iff.mpr (List.mem_range.mpr hx)⟩
/-! a ring over a list -/
def ringL (g : List Nat) : List (Nat × Nat) := (List.range g.length).map fun k => (g.getD k 0, g.getD ((k + 1) % g.length) 0)
theorem ringL_fst (g : List Nat) : (ringL g).map (·.1) = g := by
  apply List.ext_getElem?
  intro i
  unfold ringL
  rw [List.map_map, List.getElem?_map]
  by_cases h : i < g.length
  · rw [List.getElem?_range h, List.getElem?_eq_getElem h]
    simp [h]
  · rw [List.getElem?_eq_none (by rw [List.length_range]; omega), List.getElem?_eq_none (by omega)]; rfl
theorem getD_at {g : List Nat} {i : Nat} (h : i < g.length) : g.getD i 0 = g[i] := by
  rw [List.getD_eq_getElem?_getD, List.getElem?_eq_getElem h]; rfl
theorem getD_inj {g : List Nat} (nd : g.Nodup) {i j : Nat} (hi : i < g.length) (hj : j < g.length) (e : g.getD i 0 = g.getD j 0) : i = j := by
  rw [getD_at hi, getD_at hj] at e
  exact (List.getElem_inj nd).mp e
theorem ringL_mem {g : List Nat} (nd : g.Nodup) (h : 1 < g.length) : ∀ p ∈ ringL g, p.1 ∈ g ∧ p.2 ∈ g ∧ p.1 ≠ p.2 := fun p hp => by
  obtain ⟨k, hk, rfl⟩ := List.mem_map.mp hp
  have hk := List.mem_range.mp hk
  have h2 : (k + 1) % g.length < g.length := Nat.mod_lt _ (by omega)
  refine ⟨?_, ?_, fun e => ?_⟩
  · show g.getD k 0 ∈ g
    rw [getD_at hk]; exact List.getElem_mem hk
  · show g.getD ((k + 1) % g.length) 0 ∈ g
    rw [getD_at h2]; exact List.getElem_mem h2
  · have := getD_inj nd hk h2 e
    by_cases hl : k + 1 < g.length
    · rw [Nat.mod_eq_of_lt hl] at this; omega
    · have e2 : k + 1 = g.length := by omega
      rw [e2, Nat.mod_self] at this; omega
/-- lanes of the groups so far -/
structure LG (F : List Nat) (Ls : List (Nat × Nat)) : Prop where
  nf : (Ls.map (·.1)).Nodup
  m : ∀ p ∈ Ls, p.1 ∈ F ∧ p.2 ∈ F ∧ p.1 ≠ p.2
theorem LG.nil : LG [] [] := ⟨by simp, fun p hp => by cases hp⟩
theorem LG.one {F g : List Nat} {Ls : List (Nat × Nat)} (h : LG F Ls) : LG (F ++ g) Ls :=
  ⟨h.nf, fun p hp => by obtain ⟨a, b, c⟩ := h.m p hp; exact ⟨List.mem_append_left _ a, List.mem_append_left _ b, c⟩⟩
theorem LG.ring {F g : List Nat} {Ls : List (Nat × Nat)} (h : LG F Ls) (nd : (F ++ g).Nodup) (hg : 1 < g.length) : LG (F ++ g) (Ls ++ ringL g) := by
  obtain ⟨nF, ng, dj⟩ := List.nodup_append.mp nd
  refine ⟨?_, fun p hp => ?_⟩
  · rw [List.map_append, ringL_fst]
    refine List.nodup_append.mpr ⟨h.nf, ng, fun a ha b hb => ?_⟩
    obtain ⟨p, hp, rfl⟩ := List.mem_map.mp ha
    exact dj _ (h.m p hp).1 b hb
  · rcases List.mem_append.mp hp with hp | hp
    · obtain ⟨a, b, c⟩ := h.m p hp
      exact ⟨List.mem_append_left _ a, List.mem_append_left _ b, c⟩
    · obtain ⟨a, b, c⟩ := ringL_mem ng hg p hp
      exact ⟨List.mem_append_right _ a, List.mem_append_right _ b, c⟩
theorem LG.len {F : List Nat} {Ls : List (Nat × Nat)} (h : LG F Ls) {n : Nat} (hF : ∀ x ∈ F, x < n) : Ls.length ≤ n := by
  have := nodup_lenT n _ h.nf fun x hx => by
    obtain ⟨p, hp, rfl⟩ := List.mem_map.mp hx
    exact hF _ (h.m p hp).1
  rwa [List.length_map] at this
/-- lanes among n houses -/
structure LA (n : Nat) (Ls : List (Nat × Nat)) : Prop where
  nd : Ls.Nodup
  b : ∀ p ∈ Ls, p.1 < n ∧ p.2 < n ∧ p.1 ≠ p.2
theorem LG.la {F : List Nat} {Ls : List (Nat × Nat)} (h : LG F Ls) {n : Nat} (hF : ∀ x ∈ F, x < n) : LA n Ls := by
  refine ⟨?_, fun p hp => by obtain ⟨a, b, c⟩ := h.m p hp; exact ⟨hF _ a, hF _ b, c⟩⟩
  have h1 := h.nf
  unfold List.Nodup at h1 ⊢
  rw [List.pairwise_map] at h1
  exact h1.imp fun r e => r (by rw [e])
theorem LA.snoc {n : Nat} {Ls : List (Nat × Nat)} (h : LA n Ls) {p : Nat × Nat} (hp : p ∉ Ls) (h1 : p.1 < n) (h2 : p.2 < n) (h3 : p.1 ≠ p.2) : LA n (Ls ++ [p]) :=
  ⟨nodup_snoc h.nd hp, fun q hq => by
    rcases List.mem_append.mp hq with c | c
    · exact h.b q c
    · rw [List.mem_singleton.mp c]; exact ⟨h1, h2, h3⟩⟩
theorem LA.len {n : Nat} {Ls : List (Nat × Nat)} (h : LA n Ls) (hn : n ≤ 7) : Ls.length ≤ 49 := pairs_len h.nd fun p hp => by have := h.b p hp; omega
/-! lanes told by places -/
def atP (L : List Nat) (p : Nat × Nat) : Nat × Nat := (L.getD p.1 0, L.getD p.2 0)
theorem LA.atP {L : List Nat} {n : Nat} (o : Ord L n) {I : List (Nat × Nat)} (h : LA n I) : LA n (I.map (atP L)) := by
  have inj : ∀ p q : Nat × Nat, p ∈ I → q ∈ I → Tm.atP L p = Tm.atP L q → p = q := fun p q hp hq e => by
    have h1 := h.b p hp
    have h2 := h.b q hq
    have ln := o.ln
    exact Prod.ext (getD_inj o.nd (by omega) (by omega) (congrArg Prod.fst e)) (getD_inj o.nd (by omega) (by omega) (congrArg Prod.snd e))
  refine ⟨?_, fun p hp => ?_⟩
  · unfold List.Nodup
    rw [List.pairwise_map]
    exact List.Pairwise.imp_of_mem (fun {p q} hp hq r e => r (inj p q hp hq e)) h.nd
  · obtain ⟨q, hq, rfl⟩ := List.mem_map.mp hp
    have h1 := h.b q hq
    have ln := o.ln
    have at_ : ∀ i, i < n → L.getD i 0 < n := fun i hi => by
      rw [getD_at (by omega)]; exact o.lt _ (List.getElem_mem _)
    refine ⟨at_ _ h1.1, at_ _ h1.2.1, fun e => h1.2.2 (getD_inj o.nd (by omega) (by omega) e)⟩
theorem LA.mono {n m : Nat} {I : List (Nat × Nat)} (h : LA n I) (e : n ≤ m) : LA m I := ⟨h.nd, fun p hp => by have := h.b p hp; omega⟩
/-- two rings: places 0.. s-1, and o .. o+h-1 with s - 1 ≤ o -/
def ringP (o h : Nat) : List (Nat × Nat) := (List.range h).map fun k => (o + k, o + (k + 1) % h)
theorem ringP_mem {o h : Nat} (h2 : 2 ≤ h) : ∀ p ∈ ringP o h, o ≤ p.1 ∧ p.1 < o + h ∧ o ≤ p.2 ∧ p.2 < o + h ∧ p.1 ≠ p.2 := fun p hp => by
  obtain ⟨k, hk, rfl⟩ := List.mem_map.mp hp
  have hk := List.mem_range.mp hk
  have hm : (k + 1) % h < h := Nat.mod_lt _ (by omega)
  refine ⟨Nat.le_add_right _ _, ?_, Nat.le_add_right _ _, ?_, ?_⟩
  · show o + k < o + h
    omega
  · show o + (k + 1) % h < o + h
    omega
  · show o + k ≠ o + (k + 1) % h
    by_cases hl : k + 1 < h
    · rw [Nat.mod_eq_of_lt hl]; omega
    · have e2 : k + 1 = h := by omega
      rw [e2, Nat.mod_self]; omega
theorem ringP_nd (o h : Nat) : (ringP o h).Nodup := by
  unfold ringP List.Nodup
  rw [List.pairwise_map]
  exact (List.nodup_range (n := h)).imp fun {a b} r e => r (by have := congrArg Prod.fst e; simp at this; omega)
theorem two_rings {s o h : Nat} (hs : 2 ≤ s) (hh : 2 ≤ h) (ho : s ≤ o + 1) : LA (o + h) (ringP 0 s ++ ringP o h) := by
  refine ⟨List.nodup_append.mpr ⟨ringP_nd _ _, ringP_nd _ _, fun a ha b hb e => ?_⟩, fun p hp => ?_⟩
  · subst e
    have h1 := ringP_mem hs a ha
    have h2 := ringP_mem hh a hb
    omega
  · rcases List.mem_append.mp hp with c | c
    · have h1 := ringP_mem hs p c
      omega
    · have h1 := ringP_mem hh p c
      omega
theorem link1 {s h x y : Nat} (hs : 2 ≤ s) (hh : 2 ≤ h) (hx : x < s) (hy : y < h) : LA (s + h) (ringP 0 s ++ ringP s h ++ [(x, s + y)]) := by
  refine (two_rings hs hh (Nat.le_succ s)).snoc (fun hp => ?_) (by show x < _; omega) (by show s + y < _; omega) (by show x ≠ s + y; omega)
  rcases List.mem_append.mp hp with c | c
  · have h1 := ringP_mem hs _ c
    have : s + y < 0 + s := h1.2.2.2.1
    omega
  · have h1 := ringP_mem hh _ c
    have : s ≤ x := h1.1
    omega
theorem link2 {s h n x y : Nat} {I : List (Nat × Nat)} (h0 : LA n I) (hI : ∀ p ∈ I, p.1 < s ∨ s ≤ p.2) (hn : s + h ≤ n) (hx : x < s) (hy : y < h) : LA n (I ++ [(s + y, x)]) := by
  refine h0.snoc (fun hp => ?_) (by show s + y < _; omega) (by show x < _; omega) (by show s + y ≠ x; omega)
  rcases hI _ hp with c | c
  · have : s + y < s := c
    omega
  · have : s ≤ x := c
    omega
theorem rings_side {s h : Nat} (hs : 2 ≤ s) (hh : 2 ≤ h) : ∀ p ∈ ringP 0 s ++ ringP s h, p.1 < s ∨ s ≤ p.2 := fun p hp => by
  rcases List.mem_append.mp hp with c | c
  · have h1 := ringP_mem hs _ c
    omega
  · have h1 := ringP_mem hh _ c
    omega
/-- a new place -/
theorem LA.new1 {k x : Nat} {I : List (Nat × Nat)} (h : LA k I) (hx : x < k) : LA (k + 1) (I ++ [(k, x)]) :=
  (h.mono (Nat.le_succ k)).snoc (fun hp => by have := (h.b _ hp).1; exact Nat.lt_irrefl _ this) (Nat.lt_succ_self k) (by show x < _; omega) (by show k ≠ x; omega)
theorem LA.new2 {k x : Nat} {I : List (Nat × Nat)} (h : LA k I) (hx : x < k) : LA (k + 1) (I ++ [(x, k)]) :=
  (h.mono (Nat.le_succ k)).snoc (fun hp => by have := (h.b _ hp).2.1; exact Nat.lt_irrefl _ this) (by show x < _; omega) (Nat.lt_succ_self k) (by show x ≠ k; omega)
end Tm
namespace Dl
open PySem PySem.Spec PyProof.Rows L2 Evl Xr Hr
section
variable {K : PySem.W.Frag} {σ : L2.St} {H H0 H1 G : Hp} {tl te ta tb : TE} {t u : TT} {g : TG} {vs : List Nat} {Dn : Ends} {tu tz : TS}
theorem ef_cat {ds es : List D} (ha : EvD ta σ H (.list ds)) (hb : EvD tb σ H (.list es)) (hz : ds.length + es.length ≤ sizeLine) : EvF (tOp rCat ta tb) σ H (ds ++ es) := fun H1 e Q q =>
  ha H1 e _ fun v H2 G n hv => (EvD.mono hb n.e2) H2 n.e3 _ fun w H3 G' n' hw => by
    obtain ⟨a, xs, rfl, h1, h2⟩ := (Dq.mono hv n'.e2).lstE
    obtain ⟨b, ys, rfl, h3, h4⟩ := Dq.lstE hw
    refine ⟨a, b, xs, ys, rfl, rfl, n'.e3 _ _ h1, n'.e3 _ _ h3, by rw [h2.len, h4.len]; exact hz, fun p hp => ?_⟩
    have n2 := n.trans n'
    exact q p (upd H3 p (.lst (xs ++ ys))) G' (xs ++ ys) (n2.grow (Ex.new hp)) (fresh_back n2.e3 hp) (fresh_back n2.e1 hp) upd_same (h2.append h4)
theorem l_asgF {i : Nat} {ds : List D} (n : Nx H0 H1 G H) (h : EvF te σ G ds) (k : ∀ p G' H' xs, Nx H0 H1 G' H' → Nx G H G' H' → G' p = none → H1 p = none → H p = none → H' p = some (.lst xs) → DqA G' xs ds → Dn.nx (σ.set i (some (.ref p))) H') : tAsg te (gName i) Dn σ H :=
  h H n.e3 _ fun p H2 G2 xs m gp hp h2 q => k p G2 H2 xs (n.trans m) m gp (fresh_back n.e1 hp) hp h2 q
theorem ef_mapR {ta : TA} {m : Nat} (e : Nat → D) (hs : EvA ta σ H [.int (m : Int)]) (hz : m ≤ 10000000)
    (turn : ∀ (i : Nat), i < m → TurnF σ vs g t te true (e i) (.int (i : Int)) H) : EvF (tLc (iRng1 ta) g t te vs) σ H ((List.range m).map e) := fun H0 e0 Q q =>
  hs H0 e0 _ fun Hs e1 => by
    refine ⟨m, rfl, by omega, by omega, fun Dl hD => lc_range (lo := 0) (n := m) (CwR H Hs (PlF (List.range m) (fun _ => true) e) Dl) (cw_start (e0.trans e1) hD rfl) (fun i H' hi p => ?_) (fun H' p => ?_)⟩
    · rw [show (0 : Int) + (i : Int) = (i : Int) from Int.zero_add _]
      have hl : (List.range m)[i]? = some i := by rw [List.getElem?_range hi]
      exact ((turn i hi).turn hl).run p (by omega)
    · obtain ⟨G', acc, ds, nx, g1, g2, h1', qa, hp, _⟩ := p.ex
      refine q Dl H' G' acc ((Nx.of e0 e1).trans nx) g1 (fresh_back e1 g2) h1' ?_
      unfold PlF at hp
      rw [filter_all, List.take_of_length_le (by simp)] at hp
      rw [← hp]; exact qa
/-- l.append([..]), the new one ours -/
theorem l_appN {l : Addr} {xs ys : List V} (n : Nx H0 H1 G H) (h1 : H1 l = none) (hg : G l = none) (hl : H l = some (.lst xs)) (ha : Ev ta σ H (.ref l)) (h : EvL te σ H ys) (hz : xs.length < sizeLine)
    (k : ∀ p H', Nx H0 H1 G H' → H p = none → (∀ b o, b ≠ l → H b = some o → H' b = some o) → H' l = some (.lst (xs ++ [.ref p])) → H' p = some (.lst ys) → Dn.nx σ H') : tDrop (tBM K "list" rAppend ta (tCons te tNil)) Dn σ H :=
  ha H (.refl _) _ fun H2 e2 => ⟨Or.inl ⟨rfl, xs, sq_of (e2 l _ hl)⟩, h H2 e2 _ fun p H3 hp e3 h3 => by
    have hpl : p ≠ l := fun z => by subst z; rw [e2 _ _ hl] at hp; cases hp
    refine ⟨l, xs, .ref p, rfl, rfl, e3 _ _ (e2 l _ hl), hz, k p _ ((n.grow (e2.trans e3)).mut h1 hg) (fresh_back e2 hp) (fun b o hb q => ?_) upd_same ?_⟩
    · rw [upd_ne hb]; exact e3 _ _ (e2 _ _ q)
    · rw [upd_ne hpl]; exact h3⟩
theorem ed_rep {ds : List D} {k : Nat} (ha : EvD ta σ H (.list ds)) (hb : Ev tb σ H (.int (k : Int))) (hz : ds.length * k ≤ sizeLine) (hk : k < 1000) : EvD (tOp rRep ta tb) σ H (.list (List.replicate k ds).flatten) :=
  er_op ha (.of hb) mono_da mono_is fun G H2 v w Q e e2 hv hw q => by
    cases hw
    obtain ⟨a, xs, rfl, h1, h2⟩ := Dq.lstE hv
    exact ⟨a, (k : Int), xs, rfl, rfl, e2 _ _ h1, by omega, by omega, by rw [h2.len]; simpa using hz, fun p hp => by simpa using Ret.newL q e2 (h2.rep k) hp⟩
theorem ev_index {ns : List Nat} {a j : Nat} (ha : EvD ta σ H (.list (ns.map eN))) (hb : Ev te σ H (.int (a : Int))) (hj : Tm.FirstAt ns a j) : Ev (tBM K "list" (rIndex K) ta (tCons te tNil)) σ H (.int (j : Int)) := fun H1 e Q q =>
  ha H1 e _ fun v H2 G n hv => by
    obtain ⟨p, xs, rfl, h1, h2⟩ := Dq.lstE hv
    rw [map_eN] at h2
    have ex := h2.intsE
    subst ex
    refine ⟨Or.inl ⟨rfl, _, sq_of (n.e3 _ _ h1)⟩, hb H2 (e.trans n.e1) _ fun H3 e3 => ?_⟩
    have gt : ∀ m : Nat, ((ns.map fun n : Nat => (n : Int)).map V.int)[m]? = (ns[m]?).map fun n : Nat => V.int (n : Int) := fun m => by
      rw [List.map_map, List.getElem?_map]; rfl
    refine ⟨p, _, .int (a : Int), j, .int (a : Int), rfl, rfl, sq_of (e3 _ _ (n.e3 _ _ h1)), rfl, all_flat _, by rw [gt, hj.1]; rfl, by show ((a : Int) == (a : Int)) = true; simp, fun m z hm hz => ?_, q H3 (n.e1.trans e3)⟩
    rw [gt] at hz
    obtain ⟨x, hx, rfl⟩ := Option.map_eq_some_iff.mp hz
    have := hj.2 m x hm hx
    show ((x : Int) == (a : Int)) = false
    rw [beq_eq_false_iff_ne]; omega
theorem ev_int1b {b : Bool} (h : Ev te σ H (.bl b)) : Ev (tCB (fun xs H Q => (∃ i, xs = [V.int i] ∧ Q (.int i) H) ∨ ∃ k, xs = [V.bl k] ∧ Q (.int (if k then 1 else 0)) H) (tCons te tNil)) σ H (.int (if b then 1 else 0)) := fun H1 e Q q =>
  h H1 e _ fun H2 e2 => .inr ⟨b, rfl, q H2 e2⟩
theorem ev_min2 {i j : Int} (ha : Ev ta σ H (.int i)) (hb : Ev tb σ H (.int j)) : Ev (tCB (fun xs H Q => ∃ i j, xs = [V.int i, V.int j] ∧ Q (V.int (if j < i then j else i)) H) (tCons ta (tCons tb tNil))) σ H (.int (if j < i then j else i)) := fun H1 e Q q =>
  ha H1 e _ fun H2 e2 => hb H2 (e.trans e2) _ fun H3 e3 => ⟨i, j, rfl, q H3 (e2.trans e3)⟩
/-! some truth value -/
theorem k_asgB {i : Nat} (n : Nx H0 H1 G H) (h : ∃ b, Ev te σ H (.bl b)) (k : ∀ b H', Nx H0 H1 G H' → Ex H H' → tz Dn (σ.set i (some (.bl b))) H') : tSeq (tAsg te (gName i)) tz Dn σ H := by
  obtain ⟨b, hb⟩ := h
  exact k_asgV n hb (k b)
theorem xb_or (h1 : ∃ a, Ev ta σ H (.bl a)) (h2 : ∃ b, Ev tb σ H (.bl b)) : ∃ c, Ev (tOrV ta tb) σ H (.bl c) := by
  obtain ⟨a, h1⟩ := h1
  obtain ⟨b, h2⟩ := h2
  exact ⟨_, ev_orV h1 fun _ => h2⟩
theorem xb_and (h1 : ∃ a, Ev ta σ H (.bl a)) (h2 : ∃ b, Ev tb σ H (.bl b)) : ∃ c, Ev (tAndV ta tb) σ H (.bl c) := by
  obtain ⟨a, h1⟩ := h1
  obtain ⟨b, h2⟩ := h2
  exact ⟨_, ev_andV h1 fun _ => h2⟩
theorem xt_or (h1 : ∃ a, EvT t σ H a) (h2 : ∃ b, EvT u σ H b) : ∃ c, EvT (tOr t u) σ H c := by
  obtain ⟨a, h1⟩ := h1
  obtain ⟨b, h2⟩ := h2
  exact ⟨_, et_or h1 fun _ => h2⟩
theorem k_whenX (n : Nx H0 H1 G H) (h : ∃ b, EvT t σ H b) (h1 : ∀ H', Nx H0 H1 G H' → Ex H H' → tu { Dn with nx := tz Dn } σ H') (h2 : ∀ H', Nx H0 H1 G H' → Ex H H' → tz Dn σ H') : tSeq (tIfS t tu tNext) tz Dn σ H := by
  obtain ⟨b, hb⟩ := h
  exact k_when n hb (fun _ => h1) fun _ => h2
end
end Dl
namespace Lw
open PySem PySem.Spec PyProof.Rows L2 Evl Dl Hd He Hr Xr Classical
/-! the groups while they are made -/
structure GSt (G' H' H1 : Hp) (gp : Addr) (L : List Nat) (k : Nat) : Prop where
  g : G' gp = none
  s : (k = 0 ∧ H' gp = some (.lst [])) ∨ ∃ (xs : List V) (gs : List (List Nat)) (q : Addr) (l : List Nat), H' gp = some (.lst (xs ++ [.ref q])) ∧ DqA G' xs (gs.map lN) ∧ G' q = none ∧ H1 q = none ∧ q ≠ gp ∧ H' q = some (.lst (l.map vN)) ∧ gs.flatten ++ l = L.take k ∧ gs.length + 1 ≤ k
theorem GSt.grow {G' H' H2 H1 : Hp} {gp : Addr} {L : List Nat} {k : Nat} (h : GSt G' H' H1 gp L k) (e : Ex H' H2) : GSt G' H2 H1 gp L k :=
  ⟨h.g, h.s.imp (fun ⟨a, b⟩ => ⟨a, e _ _ b⟩) fun ⟨xs, gs, q, l, a, b, c, d, f, i, j⟩ => ⟨xs, gs, q, l, e _ _ a, b, c, d, f, e _ _ i, j⟩⟩
theorem GSt.done {G G' H' H1 : Hp} {gp : Addr} {L : List Nat} (h : GSt G' H' H1 gp L L.length) (n1 : 1 ≤ L.length) (n : Nx G H1 G' H') (h1 : H1 gp = none) :
    ∃ (G2 : Hp) (gs : List (List Nat)), Nx G H1 G2 H' ∧ Ex G' G2 ∧ Dq G2 (.ref gp) (.list (gs.map lN)) ∧ gs.flatten = L := by
  rcases h.s with ⟨a, _⟩ | ⟨xs, gs, q, l, hg, hx, gq, h1q, qg, hq, hfl, _⟩
  · omega
  · obtain ⟨n2, e2⟩ := n.keep h1q hq gq
    have g2 : upd G' q (.lst (l.map vN)) gp = none := by rw [upd_ne qg.symm]; exact h.g
    obtain ⟨n3, e3⟩ := n2.keep h1 hg g2
    refine ⟨_, gs ++ [l], n3, e2.trans e3, .mkL upd_same ?_, by rw [List.flatten_append, List.flatten_singleton, hfl, List.take_length]⟩
    rw [List.map_append]
    exact ((hx.mono e2).snoc (.mkL upd_same (dqa_vN l))).mono e3
section
variable {K : PySem.W.Frag} {σ : L2.St} {G G' H' H1 : Hp} {te : TE} {Dn : Ends} {un : V → Hp → VK → Prop}
theorem grp_app {gp q : Addr} {xs : List V} {gs : List (List Nat)} {l L : List Nat} {k x : Nat} (n : Nx G H1 G' H') (gp0 : G' gp = none) (hg : H' gp = some (.lst (xs ++ [.ref q]))) (hx : DqA G' xs (gs.map lN)) (gq : G' q = none) (h1q : H1 q = none) (qg : q ≠ gp) (hq : H' q = some (.lst (l.map vN)))
    (hfl : gs.flatten ++ l = L.take k) (hgl : gs.length ≤ k) (hlk : L[k]? = some x) (h7 : L.length ≤ 7) (s6 : σ[6]? = some (some (.ref gp))) (he : Ev te σ G' (.int (x : Int)))
    (kk : ∀ G2 H2, Nx G H1 G2 H2 → Ex G' G2 → GSt G2 H2 H1 gp L (k + 1) → Dn.nx σ H2) : tDrop (tBM K "list" rAppend (tOp (rIxL K) (tVar 6) (tUn (rU fun i => .int (-i)) (tC (.int 1)))) (tCons te tNil)) Dn σ H' := by
  refine l_app n h1q gq hq (ev_op (ev_var s6) (ev_un ev_c ru_neg) (rv_ixL (sq_of hg) (atI_last _ _))) (EvR.of he) ?_ fun v3 G3 H3 n3 e3 fr3 only3 hq3 hv3 => ?_
  · have := congrArg List.length hfl
    rw [List.length_append, List.length_take] at this
    rw [List.length_map]
    exact Nat.lt_of_le_of_lt (show l.length ≤ 7 by omega) (by decide)
  · cases hv3
    exact kk G3 H3 n3 e3 ⟨fr3 gp gp0 (by rw [hg]; simp), .inr ⟨xs, gs, q, l ++ [x], only3 gp _ qg.symm hg, hx.mono e3, fr3 q gq (by rw [hq]; simp), h1q, qg, by rw [hq3, List.map_append (l₁ := l) (l₂ := [x])]; rfl, by rw [← List.append_assoc, hfl, List.take_add_one, hlk]; rfl, by omega⟩⟩
end
theorem dig_ix {n a b : Nat} (h7 : n ≤ 7) (ha : a < n) (hb : b < n) (hab : b ≠ a) : ∃ j : Nat, j < 42 ∧ ((n : Int) - 1) * (a : Int) + (b : Int) - (if decide ((b : Int) > (a : Int)) = true then 1 else 0) = (j : Int) := by
  obtain ⟨m, rfl⟩ : ∃ m, n = m + 1 := ⟨n - 1, by omega⟩
  have h1 : ((m + 1 : Nat) : Int) - 1 = (m : Int) := by omega
  have h2 : m * a ≤ 6 * a := Nat.mul_le_mul_right a (by omega)
  rw [h1]
  by_cases hlt : (b : Int) > (a : Int)
  · rw [if_pos (decide_eq_true hlt)]
    refine ⟨m * a + b - 1, ?_, ?_⟩
    · have : m * a ≤ 6 * a := h2
      omega
    · have : ((m * a + b - 1 : Nat) : Int) = ((m * a : Nat) : Int) + (b : Int) - 1 := by omega
      rw [this, Int.natCast_mul]
  · rw [if_neg (by simpa using hlt)]
    refine ⟨m * a + b, by omega, ?_⟩
    rw [Int.natCast_add, Int.natCast_mul]; omega
section
variable {P : Program} {w : World} {K : PySem.W.Frag} {mg : Str → Option Value} {base : Heap} {f : Addr} {fd : FuncData}
abbrev N_law_lanes : List Str := ["_law_order", "_law_plan", "_law_cuts", "_law_digits_here", "_law_many", "_law_density", "_law_groups", "_law_k", "_law_lanes_here", "_law_ringed", "_law_group", "_law_a", "_law_b", "_law_led", "_law_extra", "_law_drawn"]
theorem sc_law_lanes : FnScope N_law_lanes ["_law_order", "_law_plan", "_law_cuts", "_law_digits_here"] (defScope s_law_lanes) := ⟨rfl, rfl, rfl, by decide +kernel, rfl, by decide +kernel, by decide +kernel⟩
structure LnOk (L pl cu dg : List Nat) : Prop where
  o : Tm.Ord L L.length
  n1 : 1 ≤ L.length
  n7 : L.length ≤ 7
  p6 : 6 ≤ pl.length
  p8 : pl.getD 1 0 < 8
  c7 : 7 ≤ cu.length
  d42 : 42 ≤ dg.length
abbrev spLanes : Sp := sp4 (fun z : List Nat × List Nat × List Nat × List Nat => Da (lN z.1)) (fun z => Da (lN z.2.1)) (fun z => Da (lN z.2.2.1)) (fun z => Da (lN z.2.2.2)) (fun z => LnOk z.1 z.2.1 z.2.2.1 z.2.2.2)
  (fun z => fun G v => ∃ es : List (Nat × Nat), es.Pairwise ltP ∧ (∀ p ∈ es, p.1 < z.1.length ∧ p.2 < z.1.length ∧ p.1 ≠ p.2) ∧ Dq G v (lP es))
theorem ok_lanes (F : Fun K "_law_lanes" "_law_lanes" s_law_lanes f fd) (T : Tx K mg) : FnOk P w K mg base CX0 1 f fd ["_law_order", "_law_plan", "_law_cuts", "_law_digits_here"] spLanes := by
  refine F.ok sc_law_lanes (fun vs H Q E h => ?_) (fun cdv A outer s H1 vs Q E hr h => ?_)
  · obtain ⟨_, _, _, _, _, _, rfl, _⟩ := h; rfl
  · obtain ⟨⟨L, pl, cu, dg⟩, G, v0, v1, v2, v3, rfl, e, ⟨oL, n1, n7, p6, p8, c7, d42⟩, h0, h1, h2, h3, q⟩ := h
    have h0 : Dq G v0 (lN L) := h0
    have h1 : Dq G v1 (lN pl) := h1
    have h2 : Dq G v2 (lN cu) := h2
    have h3 : Dq G v3 (lN dg) := h3
    have oL : Tm.Ord L L.length := oL
    have n1 : 1 ≤ L.length := n1
    have n7 : L.length ≤ 7 := n7
    have p6 : 6 ≤ pl.length := p6
    have c7 : 7 ≤ cu.length := c7
    have d42 : 42 ≤ dg.length := d42
    refine ⟨_, (pss_cons (ps_set (i := 4) sc_law_lanes.nd rfl (by first | exact Or.inl rfl | exact Or.inr rfl) (pe_callB (r := rLenQ K) call_len_seq (by rfl) T.len bt_len (pa_cons (pv 0) pa_nil)))
    (pss_cons (ps_set (i := 5) sc_law_lanes.nd rfl (by first | exact Or.inl rfl | exact Or.inr rfl) (pe_ix (r := rIxL K) ix_list (pe_lst (pa_cons pe_int (pa_cons pe_int (pa_cons pe_int (pa_cons pe_int (pa_cons pe_int (pa_cons pe_int (pa_cons pe_int (pa_cons pe_int pa_nil))))))))) (pe_ix (r := rIxL K) ix_list (pv 1) pe_int (fun _ _ => rfl)) (fun _ _ => rfl)))
    (pss_cons (ps_set (i := 6) sc_law_lanes.nd rfl (by first | exact Or.inl rfl | exact Or.inr rfl) (pe_lst pa_nil))
    (pss_cons (ps_for PassesOwn.never rfl (pi_range1 (by rfl) T.range (pa_cons (pv 4) pa_nil)) (pg_name (i := 7) sc_law_lanes.nd rfl (by first | exact Or.inl rfl | exact Or.inr rfl))
      (pss_cons (ps_if (PW.pt (pw_or (pt_cmpR op_eq (pe_callB (r := rLenQ K) call_len_seq (by rfl) T.len bt_len (pa_cons (pv 6) pa_nil)) pe_int (nomark _)) (pw_or (pt_cmpR op_eq (pe_ix (r := rIxL K) ix_list (pv 2) (pv 7) (fun _ _ => rfl)) pe_int (nomark _)) (pw_or1 (pt_cmpR op_eq (pe_ix (r := rIxL K) ix_list (pv 1) pe_int (fun _ _ => rfl)) pe_int (nomark _))))))
          (pss_one (ps_expr (pe_bm PySem.F.plainAttrs_list PySem.F.slot_list_append PySem.F.type_list_append mt_append (pv 6) (pa_cons (pe_lst pa_nil) pa_nil))))
          pss_nil)
        (pss_one (ps_expr (pe_bm PySem.F.plainAttrs_list PySem.F.slot_list_append PySem.F.type_list_append mt_append (pe_ix (r := rIxL K) ix_list (pv 6) (pe_un un_neg pe_int) (fun _ _ => rfl)) (pa_cons (pe_ix (r := rIxL K) ix_list (pv 0) (pv 7) (fun _ _ => rfl)) pa_nil))))))
    (pss_cons (ps_set (i := 8) sc_law_lanes.nd rfl (by first | exact Or.inl rfl | exact Or.inr rfl) (pe_lst pa_nil))
    (pss_cons (ps_set (i := 9) sc_law_lanes.nd rfl (by first | exact Or.inl rfl | exact Or.inr rfl) (pe_lst pa_nil))
    (pss_cons (ps_for PassesOwn.never rfl (pi_list (pv 6)) (pg_name (i := 10) sc_law_lanes.nd rfl (by first | exact Or.inl rfl | exact Or.inr rfl))
      (pss_one (ps_if (pt_cmpR op_gt (pe_callB (r := rLenQ K) call_len_seq (by rfl) T.len bt_len (pa_cons (pv 10) pa_nil)) pe_int (nomark _))
          (pss_cons (ps_set (i := 9) sc_law_lanes.nd rfl (by first | exact Or.inl rfl | exact Or.inr rfl) (pe_op op_cat (pv 9) (pv 10)))
            (pss_one (ps_set (i := 8) sc_law_lanes.nd rfl (by first | exact Or.inl rfl | exact Or.inr rfl) (pe_op op_cat (pv 8) (pe_lc (own := [("_law_k", 7)]) rfl sc_law_lanes.nd (pi_range1 (by rfl) T.range (pa_cons (pe_callB (r := rLenQ K) call_len_seq (by rfl) T.len bt_len (pa_cons (pv 10) pa_nil)) pa_nil)) (blkOk_by (N := N_law_lanes) (sc := defScope s_law_lanes) (by decide +kernel)) (fun _ _ _ _ _ => (pg_name (i := 7) sc_law_lanes.nd rfl (by first | exact Or.inl rfl | exact Or.inr rfl))) (fun _ _ _ _ _ => pts_nil) (fun _ _ _ _ _ => (pe_tup (pa_cons (pe_ix (r := rIxL K) ix_list (pv 10) (pv 7) (fun _ _ => rfl)) (pa_cons (pe_ix (r := rIxL K) ix_list (pv 10) (pe_op op_mod (pe_callTy call_int1 (by rfl) T.int bt_int (pa_cons (pe_op op_add (pv 7) pe_int) pa_nil)) (pe_callB (r := rLenQ K) call_len_seq (by rfl) T.len bt_len (pa_cons (pv 10) pa_nil))) (fun _ _ => rfl)) pa_nil)))))))))
          pss_nil)))
    (pss_cons (ps_for PassesOwn.never rfl (pi_range1 (by rfl) T.range (pa_cons (pv 4) pa_nil)) (pg_name (i := 11) sc_law_lanes.nd rfl (by first | exact Or.inl rfl | exact Or.inr rfl))
      (pss_one (ps_for PassesOwn.never rfl (pi_list (pe_lc (own := [("_law_b", 12)]) rfl sc_law_lanes.nd (pi_range1 (by rfl) T.range (pa_cons (pv 4) pa_nil)) (blkOk_by (N := N_law_lanes) (sc := defScope s_law_lanes) (by decide +kernel)) (fun _ _ _ _ _ => (pg_name (i := 12) sc_law_lanes.nd rfl (by first | exact Or.inl rfl | exact Or.inr rfl))) (fun _ _ _ _ _ => pts_one (pt_cmpR op_ne (pv 12) (pv 11) (nomark _))) (fun _ _ _ _ _ => (pv 12)))) (pg_name (i := 12) sc_law_lanes.nd rfl (by first | exact Or.inl rfl | exact Or.inr rfl))
          (pss_cons (ps_set (i := 13) sc_law_lanes.nd rfl (by first | exact Or.inl rfl | exact Or.inr rfl) (pe_or (pe_cmpR op_lt (pe_ix (r := rIxL K) ix_list (pv 1) pe_int (fun _ _ => rfl)) pe_int (nomark _)) (pe_one (pe_and (pe_cmpR (r := rIn K true) op_notIn_seq (pv 11) (pv 9) (by rfl)) (pe_one (pe_cmpR op_lt (pe_bm PySem.F.plainAttrs_list PySem.F.slot_list_index PySem.F.type_list_index mt_index (pv 0) (pa_cons (pv 11) pa_nil)) (pe_bm PySem.F.plainAttrs_list PySem.F.slot_list_index PySem.F.type_list_index mt_index (pv 0) (pa_cons (pv 12) pa_nil)) (nomark _)))))))
            (pss_cons (ps_set (i := 14) sc_law_lanes.nd rfl (by first | exact Or.inl rfl | exact Or.inr rfl) (pe_and (pe_cmpR op_ge (pe_ix (r := rIxL K) ix_list (pv 1) pe_int (fun _ _ => rfl)) pe_int (nomark _)) (pe_and (pe_cmpR op_eq (pv 11) (pe_op op_mod (pe_callTy call_int1 (by rfl) T.int bt_int (pa_cons (pe_ix (r := rIxL K) ix_list (pv 1) pe_int (fun _ _ => rfl)) pa_nil)) (pv 4)) (nomark _)) (pe_one (pe_cmpR op_eq (pv 12) (pe_op op_mod (pe_callTy call_int1 (by rfl) T.int bt_int (pa_cons (pe_ix (r := rIxL K) ix_list (pv 1) pe_int (fun _ _ => rfl)) pa_nil)) (pv 4)) (nomark _))))))
            (pss_cons (ps_set (i := 15) sc_law_lanes.nd rfl (by first | exact Or.inl rfl | exact Or.inr rfl) (pe_and (pv 13) (pe_one (pe_cmpR op_lt (pe_ix (r := rIxL K) ix_list (pv 3) (pe_op op_sub (pe_op op_add (pe_op op_mul (pe_op op_sub (pv 4) pe_int) (pv 11)) (pv 12)) (pe_callTy call_int1 (by rfl) T.int bt_int (pa_cons (pe_cmpR op_gt (pv 12) (pv 11) (nomark _)) pa_nil))) (fun _ _ => rfl)) (pv 5) (nomark _)))))
            (pss_one (ps_if (PW.pt (pw_and (PW.pt (pw_or (pt_val (pv 14)) (pw_or1 (pt_val (pv 15))))) (pw_and1 (pt_cmpR (r := rNotInD K) (op_notInD (hu65 hr)) (pe_tup (pa_cons (pv 11) (pa_cons (pv 12) pa_nil))) (pv 8) (by rfl)))))
              (pss_one (ps_expr (pe_bm PySem.F.plainAttrs_list PySem.F.slot_list_append PySem.F.type_list_append mt_append (pv 8) (pa_cons (pe_tup (pa_cons (pv 11) (pa_cons (pv 12) pa_nil))) pa_nil))))
              pss_nil))))))))
    (pss_one (ps_ret (pe_callB (cr_sortT (d := 2) (B := 64) (by decide)) (by rfl) T.sorted bt_sorted (pa_cons (pv 8) pa_nil)))))))))))), ?_⟩
    obtain ⟨x0, x1, x2, x3, x4, x5, pr, rfl⟩ : ∃ x0 x1 x2 x3 x4 x5 pr, pl = x0 :: x1 :: x2 :: x3 :: x4 :: x5 :: pr := by
      match pl, p6 with
      | a :: b :: c :: d :: e :: f :: r, _ => exact ⟨a, b, c, d, e, f, r, rfl⟩
    have p8 : x1 < 8 := p8
    have rp : ∀ {σ : L2.St} {H' : Hp} {i d : Nat}, Ex G H' → σ[1]? = some (some v1) → (x0 :: x1 :: x2 :: x3 :: x4 :: x5 :: pr)[i]? = some d → Ev (tOp (rIxL K) (tVar 1) (tC (.int (i : Int)))) σ H' (.int (d : Int)) := fun eg h hi => EvD.int (ed_ixL (ed_var h (h1.mono eg)) ev_c (by rw [List.getElem?_map, hi]; rfl))
    refine k_asgV (.refl e) (ev_is (ev_lenL (ed_var rfl (h0.mono e))) (by rw [List.length_map])) fun Ha na ea => ?_
    obtain ⟨dn, hdn⟩ : ∃ dn : Int, ([2, 1, 3, 0, 4, 1, 7, 10] : List Int)[x1]? = some dn := ⟨_, List.getElem?_eq_getElem (by simpa using p8)⟩
    refine k_asgV na (v := .int dn) (EvD.int (ed_ixL (i := x1) (ds := ([2, 1, 3, 0, 4, 1, 7, 10] : List Int).map PyData.int) (ed_lst (ead_cons (.ofInt ev_c) (ead_cons (.ofInt ev_c) (ead_cons (.ofInt ev_c) (ead_cons (.ofInt ev_c) (ead_cons (.ofInt ev_c) (ead_cons (.ofInt ev_c) (ead_cons (.ofInt ev_c) (ead_cons (.ofInt ev_c) ead_nil)))))))) (by simp [sizeLine])) (rp (i := 1) (d := x1) na.e3 rfl rfl) (by rw [List.getElem?_map, hdn]; rfl))) fun Hb nb eb => ?_
    refine k_asgM nb (el_lst ea_nil (by decide)) fun gp Hc nc ec gg h1g _ hg => ?_
    refine k_forR (m := L.length) nc (ea_one (ev_var rfl)) (by omega) (fun k σ G' H' => ∃ y7 : Option V, σ = [some v0, some v1, some v2, some v3, some (.int (L.length : Int)), some (.int dn), some (.ref gp), y7, none, none, none, none, none, none, none, none] ∧ GSt G' H' H1 gp L k)
      (fun H' n' e' => ⟨_, rfl, gg, .inl ⟨rfl, e' _ _ hg⟩⟩) ?_ ?_
    · intro k σ' G' H' hk n' e' hw
      obtain ⟨y7, rfl, gs0⟩ := hw
      have hlk : L[k]? = some L[k] := List.getElem?_eq_getElem hk
      have it : ∀ {σ : L2.St} {G2 : Hp}, Ex G G2 → σ[0]? = some (some v0) → σ[7]? = some (some (.int (k : Int))) → Ev (tOp (rIxL K) (tVar 0) (tVar 7)) σ G2 (.int (L[k] : Int)) := fun eg s0 s7 => EvD.int (ed_ixL (i := k) (d := eN L[k]) (ed_var s0 (h0.mono eg)) (ev_var s7) (by rw [List.getElem?_map, hlk]; rfl))
      have hck : cu[k]? = some cu[k] := List.getElem?_eq_getElem (by omega)
      have tst : ∀ {xs : List V}, H' gp = some (.lst xs) → ∃ b, EvT (tOr (tTest (tOp rEq (tCB (rLenQ K) (tCons (tVar 6) tNil)) (tC (.int 0)))) (tOr (tTest (tOp rEq (tOp (rIxL K) (tVar 2) (tVar 7)) (tC (.int 0)))) (tTest (tOp rEq (tOp (rIxL K) (tVar 1) (tC (.int 2))) (tC (.int 0)))))) [some v0, some v1, some v2, some v3, some (.int (L.length : Int)), some (.int dn), some (.ref gp), some (.int (k : Int)), none, none, none, none, none, none, none, none] H' b := fun {xs} hg' => by
        refine xt_or ⟨_, et_test (ev_op (ev_len (ev_var rfl) (sq_of hg')) ev_c (rv_eq rfl))⟩ (xt_or ⟨_, et_test (ev_op (EvD.int (ed_ixL (i := k) (d := eN cu[k]) (ed_var rfl (h2.mono (e'.trans n'.e3))) (ev_var rfl) (by rw [List.getElem?_map, hck]; rfl))) ev_c (rv_eq rfl))⟩ ⟨_, et_test (ev_op (rp (i := 2) (d := x2) (e'.trans n'.e3) rfl rfl) ev_c (rv_eq rfl))⟩)
      rcases gs0.s with ⟨rfl, hg0⟩ | ⟨xs, gs, qa, l, hgp, hx, gq, h1q, qg, hq, hfl, hgl⟩
      · refine k_when (b := true) n' (et_is (et_or (a := true) (b := true) (et_is (et_test (ev_op (ev_len (ev_var rfl) (sq_of hg0)) ev_c (rv_eq rfl))) rfl) (fun z => nomatch z)) rfl) (fun _ H2 n2 e2 => ?_) (fun z => nomatch z)
        refine l_appN n2 h1g gs0.g (e2 _ _ hg0) (ev_var rfl) (el_lst ea_nil (by decide)) (by decide) fun qa H3 n3 hqa only3 hgp3 hq3 => ?_
        have hqg : qa ≠ gp := fun z => by subst z; rw [e2 _ _ hg0] at hqa; cases hqa
        exact grp_app (xs := []) (gs := []) (l := []) n3 gs0.g hgp3 .nil (fresh_back n2.e3 hqa) (fresh_back n2.e1 hqa) hqg hq3 (by simp) (by simp) hlk n7 rfl (it e' rfl rfl) fun G5 H5 n5 e5 g5 => ⟨G5, n5, e'.trans e5, _, rfl, g5⟩
      · refine k_whenX n' (tst hgp) (fun H2 n2 e2 => ?_) (fun H2 n2 e2 => ?_)
        · obtain ⟨n3, e3⟩ := n2.keep h1q (e2 _ _ hq) gq
          have g3 : upd G' qa (.lst (l.map vN)) gp = none := by rw [upd_ne qg.symm]; exact gs0.g
          have lx : xs.length ≤ 7 := by
            have := hx.len
            rw [List.length_map] at this
            omega
          refine l_appN n3 h1g g3 (e2 _ _ hgp) (ev_var rfl) (el_lst ea_nil (by decide)) (by rw [List.length_append, List.length_singleton]; exact Nat.lt_of_le_of_lt (show xs.length + 1 ≤ 8 by omega) (by decide)) fun q2 H4 n4 hq2 only4 hgp4 hq4 => ?_
          have hqg : q2 ≠ gp := fun z => by subst z; rw [e2 _ _ hgp] at hq2; cases hq2
          exact grp_app (xs := xs ++ [.ref qa]) (gs := gs ++ [l]) (l := []) n4 g3 hgp4 (by rw [List.map_append]; exact (hx.mono e3).snoc (.mkL upd_same (dqa_vN l))) (fresh_back n3.e3 hq2) (fresh_back n3.e1 hq2) hqg hq4 (by rw [List.flatten_append, List.flatten_singleton, hfl, List.append_nil]) (by rw [List.length_append, List.length_singleton]; exact hgl) hlk n7 rfl (it (e'.trans e3) rfl rfl) fun G5 H5 n5 e5 g5 => ⟨G5, n5, (e'.trans e3).trans e5, _, rfl, g5⟩
        · exact grp_app n2 gs0.g (e2 _ _ hgp) hx gq h1q qg (e2 _ _ hq) hfl (by omega) hlk n7 rfl (it e' rfl rfl) fun G5 H5 n5 e5 g5 => ⟨G5, n5, e'.trans e5, _, rfl, g5⟩
    · intro σ' G' H' n' e' hw
      obtain ⟨y7, rfl, gs0⟩ := hw
      obtain ⟨G2, gs, n2, e2, hgs, hfl⟩ := gs0.done n1 n' h1g
      have eG2 : Ex G G2 := e'.trans e2
      refine k_asgM n2 (el_lst ea_nil (by decide)) fun p0 Hd nd ed gp0 h1p0 _ hp0 => ?_
      refine k_asg (R := Da (lN [])) nd (ed_lst ead_nil (by simp [sizeLine])) fun v9 G3 H3 n3 m3 hv9 => ?_
      have eG3 : Ex G G3 := eG2.trans m3.e2
      have fl1 : ∀ {i : Nat} {g : List Nat}, gs[i]? = some g → (gs.take (i + 1)).flatten = (gs.take i).flatten ++ g := fun h => (take_flat h 0).2
      have fl2 : ∀ i, ∃ r, (gs.take i).flatten ++ r = L := fun i => ⟨(gs.drop i).flatten, by rw [← List.flatten_append, List.take_append_drop, hfl]⟩
      refine k_forL n3 (ed_var rfl (hgs.mono m3.e2)) (fun i σ G' H' => ∃ (y7 y10 : Option V) (p : Addr) (v9 : V) (R : List Nat) (Ls : List (Nat × Nat)) (xs : List V), σ = [some v0, some v1, some v2, some v3, some (.int (L.length : Int)), some (.int dn), some (.ref gp), y7, some (.ref p), some v9, y10, none, none, none, none, none] ∧ G' p = none ∧ H1 p = none ∧ H' p = some (.lst xs) ∧ DqA G' xs (Ls.map ePr) ∧ Dq G' v9 (lN R) ∧ R.length ≤ (gs.take i).flatten.length ∧ Tm.LG (gs.take i).flatten Ls)
        (fun Ga H' m5 => ⟨_, _, p0, v9, [], [], [], rfl, m5.fr p0 (m3.fr p0 gp0 (by rw [hp0]; simp)) (by rw [m3.e1 _ _ hp0]; simp), h1p0, m5.e1 _ _ (m3.e1 _ _ hp0), .nil, Dq.mono hv9 m5.e2, by simp, by simpa using Tm.LG.nil⟩) ?_ ?_
      · intro Ga i d x σ5 G5 H5 eg hd hx n5 e5 hw
        obtain ⟨y7, y10, p, v9, R, Ls, xs, rfl, gp5, h1p, hp5, dq5, hR, lR, lg⟩ := hw
        rw [List.getElem?_map] at hd
        obtain ⟨g, hgi, rfl⟩ := Option.map_eq_some_iff.mp hd
        have hx5 : Dq G5 x (lN g) := Dq.mono hx e5
        have e1f := fl1 hgi
        obtain ⟨r2, hr2⟩ := fl2 (i + 1)
        have ndF : ((gs.take i).flatten ++ g).Nodup := by
          have := oL.nd
          rw [← hr2, e1f] at this
          exact (List.nodup_append.mp this).1
        have lF : (gs.take i).flatten.length + g.length ≤ 7 := by
          have := congrArg List.length hr2
          rw [e1f, List.length_append, List.length_append] at this
          omega
        have lL : Ls.length ≤ L.length := by
          refine lg.len fun x hx => ?_
          obtain ⟨r1, hr1⟩ := fl2 i
          exact oL.lt x (by rw [← hr1]; exact List.mem_append_left _ hx)
        refine l_when (b := decide (1 < g.length)) n5 (et_is (et_test (ev_op (ev_lenL (ed_var rfl (hx5.mono n5.e3))) ev_c rv_I0)) ?_) (fun hb H6 n6 e6 => ?_) (fun hb H6 n6 e6 => ?_)
        · rw [List.length_map]; exact decide_eq_decide.mpr (by omega)
        · have hg1 := of_decide_eq_true hb
          refine k_asg (R := Da (lN (R ++ g))) n6 ?_ fun v9' G7 H7 n7' m7 hv9' => ?_
          · show EvD _ _ _ (.list ((R ++ g).map eN))
            rw [List.map_append]
            exact ed_cat (ed_var rfl hR) (ed_var rfl hx5) (by rw [List.length_map, List.length_map]; exact Nat.le_trans (show R.length + g.length ≤ 7 by omega) (by decide))
          · have gp7 : G7 p = none := m7.fr p gp5 (by rw [e6 _ _ hp5]; simp)
            have hp7 : H7 p = some (.lst xs) := m7.e1 _ _ (e6 _ _ hp5)
            obtain ⟨n8, e8⟩ := n7'.keep h1p hp7 gp7
            have hx8 := hx5.mono (m7.e2.trans e8)
            have hP8 : Dq (upd G7 p (.lst xs)) (.ref p) (lP Ls) := .mkL upd_same (dq5.mono (m7.e2.trans e8))
            refine l_asgF n8 (ef_cat (ed_var rfl hP8) (ed_mapR (m := g.length) (fun k => ePr (g.getD k 0, g.getD ((k + 1) % g.length) 0)) (ea_one (ev_is (ev_lenL (ed_var rfl (hx8.mono (.refl _)))) (by rw [List.length_map]))) (by omega) ?_) ?_) fun p9 G9 H9 xs9 n9 m9 gp9 h1p9 _ hp9 dq9 => ?_
            · intro k hk
              have hm : (k + 1) % g.length < g.length := Nat.mod_lt _ (by omega)
              refine turnF_name rfl et_yes fun _ => ed_tup (ead_cons (ed_ixL (i := k) (ed_var rfl hx8) (ev_var rfl) ?_) (ead_cons (ed_ixL (i := (k + 1) % g.length) (ed_var rfl hx8) (ev_modN (ev_int1 (ev_is (ev_add (ev_var rfl) ev_c) rfl)) (ev_is (ev_lenL (ed_var rfl hx8)) (by rw [List.length_map])) (by omega)) ?_) ead_nil)) (by simp [sizeLine])
              · rw [List.getElem?_map, List.getElem?_eq_getElem hk, Tm.getD_at hk]; rfl
              · rw [List.getElem?_map, List.getElem?_eq_getElem hm, Tm.getD_at hm]; rfl
            · rw [List.length_map, List.length_map, List.length_range]
              exact Nat.le_trans (show Ls.length + g.length ≤ 14 by omega) (by decide)
            · refine ⟨G9, n9, e5.trans (m7.e2.trans (e8.trans m9.e2)), _, _, p9, v9', R ++ g, Ls ++ Tm.ringL g, xs9, rfl, gp9, h1p9, hp9, ?_, Dq.mono hv9' (e8.trans m9.e2), by rw [e1f, List.length_append, List.length_append]; omega, by rw [e1f]; exact lg.ring ndF hg1⟩
              rw [List.map_append]
              unfold Tm.ringL
              rw [List.map_map]
              exact dq9
        · exact ⟨G5, n6, e5, _, _, p, v9, R, Ls, xs, rfl, gp5, h1p, e6 _ _ hp5, dq5, hR, by rw [e1f, List.length_append]; omega, by rw [e1f]; exact lg.one⟩
      · intro σ5 G5 H5 n5 e5 hw
        obtain ⟨y7, y10, p, v9, R, Ls, xs, rfl, gp5, h1p, hp5, dq5, hR, lR, lg⟩ := hw
        rw [List.length_map, List.take_length, hfl] at lg
        have eG5 : Ex G G5 := eG3.trans e5
        refine k_forR (m := L.length) n5 (ea_one (ev_var rfl)) (by omega) (fun a σ G' H' => ∃ (y11 y12 y13 y14 y15 : Option V) (Ls : List (Nat × Nat)) (xs : List V), σ = [some v0, some v1, some v2, some v3, some (.int (L.length : Int)), some (.int dn), some (.ref gp), y7, some (.ref p), some v9, y10, y11, y12, y13, y14, y15] ∧ G' p = none ∧ H' p = some (.lst xs) ∧ DqA G' xs (Ls.map ePr) ∧ Tm.LA L.length Ls)
          (fun H' n' e' => ⟨_, _, _, _, _, Ls, xs, rfl, gp5, e' _ _ hp5, dq5, lg.la oL.lt⟩) ?_ ?_
        · intro a σ6 G6 H6 ha n6 e6 hw
          obtain ⟨y11, y12, y13, y14, y15, Ls, xs, rfl, gp6, hp6, dq6, la⟩ := hw
          refine l_forL n6 (ed_lcR (m := L.length) (fun b => !decide (b = a)) eN (ea_one (ev_var rfl)) (by omega) fun b hb => turnF_name rfl (et_is (et_test (ev_op (ev_var rfl) (ev_var rfl) (rv_ne rfl))) (by rw [eq_natB])) fun _ => .ofInt (ev_var rfl))
            (fun j σ G' H' => ∃ (y12 y13 y14 y15 : Option V) (Ls : List (Nat × Nat)) (xs : List V), σ = [some v0, some v1, some v2, some v3, some (.int (L.length : Int)), some (.int dn), some (.ref gp), y7, some (.ref p), some v9, y10, some (.int (a : Int)), y12, y13, y14, y15] ∧ G' p = none ∧ H' p = some (.lst xs) ∧ DqA G' xs (Ls.map ePr) ∧ Tm.LA L.length Ls)
            (fun Ga H' m7 => ⟨_, _, _, _, Ls, xs, rfl, m7.fr p gp6 (by rw [hp6]; simp), m7.e1 _ _ hp6, dq6.mono m7.e2, la⟩) ?_ ?_
          · intro Ga j d x σ7 G7 H7 eg hd hx n7' e7 hw
            obtain ⟨y12, y13, y14, y15, Ls, xs, rfl, gp7, hp7, dq7, la⟩ := hw
            rw [List.getElem?_map] at hd
            obtain ⟨b, hbj, rfl⟩ := Option.map_eq_some_iff.mp hd
            cases hx.intE
            obtain ⟨hb1, hb2⟩ := List.mem_filter.mp (List.mem_of_getElem? hbj)
            have hb1 := List.mem_range.mp hb1
            have hb2 : b ≠ a := by simpa using hb2
            have eG7 : Ex G G7 := eG5.trans (e6.trans (eg.trans e7))
            obtain ⟨ja, hja⟩ := Tm.first_at (oL.mem a ha)
            obtain ⟨jb, hjb⟩ := Tm.first_at (oL.mem b hb1)
            have e57 : Ex G5 G7 := e6.trans (eg.trans e7)
            have l49 := la.len n7
            refine k_asgB n7' (xb_or ⟨_, ev_op (rp (i := 2) (d := x2) (eG7.trans n7'.e3) rfl rfl) ev_c rv_I0⟩ (xb_and ⟨_, ev_inL (neg := true) (ev_var rfl) (ed_var rfl (hR.mono (e57.trans n7'.e3)))⟩ ⟨_, ev_op (ev_index (ed_var rfl (h0.mono (eG7.trans n7'.e3))) (ev_var rfl) hja) (ev_index (ed_var rfl (h0.mono (eG7.trans n7'.e3))) (ev_var rfl) hjb) rv_I0⟩)) fun b13 H8 n8 e8 => ?_
            refine k_asgB n8 (xb_and ⟨_, ev_op (rp (i := 2) (d := x2) (eG7.trans n8.e3) rfl rfl) ev_c rv_I0⟩ (xb_and ⟨_, ev_op (ev_var rfl) (ev_modN (ev_int1 (rp (i := 4) (d := x4) (eG7.trans n8.e3) rfl rfl)) (ev_var rfl) n1) (rv_eq rfl)⟩ ⟨_, ev_op (ev_var rfl) (ev_modN (ev_int1 (rp (i := 5) (d := x5) (eG7.trans n8.e3) rfl rfl)) (ev_var rfl) n1) (rv_eq rfl)⟩)) fun b14 H9 n9 e9 => ?_
            obtain ⟨jx, hj42, hjx⟩ := dig_ix n7 ha hb1 hb2
            refine k_asgB n9 (xb_and ⟨b13, ev_var rfl⟩ ⟨_, ev_op (EvD.int (ed_ixL (i := jx) (d := eN (dg[jx]'(by omega))) (ed_var rfl (h3.mono (eG7.trans n9.e3))) (ev_is (ev_sub (ev_add (ev_op (ev_sub (ev_var rfl) ev_c) (ev_var rfl) (rv_I (C := CMul) (.inl ⟨by omega, by omega⟩))) (ev_var rfl)) (ev_int1b (ev_op (ev_var rfl) (ev_var rfl) rv_I0))) (congrArg V.int hjx)) (by rw [List.getElem?_map, List.getElem?_eq_getElem (by omega)]; rfl))) (ev_var rfl) rv_I0⟩) fun b15 H10 n10 e10 => ?_
            have hp10 : H10 p = some (.lst xs) := e10 _ _ (e9 _ _ (e8 _ _ hp7))
            have hP10 : Dq H10 (.ref p) (lP Ls) := .mkL hp10 (dq7.mono n10.e3)
            refine l_when (b := (b14 || b15) && !decide ((a, b) ∈ Ls)) n10 (et_and (et_or (et_B (ev_var rfl)) fun _ => et_B (ev_var rfl)) fun _ => et_test (ev_is (ev_niD (e := ePr (a, b)) (ed_tup (ead_cons (.ofInt (ev_var rfl)) (ead_cons (.ofInt (ev_var rfl)) ead_nil)) (by simp [sizeLine])) (ed_var rfl hP10) ((sh_pr _).ok (by decide)) ((sh_lmap fun z _ => sh_pr z).ok (by decide))) (by rw [any_lanes]))) (fun hb H11 n11 e11 => ?_) (fun hb H11 n11 e11 => ?_)
            · rw [Bool.and_eq_true, Bool.not_eq_true', decide_eq_false_iff_not] at hb
              refine l_app (R := Da (ePr (a, b))) n11 h1p gp7 (e11 _ _ hp10) (ev_var rfl) (ed_tup (ead_cons (.ofInt (ev_var rfl)) (ead_cons (.ofInt (ev_var rfl)) ead_nil)) (by simp [sizeLine])) ?_ fun v12 G12 H12 n12 e12 fr12 _ hp12 hv12 => ?_
              · rw [dq7.len, List.length_map]; exact Nat.lt_of_le_of_lt l49 (by decide)
              · refine ⟨G12, n12, e7.trans e12, _, _, _, _, Ls ++ [(a, b)], xs ++ [v12], rfl, fr12 p gp7 (by rw [e11 _ _ hp10]; simp), hp12, ?_, la.snoc hb.2 ha hb1 fun z => hb2 z.symm⟩
                rw [List.map_append (l₂ := [(a, b)])]
                exact (dq7.mono e12).snoc hv12
            · exact ⟨G7, n11, e7, _, _, _, _, Ls, xs, rfl, gp7, e11 _ _ hp10, dq7, la⟩
          · intro σ7 G7 H7 n7' e7 hw
            obtain ⟨y12, y13, y14, y15, Ls, xs, rfl, gp7, hp7, dq7, la⟩ := hw
            exact ⟨G7, n7', e6.trans e7, _, _, _, _, _, Ls, xs, rfl, gp7, hp7, dq7, la⟩
        · intro σ6 G6 H6 n6 e6 hw
          obtain ⟨y11, y12, y13, y14, y15, Ls, xs, rfl, gp6, hp6, dq6, la⟩ := hw
          obtain ⟨n8, e8⟩ := n6.keep h1p hp6 gp6
          have hP8 : Dq (upd G6 p (.lst xs)) (.ref p) (lP Ls) := .mkL upd_same (dq6.mono e8)
          refine k_ret n8 q ((er_sort (ed_var rfl hP8) la.nd (fun z hz => by have := la.b z hz; omega) (by have := la.len n7; omega)).imp fun G9 v9 _ ⟨es, pm, pw, hd⟩ => ⟨es, pw, fun z hz => la.b z (pm.mem_iff.mp hz), hd⟩) rfl
end
end Lw
namespace Dl
open PySem PySem.Spec PyProof.Rows L2 Evl
section
variable {K : PySem.W.Frag} {σ : L2.St} {H H0 H1 G : Hp} {te ta tb : TE} {t : TT} {Dn : Ends} {tz : TS}
/-- if t: x = e, either way R -/
theorem k_whenR {i : Nat} {b : Bool} {R : RR} {v0 : V} (n : Nx H0 H1 G H) (hv : σ[i]? = some (some v0)) (h0 : R G v0) (ht : EvT t σ H b) (he : b = true → EvR te σ G R) (k : ∀ v G' H', Nx H0 H1 G' H' → Ex G G' → R G' v → tz Dn (σ.set i (some v)) H') : tSeq (tIfS t (tAsg te (gName i)) tNext) tz Dn σ H :=
  k_when n ht (fun hb H' n' e' => he hb H' n'.e3 _ fun v H2 G2 m r => k v G2 H2 (n'.trans m) m.e2 r) fun hb H' n' e' => by
    have := k v0 G H' n' (.refl _) h0
    rw [set_same hv] at this; exact this
theorem et_notN {b : Bool} (h : EvR te σ H (fun _ v => (!decide (v = .non)) = b)) : EvT (tTest (tOp (fun x y H Q => y = .non ∧ Q (.bl (!decide (x = .non))) H) te (tC .non))) σ H b := fun H1 e Q q =>
  h H1 e _ fun v H2 G n r => ⟨rfl, _, rfl, by rw [r]; exact q H2 n.e1⟩
end
end Dl
namespace Lw
open PySem PySem.Spec PyProof.Rows L2 Evl Dl Hd He Hr Xr Classical
theorem ring_bd {t : Town} (o : t.Ok) {r : List Nat} (h : Ring t r) : r.length ≤ 7 ∧ ∀ x ∈ r, x < t.n := by
  obtain ⟨m, q, rfl, ne, nd, ch, lt, cl⟩ := h
  have hx : ∀ x ∈ m :: q, x < t.n := fun x hx => by
    rcases List.mem_cons.mp hx with e | e
    · subst e; exact (o.ln _ cl).2.1
    · exact pth_lt o ch x e
  exact ⟨Nat.le_trans (nodup_len t.n _ nd hx) o.n7, hx⟩
def dueB (o : Option Nat) (c : Int) : Bool := match o with
  | none => true
  | some m => decide (c ≤ (m : Int))
theorem shows_due (t : Town) (c : Int) : shows t c = dueB (fewest t) c := by
  unfold shows fewest
  generalize (spurred t).flatten = L
  have : L.all (fun h => decide (c ≤ (((ms t h h).getD 0 : Nat) : Int))) = (L.map fun h => (ms t h h).getD 0).all fun x => decide (c ≤ (x : Int)) := by rw [List.all_map]; rfl
  rw [this]
  generalize (L.map fun h => (ms t h h).getD 0) = M
  cases e : mn M with
  | none => rw [mn_none e]; rfl
  | some m =>
    obtain ⟨h1, h2⟩ := mn_some e
    show _ = decide (c ≤ (m : Int))
    by_cases hc : c ≤ (m : Int)
    · rw [decide_eq_true hc, List.all_eq_true]
      exact fun x hx => decide_eq_true (by have := h2 x hx; omega)
    · rw [decide_eq_false hc, List.all_eq_false]
      exact ⟨m, h1, by simpa using hc⟩
theorem scal_vO : ∀ o : Option Nat, scal (vO o) (vO o) = true
  | none => rfl
  | some _ => rfl
section
variable {P : Program} {w : World} {K : PySem.W.Frag} {mg : Str → Option Value} {base : Heap} {f : Addr} {fd : FuncData}
abbrev isT : RR := fun G v => ∃ t : Town, t.Ok ∧ Dq G v (eTown t)
abbrev spMake (K : PySem.W.Frag) : Sp := sp3 (fun z : List Int => ScA K z) (fun _ => Is (.int 0)) (fun _ => Is (.int 1)) (fun _ => True) (fun _ => isT)
abbrev N_law : List Str := ["_law_script", "_law_plan", "_law_street", "_law_town_here", "_law_many", "_law_own", "_law_least", "_law_table", "_law_house", "_law_told", "_law_fewest", "_law_counts", "_law_handed", "_law_count", "_law_due", "_law_row", "_law_ring"]
theorem sc_law : FnScope N_law ["_law_script"] (defScope s_law) := ⟨rfl, rfl, rfl, by decide +kernel, rfl, by decide +kernel, by decide +kernel⟩
abbrev spLaw (K : PySem.W.Frag) : Sp := sp1 (fun z : List Int => ScA K z) (fun _ => True) (fun _ => Is (.bl true))
theorem ok_law (F : Fun K "law" "law" s_law f fd) (T : Tx K mg)
    (C_law_build : Cal P w K mg base 6 "_law_build" ["_law_street"] (spBuild K)) (C_law_cell : Cal P w K mg base 1 "_law_cell" ["_law_script", "_law_k"] (spCell K)) (C_law_digits : Cal P w K mg base 1 "_law_digits" ["_law_cell_here", "_law_sizes"] spDigits)
    (C_law_items : Cal P w K mg base 2 "_law_items" ["_law_table"] spItems) (C_law_lightest : Cal P w K mg base 2 "_law_lightest" ["_law_street", "_law_found"] spLight) (C_law_opened : Cal P w K mg base 2 "_law_opened" ["_law_street", "_law_one", "_law_two"] spOpened)
    (C_law_rings : Cal P w K mg base 1 "_law_rings" ["_law_street"] spRingL) (C_law_says : Cal P w K mg base 1 "_law_says" ["_law_told", "_law_due"] spSays) (C_law_spur : Cal P w K mg base 1 "_law_spur" ["_law_street", "_law_ring"] spSpur)
    (C_law_sums : Cal P w K mg base 1 "_law_sums" ["_law_pegs", "_law_lanes_here", "_law_start"] spLSums) (C_law_town : Cal P w K mg base 2 "_law_town" ["_law_script", "_law_at", "_law_least"] (spMake K)) (C_law_twin : Cal P w K mg base 2 "_law_twin" ["_law_script", "_law_at", "_law_least"] (spMake K))
    (C_law_whole : Cal P w K mg base 1 "_law_whole" ["_law_value"] spWhole) (C_fewest_tools : Cal P w K mg base 5 "fewest_tools" ["street"] (spFew K)) (C_is_sum_table : Cal P w K mg base 4 "is_sum_table" ["street", "table"] (spTable K)) (C_ring_sums : Cal P w K mg base 4 "ring_sums" ["street"] (spRings K))
    (C_shows_fewest : Cal P w K mg base 5 "shows_fewest" ["street", "count", "table"] (spShows K)) : FnOk P w K mg base CX0 12 f fd ["_law_script"] (spLaw K) := by
  refine F.ok sc_law (fun vs H Q E h => ?_) (fun cdv A outer s H1 vs Q E hr h => ?_)
  · obtain ⟨_, _, _, rfl, _⟩ := h; rfl
  · obtain ⟨is, G, v, rfl, e, _, hv, q⟩ := h
    refine ⟨_, (pss_cons (ps_set (i := 1) sc_law.nd rfl (by first | exact Or.inl rfl | exact Or.inr rfl) (pe_call C_law_digits.ok (hr.mono (by decide)) (by rfl) C_law_digits.g C_law_digits.kp C_law_digits.b .nil pass0 (pa_cons (pe_call C_law_cell.ok (hr.mono (by decide)) (by rfl) C_law_cell.g C_law_cell.kp C_law_cell.b .nil pass0 (pa_cons (pv 0) (pa_cons pe_int pa_nil))) (pa_cons (pe_lst (pa_cons pe_int (pa_cons pe_int (pa_cons pe_int (pa_cons pe_int pa_nil))))) pa_nil))))
    (pss_cons (ps_set (i := 2) sc_law.nd rfl (by first | exact Or.inl rfl | exact Or.inr rfl) (pe_call C_law_town.ok (hr.mono (by decide)) (by rfl) C_law_town.g C_law_town.kp C_law_town.b .nil pass0 (pa_cons (pv 0) (pa_cons pe_int (pa_cons pe_int pa_nil)))))
    (pss_cons (ps_if (pt_cmpR op_lt (pe_ix (r := rIxL K) ix_list (pv 1) pe_int (fun _ _ => rfl)) pe_int (nomark _))
      (pss_one (ps_set (i := 2) sc_law.nd rfl (by first | exact Or.inl rfl | exact Or.inr rfl) (pe_call C_law_twin.ok (hr.mono (by decide)) (by rfl) C_law_twin.g C_law_twin.kp C_law_twin.b .nil pass0 (pa_cons (pv 0) (pa_cons pe_int (pa_cons pe_int pa_nil))))))
      pss_nil)
    (pss_cons (ps_if (pt_cmpR op_ge (pe_ix (r := rIxL K) ix_list (pv 1) pe_int (fun _ _ => rfl)) pe_int (nomark _))
      (pss_one (ps_set (i := 2) sc_law.nd rfl (by first | exact Or.inl rfl | exact Or.inr rfl) (pe_call C_law_opened.ok (hr.mono (by decide)) (by rfl) C_law_opened.g C_law_opened.kp C_law_opened.b .nil pass0 (pa_cons (pv 2) (pa_cons (pe_ix (r := rIxL K) ix_list (pv 1) pe_int (fun _ _ => rfl)) (pa_cons (pe_ix (r := rIxL K) ix_list (pv 1) pe_int (fun _ _ => rfl)) pa_nil))))))
      pss_nil)
    (pss_cons (ps_set (i := 3) sc_law.nd rfl (by first | exact Or.inl rfl | exact Or.inr rfl) (pe_call C_law_build.ok (hr.mono (by decide)) (by rfl) C_law_build.g C_law_build.kp C_law_build.b .nil pass0 (pa_cons (pv 2) pa_nil)))
    (pss_cons (ps_set (i := 4) sc_law.nd rfl (by first | exact Or.inl rfl | exact Or.inr rfl) (pe_callB (r := rLenQ K) call_len_seq (by rfl) T.len bt_len (pa_cons (pe_ix (r := rIxL K) ix_list (pv 2) pe_int (fun _ _ => rfl)) pa_nil)))
    (pss_cons (ps_set (i := 5) sc_law.nd rfl (by first | exact Or.inl rfl | exact Or.inr rfl) (pe_call C_law_rings.ok (hr.mono (by decide)) (by rfl) C_law_rings.g C_law_rings.kp C_law_rings.b .nil pass0 (pa_cons (pv 2) pa_nil)))
    (pss_cons (ps_set (i := 6) sc_law.nd rfl (by first | exact Or.inl rfl | exact Or.inr rfl) (pe_call C_law_lightest.ok (hr.mono (by decide)) (by rfl) C_law_lightest.g C_law_lightest.kp C_law_lightest.b .nil pass0 (pa_cons (pv 2) (pa_cons (pe_lc (own := [("_law_ring", 16)]) rfl sc_law.nd (pi_list (pv 5)) (blkOk_by (N := N_law) (sc := defScope s_law) (by decide +kernel)) (fun _ _ _ _ _ => (pg_name (i := 16) sc_law.nd rfl (by first | exact Or.inl rfl | exact Or.inr rfl))) (fun _ _ _ _ _ => pts_one (pt_cmpR op_notN (pe_call C_law_spur.ok (hr.mono (by decide)) (by rfl) C_law_spur.g C_law_spur.kp C_law_spur.b .nil pass0 (pa_cons (pv 2) (pa_cons (pv 16) pa_nil))) pe_non (nomark _))) (fun _ _ _ _ _ => (pv 16))) pa_nil))))
    (pss_cons (ps_setLc (i := 7) (own := [("_law_house", 8)]) rfl sc_law.nd rfl rfl (sw_true rfl rfl rfl (by decide +kernel)) (pi_range1 (by rfl) T.range (pa_cons (pv 4) pa_nil)) (blkOk_by (N := N_law) (sc := defScope s_law) (by decide +kernel)) (fun _ _ _ _ _ => (pg_name (i := 8) sc_law.nd rfl (by first | exact Or.inl rfl | exact Or.inr rfl))) (fun _ _ _ _ _ => pts_nil) (fun _ _ _ _ _ => (pe_call C_law_sums.ok (hr.mono (by decide)) (by rfl) C_law_sums.g C_law_sums.kp C_law_sums.b .nil pass0 (pa_cons (pe_ix (r := rIxL K) ix_list (pv 2) pe_int (fun _ _ => rfl)) (pa_cons (pe_ix (r := rIxL K) ix_list (pv 2) pe_int (fun _ _ => rfl)) (pa_cons (pv 8) pa_nil))))))
    (pss_cons (ps_for PassesOwn.never rfl (pi_range1 (by rfl) T.range (pa_cons (pv 4) pa_nil)) (pg_name (i := 8) sc_law.nd rfl (by first | exact Or.inl rfl | exact Or.inr rfl))
      (pss_one (ps_if (pt_cmpR op_ne (pe_ix (r := rIxT K) ix_tup (pe_ix (r := rIxL K) ix_list (pv 7) (pv 8) (fun _ _ => rfl)) (pv 8) (fun _ _ => rfl)) (pe_call C_law_lightest.ok (hr.mono (by decide)) (by rfl) C_law_lightest.g C_law_lightest.kp C_law_lightest.b .nil pass0 (pa_cons (pv 2) (pa_cons (pe_lc (own := [("_law_ring", 16)]) rfl sc_law.nd (pi_list (pv 5)) (blkOk_by (N := N_law) (sc := defScope s_law) (by decide +kernel)) (fun _ _ _ _ _ => (pg_name (i := 16) sc_law.nd rfl (by first | exact Or.inl rfl | exact Or.inr rfl))) (fun _ _ _ _ _ => pts_one (pt_cmpR (r := rIn K false) op_in_seq (pv 8) (pv 16) (by rfl))) (fun _ _ _ _ _ => (pv 16))) pa_nil))) (nomark _))
          (pss_one (ps_ret pe_bl))
          pss_nil)))
    (pss_cons (ps_set (i := 9) sc_law.nd rfl (by first | exact Or.inl rfl | exact Or.inr rfl) (pe_call C_ring_sums.ok (hr.mono (by decide)) (by rfl) C_ring_sums.g C_ring_sums.kp C_ring_sums.b .nil pass0 (pa_cons (pv 3) pa_nil)))
    (pss_cons (ps_if (PW.pt (pw_or (pt_not (pt_val (pe_call C_law_items.ok (hr.mono (by decide)) (by rfl) C_law_items.g C_law_items.kp C_law_items.b .nil pass0 (pa_cons (pv 9) pa_nil)))) (pw_or (pt_cmpR (r := rNeD K) (op_neD (hu64 hr)) (pv 9) (pe_callTy (r := rTupQ K) call_tuple_of (by rfl) T.tuple bt_tuple (pa_cons (pv 7) pa_nil)) (nomark _)) (pw_or1 (pt_not (pt_val (pe_call C_law_says.ok (hr.mono (by decide)) (by rfl) C_law_says.g C_law_says.kp C_law_says.b .nil pass0 (pa_cons (pe_call C_is_sum_table.ok (hr.mono (by decide)) (by rfl) C_is_sum_table.g C_is_sum_table.kp C_is_sum_table.b .nil pass0 (pa_cons (pv 3) (pa_cons (pv 9) pa_nil))) (pa_cons pe_bl pa_nil)))))))))
      (pss_one (ps_ret pe_bl))
      pss_nil)
    (pss_cons (ps_set (i := 10) sc_law.nd rfl (by first | exact Or.inl rfl | exact Or.inr rfl) (pe_call C_fewest_tools.ok (hr.mono (by decide)) (by rfl) C_fewest_tools.g C_fewest_tools.kp C_fewest_tools.b .nil pass0 (pa_cons (pv 3) pa_nil)))
    (pss_cons (ps_if (PW.pt (pw_or (pt_cmpR op_ne (pv 10) (pv 6) (nomark _)) (pw_or1 (pt_not (PW.pt (pw_or (pt_cmpR op_isN (pv 10) pe_non (nomark _)) (pw_or1 (pt_val (pe_call C_law_whole.ok (hr.mono (by decide)) (by rfl) C_law_whole.g C_law_whole.kp C_law_whole.b .nil pass0 (pa_cons (pv 10) pa_nil))))))))))
      (pss_one (ps_ret pe_bl))
      pss_nil)
    (pss_cons (ps_set (i := 11) sc_law.nd rfl (by first | exact Or.inl rfl | exact Or.inr rfl) (pe_lst (pa_cons (pe_ix (r := rIxL K) ix_list (pv 1) pe_int (fun _ _ => rfl)) (pa_cons pe_int pa_nil))))
    (pss_cons (ps_if (pt_cmpR op_notN (pv 6) pe_non (nomark _))
      (pss_one (ps_set (i := 11) sc_law.nd rfl (by first | exact Or.inl rfl | exact Or.inr rfl) (pe_op op_cat (pv 11) (pe_lst (pa_cons (pe_op op_sub (pv 6) pe_int) (pa_cons (pv 6) (pa_cons (pe_op op_add (pv 6) pe_int) pa_nil)))))))
      pss_nil)
    (pss_cons (ps_setLc (i := 12) (own := [("_law_row", 15)]) rfl sc_law.nd rfl rfl (sw_true rfl rfl rfl (by decide +kernel)) (pi_list (pv 7)) (blkOk_by (N := N_law) (sc := defScope s_law) (by decide +kernel)) (fun _ _ _ _ _ => (pg_name (i := 15) sc_law.nd rfl (by first | exact Or.inl rfl | exact Or.inr rfl))) (fun _ _ _ _ _ => pts_nil) (fun _ _ _ _ _ => (pe_callTy (r := rLstQ K) call_list_of (by rfl) T.list bt_list (pa_cons (pv 15) pa_nil))))
    (pss_cons (ps_for PassesOwn.never rfl (pi_list (pv 11)) (pg_name (i := 13) sc_law.nd rfl (by first | exact Or.inl rfl | exact Or.inr rfl))
      (pss_cons (ps_set (i := 14) sc_law.nd rfl (by first | exact Or.inl rfl | exact Or.inr rfl) (pe_or (pe_cmpR op_isN (pv 6) pe_non (nomark _)) (pe_one (pe_cmpR op_le (pv 13) (pv 6) (nomark _)))))
        (pss_cons (ps_if (pt_not (pt_val (pe_call C_law_says.ok (hr.mono (by decide)) (by rfl) C_law_says.g C_law_says.kp C_law_says.b .nil pass0 (pa_cons (pe_call C_shows_fewest.ok (hr.mono (by decide)) (by rfl) C_shows_fewest.g C_shows_fewest.kp C_shows_fewest.b .nil pass0 (pa_cons (pv 3) (pa_cons (pv 13) (pa_cons (pv 12) pa_nil)))) (pa_cons (pv 14) pa_nil)))))
          (pss_one (ps_ret pe_bl))
          pss_nil)
        (pss_one (ps_if (pt_not (pt_val (pe_call C_law_says.ok (hr.mono (by decide)) (by rfl) C_law_says.g C_law_says.kp C_law_says.b .nil pass0 (pa_cons (pe_call C_shows_fewest.ok (hr.mono (by decide)) (by rfl) C_shows_fewest.g C_shows_fewest.kp C_shows_fewest.b .nil pass0 (pa_cons (pv 3) (pa_cons (pv 13) (pa_cons (pe_callTy (r := rTupQ K) call_tuple_of (by rfl) T.tuple bt_tuple (pa_cons (pv 7) pa_nil)) pa_nil)))) (pa_cons (pv 14) pa_nil)))))
          (pss_one (ps_ret pe_bl))
          pss_nil)))))
    (pss_cons (ps_if (PW.pt (pw_or (pt_cmpR (r := rNeD K) (op_neD (hu64 hr)) (pv 12) (pe_lc (own := [("_law_row", 15)]) rfl sc_law.nd (pi_list (pv 7)) (blkOk_by (N := N_law) (sc := defScope s_law) (by decide +kernel)) (fun _ _ _ _ _ => (pg_name (i := 15) sc_law.nd rfl (by first | exact Or.inl rfl | exact Or.inr rfl))) (fun _ _ _ _ _ => pts_nil) (fun _ _ _ _ _ => (pe_callTy (r := rLstQ K) call_list_of (by rfl) T.list bt_list (pa_cons (pv 15) pa_nil)))) (nomark _)) (pw_or (pt_cmpR (r := rNeD K) (op_neD (hu64 hr)) (pe_call C_ring_sums.ok (hr.mono (by decide)) (by rfl) C_ring_sums.g C_ring_sums.kp C_ring_sums.b .nil pass0 (pa_cons (pv 3) pa_nil)) (pv 9) (nomark _)) (pw_or1 (pt_cmpR op_ne (pe_call C_fewest_tools.ok (hr.mono (by decide)) (by rfl) C_fewest_tools.g C_fewest_tools.kp C_fewest_tools.b .nil pass0 (pa_cons (pv 3) pa_nil)) (pv 6) (nomark _))))))
      (pss_one (ps_ret pe_bl))
      pss_nil)
    (pss_one (ps_ret (pe_and (pe_cmpR (r := rEqD K) (op_eqD (hu64 hr)) (pe_fldK (K := K) (pv 3) rfl rfl) (pe_callTy (r := rTupQ K) call_tuple_of (by rfl) T.tuple bt_tuple (pa_cons (pe_ix (r := rIxL K) ix_list (pv 2) pe_int (fun _ _ => rfl)) pa_nil)) (nomark _)) (pe_one (pe_cmpR (r := rEqD K) (op_eqD (hu64 hr)) (pe_fldK (K := K) (pv 3) rfl rfl) (pe_callTy (r := rTupQ K) call_tuple_of (by rfl) T.tuple bt_tuple (pa_cons (pe_ix (r := rIxL K) ix_list (pv 2) pe_int (fun _ _ => rfl)) pa_nil)) (nomark _))))))))))))))))))))))))), ?_⟩
    have cell : ∀ {σ : L2.St} {G' : Hp} {k : Nat} {te : TE} {sz : List Nat}, k ≤ 3 → Ex G G' → σ[0]? = some (some v) → EvD te σ G' (lN sz) → (sz.length ≤ 1000 ∧ ∀ s ∈ sz, 1 ≤ s ∧ s < 1000) → EvR (tCall spDigits [] E0 (tCons (tCall (spCell K) [] E0 (tCons (tVar 0) (tCons (tC (.int (k : Int))) tNil))) (tCons te tNil))) σ G' (fun G v => ∃ ds, Dq G v (lN ds) ∧ Dg ds sz sz.length) := fun {σ G' k te sz} hk eg h0 hte hsz H1 e1 Q1 q1 => by
      refine (er_call2 (E := E0) (B := fun _ => fun _ v => ∃ i : Int, v = .int i) (P := fun z : List Int × Nat => z.2 ≤ 3) (is, k) ((er_var h0).imp fun G2 x ex hx => by cases hx; exact mono_sc _ _ _ (eg.trans ex) hv) (.of ev_c) mono_sc mono_is hk) H1 e1 _ fun w1 H2 G2 m2 ⟨i, hi⟩ => ?_
      subst hi
      exact (EvD.mono hte m2.e2) H2 m2.e3 _ fun w2 H3 G3 m3 h3 => ⟨(i, sz), G3, .int i, w2, rfl, m3.e3, hsz, rfl, h3, Ret.later q1 (m2.trans m3)⟩
    refine k_asg (R := fun G v => ∃ ds, Dq G v (lN ds) ∧ Dg ds [201, 8, 60, 60] 4) (.refl e) (cell (sz := [201, 8, 60, 60]) (k := 2) (by decide) (.refl _) rfl (ed_lst (ead_cons (.ofInt ev_c) (ead_cons (.ofInt ev_c) (ead_cons (.ofInt ev_c) (ead_cons (.ofInt ev_c) ead_nil)))) (by simp [sizeLine])) (by simp)) fun v1 G1 Ha n1 m1 hp1 => ?_
    obtain ⟨ds, hds, hD⟩ := hp1
    obtain ⟨d0, d1, d2, d3, rfl⟩ : ∃ d0 d1 d2 d3, ds = [d0, d1, d2, d3] := by
      match ds, hD.ln with
      | [a, b, c, d], _ => exact ⟨a, b, c, d, rfl⟩
    have pl : ∀ {σ : L2.St} {G' : Hp} {i d : Nat}, Ex G1 G' → σ[1]? = some (some v1) → [d0, d1, d2, d3][i]? = some d → Ev (tOp (rIxL K) (tVar 1) (tC (.int (i : Int)))) σ G' (.int (d : Int)) := fun eg h1 hi => EvD.int (ed_ixL (ed_var h1 (hds.mono eg)) ev_c (by rw [List.getElem?_map, hi]; rfl))
    have hv1 : ScA K is G1 v := mono_sc _ _ _ m1.e2 hv
    have scv : ∀ {σ : L2.St} {G' : Hp}, Ex G1 G' → σ[0]? = some (some v) → EvR (tVar 0) σ G' (ScA K is) := fun eg h0 => (er_var h0).imp fun G2 x ex hx => by cases hx; exact mono_sc _ _ _ (eg.trans ex) hv1
    have monoT : Mono isT := fun G G' v ex ⟨t, h1, h2⟩ => ⟨t, h1, h2.mono ex⟩
    refine k_asg (R := isT) n1 (er_call3 (E := E0) is (scv (.refl _) rfl) (.of ev_c) (.of ev_c) mono_sc mono_is mono_is trivial) fun v2 G2 Hb n2 m2 hT2 => ?_
    refine k_whenR (R := isT) (b := decide (d1 < 2)) n2 rfl hT2 (et_is (et_test (ev_op (pl (i := 1) (d := d1) (m2.e2.trans n2.e3) rfl rfl) ev_c rv_I0)) (decide_eq_decide.mpr (by omega))) (fun _ => er_call3 (E := E0) is (scv m2.e2 rfl) (.of ev_c) (.of ev_c) mono_sc mono_is mono_is trivial) fun v3 G3 Hc n3 e3 hT3 => ?_
    obtain ⟨t3, o3, ht3⟩ := hT3
    refine k_whenR (R := isT) (b := decide (5 ≤ d1)) n3 rfl ⟨t3, o3, ht3⟩ (et_is (et_test (ev_op (pl (i := 1) (d := d1) ((m2.e2.trans e3).trans n3.e3) rfl rfl) ev_c rv_I0)) (decide_eq_decide.mpr (by omega))) (fun _ => er_call3 (E := E0) (t3, d2, d3) (ed_var rfl ht3) (.of (pl (i := 2) (d := d2) (m2.e2.trans e3) rfl rfl)) (.of (pl (i := 3) (d := d3) (m2.e2.trans e3) rfl rfl)) mono_da mono_is mono_is o3) fun v4 G4 Hd n4 e4 hT4 => ?_
    obtain ⟨t, o, ht⟩ := hT4
    have o7 := o.n7
    have e14 : Ex G1 G4 := m2.e2.trans (e3.trans e4)
    refine k_asg (R := StAt (cS K) t) n4 (er_call1 (E := E0) t (ed_var rfl ht) o) fun v5 G5 He n5 m5 hS => ?_
    have ht5 := ht.mono m5.e2
    have e15 := e14.trans m5.e2
    refine k_asgV n5 (ev_is (ev_lenL (ed_k0L (ed_var rfl (ht5.mono n5.e3)))) (by rw [List.length_map])) fun Hf n6 e6 => ?_
    refine k_asg (R := fun G v => ∃ L : List (List Nat), Dq G v (.list (L.map tN)) ∧ (∀ r, r ∈ L ↔ Ring t r) ∧ L.length ≤ 10000000) n6 (er_call1 (E := E0) t (ed_var rfl ht5) o) fun v7 G7 Hg n7 m7 hL7 => ?_
    obtain ⟨L, hLd, hL, hLn⟩ := hL7
    have ht7 := ht5.mono m7.e2
    have hS7 := mono_st _ _ _ m7.e2 hS
    have light : ∀ {σ : L2.St} {G' : Hp} {te : TE} {fl : List Nat → Bool}, Ex G7 G' → σ[2]? = some (some v4) → EvD te σ G' (.list ((L.filter fl).map tN)) → EvD (tCall spLight [] E0 (tCons (tVar 2) (tCons te tNil))) σ G' (eO (mn ((L.filter fl).map (Wt t)))) := fun {σ G' te fl} eg h2 hte =>
      er_call2 (E := E0) (t, L.filter fl) (ed_var h2 (ht7.mono eg)) hte mono_da mono_da ⟨Nat.le_trans (List.length_filter_le _ _) hLn, fun r hr => ring_bd o ((hL r).mp (List.mem_filter.mp hr).1)⟩
    refine k_asg (R := Da (eO (fewest t))) n7 ?_ fun v8 G8 Hh n8 m8 hF8 => ?_
    · rw [fewest_eq o hL]
      refine light (fl := fun r => hasSpur t r) (.refl _) rfl (ed_lcL (c := tN) (fun r => hasSpur t r) tN (ed_var rfl hLd) hLn ?_)
      intro r x G' eg hr hx
      refine turnF_name rfl (et_notN ((er_call2 (E := E0) (t, r) (ed_var rfl (ht7.mono eg)) (ed_var rfl hx) mono_da mono_da trivial).imp fun G9 v9 _ h9 => ?_)) fun _ => ed_var rfl hx
      by_cases hsp : hasSpur t r = true
      · have h9 : if hasSpur t r = true then ∃ p, Dq G9 v9 (ePr p) else v9 = .non := h9
        rw [if_pos hsp] at h9
        obtain ⟨p, hp⟩ := h9
        obtain ⟨a, xs, rfl, _⟩ := hp.tupE
        rw [hsp]; rfl
      · have h9 : if hasSpur t r = true then ∃ p, Dq G9 v9 (ePr p) else v9 = .non := h9
        rw [if_neg hsp] at h9
        rw [h9, Bool.eq_false_iff.mpr hsp]; rfl
    have ht8 := ht7.mono m8.e2
    refine k_asg (R := Da (.list ((List.range t.n).map fun h => tO (rowN t h)))) n8 (ed_mapR (m := t.n) (fun h => tO (rowN t h)) (ea_one (ev_var rfl)) (by omega) fun h hh => turnF_name rfl et_yes fun _ => ?_) fun v9 G9 Hi n9 m9 hT9 => ?_
    · exact er_call3 (E := E0) (t, h) (ed_k0L (ed_var rfl ht8)) (ed_k1L (ed_var rfl ht8)) (er_var rfl) mono_da mono_da mono_is ⟨o, hh⟩
    have e79 : Ex G7 G9 := m8.e2.trans m9.e2
    have hF9 : Dq G9 v8 (eO (fewest t)) := Dq.mono hF8 m9.e2
    have hT9 : Dq G9 v9 (.list ((List.range t.n).map fun h => tO (rowN t h))) := hT9
    refine k_forR (m := t.n) n9 (ea_one (ev_var rfl)) (by omega) (fun i σ G' H' => ∃ y8, σ = [some v, some v1, some v4, some v5, some (.int (t.n : Int)), some v7, some v8, some v9, y8, none, none, none, none, none, none, none, none]) (fun _ _ _ => ⟨_, rfl⟩) ?_ ?_
    · intro h σ' G' H' hh n' e' hw
      obtain ⟨y8, rfl⟩ := hw
      have eg := e79.trans e'
      refine l_when (b := false) n' (et_is (et_test (ev_op (x := vO (ms t h h)) (y := vO (ms t h h)) (evO (ed_ixT (i := h) (ed_ixL (i := h) (d := tO (rowN t h)) (ed_var rfl (hT9.mono (e'.trans n'.e3))) (ev_var rfl) (by rw [List.getElem?_map, List.getElem?_range hh]; rfl)) (ev_var rfl) (row_at hh))) (evO ?_) (rv_ne (scal_vO _)))) (by simp)) (fun z => nomatch z) fun _ H2 n2 _ => ⟨G', n2, e', _, rfl⟩
      rw [ms_home o hL h]
      refine light (fl := fun r => decide (h ∈ r)) (eg.trans n'.e3) rfl (ed_lcL (c := tN) (fun r => decide (h ∈ r)) tN (ed_var rfl (hLd.mono (eg.trans n'.e3))) hLn ?_)
      intro r x Gx ex hr hx
      exact turnF_name rfl (et_test (ev_inT (neg := false) (ev_var rfl) (ed_var rfl hx))) fun _ => ed_var rfl hx
    · intro σ' G' H' n' e' hw
      obtain ⟨y8, rfl⟩ := hw
      have hS' := mono_st _ _ _ (e79.trans e') hS7
      have hTab := hT9.mono e'
      have shT : Sh (tabD t) 2 := sh_tmap fun h _ => sh_tmap fun z _ => sh_eO z
      refine k_asg (R := Da (tabD t)) n' (er_call1 (E := E0) t (er_st rfl hS') o) fun v10 G10 H10 n10 m10 hd10 => ?_
      have hS10 := mono_st _ _ _ m10.e2 hS'
      have hTab10 := hTab.mono m10.e2
      have hF10 := hF9.mono (e'.trans m10.e2)
      have hd10 : Dq G10 v10 (tabD t) := hd10
      refine k_when (b := false) n10 (et_is (et_or (a := !true) (b := false) (et_not (et_B (er_call1 (E := E0) t (ed_var rfl (hd10.mono n10.e3)) o).ev)) fun _ => et_is (et_or (a := false) (b := !true) (et_is (et_test (ev_neD (e := tabD t) (e' := tabD t) (ed_var rfl (hd10.mono n10.e3)) (ed_tupL (ed_var rfl (hTab10.mono n10.e3))) (shT.ok (by decide)) (shT.ok (by decide)))) (by rw [shT.eq]; rfl)) fun _ => et_not (et_B (er_call2 (E := E0) (true, true) (.of ((er_call2 (E := E0) (t, tabD t) (er_st rfl (mono_st _ _ _ n10.e3 hS10)) (ed_var rfl (hd10.mono n10.e3)) mono_st mono_da ⟨o, (fz_tab o).1⟩).ev)) (.of ev_c) mono_is mono_is trivial).ev)) rfl) rfl) (fun z => nomatch z) fun _ H11 n11 _ => ?_
      refine k_asg (R := Da (eO (fewest t))) n11 (er_call1 (E := E0) t (er_st rfl hS10) o) fun v12 G12 H12 n12 m12 hd12 => ?_
      have hS12 := mono_st _ _ _ m12.e2 hS10
      have hTab12 := hTab10.mono m12.e2
      have hF12 := hF10.mono m12.e2
      have hd12 : Dq G12 v12 (eO (fewest t)) := hd12
      refine k_when (b := false) n12 (et_is (et_or (a := false) (b := !true) (et_is (et_test (ev_op (x := vO (fewest t)) (y := vO (fewest t)) (evO (ed_var rfl (hd12.mono n12.e3))) (evO (ed_var rfl (hF12.mono n12.e3))) (rv_ne (scal_vO _)))) (by simp)) fun _ => et_not ?_) rfl) (fun z => nomatch z) fun _ H13 n13 _ => ?_
      · have hd13 := hd12.mono n12.e3
        cases hf : fewest t with
        | none =>
          rw [hf] at hd13
          exact et_is (et_or (a := true) (b := true) (et_test (ev_op (EvD.non (ed_var rfl hd13)) ev_c rv_isN)) fun z => nomatch z) rfl
        | some m =>
          rw [hf] at hd13
          exact et_is (et_or (a := false) (b := true) (et_test (ev_op (EvD.int (ed_var rfl hd13)) ev_c rv_isN)) fun _ => et_B (er_call1 (E := E0) (P := fun _ => True) (m : Int) (EvR.of (EvD.int (ed_var rfl hd13))) trivial).ev) rfl
      have e1c : Ex G1 G12 := e15.trans (m7.e2.trans (e79.trans (e'.trans (m10.e2.trans m12.e2))))
      refine k_asg (R := fun G v => ∃ cs : List Int, Dq G v (.list (cs.map PyData.int)) ∧ cs.length ≤ 2) n13 ((ed_lst (ead_cons (.ofInt (pl (i := 0) (d := d0) e1c rfl rfl)) (ead_cons (.ofInt ev_c) ead_nil)) (by simp [sizeLine])).imp fun G' v' _ h' => ⟨[(d0 : Int), 0], h', by simp⟩) fun v14 G14 H14 n14 m14 hc14 => ?_
      obtain ⟨cs0, hcs0, hcl0⟩ := hc14
      have hF14 := hF12.mono m14.e2
      refine k_whenR (R := fun G v => ∃ cs : List Int, Dq G v (.list (cs.map PyData.int)) ∧ cs.length ≤ 5) (b := (fewest t).isSome) n14 rfl ⟨cs0, hcs0, by omega⟩ (et_notN ((EvR.of (evO (ed_var rfl (hF14.mono n14.e3)))).imp fun G' v' _ h' => ?_)) (fun hb => ?_) fun v15 G15 H15 n15 e15' hc15 => ?_
      · cases h'
        cases fewest t <;> rfl
      · cases hf : fewest t with
        | none => rw [hf] at hb; cases hb
        | some m =>
          rw [hf] at hF14
          have lm : Ev (tVar 6) [some v, some v1, some v4, some v5, some (.int (t.n : Int)), some v7, some v8, some v9, y8, some v10, some v12, some v14, none, none, none, none, none] G14 (.int (m : Int)) := EvD.int (ed_var rfl hF14)
          refine (ed_cat (ds := cs0.map PyData.int) (es := [PyData.int ((m : Int) - 1), PyData.int (m : Int), PyData.int ((m : Int) + 1)]) (ed_var rfl hcs0) (ed_lst (ead_cons (.ofInt (ev_sub lm ev_c)) (ead_cons (.ofInt lm) (ead_cons (.ofInt (ev_add lm ev_c)) ead_nil))) (by simp [sizeLine])) (by rw [List.length_map]; show cs0.length + 3 ≤ 2 ^ 24; omega)).imp fun G' v' _ h' => ⟨cs0 ++ [(m : Int) - 1, (m : Int), (m : Int) + 1], by rw [List.map_append]; exact h', by simp; omega⟩
      obtain ⟨cs, hcs, hcl⟩ := hc15
      have hTab15 := hTab12.mono (m14.e2.trans e15')
      have hS15 := mono_st _ _ _ (m14.e2.trans e15') hS12
      have handed : ∀ {σ : L2.St} {G' : Hp}, Ex G15 G' → σ[7]? = some (some v9) → σ[7]? = (wipe σ [15])[7]? → (∀ x : V, (((wipe σ [15]).set 15 (some x))[15]? = some (some x)) ∧ wipe ((wipe σ [15]).set 15 (some x)) [15] = wipe σ [15]) → EvD (tLc (iList K (tVar 7)) (gName 15) tYes (tCB (rLstQ K) (tCons (tVar 15) tNil)) [15]) σ G' (tabL t) := fun {σ G'} eg h7 _ hx => by
        show EvD _ _ _ (.list ((List.range t.n).map fun h => .list ((rowN t h).map eO)))
        refine ed_mapL (c := fun h => tO (rowN t h)) (fun h => .list ((rowN t h).map eO)) (ed_var h7 (hTab15.mono eg)) (by simp; omega) ?_
        intro h x Gx ex hh hy
        exact turnF_name (hx x).2 et_yes fun _ => ed_lstT (ed_var (hx x).1 hy)
      refine k_asg (R := Da (tabL t)) n15 (handed (.refl _) rfl rfl fun x => ⟨rfl, rfl⟩) fun v16 G16 H16 n16 m16 hh16 => ?_
      have hh16 : Dq G16 v16 (tabL t) := hh16
      refine k_forL n16 (ed_var rfl (hcs.mono m16.e2)) (fun i σ G' H' => ∃ y13 y14, σ = [some v, some v1, some v4, some v5, some (.int (t.n : Int)), some v7, some v8, some v9, y8, some v10, some v12, some v15, some v16, y13, y14, none, none]) (fun _ _ _ => ⟨_, _, rfl⟩) ?_ ?_
      · intro Ga i d x σ5 G5' H5' eg5 hd5 hx5 n5' e5' hw
        obtain ⟨y13, y14, rfl⟩ := hw
        rw [List.getElem?_map] at hd5
        obtain ⟨c, _, rfl⟩ := Option.map_eq_some_iff.mp hd5
        cases hx5.intE
        have eX : Ex G16 G5' := eg5.trans e5'
        have hF5 := hF14.mono (e15'.trans (m16.e2.trans eX))
        refine k_asgV (v := .bl (dueB (fewest t) c)) n5' ?_ fun H6 n6' e6' => ?_
        · have hF6 := hF5.mono n5'.e3
          cases hf : fewest t with
          | none =>
            rw [hf] at hF6
            exact ev_is (ev_orV (a := true) (b := true) (ev_op (EvD.non (ed_var rfl hF6)) ev_c rv_isN) fun z => nomatch z) rfl
          | some m =>
            rw [hf] at hF6
            exact ev_is (ev_orV (a := false) (b := decide (c ≤ (m : Int))) (ev_op (EvD.int (ed_var rfl hF6)) ev_c rv_isN) fun _ => ev_op (ev_var rfl) (EvD.int (ed_var rfl hF6)) rv_I0) rfl
        have sh : ∀ {H' : Hp} {te : TE} {d : D} (n' : Nx G H1 G5' H'), Fz 2 d (tabD t) → EvD te [some v, some v1, some v4, some v5, some (.int (t.n : Int)), some v7, some v8, some v9, y8, some v10, some v12, some v15, some v16, some (.int c), some (.bl (dueB (fewest t) c)), none, none] H' d →
            EvT (tNot (tB (tCall spSays [] E0 (tCons (tCall (spShows K) [] E0 (tCons (tVar 3) (tCons (tVar 13) (tCons te tNil)))) (tCons (tVar 14) tNil))))) [some v, some v1, some v4, some v5, some (.int (t.n : Int)), some v7, some v8, some v9, y8, some v10, some v12, some v15, some v16, some (.int c), some (.bl (dueB (fewest t) c)), none, none] H' false := fun {H' te d} n' hfz hte =>
          et_is (et_not (et_B (er_call2 (E := E0) (dueB (fewest t) c, dueB (fewest t) c) (.of (ev_is (er_call3 (E := E0) (t, c, d) (er_st rfl (mono_st _ _ _ ((m16.e2.trans eX).trans n'.e3) hS15)) (er_var rfl) hte mono_st mono_is mono_da ⟨o, hfz⟩).ev (by rw [shows_due]))) (er_var rfl) mono_is mono_is trivial).ev)) (by simp)
        refine k_when (b := false) n6' (sh n6' (fz_tab o).2.1 (ed_var rfl (hh16.mono (eX.trans n6'.e3)))) (fun z => nomatch z) fun _ H7 n7' _ => ?_
        exact l_when (b := false) n7' (sh n7' (fz_tab o).1 (ed_tupL (ed_var rfl (hTab15.mono ((m16.e2.trans eX).trans n7'.e3))))) (fun z => nomatch z) fun _ H8 n8' _ => ⟨G5', n8', e5', _, _, rfl⟩
      · intro σ5 G5' H5' n5' e5' hw
        obtain ⟨y13, y14, rfl⟩ := hw
        have eX : Ex G15 G5' := m16.e2.trans e5'
        have shL : Sh (tabL t) 2 := sh_lmap fun h _ => sh_lmap fun z _ => sh_eO z
        have hS5 := mono_st _ _ _ (eX.trans n5'.e3) hS15
        have hd5 := (hd10.mono (m12.e2.trans (m14.e2.trans e15'))).mono (eX.trans n5'.e3)
        have hF5 := hF14.mono (e15'.trans (eX.trans n5'.e3))
        refine k_when (b := false) n5' (et_is (et_or (a := false) (b := false) (et_is (et_test (ev_neD (e := tabL t) (e' := tabL t) (ed_var rfl (hh16.mono (e5'.trans n5'.e3))) (handed (eX.trans n5'.e3) rfl rfl fun x => ⟨rfl, rfl⟩) (shL.ok (by decide)) (shL.ok (by decide)))) (by rw [shL.eq]; rfl)) fun _ => et_is (et_or (a := false) (b := false) (et_is (et_test (ev_neD (e := tabD t) (e' := tabD t) (er_call1 (E := E0) t (er_st rfl hS5) o) (ed_var rfl hd5) (shT.ok (by decide)) (shT.ok (by decide)))) (by rw [shT.eq]; rfl)) fun _ =>
          et_is (et_test (ev_op (x := vO (fewest t)) (y := vO (fewest t)) (evO (er_call1 (E := E0) t (er_st rfl hS5) o)) (evO (ed_var rfl hF5)) (rv_ne (scal_vO _)))) (by simp)) rfl) rfl) (fun z => nomatch z) fun _ H6 n6' _ => ?_
        have htE := ht7.mono (e79.trans (e'.trans (m10.e2.trans (m12.e2.trans (m14.e2.trans (e15'.trans eX))))))
        have hSE := mono_st _ _ _ eX hS15
        have shP : Sh (tN t.pegs) 1 := sh_tmap fun z _ => sh_int _
        have shQ : Sh (tP t.lanes) 2 := sh_tmap fun z _ => sh_pr z
        exact k_ret n6' q (EvR.of (ev_is (ev_andV (a := true) (b := true) (ev_is (ev_eqD (e := tN t.pegs) (e' := tN t.pegs) (ed_pegs T (er_st rfl hSE)) (ed_tupL (ed_k0L (ed_var rfl htE))) (shP.ok (by decide)) (shP.ok (by decide))) (by rw [shP.eq])) fun _ => ev_is (ev_eqD (e := tP t.lanes) (e' := tP t.lanes) (ed_lanes T (er_st rfl hSE)) (ed_tupL (ed_k1L (ed_var rfl htE))) (shQ.ok (by decide)) (shQ.ok (by decide))) (by rw [shQ.eq])) rfl)) rfl
end
end Lw
namespace Dl
open PySem PySem.Spec PyProof.Rows L2 Evl Xr Hr
section
variable {K : PySem.W.Frag} {σ : L2.St} {H H0 H1 G : Hp} {te tk tm : TE}
theorem cut_to (ds : List D) (k : Nat) (h : k ≤ ds.length) : cutD ds none (some (k : Int)) = ds.take k := by
  unfold cutD
  rw [HT.sIx_nat, HT.sIx_none, Nat.min_eq_left h]; rfl
theorem cut_from (ds : List D) (k : Nat) (h : k ≤ ds.length) : cutD ds (some (k : Int)) none = ds.drop k := by
  unfold cutD
  rw [HT.sIx_nat, HT.sIx_none, Nat.min_eq_left h]
  exact List.take_of_length_le (by rw [List.length_drop]; exact Nat.le_refl _)
theorem cut_mid (ds : List D) (i j : Nat) (hi : i ≤ ds.length) (hj : j ≤ ds.length) : cutD ds (some (i : Int)) (some (j : Int)) = (ds.drop i).take (j - i) := by
  unfold cutD
  rw [HT.sIx_nat, HT.sIx_nat, Nat.min_eq_left hi, Nat.min_eq_left hj]
end
end Dl
namespace Lw
open PySem PySem.Spec PyProof.Rows L2 Evl Dl Hd He Hr Xr Classical
section
variable {K : PySem.W.Frag} {σ : L2.St} {H H0 H1 G : Hp} {te tk tm ta tb : TE}
theorem ed_to {ns : List Nat} {k : Nat} (h : EvD te σ H (lN ns)) (hk : Ev tk σ H (.int (k : Int))) (hl : k ≤ ns.length) : EvD (tSl (rSlL K) te tNoPart (tPart tk)) σ H (lN (ns.take k)) := by
  have := ed_slL (K := K) h eo_none (eo_some hk)
  rw [cut_to _ _ (by rw [List.length_map]; exact hl), ← List.map_take] at this
  exact this
theorem ed_from {ns : List Nat} {k : Nat} (h : EvD te σ H (lN ns)) (hk : Ev tk σ H (.int (k : Int))) (hl : k ≤ ns.length) : EvD (tSl (rSlL K) te (tPart tk) tNoPart) σ H (lN (ns.drop k)) := by
  have := ed_slL (K := K) h (eo_some hk) eo_none
  rw [cut_from _ _ (by rw [List.length_map]; exact hl), ← List.map_drop] at this
  exact this
theorem ed_mid {ns : List Nat} {i j : Nat} (h : EvD te σ H (lN ns)) (hi : Ev tk σ H (.int (i : Int))) (hj : Ev tm σ H (.int (j : Int))) (li : i ≤ ns.length) (lj : j ≤ ns.length) : EvD (tSl (rSlL K) te (tPart tk) (tPart tm)) σ H (lN ((ns.drop i).take (j - i))) := by
  have := ed_slL (K := K) h (eo_some hi) (eo_some hj)
  rw [cut_mid _ _ _ (by rw [List.length_map]; exact li) (by rw [List.length_map]; exact lj), ← List.map_drop, ← List.map_take] at this
  exact this
theorem ead_ints : ∀ l : List Nat, EvAD (l.foldr (fun (n : Nat) t => tCons (tC (.int (n : Int))) t) tNil) σ H (l.map eN)
  | [] => ead_nil
  | n :: l => ead_cons (.ofInt ev_c) (ead_ints l)
/-- an item of a table of constants -/
theorem ev_tab {l : List Nat} {i x : Nat} (hb : Ev tb σ H (.int (i : Int))) (hx : l[i]? = some x) (hz : l.length ≤ 1000) : Ev (tOp (rIxL K) (tLst (l.foldr (fun (n : Nat) t => tCons (tC (.int (n : Int))) t) tNil)) tb) σ H (.int (x : Int)) :=
  EvD.int (ed_ixL (i := i) (ed_lst (ead_ints l) (by rw [List.length_map]; exact Nat.le_trans hz (by decide))) hb (by rw [List.getElem?_map, hx]; rfl))
theorem tbl_at {l : List Nat} {i : Nat} (h : i < l.length) {Pr : Nat → Prop} (hp : ∀ x ∈ l, Pr x) : ∃ x, l[i]? = some x ∧ Pr x := ⟨l[i], List.getElem?_eq_getElem h, hp _ (List.getElem_mem h)⟩
/-- the digits of a cell -/
theorem er_cellD {is : List Int} {k i : Nat} {v : V} {sz : List Nat} (hk : k ≤ 3) (h0 : σ[i]? = some (some v)) (hv : ScA K is G v) (htk : Ev tk σ G (.int (k : Int))) (hte : EvD te σ G (lN sz)) (hsz : sz.length ≤ 1000 ∧ ∀ s ∈ sz, 1 ≤ s ∧ s < 1000) :
    EvR (tCall spDigits [] E0 (tCons (tCall (spCell K) [] E0 (tCons (tVar i) (tCons tk tNil))) (tCons te tNil))) σ G (fun G v => ∃ ds, Dq G v (lN ds) ∧ Dg ds sz sz.length) := fun H1 e1 Q1 q1 => by
  refine (er_call2 (E := E0) (B := fun _ => fun _ v => ∃ i : Int, v = .int i) (P := fun z : List Int × Nat => z.2 ≤ 3) (is, k) ((er_var h0).imp fun G2 x ex hx => by cases hx; exact mono_sc _ _ _ ex hv) (.of htk) mono_sc mono_is hk) H1 e1 _ fun w1 H2 G2 m2 ⟨i, hi⟩ => ?_
  subst hi
  exact (EvD.mono hte m2.e2) H2 m2.e3 _ fun w2 H3 G3 m3 h3 => ⟨(i, sz), G3, .int i, w2, rfl, m3.e3, hsz, rfl, h3, Ret.later q1 (m2.trans m3)⟩
/-- [pegs, lanes] -/
theorem er_town {pegs : List Nat} {n : Nat} (ha : EvD ta σ H (lN pegs)) (hb : EvR tb σ H (fun G v => ∃ es : List (Nat × Nat), es.Pairwise ltP ∧ (∀ p ∈ es, p.1 < n ∧ p.2 < n ∧ p.1 ≠ p.2) ∧ Dq G v (lP es))) (hl : pegs.length = n) (n1 : 1 ≤ n) (n7 : n ≤ 7) (pg : ∀ p ∈ pegs, 1 ≤ p ∧ p ≤ 9) :
    EvR (tLst (tCons ta (tCons tb tNil))) σ H isT := fun H10 e10 Q10 q10 =>
  ha H10 e10 _ fun w1 H11 G11 n11 hw1 => (EvR.mono (fun G1 G2 v ex ⟨es, h1, h2, h3⟩ => ⟨es, h1, h2, h3.mono ex⟩) hb n11.e2) H11 n11.e3 _ fun w2 H12 G12 n12 ⟨es, st, bd, hw2⟩ => by
    refine ⟨by simp [sizeLine], fun pp hpp => ?_⟩
    subst hl
    have n13 := n11.trans n12
    have gp := fresh_back n13.e3 hpp
    exact q10 _ _ _ (n13.new (o := .lst [w1, w2]) hpp) ⟨⟨pegs, es⟩, ⟨n1, n7, pg, bd, st⟩, .mkL upd_same (.cons ((Dq.mono hw1 n12.e2).mono (Ex.new gp)) (.one (hw2.mono (Ex.new gp))))⟩
end
section
variable {P : Program} {w : World} {K : PySem.W.Frag} {mg : Str → Option Value} {base : Heap} {f : Addr} {fd : FuncData}
abbrev N_law_town : List Str := ["_law_script", "_law_at", "_law_least", "_law_plan", "_law_digits_here", "_law_many", "_law_base", "_law_most", "_law_pegs", "_law_order", "_law_k", "_law_place"]
theorem sc_law_town : FnScope N_law_town ["_law_script", "_law_at", "_law_least"] (defScope s_law_town) := ⟨rfl, rfl, rfl, by decide +kernel, rfl, by decide +kernel, by decide +kernel⟩
def szT : List Nat := [16, 8, 8, 8, 7, 7, 9, 9, 9, 9, 9, 9, 9, 7, 7, 7, 7, 7, 7, 7, 3, 3, 3, 3, 3, 3, 3]
def szD : List Nat := [10, 10, 10, 10, 10, 10, 10, 10, 10, 10, 10, 10, 10, 10, 10, 10, 10, 10, 10, 10, 10, 10, 10, 10, 10, 10, 10, 10, 10, 10, 10, 10, 10, 10, 10, 10, 10, 10, 10, 10, 10, 10]
theorem dg_at {ds sz : List Nat} {j s : Nat} (h : Dg ds sz sz.length) (hs : sz[j]? = some s) : ∃ d, ds[j]? = some d ∧ d < s := by
  have hj : j < ds.length := by rw [h.ln]; exact (List.getElem?_eq_some_iff.mp hs).1
  exact ⟨ds[j], List.getElem?_eq_getElem hj, h.lt j _ s (List.getElem?_eq_getElem hj) hs⟩
theorem ok_town (F : Fun K "_law_town" "_law_town" s_law_town f fd) (T : Tx K mg) (C_law_cell : Cal P w K mg base 1 "_law_cell" ["_law_script", "_law_k"] (spCell K)) (C_law_digits : Cal P w K mg base 1 "_law_digits" ["_law_cell_here", "_law_sizes"] spDigits)
    (C_law_lanes : Cal P w K mg base 1 "_law_lanes" ["_law_order", "_law_plan", "_law_cuts", "_law_digits_here"] spLanes) : FnOk P w K mg base CX0 2 f fd ["_law_script", "_law_at", "_law_least"] (spMake K) := by
  refine F.ok sc_law_town (fun vs H Q E h => ?_) (fun cdv A outer s H1 vs Q E hr h => ?_)
  · obtain ⟨_, _, _, _, _, rfl, _⟩ := h; rfl
  · obtain ⟨is, G, v, u1, u2, rfl, e, _, hv, hu1, hu2, q⟩ := h
    cases hu1
    cases hu2
    have hv : ScA K is G v := hv
    refine ⟨_, (pss_cons (ps_set (i := 3) sc_law_town.nd rfl (by first | exact Or.inl rfl | exact Or.inr rfl) (pe_call C_law_digits.ok (hr.mono (by decide)) (by rfl) C_law_digits.g C_law_digits.kp C_law_digits.b .nil pass0 (pa_cons (pe_call C_law_cell.ok (hr.mono (by decide)) (by rfl) C_law_cell.g C_law_cell.kp C_law_cell.b .nil pass0 (pa_cons (pv 0) (pa_cons (pv 1) pa_nil))) (pa_cons (pe_op op_cat (pe_op op_cat (pe_op op_cat (pe_lst (pa_cons pe_int (pa_cons pe_int (pa_cons pe_int (pa_cons pe_int (pa_cons pe_int (pa_cons pe_int pa_nil))))))) (pe_op op_rep (pe_lst (pa_cons pe_int pa_nil)) pe_int)) (pe_op op_rep (pe_lst (pa_cons pe_int pa_nil)) pe_int)) (pe_op op_rep (pe_lst (pa_cons pe_int pa_nil)) pe_int)) pa_nil))))
    (pss_cons (ps_set (i := 4) sc_law_town.nd rfl (by first | exact Or.inl rfl | exact Or.inr rfl) (pe_call C_law_digits.ok (hr.mono (by decide)) (by rfl) C_law_digits.g C_law_digits.kp C_law_digits.b .nil pass0 (pa_cons (pe_call C_law_cell.ok (hr.mono (by decide)) (by rfl) C_law_cell.g C_law_cell.kp C_law_cell.b .nil pass0 (pa_cons (pv 0) (pa_cons (pe_op op_add (pv 1) pe_int) pa_nil))) (pa_cons (pe_op op_rep (pe_lst (pa_cons pe_int pa_nil)) pe_int) pa_nil))))
    (pss_cons (ps_set (i := 5) sc_law_town.nd rfl (by first | exact Or.inl rfl | exact Or.inr rfl) (pe_ix (r := rIxL K) ix_list (pe_lst (pa_cons pe_int (pa_cons pe_int (pa_cons pe_int (pa_cons pe_int (pa_cons pe_int (pa_cons pe_int (pa_cons pe_int (pa_cons pe_int (pa_cons pe_int (pa_cons pe_int (pa_cons pe_int (pa_cons pe_int (pa_cons pe_int (pa_cons pe_int (pa_cons pe_int (pa_cons pe_int pa_nil))))))))))))))))) (pe_ix (r := rIxL K) ix_list (pv 3) pe_int (fun _ _ => rfl)) (fun _ _ => rfl)))
    (pss_cons (ps_set (i := 6) sc_law_town.nd rfl (by first | exact Or.inl rfl | exact Or.inr rfl) (pe_op op_add (pv 2) (pe_ix (r := rIxL K) ix_list (pe_lst (pa_cons pe_int (pa_cons pe_int (pa_cons pe_int (pa_cons pe_int (pa_cons pe_int (pa_cons pe_int (pa_cons pe_int (pa_cons pe_int pa_nil))))))))) (pe_ix (r := rIxL K) ix_list (pv 3) pe_int (fun _ _ => rfl)) (fun _ _ => rfl))))
    (pss_cons (ps_set (i := 7) sc_law_town.nd rfl (by first | exact Or.inl rfl | exact Or.inr rfl) (pe_ix (r := rIxL K) ix_list (pe_lst (pa_cons pe_int (pa_cons pe_int (pa_cons pe_int (pa_cons pe_int (pa_cons pe_int (pa_cons pe_int (pa_cons pe_int (pa_cons pe_int pa_nil))))))))) (pe_ix (r := rIxL K) ix_list (pv 3) pe_int (fun _ _ => rfl)) (fun _ _ => rfl)))
    (pss_cons (ps_setLc (i := 8) (own := [("_law_k", 10)]) rfl sc_law_town.nd rfl rfl (sw_true rfl rfl rfl (by decide +kernel)) (pi_range1 (by rfl) T.range (pa_cons (pv 5) pa_nil)) (blkOk_by (N := N_law_town) (sc := defScope s_law_town) (by decide +kernel)) (fun _ _ _ _ _ => (pg_name (i := 10) sc_law_town.nd rfl (by first | exact Or.inl rfl | exact Or.inr rfl))) (fun _ _ _ _ _ => pts_nil) (fun _ _ _ _ _ => (pe_callB (call_min2 rfl) (by rfl) T.min bt_min (pa_cons pe_int (pa_cons (pe_op op_add (pv 6) (pe_op op_mod (pe_callTy call_int1 (by rfl) T.int bt_int (pa_cons (pe_ix (r := rIxL K) ix_list (pv 3) (pe_op op_add pe_int (pv 10)) (fun _ _ => rfl)) pa_nil)) (pv 7))) pa_nil)))))
    (pss_cons (ps_set (i := 9) sc_law_town.nd rfl (by first | exact Or.inl rfl | exact Or.inr rfl) (pe_lst pa_nil))
    (pss_cons (ps_for PassesOwn.never rfl (pi_range1 (by rfl) T.range (pa_cons (pv 5) pa_nil)) (pg_name (i := 10) sc_law_town.nd rfl (by first | exact Or.inl rfl | exact Or.inr rfl))
      (pss_cons (ps_set (i := 11) sc_law_town.nd rfl (by first | exact Or.inl rfl | exact Or.inr rfl) (pe_op op_mod (pe_callTy call_int1 (by rfl) T.int bt_int (pa_cons (pe_ix (r := rIxL K) ix_list (pv 3) (pe_op op_add pe_int (pv 10)) (fun _ _ => rfl)) pa_nil)) (pe_op op_add (pv 10) pe_int)))
        (pss_one (ps_set (i := 9) sc_law_town.nd rfl (by first | exact Or.inl rfl | exact Or.inr rfl) (pe_op op_cat (pe_op op_cat (pe_slice (r := rSlL K) sl_list (pv 9) po_none (po_some (pv 11))) (pe_lst (pa_cons (pv 10) pa_nil))) (pe_slice (r := rSlL K) sl_list (pv 9) (po_some (pv 11)) po_none))))))
    (pss_one (ps_ret (pe_lst (pa_cons (pv 8) (pa_cons (pe_call C_law_lanes.ok (hr.mono (by decide)) (by rfl) C_law_lanes.g C_law_lanes.kp C_law_lanes.b .nil pass0 (pa_cons (pv 9) (pa_cons (pv 3) (pa_cons (pe_slice (r := rSlL K) sl_list (pv 3) (po_some pe_int) po_none) (pa_cons (pv 4) pa_nil))))) pa_nil))))))))))))), ?_⟩
    refine k_asg (R := fun G v => ∃ ds, Dq G v (lN ds) ∧ Dg ds szT szT.length) (.refl e) (er_cellD (k := 0) (by decide) rfl hv (ev_var rfl) ?_ (by unfold szT; decide)) fun v3 G1 Ha n1 m1 hp1 => ?_
    · have h1 : ∀ n : Nat, EvD (tLst (tCons (tC (.int (n : Int))) tNil)) (start N_law_town [v, .int 0, .int 1]) G (.list [eN n]) := fun n => ed_lst (ead_cons (.ofInt ev_c) ead_nil) (by simp [sizeLine])
      exact ed_cat (ed_cat (ed_cat (ed_lst (ead_ints [16, 8, 8, 8, 7, 7]) (by simp [sizeLine])) (ed_rep (k := 7) (h1 9) ev_c (by simp [sizeLine]) (by decide)) (by simp [sizeLine])) (ed_rep (k := 7) (h1 7) ev_c (by simp [sizeLine]) (by decide)) (by simp [sizeLine])) (ed_rep (k := 7) (h1 3) ev_c (by simp [sizeLine]) (by decide)) (by simp [sizeLine])
    obtain ⟨ds, hds, hD⟩ := hp1
    refine k_asg (R := fun G v => ∃ ds, Dq G v (lN ds) ∧ Dg ds szD szD.length) n1 (er_cellD (k := 1) (by decide) rfl (mono_sc _ _ _ m1.e2 hv) (ev_is (ev_add (ev_var rfl) ev_c) rfl) (ed_rep (k := 42) (ds := [eN 10]) (ed_lst (ead_cons (.ofInt ev_c) ead_nil) (by simp [sizeLine])) ev_c (by simp [sizeLine]) (by decide)) (by unfold szD; decide)) fun v4 G2 Hb n2 m2 hp2 => ?_
    obtain ⟨dg, hdg, hE⟩ := hp2
    have hds2 := hds.mono m2.e2
    have ln27 : ds.length = 27 := hD.ln
    have ln42 : dg.length = 42 := hE.ln
    have rp : ∀ {σ : L2.St} {H' : Hp} {i d : Nat} {te : TE}, Ex G2 H' → σ[3]? = some (some v3) → ds[i]? = some d → Ev te σ H' (.int (i : Int)) → Ev (tOp (rIxL K) (tVar 3) te) σ H' (.int (d : Int)) := fun eg h hi ht => EvD.int (ed_ixL (ed_var h (hds2.mono eg)) ht (by rw [List.getElem?_map, hi]; rfl))
    obtain ⟨a0, ha0, l0⟩ := dg_at (j := 0) (s := 16) hD rfl
    obtain ⟨a3, ha3, l3⟩ := dg_at (j := 3) (s := 8) hD rfl
    obtain ⟨n, hn, n1', n7⟩ := tbl_at (l := [4, 5, 3, 6, 4, 5, 2, 6, 4, 5, 3, 6, 7, 5, 4, 1]) (i := a0) (by simpa using l0) (Pr := fun n => 1 ≤ n ∧ n ≤ 7) (by decide)
    obtain ⟨b0, hb0, l6⟩ := tbl_at (l := [0, 0, 0, 0, 0, 0, 6, 4]) (i := a3) (by simpa using l3) (Pr := fun n => n ≤ 6) (by decide)
    obtain ⟨m0, hm0, m1', m9⟩ := tbl_at (l := [3, 9, 2, 9, 4, 1, 3, 3]) (i := a3) (by simpa using l3) (Pr := fun n => 1 ≤ n ∧ n ≤ 9) (by decide)
    refine k_asgV n2 (ev_tab (l := [4, 5, 3, 6, 4, 5, 2, 6, 4, 5, 3, 6, 7, 5, 4, 1]) (rp n2.e3 rfl ha0 ev_c) hn (by decide)) fun Hc n3 e3 => ?_
    refine k_asgV n3 (v := .int ((1 + b0 : Nat) : Int)) (ev_is (ev_add (ev_var rfl) (ev_tab (l := [0, 0, 0, 0, 0, 0, 6, 4]) (rp n3.e3 rfl ha3 ev_c) hb0 (by decide))) (congrArg V.int (by omega))) fun Hd n4 e4 => ?_
    refine k_asgV n4 (ev_tab (l := [3, 9, 2, 9, 4, 1, 3, 3]) (rp n4.e3 rfl ha3 ev_c) hm0 (by decide)) fun He n5 e5 => ?_
    refine k_asg (R := Da (lN ((List.range n).map fun k => min 9 (1 + b0 + ds.getD (6 + k) 0 % m0)))) n5 ?_ fun v8 G6 Hf n6 m6 hpg => ?_
    · show EvD _ _ _ (.list (((List.range n).map fun k => min 9 (1 + b0 + ds.getD (6 + k) 0 % m0)).map eN))
      rw [List.map_map]
      refine ed_mapR (m := n) _ (ea_one (ev_var rfl)) (by omega) fun k hk => turnF_name rfl et_yes fun _ => .ofInt ?_
      have hi : ds[6 + k]? = some (ds.getD (6 + k) 0) := by rw [List.getD_eq_getElem?_getD, List.getElem?_eq_getElem (by omega)]; rfl
      refine ev_is (ev_min2 ev_c (ev_add (ev_var rfl) (ev_modN (ev_int1 (rp (.refl _) rfl hi (ev_is (ev_add ev_c (ev_var rfl)) rfl))) (ev_var rfl) (by omega)))) ?_
      show V.int _ = V.int _
      congr 1
      show _ = ((min 9 (1 + b0 + ds.getD (6 + k) 0 % m0) : Nat) : Int)
      generalize ds.getD (6 + k) 0 % m0 = z
      split <;> omega
    refine k_asg (R := Da (lN [])) n6 (ed_lst ead_nil (by simp [sizeLine])) fun v9 G7 Hg n7' m7 hv9 => ?_
    have e27 : Ex G2 G7 := m6.e2.trans m7.e2
    refine k_forR (m := n) n7' (ea_one (ev_var rfl)) (by have := n7; omega) (fun k σ G' H' => ∃ (y10 y11 : Option V) (v9 : V) (L : List Nat), σ = [some v, some (.int 0), some (.int 1), some v3, some v4, some (.int (n : Int)), some (.int ((1 + b0 : Nat) : Int)), some (.int (m0 : Int)), some v8, some v9, y10, y11] ∧ Dq G' v9 (lN L) ∧ L.Perm (List.range k))
      (fun H' n' e' => ⟨_, _, v9, [], rfl, hv9, .refl _⟩) ?_ ?_
    · intro k σ' G' H' hk n' e' hw
      obtain ⟨y10, y11, v9, L, rfl, hL, pm⟩ := hw
      have lk : L.length = k := by rw [pm.length_eq, List.length_range]
      have hi : ds[13 + k]? = some (ds.getD (13 + k) 0) := by rw [List.getD_eq_getElem?_getD, List.getElem?_eq_getElem (by omega)]; rfl
      have hpl : ds.getD (13 + k) 0 % (k + 1) ≤ L.length := by rw [lk]; exact Nat.lt_succ_iff.mp (Nat.mod_lt _ (Nat.succ_pos k))
      refine k_asgV n' (ev_modN (ev_int1 (rp (e27.trans (e'.trans n'.e3)) rfl hi (ev_is (ev_add ev_c (ev_var rfl)) rfl))) (ev_is (ev_add (ev_var rfl) ev_c) rfl) (Nat.succ_pos k)) fun H2 n2' e2' => ?_
      generalize ds.getD (13 + k) 0 % (k + 1) = pl at hpl
      refine l_asg (R := Da (lN (L.take pl ++ [k] ++ L.drop pl))) n2' ?_ fun v9' G8 H8 n8 m8 hv9' => ⟨G8, n8, e'.trans m8.e2, _, _, v9', _, rfl, hv9', Tm.ins_perm pm pl⟩
      show EvD _ _ _ (.list ((L.take pl ++ [k] ++ L.drop pl).map eN))
      rw [List.map_append, List.map_append]
      refine ed_cat (ed_cat (ed_to (ed_var rfl hL) (ev_var rfl) hpl) (ed_lst (ead_cons (.ofInt (ev_var rfl)) ead_nil) (by simp [sizeLine])) ?_) (ed_from (ed_var rfl hL) (ev_var rfl) hpl) ?_
      · rw [List.length_map, List.length_take]
        exact Nat.le_trans (show min pl L.length + 1 ≤ 8 by omega) (by decide)
      · rw [List.length_append, List.length_map, List.length_take, List.length_map, List.length_map, List.length_drop]
        exact Nat.le_trans (show min pl L.length + 1 + (L.length - pl) ≤ 16 by omega) (by decide)
    · intro σ' G' H' n' e' hw
      obtain ⟨y10, y11, v9, L, rfl, hL, pm⟩ := hw
      have oL := Tm.ord_of pm
      have lk := oL.ln
      have e2 : Ex G2 G' := e27.trans e'
      have hds' := hds2.mono e2
      refine k_ret n' q (er_town (n := n) (pegs := (List.range n).map fun k => min 9 (1 + b0 + ds.getD (6 + k) 0 % m0)) (ed_var rfl (Dq.mono hpg (m7.e2.trans e'))) ?_ (by simp) n1' n7 fun p hp => ?_) rfl
      · have hc : EvR _ _ _ _ := er_call4 (E := E0) (P := fun z : List Nat × List Nat × List Nat × List Nat => LnOk z.1 z.2.1 z.2.2.1 z.2.2.2) (B := fun z => fun G v => ∃ es : List (Nat × Nat), es.Pairwise ltP ∧ (∀ p ∈ es, p.1 < z.1.length ∧ p.2 < z.1.length ∧ p.1 ≠ p.2) ∧ Dq G v (lP es))
          (A1 := fun z => Da (lN z.1)) (A2 := fun z => Da (lN z.2.1)) (A3 := fun z => Da (lN z.2.2.1)) (A4 := fun z => Da (lN z.2.2.2)) (L, ds, ds.drop 20, dg)
          (ed_var (i := 9) (σ := [some v, some (.int 0), some (.int 1), some v3, some v4, some (.int (n : Int)), some (.int ((1 + b0 : Nat) : Int)), some (.int (m0 : Int)), some v8, some v9, y10, y11]) rfl hL) (ed_var (i := 3) rfl hds') (ed_from (K := K) (k := 20) (ed_var (i := 3) rfl hds') ev_c (by omega)) (ed_var (i := 4) rfl (hdg.mono e2)) mono_da mono_da mono_da mono_da ?_
        · rw [lk] at hc
          exact hc
        · refine ⟨by rw [lk]; exact oL, by show 1 ≤ L.length; omega, by show L.length ≤ 7; omega, by show 6 ≤ ds.length; omega, ?_, by show 7 ≤ (ds.drop 20).length; rw [List.length_drop]; omega, by show 42 ≤ dg.length; omega⟩
          obtain ⟨a1, ha1, l1⟩ := dg_at (j := 1) (s := 8) hD rfl
          show ds.getD 1 0 < 8
          rw [List.getD_eq_getElem?_getD, ha1]; exact l1
      · obtain ⟨k, _, rfl⟩ := List.mem_map.mp hp
        show 1 ≤ min 9 _ ∧ min 9 _ ≤ 9
        omega
end
end Lw
namespace Dl
open PySem PySem.Spec PyProof.Rows L2 Evl Xr Hr
section
variable {K : PySem.W.Frag} {σ : L2.St} {H H0 H1 G : Hp} {te ta : TE} {t : TT} {tu tw tz : TS} {Dn : Ends}
/-- if t: l.append(e), l ours -/
theorem k_whenApp {l : Addr} {xs : List V} {R : RR} {b : Bool} (n : Nx H0 H1 G H) (h1 : H1 l = none) (hg : G l = none) (hl : H l = some (.lst xs)) (ht : EvT t σ H b) (ha : ∀ H', Ev ta σ H' (.ref l)) (h : b = true → EvR te σ G R) (hz : xs.length < sizeLine)
    (k : ∀ G' H' ys, Nx H0 H1 G' H' → Ex G G' → G' l = none → H' l = some (.lst ys) → ((b = false ∧ ys = xs) ∨ (b = true ∧ ∃ v, ys = xs ++ [v] ∧ R G' v)) → tz Dn σ H') : tSeq (tIfS t (tDrop (tBM K "list" rAppend ta (tCons te tNil))) tNext) tz Dn σ H :=
  k_when n ht (fun hb H2 n2 e2 => l_app n2 h1 hg (e2 _ _ hl) (ha _) (h hb) hz fun v G3 H3 n3 e3 fr3 _ hl3 hv => k G3 H3 _ n3 e3 (fr3 l hg (by rw [e2 _ _ hl]; simp)) hl3 (.inr ⟨hb, v, rfl, hv⟩))
    fun hb H2 n2 e2 => k G H2 xs n2 (.refl _) hg (e2 _ _ hl) (.inl ⟨hb, rfl⟩)
theorem l_ifX (n : Nx H0 H1 G H) (h : ∃ b, EvT t σ H b) (h1 : ∀ H', Nx H0 H1 G H' → Ex H H' → tu Dn σ H') (h2 : ∀ H', Nx H0 H1 G H' → Ex H H' → tw Dn σ H') : tIfS t tu tw Dn σ H := by
  obtain ⟨b, hb⟩ := h
  exact l_if n hb (fun _ => h1) fun _ => h2
theorem xt_and {u : TT} (h1 : ∃ a, EvT t σ H a) (h2 : ∃ b, EvT u σ H b) : ∃ c, EvT (tAnd t u) σ H c := by
  obtain ⟨a, h1⟩ := h1
  obtain ⟨b, h2⟩ := h2
  exact ⟨_, et_and h1 fun _ => h2⟩
theorem k_asgI {i : Nat} (n : Nx H0 H1 G H) (h : ∃ z : Int, Ev te σ H (.int z)) (k : ∀ (z : Int) H', Nx H0 H1 G H' → Ex H H' → tz Dn (σ.set i (some (.int z))) H') : tSeq (tAsg te (gName i)) tz Dn σ H := by
  obtain ⟨b, hb⟩ := h
  exact k_asgV n hb (k b)
end
end Dl
namespace Lw
open PySem PySem.Spec PyProof.Rows L2 Evl Dl Hd He Hr Xr Classical
def szW : List Nat := [3, 3, 2, 4, 3, 6, 7, 7, 7, 7, 7, 7, 7, 3, 3, 3, 3, 3, 3, 3]
def szM : List Nat := [7, 7, 7, 7, 7, 7, 7, 7, 7]
theorem short_of {s x ap : Nat} (hs : 3 ≤ s) (h5 : s ≤ 5) (hx : x < s - 2) (ha : ap < 2) : ∃ h : Nat, (if (8 : Int) - (s : Int) - (ap : Int) < 2 + (x : Int) then (8 : Int) - (s : Int) - (ap : Int) else 2 + (x : Int)) = (h : Int) ∧ 2 ≤ h ∧ s + h + ap ≤ 8 := by
  by_cases c : (8 : Int) - (s : Int) - (ap : Int) < 2 + (x : Int)
  · exact ⟨8 - s - ap, by rw [if_pos c]; omega, by omega, by omega⟩
  · exact ⟨2 + x, by rw [if_neg c]; omega, by omega, by omega⟩
theorem many_of {b : Nat} {z : Int} (hb : b ≤ 7) (hz : 0 ≤ z) : ∃ n : Nat, (b : Int) + (if (7 : Int) - (b : Int) < z then (7 : Int) - (b : Int) else z) = (n : Int) ∧ b ≤ n ∧ n ≤ 7 := by
  by_cases c : (7 : Int) - (b : Int) < z
  · exact ⟨7, by rw [if_pos c]; omega, by omega, by omega⟩
  · exact ⟨b + z.toNat, by rw [if_neg c]; omega, by omega, by omega⟩
theorem peg_of (z : Int) : ∃ y : Nat, (if (if z > 1 then z else 1) < (9 : Int) then (if z > 1 then z else 1) else (9 : Int)) = (y : Int) ∧ 1 ≤ y ∧ y ≤ 9 := by
  by_cases c1 : z > 1
  · rw [if_pos c1]
    by_cases c2 : z < 9
    · exact ⟨z.toNat, by rw [if_pos c2]; omega, by omega, by omega⟩
    · exact ⟨9, by rw [if_neg c2]; rfl, by omega, by omega⟩
  · rw [if_neg c1]
    exact ⟨1, by rw [if_pos (by decide)]; rfl, by omega, by omega⟩
section
variable {P : Program} {w : World} {K : PySem.W.Frag} {mg : Str → Option Value} {base : Heap} {f : Addr} {fd : FuncData}
abbrev N_law_twin : List Str := ["_law_script", "_law_at", "_law_least", "_law_plan", "_law_more", "_law_size", "_law_apart", "_law_short", "_law_both", "_law_many", "_law_order", "_law_k", "_law_place", "_law_pegs", "_law_second", "_law_heavy", "_law_total", "_law_lanes_here", "_law_house"]
theorem sc_law_twin : FnScope N_law_twin ["_law_script", "_law_at", "_law_least"] (defScope s_law_twin) := ⟨rfl, rfl, rfl, by decide +kernel, rfl, by decide +kernel, by decide +kernel⟩
theorem ok_twin (F : Fun K "_law_twin" "_law_twin" s_law_twin f fd) (T : Tx K mg) (C_law_cell : Cal P w K mg base 1 "_law_cell" ["_law_script", "_law_k"] (spCell K)) (C_law_digits : Cal P w K mg base 1 "_law_digits" ["_law_cell_here", "_law_sizes"] spDigits) :
    FnOk P w K mg base CX0 2 f fd ["_law_script", "_law_at", "_law_least"] (spMake K) := by
  refine F.ok sc_law_twin (fun vs H Q E h => ?_) (fun cdv A outer s H1 vs Q E hr h => ?_)
  · obtain ⟨_, _, _, _, _, rfl, _⟩ := h; rfl
  · obtain ⟨is, G, v, u1, u2, rfl, e, _, hv, hu1, hu2, q⟩ := h
    cases hu1
    cases hu2
    have hv : ScA K is G v := hv
    refine ⟨_, (pss_cons (ps_set (i := 3) sc_law_twin.nd rfl (by first | exact Or.inl rfl | exact Or.inr rfl) (pe_call C_law_digits.ok (hr.mono (by decide)) (by rfl) C_law_digits.g C_law_digits.kp C_law_digits.b .nil pass0 (pa_cons (pe_call C_law_cell.ok (hr.mono (by decide)) (by rfl) C_law_cell.g C_law_cell.kp C_law_cell.b .nil pass0 (pa_cons (pv 0) (pa_cons (pv 1) pa_nil))) (pa_cons (pe_op op_cat (pe_op op_cat (pe_lst (pa_cons pe_int (pa_cons pe_int (pa_cons pe_int (pa_cons pe_int (pa_cons pe_int (pa_cons pe_int pa_nil))))))) (pe_op op_rep (pe_lst (pa_cons pe_int pa_nil)) pe_int)) (pe_op op_rep (pe_lst (pa_cons pe_int pa_nil)) pe_int)) pa_nil))))
    (pss_cons (ps_set (i := 4) sc_law_twin.nd rfl (by first | exact Or.inl rfl | exact Or.inr rfl) (pe_call C_law_digits.ok (hr.mono (by decide)) (by rfl) C_law_digits.g C_law_digits.kp C_law_digits.b .nil pass0 (pa_cons (pe_call C_law_cell.ok (hr.mono (by decide)) (by rfl) C_law_cell.g C_law_cell.kp C_law_cell.b .nil pass0 (pa_cons (pv 0) (pa_cons (pe_op op_add (pv 1) pe_int) pa_nil))) (pa_cons (pe_op op_rep (pe_lst (pa_cons pe_int pa_nil)) pe_int) pa_nil))))
    (pss_cons (ps_set (i := 5) sc_law_twin.nd rfl (by first | exact Or.inl rfl | exact Or.inr rfl) (pe_op op_add pe_int (pe_ix (r := rIxL K) ix_list (pv 3) pe_int (fun _ _ => rfl))))
    (pss_cons (ps_set (i := 6) sc_law_twin.nd rfl (by first | exact Or.inl rfl | exact Or.inr rfl) (pe_ix (r := rIxL K) ix_list (pv 3) pe_int (fun _ _ => rfl)))
    (pss_cons (ps_set (i := 7) sc_law_twin.nd rfl (by first | exact Or.inl rfl | exact Or.inr rfl) (pe_callB (call_min2 rfl) (by rfl) T.min bt_min (pa_cons (pe_op op_add pe_int (pe_op op_mod (pe_callTy call_int1 (by rfl) T.int bt_int (pa_cons (pe_ix (r := rIxL K) ix_list (pv 3) pe_int (fun _ _ => rfl)) pa_nil)) (pe_op op_sub (pv 5) pe_int))) (pa_cons (pe_op op_sub (pe_op op_sub pe_int (pv 5)) (pv 6)) pa_nil))))
    (pss_cons (ps_set (i := 8) sc_law_twin.nd rfl (by first | exact Or.inl rfl | exact Or.inr rfl) (pe_op op_add (pe_op op_sub (pe_op op_add (pv 5) (pv 7)) pe_int) (pv 6)))
    (pss_cons (ps_set (i := 9) sc_law_twin.nd rfl (by first | exact Or.inl rfl | exact Or.inr rfl) (pe_op op_add (pv 8) (pe_callB (call_min2 rfl) (by rfl) T.min bt_min (pa_cons (pe_callB (call_max2 rfl) (by rfl) T.max bt_max (pa_cons (pe_ix (r := rIxL K) ix_list (pv 3) pe_int (fun _ _ => rfl)) (pa_cons (pe_op op_fdiv (pe_ix (r := rIxL K) ix_list (pv 3) pe_int (fun _ _ => rfl)) pe_int) pa_nil))) (pa_cons (pe_op op_sub pe_int (pv 8)) pa_nil)))))
    (pss_cons (ps_set (i := 10) sc_law_twin.nd rfl (by first | exact Or.inl rfl | exact Or.inr rfl) (pe_lst pa_nil))
    (pss_cons (ps_for PassesOwn.never rfl (pi_range1 (by rfl) T.range (pa_cons (pv 9) pa_nil)) (pg_name (i := 11) sc_law_twin.nd rfl (by first | exact Or.inl rfl | exact Or.inr rfl))
      (pss_cons (ps_set (i := 12) sc_law_twin.nd rfl (by first | exact Or.inl rfl | exact Or.inr rfl) (pe_op op_mod (pe_callTy call_int1 (by rfl) T.int bt_int (pa_cons (pe_ix (r := rIxL K) ix_list (pv 3) (pe_op op_add pe_int (pv 11)) (fun _ _ => rfl)) pa_nil)) (pe_op op_add (pv 11) pe_int)))
        (pss_one (ps_set (i := 10) sc_law_twin.nd rfl (by first | exact Or.inl rfl | exact Or.inr rfl) (pe_op op_cat (pe_op op_cat (pe_slice (r := rSlL K) sl_list (pv 10) po_none (po_some (pv 12))) (pe_lst (pa_cons (pv 11) pa_nil))) (pe_slice (r := rSlL K) sl_list (pv 10) (po_some (pv 12)) po_none))))))
    (pss_cons (ps_set (i := 13) sc_law_twin.nd rfl (by first | exact Or.inl rfl | exact Or.inr rfl) (pe_lc (own := [("_law_k", 11)]) rfl sc_law_twin.nd (pi_range1 (by rfl) T.range (pa_cons (pv 9) pa_nil)) (blkOk_by (N := N_law_twin) (sc := defScope s_law_twin) (by decide +kernel)) (fun _ _ _ _ _ => (pg_name (i := 11) sc_law_twin.nd rfl (by first | exact Or.inl rfl | exact Or.inr rfl))) (fun _ _ _ _ _ => pts_nil) (fun _ _ _ _ _ => (pe_op op_add (pv 2) (pe_ix (r := rIxL K) ix_list (pv 3) (pe_op op_add pe_int (pv 11)) (fun _ _ => rfl))))))
    (pss_cons (ps_set (i := 14) sc_law_twin.nd rfl (by first | exact Or.inl rfl | exact Or.inr rfl) (pe_slice (r := rSlL K) sl_list (pv 10) (po_some (pe_op op_add (pe_op op_sub (pv 5) pe_int) (pv 6))) (po_some (pv 8))))
    (pss_cons (ps_set (i := 15) sc_law_twin.nd rfl (by first | exact Or.inl rfl | exact Or.inr rfl) (pe_slice (r := rSlL K) sl_list (pv 14) (po_some (pe_op op_sub pe_int (pv 6))) po_none))
    (pss_cons (ps_set (i := 16) sc_law_twin.nd rfl (by first | exact Or.inl rfl | exact Or.inr rfl) (pe_op op_sub (pe_callB (r := rSum K) (cr_sum rfl) (by rfl) T.sum bt_sum (pa_cons (pe_lc (own := [("_law_house", 18)]) rfl sc_law_twin.nd (pi_list (pe_slice (r := rSlL K) sl_list (pv 10) po_none (po_some (pv 5)))) (blkOk_by (N := N_law_twin) (sc := defScope s_law_twin) (by decide +kernel)) (fun _ _ _ _ _ => (pg_name (i := 18) sc_law_twin.nd rfl (by first | exact Or.inl rfl | exact Or.inr rfl))) (fun _ _ _ _ _ => pts_nil) (fun _ _ _ _ _ => (pe_ix (r := rIxL K) ix_list (pv 13) (pv 18) (fun _ _ => rfl)))) pa_nil)) (pe_op op_mul (pe_op op_sub pe_int (pv 6)) (pe_ix (r := rIxL K) ix_list (pv 13) (pe_ix (r := rIxL K) ix_list (pv 14) pe_int (fun _ _ => rfl)) (fun _ _ => rfl)))))
    (pss_cons (ps_for PassesOwn.never rfl (pi_range1 (by rfl) T.range (pa_cons (pe_callB (r := rLenQ K) call_len_seq (by rfl) T.len bt_len (pa_cons (pv 15) pa_nil)) pa_nil)) (pg_name (i := 11) sc_law_twin.nd rfl (by first | exact Or.inl rfl | exact Or.inr rfl))
      (pss_one (ps_asg (pe_callB (call_min2 rfl) (by rfl) T.min bt_min (pa_cons pe_int (pa_cons (pe_callB (call_max2 rfl) (by rfl) T.max bt_max (pa_cons (pv 2) (pa_cons (pe_op op_fdiv (pe_op op_add (pe_op op_add (pv 16) (pe_ix (r := rIxL K) ix_list (pe_lst (pa_cons pe_int (pa_cons pe_int (pa_cons (pe_op op_sub pe_int pe_int) (pa_cons pe_int (pa_cons pe_int (pa_cons pe_int pa_nil))))))) (pe_ix (r := rIxL K) ix_list (pv 3) pe_int (fun _ _ => rfl)) (fun _ _ => rfl))) (pv 11)) (pe_callB (r := rLenQ K) call_len_seq (by rfl) T.len bt_len (pa_cons (pv 15) pa_nil))) pa_nil))) pa_nil))) (pg_sub (pv 13) (pe_ix (r := rIxL K) ix_list (pv 15) (pv 11) (fun _ _ => rfl)) set_list))))
    (pss_cons (ps_setLc (i := 17) (own := [("_law_k", 11)]) rfl sc_law_twin.nd rfl rfl (sw_true rfl rfl rfl (by decide +kernel)) (pi_range1 (by rfl) T.range (pa_cons (pv 5) pa_nil)) (blkOk_by (N := N_law_twin) (sc := defScope s_law_twin) (by decide +kernel)) (fun _ _ _ _ _ => (pg_name (i := 11) sc_law_twin.nd rfl (by first | exact Or.inl rfl | exact Or.inr rfl))) (fun _ _ _ _ _ => pts_nil) (fun _ _ _ _ _ => (pe_tup (pa_cons (pe_ix (r := rIxL K) ix_list (pv 10) (pv 11) (fun _ _ => rfl)) (pa_cons (pe_ix (r := rIxL K) ix_list (pv 10) (pe_op op_mod (pe_callTy call_int1 (by rfl) T.int bt_int (pa_cons (pe_op op_add (pv 11) pe_int) pa_nil)) (pv 5)) (fun _ _ => rfl)) pa_nil)))))
    (pss_cons (ps_set (i := 17) sc_law_twin.nd rfl (by first | exact Or.inl rfl | exact Or.inr rfl) (pe_op op_cat (pv 17) (pe_lc (own := [("_law_k", 11)]) rfl sc_law_twin.nd (pi_range1 (by rfl) T.range (pa_cons (pv 7) pa_nil)) (blkOk_by (N := N_law_twin) (sc := defScope s_law_twin) (by decide +kernel)) (fun _ _ _ _ _ => (pg_name (i := 11) sc_law_twin.nd rfl (by first | exact Or.inl rfl | exact Or.inr rfl))) (fun _ _ _ _ _ => pts_nil) (fun _ _ _ _ _ => (pe_tup (pa_cons (pe_ix (r := rIxL K) ix_list (pv 14) (pv 11) (fun _ _ => rfl)) (pa_cons (pe_ix (r := rIxL K) ix_list (pv 14) (pe_op op_mod (pe_callTy call_int1 (by rfl) T.int bt_int (pa_cons (pe_op op_add (pv 11) pe_int) pa_nil)) (pv 7)) (fun _ _ => rfl)) pa_nil)))))))
    (pss_cons (ps_if (PW.pt (pw_and (pt_cmpR op_eq (pv 6) pe_int (nomark _)) (pw_and1 (pt_cmpR op_ne (pe_ix (r := rIxL K) ix_list (pv 3) pe_int (fun _ _ => rfl)) pe_int (nomark _)))))
      (pss_one (ps_expr (pe_bm PySem.F.plainAttrs_list PySem.F.slot_list_append PySem.F.type_list_append mt_append (pv 17) (pa_cons (pe_tup (pa_cons (pe_ix (r := rIxL K) ix_list (pv 10) (pe_op op_mod (pe_callTy call_int1 (by rfl) T.int bt_int (pa_cons (pe_ix (r := rIxL K) ix_list (pv 4) pe_int (fun _ _ => rfl)) pa_nil)) (pv 5)) (fun _ _ => rfl)) (pa_cons (pe_ix (r := rIxL K) ix_list (pv 14) (pe_op op_mod (pe_callTy call_int1 (by rfl) T.int bt_int (pa_cons (pe_ix (r := rIxL K) ix_list (pv 4) pe_int (fun _ _ => rfl)) pa_nil)) (pv 7)) (fun _ _ => rfl)) pa_nil))) pa_nil))))
      pss_nil)
    (pss_cons (ps_if (PW.pt (pw_and (pt_cmpR op_eq (pv 6) pe_int (nomark _)) (pw_and1 (pt_cmpR (r := rIn K false) op_in_seq (pe_ix (r := rIxL K) ix_list (pv 3) pe_int (fun _ _ => rfl)) (pe_tup (pa_cons pe_int (pa_cons pe_int pa_nil))) (by rfl)))))
      (pss_one (ps_expr (pe_bm PySem.F.plainAttrs_list PySem.F.slot_list_append PySem.F.type_list_append mt_append (pv 17) (pa_cons (pe_tup (pa_cons (pe_ix (r := rIxL K) ix_list (pv 14) (pe_op op_mod (pe_callTy call_int1 (by rfl) T.int bt_int (pa_cons (pe_ix (r := rIxL K) ix_list (pv 4) pe_int (fun _ _ => rfl)) pa_nil)) (pv 7)) (fun _ _ => rfl)) (pa_cons (pe_ix (r := rIxL K) ix_list (pv 10) (pe_op op_mod (pe_callTy call_int1 (by rfl) T.int bt_int (pa_cons (pe_ix (r := rIxL K) ix_list (pv 4) pe_int (fun _ _ => rfl)) pa_nil)) (pv 5)) (fun _ _ => rfl)) pa_nil))) pa_nil))))
      pss_nil)
    (pss_cons (ps_for PassesOwn.never rfl (pi_range2 (by rfl) T.range (pa_cons (pv 8) (pa_cons (pv 9) pa_nil))) (pg_name (i := 11) sc_law_twin.nd rfl (by first | exact Or.inl rfl | exact Or.inr rfl))
      (pss_one (ps_if (PW.pt (pw_and (pt_cmpR op_eq (pv 11) (pv 8) (nomark _)) (pw_and1 (pt_cmpR op_eq (pe_ix (r := rIxL K) ix_list (pv 3) pe_int (fun _ _ => rfl)) pe_int (nomark _)))))
          (pss_one (ps_expr (pe_bm PySem.F.plainAttrs_list PySem.F.slot_list_append PySem.F.type_list_append mt_append (pv 17) (pa_cons (pe_tup (pa_cons (pe_ix (r := rIxL K) ix_list (pv 14) (pe_op op_mod (pe_callTy call_int1 (by rfl) T.int bt_int (pa_cons (pe_ix (r := rIxL K) ix_list (pv 4) pe_int (fun _ _ => rfl)) pa_nil)) (pv 7)) (fun _ _ => rfl)) (pa_cons (pe_ix (r := rIxL K) ix_list (pv 10) (pv 11) (fun _ _ => rfl)) pa_nil))) pa_nil))))
          (pss_one (ps_if (pt_cmpR op_lt (pe_ix (r := rIxL K) ix_list (pv 4) pe_int (fun _ _ => rfl)) pe_int (nomark _))
              (pss_one (ps_expr (pe_bm PySem.F.plainAttrs_list PySem.F.slot_list_append PySem.F.type_list_append mt_append (pv 17) (pa_cons (pe_tup (pa_cons (pe_ix (r := rIxL K) ix_list (pv 10) (pv 11) (fun _ _ => rfl)) (pa_cons (pe_ix (r := rIxL K) ix_list (pv 10) (pe_op op_mod (pe_callTy call_int1 (by rfl) T.int bt_int (pa_cons (pe_ix (r := rIxL K) ix_list (pv 4) pe_int (fun _ _ => rfl)) pa_nil)) (pv 11)) (fun _ _ => rfl)) pa_nil))) pa_nil))))
              (pss_one (ps_expr (pe_bm PySem.F.plainAttrs_list PySem.F.slot_list_append PySem.F.type_list_append mt_append (pv 17) (pa_cons (pe_tup (pa_cons (pe_ix (r := rIxL K) ix_list (pv 10) (pe_op op_mod (pe_callTy call_int1 (by rfl) T.int bt_int (pa_cons (pe_ix (r := rIxL K) ix_list (pv 4) pe_int (fun _ _ => rfl)) pa_nil)) (pv 11)) (fun _ _ => rfl)) (pa_cons (pe_ix (r := rIxL K) ix_list (pv 10) (pv 11) (fun _ _ => rfl)) pa_nil))) pa_nil)))))))))
    (pss_one (ps_ret (pe_lst (pa_cons (pv 13) (pa_cons (pe_callB (cr_sortT (d := 2) (B := 64) (by decide)) (by rfl) T.sorted bt_sorted (pa_cons (pv 17) pa_nil)) pa_nil)))))))))))))))))))))))), ?_⟩
    refine k_asg (R := fun G v => ∃ ds, Dq G v (lN ds) ∧ Dg ds szW szW.length) (.refl e) (er_cellD (k := 0) (by decide) rfl hv (ev_var rfl) ?_ (by unfold szW; decide)) fun v3 G1 Ha n1 m1 hp1 => ?_
    · have h1 : ∀ n : Nat, EvD (tLst (tCons (tC (.int (n : Int))) tNil)) (start N_law_twin [v, .int 0, .int 1]) G (.list [eN n]) := fun n => ed_lst (ead_cons (.ofInt ev_c) ead_nil) (by simp [sizeLine])
      exact ed_cat (ed_cat (ed_lst (ead_ints [3, 3, 2, 4, 3, 6]) (by simp [sizeLine])) (ed_rep (k := 7) (h1 7) ev_c (by simp [sizeLine]) (by decide)) (by simp [sizeLine])) (ed_rep (k := 7) (h1 3) ev_c (by simp [sizeLine]) (by decide)) (by simp [sizeLine])
    obtain ⟨ds, hds, hD⟩ := hp1
    refine k_asg (R := fun G v => ∃ ds, Dq G v (lN ds) ∧ Dg ds szM szM.length) n1 (er_cellD (k := 1) (by decide) rfl (mono_sc _ _ _ m1.e2 hv) (ev_is (ev_add (ev_var rfl) ev_c) rfl) (ed_rep (k := 9) (ds := [eN 7]) (ed_lst (ead_cons (.ofInt ev_c) ead_nil) (by simp [sizeLine])) ev_c (by simp [sizeLine]) (by decide)) (by unfold szM; decide)) fun v4 G2 Hb n2 m2 hp2 => ?_
    obtain ⟨dm, hdm, hE⟩ := hp2
    have hds2 := hds.mono m2.e2
    have ln20 : ds.length = 20 := hD.ln
    have ln9 : dm.length = 9 := hE.ln
    have rp : ∀ {σ : L2.St} {H' : Hp} {i d : Nat} {te : TE}, Ex G2 H' → σ[3]? = some (some v3) → ds[i]? = some d → Ev te σ H' (.int (i : Int)) → Ev (tOp (rIxL K) (tVar 3) te) σ H' (.int (d : Int)) := fun eg h hi ht => EvD.int (ed_ixL (ed_var h (hds2.mono eg)) ht (by rw [List.getElem?_map, hi]; rfl))
    have rm : ∀ {σ : L2.St} {H' : Hp} {i d : Nat} {te : TE}, Ex G2 H' → σ[4]? = some (some v4) → dm[i]? = some d → Ev te σ H' (.int (i : Int)) → Ev (tOp (rIxL K) (tVar 4) te) σ H' (.int (d : Int)) := fun eg h hi ht => EvD.int (ed_ixL (ed_var h (hdm.mono eg)) ht (by rw [List.getElem?_map, hi]; rfl))
    obtain ⟨a0, ha0, l0⟩ := dg_at (j := 0) (s := 3) hD rfl
    obtain ⟨a1, ha1, l1⟩ := dg_at (j := 1) (s := 3) hD rfl
    obtain ⟨ap, ha2, l2⟩ := dg_at (j := 2) (s := 2) hD rfl
    obtain ⟨a3, ha3, l3⟩ := dg_at (j := 3) (s := 4) hD rfl
    obtain ⟨a4, ha4, l4⟩ := dg_at (j := 4) (s := 3) hD rfl
    obtain ⟨a5, ha5, l5⟩ := dg_at (j := 5) (s := 6) hD rfl
    obtain ⟨c0, hc0, _⟩ := dg_at (j := 0) (s := 7) hE rfl
    obtain ⟨c1, hc1, _⟩ := dg_at (j := 1) (s := 7) hE rfl
    obtain ⟨c2, hc2, _⟩ := dg_at (j := 2) (s := 7) hE rfl
    obtain ⟨c3, hc3, _⟩ := dg_at (j := 3) (s := 7) hE rfl
    obtain ⟨c4, hc4, _⟩ := dg_at (j := 4) (s := 7) hE rfl
    obtain ⟨c5, hc5, _⟩ := dg_at (j := 5) (s := 7) hE rfl
    obtain ⟨c6, hc6, _⟩ := dg_at (j := 6) (s := 7) hE rfl
    obtain ⟨c7, hc7, _⟩ := dg_at (j := 7) (s := 7) hE rfl
    -- the sizes
    obtain ⟨s, hs⟩ : ∃ s, s = 3 + a0 := ⟨_, rfl⟩
    have s3 : 3 ≤ s := by omega
    have s5 : s ≤ 5 := by omega
    refine k_asgV n2 (v := .int (s : Int)) (ev_is (ev_add ev_c (rp n2.e3 rfl ha0 ev_c)) (congrArg V.int (by omega))) fun Hc n3 e3 => ?_
    refine k_asgV n3 (rp n3.e3 rfl ha2 ev_c) fun Hd n4 e4 => ?_
    have hx : a1 % (s - 2) < s - 2 := Nat.mod_lt _ (by omega)
    obtain ⟨h, hh, h2, hle⟩ := short_of s3 s5 hx l2
    refine k_asgV n4 (v := .int (h : Int)) (ev_is (ev_min2 (ev_add ev_c (ev_modN (b := s - 2) (ev_int1 (rp n4.e3 rfl ha1 ev_c)) (ev_is (ev_sub (ev_var rfl) ev_c) (congrArg V.int (by omega))) (by omega))) (ev_sub (ev_sub ev_c (ev_var rfl)) (ev_var rfl))) (congrArg V.int hh)) fun He n5 e5 => ?_
    obtain ⟨o, ho⟩ : ∃ o, o = s - 1 + ap := ⟨_, rfl⟩
    obtain ⟨b, hb⟩ : ∃ b, b = o + h := ⟨_, rfl⟩
    have b7 : b ≤ 7 := by omega
    refine k_asgV n5 (v := .int (b : Int)) (ev_is (ev_add (ev_sub (ev_add (ev_var rfl) (ev_var rfl)) ev_c) (ev_var rfl)) (congrArg V.int (by omega))) fun Hf n6 e6 => ?_
    obtain ⟨n, hn, bn, n7⟩ := many_of (b := b) (z := if ((a3 : Int) / 3) > (a4 : Int) then (a3 : Int) / 3 else (a4 : Int)) b7 (by split <;> omega)
    refine k_asgV n6 (v := .int (n : Int)) (ev_is (ev_add (ev_var rfl) (ev_min2 (ev_max2 (rp n6.e3 rfl ha4 ev_c) (ev_div (rp n6.e3 rfl ha3 ev_c) ev_c (by decide) (by decide))) (ev_sub ev_c (ev_var rfl)))) (congrArg V.int hn)) fun Hg n7' e7 => ?_
    refine k_asg (R := Da (lN [])) n7' (ed_lst ead_nil (by simp [sizeLine])) fun v10 G8 Hh n8 m8 hv10 => ?_
    refine k_forR (m := n) n8 (ea_one (ev_var rfl)) (by omega) (fun k σ G' H' => ∃ (y11 y12 : Option V) (v10 : V) (L : List Nat), σ = [some v, some (.int 0), some (.int 1), some v3, some v4, some (.int (s : Int)), some (.int (ap : Int)), some (.int (h : Int)), some (.int (b : Int)), some (.int (n : Int)), some v10, y11, y12, none, none, none, none, none, none] ∧ Dq G' v10 (lN L) ∧ L.Perm (List.range k))
      (fun H' n' e' => ⟨_, _, v10, [], rfl, hv10, .refl _⟩) ?_ ?_
    · intro k σ' G' H' hk n' e' hw
      obtain ⟨y11, y12, v10, L, rfl, hL, pm⟩ := hw
      have lk : L.length = k := by rw [pm.length_eq, List.length_range]
      have hi : ds[6 + k]? = some (ds.getD (6 + k) 0) := by rw [List.getD_eq_getElem?_getD, List.getElem?_eq_getElem (by omega)]; rfl
      have hpl : ds.getD (6 + k) 0 % (k + 1) ≤ L.length := by rw [lk]; exact Nat.lt_succ_iff.mp (Nat.mod_lt _ (Nat.succ_pos k))
      refine k_asgV n' (ev_modN (ev_int1 (rp (m8.e2.trans (e'.trans n'.e3)) rfl hi (ev_is (ev_add ev_c (ev_var rfl)) rfl))) (ev_is (ev_add (ev_var rfl) ev_c) rfl) (Nat.succ_pos k)) fun H2 n2' e2' => ?_
      generalize ds.getD (6 + k) 0 % (k + 1) = pl at hpl
      refine l_asg (R := Da (lN (L.take pl ++ [k] ++ L.drop pl))) n2' ?_ fun v9' G8 H8 n8 m8 hv9' => ⟨G8, n8, e'.trans m8.e2, _, _, v9', _, rfl, hv9', Tm.ins_perm pm pl⟩
      show EvD _ _ _ (.list ((L.take pl ++ [k] ++ L.drop pl).map eN))
      rw [List.map_append, List.map_append]
      refine ed_cat (ed_cat (ed_to (ed_var rfl hL) (ev_var rfl) hpl) (ed_lst (ead_cons (.ofInt (ev_var rfl)) ead_nil) (by simp [sizeLine])) ?_) (ed_from (ed_var rfl hL) (ev_var rfl) hpl) ?_
      · rw [List.length_map, List.length_take]
        exact Nat.le_trans (show min pl L.length + 1 ≤ 8 by omega) (by decide)
      · rw [List.length_append, List.length_map, List.length_take, List.length_map, List.length_map, List.length_drop]
        exact Nat.le_trans (show min pl L.length + 1 + (L.length - pl) ≤ 16 by omega) (by decide)
    · intro σ' G9 H9 n9 e9 hw
      obtain ⟨y11, y12, v10, L, rfl, hL, pm⟩ := hw
      have oL := Tm.ord_of pm
      have lL := oL.ln
      have eG9 : Ex G2 G9 := m8.e2.trans e9
      have atL : ∀ {j : Nat}, j < n → L[j]? = some (L.getD j 0) ∧ L.getD j 0 < n := fun {j} hj => by
        have h1 : j < L.length := by omega
        rw [Tm.getD_at h1]
        exact ⟨List.getElem?_eq_getElem h1, oL.lt _ (List.getElem_mem h1)⟩
      -- the pegs
      refine k_asgF (ds := ((List.range n).map fun k => 1 + ds.getD (13 + k) 0).map eN) n9 ?_ fun pp G10 H10 xs n10 m10 gpp h1pp _ hpp dqp => ?_
      · rw [List.map_map]
        refine ef_mapR (m := n) _ (ea_one (ev_var rfl)) (by omega) fun k hk => turnF_name rfl et_yes fun _ => .ofInt ?_
        have hi : ds[13 + k]? = some (ds.getD (13 + k) 0) := by rw [List.getD_eq_getElem?_getD, List.getElem?_eq_getElem (by omega)]; rfl
        exact ev_is (ev_add (ev_var rfl) (rp eG9 rfl hi (ev_is (ev_add ev_c (ev_var rfl)) rfl))) (congrArg V.int (by show _ = ((1 + ds.getD (13 + k) 0 : Nat) : Int); omega))
      obtain ⟨pegs0, hpegs0, lp0, bp0⟩ : ∃ pegs0 : List Nat, xs = pegs0.map vN ∧ pegs0.length = n ∧ ∀ p ∈ pegs0, 1 ≤ p ∧ p ≤ 9 := by
        refine ⟨(List.range n).map fun k => 1 + ds.getD (13 + k) 0, ?_, by simp, fun p hp => ?_⟩
        · rw [map_eN] at dqp
          rw [dqp.intsE, List.map_map]; rfl
        · obtain ⟨k, hk, rfl⟩ := List.mem_map.mp hp
          have hk := List.mem_range.mp hk
          obtain ⟨d, hd, hlt⟩ := dg_at (j := 13 + k) (s := 3) hD (by
            have : ∀ k, k < 7 → szW[13 + k]? = some 3 := by decide
            exact this k (by omega))
          have : ds.getD (13 + k) 0 = d := by rw [List.getD_eq_getElem?_getD, hd]; rfl
          rw [this]; omega
      subst hpegs0
      clear dqp
      have hL10 := hL.mono m10.e2
      have eG10 := eG9.trans m10.e2
      -- the second ring, its heavy houses
      refine k_asg (R := Da (lN ((L.drop o).take (b - o)))) n10 (ed_mid (ed_var rfl hL10) (ev_is (ev_add (ev_sub (ev_var rfl) ev_c) (ev_var rfl)) (congrArg V.int (by omega))) (ev_var rfl) (by omega) (by omega)) fun v14 G11 H11 n11 m11 hS => ?_
      obtain ⟨S, eS⟩ : ∃ S, S = (L.drop o).take (b - o) := ⟨_, rfl⟩
      rw [← eS] at hS
      have hS : Dq G11 v14 (lN S) := hS
      have lS : S.length = h := by rw [eS, List.length_take, List.length_drop]; omega
      have atS : ∀ {j : Nat}, j < h → S[j]? = some (L.getD (o + j) 0) := fun {j} hj => by
        rw [eS, List.getElem?_take_of_lt (by omega), List.getElem?_drop]
        exact (atL (by omega)).1
      have gpp11 : G11 pp = none := m11.fr pp gpp (by rw [hpp]; simp)
      have hpp11 := m11.e1 _ _ hpp
      refine k_asg (R := Da (lN (S.drop (1 - ap)))) n11 (ed_from (ed_var rfl hS) (ev_is (ev_sub ev_c (ev_var rfl)) (congrArg V.int (by omega))) (by omega)) fun v15 G12 H12 n12 m12 hV => ?_
      have hS12 := hS.mono m12.e2
      have gpp12 : G12 pp = none := m12.fr pp gpp11 (by rw [hpp11]; simp)
      have hpp12 := m12.e1 _ _ hpp11
      have hL12 := hL10.mono (m11.e2.trans m12.e2)
      have eG12 : Ex G2 G12 := eG10.trans (m11.e2.trans m12.e2)
      obtain ⟨W, eW⟩ : ∃ W, W = S.drop (1 - ap) := ⟨_, rfl⟩
      rw [← eW] at hV
      have hV : Dq G12 v15 (lN W) := hV
      have lW : W.length = h - (1 - ap) := by rw [eW, List.length_drop, lS]
      have atW : ∀ {j : Nat}, j < W.length → ∃ x, W[j]? = some x ∧ x < n := fun {j} hj => by
        refine ⟨L.getD (o + (1 - ap + j)) 0, ?_, (atL (by omega)).2⟩
        rw [eW, List.getElem?_drop]
        exact atS (by omega)
      have hP12 : Dq H12 (.ref pp) (lN pegs0) := .mkL hpp12 (dqa_vN _)
      refine k_asgI n12 ⟨_, ev_sub (ev_sum (ns := (L.take s).map fun x => ((pegs0.getD x 0 : Nat) : Int)) ?_) (ev_op (ev_sub ev_c (ev_var rfl)) (EvD.int (ed_ixL (i := L.getD (o + 0) 0) (d := eN (pegs0.getD (L.getD (o + 0) 0) 0)) (ed_var rfl hP12) (EvD.int (ed_ixL (i := 0) (ed_var rfl (hS12.mono n12.e3)) ev_c (by rw [List.getElem?_map, atS (j := 0) (by omega)]; rfl))) ?_)) (rv_I (C := CMul) (.inl ⟨by omega, by omega⟩)))⟩ fun tot H13 n13 e13 => ?_
      · rw [List.map_map]
        refine ed_mapL (c := eN) (fun x => eN (pegs0.getD x 0)) (ed_to (ed_var rfl (hL12.mono n12.e3)) (ev_var rfl) (by omega)) (by rw [List.length_take]; omega) fun z x G' eg hz hx => ?_
        cases hx.intE
        have hzn : z < n := oL.lt z (List.mem_of_mem_take hz)
        exact turnF_name rfl et_yes fun _ => ed_ixL (i := z) (ed_var rfl (hP12.mono eg)) (ev_var rfl) (by rw [List.getElem?_map, List.getElem?_eq_getElem (by omega), Tm.getD_at (by omega)]; rfl)
      · have := (atL (j := o + 0) (by omega)).2
        generalize L.getD (o + 0) 0 = z at this
        rw [List.getElem?_map, List.getElem?_eq_getElem (by omega), Tm.getD_at (by omega)]; rfl
      refine k_forR (m := W.length) n13 (ea_one (ev_is (ev_lenL (ed_var rfl (hV.mono n13.e3))) (by rw [List.length_map]))) (by omega) (fun k σ G' H' => ∃ (y11 : Option V) (pegs : List Nat), σ = [some v, some (.int 0), some (.int 1), some v3, some v4, some (.int (s : Int)), some (.int (ap : Int)), some (.int (h : Int)), some (.int (b : Int)), some (.int (n : Int)), some v10, y11, y12, some (.ref pp), some v14, some v15, some (.int tot), none, none] ∧ G' pp = none ∧ H' pp = some (.lst (pegs.map vN)) ∧ pegs.length = n ∧ ∀ p ∈ pegs, 1 ≤ p ∧ p ≤ 9)
        (fun H' n' e' => ⟨_, pegs0, rfl, gpp12, e' _ _ (e13 _ _ hpp12), lp0, bp0⟩) ?_ ?_
      · intro k σ' G' H' hk n' e' hw
        obtain ⟨y11, pegs, rfl, gp', hp', lp, bp⟩ := hw
        obtain ⟨x, hxk, hxn⟩ := atW hk
        obtain ⟨cc, hcc⟩ : ∃ cc : Int, ([1, 2, 0 - 1, 0, 3, 1] : List Int)[a5]? = some cc := ⟨_, List.getElem?_eq_getElem (by simpa using l5)⟩
        obtain ⟨y, hy, y1, y9⟩ := peg_of ((tot + cc + (k : Int)) / ((W.length : Nat) : Int))
        have lW0 : 0 < W.length := by omega
        have lW8 : W.length ≤ 8 := by omega
        refine l_setL (R := Is (.int (y : Int))) (j := x) n' h1pp gp' hp' (.of (ev_is (ev_min2 ev_c (ev_max2 (ev_var rfl) (ev_div (ev_add (ev_add (ev_var rfl) (EvD.int (ed_ixL (i := a5) (ds := ([1, 2, 0 - 1, 0, 3, 1] : List Int).map PyData.int) (d := .int cc) (ed_lst (ead_cons (.ofInt ev_c) (ead_cons (.ofInt ev_c) (ead_cons (.ofInt (ev_sub ev_c ev_c)) (ead_cons (.ofInt ev_c) (ead_cons (.ofInt ev_c) (ead_cons (.ofInt ev_c) ead_nil)))))) (by simp [sizeLine])) (rp (eG12.trans e') rfl ha5 ev_c) (by rw [List.getElem?_map, hcc]; rfl)))) (ev_var rfl)) (ev_is (ev_lenL (ed_var rfl (hV.mono e'))) (by rw [List.length_map])) (by omega) (by omega)))) (congrArg V.int hy)))
          (ev_var rfl) (EvD.int (ed_ixL (i := k) (ed_var rfl (hV.mono (e'.trans n'.e3))) (ev_var rfl) (by rw [List.getElem?_map, hxk]; rfl))) (by rw [List.length_map]; omega) fun v5 G5 H5 n5 e5 fr5 _ hp5 hv5 => ?_
        cases hv5
        refine ⟨G5, n5, e'.trans e5, _, pegs.set x y, rfl, fr5 pp gp' (by rw [hp']; simp), by rw [hp5, List.map_set], by rw [List.length_set]; exact lp, fun p hp => ?_⟩
        rcases List.mem_or_eq_of_mem_set hp with c | c
        · exact bp p c
        · subst c; exact ⟨y1, y9⟩
      · intro σ' G' H' n' e' hw
        obtain ⟨y11, pegs, rfl, gp', hp', lp, bp⟩ := hw
        obtain ⟨nk, ek⟩ := n'.keep h1pp hp' gp'
        have hPg : Dq (upd G' pp (.lst (pegs.map vN))) (.ref pp) (lN pegs) := .mkL upd_same (dqa_vN pegs)
        generalize upd G' pp (.lst (pegs.map vN)) = G14 at nk ek hPg
        have eG14 : Ex G2 G14 := eG12.trans (e'.trans ek)
        have hL14 := hL12.mono (e'.trans ek)
        have hS14 := hS12.mono (e'.trans ek)
        -- the lanes of the rings
        have itL : ∀ {σ : L2.St} {Gx : Hp} {te : TE} {j : Nat}, Ex G14 Gx → σ[10]? = some (some v10) → j < n → Ev te σ Gx (.int (j : Int)) → EvD (tOp (rIxL K) (tVar 10) te) σ Gx (eN (L.getD j 0)) := fun eg h0 hj ht => ed_ixL (ed_var h0 (hL14.mono eg)) ht (by rw [List.getElem?_map, (atL hj).1]; rfl)
        have itS : ∀ {σ : L2.St} {Gx : Hp} {te : TE} {j : Nat}, Ex G14 Gx → σ[14]? = some (some v14) → j < h → Ev te σ Gx (.int (j : Int)) → EvD (tOp (rIxL K) (tVar 14) te) σ Gx (eN (L.getD (o + j) 0)) := fun eg h0 hj ht => ed_ixL (ed_var h0 (hS14.mono eg)) ht (by rw [List.getElem?_map, atS hj]; rfl)
        refine k_asg (R := Da (lP ((Tm.ringP 0 s).map (Tm.atP L)))) nk ?_ fun v17 G15 H15 n15 m15 hR1 => ?_
        · show EvD _ _ _ (.list (((Tm.ringP 0 s).map (Tm.atP L)).map ePr))
          unfold Tm.ringP
          rw [List.map_map, List.map_map]
          refine ed_mapR (m := s) _ (ea_one (ev_var rfl)) (by omega) fun k hk => turnF_name rfl et_yes fun _ => ?_
          have hm : (k + 1) % s < s := Nat.mod_lt _ (by omega)
          show EvD _ _ _ (ePr (L.getD (0 + k) 0, L.getD (0 + (k + 1) % s) 0))
          rw [Nat.zero_add, Nat.zero_add]
          exact ed_tup (ead_cons (itL (.refl _) rfl (by omega) (ev_var rfl)) (ead_cons (itL (.refl _) rfl (by omega) (ev_modN (ev_int1 (ev_is (ev_add (ev_var rfl) ev_c) rfl)) (ev_var rfl) (by omega))) ead_nil)) (by simp [sizeLine])
        refine k_asgF (ds := ((Tm.ringP 0 s ++ Tm.ringP o h).map (Tm.atP L)).map ePr) n15 ?_ fun p G16 H16 xs16 n16 m16 gp h1p _ hp dq16 => ?_
        · rw [List.map_append, List.map_append]
          have ln1 : (Tm.ringP 0 s).length = s := by unfold Tm.ringP; simp
          have ln2 : (Tm.ringP o h).length = h := by unfold Tm.ringP; simp
          refine ef_cat (ed_var rfl hR1) ?_ (by rw [List.length_map, List.length_map, List.length_map, List.length_map, ln1, ln2]; exact Nat.le_trans (show s + h ≤ 16 by omega) (by decide))
          unfold Tm.ringP
          rw [List.map_map, List.map_map]
          refine ed_mapR (m := h) _ (ea_one (ev_var rfl)) (by omega) fun k hk => turnF_name rfl et_yes fun _ => ?_
          have hm : (k + 1) % h < h := Nat.mod_lt _ (by omega)
          show EvD _ _ _ (ePr (L.getD (o + k) 0, L.getD (o + (k + 1) % h) 0))
          exact ed_tup (ead_cons (itS m15.e2 rfl hk (ev_var rfl)) (ead_cons (itS m15.e2 rfl hm (ev_modN (ev_int1 (ev_is (ev_add (ev_var rfl) ev_c) rfl)) (ev_var rfl) (by omega))) ead_nil)) (by simp [sizeLine])
        have e16 : Ex G14 G16 := m15.e2.trans m16.e2
        have eG16 : Ex G2 G16 := eG14.trans e16
        have la0 : Tm.LA b (Tm.ringP 0 s ++ Tm.ringP o h) := by rw [hb]; exact Tm.two_rings (by omega) h2 (by omega)
        have sz : ∀ {I : List (Nat × Nat)} {m : Nat} {xs : List V} {Gx : Hp}, Tm.LA m I → m ≤ 7 → DqA Gx xs ((I.map (Tm.atP L)).map ePr) → xs.length < sizeLine := fun la hm hq => by
          rw [hq.len, List.length_map, List.length_map]
          exact Nat.lt_of_le_of_lt (la.len hm) (by decide)
        have snoc : ∀ {I : List (Nat × Nat)} {xs : List V} {Gx Gy : Hp} {v : V} {z : Nat × Nat}, DqA Gx xs ((I.map (Tm.atP L)).map ePr) → Ex Gx Gy → Dq Gy v (ePr (Tm.atP L z)) → DqA Gy (xs ++ [v]) (((I ++ [z]).map (Tm.atP L)).map ePr) := fun {I xs Gx Gy v z} hq ex hv => by
          rw [List.map_append (l₂ := [z]), List.map_append (l₂ := [z].map (Tm.atP L))]
          exact (hq.mono ex).snoc hv
        have x0 : c0 % s < s := Nat.mod_lt _ (by omega)
        have x3 : c3 % s < s := Nat.mod_lt _ (by omega)
        have x1 : c1 % h < h := Nat.mod_lt _ (by omega)
        have x2 : c2 % h < h := Nat.mod_lt _ (by omega)
        have x4 : c4 % h < h := Nat.mod_lt _ (by omega)
        refine k_whenApp (R := Da (ePr (Tm.atP L (c0 % s, o + c1 % h)))) (b := decide (ap = 1) && !decide (a3 = 2)) n16 h1p gp hp (et_and (et_is (et_test (ev_op (ev_var rfl) ev_c (rv_eq rfl))) (eq_natB ap 1)) fun _ => et_is (et_test (ev_op (rp (eG16.trans n16.e3) rfl ha3 ev_c) ev_c (rv_ne rfl))) (congrArg Bool.not (eq_natB a3 2))) (fun _ => ev_var rfl)
          (fun _ => ed_tup (ead_cons (itL e16 rfl (by omega) (ev_modN (ev_int1 (rm eG16 rfl hc0 ev_c)) (ev_var rfl) (by omega))) (ead_cons (itS e16 rfl x1 (ev_modN (ev_int1 (rm eG16 rfl hc1 ev_c)) (ev_var rfl) (by omega))) ead_nil)) (by simp [sizeLine])) (sz la0 b7 dq16) fun G17 H17 ys17 n17 e17 gp17 hp17 or17 => ?_
        obtain ⟨I1, dq17, la1, sd1⟩ : ∃ I, DqA G17 ys17 ((I.map (Tm.atP L)).map ePr) ∧ Tm.LA b I ∧ (ap = 1 → ∀ p ∈ I, p.1 < s ∨ s ≤ p.2) := by
          rcases or17 with ⟨_, rfl⟩ | ⟨hbt, v17', rfl, hv17⟩
          · exact ⟨_, dq16.mono e17, la0, fun hap => by
              have : o = s := by omega
              rw [this]; exact Tm.rings_side (by omega) h2⟩
          · rw [Bool.and_eq_true, decide_eq_true_eq] at hbt
            have hos : o = s := by omega
            refine ⟨_, snoc dq16 e17 hv17, ?_, fun _ p hp => ?_⟩
            · rw [hb, hos]; exact Tm.link1 (by omega) h2 x0 x1
            · rcases List.mem_append.mp hp with c | c
              · rw [hos] at c; exact Tm.rings_side (by omega) h2 p c
              · rw [List.mem_singleton.mp c]; exact .inl x0
        have eG17 := eG16.trans e17
        have e417 := e16.trans e17
        refine k_whenApp (R := Da (ePr (Tm.atP L (o + c2 % h, c3 % s)))) (b := decide (ap = 1) && decide (a3 ∈ [1, 2])) n17 h1p gp17 hp17 (et_and (et_is (et_test (ev_op (ev_var rfl) ev_c (rv_eq rfl))) (eq_natB ap 1)) fun _ => et_test (ev_inT (neg := false) (ns := [1, 2]) (rp (eG17.trans n17.e3) rfl ha3 ev_c) (ed_tup (ead_ints [1, 2]) (by simp [sizeLine])))) (fun _ => ev_var rfl)
          (fun _ => ed_tup (ead_cons (itS e417 rfl x2 (ev_modN (ev_int1 (rm eG17 rfl hc2 ev_c)) (ev_var rfl) (by omega))) (ead_cons (itL e417 rfl (by omega) (ev_modN (ev_int1 (rm eG17 rfl hc3 ev_c)) (ev_var rfl) (by omega))) ead_nil)) (by simp [sizeLine])) (sz la1 b7 dq17) fun G18 H18 ys18 n18 e18 gp18 hp18 or18 => ?_
        obtain ⟨I2, dq18, la2⟩ : ∃ I, DqA G18 ys18 ((I.map (Tm.atP L)).map ePr) ∧ Tm.LA b I := by
          rcases or18 with ⟨_, rfl⟩ | ⟨hbt, v18', rfl, hv18⟩
          · exact ⟨_, dq17.mono e18, la1⟩
          · rw [Bool.and_eq_true, decide_eq_true_eq] at hbt
            have hos : o = s := by omega
            refine ⟨_, snoc dq17 e18 hv18, ?_⟩
            rw [hos]
            exact Tm.link2 la1 (sd1 hbt.1) (by omega) x3 x2
        have eG18 := eG17.trans e18
        have e418 := e417.trans e18
        refine k_forR2 (lo := b) (m := n) n18 (ea_cons (ev_var rfl) (ea_one (ev_var rfl))) (by omega) bn (fun k σ G' H' => ∃ (y11 : Option V) (I : List (Nat × Nat)) (xs : List V), σ = [some v, some (.int 0), some (.int 1), some v3, some v4, some (.int (s : Int)), some (.int (ap : Int)), some (.int (h : Int)), some (.int (b : Int)), some (.int (n : Int)), some v10, y11, y12, some (.ref pp), some v14, some v15, some (.int tot), some (.ref p), none] ∧ G' p = none ∧ H' p = some (.lst xs) ∧ DqA G' xs ((I.map (Tm.atP L)).map ePr) ∧ Tm.LA k I)
          (fun H' n' e' => ⟨_, I2, ys18, rfl, gp18, e' _ _ hp18, dq18, la2⟩) ?_ ?_
        · intro k σ' G19 H19 hbk hkn n19 e19 hw
          obtain ⟨y11, I, xs, rfl, gp19, hp19, dq19, la⟩ := hw
          have eG19 := eG18.trans e19
          have e419 := e418.trans e19
          have x5 : c5 % k < k := Nat.mod_lt _ (by omega)
          have x6 : c6 % k < k := Nat.mod_lt _ (by omega)
          have fin : ∀ {G20 H20 : Hp} {v20 : V} {z : Nat × Nat} {ys : List V}, Nx G H1 G20 H20 → Ex G19 G20 → G20 p = none → H20 p = some (.lst (xs ++ [v20])) → Dq G20 v20 (ePr (Tm.atP L z)) → Tm.LA (k + 1) (I ++ [z]) → DqA G20 (xs ++ [v20]) (((I ++ [z]).map (Tm.atP L)).map ePr) := fun n20 e20 g20 h20 hv20 _ => snoc dq19 e20 hv20
          refine l_ifX n19 (xt_and ⟨_, et_test (ev_op (ev_var rfl) (ev_var rfl) (rv_eq rfl))⟩ ⟨_, et_test (ev_op (rp (eG19.trans n19.e3) rfl ha3 ev_c) ev_c (rv_eq rfl))⟩) (fun H20 n20 e20 => ?_) fun H20 n20 e20 => l_ifX n20 ⟨_, et_test (ev_op (rm (eG19.trans n20.e3) rfl hc7 ev_c) ev_c rv_I0)⟩ (fun H21 n21 e21 => ?_) fun H21 n21 e21 => ?_
          · refine l_app (R := Da (ePr (Tm.atP L (o + c4 % h, k)))) n20 h1p gp19 (e20 _ _ hp19) (ev_var rfl) (ed_tup (ead_cons (itS e419 rfl x4 (ev_modN (ev_int1 (rm eG19 rfl hc4 ev_c)) (ev_var rfl) (by omega))) (ead_cons (itL e419 rfl hkn (ev_var rfl)) ead_nil)) (by simp [sizeLine])) (sz la (by omega) dq19) fun v22 G22 H22 n22 e22 fr22 _ hp22 hv22 => ?_
            exact ⟨G22, n22, e19.trans e22, _, _, _, rfl, fr22 p gp19 (by rw [e20 _ _ hp19]; simp), hp22, snoc dq19 e22 hv22, la.new2 (by omega)⟩
          · refine l_app (R := Da (ePr (Tm.atP L (k, c5 % k)))) n21 h1p gp19 (e21 _ _ (e20 _ _ hp19)) (ev_var rfl) (ed_tup (ead_cons (itL e419 rfl hkn (ev_var rfl)) (ead_cons (itL e419 rfl (by omega) (ev_modN (ev_int1 (rm eG19 rfl hc5 ev_c)) (ev_var rfl) (by omega))) ead_nil)) (by simp [sizeLine])) (sz la (by omega) dq19) fun v22 G22 H22 n22 e22 fr22 _ hp22 hv22 => ?_
            exact ⟨G22, n22, e19.trans e22, _, _, _, rfl, fr22 p gp19 (by rw [e21 _ _ (e20 _ _ hp19)]; simp), hp22, snoc dq19 e22 hv22, la.new1 x5⟩
          · refine l_app (R := Da (ePr (Tm.atP L (c6 % k, k)))) n21 h1p gp19 (e21 _ _ (e20 _ _ hp19)) (ev_var rfl) (ed_tup (ead_cons (itL e419 rfl (by omega) (ev_modN (ev_int1 (rm eG19 rfl hc6 ev_c)) (ev_var rfl) (by omega))) (ead_cons (itL e419 rfl hkn (ev_var rfl)) ead_nil)) (by simp [sizeLine])) (sz la (by omega) dq19) fun v22 G22 H22 n22 e22 fr22 _ hp22 hv22 => ?_
            exact ⟨G22, n22, e19.trans e22, _, _, _, rfl, fr22 p gp19 (by rw [e21 _ _ (e20 _ _ hp19)]; simp), hp22, snoc dq19 e22 hv22, la.new2 x6⟩
        · intro σ' G19 H19 n19 e19 hw
          obtain ⟨y11, I, xs, rfl, gp19, hp19, dq19, la⟩ := hw
          obtain ⟨n20, e20⟩ := n19.keep h1p hp19 gp19
          have hP20 : Dq (upd G19 p (.lst xs)) (.ref p) (lP (I.map (Tm.atP L))) := .mkL upd_same (dq19.mono e20)
          have lb := Tm.LA.atP oL la
          refine k_ret n20 q (er_town (n := n) (pegs := pegs) (ed_var rfl (hPg.mono (e418.trans (e19.trans e20)))) ((er_sort (ed_var rfl hP20) lb.nd (fun z hz => by have := lb.b z hz; omega) (by have := lb.len n7; omega)).imp fun G9 v9 _ ⟨es, pm, pw, hd⟩ => ⟨es, pw, fun z hz => lb.b z (pm.mem_iff.mp hz), hd⟩) lp (by omega) n7 bp) rfl
end
end Lw
namespace Lw
open PySem PySem.Spec PyProof.Rows L2 Evl Dl Hd He Hr Xr
theorem bw {K : PySem.W.Frag} {x qual : Str} {st : Stmt} {f : Addr} {fd : FuncData} {ps : List Str} (F : Fun K x qual st f fd)
    (h : ∀ (kV doc pm : Value) (an : Option Addr) (cdv ct : Value) (us : List Value), us.length = ps.length → bindArgs (PySem.W.fnOf x qual (defArgs st) (defBody st) (defScope st) .none kV doc pm an cdv ct) ⟨us, []⟩ = pure (ps.zip us)) : ∀ us : List Value, us.length = ps.length → bindArgs fd ⟨us, []⟩ = pure (ps.zip us) := by
  obtain ⟨oc, od, kV, doc, pm, an, cdv, ct, osl, rfl, lk, hcd⟩ := F.ex
  exact h kV doc pm an cdv ct
theorem tx_of {K : PySem.W.Frag} {h : Heap} {mg : Str → Option Value} (X : K.In h) (G : h.Ns mainGlobals mg) (c : SaysX K) : Tx K mg := by
  obtain ⟨x1, x2⟩ := ba c.xbs
  obtain ⟨x2, x3⟩ := ba x2
  obtain ⟨x3, x4⟩ := ba x3
  exact { isinstance := free_ok X G (c.fact 41 (f := .free "isinstance"))
          tuple := free_ok X G (c.fact 42 (f := .free "tuple"))
          list := free_ok X G (c.fact 43 (f := .free "list"))
          int := free_ok X G (c.fact 44 (f := .free "int"))
          bool := free_ok X G (c.fact 45 (f := .free "bool"))
          sorted := free_ok X G (c.fact 46 (f := .free "sorted"))
          set := free_ok X G (c.fact 47 (f := .free "set"))
          len := free_ok X G (c.fact 48 (f := .free "len"))
          range := free_ok X G (c.fact 49 (f := .free "range"))
          all := free_ok X G (c.fact 50 (f := .free "all"))
          enumerate := free_ok X G (c.fact 51 (f := .free "enumerate"))
          min := free_ok X G (c.fact 52 (f := .free "min"))
          max := free_ok X G (c.fact 53 (f := .free "max"))
          sum := free_ok X G (c.fact 54 (f := .free "sum"))
          heapify := bltB_ok X G x2
          heappop := bltB_ok X G x3
          heappush := bltB_ok X G x4
          cl := cls_ok (c.fact 34 (f := .cls "Street"))
          mkS := mkr_ok (c.fact 35 (f := .mkr "Street"))
          gS := glo_ok X G (c.fact 33 (f := .glo "Street"))
          n1 := noat_ok (c.fact 36 (f := .noat "Street" "pegs"))
          n2 := noat_ok (c.fact 37 (f := .noat "Street" "lanes"))
          n3 := noat_ok (c.fact 38 (f := .noat "Street" "to_lists"))
          n4 := noat_ok (c.fact 39 (f := .noat "Street" "from_lists"))
          ml := meth_ok (c.fact 40 (f := .meth "Street" "lends_to"))
          pr := propB_ok x1 }
theorem lawfacts {P : Program} {w : World} {K : PySem.W.Frag} {h : Heap} {mg : Str → Option Value} {f : Addr} (X : K.In h) (G : h.Ns mainGlobals mg) (hfa : mg ("law" : Str) = some (.ref f)) (c : SaysX K) :
    ∃ fd : FuncData, (∀ (s : Shared) (v : Value), BindsTo s fd ⟨[v], []⟩ [("_law_script", v)]) ∧ ∀ base : Heap, K.In base → base.Ns mainGlobals mg → FnOk P w K mg base CX0 12 f fd ["_law_script"] (spLaw K) := by
  have T : Tx K mg := tx_of X G c
  have e := hfa.symm.trans (glo_ok X G (c.fact 32 (f := .glo "law")))
  cases e
  obtain ⟨d_law_build, F_law_build⟩ := c.def_ 24 (d := ⟨fun K => ga K "_law_build", "_law_build", "_law_build", s_law_build⟩)
  obtain ⟨d_law_cell, F_law_cell⟩ := c.def_ 17 (d := ⟨fun K => ga K "_law_cell", "_law_cell", "_law_cell", s_law_cell⟩)
  obtain ⟨d_law_digits, F_law_digits⟩ := c.def_ 18 (d := ⟨fun K => ga K "_law_digits", "_law_digits", "_law_digits", s_law_digits⟩)
  obtain ⟨d_law_whole, F_law_whole⟩ := c.def_ 16 (d := ⟨fun K => ga K "_law_whole", "_law_whole", "_law_whole", s_law_whole⟩)
  obtain ⟨d_law_items, F_law_items⟩ := c.def_ 30 (d := ⟨fun K => ga K "_law_items", "_law_items", "_law_items", s_law_items⟩)
  obtain ⟨d_law_weight, F_law_weight⟩ := c.def_ 27 (d := ⟨fun K => ga K "_law_weight", "_law_weight", "_law_weight", s_law_weight⟩)
  obtain ⟨d_law_lightest, F_law_lightest⟩ := c.def_ 31 (d := ⟨fun K => ga K "_law_lightest", "_law_lightest", "_law_lightest", s_law_lightest⟩)
  obtain ⟨d_law_ahead, F_law_ahead⟩ := c.def_ 22 (d := ⟨fun K => ga K "_law_ahead", "_law_ahead", "_law_ahead", s_law_ahead⟩)
  obtain ⟨d_law_opened, F_law_opened⟩ := c.def_ 23 (d := ⟨fun K => ga K "_law_opened", "_law_opened", "_law_opened", s_law_opened⟩)
  obtain ⟨d_law_rings, F_law_rings⟩ := c.def_ 25 (d := ⟨fun K => ga K "_law_rings", "_law_rings", "_law_rings", s_law_rings⟩)
  obtain ⟨d_law_says, F_law_says⟩ := c.def_ 28 (d := ⟨fun K => ga K "_law_says", "_law_says", "_law_says", s_law_says⟩)
  obtain ⟨d_law_spur, F_law_spur⟩ := c.def_ 26 (d := ⟨fun K => ga K "_law_spur", "_law_spur", "_law_spur", s_law_spur⟩)
  obtain ⟨d_law_sums, F_law_sums⟩ := c.def_ 29 (d := ⟨fun K => ga K "_law_sums", "_law_sums", "_law_sums", s_law_sums⟩)
  obtain ⟨d_law_lanes, F_law_lanes⟩ := c.def_ 19 (d := ⟨fun K => ga K "_law_lanes", "_law_lanes", "_law_lanes", s_law_lanes⟩)
  obtain ⟨d_law_town, F_law_town⟩ := c.def_ 20 (d := ⟨fun K => ga K "_law_town", "_law_town", "_law_town", s_law_town⟩)
  obtain ⟨d_law_twin, F_law_twin⟩ := c.def_ 21 (d := ⟨fun K => ga K "_law_twin", "_law_twin", "_law_twin", s_law_twin⟩)
  obtain ⟨d_sums_from, F_sums_from⟩ := c.def_ 10 (d := ⟨fun K => ga K "sums_from", "sums_from", "sums_from", s_sums_from⟩)
  obtain ⟨d_ring_sums, F_ring_sums⟩ := c.def_ 11 (d := ⟨fun K => ga K "ring_sums", "ring_sums", "ring_sums", s_ring_sums⟩)
  obtain ⟨d_houses_ahead, F_houses_ahead⟩ := c.def_ 3 (d := ⟨fun K => ga K "houses_ahead", "houses_ahead", "houses_ahead", s_houses_ahead⟩)
  obtain ⟨d_strong_parts, F_strong_parts⟩ := c.def_ 4 (d := ⟨fun K => ga K "strong_parts", "strong_parts", "strong_parts", s_strong_parts⟩)
  obtain ⟨d_is_bare, F_is_bare⟩ := c.def_ 5 (d := ⟨fun K => ga K "is_bare", "is_bare", "is_bare", s_is_bare⟩)
  obtain ⟨d_spurred_parts, F_spurred_parts⟩ := c.def_ 6 (d := ⟨fun K => ga K "spurred_parts", "spurred_parts", "spurred_parts", s_spurred_parts⟩)
  obtain ⟨d_fewest_tools, F_fewest_tools⟩ := c.def_ 12 (d := ⟨fun K => ga K "fewest_tools", "fewest_tools", "fewest_tools", s_fewest_tools⟩)
  obtain ⟨d_frozen, F_frozen⟩ := c.def_ 0 (d := ⟨fun K => ga K "frozen", "frozen", "frozen", s_frozen⟩)
  obtain ⟨d_is_at_most, F_is_at_most⟩ := c.def_ 7 (d := ⟨fun K => ga K "is_at_most", "is_at_most", "is_at_most", s_is_at_most⟩)
  obtain ⟨d_is_sum_row, F_is_sum_row⟩ := c.def_ 8 (d := ⟨fun K => ga K "is_sum_row", "is_sum_row", "is_sum_row", s_is_sum_row⟩)
  obtain ⟨d_is_sum_table, F_is_sum_table⟩ := c.def_ 9 (d := ⟨fun K => ga K "is_sum_table", "is_sum_table", "is_sum_table", s_is_sum_table⟩)
  obtain ⟨d_shows_fewest, F_shows_fewest⟩ := c.def_ 13 (d := ⟨fun K => ga K "shows_fewest", "shows_fewest", "shows_fewest", s_shows_fewest⟩)
  obtain ⟨d_law, F_law⟩ := c.def_ 32 (d := ⟨fun K => ga K "law", "law", "law", s_law⟩)
  obtain ⟨d_is_number, F_is_number⟩ := c.def_ 1 (d := ⟨fun K => ga K "is_number", "is_number", "is_number", s_is_number⟩)
  obtain ⟨d_check_pegs, F_check_pegs⟩ := c.def_ 14 (d := ⟨fun K => ga K "check_pegs", "check_pegs", "check_pegs", s_check_pegs⟩)
  obtain ⟨d_check_lanes, F_check_lanes⟩ := c.def_ 15 (d := ⟨fun K => ga K "check_lanes", "check_lanes", "check_lanes", s_check_lanes⟩)
  obtain ⟨d_ascending, F_ascending⟩ := c.def_ 2 (d := ⟨fun K => ga K "ascending", "ascending", "ascending", s_ascending⟩)
  obtain ⟨d_init, F_init⟩ := c.def_ 33 (d := ⟨fun K => ma K (ga K "Street") "__init__", "__init__", "Street.__init__", s_init⟩)
  obtain ⟨d_houses, F_houses⟩ := c.def_ 34 (d := ⟨gAd, "houses", "Street.houses", s_houses⟩)
  obtain ⟨d_lends, F_lends⟩ := c.def_ 35 (d := ⟨fun K => ma K (ga K "Street") "lends_to", "lends_to", "Street.lends_to", s_lends⟩)
  have B_law := (bw (ps := ["_law_script"]) F_law fun _ _ _ _ _ _ us hl => match us, hl with | [_], _ => rfl)
  refine ⟨d_law, fun s v => .of_eq (B_law [v] rfl), fun base _ _ => ?_⟩
  have Ch : Cam P w K mg base 1 (gAd K) ["self"] (spHouses K) := ⟨d_houses, .all (bw (ps := ["self"]) F_houses fun _ _ _ _ _ _ us hl => match us, hl with | [_], _ => rfl), ok_houses F_houses T⟩
  have Cl : Cam P w K mg base 1 (ma K (cS K) "lends_to") ["self", "house"] (spLends K) := ⟨d_lends, .all (bw (ps := ["self", "house"]) F_lends fun _ _ _ _ _ _ us hl => match us, hl with | [_, _], _ => rfl), ok_lends F_lends T⟩
  have C_frozen : Cal P w K mg base 3 "frozen" ["value"] (spFrozen 2) := ⟨ga K "frozen", d_frozen, (glo_ok X G (c.fact 0 (f := .glo "frozen"))), F_frozen.kp, (.all (bw (ps := ["value"]) F_frozen fun _ _ _ _ _ _ us hl => match us, hl with | [_], _ => rfl)), ok_frozen F_frozen T (glo_ok X G (c.fact 0 (f := .glo "frozen"))) (.all (bw (ps := ["value"]) F_frozen fun _ _ _ _ _ _ us hl => match us, hl with | [_], _ => rfl)) 2⟩
  have C_is_number : Cal P w K mg base 1 "is_number" ["value"] spWhole := ⟨ga K "is_number", d_is_number, (glo_ok X G (c.fact 1 (f := .glo "is_number"))), F_is_number.kp, (.all (bw (ps := ["value"]) F_is_number fun _ _ _ _ _ _ us hl => match us, hl with | [_], _ => rfl)), ok_number F_is_number T⟩
  have C_check_pegs : Cal P w K mg base 2 "check_pegs" ["pegs"] spChkP := ⟨ga K "check_pegs", d_check_pegs, (glo_ok X G (c.fact 14 (f := .glo "check_pegs"))), F_check_pegs.kp, (.all (bw (ps := ["pegs"]) F_check_pegs fun _ _ _ _ _ _ us hl => match us, hl with | [_], _ => rfl)), ok_check_pegs F_check_pegs T C_is_number⟩
  have C_check_lanes : Cal P w K mg base 2 "check_lanes" ["houses", "lanes"] spChkL := ⟨ga K "check_lanes", d_check_lanes, (glo_ok X G (c.fact 15 (f := .glo "check_lanes"))), F_check_lanes.kp, (.all (bw (ps := ["houses", "lanes"]) F_check_lanes fun _ _ _ _ _ _ us hl => match us, hl with | [_, _], _ => rfl)), ok_check_lanes F_check_lanes T⟩
  have C_ascending : Cal P w K mg base 1 "ascending" ["values"] spAsc := ⟨ga K "ascending", d_ascending, (glo_ok X G (c.fact 2 (f := .glo "ascending"))), F_ascending.kp, (.all (bw (ps := ["values"]) F_ascending fun _ _ _ _ _ _ us hl => match us, hl with | [_], _ => rfl)), ok_ascending F_ascending T⟩
  have Ci : Cam P w K mg base 4 (ma K (cS K) "__init__") ["self", "pegs", "lanes"] (spInit K) := ⟨d_init, .all (bw (ps := ["self", "pegs", "lanes"]) F_init fun _ _ _ _ _ _ us hl => match us, hl with | [_, _, _], _ => rfl), ok_init F_init T C_frozen C_check_pegs C_check_lanes C_ascending⟩
  have C_law_build : Cal P w K mg base 6 "_law_build" ["_law_street"] (spBuild K) := ⟨ga K "_law_build", d_law_build, (glo_ok X G (c.fact 24 (f := .glo "_law_build"))), F_law_build.kp, (.all (bw (ps := ["_law_street"]) F_law_build fun _ _ _ _ _ _ us hl => match us, hl with | [_], _ => rfl)), ok_build F_law_build T Ci⟩
  have C_law_cell : Cal P w K mg base 1 "_law_cell" ["_law_script", "_law_k"] (spCell K) := ⟨ga K "_law_cell", d_law_cell, (glo_ok X G (c.fact 17 (f := .glo "_law_cell"))), F_law_cell.kp, (.all (bw (ps := ["_law_script", "_law_k"]) F_law_cell fun _ _ _ _ _ _ us hl => match us, hl with | [_, _], _ => rfl)), ok_cell F_law_cell T⟩
  have C_law_digits : Cal P w K mg base 1 "_law_digits" ["_law_cell_here", "_law_sizes"] spDigits := ⟨ga K "_law_digits", d_law_digits, (glo_ok X G (c.fact 18 (f := .glo "_law_digits"))), F_law_digits.kp, (.all (bw (ps := ["_law_cell_here", "_law_sizes"]) F_law_digits fun _ _ _ _ _ _ us hl => match us, hl with | [_, _], _ => rfl)), ok_digits F_law_digits T⟩
  have C_law_whole : Cal P w K mg base 1 "_law_whole" ["_law_value"] spWhole := ⟨ga K "_law_whole", d_law_whole, (glo_ok X G (c.fact 16 (f := .glo "_law_whole"))), F_law_whole.kp, (.all (bw (ps := ["_law_value"]) F_law_whole fun _ _ _ _ _ _ us hl => match us, hl with | [_], _ => rfl)), ok_whole F_law_whole T⟩
  have C_law_items : Cal P w K mg base 2 "_law_items" ["_law_table"] spItems := ⟨ga K "_law_items", d_law_items, (glo_ok X G (c.fact 30 (f := .glo "_law_items"))), F_law_items.kp, (.all (bw (ps := ["_law_table"]) F_law_items fun _ _ _ _ _ _ us hl => match us, hl with | [_], _ => rfl)), ok_items F_law_items T C_law_whole⟩
  have C_law_weight : Cal P w K mg base 1 "_law_weight" ["_law_street", "_law_ring"] spWeight := ⟨ga K "_law_weight", d_law_weight, (glo_ok X G (c.fact 27 (f := .glo "_law_weight"))), F_law_weight.kp, (.all (bw (ps := ["_law_street", "_law_ring"]) F_law_weight fun _ _ _ _ _ _ us hl => match us, hl with | [_, _], _ => rfl)), ok_weight F_law_weight T⟩
  have C_law_lightest : Cal P w K mg base 2 "_law_lightest" ["_law_street", "_law_found"] spLight := ⟨ga K "_law_lightest", d_law_lightest, (glo_ok X G (c.fact 31 (f := .glo "_law_lightest"))), F_law_lightest.kp, (.all (bw (ps := ["_law_street", "_law_found"]) F_law_lightest fun _ _ _ _ _ _ us hl => match us, hl with | [_, _], _ => rfl)), ok_lightest F_law_lightest T C_law_weight⟩
  have C_law_ahead : Cal P w K mg base 1 "_law_ahead" ["_law_street", "_law_house"] spLAhead := ⟨ga K "_law_ahead", d_law_ahead, (glo_ok X G (c.fact 22 (f := .glo "_law_ahead"))), F_law_ahead.kp, (.all (bw (ps := ["_law_street", "_law_house"]) F_law_ahead fun _ _ _ _ _ _ us hl => match us, hl with | [_, _], _ => rfl)), ok_lahead F_law_ahead T⟩
  have C_law_opened : Cal P w K mg base 2 "_law_opened" ["_law_street", "_law_one", "_law_two"] spOpened := ⟨ga K "_law_opened", d_law_opened, (glo_ok X G (c.fact 23 (f := .glo "_law_opened"))), F_law_opened.kp, (.all (bw (ps := ["_law_street", "_law_one", "_law_two"]) F_law_opened fun _ _ _ _ _ _ us hl => match us, hl with | [_, _, _], _ => rfl)), ok_opened F_law_opened T C_law_ahead⟩
  have C_law_rings : Cal P w K mg base 1 "_law_rings" ["_law_street"] spRingL := ⟨ga K "_law_rings", d_law_rings, (glo_ok X G (c.fact 25 (f := .glo "_law_rings"))), F_law_rings.kp, (.all (bw (ps := ["_law_street"]) F_law_rings fun _ _ _ _ _ _ us hl => match us, hl with | [_], _ => rfl)), ok_rings F_law_rings T⟩
  have C_law_says : Cal P w K mg base 1 "_law_says" ["_law_told", "_law_due"] spSays := ⟨ga K "_law_says", d_law_says, (glo_ok X G (c.fact 28 (f := .glo "_law_says"))), F_law_says.kp, (.all (bw (ps := ["_law_told", "_law_due"]) F_law_says fun _ _ _ _ _ _ us hl => match us, hl with | [_, _], _ => rfl)), ok_says F_law_says T⟩
  have C_law_spur : Cal P w K mg base 1 "_law_spur" ["_law_street", "_law_ring"] spSpur := ⟨ga K "_law_spur", d_law_spur, (glo_ok X G (c.fact 26 (f := .glo "_law_spur"))), F_law_spur.kp, (.all (bw (ps := ["_law_street", "_law_ring"]) F_law_spur fun _ _ _ _ _ _ us hl => match us, hl with | [_, _], _ => rfl)), ok_spur F_law_spur T⟩
  have C_law_sums : Cal P w K mg base 1 "_law_sums" ["_law_pegs", "_law_lanes_here", "_law_start"] spLSums := ⟨ga K "_law_sums", d_law_sums, (glo_ok X G (c.fact 29 (f := .glo "_law_sums"))), F_law_sums.kp, (.all (bw (ps := ["_law_pegs", "_law_lanes_here", "_law_start"]) F_law_sums fun _ _ _ _ _ _ us hl => match us, hl with | [_, _, _], _ => rfl)), ok_lsums F_law_sums T⟩
  have C_law_lanes : Cal P w K mg base 1 "_law_lanes" ["_law_order", "_law_plan", "_law_cuts", "_law_digits_here"] spLanes := ⟨ga K "_law_lanes", d_law_lanes, (glo_ok X G (c.fact 19 (f := .glo "_law_lanes"))), F_law_lanes.kp, (.all (bw (ps := ["_law_order", "_law_plan", "_law_cuts", "_law_digits_here"]) F_law_lanes fun _ _ _ _ _ _ us hl => match us, hl with | [_, _, _, _], _ => rfl)), ok_lanes F_law_lanes T⟩
  have C_law_town : Cal P w K mg base 2 "_law_town" ["_law_script", "_law_at", "_law_least"] (spMake K) := ⟨ga K "_law_town", d_law_town, (glo_ok X G (c.fact 20 (f := .glo "_law_town"))), F_law_town.kp, (.all (bw (ps := ["_law_script", "_law_at", "_law_least"]) F_law_town fun _ _ _ _ _ _ us hl => match us, hl with | [_, _, _], _ => rfl)), ok_town F_law_town T C_law_cell C_law_digits C_law_lanes⟩
  have C_law_twin : Cal P w K mg base 2 "_law_twin" ["_law_script", "_law_at", "_law_least"] (spMake K) := ⟨ga K "_law_twin", d_law_twin, (glo_ok X G (c.fact 21 (f := .glo "_law_twin"))), F_law_twin.kp, (.all (bw (ps := ["_law_script", "_law_at", "_law_least"]) F_law_twin fun _ _ _ _ _ _ us hl => match us, hl with | [_, _, _], _ => rfl)), ok_twin F_law_twin T C_law_cell C_law_digits⟩
  have C_sums_from : Cal P w K mg base 3 "sums_from" ["street", "start"] (spSums K) := ⟨ga K "sums_from", d_sums_from, (glo_ok X G (c.fact 10 (f := .glo "sums_from"))), F_sums_from.kp, (.all (bw (ps := ["street", "start"]) F_sums_from fun _ _ _ _ _ _ us hl => match us, hl with | [_, _], _ => rfl)), ok_sums F_sums_from T Ch Cl⟩
  have C_ring_sums : Cal P w K mg base 4 "ring_sums" ["street"] (spRings K) := ⟨ga K "ring_sums", d_ring_sums, (glo_ok X G (c.fact 11 (f := .glo "ring_sums"))), F_ring_sums.kp, (.all (bw (ps := ["street"]) F_ring_sums fun _ _ _ _ _ _ us hl => match us, hl with | [_], _ => rfl)), ok_ring_sums F_ring_sums T C_sums_from Ch⟩
  have C_houses_ahead : Cal P w K mg base 1 "houses_ahead" ["street", "house"] (spAhead K) := ⟨ga K "houses_ahead", d_houses_ahead, (glo_ok X G (c.fact 3 (f := .glo "houses_ahead"))), F_houses_ahead.kp, (.all (bw (ps := ["street", "house"]) F_houses_ahead fun _ _ _ _ _ _ us hl => match us, hl with | [_, _], _ => rfl)), ok_ahead F_houses_ahead T⟩
  have C_strong_parts : Cal P w K mg base 3 "strong_parts" ["street"] (spParts K) := ⟨ga K "strong_parts", d_strong_parts, (glo_ok X G (c.fact 4 (f := .glo "strong_parts"))), F_strong_parts.kp, (.all (bw (ps := ["street"]) F_strong_parts fun _ _ _ _ _ _ us hl => match us, hl with | [_], _ => rfl)), ok_parts F_strong_parts T C_houses_ahead Ch⟩
  have C_is_bare : Cal P w K mg base 3 "is_bare" ["street", "part"] (spBare K) := ⟨ga K "is_bare", d_is_bare, (glo_ok X G (c.fact 5 (f := .glo "is_bare"))), F_is_bare.kp, (.all (bw (ps := ["street", "part"]) F_is_bare fun _ _ _ _ _ _ us hl => match us, hl with | [_, _], _ => rfl)), ok_bare F_is_bare T Cl⟩
  have C_spurred_parts : Cal P w K mg base 4 "spurred_parts" ["street"] (spSpurred K) := ⟨ga K "spurred_parts", d_spurred_parts, (glo_ok X G (c.fact 6 (f := .glo "spurred_parts"))), F_spurred_parts.kp, (.all (bw (ps := ["street"]) F_spurred_parts fun _ _ _ _ _ _ us hl => match us, hl with | [_], _ => rfl)), ok_spurred F_spurred_parts T C_strong_parts C_is_bare⟩
  have C_fewest_tools : Cal P w K mg base 5 "fewest_tools" ["street"] (spFew K) := ⟨ga K "fewest_tools", d_fewest_tools, (glo_ok X G (c.fact 12 (f := .glo "fewest_tools"))), F_fewest_tools.kp, (.all (bw (ps := ["street"]) F_fewest_tools fun _ _ _ _ _ _ us hl => match us, hl with | [_], _ => rfl)), ok_fewest F_fewest_tools T C_ring_sums C_spurred_parts⟩
  have C_is_at_most : Cal P w K mg base 1 "is_at_most" ["item", "bound"] spAtMost := ⟨ga K "is_at_most", d_is_at_most, (glo_ok X G (c.fact 7 (f := .glo "is_at_most"))), F_is_at_most.kp, (.all (bw (ps := ["item", "bound"]) F_is_at_most fun _ _ _ _ _ _ us hl => match us, hl with | [_, _], _ => rfl)), ok_is_at_most F_is_at_most ⟩
  have C_is_sum_row : Cal P w K mg base 2 "is_sum_row" ["street", "house", "row"] (spRow K) := ⟨ga K "is_sum_row", d_is_sum_row, (glo_ok X G (c.fact 8 (f := .glo "is_sum_row"))), F_is_sum_row.kp, (.all (bw (ps := ["street", "house", "row"]) F_is_sum_row fun _ _ _ _ _ _ us hl => match us, hl with | [_, _, _], _ => rfl)), ok_row F_is_sum_row T C_is_at_most⟩
  have C_is_sum_table : Cal P w K mg base 4 "is_sum_table" ["street", "table"] (spTable K) := ⟨ga K "is_sum_table", d_is_sum_table, (glo_ok X G (c.fact 9 (f := .glo "is_sum_table"))), F_is_sum_table.kp, (.all (bw (ps := ["street", "table"]) F_is_sum_table fun _ _ _ _ _ _ us hl => match us, hl with | [_, _], _ => rfl)), ok_table F_is_sum_table T C_frozen C_is_sum_row⟩
  have C_shows_fewest : Cal P w K mg base 5 "shows_fewest" ["street", "count", "table"] (spShows K) := ⟨ga K "shows_fewest", d_shows_fewest, (glo_ok X G (c.fact 13 (f := .glo "shows_fewest"))), F_shows_fewest.kp, (.all (bw (ps := ["street", "count", "table"]) F_shows_fewest fun _ _ _ _ _ _ us hl => match us, hl with | [_, _, _], _ => rfl)), ok_shows F_shows_fewest T C_frozen C_is_sum_table C_spurred_parts⟩
  exact ok_law F_law T C_law_build C_law_cell C_law_digits C_law_items C_law_lightest C_law_opened C_law_rings C_law_says C_law_spur C_law_sums C_law_town C_law_twin C_law_whole C_fewest_tools C_is_sum_table C_ring_sums C_shows_fewest
end Lw
set_option maxHeartbeats 0
open PySem PySem.W PySem.Calls PyProof.Rows
theorem PySem.Challenge.cw_pegstreet_k62_fewest_tools_whole_holds : PySem.Challenge.rw_pegstreet_k62_fewest_tools_whole.Holds := by
  w_on; o_law
  refine HeadRun.head_imp (r := OpenLaw.row PySem.Challenge.rw_pegstreet_k62_fewest_tools_whole) (q := view (OpenLaw.row PySem.Challenge.rw_pegstreet_k62_fewest_tools_whole).prog [0, 45]) (H := Hd.hk) (ob := Hd.ob) (M := 20000) (loose := Hd.loose1 ++ Hd.loose2) (d := HandSHeadRun.topDef (OpenLaw.row PySem.Challenge.rw_pegstreet_k62_fewest_tools_whole).prog 45) (kwd := []) Hd.ob_eq
    Hd.run (by kernel_rfl) (by kernel_rfl) (by kernel_rfl) (by rfl) (by first | assumption | decide +kernel) (by decide +kernel) ⟨rfl, rfl, rfl, rfl, rfl, by decide +kernel⟩ ?hw ?hc
  case hw => w_witness2
  case hc =>
    refine L2.walk_ofE (l := PySem.Challenge.rw_pegstreet_k62_fewest_tools_whole) (n := 63) (k := 12) (x := "_law_script") (CX := L2.CX0) rfl (by decide) (by kernel_rfl) ⟨by decide, by decide, by decide⟩ ?F (fun _ _ _ _ z => z)
    intro w mg fa h Y G hmg0
    obtain ⟨K, KX, c⟩ := Y
    have hmg : mg ("law" : PySem.Str) = some (.ref fa) := by
      have e : (HandSHeadRun.topDef (OpenLaw.row PySem.Challenge.rw_pegstreet_k62_fewest_tools_whole).prog 45).name = ("law" : PySem.Str) := by kernel_rfl
      rw [← e]
      exact hmg0
    obtain ⟨fd, hb, hF⟩ := Lw.lawfacts (P := (PySem.Challenge.rw_pegstreet_k62_fewest_tools_whole).prog) (w := w) KX G hmg c
    exact ⟨K, fd, Lw.spLaw K, KX, hb, fun H a ns hl _ hS => ⟨ns, H, .ref a, rfl, Evl.Ex.refl _, trivial, ⟨a, rfl, hS⟩, fun v _ _ _ r => r⟩, hF⟩
