import PyProof.Rows.All
import Wide.All
import OpenK.AllK
import Wide.FinOn
import HandS.ForMost
import HandS.Wide
import HandS.Star
import HandS.Style
import HandS.Deep
import HandS.IsInst
import HandS.Flow
import HandS.Codes
import HandS.Walk
import KE.GoesEnum
import PySem.Challenge.RW_rowsinplace_k29_whole_least_solutions
set_option Elab.async false
set_option linter.all false
set_option maxRecDepth 100000
/-! Plain mathematics: systems of bounds on differences, relaxing them in passes, chains of causes, rings. No program here. -/
namespace K29

/-- the number u is at most the number v plus c -/
structure Bd (N : Type) where
  u : N
  v : N
  c : Int

section
variable {N : Type}

def Keeps (E : List (Bd N)) (s : N → Int) : Prop := ∀ b, b ∈ E → s b.u ≤ s b.v + b.c
def Sol (z : N) (E : List (Bd N)) (s : N → Int) : Prop := s z = 0 ∧ Keeps E s

/-- pigeons -/
theorem pigeon {l : List N} {f : Nat → N} {m : Nat} (hl : l.length ≤ m) (h : ∀ i, i ≤ m → f i ∈ l) : ∃ i j, i < j ∧ j ≤ m ∧ f i = f j := by
  classical
  by_cases q : ∃ i j, i < j ∧ j ≤ m ∧ f i = f j
  · exact q
  · exfalso
    have nd : ((List.range (m + 1)).map f).Nodup := by
      rw [List.Nodup, List.pairwise_map]
      refine List.Pairwise.imp_of_mem ?_ (List.pairwise_lt_range (n := m + 1))
      intro a b ha hb hab e
      have hb' := List.mem_range.mp hb
      exact q ⟨a, b, hab, by omega, e⟩
    have sub : ((List.range (m + 1)).map f) ⊆ l := by
      intro x hx
      obtain ⟨i, hi, rfl⟩ := List.mem_map.mp hx
      exact h i (by have := List.mem_range.mp hi; omega)
    have := nd.length_le_of_subset sub
    rw [List.length_map, List.length_range] at this
    omega

/-! ### chains of causes -/
/-- the name behind n -/
def nx (cz : N → Option (Bd N)) (n : N) : N := match cz n with
  | some b => b.u
  | none => n
def it (cz : N → Option (Bd N)) : Nat → N → N
  | 0, n => n
  | k + 1, n => nx cz (it cz k n)
theorem nx_some {cz : N → Option (Bd N)} {n : N} {b : Bd N} (h : cz n = some b) : nx cz n = b.u := by
  unfold nx
  rw [h]
theorem it_add (cz : N → Option (Bd N)) (a r : Nat) (n : N) : it cz (a + r) n = it cz r (it cz a n) := by
  induction r with
  | zero => rfl
  | succ r ih =>
    show nx cz (it cz (a + r) n) = nx cz (it cz r (it cz a n))
    rw [ih]
theorem it_one (cz : N → Option (Bd N)) (r : Nat) (n : N) : it cz (r + 1) n = it cz r (nx cz n) := by
  rw [Nat.add_comm, it_add]
  rfl
theorem it_shift {cz : N → Option (Bd N)} {a b : Nat} {n : N} (e : it cz a n = it cz b n) (r : Nat) : it cz (a + r) n = it cz (b + r) n := by
  rw [it_add, it_add, e]

/-- a walk from z of at most k bounds, its worth w -/
inductive Wk (z : N) (E : List (Bd N)) : Nat → N → Int → Prop
  | base (k : Nat) : Wk z E k z 0
  | step {k : Nat} {b : Bd N} {w : Int} : b ∈ E → Wk z E k b.u w → Wk z E (k + 1) b.v (w - b.c)
theorem Wk.more {z : N} {E : List (Bd N)} {k : Nat} {n : N} {w : Int} (h : Wk z E k n w) : Wk z E (k + 1) n w := by
  induction h with
  | base k => exact .base _
  | step hb _ ih => exact .step hb ih
theorem Wk.mono {z : N} {E : List (Bd N)} {k j : Nat} {n : N} {w : Int} (h : Wk z E k n w) (hj : k ≤ j) : Wk z E j n w := by
  induction hj with
  | refl => exact h
  | step _ ih => exact ih.more

/-- what holds of a system's state at every moment. z: zero; nm: the names; E: the bounds; val: the values; cz: the causes; t: when a name was last changed, T: now -/
structure SI (z : N) (nm : List N) (E : List (Bd N)) (val : N → Int) (cz : N → Option (Bd N)) (t : N → Nat) (T : Nat) : Prop where
  zin : z ∈ nm
  ends : ∀ b, b ∈ E → b.u ∈ nm ∧ b.v ∈ nm ∧ b.u ≠ b.v
  nonneg : ∀ n, 0 ≤ val n
  has : ∀ n, n ∈ nm → n ≠ z → ∃ b, cz n = some b
  isE : ∀ n b, cz n = some b → b ∈ E ∧ b.v = n
  le : ∀ n b, cz n = some b → val n ≤ val b.u - b.c
  lt : ∀ n b, cz n = some b → t n < t b.u → val n < val b.u - b.c
  inj : ∀ m n, t m = t n → m = n ∨ t m = 0
  ini : ∀ n b, cz n = some b → t n = 0 → b.u = z ∧ n ≠ z
  root : cz z = none → val z = 0
  top : ∀ n, t n ≤ T
  below : ∀ s, Sol z E s → ∀ n, n ∈ nm → val n ≤ s n

/-- the causes ahead of the first pass -/
theorem SI.start [DecidableEq N] {z : N} {nm : List N} {E : List (Bd N)} {cz : N → Option (Bd N)} (zin : z ∈ nm) (ends : ∀ b, b ∈ E → b.u ∈ nm ∧ b.v ∈ nm ∧ b.u ≠ b.v)
    (lows : ∀ n, n ∈ nm → n ≠ z → cz n = some ⟨z, n, 0⟩ ∧ (⟨z, n, 0⟩ : Bd N) ∈ E) (noz : ∀ n, cz n ≠ none → n ∈ nm ∧ n ≠ z) : SI z nm E (fun _ => 0) cz (fun _ => 0) 0 where
  zin := zin
  ends := ends
  nonneg := fun _ => Int.le_refl 0
  has := fun n h1 h2 => ⟨_, (lows n h1 h2).1⟩
  isE := fun n b h => by
    obtain ⟨h1, h2⟩ := noz n (by rw [h]; exact fun q => nomatch q)
    obtain ⟨e, m⟩ := lows n h1 h2
    rw [h] at e
    cases e
    exact ⟨m, rfl⟩
  le := fun n b h => by
    obtain ⟨h1, h2⟩ := noz n (by rw [h]; exact fun q => nomatch q)
    obtain ⟨e, m⟩ := lows n h1 h2
    rw [h] at e
    cases e
    exact Int.le_refl 0
  lt := fun n b _ h => absurd h (Nat.lt_irrefl 0)
  inj := fun _ _ _ => .inr rfl
  ini := fun n b h _ => by
    obtain ⟨h1, h2⟩ := noz n (by rw [h]; exact fun q => nomatch q)
    obtain ⟨e, m⟩ := lows n h1 h2
    rw [h] at e
    cases e
    exact ⟨rfl, h2⟩
  root := fun _ => rfl
  top := fun _ => Nat.le_refl 0
  below := fun s h n hn => by
    by_cases e : n = z
    · rw [e, h.1]
      exact Int.le_refl 0
    · have q := h.2 _ (lows n hn e).2
      show 0 ≤ s n
      have q : s z ≤ s n + 0 := q
      rw [h.1] at q
      omega

/-- a function changed at one place -/
def put [DecidableEq N] {β : Type} (f : N → β) (n : N) (y : β) : N → β := fun m => if m = n then y else f m
theorem put_same [DecidableEq N] {β : Type} {f : N → β} {n : N} {y : β} : put f n y n = y := by
  unfold put
  rw [if_pos rfl]
theorem put_ne [DecidableEq N] {β : Type} {f : N → β} {n m : N} {y : β} (h : m ≠ n) : put f n y m = f m := by
  unfold put
  rw [if_neg h]

section
variable [DecidableEq N] {z : N} {nm : List N} {E : List (Bd N)} {val : N → Int} {cz : N → Option (Bd N)} {t : N → Nat} {T : Nat}
/-- a bound that does not hold raises the value of its v -/
theorem SI.relax (S : SI z nm E val cz t T) {b : Bd N} (hb : b ∈ E) (h : val b.v < val b.u - b.c) : SI z nm E (put val b.v (val b.u - b.c)) (put cz b.v (some b)) (put t b.v (T + 1)) (T + 1) := by
  obtain ⟨hu, hv, hne⟩ := S.ends b hb
  have up : ∀ n, val n ≤ put val b.v (val b.u - b.c) n := fun n => by
    by_cases e : n = b.v
    · rw [e, put_same]; omega
    · rw [put_ne e]; exact Int.le_refl _
  refine ⟨S.zin, S.ends, fun n => Int.le_trans (S.nonneg n) (up n), fun n h1 h2 => ?_, fun n d h1 => ?_, fun n d h1 => ?_, fun n d h1 h2 => ?_, fun m n h1 => ?_, fun n d h1 h2 => ?_, fun h1 => ?_, fun n => ?_, fun s hs n hn => ?_⟩
  · by_cases e : n = b.v
    · exact ⟨b, by rw [e, put_same]⟩
    · rw [put_ne e]; exact S.has n h1 h2
  · by_cases e : n = b.v
    · rw [e, put_same] at h1
      cases h1
      exact ⟨hb, e.symm⟩
    · rw [put_ne e] at h1
      exact S.isE n d h1
  · by_cases e : n = b.v
    · rw [e, put_same] at h1
      cases h1
      rw [e, put_same, put_ne hne]
      exact Int.le_refl _
    · rw [put_ne e] at h1 ⊢
      have q := S.le n d h1
      have q2 := up d.u
      omega
  · by_cases e : n = b.v
    · rw [e, put_same] at h1
      cases h1
      rw [e, put_same, put_ne hne] at h2
      have := S.top b.u
      omega
    · rw [put_ne e] at h1 h2 ⊢
      by_cases e2 : d.u = b.v
      · rw [e2, put_same]
        have q := S.le n d h1
        rw [e2] at q
        omega
      · rw [put_ne e2] at h2 ⊢
        exact S.lt n d h1 h2
  · by_cases e : m = b.v
    · by_cases e2 : n = b.v
      · exact .inl (e.trans e2.symm)
      · rw [e, put_same, put_ne e2] at h1
        have := S.top n
        omega
    · by_cases e2 : n = b.v
      · rw [e2, put_same, put_ne e] at h1
        have := S.top m
        omega
      · rw [put_ne e, put_ne e2] at h1
        rw [put_ne e]
        exact S.inj m n h1
  · by_cases e : n = b.v
    · rw [e, put_same] at h2
      omega
    · rw [put_ne e] at h1 h2
      exact S.ini n d h1 h2
  · by_cases e : z = b.v
    · rw [e, put_same] at h1
      cases h1
    · rw [put_ne e] at h1 ⊢
      exact S.root h1
  · by_cases e : n = b.v
    · rw [e, put_same]; exact Nat.le_refl _
    · rw [put_ne e]; exact Nat.le_succ_of_le (S.top n)
  · by_cases e : n = b.v
    · rw [e, put_same]
      have q1 := S.below s hs b.u hu
      have q2 := hs.2 b hb
      omega
    · rw [put_ne e]; exact S.below s hs n hn

theorem it_mem (S : SI z nm E val cz t T) {n : N} (hn : n ∈ nm) : ∀ k, it cz k n ∈ nm
  | 0 => hn
  | k + 1 => by
    have ih := it_mem S hn k
    show nx cz (it cz k n) ∈ nm
    unfold nx
    cases e : cz (it cz k n) with
    | none => exact ih
    | some b => exact (S.ends b (S.isE _ b e).1).1

/-- the sum of the causes' c along a chain -/
def cs (cz : N → Option (Bd N)) (n : N) : Nat → Int
  | 0 => 0
  | k + 1 => cs cz n k + (match cz (it cz k n) with | some b => b.c | none => 0)
theorem cs_le (S : SI z nm E val cz t T) {n : N} : ∀ m, (∀ i, i < m → cz (it cz i n) ≠ none) → val n ≤ val (it cz m n) - cs cz n m
  | 0, _ => by
    show val n ≤ val n - 0
    omega
  | m + 1, h => by
    have ih := cs_le S m fun i hi => h i (by omega)
    cases e : cz (it cz m n) with
    | none => exact absurd e (h m (by omega))
    | some b =>
      have q := S.le _ b e
      show val n ≤ val (nx cz (it cz m n)) - (cs cz n m + (match cz (it cz m n) with | some b => b.c | none => 0))
      rw [nx_some e, e]
      show val n ≤ val b.u - (cs cz n m + b.c)
      omega
theorem cs_lt (S : SI z nm E val cz t T) {n : N} : ∀ m, (∀ i, i < m → cz (it cz i n) ≠ none) → (∃ i, i < m ∧ t (it cz i n) < t (it cz (i + 1) n)) → val n < val (it cz m n) - cs cz n m
  | 0, _, h => by
    obtain ⟨i, hi, _⟩ := h
    omega
  | m + 1, h, hx => by
    have ih1 := cs_le S m fun i hi => h i (by omega)
    cases e : cz (it cz m n) with
    | none => exact absurd e (h m (by omega))
    | some b =>
      have q := S.le _ b e
      have g : val n < val b.u - (cs cz n m + b.c) := by
        obtain ⟨i, hi, ht⟩ := hx
        by_cases him : i = m
        · subst him
          have ht : t (it cz i n) < t (nx cz (it cz i n)) := ht
          rw [nx_some e] at ht
          have q2 := S.lt _ b e ht
          omega
        · have ih2 := cs_lt S m (fun i hi => h i (by omega)) ⟨i, by omega, ht⟩
          omega
      show val n < val (nx cz (it cz m n)) - (cs cz n m + (match cz (it cz m n) with | some b => b.c | none => 0))
      rw [nx_some e, e]
      exact g
/-- a closed chain of causes has a sum below zero -/
theorem cycle_neg (S : SI z nm E val cz t T) {n : N} {m : Nat} (hm : 0 < m) (h : ∀ i, i < m → cz (it cz i n) ≠ none) (hc : it cz m n = n) : cs cz n m < 0 := by
  classical
  by_cases hx : ∃ i, i < m ∧ t (it cz i n) < t (it cz (i + 1) n)
  · have q := cs_lt S m h hx
    rw [hc] at q
    omega
  · exfalso
    have dn : ∀ i, i ≤ m → t (it cz i n) ≤ t n := fun i => by
      induction i with
      | zero => intro _; exact Nat.le_refl _
      | succ i ih =>
        intro hi
        have q := ih (by omega)
        have q2 : ¬ t (it cz i n) < t (it cz (i + 1) n) := fun z => hx ⟨i, by omega, z⟩
        omega
    have up : ∀ i, i ≤ m → t n ≤ t (it cz (m - i) n) := fun i => by
      induction i with
      | zero =>
        intro _
        rw [Nat.sub_zero, hc]
        exact Nat.le_refl _
      | succ i ih =>
        intro hi
        have q := ih (by omega)
        have q2 : ¬ t (it cz (m - (i + 1)) n) < t (it cz (m - (i + 1) + 1) n) := fun z => hx ⟨m - (i + 1), by omega, z⟩
        rw [show m - (i + 1) + 1 = m - i by omega] at q2
        omega
    have e1 : t (it cz 1 n) = t n := by
      have a := dn 1 hm
      have b := up (m - 1) (by omega)
      rw [show m - (m - 1) = 1 by omega] at b
      omega
    cases e : cz n with
    | none => exact h 0 hm e
    | some b =>
      have hx1 : it cz 1 n = b.u := nx_some e
      have hbe := S.isE n b e
      have hne := (S.ends b hbe.1).2.2
      rcases S.inj _ _ e1 with q | q
      · rw [hx1] at q
        exact hne (q.trans hbe.2.symm)
      · have t0 : t n = 0 := by omega
        have z1 := (S.ini n b e t0).1
        -- the next one has a cause, too
        have c1 : cz (it cz 1 n) ≠ none := by
          by_cases hm1 : m = 1
          · rw [hm1] at hc
            rw [hc, e]
            exact fun q => nomatch q
          · exact h 1 (by omega)
        cases e2 : cz (it cz 1 n) with
        | none => exact c1 e2
        | some d =>
          have z2 := (S.ini _ d e2 q).2
          exact z2 (hx1.trans z1)

/-- the chain from n comes to z in k steps, and z has no cause -/
def Rooted (z : N) (cz : N → Option (Bd N)) (k : Nat) (n : N) : Prop := it cz k n = z ∧ cz z = none ∧ ∀ j, j < k → cz (it cz j n) ≠ none
theorem Rooted.unique {j k : Nat} {n : N} (a : Rooted z cz j n) (b : Rooted z cz k n) : j = k := by
  rcases Nat.lt_trichotomy j k with h | h | h
  · exact absurd (by rw [a.1]; exact a.2.1) (b.2.2 j h)
  · exact h
  · exact absurd (by rw [b.1]; exact b.2.1) (a.2.2 k h)
theorem Rooted.short (S : SI z nm E val cz t T) {k : Nat} {n : N} (hn : n ∈ nm) (a : Rooted z cz k n) : k + 1 ≤ nm.length := by
  rcases Nat.lt_or_ge k nm.length with h | h
  · exact h
  · exfalso
    obtain ⟨i, j, hij, hj, e⟩ := pigeon (f := fun i => it cz i n) h fun i _ => it_mem S hn i
    have e2 := it_shift (r := k - j) e
    rw [show j + (k - j) = k by omega, a.1] at e2
    exact absurd (by rw [e2]; exact a.2.1) (a.2.2 (i + (k - j)) (by omega))
/-- the chain of a name that is not rooted goes on for ever -/
theorem caused (S : SI z nm E val cz t T) {n : N} (hn : n ∈ nm) (h : ∀ k, ¬ Rooted z cz k n) : ∀ j, cz (it cz j n) ≠ none := by
  have all : ∀ j, ∀ i, i < j → cz (it cz i n) ≠ none := fun j => by
    induction j with
    | zero =>
      intro i hi
      omega
    | succ j ih =>
      intro i hi
      by_cases e : i = j
      · subst e
        intro hz
        have ez : it cz i n = z := by
          by_cases q : it cz i n = z
          · exact q
          · obtain ⟨b, hb⟩ := S.has _ (it_mem S hn i) q
            rw [hz] at hb
            cases hb
        exact h i ⟨ez, by rw [ez] at hz; exact hz, ih⟩
      · exact ih i (by omega)
  exact fun j => all (j + 1) j (by omega)
/-- a rooted name has a walk that is worth its value at least -/
theorem Rooted.walk (S : SI z nm E val cz t T) : ∀ (k : Nat) (n : N), Rooted z cz k n → ∃ w, Wk z E k n w ∧ val n ≤ w
  | 0, n, a => by
    have e : n = z := a.1
    refine ⟨0, by rw [e]; exact .base 0, ?_⟩
    rw [e, S.root a.2.1]
    exact Int.le_refl 0
  | k + 1, n, a => by
    cases e : cz n with
    | none => exact absurd e (a.2.2 0 (by omega))
    | some b =>
      have r : Rooted z cz k b.u := by
        have h1 := a.1
        rw [it_one, nx_some e] at h1
        refine ⟨h1, a.2.1, fun j hj => ?_⟩
        have q := a.2.2 (j + 1) (by omega)
        rw [it_one, nx_some e] at q
        exact q
      obtain ⟨w, hw, hv⟩ := Rooted.walk S k b.u r
      obtain ⟨hE, hbv⟩ := S.isE n b e
      have q := S.le n b e
      refine ⟨w - b.c, ?_, by omega⟩
      rw [← hbv]
      exact .step hE hw

/-! ### passes -/
/-- behind k passes -/
def Done (z : N) (E : List (Bd N)) (k : Nat) (val : N → Int) : Prop := ∀ n w, Wk z E k n w → w ≤ val n
theorem done0 {val : N → Int} (h : ∀ n, 0 ≤ val n) : Done z E 0 val := fun n w hw => by
  cases hw with
  | base => exact h z
theorem done_next {val0 val1 : N → Int} {k : Nat} (d : Done z E k val0) (h0 : ∀ n, 0 ≤ val1 n) (h : ∀ b, b ∈ E → val0 b.u - b.c ≤ val1 b.v) : Done z E (k + 1) val1 := fun n w hw => by
  cases hw with
  | base => exact h0 z
  | step hb hw' =>
    have q1 := d _ _ hw'
    have q2 := h _ hb
    omega
/-- within a pass: val0 ahead of it; the bounds of the list did are done; last: the last name changed -/
structure Pass (val0 val : N → Int) (did : List (Bd N)) (last : Option N) : Prop where
  up : ∀ n, val0 n ≤ val n
  did : ∀ b, b ∈ did → val0 b.u - b.c ≤ val b.v
  same : last = none → ∀ n, val n = val0 n
  chg : ∀ v, last = some v → val0 v < val v
theorem Pass.start (val0 : N → Int) : Pass val0 val0 [] none := ⟨fun _ => Int.le_refl _, fun _ h => (nomatch h), fun _ _ => rfl, fun _ h => (nomatch h)⟩
theorem Pass.keep {val0 : N → Int} {did : List (Bd N)} {last : Option N} (p : Pass val0 val did last) {b : Bd N} (h : ¬ val b.v < val b.u - b.c) : Pass val0 val (did ++ [b]) last := by
  refine ⟨p.up, fun d hd => ?_, p.same, p.chg⟩
  rcases List.mem_append.mp hd with q | q
  · exact p.did d q
  · have e : d = b := List.mem_singleton.mp q
    subst e
    have := p.up d.u
    omega
theorem Pass.put {val0 : N → Int} {did : List (Bd N)} {last : Option N} (p : Pass val0 val did last) {b : Bd N} (h : val b.v < val b.u - b.c) : Pass val0 (put val b.v (val b.u - b.c)) (did ++ [b]) (some b.v) := by
  have up : ∀ n, val n ≤ K29.put val b.v (val b.u - b.c) n := fun n => by
    by_cases e : n = b.v
    · rw [e, put_same]; omega
    · rw [put_ne e]; exact Int.le_refl _
  refine ⟨fun n => Int.le_trans (p.up n) (up n), fun d hd => ?_, fun q => (nomatch q), fun v hv => ?_⟩
  · rcases List.mem_append.mp hd with q | q
    · exact Int.le_trans (p.did d q) (up _)
    · have e : d = b := List.mem_singleton.mp q
      subst e
      rw [put_same]
      have := p.up d.u
      omega
  · cases hv
    rw [put_same]
    have := p.up b.v
    omega

/-! ### the two ends -/
/-- a name that was changed in the last pass is not rooted -/
theorem not_rooted (S : SI z nm E val cz t T) {val0 : N → Int} {k : Nat} (hk : nm.length ≤ k + 1) (d : Done z E k val0) {v : N} (hv : v ∈ nm) (h : val0 v < val v) : ∀ j, ¬ Rooted z cz j v := fun j r => by
  obtain ⟨w, hw, hle⟩ := r.walk S
  have s := r.short S hv
  have q := d _ _ (hw.mono (show j ≤ k by omega))
  omega
/-- the chain's periods -/
theorem period (S : SI z nm E val cz t T) {v : N} (hv : v ∈ nm) (h : ∀ j, ¬ Rooted z cz j v) {cn : List N} (hcn : ∀ n, cz n ≠ none → n ∈ cn) {m : Nat} (hm : cn.length ≤ m) : ∃ p, 0 < p ∧ p ≤ m ∧ it cz (m + p) v = it cz m v := by
  obtain ⟨i, j, hij, hj, e⟩ := pigeon (f := fun i => it cz i v) hm fun i _ => hcn _ (caused S hv h i)
  refine ⟨j - i, by omega, by omega, ?_⟩
  have q := it_shift (r := m - i) e
  rw [show i + (m - i) = m by omega, show j + (m - i) = m + (j - i) by omega] at q
  exact q.symm
/-- where all bounds hold every name is rooted -/
theorem all_rooted (S : SI z nm E val cz t T) (kp : Keeps E val) {n : N} (hn : n ∈ nm) : ∃ k, Rooted z cz k n := by
  classical
  by_cases q : ∃ k, Rooted z cz k n
  · exact q
  · exfalso
    have nr : ∀ k, ¬ Rooted z cz k n := fun k r => q ⟨k, r⟩
    have ca := caused S hn nr
    obtain ⟨i, j, hij, _, e⟩ := pigeon (f := fun i => it cz i n) (Nat.le_refl nm.length) fun i _ => it_mem S hn i
    have shift : ∀ r, it cz r (it cz i n) = it cz (i + r) n := fun r => (it_add cz i r n).symm
    have ca' : ∀ r, r < j - i → cz (it cz r (it cz i n)) ≠ none := fun r _ => by
      rw [shift]
      exact ca _
    have cl : it cz (j - i) (it cz i n) = it cz i n := by
      rw [shift, show i + (j - i) = j by omega]
      exact e.symm
    have neg := cycle_neg S (by omega) ca' cl
    -- but all bounds hold
    have pos : ∀ m, val (it cz m (it cz i n)) - cs cz (it cz i n) m ≤ val (it cz i n) := fun m => by
      induction m with
      | zero =>
        show val (it cz i n) - 0 ≤ val (it cz i n)
        omega
      | succ m ih =>
        cases e : cz (it cz m (it cz i n)) with
        | none =>
          rw [shift] at e
          exact absurd e (ca _)
        | some b =>
          obtain ⟨hE, hbv⟩ := S.isE _ b e
          have q := kp b hE
          rw [hbv] at q
          show val (nx cz (it cz m (it cz i n))) - (cs cz (it cz i n) m + (match cz (it cz m (it cz i n)) with | some b => b.c | none => 0)) ≤ val (it cz i n)
          rw [nx_some e, e]
          show val b.u - (cs cz (it cz i n) m + b.c) ≤ val (it cz i n)
          omega
    have p := pos (j - i)
    rw [cl] at p
    omega

/-- each value is forced by a chain from z; rk: the chain's length -/
def Forced (z : N) (bs : List (Bd N)) (nm : List N) (val : N → Int) : Prop :=
  ∃ rk : N → Nat, ∀ n, n ∈ nm → rk n < nm.length ∧ (n = z ∨ val n = 0 ∨ ∃ b, b ∈ bs ∧ b.v = n ∧ b.u ∈ nm ∧ rk b.u < rk n ∧ val n = val b.u - b.c)
theorem forced (S : SI z nm E val cz t T) (kp : Keeps E val) {bs : List (Bd N)} (hE : ∀ b, b ∈ E → b ∈ bs ∨ (b.u = z ∧ b.c = 0)) : val z = 0 ∧ Forced z bs nm val := by
  classical
  have vz : val z = 0 := by
    obtain ⟨k, r⟩ := all_rooted S kp S.zin
    exact S.root r.2.1
  refine ⟨vz, fun n => if h : ∃ k, Rooted z cz k n then h.choose else 0, fun n hn => ?_⟩
  have key : ∀ k n, Rooted z cz k n → (if h : ∃ k, Rooted z cz k n then h.choose else 0) = k := fun k n r => by
    have h : ∃ k, Rooted z cz k n := ⟨k, r⟩
    rw [dif_pos h]
    exact h.choose_spec.unique r
  obtain ⟨k, r⟩ := all_rooted S kp hn
  have ek := key k n r
  refine ⟨by
    show (if h : ∃ k, Rooted z cz k n then h.choose else 0) < nm.length
    rw [ek]
    exact r.short S hn, ?_⟩
  by_cases ez : n = z
  · exact .inl ez
  · refine .inr ?_
    obtain ⟨b, hb⟩ := S.has n hn ez
    obtain ⟨hbE, hbv⟩ := S.isE n b hb
    have q1 := S.le n b hb
    have q2 := kp b hbE
    rw [hbv] at q2
    rcases hE b hbE with h | ⟨h1, h2⟩
    · refine .inr ⟨b, h, hbv, (S.ends b hbE).1, ?_, by omega⟩
      cases k with
      | zero => exact absurd r.1 ez
      | succ k =>
        have r' : Rooted z cz k b.u := by
          have h1 := r.1
          rw [it_one, nx_some hb] at h1
          refine ⟨h1, r.2.1, fun j hj => ?_⟩
          have q := r.2.2 (j + 1) (by omega)
          rw [it_one, nx_some hb] at q
          exact q
        show (if h : ∃ k, Rooted z cz k b.u then h.choose else 0) < (if h : ∃ k, Rooted z cz k n then h.choose else 0)
        rw [ek, key k _ r']
        omega
    · refine .inl ?_
      rw [h1, h2, vz] at q1 q2
      omega
end

/-! ### rings -/
/-- the place ahead of k, round -/
def prev (n k : Nat) : Nat := if k = 0 then n - 1 else k - 1
structure Ring (E : List (Bd N)) (L : List (Bd N)) : Prop where
  ne : 0 < L.length
  mem : ∀ b, b ∈ L → b ∈ E
  lnk : ∀ (k : Nat) (b p : Bd N), L[k]? = some b → L[prev L.length k]? = some p → p.v = b.u
  neg : (L.map (·.c)).sum < 0
theorem sum_tel {E : List (Bd N)} {s : N → Int} (hk : Keeps E s) : ∀ (L : List (Bd N)) (a : N), (∀ b, b ∈ L → b ∈ E) → (∀ b, L[0]? = some b → b.u = a) → (∀ (k : Nat) (b p : Bd N), L[k + 1]? = some b → L[k]? = some p → p.v = b.u) →
    ∀ d, L.getLast? = some d → s a - s d.v ≤ (L.map (·.c)).sum
  | [], a, _, _, _, d, h => by simp at h
  | [b], a, hE, h0, _, d, h => by
    have e : b = d := by simpa using h
    subst e
    have q := hk b (hE b (by simp))
    have e0 := h0 b rfl
    rw [← e0]
    simp only [List.map_cons, List.map_nil, List.sum_cons, List.sum_nil]
    omega
  | b :: b2 :: r, a, hE, h0, hl, d, h => by
    have ih := sum_tel hk (b2 :: r) b.v (fun x hx => hE x (List.mem_cons_of_mem _ hx)) (fun x hx => by
      have e : b2 = x := Option.some.inj hx
      subst e
      exact (hl 0 b2 b rfl rfl).symm) (fun k x p hx hp => hl (k + 1) x p hx hp) d (by rw [List.getLast?_cons_cons] at h; exact h)
    have q := hk b (hE b (by simp))
    have e0 := h0 b rfl
    rw [← e0]
    rw [List.map_cons, List.sum_cons]
    omega
/-- the bounds of a ring cannot all hold -/
theorem Ring.no {E L : List (Bd N)} (R : Ring E L) {s : N → Int} (hk : Keeps E s) : False := by
  obtain ⟨b, hb⟩ : ∃ b, L[0]? = some b := ⟨_, List.getElem?_eq_getElem R.ne⟩
  have hlt : L.length - 1 < L.length := Nat.sub_lt R.ne (by omega)
  obtain ⟨d, hd⟩ : ∃ d, L[L.length - 1]? = some d := ⟨_, List.getElem?_eq_getElem hlt⟩
  have cl : d.v = b.u := R.lnk 0 b d hb (by unfold prev; rw [if_pos rfl]; exact hd)
  have q := sum_tel hk L b.u R.mem (fun x hx => by rw [hb] at hx; cases hx; rfl) (fun k x p hx hp => R.lnk (k + 1) x p hx (by unfold prev; rw [if_neg (by omega)]; exact hp)) d (by rw [List.getLast?_eq_getElem?]; exact hd)
  rw [cl] at q
  have := R.neg
  omega

section
variable [DecidableEq N] {z : N} {nm : List N} {E : List (Bd N)} {val : N → Int} {cz : N → Option (Bd N)} {t : N → Nat} {T : Nat}
/-- the causes along a chain -/
def chain (cz : N → Option (Bd N)) (n : N) : Nat → List (Bd N)
  | 0 => []
  | k + 1 => chain cz n k ++ (match cz (it cz k n) with | some b => [b] | none => [])
theorem chain_sum (n : N) : ∀ m, ((chain cz n m).map (·.c)).sum = cs cz n m
  | 0 => rfl
  | m + 1 => by
    have ih := chain_sum n m
    unfold chain cs
    rw [List.map_append, List.sum_append, ih]
    cases cz (it cz m n) with
    | none => rfl
    | some b =>
      show cs cz n m + ([b.c] : List Int).sum = cs cz n m + b.c
      rw [List.sum_cons, List.sum_nil]
      omega
theorem chain_len {n : N} : ∀ m, (∀ i, i < m → cz (it cz i n) ≠ none) → (chain cz n m).length = m
  | 0, _ => rfl
  | m + 1, h => by
    have ih := chain_len m fun i hi => h i (by omega)
    unfold chain
    rw [List.length_append, ih]
    cases e : cz (it cz m n) with
    | none => exact absurd e (h m (by omega))
    | some b => rfl
theorem chain_get {n : N} : ∀ m, (∀ i, i < m → cz (it cz i n) ≠ none) → ∀ i, i < m → (chain cz n m)[i]? = cz (it cz i n)
  | 0, _, i, hi => by omega
  | m + 1, h, i, hi => by
    have hl := chain_len m fun i hi => h i (by omega)
    unfold chain
    by_cases e : i = m
    · subst e
      rw [List.getElem?_append_right (by omega), hl, Nat.sub_self]
      cases e : cz (it cz i n) with
      | none => exact absurd e (h i (by omega))
      | some b => rfl
    · rw [List.getElem?_append_left (by omega)]
      exact chain_get m (fun i hi => h i (by omega)) i (by omega)
/-- a closed chain, from its end, is a ring -/
theorem ring_of (S : SI z nm E val cz t T) {n : N} {m : Nat} (hm : 0 < m) (h : ∀ i, i < m → cz (it cz i n) ≠ none) (hc : it cz m n = n) : Ring E (chain cz n m).reverse := by
  have hl := chain_len m h
  have hlr : (chain cz n m).reverse.length = m := by rw [List.length_reverse, hl]
  have get : ∀ k, k < m → (chain cz n m).reverse[k]? = cz (it cz (m - 1 - k) n) := fun k hk => by
    rw [List.getElem?_reverse (by omega), hl]
    exact chain_get m h _ (by omega)
  refine ⟨by omega, fun b hb => ?_, fun k b p hb hp => ?_, ?_⟩
  · obtain ⟨i, hi⟩ := List.getElem?_of_mem (List.mem_reverse.mp hb)
    have hlt : i < m := by
      have q := (List.getElem?_eq_some_iff.mp hi).1
      omega
    rw [chain_get m h i hlt] at hi
    exact (S.isE _ b hi).1
  · have hk : k < m := by
      have q := (List.getElem?_eq_some_iff.mp hb).1
      omega
    rw [get k hk] at hb
    rw [hlr] at hp
    unfold prev at hp
    by_cases e : k = 0
    · subst e
      rw [if_pos rfl, get _ (by omega), show m - 1 - (m - 1) = 0 by omega] at hp
      have hp : cz n = some p := hp
      have q := (S.isE _ p hp).2
      have e2 : it cz m n = b.u := by
        rw [show m = (m - 1 - 0) + 1 by omega]
        exact nx_some hb
      rw [q, ← e2, hc]
    · rw [if_neg e, get _ (by omega)] at hp
      have q := (S.isE _ p hp).2
      have e2 : it cz (m - 1 - k + 1) n = b.u := nx_some hb
      rw [show m - 1 - k + 1 = m - 1 - (k - 1) by omega] at e2
      rw [q, e2]
  · rw [List.map_reverse, List.sum_reverse, chain_sum]
    exact cycle_neg S hm h hc
end
end
end K29

/-! The text by places, what stands in the heap, small facts. -/
namespace K29
open PySem PySem.Spec PyProof.Rows L2
/-! ### the text by places -/
def top (i : Nat) : Stmt := PySem.Challenge.pw_rowsinplace_k29_whole_least_solutions.main.body.getD i (.Pass ⟨0, 0, 0, 0⟩)
abbrev sIsInteger : Stmt := top 4
abbrev sIsName : Stmt := top 5
abbrev sIsBound : Stmt := top 7
abbrev sIsRing : Stmt := top 9
abbrev sRingFrom : Stmt := top 10
abbrev sSolve : Stmt := top 11
abbrev sInit : Stmt := inClass (top 13) 0
abbrev sLeast : Stmt := inClass (top 13) 1
abbrev sRing : Stmt := inClass (top 13) 2
abbrev sLen : Stmt := inClass (top 13) 3
abbrev sAdd : Stmt := inClass (top 13) 4
abbrev sBag : Stmt := top 15
abbrev sDraw : Stmt := top 16
abbrev sOf : Stmt := top 17
abbrev sName : Stmt := top 18
abbrev sNames : Stmt := top 19
abbrev sNumbers : Stmt := top 20
abbrev sKept : Stmt := top 21
abbrev sAny : Stmt := top 22
abbrev sRound : Stmt := top 23
abbrev sForced : Stmt := top 24
abbrev sIsLeast : Stmt := top 25
abbrev sIsRound : Stmt := top 26
abbrev sLaw : Stmt := top 27

/-! ### heaps -/
/-- all that was tracked is as it was, but at p -/
def But (p : Addr) (H H' : Hp) : Prop := ∀ b o, b ≠ p → H b = some o → H' b = some o
theorem But.refl {p : Addr} (H : Hp) : But p H H := fun _ _ _ h => h
theorem But.trans {p : Addr} {H H1 H2 : Hp} (a : But p H H1) (b : But p H1 H2) : But p H H2 := fun c o n h => b c o n (a c o n h)
theorem But.same {p : Addr} {H H' : Hp} (s : Same H H') : But p H H' := fun b o _ h => s b o h
theorem But.up {p q : Addr} {H H' : Hp} {o : HO} (b : But p H H') (hq : H' q = none) : But p H (upd H' q o) := fun c u n h => by
  have e := b c u n h
  rw [upd_ne (ne_of_none e hq)]
  exact e
theorem But.at {p : Addr} {H H' : Hp} {o : HO} (b : But p H H') : But p H (upd H' p o) := fun c u n h => by
  rw [upd_ne n]
  exact b c u n h
/-- a change at an address that was free at first -/
theorem But.own {p q : Addr} {H H' : Hp} {o : HO} (b : But p H H') (hq : H q = none) : But p H (upd H' q o) := fun c u n h => by
  rw [upd_ne (ne_of_none h hq)]
  exact b c u n h
theorem But.free {p l : Addr} {H H' : Hp} (b : But p H H') (hp : H' p ≠ none) (h : H' l = none) : H l = none := by
  cases q : H l with
  | none => rfl
  | some o =>
    have n : l ≠ p := fun e => hp (e ▸ h)
    rw [b l o n q] at h
    cases h
theorem same_up {H H' : Hp} {p : Addr} {o : HO} (s : Same H H') (h : H' p = none) : Same H (upd H' p o) := fun b x e => by
  rw [upd_ne (ne_of_none (s b x e) h)]
  exact s b x e
theorem same_own {H H' : Hp} {p : Addr} {o : HO} (s : Same H H') (h : H p = none) : Same H (upd H' p o) := fun b x e => by
  rw [upd_ne (ne_of_none e h)]
  exact s b x e

/-! ### a bag of draws: at most k numbers have been mixed -/
def Bag (H : Hp) (p : Addr) (k : Nat) : Prop := ∃ A B C : Int, H p = some (.lst [.int A, .int B, .int C]) ∧ 0 ≤ B ∧ B < 2000000000000000000 ∧ 0 ≤ C ∧ C ≤ (k : Int)
theorem Bag.mono {H : Hp} {p : Addr} {j k : Nat} (b : Bag H p j) (h : j ≤ k) : Bag H p k := by
  obtain ⟨A, B, C, e, h1, h2, h3, h4⟩ := b
  exact ⟨A, B, C, e, h1, h2, h3, by omega⟩
theorem Bag.some {H : Hp} {p : Addr} {k : Nat} (b : Bag H p k) : H p ≠ none := by
  obtain ⟨A, B, C, e, _⟩ := b
  rw [e]
  exact fun q => nomatch q
theorem Bag.at {H H' : Hp} {p : Addr} {k : Nat} (b : Bag H p k) (e : H' p = H p) : Bag H' p k := by
  obtain ⟨A, B, C, e1, r⟩ := b
  exact ⟨A, B, C, e.trans e1, r⟩
theorem Bag.up {H : Hp} {p q : Addr} {o : HO} {k : Nat} (b : Bag H p k) (hq : H q = Option.none) : Bag (upd H q o) p k := by
  obtain ⟨A, B, C, e1, r⟩ := b
  exact ⟨A, B, C, by rw [upd_ne (ne_of_none e1 hq)]; exact e1, r⟩
theorem Bag.same {H H' : Hp} {p : Addr} {k : Nat} (b : Bag H p k) (s : Same H H') : Bag H' p k := by
  obtain ⟨A, B, C, e1, r⟩ := b
  exact ⟨A, B, C, s _ _ e1, r⟩

/-! ### names, bounds -/
abbrev Bn := Bd Str
def IsNm (x : Str) : Prop := 1 ≤ x.length ∧ x.length ≤ 8 ∧ ∀ c, c ∈ x.cps.toList → 97 ≤ c ∧ c ≤ 122
abbrev zs : Str := "zero"
theorem isNm_zero : IsNm zs := ⟨by decide +kernel, by decide +kernel, by decide +kernel⟩
/-- a bound as the program has them -/
def GB (b : Bn) : Prop := IsNm b.u ∧ IsNm b.v ∧ b.u ≠ b.v
def tb (b : Bn) : List V := [.str b.u, .str b.v, .int b.c]
def BAt (H : Hp) (x : Addr × Bn) : Prop := H x.1 = some (.tup (tb x.2))
/-- bounds by their addresses -/
def Bs (H : Hp) (xs : List (Addr × Bn)) : Prop := ∀ x, x ∈ xs → BAt H x
def rf (xs : List (Addr × Bn)) : List V := xs.map fun x => V.ref x.1
def bb (xs : List (Addr × Bn)) : List Bn := xs.map (·.2)
theorem Bs.same {H H' : Hp} {xs : List (Addr × Bn)} (b : Bs H xs) (s : Same H H') : Bs H' xs := fun x hx => s _ _ (b x hx)
theorem BAt.same {H H' : Hp} {x : Addr × Bn} (b : BAt H x) (s : Same H H') : BAt H' x := s _ _ b
/-- tuples stay, also where a list or dict at p changes -/
theorem BAt.but {p : Addr} {H H' : Hp} {x : Addr × Bn} {o : HO} (b : BAt H x) (hp : H p = some o) (hn : ∀ xs, o ≠ .tup xs) (s : But p H H') : BAt H' x :=
  s _ _ (ne_of b hp fun e => hn _ e.symm) b
theorem Bs.but {p : Addr} {H H' : Hp} {xs : List (Addr × Bn)} {o : HO} (b : Bs H xs) (hp : H p = some o) (hn : ∀ xs, o ≠ .tup xs) (s : But p H H') : Bs H' xs := fun x hx => (b x hx).but hp hn s
theorem Bag.lst {H : Hp} {p : Addr} {k : Nat} (b : Bag H p k) : ∃ xs, H p = Option.some (.lst xs) := by
  obtain ⟨A, B, C, e, _⟩ := b
  exact ⟨_, e⟩
theorem Bs.bag {p : Addr} {k : Nat} {H H' : Hp} {xs : List (Addr × Bn)} (b : Bs H xs) (g : Bag H p k) (s : But p H H') : Bs H' xs := by
  obtain ⟨ys, e⟩ := g.lst
  exact b.but e (fun _ q => nomatch q) s
theorem Bs.nil {H : Hp} : Bs H [] := fun _ h => nomatch h
theorem Bs.snoc {H : Hp} {xs : List (Addr × Bn)} {x : Addr × Bn} (b : Bs H xs) (h : BAt H x) : Bs H (xs ++ [x]) := fun y hy => by
  rcases List.mem_append.mp hy with q | q
  · exact b y q
  · rw [List.mem_singleton.mp q]
    exact h
theorem rf_len (xs : List (Addr × Bn)) : (rf xs).length = xs.length := by unfold rf; rw [List.length_map]
theorem bb_len (xs : List (Addr × Bn)) : (bb xs).length = xs.length := by unfold bb; rw [List.length_map]
theorem rf_get {xs : List (Addr × Bn)} {i : Nat} {v : V} (h : (rf xs)[i]? = some v) : ∃ x, xs[i]? = some x ∧ v = V.ref x.1 := by
  unfold rf at h
  rw [List.getElem?_map] at h
  cases e : xs[i]? with
  | none => rw [e] at h; cases h
  | some x => rw [e] at h; cases h; exact ⟨x, rfl, rfl⟩
theorem bb_get {xs : List (Addr × Bn)} {i : Nat} {x : Addr × Bn} (h : xs[i]? = some x) : (bb xs)[i]? = some x.2 := by
  unfold bb
  rw [List.getElem?_map, h]
  rfl
theorem bb_mem {xs : List (Addr × Bn)} {b : Bn} (h : b ∈ bb xs) : ∃ x, x ∈ xs ∧ x.2 = b := List.mem_map.mp h
theorem mem_bb {xs : List (Addr × Bn)} {x : Addr × Bn} (h : x ∈ xs) : x.2 ∈ bb xs := List.mem_map.mpr ⟨x, h, rfl⟩
/-- rules whose readings speak of K alone (within a comprehension's block) -/
def rlen (K : PySem.W.Frag) : List V → Hp → VK → Prop := fun xs H Q => ∃ p ys, xs = [.ref p] ∧ (SqL K H p ys ∨ SqT K H p ys) ∧ Q (.int ys.length) H
theorem len_seq {X : Cx} {K : PySem.W.Frag} (h : X.K = K) : CallR X (.builtin "len") (rlen K) := h ▸ call_len_seq
theorem line100 {n : Nat} (h : n ≤ 1000) : n ≤ sizeLine := Nat.le_of_lt (small1000 h)
end K29

/-! draw, of -/
namespace K29
open PySem PySem.Spec PyProof.Rows L2
section
variable {P : Program} {w : World} {K : PySem.W.Frag} {mg : Str → Option Value} {base : Heap}
theorem scDraw : FnScope ["_law_bag_here", "_law_many", "_law_digit", "_law_mixed"] ["_law_bag_here", "_law_many"] (defScope sDraw) := ⟨rfl, rfl, rfl, by decide +kernel, rfl, by decide +kernel, by decide +kernel⟩
def spDraw : Sp := fun vs H Q _ => ∃ (p : Addr) (m : Int) (k : Nat), vs = [.ref p, .int m] ∧ Bag H p k ∧ k ≤ 100000000 ∧ 1 ≤ m ∧ m ≤ 10 ^ 28 ∧
  ∀ (d : Int) (H' : Hp), 0 ≤ d → d < m → Bag H' p (k + 1) → But p H H' → Q (.int d) H'
theorem ok_draw {f : Addr} {fd : FuncData} (F : Fun K "_law_draw" "_law_draw" sDraw f fd) (zi : mg "int" = none) : FnOk P w K mg base CX0 1 f fd ["_law_bag_here", "_law_many"] spDraw := by
  refine F.ok scDraw (fun vs H Q E h => ?_) (fun cdv A outer s H vs Q E hr h => ?_)
  · obtain ⟨p, m, k, rfl, _⟩ := h
    rfl
  · obtain ⟨p, m, k, rfl, ⟨A, B, C, hp, hB0, hB1, hC0, hC1⟩, hk, hm1, hm2, q⟩ := h
    refine ⟨_, pss_cons (ps_if (pt_cmpR op_gt (pe_ix ix_list (pv 0) pe_int (fun _ _ => rfl)) pe_int (nomark _))
        (pss_cons (ps_set (i := 2) scDraw.nd rfl (Or.inl rfl) (pe_op op_mod (pe_callTy call_int1 (by rfl) zi (by decide +kernel) (pa_cons (pe_ix ix_list (pv 0) pe_int (fun _ _ => rfl)) pa_nil)) (pv 1)))
        (pss_cons (ps_asg (pe_op op_fdivW (pe_ix ix_list (pv 0) pe_int (fun _ _ => rfl)) (pv 1)) (pg_sub (pv 0) pe_int set_list))
        (pss_one (ps_ret (pv 2))))) pss_nil)
      (pss_cons (ps_asg (pe_op op_add (pe_ix ix_list (pv 0) pe_int (fun _ _ => rfl)) pe_int) (pg_sub (pv 0) pe_int set_list))
      (pss_cons (ps_set (i := 3) scDraw.nd rfl (Or.inl rfl) (pe_op op_add
          (pe_op op_pow (pe_op op_add (pe_ix ix_list (pv 0) pe_int (fun _ _ => rfl)) (pe_op op_mul pe_int (pe_ix ix_list (pv 0) pe_int (fun _ _ => rfl)))) pe_int)
          (pe_op op_mul pe_int (pe_ix ix_list (pv 0) pe_int (fun _ _ => rfl)))))
      (pss_cons (ps_set (i := 3) scDraw.nd rfl (Or.inl rfl) (pe_op op_mod (pe_callTy call_int1 (by rfl) zi (by decide +kernel) (pa_cons (pv 3) pa_nil)) pe_int))
      (pss_cons (ps_set (i := 3) scDraw.nd rfl (Or.inl rfl) (pe_op op_mod (pe_callTy call_int1 (by rfl) zi (by decide +kernel) (pa_cons
          (pe_op op_pow (pe_op op_add (pv 3) (pe_op op_mul pe_int (pe_ix ix_list (pv 0) pe_int (fun _ _ => rfl)))) pe_int) pa_nil)) pe_int))
      (pss_one (ps_ret (pe_op op_mod (pe_callTy call_int1 (by rfl) zi (by decide +kernel) (pa_cons (pe_op op_fdiv (pv 3) pe_int) pa_nil)) (pv 1)))))))), ?_⟩
    -- if bag[0] > 0
    refine ⟨_, rfl, p, _, 0, .int A, rfl, rfl, SqL.of hp, atI_nat (j := 0) rfl, A, 0, rfl, rfl, _, rfl, ite2 (fun hA => ?_) (fun hA => ?_)⟩
    · refine ⟨_, rfl, p, _, 0, .int A, rfl, rfl, SqL.of hp, atI_nat (j := 0) rfl, .inl ⟨A, rfl, _, rfl, A, m, rfl, rfl, by omega, ?_⟩⟩
      refine ⟨_, rfl, p, _, 0, .int A, rfl, rfl, SqL.of hp, atI_nat (j := 0) rfl, _, rfl, A, m, rfl, rfl, ?_, ?_⟩
      · exact wide_div (b := 94) (by omega) (by omega) (by decide) (by decide)
      refine ⟨_, rfl, p, _, 0, 0, rfl, rfl, hp, rfl, ?_⟩
      refine ⟨_, rfl, ?_⟩
      refine q _ _ (Int.emod_nonneg _ (by omega)) (Int.emod_lt_of_pos _ (by omega)) ⟨A / m, B, C, upd_same, hB0, hB1, hC0, by omega⟩ (But.at (But.refl H))
    · -- the mixed numbers
      refine ⟨_, rfl, p, _, 2, .int C, rfl, rfl, SqL.of hp, atI_nat (j := 2) rfl, C, 1, rfl, rfl, _, rfl, p, _, 2, 2, rfl, rfl, hp, rfl, ?_⟩
      have h1 : (upd H p (.lst [.int A, .int B, .int (C + 1)])) p = some (.lst [.int A, .int B, .int (C + 1)]) := upd_same
      show _
      refine ⟨_, rfl, p, _, 1, .int B, rfl, rfl, SqL.of h1, atI_nat (j := 1) rfl, _, rfl, p, _, 2, .int (C + 1), rfl, rfl, SqL.of h1, atI_nat (j := 2) rfl, 611953, C + 1, rfl, rfl, .inl ⟨by omega, by omega⟩, B, _, rfl, rfl, ?_⟩
      refine ⟨_, _, rfl, rfl, ⟨by omega, by omega, by omega⟩, _, rfl, p, _, 1, .int B, rfl, rfl, SqL.of h1, atI_nat (j := 1) rfl, 40503, B, rfl, rfl, .inl ⟨by omega, by omega⟩, _, _, rfl, rfl, ?_⟩
      refine ⟨_, rfl, .inl ⟨_, rfl, _, _, rfl, rfl, (by show (0 : Int) < 1152921504606846869; decide), ?_⟩⟩
      generalize (B + 611953 * (C + 1)) ^ Int.toNat 2 + 40503 * B = M
      have m0 : 0 ≤ M % 1152921504606846869 := Int.emod_nonneg _ (by decide)
      have m1 : M % 1152921504606846869 < 1152921504606846869 := Int.emod_lt_of_pos _ (by decide)
      refine ⟨_, rfl, _, rfl, p, _, 2, .int (C + 1), rfl, rfl, SqL.of h1, atI_nat (j := 2) rfl, 15485863, C + 1, rfl, rfl, .inl ⟨by omega, by omega⟩, M % 1152921504606846869, _, rfl, rfl, ?_⟩
      refine ⟨_, _, rfl, rfl, ⟨by omega, by omega, by omega⟩, .inl ⟨_, rfl, _, _, rfl, rfl, (by show (0 : Int) < 2305843009213693951; decide), ?_⟩⟩
      generalize (M % 1152921504606846869 + 15485863 * (C + 1)) ^ Int.toNat 3 = M2
      refine ⟨_, rfl, M2 % 2305843009213693951, _, rfl, rfl, ⟨by decide, by decide⟩, .inl ⟨_, rfl, _, rfl, _, m, rfl, rfl, by omega, ?_⟩⟩
      refine q _ _ (Int.emod_nonneg _ (by omega)) (Int.emod_lt_of_pos _ (by omega)) ⟨A, B, C + 1, h1, hB0, hB1, by omega, by omega⟩ (But.at (But.refl H))
/-! ### one of some values -/
theorem scOf : FnScope ["_law_bag_here", "_law_some"] ["_law_bag_here", "_law_some"] (defScope sOf) := ⟨rfl, rfl, rfl, by decide +kernel, rfl, by decide +kernel, by decide +kernel⟩
def spOf : Sp := fun vs H Q _ => ∃ (p l : Addr) (xs : List V) (k : Nat), vs = [.ref p, .ref l] ∧ p ≠ l ∧ Bag H p k ∧ k ≤ 100000000 ∧ H l = some (.lst xs) ∧ 1 ≤ xs.length ∧ xs.length ≤ 1000 ∧
  ∀ (i : Nat) (v : V) (H' : Hp), xs[i]? = some v → Bag H' p (k + 1) → But p H H' → Q v H'
/-- a def of the text, where it stands and how it is called -/
structure Df (P : Program) (w : World) (K : PySem.W.Frag) (mg : Str → Option Value) (base : Heap) (k : Nat) (x : Str) (ps : List Str) (sp : Sp) (f : Addr) (fd : FuncData) : Prop where
  ok : FnOk P w K mg base CX0 k f fd ps sp
  gl : mg x = some (.ref f)
  kp : PySem.W.keepIn K (.ref f) = true
  bi : Binds K fd ps []
theorem ok_of {f f1 : Addr} {fd fd1 : FuncData} (F : Fun K "_law_of" "_law_of" sOf f fd) (D : Df P w K mg base 1 "_law_draw" ["_law_bag_here", "_law_many"] spDraw f1 fd1) (zl : mg "len" = none) : FnOk P w K mg base CX0 2 f fd ["_law_bag_here", "_law_some"] spOf := by
  refine F.ok scOf (fun vs H Q E h => ?_) (fun cdv A outer s H vs Q E hr h => ?_)
  · obtain ⟨p, l, xs, k, rfl, _⟩ := h
    rfl
  · obtain ⟨p, l, xs, k, rfl, npl, hB, hk, hl, h1, h2, q⟩ := h
    refine ⟨_, pss_one (ps_ret (pe_ix ix_list (pv 1) (pe_call D.ok hr (by rfl) D.gl D.kp D.bi .nil pass0 (pa_cons (pv 0) (pa_cons (pe_callB call_len_seq (by rfl) zl PySem.boot_len (pa_cons (pv 1) pa_nil)) pa_nil))) (fun _ _ => rfl))), ?_⟩
    refine ⟨_, rfl, _, rfl, _, rfl, l, xs, rfl, .inl (SqL.of hl), p, _, k, rfl, hB, hk, by omega, by omega, fun d H' d0 d1 hB' hb => ?_⟩
    have hl' := hb l _ npl.symm hl
    obtain ⟨i, rfl⟩ : ∃ i : Nat, d = (i : Int) := ⟨d.toNat, by omega⟩
    have hi : i < xs.length := by omega
    refine ⟨l, xs, _, xs[i], rfl, rfl, SqL.of hl', atI_nat (List.getElem?_eq_getElem hi), ?_⟩
    exact q i _ H' (List.getElem?_eq_getElem hi) hB' hb
end
end K29

/-! the bag; a name, names, names of numbers -/
namespace K29
open PySem PySem.Spec PyProof.Rows L2
/-! ### texts -/
def Let (c : Nat) : Prop := 97 ≤ c ∧ c ≤ 122
abbrev abc : Str := "abcdefghijklmnopqrstuvwxyz"
theorem abc_get : ∀ c : Nat, c < 26 → abc.cps.toList[c]? = some (97 + c) := by decide +kernel
theorem abc_len : abc.length ≤ sizeLine := line100 (by decide +kernel)
theorem one_len (c : Nat) : (⟨#[c]⟩ : Str).length = 1 := rfl
theorem len_tl (x : Str) : x.cps.toList.length = x.length := by simp [Str.length]
theorem tl_app (x y : Str) : (x ++ y).cps.toList = x.cps.toList ++ y.cps.toList := by
  show (x.cps ++ y.cps).toList = _
  simp
theorem len_app (x y : Str) : (x ++ y).length = x.length + y.length := by
  rw [← len_tl, tl_app, List.length_append, len_tl, len_tl]
theorem join_nil : ∀ ys : List Str, (∀ y, y ∈ ys → ∃ c, y = ⟨#[c]⟩ ∧ Let c) → (Str.join Str.empty ys).length = ys.length ∧ ∀ c, c ∈ (Str.join Str.empty ys).cps.toList → Let c
  | [], _ => ⟨rfl, fun c h => by
      have h : c ∈ ([] : List Nat) := h
      cases h⟩
  | [x], h => by
    obtain ⟨d, rfl, hd⟩ := h x (List.mem_singleton.mpr rfl)
    refine ⟨rfl, fun c hc => ?_⟩
    have hc : c ∈ [d] := hc
    rw [List.mem_singleton.mp hc]
    exact hd
  | x :: y :: r, h => by
    obtain ⟨d, rfl, hd⟩ := h x List.mem_cons_self
    obtain ⟨h1, h2⟩ := join_nil (y :: r) fun z hz => h z (List.mem_cons_of_mem _ hz)
    have e : (Str.join Str.empty (⟨#[d]⟩ :: y :: r)) = (⟨#[d]⟩ : Str) ++ Str.empty ++ Str.join Str.empty (y :: r) := rfl
    rw [e]
    refine ⟨?_, fun c hc => ?_⟩
    · rw [len_app, len_app, h1]
      show 1 + 0 + (y :: r).length = (y :: r).length + 1
      omega
    · rw [tl_app, tl_app] at hc
      rcases List.mem_append.mp hc with q | q
      · have q : c ∈ [d] ++ ([] : List Nat) := q
        rw [List.append_nil] at q
        rw [List.mem_singleton.mp q]
        exact hd
      · exact h2 c q
theorem nm_join {ys : List Str} (h : ∀ y, y ∈ ys → ∃ c, y = ⟨#[c]⟩ ∧ Let c) (h1 : 1 ≤ ys.length) (h8 : ys.length ≤ 8) : IsNm (Txt.join Str.empty ys) := by
  rw [TL.join_eq]
  obtain ⟨a, b⟩ := join_nil ys h
  exact ⟨by omega, by omega, b⟩
theorem inV_str (x : Str) (ns : List Str) : inV (.str x) (ns.map V.str) = decide (x ∈ ns) := by
  unfold inV
  rw [Bool.eq_iff_iff, List.any_eq_true, decide_eq_true_eq]
  constructor
  · rintro ⟨v, hv, e⟩
    obtain ⟨y, hy, rfl⟩ := List.mem_map.mp hv
    have e : (y == x) = true := e
    rw [← beq_iff_eq.mp e]
    exact hy
  · intro h
    exact ⟨.str x, List.mem_map.mpr ⟨x, h, rfl⟩, by show (x == x) = true; exact beq_self_eq_true x⟩
theorem flat_strs (ns : List Str) : (ns.map V.str).all flatV = true := by
  rw [List.all_eq_true]
  intro v hv
  obtain ⟨y, _, rfl⟩ := List.mem_map.mp hv
  rfl
/-- a name with one letter changed -/
theorem nm_mix {one : Str} {at_ : Nat} {c : Nat} (h : IsNm one) (ha : at_ < one.length) (hc : Let c) : IsNm (cutS one none (some (at_ : Int)) ++ (⟨#[c]⟩ : Str) ++ cutS one (some ((at_ : Int) + 1)) none) := by
  have e1 : (cutS one none (some (at_ : Int))).cps.toList = one.cps.toList.take at_ := by
    unfold cutS
    rw [HT.sIx_none, HT.sIx_nat]
    show ((one.cps.toList.drop 0).take (min at_ one.length - 0)) = _
    rw [List.drop_zero, Nat.sub_zero, Nat.min_eq_left (by omega)]
  have e2 : (cutS one (some ((at_ : Int) + 1)) none).cps.toList = one.cps.toList.drop (at_ + 1) := by
    unfold cutS
    rw [HT.sIx_none, show ((at_ : Int) + 1) = ((at_ + 1 : Nat) : Int) by omega, HT.sIx_nat]
    show ((one.cps.toList.drop (min (at_ + 1) one.length)).take (one.length - min (at_ + 1) one.length)) = _
    rw [Nat.min_eq_left (by omega)]
    refine List.take_of_length_le ?_
    rw [List.length_drop, len_tl]
    omega
  have e3 : (cutS one none (some (at_ : Int)) ++ (⟨#[c]⟩ : Str) ++ cutS one (some ((at_ : Int) + 1)) none).cps.toList = one.cps.toList.take at_ ++ [c] ++ one.cps.toList.drop (at_ + 1) := by
    rw [tl_app, tl_app, e1, e2]
  have el : (cutS one none (some (at_ : Int)) ++ (⟨#[c]⟩ : Str) ++ cutS one (some ((at_ : Int) + 1)) none).length = one.length := by
    rw [← len_tl, e3, List.length_append, List.length_append, List.length_take, List.length_drop, len_tl]
    show min at_ one.length + 1 + (one.length - (at_ + 1)) = one.length
    omega
  refine ⟨by rw [el]; exact h.1, by rw [el]; exact h.2.1, fun d hd => ?_⟩
  rw [e3] at hd
  rcases List.mem_append.mp hd with q | q
  · rcases List.mem_append.mp q with q | q
    · exact h.2.2 d (List.mem_of_mem_take q)
    · rw [List.mem_singleton.mp q]
      exact hc
  · exact h.2.2 d (List.mem_of_mem_drop q)
section
variable {P : Program} {w : World} {K : PySem.W.Frag} {mg : Str → Option Value} {base : Heap}
/-! ### the bag -/
theorem scBag : FnScope ["_law_script", "_law_at", "_law_cell", "_law_digits"] ["_law_script", "_law_at"] (defScope sBag) := ⟨rfl, rfl, rfl, by decide +kernel, rfl, by decide +kernel, by decide +kernel⟩
def spBag (K : PySem.W.Frag) : Sp := fun vs H Q _ => ∃ (a : Addr) (ns : List Int) (i : Nat), vs = [.ref a, .int (i : Int)] ∧ SqL K H a (ns.map V.int) ∧ i ≤ 10 ∧ ∀ (p : Addr) (H' : Hp), H p = none → Same H H' → Bag H' p 0 → Q (.ref p) H'
theorem ok_bag {f : Addr} {fd : FuncData} (F : Fun K "_law_bag" "_law_bag" sBag f fd) (zl : mg "len" = none) (za : mg "abs" = none) (zi : mg "int" = none) : FnOk P w K mg base CX0 1 f fd ["_law_script", "_law_at"] (spBag K) := by
  refine F.ok scBag (fun vs H Q E h => ?_) (fun cdv A outer s H vs Q E hr h => ?_)
  · obtain ⟨a, ns, i, rfl, _⟩ := h
    rfl
  · obtain ⟨a, ns, i, rfl, hS, hi, q⟩ := h
    refine ⟨_, C8.pss_cut (ps_set (i := 2) scBag.nd rfl (Or.inl rfl) (pe_ifExp (pt_cmpR op_lt (pv 1) (pe_callB call_len_seq (by rfl) zl PySem.boot_len (pa_cons (pv 0) pa_nil)) (nomark _)) (pe_ix ix_list (pv 0) (pv 1) (fun _ _ => rfl)) pe_int))
      (C8.pss_cut (ps_set (i := 3) scBag.nd rfl (Or.inl rfl) (pe_ifExp (pt_cmpR op_ge (pe_callB call_abs (by rfl) za (by decide +kernel) (pa_cons (pv 2) pa_nil)) (pe_op op_pow pe_int pe_int) (nomark _)) (pe_callB call_abs (by rfl) za (by decide +kernel) (pa_cons (pv 2) pa_nil)) pe_int))
      (pss_one (ps_ret (pe_lst (pa_cons (pv 3) (pa_cons (pe_op op_add (pe_op op_add (pe_op op_mod (pe_callTy call_int1 (by rfl) zi (by decide +kernel) (pa_cons (pv 2) pa_nil)) pe_int) (pe_op op_mul pe_int (pv 1))) pe_int) (pa_cons pe_int pa_nil))))))), ?_⟩
    refine ⟨fun σ H' => H' = H ∧ ∃ n : Int, σ = [some (.ref a), some (.int i), some (.int n), none], ?_, ?_⟩
    · refine ⟨_, rfl, _, rfl, a, _, rfl, .inl hS, _, _, rfl, rfl, _, rfl, ite2 (fun h1 => ?_) (fun h1 => ?_)⟩
      · have h2 : i < (ns.map V.int).length := by
          have h2 := of_decide_eq_true h1
          omega
        have h3 : i < ns.length := by rw [List.length_map] at h2; exact h2
        exact ⟨_, rfl, _, rfl, a, _, _, .int ns[i], rfl, rfl, hS, atI_nat (by rw [List.getElem?_map, List.getElem?_eq_getElem h3]; rfl), rfl, ns[i], rfl⟩
      · exact ⟨rfl, 0, rfl⟩
    · rintro σ H' ⟨rfl, n, rfl⟩
      refine ⟨fun σ H2 => H2 = H' ∧ ∃ d : Int, σ = [some (.ref a), some (.int i), some (.int n), some (.int d)], ?_, ?_⟩
      · refine ⟨_, rfl, n, rfl, _, _, rfl, rfl, ⟨by omega, by omega, by omega⟩, _, _, rfl, rfl, _, rfl, ite2 (fun h1 => ?_) (fun h1 => ?_)⟩
        · exact ⟨_, rfl, n, rfl, rfl, _, rfl⟩
        · exact ⟨rfl, 0, rfl⟩
      · rintro σ H2 ⟨rfl, d, rfl⟩
        refine ⟨_, rfl, _, rfl, .inl ⟨n, rfl, _, _, rfl, rfl, (by show (0 : Int) < 1152921504606846883; decide), _, rfl, _, _, rfl, rfl, .inl ⟨by omega, by omega⟩, _, _, rfl, rfl, _, _, rfl, rfl, line100 (by show 3 ≤ 1000; decide), fun l hl => ?_⟩⟩
        have m0 : 0 ≤ n % 1152921504606846883 := Int.emod_nonneg _ (by decide)
        have m1 : n % 1152921504606846883 < 1152921504606846883 := Int.emod_lt_of_pos _ (by decide)
        exact q l _ hl (same_up (Same.refl _) hl) ⟨d, _, 0, upd_same, by omega, by omega, by omega, by omega⟩
/-! ### a name -/
theorem scName : FnScope ["_law_bag_here", "_law_letters", "_law_turn"] ["_law_bag_here"] (defScope sName) := ⟨rfl, rfl, rfl, by decide +kernel, rfl, by decide +kernel, by decide +kernel⟩
def spName : Sp := fun vs H Q _ => ∃ (p : Addr) (k : Nat), vs = [.ref p] ∧ Bag H p k ∧ k ≤ 10000000 ∧ ∀ (z : Str) (H' : Hp), IsNm z → Bag H' p (k + 9) → But p H H' → Q (.str z) H'
theorem ok_name {f f1 : Addr} {fd fd1 : FuncData} (F : Fun K "_law_name" "_law_name" sName f fd) (D : Df P w K mg base 1 "_law_draw" ["_law_bag_here", "_law_many"] spDraw f1 fd1) (zr : mg "range" = none) : FnOk P w K mg base CX0 2 f fd ["_law_bag_here"] spName := by
  refine F.ok scName (fun vs H Q E h => ?_) (fun cdv A outer s H vs Q E hr h => ?_)
  · obtain ⟨p, k, rfl, _⟩ := h
    rfl
  · obtain ⟨p, k, rfl, hB, hk, q⟩ := h
    refine ⟨_, pss_cons (ps_set (i := 1) scName.nd rfl (Or.inr rfl) pe_str)
      (pss_one (ps_ret (pe_join pe_str (pe_lc (own := [("_law_turn", 2)]) (g := gName 2) (tt := tYes) rfl scName.nd
        (pi_range1 (by rfl) zr (pa_cons (pe_op op_add pe_int (pe_call D.ok hr (by rfl) D.gl D.kp D.bi .nil pass0 (pa_cons (pv 0) (pa_cons pe_int pa_nil)))) pa_nil))
        (blkOk_by (own := [("_law_turn", 2)]) (N := ["_law_bag_here", "_law_letters", "_law_turn"]) (sc := defScope sName) (by decide +kernel)) (fun _ _ _ _ _ => pg_name (i := 2) scName.nd rfl (Or.inl rfl)) (fun _ _ _ _ _ => pts_nil)
        (fun _ _ _ _ _ => pe_ix ix_str (pv 1) (pe_call D.ok hr (by rfl) D.gl D.kp D.bi .nil pass0 (pa_cons (pv 0) (pa_cons pe_int pa_nil))) (fun _ _ => rfl)))))), ?_⟩
    refine ⟨⟨_, rfl⟩, _, rfl, p, 8, k, rfl, hB, by omega, by omega, by omega, fun d H1 d0 d1 hB1 hb1 => ?_⟩
    refine ⟨1, d, rfl, rfl, 1 + d, rfl, by omega, by omega, fun D' hD => ?_⟩
    have npD : D' ≠ p := fun e => hB1.some (e ▸ hD)
    refine lc_range (lo := 0) (n := (1 + d).toNat) (fun i H' => ∃ ys : List Str, H' D' = some (.lst (ys.map V.str)) ∧ ys.length = i ∧ (∀ y, y ∈ ys → ∃ c, y = ⟨#[c]⟩ ∧ Let c) ∧ Bag H' p (k + 1 + i) ∧ But p H H')
      ⟨[], upd_same, rfl, fun _ h => (nomatch h), hB1.up hD, hb1.up hD⟩ ?_ ?_
    · rintro i H' hi ⟨ys, hl, ely, hys, hB', hb'⟩
      refine ⟨rfl, ?_⟩
      refine ⟨_, rfl, _, rfl, p, 26, k + 1 + i, rfl, hB', by omega, by omega, by omega, fun c H3 c0 c1 hB3 hb3 => ?_⟩
      obtain ⟨j, rfl⟩ : ∃ j : Nat, c = (j : Int) := ⟨c.toNat, by omega⟩
      have hl3 := hb3 D' _ npD hl
      refine ⟨abc, _, 97 + j, rfl, rfl, abc_len, atI_nat (abc_get j (by omega)), _, hl3, small1000 (by rw [List.length_map]; omega), ys ++ [⟨#[97 + j]⟩], ?_, by rw [List.length_append, ely]; rfl, fun y hy => ?_, ?_, ?_⟩
      · rw [upd_same, List.map_append]
        rfl
      · rcases List.mem_append.mp hy with z | z
        · exact hys y z
        · exact ⟨97 + j, List.mem_singleton.mp z, by omega, by omega⟩
      · exact (hB3.at (upd_ne npD.symm)).mono (by omega)
      · refine (hb'.trans hb3).own ?_
        exact hb1.free hB1.some hD
    · rintro H' ⟨ys, hl, ely, hys, hB', hb'⟩
      refine ⟨Str.empty, D', ys, rfl, rfl, .inl (SqL.of hl), ?_, ?_⟩
      · have e : ∀ zs : List Str, (∀ y, y ∈ zs → ∃ c, y = ⟨#[c]⟩ ∧ Let c) → (zs.map (·.length)).sum = zs.length := fun zs => by
          induction zs with
          | nil => intro _; rfl
          | cons y r ih =>
            intro h
            obtain ⟨c, rfl, _⟩ := h y List.mem_cons_self
            rw [List.map_cons, List.sum_cons, ih fun x hx => h x (List.mem_cons_of_mem _ hx), List.length_cons]
            show 1 + r.length = r.length + 1
            omega
        rw [e ys hys]
        show ys.length + ys.length * 0 ≤ 16777216
        omega
      · exact q _ H' (nm_join hys (by omega) (by omega)) (hB'.mono (by omega)) hb'
end
end K29

/-! names, names of numbers -/
namespace K29
open PySem PySem.Spec PyProof.Rows L2
section
variable {P : Program} {w : World} {K : PySem.W.Frag} {mg : Str → Option Value} {base : Heap}
theorem scNames : FnScope ["_law_bag_here", "_law_many", "_law_found", "_law_turn", "_law_name_here", "_law_one", "_law_at"] ["_law_bag_here", "_law_many"] (defScope sNames) := ⟨rfl, rfl, rfl, by decide +kernel, rfl, by decide +kernel, by decide +kernel⟩
/-- unlike names -/
def Nms (ns : List Str) : Prop := ns.Nodup ∧ ∀ n, n ∈ ns → IsNm n
def spNames : Sp := fun vs H Q _ => ∃ (p : Addr) (m k : Nat), vs = [.ref p, .int (m : Int)] ∧ 1 ≤ m ∧ m ≤ 13 ∧ Bag H p k ∧ k ≤ 1000000 ∧
  ∀ (l : Addr) (ns : List Str) (H' : Hp), H l = none → H' l = some (.lst (ns.map V.str)) → Nms ns → 1 ≤ ns.length → ns.length ≤ 13 → Bag H' p (k + 200) → But p H H' → Q (.ref l) H'
theorem ok_names {f f1 f2 f3 : Addr} {fd fd1 fd2 fd3 : FuncData} (F : Fun K "_law_names" "_law_names" sNames f fd) (D : Df P w K mg base 1 "_law_draw" ["_law_bag_here", "_law_many"] spDraw f1 fd1)
    (O : Df P w K mg base 2 "_law_of" ["_law_bag_here", "_law_some"] spOf f2 fd2) (N : Df P w K mg base 2 "_law_name" ["_law_bag_here"] spName f3 fd3) (zr : mg "range" = none) (zl : mg "len" = none) :
    FnOk P w K mg base CX0 3 f fd ["_law_bag_here", "_law_many"] spNames := by
  refine F.ok scNames (fun vs H Q E h => ?_) (fun cdv A outer s H vs Q E hr h => ?_)
  · obtain ⟨p, m, k, rfl, _⟩ := h
    rfl
  · obtain ⟨p, m, k, rfl, hm1, hm2, hB, hk, q⟩ := h
    have hr1 : Room 1 _ := hr.mono (by decide)
    refine ⟨_, pss_cons (ps_set (i := 2) scNames.nd rfl (Or.inl rfl) (pe_lst (pa_cons (pe_call N.ok hr (by rfl) N.gl N.kp N.bi .nil pass0 (pa_cons (pv 0) pa_nil)) pa_nil)))
      (pss_cons (ps_for PassesOwn.never rfl (pi_range1 (by rfl) zr (pa_cons (pe_op op_sub (pv 1) pe_int) pa_nil)) (pg_name (i := 3) scNames.nd rfl (Or.inl rfl))
        (pss_cons (ps_set (i := 4) scNames.nd rfl (Or.inl rfl) (pe_call N.ok hr (by rfl) N.gl N.kp N.bi .nil pass0 (pa_cons (pv 0) pa_nil)))
        (C8.pss_cut (ps_if (pt_cmpR op_eq (pe_call D.ok hr1 (by rfl) D.gl D.kp D.bi .nil pass0 (pa_cons (pv 0) (pa_cons pe_int pa_nil))) pe_int (nomark _))
          (pss_cons (ps_set (i := 5) scNames.nd rfl (Or.inl rfl) (pe_call O.ok hr (by rfl) O.gl O.kp O.bi .nil pass0 (pa_cons (pv 0) (pa_cons (pv 2) pa_nil))))
          (pss_cons (ps_set (i := 6) scNames.nd rfl (Or.inl rfl) (pe_call D.ok hr1 (by rfl) D.gl D.kp D.bi .nil pass0 (pa_cons (pv 0) (pa_cons (pe_callB call_len_str (by rfl) zl PySem.boot_len (pa_cons (pv 5) pa_nil)) pa_nil))))
          (pss_one (ps_set (i := 4) scNames.nd rfl (Or.inl rfl) (pe_op op_add_str (pe_op op_add_str (pe_slice sl_str (pv 5) po_none (po_some (pv 6))) (pe_ix ix_str (pv 4) pe_int (fun _ _ => rfl)))
            (pe_slice sl_str (pv 5) (po_some (pe_op op_add (pv 6) pe_int)) po_none)))))) pss_nil)
        (pss_one (ps_if (pt_cmpR op_notIn_seq (pv 4) (pv 2) (by rfl)) (pss_one (ps_expr (pe_bm PySem.F.plainAttrs_list PySem.F.slot_list_append PySem.F.type_list_append mt_append (pv 2) (pa_cons (pv 4) pa_nil)))) pss_nil)))))
      (pss_one (ps_ret (pv 2)))), ?_⟩
    refine ⟨_, rfl, p, k, rfl, hB, by omega, fun z H1 hz hB1 hb1 => ⟨line100 (by show 1 ≤ 1000; decide), fun l hl => ?_⟩⟩
    have npl : l ≠ p := fun e => hB1.some (e ▸ hl)
    have hl0 : H l = none := hb1.free hB1.some hl
    refine ⟨_, rfl, _, _, rfl, rfl, _, rfl, by omega, by omega, for_range (lo := 0) (n := ((m : Int) - 1).toNat)
      (fun i σ H' => ∃ (ns : List Str) (x3 x4 x5 x6 : Option V), σ = [some (.ref p), some (.int m), some (.ref l), x3, x4, x5, x6] ∧ H' l = some (.lst (ns.map V.str)) ∧ Nms ns ∧ 1 ≤ ns.length ∧ ns.length ≤ i + 1 ∧ Bag H' p (k + 9 + 12 * i) ∧ But p H H')
      ⟨[z], none, none, none, none, rfl, upd_same, ⟨by simp, fun n hn => by rw [List.mem_singleton.mp hn]; exact hz⟩, Nat.le_refl _, Nat.le_refl _, hB1.up hl, hb1.up hl⟩ ?_ ?_⟩
    · rintro i σ H2 hi ⟨ns, x3, x4, x5, x6, rfl, hl2, hn, h1, h2, hB2, hb2⟩
      refine ⟨_, rfl, p, _, rfl, hB2, by omega, fun y H3 hy hB3 hb3 => ?_⟩
      have hl3 := hb3 l _ npl hl2
      refine ⟨fun σ H4 => ∃ (y : Str) (x3 x5 x6 : Option V), σ = [some (.ref p), some (.int m), some (.ref l), x3, some (.str y), x5, x6] ∧ IsNm y ∧ H4 l = some (.lst (ns.map V.str)) ∧ Bag H4 p (k + 9 + 12 * i + 12) ∧ But p H H4, ?_, ?_⟩
      · refine ⟨_, rfl, p, 2, _, rfl, hB3, by omega, by omega, by omega, fun d H4 d0 d1 hB4 hb4 => ?_⟩
        have hl4 := hb4 l _ npl hl3
        refine ⟨rfl, _, rfl, ite2 (fun h3 => ?_) (fun h3 => ?_)⟩
        · refine ⟨_, rfl, _, rfl, p, l, _, _, rfl, npl.symm, hB4, by omega, hl4, by rw [List.length_map]; exact h1, by rw [List.length_map]; omega, fun j v H5 hv hB5 hb5 => ?_⟩
          have hl5 := hb5 l _ npl hl4
          obtain ⟨one, ho, rfl⟩ : ∃ one, one ∈ ns ∧ v = .str one := by
            obtain ⟨one, ho, e⟩ := List.mem_map.mp (List.mem_of_getElem? hv)
            exact ⟨one, ho, e.symm⟩
          have hno := hn.2 one ho
          refine ⟨_, rfl, _, rfl, one, rfl, line100 (by have := hno.2.1; omega), p, (one.length : Int), _, rfl, hB5, by omega, by have := hno.1; omega, by have := hno.2.1; omega, fun a H6 a0 a1 hB6 hb6 => ?_⟩
          have hl6 := hb6 l _ npl hl5
          obtain ⟨j2, rfl⟩ : ∃ j2 : Nat, a = (j2 : Int) := ⟨a.toNat, by omega⟩
          have hj2 : j2 < one.length := by omega
          -- one[:at] + name[0] + one[at + 1:]
          obtain ⟨c, hc⟩ : ∃ c, y.cps.toList[0]? = some c := ⟨_, List.getElem?_eq_getElem (by rw [len_tl]; exact hy.1)⟩
          have hcl : Let c := hy.2.2 c (List.mem_of_getElem? hc)
          have h8 := hno.2.1
          have l1 := cutS_length one none (some (j2 : Int))
          have l2 := cutS_length one (some ((j2 : Int) + 1)) none
          refine ⟨_, rfl, _, rfl, _, rfl, one, rfl, line100 (by omega), ?_⟩
          refine ⟨_, rfl, y, 0, c, rfl, rfl, line100 (by have := hy.2.1; omega), atI_nat (j := 0) hc, ?_⟩
          refine ⟨_, _, rfl, rfl, line100 (by rw [one_len]; omega), ?_⟩
          refine ⟨_, rfl, _, rfl, _, _, rfl, rfl, _, rfl, one, rfl, line100 (by omega), ?_⟩
          refine ⟨_, _, rfl, rfl, line100 (by rw [len_app, one_len]; omega), ?_⟩
          exact ⟨_, _, _, _, rfl, nm_mix hno hj2 hcl, hl6, hB6.mono (by omega), (((hb2.trans hb3).trans hb4).trans hb5).trans hb6⟩
        · exact ⟨y, _, _, _, rfl, hy, hl4, hB4.mono (by omega), (hb2.trans hb3).trans hb4⟩
      · rintro σ H4 ⟨y, x3, x5, x6, rfl, hy, hl4, hB4, hb4⟩
        refine ⟨_, rfl, _, rfl, l, _, rfl, .inl (SqL.of hl4), rfl, flat_strs ns, _, rfl, ite2 (fun h3 => ?_) (fun h3 => ?_)⟩
        · have hni : ¬ y ∈ ns := by
            have h3 : (!inV (.str y) (ns.map V.str)) = true := h3
            rw [inV_str] at h3
            simpa using h3
          refine ⟨_, rfl, .inl ⟨rfl, _, SqL.of hl4⟩, _, rfl, l, _, _, rfl, rfl, hl4, small1000 (by rw [List.length_map]; omega), ?_⟩
          refine ⟨ns ++ [y], _, _, _, _, rfl, ?_, ⟨nd_snoc hn.1 hni, fun n h => ?_⟩, by rw [List.length_append]; omega, by rw [List.length_append]; show ns.length + 1 ≤ i + 1 + 1; omega, (hB4.at (upd_ne npl.symm)).mono (by omega), hb4.own hl0⟩
          · rw [upd_same, List.map_append]
            rfl
          · rcases List.mem_append.mp h with q2 | q2
            · exact hn.2 n q2
            · rw [List.mem_singleton.mp q2]
              exact hy
        · exact ⟨ns, _, _, _, _, rfl, hl4, hn, h1, by omega, hB4.mono (by omega), hb4⟩
    · rintro σ H2 ⟨ns, x3, x4, x5, x6, rfl, hl2, hn, h1, h2, hB2, hb2⟩
      refine ⟨_, rfl, ?_⟩
      exact q l ns H2 hl0 hl2 hn h1 (by omega) (hB2.mono (by omega)) hb2
/-! ### names of numbers, and zero -/
theorem scNumbers : FnScope ["_law_bag_here", "_law_many", "_law_name_here"] ["_law_bag_here", "_law_many"] (defScope sNumbers) := ⟨rfl, rfl, rfl, by decide +kernel, rfl, by decide +kernel, by decide +kernel⟩
def spNumbers : Sp := fun vs H Q _ => ∃ (p : Addr) (m k : Nat), vs = [.ref p, .int (m : Int)] ∧ 1 ≤ m ∧ m ≤ 13 ∧ Bag H p k ∧ k ≤ 1000000 ∧
  ∀ (l : Addr) (ns : List Str) (H' : Hp), H l = none → H' l = some (.lst (ns.map V.str)) → Nms ns → zs ∈ ns → ns.length ≤ 14 → Bag H' p (k + 200) → But p H H' → Q (.ref l) H'
theorem ok_numbers {f f1 : Addr} {fd fd1 : FuncData} (F : Fun K "_law_numbers" "_law_numbers" sNumbers f fd) (N : Df P w K mg base 3 "_law_names" ["_law_bag_here", "_law_many"] spNames f1 fd1) :
    FnOk P w K mg base CX0 4 f fd ["_law_bag_here", "_law_many"] spNumbers := by
  refine F.ok scNumbers (fun vs H Q E h => ?_) (fun cdv A outer s H vs Q E hr h => ?_)
  · obtain ⟨p, m, k, rfl, _⟩ := h
    rfl
  · obtain ⟨p, m, k, rfl, hm1, hm2, hB, hk, q⟩ := h
    refine ⟨_, pss_one (ps_ret (pe_op op_cat (pe_lc (own := [("_law_name_here", 2)]) (g := gName 2) rfl scNumbers.nd
        (pi_list (pe_call N.ok hr (by rfl) N.gl N.kp N.bi .nil pass0 (pa_cons (pv 0) (pa_cons (pv 1) pa_nil))))
        (blkOk_by (own := [("_law_name_here", 2)]) (N := ["_law_bag_here", "_law_many", "_law_name_here"]) (sc := defScope sNumbers) (by decide +kernel)) (fun _ _ _ _ _ => pg_name (i := 2) scNumbers.nd rfl (Or.inl rfl))
        (fun _ _ _ _ _ => pts_one (pt_cmpR op_ne (pv 2) pe_str (nomark _))) (fun _ _ _ _ _ => pv 2)) (pe_lst (pa_cons pe_str pa_nil)))), ?_⟩
    refine ⟨_, rfl, _, rfl, p, m, k, rfl, hm1, hm2, hB, hk, fun l ns H1 hl0 hl hn h1 h2 hB1 hb1 => ?_⟩
    refine ⟨l, rfl, ⟨_, SqL.of hl⟩, fun D' hD => ?_⟩
    have npD : D' ≠ p := fun e => hB1.some (e ▸ hD)
    have nlD : l ≠ D' := ne_of_none hl hD
    refine lc_list (K := K) (a := l) (xs := ns.map V.str) (fun i H' => H' = upd H1 D' (.lst (((ns.take i).filter fun x => decide (x ≠ zs)).map V.str))) rfl (fun i H' _ e => ?_) ?_ ?_
    · subst e
      exact SqL.of (by rw [upd_ne nlD]; exact hl)
    · rintro i x H' hx rfl
      obtain ⟨y, hy, rfl⟩ : ∃ y, ns[i]? = some y ∧ x = .str y := by
        rw [List.getElem?_map] at hx
        cases e : ns[i]? with
        | none => rw [e] at hx; cases hx
        | some y => rw [e] at hx; cases hx; exact ⟨y, rfl, rfl⟩
      have hi : i < ns.length := (List.getElem?_eq_some_iff.mp hy).1
      have et : ns.take (i + 1) = ns.take i ++ [y] := by rw [List.take_add_one, hy]; rfl
      refine ⟨rfl, _, rfl, rfl, _, rfl, ?_⟩
      have ed : decide (V.str y = V.str zs) = decide (y = zs) := by
        rw [Bool.eq_iff_iff, decide_eq_true_eq, decide_eq_true_eq]
        exact ⟨fun e => V.str.inj e, fun e => by rw [e]⟩
      show if (!decide (V.str y = V.str zs)) = true then _ else _
      rw [ed]
      by_cases e : y = zs
      · rw [decide_eq_true e]
        show upd H1 D' _ = _
        rw [et, List.filter_append]
        simp [e]
      · rw [decide_eq_false e]
        refine ⟨_, rfl, _, upd_same, small1000 ?_, ?_⟩
        · rw [List.length_map]
          have a := List.length_filter_le (fun x => decide (x ≠ zs)) (ns.take i)
          rw [List.length_take] at a
          omega
        · rw [upd_upd, et, List.filter_append, List.map_append]
          simp [e]
    · rintro H' rfl
      rw [List.length_map, List.take_length]
      refine ⟨line100 (by show 1 ≤ 1000; decide), fun e he => ?_⟩
      have nDe : D' ≠ e := ne_of_none upd_same he
      have he1 : H1 e = none := by
        rw [upd_ne nDe.symm] at he
        exact he
      refine ⟨D', e, _, _, rfl, rfl, Eq.trans (upd_ne nDe) upd_same, upd_same, ?_, fun r hrn => ?_⟩
      · have a := List.length_filter_le (fun x => decide (x ≠ zs)) ns
        rw [List.length_map]
        exact line100 (by show _ + 1 ≤ 1000; omega)
      · have hb2 : But p H (upd (upd H1 D' (.lst ((ns.filter fun x => decide (x ≠ zs)).map V.str))) e (.lst [.str zs])) := (hb1.up hD).up he
        have hB2 := ((hB1.up (o := .lst ((ns.filter fun x => decide (x ≠ zs)).map V.str)) hD).up (o := .lst [.str zs]) he)
        refine q r (ns.filter (fun x => decide (x ≠ zs)) ++ [zs]) _ (hb2.free hB2.some hrn) ?_ ⟨nd_snoc (hn.1.filter _) (by simp), fun n hn' => ?_⟩ (List.mem_append.mpr (.inr (List.mem_singleton.mpr rfl))) ?_ (hB2.up hrn) (hb2.up hrn)
        · rw [upd_same, List.map_append]
          rfl
        · rcases List.mem_append.mp hn' with z | z
          · exact hn.2 n (List.mem_filter.mp z).1
          · rw [List.mem_singleton.mp z]
            exact isNm_zero
        · have a := List.length_filter_le (fun x => decide (x ≠ zs)) ns
          rw [List.length_append]
          show _ + 1 ≤ 14
          omega
end
end K29

/-! bounds that values keep; any bounds -/
namespace K29
open PySem PySem.Spec PyProof.Rows L2
theorem dget_str {H : Hp} {d : Addr} {kvs : List (Key × V)} {x : Str} {v : V} (e : H d = some (.dK kvs)) (h : valV kvs (Sum.inr x) = some v) : DGet H d (.str x) (some v) := by
  rw [← h]
  exact DGet.k (k := Sum.inr x) e
theorem strs_get {ns : List Str} {i : Nat} {v : V} (h : (ns.map V.str)[i]? = some v) : ∃ y, y ∈ ns ∧ v = .str y := by
  obtain ⟨y, hy, e⟩ := List.mem_map.mp (List.mem_of_getElem? h)
  exact ⟨y, hy, e.symm⟩
theorem dec_str {x y : Str} : decide (V.str x = V.str y) = decide (x = y) := by
  rw [Bool.eq_iff_iff, decide_eq_true_eq, decide_eq_true_eq]
  exact ⟨fun e => V.str.inj e, fun e => by rw [e]⟩
/-- one of the names -/
def On (ns : List Str) (b : Bn) : Prop := GB b ∧ b.u ∈ ns ∧ b.v ∈ ns
section
variable {P : Program} {w : World} {K : PySem.W.Frag} {mg : Str → Option Value} {base : Heap}
theorem scKept : FnScope ["_law_bag_here", "_law_names_here", "_law_values", "_law_many", "_law_found", "_law_turn", "_law_u", "_law_v", "_law_slack"] ["_law_bag_here", "_law_names_here", "_law_values", "_law_many"] (defScope sKept) :=
  ⟨rfl, rfl, rfl, by decide +kernel, rfl, by decide +kernel, by decide +kernel⟩
def spKept : Sp := fun vs H Q _ => ∃ (p l d : Addr) (ns : List Str) (kvs : List (Key × V)) (val : Str → Int) (m k : Nat), vs = [.ref p, .ref l, .ref d, .int (m : Int)] ∧ m ≤ 40 ∧ Bag H p k ∧ k ≤ 1000000 ∧
  p ≠ l ∧ H l = some (.lst (ns.map V.str)) ∧ Nms ns ∧ 1 ≤ ns.length ∧ ns.length ≤ 14 ∧ H d = some (.dK kvs) ∧ (∀ n, n ∈ ns → valV kvs (Sum.inr n) = some (.int (val n))) ∧
  ∀ (r : Addr) (xs : List (Addr × Bn)) (H' : Hp), H r = none → H' r = some (.lst (rf xs)) → Bs H' xs → (∀ x, x ∈ xs → On ns x.2) → Keeps (bb xs) val → xs.length ≤ m → Bag H' p (k + 200) → But p H H' → Q (.ref r) H'
theorem ok_kept {f f1 f2 : Addr} {fd fd1 fd2 : FuncData} (F : Fun K "_law_kept" "_law_kept" sKept f fd) (D : Df P w K mg base 1 "_law_draw" ["_law_bag_here", "_law_many"] spDraw f1 fd1)
    (O : Df P w K mg base 2 "_law_of" ["_law_bag_here", "_law_some"] spOf f2 fd2) (zr : mg "range" = none) : FnOk P w K mg base CX0 3 f fd ["_law_bag_here", "_law_names_here", "_law_values", "_law_many"] spKept := by
  refine F.ok scKept (fun vs H Q E h => ?_) (fun cdv A outer s H vs Q E hr h => ?_)
  · obtain ⟨p, l, d, ns, kvs, val, m, k, rfl, _⟩ := h
    rfl
  · obtain ⟨p, l, d, ns, kvs, val, m, k, rfl, hm, hB, hk, npl, hl, hn, h1, h2, hd, hv, q⟩ := h
    have hr1 : Room 1 _ := hr.mono (by decide)
    refine ⟨_, pss_cons (ps_set (i := 4) scKept.nd rfl (Or.inl rfl) (pe_lst pa_nil))
      (pss_cons (ps_for PassesOwn.never rfl (pi_range1 (by rfl) zr (pa_cons (pv 3) pa_nil)) (pg_name (i := 5) scKept.nd rfl (Or.inl rfl))
        (pss_cons (ps_par (i := 6) (j := 7) (by rfl) scKept.nd rfl rfl (by decide) rfl rfl (pa_cons (pe_call O.ok hr (by rfl) O.gl O.kp O.bi .nil pass0 (pa_cons (pv 0) (pa_cons (pv 1) pa_nil)))
            (pa_cons (pe_call O.ok hr (by rfl) O.gl O.kp O.bi .nil pass0 (pa_cons (pv 0) (pa_cons (pv 1) pa_nil))) pa_nil)) (by rfl))
        (pss_cons (ps_set (i := 8) scKept.nd rfl (Or.inl rfl) (pe_call O.ok hr (by rfl) O.gl O.kp O.bi .nil pass0 (pa_cons (pv 0) (pa_cons (pe_lst (pa_cons pe_int (pa_cons pe_int (pa_cons pe_int (pa_cons pe_int
            (pa_cons (pe_call D.ok hr1 (by rfl) D.gl D.kp D.bi .nil pass0 (pa_cons (pv 0) (pa_cons (pe_op op_pow pe_int pe_int) pa_nil))) pa_nil)))))) pa_nil))))
        (pss_one (ps_if (pt_cmpR op_ne (pv 6) (pv 7) (nomark _)) (pss_one (ps_expr (pe_bm PySem.F.plainAttrs_list PySem.F.slot_list_append PySem.F.type_list_append mt_append (pv 4) (pa_cons (pe_tup (pa_cons (pv 6) (pa_cons (pv 7)
            (pa_cons (pe_op op_add (pe_op op_sub (pe_dget (hu_of hr) (pv 2) (pv 6) (fun _ _ => rfl)) (pe_dget (hu_of hr) (pv 2) (pv 7) (fun _ _ => rfl))) (pv 8)) pa_nil)))) pa_nil)))) pss_nil)))))
      (pss_one (ps_ret (pv 4)))), ?_⟩
    refine ⟨Nat.zero_le _, fun r hr0 => ?_⟩
    have nrp : r ≠ p := fun e => hB.some (e ▸ hr0)
    have nlr : l ≠ r := ne_of_none hl hr0
    have ndr : d ≠ r := ne_of_none hd hr0
    have ndp : d ≠ p := by
      obtain ⟨ys, e⟩ := hB.lst
      exact ne_of hd e (fun z => nomatch z)
    have s1 : Same H (upd H r (.lst [])) := same_up (Same.refl H) hr0
    refine ⟨_, rfl, _, rfl, by omega, by omega, for_range (lo := 0) (n := ((m : Nat) : Int).toNat) (fun i σ H' => ∃ (xs : List (Addr × Bn)) (x5 x6 x7 x8 : Option V), σ = [some (.ref p), some (.ref l), some (.ref d), some (.int m), some (.ref r), x5, x6, x7, x8] ∧
      H' r = some (.lst (rf xs)) ∧ Bs H' xs ∧ (∀ x, x ∈ xs → On ns x.2) ∧ Keeps (bb xs) val ∧ xs.length ≤ i ∧ Bag H' p (k + 4 * i) ∧ But p H H') ⟨[], none, none, none, none, rfl, upd_same, Bs.nil, fun _ h => (nomatch h), fun _ h => (nomatch h), Nat.le_refl _, hB.same s1, But.same s1⟩ ?_ ?_⟩
    · rintro i σ H1 hi ⟨xs, x5, x6, x7, x8, rfl, e1, b1, o1, k1, z1, hB1, hb1⟩
      have l1 := hb1 l _ npl.symm hl
      refine ⟨_, rfl, _, rfl, p, l, _, _, rfl, npl, hB1, by omega, l1, by rw [List.length_map]; exact h1, by rw [List.length_map]; omega, fun i1 v1 H2 g1 hB2 hb2 => ?_⟩
      have l2 := hb2 l _ npl.symm l1
      obtain ⟨u, hu, rfl⟩ := strs_get g1
      refine ⟨_, rfl, _, rfl, p, l, _, _, rfl, npl, hB2, by omega, l2, by rw [List.length_map]; exact h1, by rw [List.length_map]; omega, fun i2 v2 H3 g2 hB3 hb3 => ?_⟩
      obtain ⟨v, hv2, rfl⟩ := strs_get g2
      refine ⟨_, _, rfl, ?_⟩
      -- slack
      refine ⟨_, rfl, _, rfl, _, _, rfl, rfl, ⟨by decide, by decide, by decide⟩, p, _, _, rfl, hB3, by omega, by decide, by decide, fun dr H4 d0 d1 hB4 hb4 => ?_⟩
      refine ⟨line100 (by show 5 ≤ 1000; decide), fun l5 hl5 => ?_⟩
      have n5 : p ≠ l5 := fun e => hB4.some (e ▸ hl5)
      refine ⟨p, l5, _, _, rfl, n5, hB4.up hl5, by omega, upd_same, (by show 1 ≤ 5; decide), (by show 5 ≤ 1000; decide), fun i5 v5 H5 g5 hB5 hb5 => ?_⟩
      obtain ⟨sl, s0, rfl⟩ : ∃ sl : Int, 0 ≤ sl ∧ v5 = .int sl := by
        have m5 := List.mem_of_getElem? g5
        simp only [List.mem_cons, List.not_mem_nil, or_false] at m5
        rcases m5 with e | e | e | e | e
        · exact ⟨0, by omega, e⟩
        · exact ⟨0, by omega, e⟩
        · exact ⟨1, by omega, e⟩
        · exact ⟨5, by omega, e⟩
        · exact ⟨dr, d0, e⟩
      have hbA : But p H1 H5 := (((hb2.trans hb3).trans hb4).trans (But.same (same_up (Same.refl _) hl5))).trans hb5
      have e5 := hbA r _ nrp e1
      have b5 : Bs H5 xs := b1.bag hB1 hbA
      have dd5 := hbA d _ ndp (hb1 d _ ndp hd)
      refine ⟨_, rfl, _, rfl, rfl, _, rfl, ite2 (fun h3 => ?_) (fun h3 => ?_)⟩
      · have nuv : u ≠ v := by
          intro e
          rw [e, decide_eq_true rfl] at h3
          cases h3
        refine ⟨_, rfl, .inl ⟨rfl, _, SqL.of e5⟩, _, rfl, _, rfl, _, rfl, _, rfl, d, _, rfl, dget_str dd5 (hv u hu), _, rfl, _, rfl, d, _, rfl, dget_str dd5 (hv v hv2), _, _, rfl, rfl, _, rfl, _, _, rfl, rfl, line100 (by show 3 ≤ 1000; decide), fun t ht => ?_⟩
        have nrt : r ≠ t := ne_of_none e5 ht
        have ntp : t ≠ p := fun e => hB5.some (e ▸ ht)
        refine ⟨r, _, _, rfl, rfl, Eq.trans (upd_ne nrt) e5, small1000 (by rw [rf_len]; omega), ?_⟩
        have hbB : But p H (upd (upd H5 t (.tup [.str u, .str v, .int (val u - val v + sl)])) r (.lst (rf xs ++ [.ref t]))) := ((hb1.trans hbA).up ht).own hr0
        refine ⟨xs ++ [(t, ⟨u, v, val u - val v + sl⟩)], _, _, _, _, rfl, ?_, ?_, fun x hx => ?_, fun b hb => ?_, by rw [List.length_append]; show xs.length + 1 ≤ i + 1; omega, ?_, hbB⟩
        · rw [upd_same]
          unfold rf
          rw [List.map_append]
          rfl
        · refine Bs.snoc (fun x hx => ?_) ?_
          · show upd _ _ _ _ = _
            rw [upd_ne (ne_of (b5 x hx) e5 fun z => nomatch z), upd_ne (ne_of_none (b5 x hx) ht)]
            exact b5 x hx
          · show upd _ _ _ t = _
            rw [upd_ne nrt.symm, upd_same]
            rfl
        · rcases List.mem_append.mp hx with z | z
          · exact o1 x z
          · rw [List.mem_singleton.mp z]
            exact ⟨⟨hn.2 u hu, hn.2 v hv2, nuv⟩, hu, hv2⟩
        · unfold bb at hb
          rw [List.map_append] at hb
          rcases List.mem_append.mp hb with z | z
          · exact k1 b z
          · have e : b = ⟨u, v, val u - val v + sl⟩ := List.mem_singleton.mp z
            rw [e]
            show val u ≤ val v + (val u - val v + sl)
            omega
        · exact ((hB5.up ht).at (upd_ne nrp.symm)).mono (by omega)
      · exact ⟨xs, _, _, _, _, rfl, e5, b5, o1, k1, by omega, hB5.mono (by omega), hb1.trans hbA⟩
    · rintro σ H1 ⟨xs, x5, x6, x7, x8, rfl, e1, b1, o1, k1, z1, hB1, hb1⟩
      exact ⟨_, rfl, q r xs H1 hr0 e1 b1 o1 k1 (by omega) (hB1.mono (by omega)) hb1⟩
/-! ### any bounds -/
theorem scAny : FnScope ["_law_bag_here", "_law_names_here", "_law_many", "_law_found", "_law_turn", "_law_u", "_law_v", "_law_c"] ["_law_bag_here", "_law_names_here", "_law_many"] (defScope sAny) :=
  ⟨rfl, rfl, rfl, by decide +kernel, rfl, by decide +kernel, by decide +kernel⟩
def spAny : Sp := fun vs H Q _ => ∃ (p l : Addr) (ns : List Str) (m k : Nat), vs = [.ref p, .ref l, .int (m : Int)] ∧ m ≤ 40 ∧ Bag H p k ∧ k ≤ 1000000 ∧
  p ≠ l ∧ H l = some (.lst (ns.map V.str)) ∧ Nms ns ∧ 1 ≤ ns.length ∧ ns.length ≤ 14 ∧
  ∀ (r : Addr) (xs : List (Addr × Bn)) (H' : Hp), H r = none → H' r = some (.lst (rf xs)) → Bs H' xs → (∀ x, x ∈ xs → On ns x.2) → xs.length ≤ m → Bag H' p (k + 200) → But p H H' → Q (.ref r) H'
theorem ok_any {f f1 f2 : Addr} {fd fd1 fd2 : FuncData} (F : Fun K "_law_any" "_law_any" sAny f fd) (D : Df P w K mg base 1 "_law_draw" ["_law_bag_here", "_law_many"] spDraw f1 fd1)
    (O : Df P w K mg base 2 "_law_of" ["_law_bag_here", "_law_some"] spOf f2 fd2) (zr : mg "range" = none) : FnOk P w K mg base CX0 3 f fd ["_law_bag_here", "_law_names_here", "_law_many"] spAny := by
  refine F.ok scAny (fun vs H Q E h => ?_) (fun cdv A outer s H vs Q E hr h => ?_)
  · obtain ⟨p, l, ns, m, k, rfl, _⟩ := h
    rfl
  · obtain ⟨p, l, ns, m, k, rfl, hm, hB, hk, npl, hl, hn, h1, h2, q⟩ := h
    have hr1 : Room 1 _ := hr.mono (by decide)
    refine ⟨_, pss_cons (ps_set (i := 3) scAny.nd rfl (Or.inl rfl) (pe_lst pa_nil))
      (pss_cons (ps_for PassesOwn.never rfl (pi_range1 (by rfl) zr (pa_cons (pv 2) pa_nil)) (pg_name (i := 4) scAny.nd rfl (Or.inl rfl))
        (pss_cons (ps_par (i := 5) (j := 6) (by rfl) scAny.nd rfl rfl (by decide) rfl rfl (pa_cons (pe_call O.ok hr (by rfl) O.gl O.kp O.bi .nil pass0 (pa_cons (pv 0) (pa_cons (pv 1) pa_nil)))
            (pa_cons (pe_call O.ok hr (by rfl) O.gl O.kp O.bi .nil pass0 (pa_cons (pv 0) (pa_cons (pv 1) pa_nil))) pa_nil)) (by rfl))
        (pss_cons (ps_set (i := 7) scAny.nd rfl (Or.inl rfl) (pe_call O.ok hr (by rfl) O.gl O.kp O.bi .nil pass0 (pa_cons (pv 0) (pa_cons (pe_lst (pa_cons pe_int (pa_cons pe_int (pa_cons pe_int (pa_cons (pe_un un_neg pe_int) (pa_cons (pe_un un_neg pe_int)
            (pa_cons (pe_call D.ok hr1 (by rfl) D.gl D.kp D.bi .nil pass0 (pa_cons (pv 0) (pa_cons (pe_op op_pow pe_int pe_int) pa_nil)))
            (pa_cons (pe_un un_neg (pe_call D.ok hr1 (by rfl) D.gl D.kp D.bi .nil pass0 (pa_cons (pv 0) (pa_cons (pe_op op_pow pe_int pe_int) pa_nil)))) pa_nil)))))))) pa_nil))))
        (pss_one (ps_if (pt_cmpR op_ne (pv 5) (pv 6) (nomark _)) (pss_one (ps_expr (pe_bm PySem.F.plainAttrs_list PySem.F.slot_list_append PySem.F.type_list_append mt_append (pv 3) (pa_cons (pe_tup (pa_cons (pv 5) (pa_cons (pv 6)
            (pa_cons (pv 7) pa_nil)))) pa_nil)))) pss_nil)))))
      (pss_one (ps_ret (pv 3)))), ?_⟩
    refine ⟨Nat.zero_le _, fun r hr0 => ?_⟩
    have nrp : r ≠ p := fun e => hB.some (e ▸ hr0)
    have s1 : Same H (upd H r (.lst [])) := same_up (Same.refl H) hr0
    refine ⟨_, rfl, _, rfl, by omega, by omega, for_range (lo := 0) (n := ((m : Nat) : Int).toNat) (fun i σ H' => ∃ (xs : List (Addr × Bn)) (x5 x6 x7 x8 : Option V), σ = [some (.ref p), some (.ref l), some (.int m), some (.ref r), x5, x6, x7, x8] ∧
      H' r = some (.lst (rf xs)) ∧ Bs H' xs ∧ (∀ x, x ∈ xs → On ns x.2) ∧ xs.length ≤ i ∧ Bag H' p (k + 5 * i) ∧ But p H H') ⟨[], none, none, none, none, rfl, upd_same, Bs.nil, fun _ h => (nomatch h), Nat.le_refl _, hB.same s1, But.same s1⟩ ?_ ?_⟩
    · rintro i σ H1 hi ⟨xs, x5, x6, x7, x8, rfl, e1, b1, o1, z1, hB1, hb1⟩
      have l1 := hb1 l _ npl.symm hl
      refine ⟨_, rfl, _, rfl, p, l, _, _, rfl, npl, hB1, by omega, l1, by rw [List.length_map]; exact h1, by rw [List.length_map]; omega, fun i1 v1 H2 g1 hB2 hb2 => ?_⟩
      have l2 := hb2 l _ npl.symm l1
      obtain ⟨u, hu, rfl⟩ := strs_get g1
      refine ⟨_, rfl, _, rfl, p, l, _, _, rfl, npl, hB2, by omega, l2, by rw [List.length_map]; exact h1, by rw [List.length_map]; omega, fun i2 v2 H3 g2 hB3 hb3 => ?_⟩
      obtain ⟨v, hv2, rfl⟩ := strs_get g2
      refine ⟨_, _, rfl, ?_⟩
      -- c
      refine ⟨_, rfl, 1, rfl, 2, rfl, _, rfl, _, _, rfl, rfl, ⟨by decide, by decide, by decide⟩, p, _, _, rfl, hB3, by omega, by decide, by decide, fun dr H4 d0 d1 hB4 hb4 => ?_⟩
      refine ⟨_, rfl, _, _, rfl, rfl, ⟨by decide, by decide, by decide⟩, p, _, _, rfl, hB4, by omega, by decide, by decide, fun dq H6 d2 d3 hB6 hb6 => ?_⟩
      refine ⟨dq, rfl, line100 (by show 7 ≤ 1000; decide), fun l5 hl5 => ?_⟩
      have n5 : p ≠ l5 := fun e => hB6.some (e ▸ hl5)
      refine ⟨p, l5, _, _, rfl, n5, hB6.up hl5, by omega, upd_same, (by show 1 ≤ 7; decide), (by show 7 ≤ 1000; decide), fun i5 v5 H5 g5 hB5 hb5 => ?_⟩
      obtain ⟨c, rfl⟩ : ∃ c : Int, v5 = .int c := by
        have m5 := List.mem_of_getElem? g5
        simp only [List.mem_cons, List.not_mem_nil, or_false] at m5
        rcases m5 with e | e | e | e | e | e | e <;> exact ⟨_, e⟩
      have hbA : But p H1 H5 := ((((hb2.trans hb3).trans hb4).trans hb6).trans (But.same (same_up (Same.refl _) hl5))).trans hb5
      have e5 := hbA r _ nrp e1
      have b5 : Bs H5 xs := b1.bag hB1 hbA
      refine ⟨_, rfl, _, rfl, rfl, _, rfl, ite2 (fun h3 => ?_) (fun h3 => ?_)⟩
      · have nuv : u ≠ v := by
          intro e
          rw [e, decide_eq_true rfl] at h3
          cases h3
        refine ⟨_, rfl, .inl ⟨rfl, _, SqL.of e5⟩, _, rfl, _, rfl, _, rfl, line100 (by show 3 ≤ 1000; decide), fun t ht => ?_⟩
        have nrt : r ≠ t := ne_of_none e5 ht
        have ntp : t ≠ p := fun e => hB5.some (e ▸ ht)
        refine ⟨r, _, _, rfl, rfl, Eq.trans (upd_ne nrt) e5, small1000 (by rw [rf_len]; omega), ?_⟩
        have hbB : But p H (upd (upd H5 t (.tup [.str u, .str v, .int c])) r (.lst (rf xs ++ [.ref t]))) := ((hb1.trans hbA).up ht).own hr0
        refine ⟨xs ++ [(t, ⟨u, v, c⟩)], _, _, _, _, rfl, ?_, ?_, fun x hx => ?_, by rw [List.length_append]; show xs.length + 1 ≤ i + 1; omega, ?_, hbB⟩
        · rw [upd_same]
          unfold rf
          rw [List.map_append]
          rfl
        · refine Bs.snoc (fun x hx => ?_) ?_
          · show upd _ _ _ _ = _
            rw [upd_ne (ne_of (b5 x hx) e5 fun z => nomatch z), upd_ne (ne_of_none (b5 x hx) ht)]
            exact b5 x hx
          · show upd _ _ _ t = _
            rw [upd_ne nrt.symm, upd_same]
            rfl
        · rcases List.mem_append.mp hx with z | z
          · exact o1 x z
          · rw [List.mem_singleton.mp z]
            exact ⟨⟨hn.2 u hu, hn.2 v hv2, nuv⟩, hu, hv2⟩
        · exact ((hB5.up ht).at (upd_ne nrp.symm)).mono (by omega)
      · exact ⟨xs, _, _, _, _, rfl, e5, b5, o1, by omega, hB5.mono (by omega), hb1.trans hbA⟩
    · rintro σ H1 ⟨xs, x5, x6, x7, x8, rfl, e1, b1, o1, z1, hB1, hb1⟩
      exact ⟨_, rfl, q r xs H1 hr0 e1 b1 o1 (by omega) (hB1.mono (by omega)) hb1⟩
end
end K29

/-! a ring of two to six of the names -/
namespace K29
open PySem PySem.Spec PyProof.Rows L2
def fb (rs : List Str) (ss : List Int) (k : Nat) : Bn := ⟨rs.getD k zs, rs.getD ((k + 1) % rs.length) zs, ss.getD k 0⟩
theorem fb_sum (rs : List Str) (ss : List Int) : (((List.range ss.length).map (fb rs ss)).map (·.c)) = ss := by
  apply List.ext_getElem?
  intro i
  rw [List.getElem?_map, List.getElem?_map]
  by_cases h : i < ss.length
  · rw [List.getElem?_range h]
    show some (ss.getD i 0) = ss[i]?
    rw [List.getElem?_eq_getElem h, List.getD_eq_getElem?_getD, List.getElem?_eq_getElem h]
    rfl
  · rw [List.getElem?_eq_none (by rw [List.length_range]; omega), List.getElem?_eq_none (by omega)]
    rfl
theorem range_get {f : Nat → Bn} {n k : Nat} {b : Bn} (h : ((List.range n).map f)[k]? = some b) : k < n ∧ b = f k := by
  have hk : k < n := by
    have q := (List.getElem?_eq_some_iff.mp h).1
    rw [List.length_map, List.length_range] at q
    exact q
  rw [List.getElem?_map, List.getElem?_range hk] at h
  exact ⟨hk, (Option.some.inj h).symm⟩
theorem ring_round {rs : List Str} {ss : List Int} (h2 : 2 ≤ rs.length) (hl : ss.length = rs.length) (hn : ss.sum < 0) : Ring ((List.range rs.length).map (fb rs ss)) ((List.range rs.length).map (fb rs ss)) := by
  refine ⟨by rw [List.length_map, List.length_range]; omega, fun b h => h, fun k b p hb hp => ?_, ?_⟩
  · rw [List.length_map, List.length_range] at hp
    obtain ⟨hk, rfl⟩ := range_get hb
    obtain ⟨hk2, rfl⟩ := range_get hp
    show rs.getD ((prev rs.length k + 1) % rs.length) zs = rs.getD k zs
    have e : (prev rs.length k + 1) % rs.length = k := by
      unfold prev
      by_cases z : k = 0
      · subst z
        rw [if_pos rfl, show rs.length - 1 + 1 = rs.length by omega, Nat.mod_self]
      · rw [if_neg z, show k - 1 + 1 = k by omega, Nat.mod_eq_of_lt hk]
    rw [e]
  · rw [← hl, fb_sum]
    exact hn
theorem erase_map : ∀ (l : List Str) (i : Nat), (l.map V.str).eraseIdx i = (l.eraseIdx i).map V.str
  | [], _ => rfl
  | _ :: _, 0 => rfl
  | x :: r, i + 1 => by
    show V.str x :: (r.map V.str).eraseIdx i = V.str x :: (r.eraseIdx i).map V.str
    rw [erase_map r i]
theorem getD_mem {rs : List Str} {k : Nat} (h : k < rs.length) : rs[k]? = some (rs.getD k zs) := by
  rw [List.getElem?_eq_getElem h, List.getD_eq_getElem?_getD, List.getElem?_eq_getElem h]
  rfl
theorem fb_on {rs : List Str} {ss : List Int} {ns : List Str} (h2 : 2 ≤ rs.length) (nd : rs.Nodup) (sub : ∀ x, x ∈ rs → x ∈ ns) (hn : Nms ns) {k : Nat} (hk : k < rs.length) : On ns (fb rs ss k) := by
  have hm : (k + 1) % rs.length < rs.length := Nat.mod_lt _ (by omega)
  have g1 := getD_mem hk
  have g2 := getD_mem hm
  have m1 := sub _ (List.mem_of_getElem? g1)
  have m2 := sub _ (List.mem_of_getElem? g2)
  refine ⟨⟨hn.2 _ m1, hn.2 _ m2, fun e => ?_⟩, m1, m2⟩
  have e : rs.getD k zs = rs.getD ((k + 1) % rs.length) zs := e
  rw [e] at g1
  have q := nodup_ix nd g1 g2
  by_cases z : k + 1 = rs.length
  · rw [z, Nat.mod_self] at q
    omega
  · rw [Nat.mod_eq_of_lt (by omega)] at q
    omega
theorem cut_one (xs : List V) : cutV xs (some 1) none = xs.drop 1 := by
  unfold cutV
  rw [HT.sIx_none, show HT.sIx xs.length 0 (some 1) = min 1 xs.length from HT.sIx_nat xs.length 0 1]
  cases xs with
  | nil => rfl
  | cons x r =>
    rw [show min 1 (x :: r).length = 1 by rw [List.length_cons]; omega]
    exact List.take_of_length_le (by rw [List.length_drop]; omega)
section
variable {P : Program} {w : World} {K : PySem.W.Frag} {mg : Str → Option Value} {base : Heap}
theorem scRound : FnScope ["_law_bag_here", "_law_names_here", "_law_left", "_law_road", "_law_turn", "_law_sums", "_law_name_here", "_law_k"] ["_law_bag_here", "_law_names_here"] (defScope sRound) :=
  ⟨rfl, rfl, rfl, by decide +kernel, rfl, by decide +kernel, by decide +kernel⟩
def spRound : Sp := fun vs H Q _ => ∃ (p l : Addr) (ns : List Str) (k : Nat), vs = [.ref p, .ref l] ∧ Bag H p k ∧ k ≤ 1000000 ∧
  p ≠ l ∧ H l = some (.lst (ns.map V.str)) ∧ Nms ns ∧ 2 ≤ ns.length ∧ ns.length ≤ 14 ∧
  ∀ (r : Addr) (xs : List (Addr × Bn)) (H' : Hp), H r = none → H' r = some (.lst (rf xs)) → Bs H' xs → (∀ x, x ∈ xs → On ns x.2) → Ring (bb xs) (bb xs) → xs.length ≤ 6 → Bag H' p (k + 200) → But p H H' → Q (.ref r) H'
theorem ok_round {f f1 f2 : Addr} {fd fd1 fd2 : FuncData} (F : Fun K "_law_round" "_law_round" sRound f fd) (D : Df P w K mg base 1 "_law_draw" ["_law_bag_here", "_law_many"] spDraw f1 fd1)
    (O : Df P w K mg base 2 "_law_of" ["_law_bag_here", "_law_some"] spOf f2 fd2) (zr : mg "range" = none) (zl : mg "len" = none) (zli : mg "list" = none) (zm : mg "min" = none) (zsum : mg "sum" = none) (zi : mg "int" = none) :
    FnOk P w K mg base CX0 3 f fd ["_law_bag_here", "_law_names_here"] spRound := by
  refine F.ok scRound (fun vs H Q E h => ?_) (fun cdv A outer s H vs Q E hr h => ?_)
  · obtain ⟨p, l, ns, k, rfl, _⟩ := h
    rfl
  · obtain ⟨p, l, ns, k, rfl, hB, hk, npl, hl, hn, h1, h2, q⟩ := h
    have hr1 : Room 1 _ := hr.mono (by decide)
    refine ⟨_, pss_cons (ps_asg (pe_tup (pa_cons (pe_callTy call_list_of (by rfl) zli (by decide +kernel) (pa_cons (pv 1) pa_nil)) (pa_cons (pe_lst pa_nil) pa_nil)))
        (pg_tup rfl (pgs_cons (pg_name (i := 2) scRound.nd rfl (Or.inl rfl)) (pgs_cons (pg_name (i := 3) scRound.nd rfl (Or.inr rfl)) pgs_nil))))
      (pss_cons (ps_for PassesOwn.never rfl (pi_range1 (by rfl) zr (pa_cons (pe_callB (call_min2 rfl) (by rfl) zm (by decide +kernel) (pa_cons (pe_callB call_len_seq (by rfl) zl PySem.boot_len (pa_cons (pv 1) pa_nil))
            (pa_cons (pe_op op_add pe_int (pe_call D.ok hr1 (by rfl) D.gl D.kp D.bi .nil pass0 (pa_cons (pv 0) (pa_cons pe_int pa_nil)))) pa_nil))) pa_nil)) (pg_name (i := 4) scRound.nd rfl (Or.inl rfl))
        (pss_one (ps_expr (pe_bm PySem.F.plainAttrs_list PySem.F.slot_list_append PySem.F.type_list_append mt_append (pv 3) (pa_cons (pe_bm PySem.F.plainAttrs_list PySem.F.slot_list_pop PySem.F.type_list_pop mt_popAt (pv 2)
          (pa_cons (pe_call D.ok hr1 (by rfl) D.gl D.kp D.bi .nil pass0 (pa_cons (pv 0) (pa_cons (pe_callB call_len_seq (by rfl) zl PySem.boot_len (pa_cons (pv 2) pa_nil)) pa_nil))) pa_nil)) pa_nil)))))
      (pss_cons (ps_set (i := 5) scRound.nd rfl (Or.inr rfl) (pe_lc (own := [("_law_name_here", 6)]) (g := gName 6) (tt := tYes) rfl scRound.nd (pi_list (pe_slice sl_list (pv 3) (po_some pe_int) po_none))
        (blkOk_by (own := [("_law_name_here", 6)]) (N := ["_law_bag_here", "_law_names_here", "_law_left", "_law_road", "_law_turn", "_law_sums", "_law_name_here", "_law_k"]) (sc := defScope sRound) (by decide +kernel))
        (fun _ _ _ _ _ => pg_name (i := 6) scRound.nd rfl (Or.inl rfl)) (fun _ _ _ _ _ => pts_nil)
        (fun _ _ _ _ _ => pe_call O.ok hr (by rfl) O.gl O.kp O.bi .nil pass0 (pa_cons (pv 0) (pa_cons (pe_lst (pa_cons pe_int (pa_cons pe_int (pa_cons (pe_un un_neg pe_int)
          (pa_cons (pe_call D.ok hr1 (by rfl) D.gl D.kp D.bi .nil pass0 (pa_cons (pv 0) (pa_cons (pe_op op_pow pe_int pe_int) pa_nil))) pa_nil))))) pa_nil)))))
      (pss_cons (ps_expr (pe_bm PySem.F.plainAttrs_list PySem.F.slot_list_append PySem.F.type_list_append mt_append (pv 5) (pa_cons (pe_op op_sub (pe_op op_sub (pe_un un_neg (pe_callB (cr_sum rfl) (by rfl) zsum (by decide +kernel) (pa_cons (pv 5) pa_nil))) pe_int)
          (pe_call O.ok hr (by rfl) O.gl O.kp O.bi .nil pass0 (pa_cons (pv 0) (pa_cons (pe_lst (pa_cons pe_int (pa_cons pe_int
            (pa_cons (pe_call D.ok hr1 (by rfl) D.gl D.kp D.bi .nil pass0 (pa_cons (pv 0) (pa_cons (pe_op op_pow pe_int pe_int) pa_nil))) pa_nil)))) pa_nil)))) pa_nil)))
      (pss_one (ps_ret (pe_lc (own := [("_law_k", 7)]) (g := gName 7) (tt := tYes) rfl scRound.nd (pi_range1 (by rfl) zr (pa_cons (pe_callB call_len_seq (by rfl) zl PySem.boot_len (pa_cons (pv 3) pa_nil)) pa_nil))
        (blkOk_by (own := [("_law_k", 7)]) (N := ["_law_bag_here", "_law_names_here", "_law_left", "_law_road", "_law_turn", "_law_sums", "_law_name_here", "_law_k"]) (sc := defScope sRound) (by decide +kernel))
        (fun _ _ _ _ _ => pg_name (i := 7) scRound.nd rfl (Or.inl rfl)) (fun _ _ _ _ _ => pts_nil)
        (fun _ _ _ _ _ => pe_tup (pa_cons (pe_ix (r := rIxL K) ix_list (pv 3) (pv 7) (fun _ _ => rfl)) (pa_cons (pe_ix (r := rIxL K) ix_list (pv 3)
          (pe_op op_mod (pe_callTy call_int1 (by rfl) zi (by decide +kernel) (pa_cons (pe_op op_add (pv 7) pe_int) pa_nil)) (pe_callB (len_seq (K := K) rfl) (by rfl) zl PySem.boot_len (pa_cons (pv 3) pa_nil))) (fun _ _ => rfl))
          (pa_cons (pe_ix (r := rIxL K) ix_list (pv 5) (pv 7) (fun _ _ => rfl)) pa_nil)))))))))), ?_⟩
    -- left, road = list(names), []
    refine ⟨_, rfl, l, _, rfl, .inl (SqL.of hl), fun lf hlf => ⟨Nat.zero_le _, fun rd hrd => ⟨line100 (by show 2 ≤ 1000; decide), fun t ht => ?_⟩⟩⟩
    have s0 : Same H (upd (upd (upd H lf (.lst (ns.map V.str))) rd (.lst [])) t (.tup [.ref lf, .ref rd])) := same_up (same_up (same_up (Same.refl H) hlf) hrd) ht
    have nlr : lf ≠ rd := ne_of_none upd_same hrd
    have nlt : lf ≠ t := ne_of_none (Eq.trans (upd_ne nlr) upd_same) ht
    have nrt : rd ≠ t := ne_of_none upd_same ht
    refine ⟨t, _, rfl, SqT.of upd_same, rfl, _, _, rfl, _, _, rfl, rfl, ?_⟩
    have e0l : (upd (upd (upd H lf (.lst (ns.map V.str))) rd (.lst [])) t (.tup [.ref lf, .ref rd])) lf = some (.lst (ns.map V.str)) := Eq.trans (upd_ne nlt) (Eq.trans (upd_ne nlr) upd_same)
    have e0r : (upd (upd (upd H lf (.lst (ns.map V.str))) rd (.lst [])) t (.tup [.ref lf, .ref rd])) rd = some (.lst []) := Eq.trans (upd_ne nrt) upd_same
    have hrd0 : H rd = none := by
      rw [upd_ne nlr.symm] at hrd
      exact hrd
    have nlfp : lf ≠ p := fun e => hB.some (e ▸ hlf)
    have nrdp : rd ≠ p := fun e => hB.some (e ▸ hrd0)
    generalize upd (upd (upd H lf (.lst (ns.map V.str))) rd (.lst [])) t (.tup [.ref lf, .ref rd]) = H0 at s0 e0l e0r
    -- the road
    refine ⟨_, rfl, l, _, rfl, .inl (SqL.of (s0 _ _ hl)), _, rfl, p, 5, k, rfl, hB.same s0, by omega, by omega, by omega, fun d H1 d0 d1 hB1 hb1 => ?_⟩
    obtain ⟨T, eT, T2, T6, Tn⟩ : ∃ T : Nat, (if 2 + d < ((ns.map V.str).length : Int) then 2 + d else ((ns.map V.str).length : Int)) = (T : Int) ∧ 2 ≤ T ∧ T ≤ 6 ∧ T ≤ ns.length := by
      rw [List.length_map]
      by_cases z : 2 + d < (ns.length : Int)
      · rw [if_pos z]
        exact ⟨(2 + d).toNat, by omega, by omega, by omega, by omega⟩
      · rw [if_neg z]
        exact ⟨ns.length, rfl, h1, by omega, Nat.le_refl _⟩
    refine ⟨_, _, rfl, rfl, _, _, rfl, (T : Int), congrArg (fun z => [V.int z]) eT, by omega, by omega, for_range (lo := 0) (n := ((T : Nat) : Int).toNat)
      (fun i σ H' => ∃ (ls rs : List Str) (x4 : Option V), σ = [some (.ref p), some (.ref l), some (.ref lf), some (.ref rd), x4, none, none, none] ∧ H' lf = some (.lst (ls.map V.str)) ∧ H' rd = some (.lst (rs.map V.str)) ∧
        ls.Nodup ∧ rs.Nodup ∧ (∀ x, x ∈ rs → ¬ x ∈ ls) ∧ (∀ x, x ∈ rs → x ∈ ns) ∧ (∀ x, x ∈ ls → x ∈ ns) ∧ rs.length = i ∧ ls.length + i = ns.length ∧ Bag H' p (k + 1 + i) ∧ But p H H')
      ⟨ns, [], none, rfl, hb1 lf _ nlfp e0l, hb1 rd _ nrdp e0r, hn.1, List.nodup_nil, fun _ h => (nomatch h), fun _ h => (nomatch h), fun _ h => h, rfl, rfl, hB1, (But.same s0).trans hb1⟩ ?_ ?_⟩
    · rintro i σ H2 hi ⟨ls, rs, x4, rfl, e2l, e2r, nd1, nd2, dj, sb1, sb2, lr, ll, hB2, hb2⟩
      refine ⟨_, rfl, .inl ⟨rfl, _, SqL.of e2r⟩, _, rfl, .inl ⟨rfl, _, SqL.of e2l⟩, _, rfl, _, rfl, lf, _, rfl, .inl (SqL.of e2l), p, _, _, rfl, hB2, by omega, by rw [List.length_map]; omega, by rw [List.length_map]; omega, fun c H3 c0 c1 hB3 hb3 => ?_⟩
      have e3l := hb3 lf _ nlfp e2l
      have e3r := hb3 rd _ nrdp e2r
      obtain ⟨j, rfl⟩ : ∃ j : Nat, c = (j : Int) := ⟨c.toNat, by omega⟩
      have hj : j < ls.length := by
        rw [List.length_map] at c1
        omega
      have g3 : (ls.map V.str)[j]? = some (.str ls[j]) := by rw [List.getElem?_map, List.getElem?_eq_getElem hj]; rfl
      refine ⟨lf, _, _, j, _, rfl, rfl, e3l, by omega, by omega, ?_, g3, rd, _, _, rfl, rfl, Eq.trans (upd_ne nlr.symm) e3r, small1000 (by rw [List.length_map]; omega), ?_⟩
      · rw [PySem.seqIndex_of (by omega) (by rw [List.length_map]; omega)]
        rfl
      · have nin : ¬ ls[j] ∈ ls.eraseIdx j := fun z => by
          obtain ⟨i2, ne, g2⟩ := List.mem_eraseIdx_iff_getElem?.mp z
          exact ne (nodup_ix nd1 g2 (List.getElem?_eq_getElem hj))
        have hin : ls[j] ∈ ls := List.getElem_mem hj
        refine ⟨ls.eraseIdx j, rs ++ [ls[j]], _, rfl, ?_, ?_, nd1.eraseIdx j, nd_snoc nd2 fun z => dj _ z hin, fun x hx z => ?_, fun x hx => ?_, fun x hx => sb2 x (List.mem_of_mem_eraseIdx hx), ?_, ?_, ?_, ((hb2.trans hb3).own hlf).own hrd0⟩
        · rw [upd_ne nlr, upd_same]
          exact congrArg (fun z => some (HO.lst z)) (erase_map _ _)
        · rw [upd_same, List.map_append]
          rfl
        · rcases List.mem_append.mp hx with y | y
          · exact dj x y (List.mem_of_mem_eraseIdx z)
          · rw [List.mem_singleton.mp y] at z
            exact nin z
        · rcases List.mem_append.mp hx with y | y
          · exact sb1 x y
          · rw [List.mem_singleton.mp y]
            exact sb2 _ hin
        · rw [List.length_append, lr]
          rfl
        · rw [List.length_eraseIdx_of_lt hj]
          omega
        · exact ((hB3.at (H' := upd H3 lf _) (upd_ne nlfp.symm)).at (upd_ne nrdp.symm)).mono (by omega)
    · rintro σ H2 ⟨ls, rs, x4, rfl, e2l, e2r, nd1, nd2, dj, sb1, sb2, lr, ll, hB2, hb2⟩
      have lr : rs.length = T := by omega
      -- sums
      refine ⟨_, rfl, 1, rfl, rd, _, rfl, SqL.of e2r, fun sl hsl => ?_⟩
      rw [cut_one]
      refine ⟨sl, rfl, ⟨_, SqL.of upd_same⟩, fun D' hD => ?_⟩
      have nslp : sl ≠ p := fun e => hB2.some (e ▸ hsl)
      have nrs : rd ≠ sl := ne_of_none e2r hsl
      have hB2' := hB2.up (o := .lst ((rs.map V.str).drop 1)) hsl
      have hb2' := hb2.up (o := .lst ((rs.map V.str).drop 1)) hsl
      have e2r' : (upd H2 sl (.lst ((rs.map V.str).drop 1))) rd = some (.lst (rs.map V.str)) := Eq.trans (upd_ne nrs) e2r
      have e2s : (upd H2 sl (.lst ((rs.map V.str).drop 1))) sl = some (.lst ((rs.map V.str).drop 1)) := upd_same
      generalize upd H2 sl (.lst ((rs.map V.str).drop 1)) = H3 at hD hB2' hb2' e2r' e2s
      have nDp : D' ≠ p := fun e => hB2'.some (e ▸ hD)
      have nsD : sl ≠ D' := ne_of_none e2s hD
      refine lc_list (K := K) (a := sl) (xs := (rs.map V.str).drop 1) (fun i H' => ∃ ss : List Int, H' D' = some (.lst (ss.map V.int)) ∧ ss.length = i ∧ Bag H' p (k + 1 + T + 2 * i) ∧ But p H3 H') ⟨[], upd_same, rfl, hB2'.up hD |>.mono (by omega), (But.refl H3).up hD⟩ ?_ ?_ ?_
      · rintro i H4 _ ⟨ss, _, _, _, hb4⟩
        exact SqL.of (hb4 sl _ nslp e2s)
      · rintro i x H4 hx ⟨ss, e4, l4, hB4, hb4⟩
        have hi : i < ((rs.map V.str).drop 1).length := (List.getElem?_eq_some_iff.mp hx).1
        rw [List.length_drop, List.length_map] at hi
        refine ⟨rfl, _, rfl, 1, rfl, _, rfl, _, _, rfl, rfl, ⟨by decide, by decide, by decide⟩, p, _, _, rfl, hB4, by omega, by decide, by decide, fun dr H5 d2 d3 hB5 hb5 => ?_⟩
        refine ⟨line100 (by show 4 ≤ 1000; decide), fun l5 hl5 => ?_⟩
        have n5 : p ≠ l5 := fun e => hB5.some (e ▸ hl5)
        refine ⟨p, l5, _, _, rfl, n5, hB5.up hl5, by omega, upd_same, (by show 1 ≤ 4; decide), (by show 4 ≤ 1000; decide), fun i6 v6 H6 g6 hB6 hb6 => ?_⟩
        obtain ⟨c, rfl⟩ : ∃ c : Int, v6 = .int c := by
          have m6 := List.mem_of_getElem? g6
          simp only [List.mem_cons, List.not_mem_nil, or_false] at m6
          rcases m6 with e | e | e | e <;> exact ⟨_, e⟩
        have hbA : But p H4 H6 := (hb5.trans (But.same (same_up (Same.refl _) hl5))).trans hb6
        have e6 := hbA D' _ nDp e4
        refine ⟨_, e6, small1000 (by rw [List.length_map]; omega), ss ++ [c], ?_, by rw [List.length_append, l4]; rfl, (hB6.at (upd_ne nDp.symm)).mono (by omega), (hb4.trans hbA).own hD⟩
        rw [upd_same, List.map_append]
        rfl
      · rintro H4 ⟨ss, e4, l4, hB4, hb4⟩
        rw [List.length_drop, List.length_map] at l4 hB4
        have e4r := hb4 rd _ nrdp e2r'
        have nrD : rd ≠ D' := ne_of_none e2r' hD
        -- sums.append(..)
        refine ⟨_, rfl, .inl ⟨rfl, _, SqL.of e4⟩, _, rfl, D', ss, rfl, SqL.of e4, _, rfl, _, _, rfl, rfl, ?_⟩
        refine ⟨_, rfl, _, rfl, _, _, rfl, rfl, ⟨by decide, by decide, by decide⟩, p, _, _, rfl, hB4, by omega, by decide, by decide, fun dr H5 d2 d3 hB5 hb5 => ?_⟩
        refine ⟨line100 (by show 3 ≤ 1000; decide), fun l5 hl5 => ?_⟩
        have n5 : p ≠ l5 := fun e => hB5.some (e ▸ hl5)
        refine ⟨p, l5, _, _, rfl, n5, hB5.up hl5, by omega, upd_same, (by show 1 ≤ 3; decide), (by show 3 ≤ 1000; decide), fun i6 v6 H6 g6 hB6 hb6 => ?_⟩
        obtain ⟨c, c0, rfl⟩ : ∃ c : Int, 0 ≤ c ∧ v6 = .int c := by
          have m6 := List.mem_of_getElem? g6
          simp only [List.mem_cons, List.not_mem_nil, or_false] at m6
          rcases m6 with e | e | e
          · exact ⟨0, by omega, e⟩
          · exact ⟨0, by omega, e⟩
          · exact ⟨dr, d2, e⟩
        have hbA : But p H4 H6 := (hb5.trans (But.same (same_up (Same.refl _) hl5))).trans hb6
        have e6 := hbA D' _ nDp e4
        have e6r := hbA rd _ nrdp e4r
        refine ⟨_, _, rfl, rfl, D', _, _, rfl, rfl, e6, small1000 (by rw [List.length_map]; omega), ?_⟩
        generalize hss : ss ++ [-ss.sum - 1 - c] = sz
        have lsz : sz.length = rs.length := by
          rw [← hss, List.length_append]
          show ss.length + 1 = rs.length
          omega
        have ssum : sz.sum < 0 := by
          rw [← hss, List.sum_append, List.sum_cons, List.sum_nil]
          omega
        have e7 : (upd H6 D' (.lst (ss.map V.int ++ [.int (-ss.sum - 1 - c)]))) D' = some (.lst (sz.map V.int)) := by
          rw [upd_same, ← hss, List.map_append]
          rfl
        have e7r : (upd H6 D' (.lst (ss.map V.int ++ [.int (-ss.sum - 1 - c)]))) rd = some (.lst (rs.map V.str)) := Eq.trans (upd_ne nrD) e6r
        have hB7 := (hB6.at (H' := upd H6 D' (.lst (ss.map V.int ++ [.int (-ss.sum - 1 - c)]))) (upd_ne nDp.symm)).mono (show _ ≤ k + 200 by omega)
        have hb7 : But p H (upd H6 D' (.lst (ss.map V.int ++ [.int (-ss.sum - 1 - c)]))) := (hb2'.trans ((hb4.trans hbA).own hD))
        generalize upd H6 D' (.lst (ss.map V.int ++ [.int (-ss.sum - 1 - c)])) = H7 at e7 e7r hB7 hb7
        -- the bounds
        show _
        refine ⟨_, rfl, rd, _, rfl, .inl (SqL.of e7r), _, rfl, by rw [List.length_map]; omega, by rw [List.length_map]; omega, fun R hR => ?_⟩
        have hR0 : H R = none := hb7.free hB7.some hR
        rw [List.length_map, lr]
        refine lc_range (lo := 0) (n := ((T : Nat) : Int).toNat) (fun i H' => ∃ xs : List (Addr × Bn), H' R = some (.lst (rf xs)) ∧ bb xs = (List.range i).map (fb rs sz) ∧ Bs H' xs ∧ Same H7 H') ⟨[], upd_same, rfl, Bs.nil, same_up (Same.refl _) hR⟩ ?_ ?_
        · rintro i H8 hi ⟨xs, e8, ex, b8, s8⟩
          have hi : i < rs.length := by omega
          have lx : xs.length = i := by
            have z := congrArg List.length ex
            rw [bb_len, List.length_map, List.length_range] at z
            exact z
          have hm : (i + 1) % rs.length < rs.length := Nat.mod_lt _ (by omega)
          have g1 : (rs.map V.str)[i]? = some (.str (rs.getD i zs)) := by rw [List.getElem?_map, getD_mem hi]; rfl
          have g2 : (rs.map V.str)[(i + 1) % rs.length]? = some (.str (rs.getD ((i + 1) % rs.length) zs)) := by rw [List.getElem?_map, getD_mem hm]; rfl
          have g3 : (sz.map V.int)[i]? = some (.int (sz.getD i 0)) := by
            have hz : i < sz.length := by omega
            rw [List.getElem?_map, List.getElem?_eq_getElem hz, List.getD_eq_getElem?_getD, List.getElem?_eq_getElem hz]
            rfl
          have em : ((0 : Int) + (i : Nat) + 1) % ((rs.map V.str).length : Int) = (((i + 1) % rs.length : Nat) : Int) := by
            rw [List.length_map, Int.natCast_emod]
            congr 1
            omega
          have ez : (0 : Int) + (i : Nat) = ((i : Nat) : Int) := by omega
          refine ⟨rfl, ?_⟩
          refine ⟨_, rfl, _, rfl, rd, _, _, .str (rs.getD i zs), rfl, rfl, SqL.of (s8 _ _ e7r), at_of ez g1, ?_⟩
          refine ⟨_, rfl, _, rfl, _, _, rfl, rfl, .inl ⟨_, rfl, _, rfl, rd, _, rfl, .inl (SqL.of (s8 _ _ e7r)), _, _, rfl, rfl, by rw [List.length_map]; omega, rd, _, _, .str (rs.getD ((i + 1) % rs.length) zs), rfl, rfl, SqL.of (s8 _ _ e7r), at_of em g2, ?_⟩⟩
          refine ⟨_, rfl, _, rfl, D', _, _, .int (sz.getD i 0), rfl, rfl, SqL.of (s8 _ _ e7), at_of ez g3, line100 (by show 3 ≤ 1000; decide), fun t2 ht2 => ?_⟩
          have nRt : R ≠ t2 := ne_of_none e8 ht2
          refine ⟨_, Eq.trans (upd_ne nRt) e8, small1000 (by rw [rf_len]; omega), xs ++ [(t2, fb rs sz i)], ?_, ?_, Bs.snoc (fun x hx => ?_) ?_, same_own (same_up s8 ht2) hR⟩
          · rw [upd_same]
            unfold rf
            rw [List.map_append]
            rfl
          · unfold bb
            rw [List.map_append, List.range_succ, List.map_append]
            show bb xs ++ _ = _
            rw [ex]
            rfl
          · show upd _ _ _ _ = _
            rw [upd_ne (ne_of (b8 x hx) e8 fun z => nomatch z), upd_ne (ne_of_none (b8 x hx) ht2)]
            exact b8 x hx
          · show upd _ _ _ t2 = _
            rw [upd_ne nRt.symm, upd_same]
            rfl
        · rintro H8 ⟨xs, e8, ex, b8, s8⟩
          have ex : bb xs = (List.range rs.length).map (fb rs sz) := by rw [ex, lr]; rfl
          have lx : xs.length = T := by
            have z := congrArg List.length ex
            rw [bb_len, List.length_map, List.length_range] at z
            omega
          refine q R xs H8 hR0 e8 b8 (fun x hx => ?_) ?_ (by omega) (hB7.same s8) (hb7.trans (But.same s8))
          · have hm := mem_bb hx
            rw [ex] at hm
            obtain ⟨j, hj, e⟩ := List.mem_map.mp hm
            rw [← e]
            exact fb_on (by omega) nd2 sb1 hn (List.mem_range.mp hj)
          · rw [ex]
            exact ring_round (by omega) lsz ssum
end
end K29

/-! is_integer, is_name, is_bound, is_ring -/
namespace K29
open PySem PySem.Spec PyProof.Rows L2
/-- the round place ahead of i, as an index of any sign -/
theorem at_prev {α : Type} {xs : List α} {i : Nat} {v : α} (hi : i < xs.length) (h : xs[prev xs.length i]? = some v) : atI xs ((i : Int) - 1) = some v := by
  unfold atI ixN
  unfold prev at h
  by_cases z : i = 0
  · subst z
    rw [if_pos rfl] at h
    rw [if_neg (by omega), if_pos (by omega)]
    show xs[(((0 : Nat) : Int) - 1 + (xs.length : Int)).toNat]? = some v
    rw [show (((0 : Nat) : Int) - 1 + (xs.length : Int)).toNat = xs.length - 1 by omega]
    exact h
  · rw [if_neg z] at h
    rw [if_pos (by omega), if_pos (by omega)]
    show xs[((i : Int) - 1).toNat]? = some v
    rw [show ((i : Int) - 1).toNat = i - 1 by omega]
    exact h
theorem all_true : ∀ {bs : List Bool}, (∀ b, b ∈ bs → b = true) → bs.all id = true := fun {bs} h => List.all_eq_true.mpr fun b hb => h b hb
section
variable {P : Program} {w : World} {K : PySem.W.Frag} {mg : Str → Option Value} {base : Heap}
theorem scIsInteger : FnScope ["thing"] ["thing"] (defScope sIsInteger) := ⟨rfl, rfl, rfl, by decide +kernel, rfl, by decide +kernel, by decide +kernel⟩
def spIsInteger : Sp := fun vs H Q _ => ∃ c : Int, vs = [.int c] ∧ Q (.bl true) H
theorem ok_isInteger {f : Addr} {fd : FuncData} (F : Fun K "is_integer" "is_integer" sIsInteger f fd) (zs1 : mg "isinstance" = none) (zi : mg "int" = none) (zb : mg "bool" = none) : FnOk P w K mg base CX0 1 f fd ["thing"] spIsInteger := by
  refine F.ok scIsInteger (fun vs H Q E h => ?_) (fun cdv A outer s H vs Q E hr h => ?_)
  · obtain ⟨c, rfl, _⟩ := h
    rfl
  · obtain ⟨c, rfl, q⟩ := h
    refine ⟨_, pss_one (ps_ret (pe_and (pe_callB call_isi (by rfl) zs1 (by decide +kernel) (pa_cons (pv 0) (pa_cons (pe_bltn (v := .ty "int") (by rfl) zi (by decide +kernel) rfl) pa_nil)))
      (pe_one (pe_not (pe_callB call_isi (by rfl) zs1 (by decide +kernel) (pa_cons (pv 0) (pa_cons (pe_bltn (v := .ty "bool") (by rfl) zb (by decide +kernel) rfl) pa_nil))))))), ?_⟩
    refine ⟨_, rfl, _, _, _, _, true, rfl, .ty "int", .base (.int c), kit_ty (by decide +kernel), true, rfl, iteT ?_⟩
    refine ⟨_, rfl, _, _, _, _, false, rfl, .ty "bool", .base (.int c), kit_ty (by decide +kernel), false, rfl, ?_⟩
    exact q
theorem scIsName : FnScope ["thing", "letter"] ["thing"] (defScope sIsName) := ⟨rfl, rfl, rfl, by decide +kernel, rfl, by decide +kernel, by decide +kernel⟩
def spIsName : Sp := fun vs H Q _ => ∃ z : Str, vs = [.str z] ∧ IsNm z ∧ ∀ H', Same H H' → Q (.bl true) H'
theorem let_le : ∀ c : Nat, Let c → (!decide (([c] : List Nat) < ("a" : Str).cps.toList)) = true ∧ (!decide (("z" : Str).cps.toList < ([c] : List Nat))) = true := by
  have key : ∀ d : Fin 26, (!decide (([97 + d.val] : List Nat) < ("a" : Str).cps.toList)) = true ∧ (!decide (("z" : Str).cps.toList < ([97 + d.val] : List Nat))) = true := by decide +kernel
  intro c h
  obtain ⟨d, rfl⟩ : ∃ d, c = 97 + d := ⟨c - 97, by have := h.1; omega⟩
  have := h.2
  exact key ⟨d, by omega⟩
theorem ok_isName {f : Addr} {fd : FuncData} (F : Fun K "is_name" "is_name" sIsName f fd) (zs1 : mg "isinstance" = none) (zst : mg "str" = none) (zl : mg "len" = none) (za : mg "all" = none) : FnOk P w K mg base CX0 1 f fd ["thing"] spIsName := by
  refine F.ok scIsName (fun vs H Q E h => ?_) (fun cdv A outer s H vs Q E hr h => ?_)
  · obtain ⟨c, rfl, _⟩ := h
    rfl
  · obtain ⟨z, rfl, hz, q⟩ := h
    refine ⟨_, pss_cons (ps_if (PW.pt (pw_or (pt_not (pt_val (pe_callB call_isi (by rfl) zs1 (by decide +kernel) (pa_cons (pv 0) (pa_cons (pe_bltn (v := .ty "str") (by rfl) zst (by decide +kernel) rfl) pa_nil)))))
        (pw_or1 (pt_not (pt_chain op_le op_le pe_int (pe_callB call_len_str (by rfl) zl PySem.boot_len (pa_cons (pv 0) pa_nil)) pe_int))))) pss_never pss_nil)
      (pss_one (ps_ret (pe_callB (cr_all rfl) (by rfl) za (by decide +kernel) (pa_cons (pe_lc (own := [("letter", 1)]) (g := gName 1) (tt := tYes) rfl scIsName.nd (pi_str (pv 0))
        (blkOk_by (own := [("letter", 1)]) (N := ["thing", "letter"]) (sc := defScope sIsName) (by decide +kernel)) (fun _ _ _ _ _ => pg_name (i := 1) scIsName.nd rfl (Or.inl rfl)) (fun _ _ _ _ _ => pts_nil)
        (fun _ _ _ _ _ => pe_chain op_le_str op_le_str pe_str (pv 1) pe_str)) pa_nil)))), ?_⟩
    have h1 := hz.1
    have h8 := hz.2.1
    refine ⟨_, rfl, _, _, _, _, true, rfl, .ty "str", .base (.str z), kit_ty (by decide +kernel), true, rfl, ?_⟩
    refine iteF ?_
    refine ⟨_, rfl, z, rfl, line100 (by omega), 1, _, rfl, rfl, _, rfl, ?_⟩
    rw [decide_eq_true (show (1 : Int) ≤ (z.length : Int) by omega)]
    refine iteT ⟨_, _, rfl, rfl, _, rfl, ?_⟩
    rw [decide_eq_true (show (z.length : Int) ≤ 8 by omega)]
    refine iteF ?_
    refine ⟨_, rfl, z, rfl, fun D' hD => ?_⟩
    refine lc_it walk_str (fun i H' => ∃ bs : List Bool, H' D' = some (.lst (bs.map V.bl)) ∧ (∀ b, b ∈ bs → b = true) ∧ bs.length = i ∧ Same H H') ⟨[], upd_same, fun _ h => (nomatch h), rfl, same_up (Same.refl H) hD⟩ (fun _ _ _ _ => trivial) ?_ ?_
    · rintro i x H1 H2 hi ⟨bs, e, hb, lb, sm⟩ ⟨rfl, c, hc, rfl⟩
      have hcl : Let c := by
        refine hz.2.2 c ?_
        rw [← Array.getElem?_toList] at hc
        exact List.mem_of_getElem? hc
      have hi8 : i < z.length := hi
      refine ⟨rfl, ?_⟩
      refine ⟨_, rfl, _, _, rfl, rfl, _, rfl, ?_⟩
      refine (if_pos (let_le c hcl).1).mpr ?_
      refine ⟨_, _, rfl, rfl, ?_⟩
      refine ⟨_, e, small1000 (by rw [List.length_map]; omega), bs ++ [true], ?_, fun b h => ?_, by rw [List.length_append, lb]; rfl, same_own sm hD⟩
      · rw [upd_same, List.map_append]
        have e2 := (let_le c hcl).2
        exact congrArg (fun y => some (HO.lst (bs.map V.bl ++ [V.bl y]))) e2
      · rcases List.mem_append.mp h with y | y
        · exact hb b y
        · exact List.mem_singleton.mp y
    · rintro H1 ⟨bs, e, hb, lb, sm⟩
      refine ⟨D', bs, rfl, SqL.of e, ?_⟩
      rw [all_true hb]
      exact q H1 sm
/-! ### is_bound -/
theorem scIsBound : FnScope ["thing"] ["thing"] (defScope sIsBound) := ⟨rfl, rfl, rfl, by decide +kernel, rfl, by decide +kernel, by decide +kernel⟩
def spIsBound : Sp := fun vs H Q _ => ∃ x : Addr × Bn, vs = [.ref x.1] ∧ BAt H x ∧ GB x.2 ∧ ∀ H', Same H H' → Q (.bl true) H'
theorem ok_isBound {f f1 f2 : Addr} {fd fd1 fd2 : FuncData} (F : Fun K "is_bound" "is_bound" sIsBound f fd) (II : Df P w K mg base 1 "is_integer" ["thing"] spIsInteger f1 fd1) (IN : Df P w K mg base 1 "is_name" ["thing"] spIsName f2 fd2)
    (zs1 : mg "isinstance" = none) (zt : mg "tuple" = none) (zl : mg "len" = none) : FnOk P w K mg base CX0 2 f fd ["thing"] spIsBound := by
  refine F.ok scIsBound (fun vs H Q E h => ?_) (fun cdv A outer s H vs Q E hr h => ?_)
  · obtain ⟨x, rfl, _⟩ := h
    rfl
  · obtain ⟨x, rfl, hx, hg, q⟩ := h
    refine ⟨_, pss_cons (ps_if (PW.pt (pw_or (pt_not (pt_val (pe_callB call_isi (by rfl) zs1 (by decide +kernel) (pa_cons (pv 0) (pa_cons (pe_bltn (v := .ty "tuple") (by rfl) zt (by decide +kernel) rfl) pa_nil)))))
        (pw_or (pt_cmpR op_ne (pe_callB call_len_seq (by rfl) zl PySem.boot_len (pa_cons (pv 0) pa_nil)) pe_int (nomark _))
        (pw_or1 (pt_not (pt_val (pe_call II.ok hr (by rfl) II.gl II.kp II.bi .nil pass0 (pa_cons (pe_ix ix_tup (pv 0) pe_int (fun _ _ => rfl)) pa_nil)))))))) pss_never pss_nil)
      (pss_one (ps_ret (pe_and (pe_call IN.ok hr (by rfl) IN.gl IN.kp IN.bi .nil pass0 (pa_cons (pe_ix ix_tup (pv 0) pe_int (fun _ _ => rfl)) pa_nil))
        (pe_and (pe_call IN.ok hr (by rfl) IN.gl IN.kp IN.bi .nil pass0 (pa_cons (pe_ix ix_tup (pv 0) pe_int (fun _ _ => rfl)) pa_nil))
        (pe_one (pe_cmpR op_ne (pe_ix ix_tup (pv 0) pe_int (fun _ _ => rfl)) (pe_ix ix_tup (pv 0) pe_int (fun _ _ => rfl)) (nomark _))))))), ?_⟩
    have hx : H x.1 = some (.tup (tb x.2)) := hx
    refine ⟨_, rfl, _, _, _, _, true, rfl, .ty "tuple", .base (.tup hx), kit_ty (by decide +kernel), true, rfl, ?_⟩
    refine iteF ?_
    refine ⟨_, rfl, x.1, tb x.2, rfl, .inr (SqT.of hx), rfl, _, rfl, ?_⟩
    refine iteF ?_
    refine ⟨_, rfl, x.1, tb x.2, 2, .int x.2.c, rfl, rfl, SqT.of hx, atI_nat (j := 2) rfl, x.2.c, rfl, true, rfl, ?_⟩
    refine iteF ?_
    refine ⟨_, rfl, x.1, tb x.2, 0, .str x.2.u, rfl, rfl, SqT.of hx, atI_nat (j := 0) rfl, x.2.u, rfl, hg.1, fun H1 s1 => ⟨true, rfl, iteT ?_⟩⟩
    refine ⟨_, rfl, x.1, tb x.2, 1, .str x.2.v, rfl, rfl, SqT.of (s1 _ _ hx), atI_nat (j := 1) rfl, x.2.v, rfl, hg.2.1, fun H2 s2 => ⟨true, rfl, iteT ?_⟩⟩
    have hx2 := s2 _ _ (s1 _ _ hx)
    refine ⟨_, rfl, x.1, tb x.2, 0, .str x.2.u, rfl, rfl, SqT.of hx2, atI_nat (j := 0) rfl, _, rfl, x.1, tb x.2, 1, .str x.2.v, rfl, rfl, SqT.of hx2, atI_nat (j := 1) rfl, rfl, ?_⟩
    show Q (.bl (!decide (V.str x.2.u = V.str x.2.v))) H2
    rw [dec_str, decide_eq_false hg.2.2]
    exact q H2 (s1.trans s2)
/-! ### is_ring -/
theorem scIsRing : FnScope ["thing", "bound", "index"] ["thing"] (defScope sIsRing) := ⟨rfl, rfl, rfl, by decide +kernel, rfl, by decide +kernel, by decide +kernel⟩
def spIsRing : Sp := fun vs H Q _ => ∃ (l : Addr) (xs : List (Addr × Bn)) (E0 : List Bn), vs = [.ref l] ∧ H l = some (.lst (rf xs)) ∧ Bs H xs ∧ (∀ x, x ∈ xs → GB x.2) ∧ Ring E0 (bb xs) ∧ xs.length ≤ 300 ∧ ∀ H', Same H H' → Q (.bl true) H'
theorem ok_isRing {f f1 : Addr} {fd fd1 : FuncData} (F : Fun K "is_ring" "is_ring" sIsRing f fd) (IB : Df P w K mg base 2 "is_bound" ["thing"] spIsBound f1 fd1)
    (zs1 : mg "isinstance" = none) (zli : mg "list" = none) (zt : mg "tuple" = none) (zl : mg "len" = none) (za : mg "all" = none) (ze : mg "enumerate" = none) (zsum : mg "sum" = none) : FnOk P w K mg base CX0 3 f fd ["thing"] spIsRing := by
  refine F.ok scIsRing (fun vs H Q E h => ?_) (fun cdv A outer s H vs Q E hr h => ?_)
  · obtain ⟨l, xs, E0, rfl, _⟩ := h
    rfl
  · obtain ⟨l, xs, E0, rfl, hl, hb, hg, hR, hz, q⟩ := h
    have hlen : 0 < xs.length := by rw [← bb_len]; exact hR.ne
    refine ⟨_, pss_cons (ps_if (PW.pt (pw_or (pt_not (pt_val (pe_callB call_isiT (by rfl) zs1 (by decide +kernel) (pa_cons (pv 0) (pa_cons (pe_tup (pa_cons (pe_bltn (v := .ty "list") (by rfl) zli (by decide +kernel) rfl)
          (pa_cons (pe_bltn (v := .ty "tuple") (by rfl) zt (by decide +kernel) rfl) pa_nil))) pa_nil)))))
        (pw_or1 (pt_cmpR op_eq (pe_callB call_len_seq (by rfl) zl PySem.boot_len (pa_cons (pv 0) pa_nil)) pe_int (nomark _))))) pss_never pss_nil)
      (pss_cons (ps_if (pt_not (pt_val (pe_callB (cr_all rfl) (by rfl) za (by decide +kernel) (pa_cons (pe_lc (own := [("bound", 1)]) (g := gName 1) (tt := tYes) rfl scIsRing.nd (pi_list (pv 0))
          (blkOk_by (own := [("bound", 1)]) (N := ["thing", "bound", "index"]) (sc := defScope sIsRing) (by decide +kernel)) (fun _ _ _ _ _ => pg_name (i := 1) scIsRing.nd rfl (Or.inl rfl)) (fun _ _ _ _ _ => pts_nil)
          (fun _ _ _ _ _ => pe_call IB.ok hr (by rfl) IB.gl IB.kp IB.bi .nil pass0 (pa_cons (pv 1) pa_nil))) pa_nil)))) pss_never pss_nil)
      (pss_cons (ps_for PassesOwn.never rfl (pi_enum (by rfl) ze (pa_cons (pv 0) pa_nil)) (pg_tup rfl (pgs_cons (pg_name (i := 2) scIsRing.nd rfl (Or.inl rfl)) (pgs_cons (pg_name (i := 1) scIsRing.nd rfl (Or.inl rfl)) pgs_nil)))
          (pss_one (ps_if (pt_cmpR op_ne (pe_ix ix_tup (pe_ix ix_list (pv 0) (pe_op op_sub (pv 2) pe_int) (fun _ _ => rfl)) pe_int (fun _ _ => rfl)) (pe_ix ix_tup (pv 1) pe_int (fun _ _ => rfl)) (nomark _)) pss_never pss_nil)))
      (pss_one (ps_ret (pe_cmpR op_lt (pe_callB (cr_sum rfl) (by rfl) zsum (by decide +kernel) (pa_cons (pe_lc (own := [("bound", 1)]) (g := gName 1) (tt := tYes) rfl scIsRing.nd (pi_list (pv 0))
          (blkOk_by (own := [("bound", 1)]) (N := ["thing", "bound", "index"]) (sc := defScope sIsRing) (by decide +kernel)) (fun _ _ _ _ _ => pg_name (i := 1) scIsRing.nd rfl (Or.inl rfl)) (fun _ _ _ _ _ => pts_nil)
          (fun _ _ _ _ _ => pe_ix (r := rIxT K) ix_tup (pv 1) pe_int (fun _ _ => rfl))) pa_nil)) pe_int (nomark _)))))), ?_⟩
    -- isinstance
    refine ⟨_, rfl, line100 (by show 2 ≤ 1000; decide), fun tp htp => ?_⟩
    have nlt : l ≠ tp := ne_of_none hl htp
    have s0 : Same H (upd H tp (.tup [.ty "list", .ty "tuple"])) := same_up (Same.refl H) htp
    refine ⟨_, tp, _, _, [.type "list", .type "tuple"], true, rfl, upd_same, .cons (.ty _) (.cons (.ty _) .nil), .base (.lst (s0 _ _ hl)), kitAny_cons (kit_ty (b := "list") (r := true) (by decide +kernel)) (fun z => nomatch z) (fun _ => rfl), true, rfl, ?_⟩
    refine iteF ?_
    generalize upd H tp (.tup [.ty "list", .ty "tuple"]) = H1 at s0
    refine ⟨_, rfl, l, rf xs, rfl, .inl (SqL.of (s0 _ _ hl)), rfl, _, rfl, ?_⟩
    have ne0 : ¬ (V.int ((rf xs).length : Int) = V.int 0) := fun e => by
      have e := V.int.inj e
      rw [rf_len] at e
      omega
    rw [decide_eq_false ne0]
    refine iteF ?_
    -- all bounds
    refine ⟨_, rfl, l, rfl, ⟨_, SqL.of (s0 _ _ hl)⟩, fun D' hD => ?_⟩
    refine lc_list (K := K) (a := l) (xs := rf xs) (fun i H' => ∃ bs : List Bool, H' D' = some (.lst (bs.map V.bl)) ∧ (∀ b, b ∈ bs → b = true) ∧ bs.length = i ∧ Same H1 H') ⟨[], upd_same, fun _ h => (nomatch h), rfl, same_up (Same.refl _) hD⟩ ?_ ?_ ?_
    · rintro i H2 _ ⟨_, _, _, _, sm⟩
      exact SqL.of (sm _ _ (s0 _ _ hl))
    · rintro i y H2 hy ⟨bs, e, hbs, lb, sm⟩
      have hi : i < xs.length := by
        have z := (List.getElem?_eq_some_iff.mp hy).1
        rw [rf_len] at z
        exact z
      obtain ⟨x, hx, rfl⟩ := rf_get hy
      have hm := List.mem_of_getElem? hx
      refine ⟨rfl, ?_⟩
      refine ⟨_, rfl, x, rfl, sm _ _ (s0 _ _ (hb x hm)), hg x hm, fun H3 s3 => ?_⟩
      refine ⟨_, s3 _ _ e, small1000 (by rw [List.length_map]; omega), bs ++ [true], ?_, fun b h => ?_, by rw [List.length_append, lb]; rfl, same_own (sm.trans s3) hD⟩
      · rw [upd_same, List.map_append]
        rfl
      · rcases List.mem_append.mp h with y | y
        · exact hbs b y
        · exact List.mem_singleton.mp y
    · rintro H2 ⟨bs, e, hbs, lb, sm⟩
      refine ⟨D', bs, rfl, SqL.of e, true, by rw [all_true hbs], ?_⟩
      refine iteF ?_
      have s2 : Same H H2 := s0.trans sm
      -- one behind the other
      refine ⟨_, rfl, l, _, rfl, SqL.of (s2 _ _ hl), ?_⟩
      refine for_it (walk_enum (xs := rf xs)) (fun i σ H' => ∃ x1 x2 : Option V, σ = [some (.ref l), x1, x2] ∧ Same H H') ⟨_, _, rfl, s2⟩ ?_ ?_ ?_
      · rintro i σ H3 _ ⟨_, _, _, sm⟩
        exact SqL.of (sm _ _ hl)
      · rintro i y σ H3 H4 hi ⟨x1, x2, rfl, s3⟩ ⟨T, i1, y1, rfl, hT, rfl, e1, e2⟩
        cases e1
        rw [rf_len] at hi
        obtain ⟨x, hx, rfl⟩ := rf_get e2
        have hbx := bb_get hx
        have hp : prev (bb xs).length i < (bb xs).length := by
          rw [bb_len]
          unfold prev
          by_cases z : i = 0
          · rw [if_pos z]; omega
          · rw [if_neg z]; omega
        obtain ⟨x', hx', hbx'⟩ : ∃ x', xs[prev (bb xs).length i]? = some x' ∧ (bb xs)[prev (bb xs).length i]? = some x'.2 := by
          rw [bb_len] at hp
          exact ⟨_, List.getElem?_eq_getElem (by rw [bb_len]; exact hp), bb_get (List.getElem?_eq_getElem (by rw [bb_len]; exact hp))⟩
        have lnk := hR.lnk i x.2 x'.2 hbx hbx'
        have s4 : Same H (upd H3 T (.tup [.int (i : Nat), .ref x.1])) := same_up s3 hT
        have b1 := s4 _ _ (hb x (List.mem_of_getElem? hx))
        have b2 := s4 _ _ (hb x' (List.mem_of_getElem? hx'))
        refine ⟨T, _, rfl, SqT.of upd_same, rfl, _, _, rfl, _, _, rfl, rfl, ?_⟩
        have ga : atI (rf xs) ((i : Int) - 1) = some (.ref x'.1) := by
          refine at_prev (by rw [rf_len]; exact hi) ?_
          rw [rf_len]
          rw [bb_len] at hx'
          unfold rf
          rw [List.getElem?_map, hx']
          rfl
        refine ⟨_, rfl, _, rfl, _, _, rfl, rfl, l, _, _, .ref x'.1, rfl, rfl, SqL.of (s4 _ _ hl), ga, x'.1, tb x'.2, 1, .str x'.2.v, rfl, rfl, SqT.of b2, atI_nat (j := 1) rfl, ?_⟩
        refine ⟨_, rfl, x.1, tb x.2, 0, .str x.2.u, rfl, rfl, SqT.of b1, atI_nat (j := 0) rfl, rfl, _, rfl, ?_⟩
        rw [lnk, decide_eq_true rfl]
        refine iteF ?_
        exact ⟨_, _, rfl, s4⟩
      · rintro σ H3 ⟨x1, x2, rfl, s3⟩
        -- the sum
        refine ⟨_, rfl, l, rfl, ⟨_, SqL.of (s3 _ _ hl)⟩, fun D2 hD2 => ?_⟩
        refine lc_list (K := K) (a := l) (xs := rf xs) (fun i H' => H' = upd H3 D2 (.lst ((((bb xs).map (·.c)).take i).map V.int))) rfl ?_ ?_ ?_
        · rintro i H4 _ rfl
          exact SqL.of (by rw [upd_ne (ne_of_none (s3 _ _ hl) hD2)]; exact s3 _ _ hl)
        · rintro i y H4 hy rfl
          obtain ⟨x, hx, rfl⟩ := rf_get hy
          have hi : i < xs.length := (List.getElem?_eq_some_iff.mp hx).1
          have bx := s3 _ _ (hb x (List.mem_of_getElem? hx))
          have et : (((bb xs).map (·.c)).take (i + 1)) = (((bb xs).map (·.c)).take i) ++ [x.2.c] := by
            rw [List.take_add_one, List.getElem?_map, bb_get hx]
            rfl
          refine ⟨rfl, ?_⟩
          refine ⟨_, rfl, x.1, tb x.2, 2, .int x.2.c, rfl, rfl, SqT.of (by rw [upd_ne (ne_of_none bx hD2)]; exact bx), atI_nat (j := 2) rfl, _, upd_same, small1000 ?_, ?_⟩
          · rw [List.length_map, List.length_take]
            omega
          · rw [upd_upd, et, List.map_append]
            rfl
        · rintro H4 rfl
          have ef : ((bb xs).map (·.c)).take (rf xs).length = (bb xs).map (·.c) := List.take_of_length_le (by rw [List.length_map, bb_len, rf_len]; omega)
          rw [ef]
          refine ⟨D2, _, rfl, SqL.of upd_same, _, _, rfl, rfl, ?_⟩
          show Q (.bl (decide (((bb xs).map (·.c)).sum < 0))) _
          rw [decide_eq_true hR.neg]
          exact q _ (same_up s3 hD2)
end
end K29

/-! dicts by the names in their order; small facts of lists -/
namespace K29
open PySem PySem.Spec PyProof.Rows L2
/-- a dict of the names l, in this order -/
def dI (l : List Str) (g : Str → V) : List (Key × V) := l.map fun n => ((Sum.inr n : Key), g n)
theorem dI_len (l : List Str) (g : Str → V) : (dI l g).length = l.length := by unfold dI; rw [List.length_map]
theorem dI_get {l : List Str} {g : Str → V} {i : Nat} {k : Key} {v : V} (h : (dI l g)[i]? = some (k, v)) : ∃ n, l[i]? = some n ∧ k = Sum.inr n ∧ v = g n := by
  unfold dI at h
  rw [List.getElem?_map] at h
  cases e : l[i]? with
  | none => rw [e] at h; cases h
  | some n =>
    rw [e] at h
    cases h
    exact ⟨n, rfl, rfl, rfl⟩
theorem dI_in : ∀ {l : List Str} {g : Str → V} {n : Str}, n ∈ l → valV (dI l g) (Sum.inr n) = some (g n)
  | a :: r, g, n, h => by
    by_cases e : a = n
    · subst e
      exact valV_pos (p := ((Sum.inr a : Key), g a)) rfl
    · have h2 : n ∈ r := by
        rcases List.mem_cons.mp h with z | z
        · exact absurd z.symm e
        · exact z
      refine (valV_neg (p := ((Sum.inr a : Key), g a)) fun z => e (Sum.inr.inj z)).trans ?_
      exact dI_in h2
theorem dI_out : ∀ {l : List Str} {g : Str → V} {n : Str}, ¬ n ∈ l → valV (dI l g) (Sum.inr n) = none
  | [], _, _, _ => rfl
  | a :: r, g, n, h => by
    refine (valV_neg (p := ((Sum.inr a : Key), g a)) fun z => h (by rw [Sum.inr.inj z]; exact List.mem_cons_self)).trans ?_
    exact dI_out fun z => h (List.mem_cons_of_mem _ z)
theorem dget_in {H : Hp} {d : Addr} {l : List Str} {g : Str → V} {n : Str} (e : Rd H d (.dK (dI l g))) (h : n ∈ l) : DGet H d (.str n) (some (g n)) := .inl ⟨_, Sum.inr n, e, rfl, (dI_in h).symm⟩
theorem dget_out {H : Hp} {d : Addr} {l : List Str} {g : Str → V} {n : Str} (e : Rd H d (.dK (dI l g))) (h : ¬ n ∈ l) : DGet H d (.str n) none := .inl ⟨_, Sum.inr n, e, rfl, (dI_out h).symm⟩
theorem dI_congr {l : List Str} {g g' : Str → V} (h : ∀ n, n ∈ l → g n = g' n) : dI l g = dI l g' := by
  unfold dI
  exact List.map_congr_left fun n hn => by rw [h n hn]
theorem put_in {l : List Str} {g : Str → V} {n : Str} {y : V} (h : n ∈ l) : putK (dI l g) (Sum.inr n) y = dI l (put g n y) := by
  unfold putK
  rw [if_pos]
  · unfold dI
    rw [List.map_map]
    refine List.map_congr_left fun m _ => ?_
    show (if (Sum.inr m : Key) = Sum.inr n then ((Sum.inr m : Key), y) else ((Sum.inr m : Key), g m)) = _
    by_cases e : m = n
    · rw [if_pos (by rw [e]), e, put_same]
    · rw [if_neg fun z => e (Sum.inr.inj z), put_ne e]
  · rw [valV_any, dI_in h]
    rfl
theorem put_out {l : List Str} {g : Str → V} {n : Str} {y : V} (h : ¬ n ∈ l) : putK (dI l g) (Sum.inr n) y = dI (l ++ [n]) (put g n y) := by
  rw [putK_new y (dI_out h)]
  unfold dI
  rw [List.map_append]
  refine congr (congrArg _ (List.map_congr_left fun m hm => ?_)) ?_
  · have nmn : m ≠ n := fun e => h (by rw [← e]; exact hm)
    rw [put_ne nmn]
  · show [((Sum.inr n : Key), y)] = [((Sum.inr n : Key), put g n y n)]
    rw [put_same]
theorem drop_head {l : List Str} {g : Str → V} {n : Str} (h : ¬ n ∈ l) : dropK (dI (n :: l) g) (Sum.inr n) = dI l g := by
  refine (dropK_pos (p := ((Sum.inr n : Key), g n)) rfl).trans ?_
  refine dropK_no fun m => ?_
  obtain ⟨p, hp, e⟩ := List.mem_map.mp m
  obtain ⟨x, hx, rfl⟩ := List.mem_map.mp hp
  exact h (by rw [← Sum.inr.inj e]; exact hx)
/-- a function of ints put at one place -/
theorem put_int {val : Str → Int} {n : Str} {y : Int} : (fun m => V.int (put val n y m)) = put (fun m => V.int (val m)) n (.int y) := by
  funext m
  unfold put
  by_cases e : m = n
  · rw [if_pos e, if_pos e]
  · rw [if_neg e, if_neg e]
theorem put_ref {cx : Str → Addr × Bn} {n : Str} {y : Addr × Bn} : (fun m => V.ref (put cx n y m).1) = put (fun m => V.ref (cx m).1) n (.ref y.1) := by
  funext m
  unfold put
  by_cases e : m = n
  · rw [if_pos e, if_pos e]
  · rw [if_neg e, if_neg e]
theorem inV_int (a : Int) (ls : List Int) : inV (.int a) (ls.map V.int) = decide (a ∈ ls) := by
  unfold inV
  rw [Bool.eq_iff_iff, List.any_eq_true, decide_eq_true_eq]
  constructor
  · rintro ⟨v, hv, e⟩
    obtain ⟨y, hy, rfl⟩ := List.mem_map.mp hv
    have e : (y == a) = true := e
    rw [← beq_iff_eq.mp e]
    exact hy
  · intro h
    exact ⟨.int a, List.mem_map.mpr ⟨a, h, rfl⟩, by show (a == a) = true; exact beq_self_eq_true a⟩
theorem flat_ints (ns : List Int) : (ns.map V.int).all flatV = true := by
  rw [List.all_eq_true]
  intro v hv
  obtain ⟨y, _, rfl⟩ := List.mem_map.mp hv
  rfl
/-- behind a lock -/
theorem But.unlock {d : Addr} {u : HO} {H H' : Hp} (b : But d H H') (h : H d = some u) : Same H (upd H' d u) := fun c o e => by
  by_cases z : c = d
  · subst z
    rw [upd_same, ← e, h]
  · rw [upd_ne z]
    exact b c o z e
theorem But.locked {d : Addr} {u : HO} {H : Hp} : But d H (upd H d u) := fun c o z e => by rw [upd_ne z]; exact e
theorem BAt.butd {d : Addr} {H H' : Hp} {x : Addr × Bn} {kvs : List (Key × V)} (b : BAt H x) (h : H d = some (.dK kvs)) (s : But d H H') : BAt H' x := b.but h (fun _ q => nomatch q) s
/-- what a name is for a system -/
def NamesOf (bs : List Bn) (nm : List Str) : Prop := nm.Nodup ∧ ∀ n, n ∈ nm ↔ n ≠ zs ∧ ∃ b, b ∈ bs ∧ (n = b.u ∨ n = b.v)
def lowsOf (nm : List Str) : List Bn := nm.map fun n => ⟨zs, n, 0⟩
/-- a least solution -/
structure Least (bs : List Bn) (nm : List Str) (val : Str → Int) : Prop where
  names : NamesOf bs nm
  zero : val zs = 0
  nonneg : ∀ n, 0 ≤ val n
  keeps : Keeps bs val
  forced : Forced zs bs (zs :: nm) val
  least : ∀ s : Str → Int, s zs = 0 → (∀ n, n ∈ nm → 0 ≤ s n) → Keeps bs s → ∀ n, n ∈ nm → val n ≤ s n
theorem NamesOf.u {bs : List Bn} {nm : List Str} (h : NamesOf bs nm) {b : Bn} (hb : b ∈ bs) : b.u ∈ zs :: nm := by
  by_cases e : b.u = zs
  · rw [e]
    exact List.mem_cons_self
  · exact List.mem_cons_of_mem _ ((h.2 _).mpr ⟨e, b, hb, .inl rfl⟩)
theorem NamesOf.v {bs : List Bn} {nm : List Str} (h : NamesOf bs nm) {b : Bn} (hb : b ∈ bs) : b.v ∈ zs :: nm := by
  by_cases e : b.v = zs
  · rw [e]
    exact List.mem_cons_self
  · exact List.mem_cons_of_mem _ ((h.2 _).mpr ⟨e, b, hb, .inr rfl⟩)
theorem NamesOf.nz {bs : List Bn} {nm : List Str} (h : NamesOf bs nm) : ¬ zs ∈ nm := fun z => ((h.2 _).mp z).1 rfl
theorem same_len {α : Type} {a b : List α} (na : a.Nodup) (nb : b.Nodup) (h1 : a ⊆ b) (h2 : b ⊆ a) : a.length = b.length := Nat.le_antisymm (na.length_le_of_subset h1) (nb.length_le_of_subset h2)
end K29

/-! the law's look whether values are forced -/
namespace K29
open PySem PySem.Spec PyProof.Rows L2
/-- what the look's inner list holds -/
def fl (val : Str → Int) (n : Str) (rs : List Str) (b : Bn) : Option Int := if b.v = n ∧ b.u ∈ rs then some (val b.u - b.c) else none
section
variable {P : Program} {w : World} {K : PySem.W.Frag} {mg : Str → Option Value} {base : Heap}
theorem scForced : FnScope ["_law_bounds", "_law_values", "_law_reached", "_law_turn", "_law_name_here", "_law_lows", "_law_u", "_law_v", "_law_c"] ["_law_bounds", "_law_values"] (defScope sForced) :=
  ⟨rfl, rfl, rfl, by decide +kernel, rfl, by decide +kernel, by decide +kernel⟩
def spForced : Sp := fun vs H Q _ => ∃ (bl vd : Addr) (xs : List (Addr × Bn)) (nz : List Str) (val : Str → Int), vs = [.ref bl, .ref vd] ∧ H bl = some (.lst (rf xs)) ∧ Bs H xs ∧ xs.length ≤ 100 ∧ H vd = some (.dK (dI nz fun n => .int (val n))) ∧
  nz.Nodup ∧ nz.length ≤ 300 ∧ zs ∈ nz ∧ (∀ b, b ∈ bb xs → b.u ∈ nz ∧ b.v ∈ nz) ∧ Forced zs (bb xs) nz val ∧ ∀ H', Same H H' → Q (.bl true) H'
theorem ok_forced {f : Addr} {fd : FuncData} (F : Fun K "_law_is_forced" "_law_is_forced" sForced f fd) (zr : mg "range" = none) (zl : mg "len" = none) : FnOk P w K mg base CX0 1 f fd ["_law_bounds", "_law_values"] spForced := by
  refine F.ok scForced (fun vs H Q E h => ?_) (fun cdv A outer s H vs Q E hr h => ?_)
  · obtain ⟨bl, vd, xs, nz, val, rfl, _⟩ := h
    rfl
  · obtain ⟨bl, vd, xs, nz, val, rfl, hbl, hb, hxl, hvd, nd, hnl, hz, hin, ⟨rk, hrk⟩, q⟩ := h
    refine ⟨_, pss_cons (ps_set (i := 2) scForced.nd rfl (Or.inr rfl) (pe_lst (pa_cons pe_str pa_nil)))
      (pss_cons (ps_for PassesOwn.never rfl (pi_range1 (by rfl) zr (pa_cons (pe_callB call_lenD (by rfl) zl PySem.boot_len (pa_cons (pv 1) pa_nil)) pa_nil)) (pg_name (i := 3) scForced.nd rfl (Or.inl rfl))
        (pss_one (ps_lock (ps_for PassesOwn.never rfl (pi_keys (pv 1)) (pg_name (i := 4) scForced.nd rfl (Or.inr rfl))
          (pss_one (ps_if (pt_cmpR op_notIn_seq (pv 4) (pv 2) (by rfl))
            (pss_cons (ps_setLc (i := 5) (own := [("_law_u", 6), ("_law_v", 7), ("_law_c", 8)]) (g := gTup K 3 (gCons (gName 6) (gCons (gName 7) (gCons (gName 8) gNil)))) (by rfl) scForced.nd rfl rfl (sw_true rfl rfl rfl (by decide +kernel)) (pi_list (pv 0))
                (blkOk_by (own := [("_law_u", 6), ("_law_v", 7), ("_law_c", 8)]) (N := ["_law_bounds", "_law_values", "_law_reached", "_law_turn", "_law_name_here", "_law_lows", "_law_u", "_law_v", "_law_c"]) (sc := defScope sForced) (by decide +kernel))
                (fun _ _ _ _ _ => pg_tup rfl (pgs_cons (pg_name (i := 6) scForced.nd rfl (Or.inl rfl)) (pgs_cons (pg_name (i := 7) scForced.nd rfl (Or.inl rfl)) (pgs_cons (pg_name (i := 8) scForced.nd rfl (Or.inl rfl)) pgs_nil))))
                (fun _ _ _ _ _ => pts_one (PW.pt (pw_and (pt_cmpR op_eq (pv 7) (pv 4) (nomark _)) (pw_and1 (pt_cmpR (r := rIn K false) op_in_seq (pv 6) (pv 2) (by rfl))))))
                (fun _ _ _ _ _ => pe_op op_sub (pe_dget (hu_of hr) (pv 1) (pv 6) (fun _ _ => rfl)) (pv 8)))
            (pss_one (ps_if (PW.pt (pw_or (pt_cmpR op_eq (pe_dget (hu_of hr) (pv 1) (pv 4) (fun _ _ => rfl)) pe_int (nomark _)) (pw_or1 (pt_cmpR op_in_seq (pe_dget (hu_of hr) (pv 1) (pv 4) (fun _ _ => rfl)) (pv 5) (by rfl)))))
              (pss_one (ps_expr (pe_bm PySem.F.plainAttrs_list PySem.F.slot_list_append PySem.F.type_list_append mt_append (pv 2) (pa_cons (pv 4) pa_nil)))) pss_nil)))
            pss_nil))))))
      (pss_one (ps_ret (pe_cmpR op_eq (pe_callB call_len_seq (by rfl) zl PySem.boot_len (pa_cons (pv 2) pa_nil)) (pe_callB call_lenD (by rfl) zl PySem.boot_len (pa_cons (pv 1) pa_nil)) (nomark _))))), ?_⟩
    refine ⟨line100 (by show 1 ≤ 1000; decide), fun rl hrl => ?_⟩
    have nvr : vd ≠ rl := ne_of_none hvd hrl
    have nbr : bl ≠ rl := ne_of_none hbl hrl
    have nbv : bl ≠ vd := ne_of hbl hvd fun z => nomatch z
    refine ⟨_, rfl, vd, _, rfl, Eq.trans (upd_ne nvr) hvd, _, rfl, by rw [dI_len]; omega, by rw [dI_len]; omega, ?_⟩
    rw [dI_len]
    refine for_range (lo := 0) (n := ((nz.length : Nat) : Int).toNat) (fun i σ H' => ∃ (rs : List Str) (x3 x4 x5 : Option V), σ = [some (.ref bl), some (.ref vd), some (.ref rl), x3, x4, x5, none, none, none] ∧ H' rl = some (.lst (rs.map V.str)) ∧
      rs.Nodup ∧ (∀ r, r ∈ rs → r ∈ nz) ∧ zs ∈ rs ∧ (∀ n, n ∈ nz → rk n < i → n ∈ rs) ∧ Same H H')
      ⟨[zs], none, none, none, rfl, upd_same, by simp, fun r hr => by rw [List.mem_singleton.mp hr]; exact hz, List.mem_singleton.mpr rfl, fun _ _ z => absurd z (Nat.not_lt_zero _), same_up (Same.refl H) hrl⟩ ?_ ?_
    · rintro i σ H1 hi ⟨rs, x3, x4, x5, rfl, e1, nr, rin, zin, rdone, s1⟩
      have hvd1 := s1 _ _ hvd
      refine ⟨vd, _, hvd1, trivial, fun od => ?_⟩
      refine ⟨_, rfl, vd, od, rfl, .inl ⟨_, upd_same, ?_⟩⟩
      refine for_it (walk_keys (kvs := dI nz fun n => .int (val n))) (fun j σ H' => ∃ (rs : List Str) (x4 x5 : Option V), σ = [some (.ref bl), some (.ref vd), some (.ref rl), some (.int (0 + (i : Nat))), x4, x5, none, none, none] ∧ H' rl = some (.lst (rs.map V.str)) ∧
        rs.Nodup ∧ (∀ r, r ∈ rs → r ∈ nz) ∧ zs ∈ rs ∧ (∀ n, n ∈ nz → rk n < i → n ∈ rs) ∧ (∀ n, n ∈ nz.take j → rk n < i + 1 → n ∈ rs) ∧ H' vd = some (.frz od (.dK (dI nz fun n => .int (val n)))) ∧ But vd H H')
        ⟨rs, _, _, rfl, Eq.trans (upd_ne nvr.symm) e1, nr, rin, zin, rdone, fun n hn => (by rw [List.take_zero] at hn; cases hn), upd_same, (But.same s1).trans But.locked⟩ ?_ ?_ ?_
      · rintro j σ H2 _ ⟨_, _, _, _, _, _, _, _, _, _, e, _⟩
        exact e
      · rintro j y σ H2 H3 hj ⟨rs, x4, x5, rfl, e2, nr, rin, zin, rdone, rnow, ev, b2⟩ ⟨rfl, k, v, hk, rfl⟩
        obtain ⟨n, hn, rfl, rfl⟩ := dI_get hk
        have hnm := List.mem_of_getElem? hn
        have hjn : j < nz.length := (List.getElem?_eq_some_iff.mp hn).1
        have et : nz.take (j + 1) = nz.take j ++ [n] := by rw [List.take_add_one, hn]; rfl
        have rdv : Rd H3 vd (.dK (dI nz fun n => .int (val n))) := .inr ⟨od, ev⟩
        have len2 : rs.length ≤ nz.length := nr.length_le_of_subset rin
        refine ⟨_, rfl, _, rfl, rl, _, rfl, .inl (SqL.of e2), rfl, flat_strs rs, _, rfl, ?_⟩
        show if (!inV (.str n) (rs.map V.str)) = true then _ else _
        rw [inV_str]
        by_cases hnr : n ∈ rs
        · rw [decide_eq_true hnr]
          refine iteF ⟨rs, _, _, rfl, e2, nr, rin, zin, rdone, fun m hm hlt => ?_, ev, b2⟩
          rw [et] at hm
          rcases List.mem_append.mp hm with z | z
          · exact rnow m z hlt
          · rw [List.mem_singleton.mp z]
            exact hnr
        · rw [decide_eq_false hnr]
          refine iteT ?_
          -- the lows
          have hbl3 := b2 bl _ nbv hbl
          refine ⟨_, rfl, bl, rfl, ⟨_, SqL.of hbl3⟩, fun D' hD => ?_⟩
          have nbD : bl ≠ D' := ne_of_none hbl3 hD
          have nrD : rl ≠ D' := ne_of_none e2 hD
          have nvD : vd ≠ D' := ne_of_none ev hD
          refine lc_list (K := K) (a := bl) (xs := rf xs) (fun m H' => H' = upd H3 D' (.lst ((((bb xs).take m).filterMap (fl val n rs)).map V.int))) rfl ?_ ?_ ?_
          · rintro m H4 _ rfl
            exact SqL.of (by rw [upd_ne nbD]; exact hbl3)
          · rintro m y H4 hy rfl
            obtain ⟨x, hx, rfl⟩ := rf_get hy
            have hm : m < xs.length := (List.getElem?_eq_some_iff.mp hx).1
            have hbx := (hb x (List.mem_of_getElem? hx)).butd hvd b2
            have hbx4 : (upd H3 D' (.lst ((((bb xs).take m).filterMap (fl val n rs)).map V.int))) x.1 = some (.tup (tb x.2)) := by
              rw [upd_ne (ne_of_none hbx hD)]
              exact hbx
            have hxin := hin x.2 (mem_bb (List.mem_of_getElem? hx))
            have em : ((bb xs).take (m + 1)).filterMap (fl val n rs) = ((bb xs).take m).filterMap (fl val n rs) ++ (fl val n rs x.2).toList := by
              rw [List.take_add_one, bb_get hx, List.filterMap_append]
              show _ ++ [x.2].filterMap (fl val n rs) = _
              rw [List.filterMap_cons, List.filterMap_nil]
              cases fl val n rs x.2 <;> rfl
            have lenf : (((bb xs).take m).filterMap (fl val n rs)).length ≤ 100 := by
              have a := List.length_filterMap_le (fl val n rs) ((bb xs).take m)
              rw [List.length_take, bb_len] at a
              omega
            refine ⟨x.1, _, rfl, SqT.of hbx4, rfl, _, _, rfl, _, _, rfl, _, _, rfl, rfl, rfl, ?_⟩
            refine ⟨_, rfl, _, rfl, rfl, _, rfl, ?_⟩
            rw [show decide (V.str x.2.v = kV (Sum.inr n)) = decide (x.2.v = n) from dec_str]
            by_cases hv : x.2.v = n
            · rw [decide_eq_true hv]
              refine iteT ?_
              refine ⟨_, rfl, _, rfl, rl, _, rfl, .inl (SqL.of (Eq.trans (upd_ne nrD) e2)), rfl, flat_strs rs, _, rfl, ?_⟩
              show if inV (.str x.2.u) (rs.map V.str) = true then _ else _
              rw [inV_str]
              by_cases hu : x.2.u ∈ rs
              · rw [decide_eq_true hu]
                have ef : fl val n rs x.2 = some (val x.2.u - x.2.c) := if_pos ⟨hv, hu⟩
                refine iteT ?_
                refine ⟨_, rfl, _, rfl, vd, _, rfl, dget_in (.inr ⟨od, Eq.trans (upd_ne nvD) ev⟩) hxin.1, _, rfl, _, _, rfl, rfl, _, upd_same, small1000 (by rw [List.length_map]; omega), ?_⟩
                rw [upd_upd, em, ef, List.map_append]
                rfl
              · rw [decide_eq_false hu]
                have ef : fl val n rs x.2 = none := if_neg fun z => hu z.2
                refine iteF ?_
                rw [em, ef]
                show _ = upd H3 D' (.lst ((_ ++ []).map V.int))
                rw [List.append_nil]
            · rw [decide_eq_false hv]
              have ef : fl val n rs x.2 = none := if_neg fun z => hv z.1
              refine iteF ?_
              refine iteF ?_
              rw [em, ef]
              show _ = upd H3 D' (.lst ((_ ++ []).map V.int))
              rw [List.append_nil]
          · rintro H4 rfl
            have ea : (bb xs).take (rf xs).length = bb xs := List.take_of_length_le (by rw [bb_len, rf_len]; exact Nat.le_refl _)
            rw [ea]
            have e4r : (upd H3 D' (.lst (((bb xs).filterMap (fl val n rs)).map V.int))) rl = some (.lst (rs.map V.str)) := Eq.trans (upd_ne nrD) e2
            have e4v : (upd H3 D' (.lst (((bb xs).filterMap (fl val n rs)).map V.int))) vd = some (.frz od (.dK (dI nz fun n => .int (val n)))) := Eq.trans (upd_ne nvD) ev
            have b4 : But vd H (upd H3 D' (.lst (((bb xs).filterMap (fl val n rs)).map V.int))) := b2.up hD
            have e4D : (upd H3 D' (.lst (((bb xs).filterMap (fl val n rs)).map V.int))) D' = some (.lst (((bb xs).filterMap (fl val n rs)).map V.int)) := upd_same
            generalize upd H3 D' (.lst (((bb xs).filterMap (fl val n rs)).map V.int)) = H5 at e4r e4v b4 e4D
            have rd5 : Rd H5 vd (.dK (dI nz fun n => .int (val n))) := .inr ⟨od, e4v⟩
            -- the append
            have addit : ∃ (rs' : List Str) (x4 x5 : Option V), [some (V.ref bl), some (.ref vd), some (.ref rl), some (.int (0 + (i : Nat))), some (.str n), some (.ref D'), none, none, none] = [some (.ref bl), some (.ref vd), some (.ref rl), some (.int (0 + (i : Nat))), x4, x5, none, none, none] ∧
                (upd H5 rl (.lst (rs.map V.str ++ [.str n]))) rl = some (.lst (rs'.map V.str)) ∧ rs'.Nodup ∧ (∀ r, r ∈ rs' → r ∈ nz) ∧ zs ∈ rs' ∧ (∀ n, n ∈ nz → rk n < i → n ∈ rs') ∧ (∀ n, n ∈ nz.take (j + 1) → rk n < i + 1 → n ∈ rs') ∧
                (upd H5 rl (.lst (rs.map V.str ++ [.str n]))) vd = some (.frz od (.dK (dI nz fun n => .int (val n)))) ∧ But vd H (upd H5 rl (.lst (rs.map V.str ++ [.str n]))) := by
              refine ⟨rs ++ [n], _, _, rfl, ?_, nd_snoc nr hnr, fun r hr => ?_, List.mem_append_left _ zin, fun m hm hlt => List.mem_append_left _ (rdone m hm hlt), fun m hm hlt => ?_, Eq.trans (upd_ne nvr) e4v, b4.own hrl⟩
              · rw [upd_same, List.map_append]
                rfl
              · rcases List.mem_append.mp hr with z | z
                · exact rin r z
                · rw [List.mem_singleton.mp z]
                  exact hnm
              · rw [et] at hm
                rcases List.mem_append.mp hm with z | z
                · exact List.mem_append_left _ (rnow m z hlt)
                · exact List.mem_append_right _ z
            refine ⟨_, rfl, _, rfl, vd, _, rfl, dget_in rd5 hnm, rfl, _, rfl, ?_⟩
            rw [show decide (V.int (val n) = V.int 0) = (val n == 0) from dec_int]
            by_cases v0 : val n = 0
            · rw [v0]
              refine iteT (iteT ?_)
              exact ⟨_, rfl, .inl ⟨rfl, _, SqL.of e4r⟩, _, rfl, rl, _, _, rfl, rfl, e4r, small1000 (by rw [List.length_map]; omega), addit⟩
            · rw [beq_eq_false_iff_ne.mpr v0]
              refine iteF ?_
              refine ⟨_, rfl, _, rfl, vd, _, rfl, dget_in rd5 hnm, _, rfl, D', _, rfl, .inl (SqL.of e4D), rfl, flat_ints _, _, rfl, ?_⟩
              show if inV (.int (val n)) (((bb xs).filterMap (fl val n rs)).map V.int) = true then _ else _
              rw [inV_int]
              by_cases hl : val n ∈ (bb xs).filterMap (fl val n rs)
              · rw [decide_eq_true hl]
                refine iteT ?_
                exact ⟨_, rfl, .inl ⟨rfl, _, SqL.of e4r⟩, _, rfl, rl, _, _, rfl, rfl, e4r, small1000 (by rw [List.length_map]; omega), addit⟩
              · rw [decide_eq_false hl]
                refine iteF ⟨rs, _, _, rfl, e4r, nr, rin, zin, rdone, fun m hm hlt => ?_, e4v, b4⟩
                rw [et] at hm
                rcases List.mem_append.mp hm with z | z
                · exact rnow m z hlt
                · exfalso
                  have em : m = n := List.mem_singleton.mp z
                  subst em
                  rcases (hrk m hnm).2 with c | c | ⟨b, hbb, hbv, hbu, hlt2, hval⟩
                  · rw [c] at hnr
                    exact hnr zin
                  · exact v0 c
                  · have hur := rdone b.u hbu (by omega)
                    refine hl (List.mem_filterMap.mpr ⟨b, hbb, ?_⟩)
                    unfold fl
                    rw [if_pos ⟨hbv, hur⟩, hval]
      · rintro σ H2 ⟨rs, x4, x5, rfl, e2, nr, rin, zin, rdone, rnow, ev, b2⟩
        rw [dI_len, List.take_length] at rnow
        exact ⟨ev, rs, _, _, _, rfl, Eq.trans (upd_ne nvr.symm) e2, nr, rin, zin, rnow, b2.unlock hvd⟩
    · rintro σ H1 ⟨rs, x3, x4, x5, rfl, e1, nr, rin, zin, rdone, s1⟩
      have el : rs.length = nz.length := same_len nr nd rin fun n hn => rdone n hn (by have := (hrk n hn).1; omega)
      refine ⟨_, rfl, rl, _, rfl, .inl (SqL.of e1), _, rfl, vd, _, rfl, s1 _ _ hvd, rfl, ?_⟩
      have ed : decide (V.int ((rs.map V.str).length : Int) = V.int ((dI nz fun n => V.int (val n)).length : Int)) = true := by
        rw [List.length_map, dI_len, el]
        exact decide_eq_true rfl
      show Q (.bl (decide (V.int ((rs.map V.str).length : Int) = V.int ((dI nz fun n => V.int (val n)).length : Int)))) H1
      rw [ed]
      exact q H1 s1
end
end K29

/-! the law's look at a least solution -/
namespace K29
open PySem PySem.Spec PyProof.Rows L2
theorem put_self {β : Type} {g : Str → β} {n : Str} {y : β} (h : g n = y) : put g n y = g := by
  funext m
  unfold put
  by_cases e : m = n
  · rw [if_pos e, e, h]
  · rw [if_neg e]
theorem bools_len {i : Nat} {bs : List Bool} (h : bs.length = i) (hi : i ≤ 500) : (bs.map V.bl).length < sizeLine := small1000 (by rw [List.length_map]; omega)
theorem bools_snoc {bs : List Bool} (h : ∀ b, b ∈ bs → b = true) : ∀ b, b ∈ bs ++ [true] → b = true := fun b hb => by
  rcases List.mem_append.mp hb with y | y
  · exact h b y
  · exact List.mem_singleton.mp y
section
variable {P : Program} {w : World} {K : PySem.W.Frag} {mg : Str → Option Value} {base : Heap}
theorem scIsLeast : FnScope ["_law_bounds", "_law_told", "_law_names_here", "_law_name_here", "_law_values", "_law_value", "_law_bound", "_law_u", "_law_v", "_law_c"] ["_law_bounds", "_law_told"] (defScope sIsLeast) :=
  ⟨rfl, rfl, rfl, by decide +kernel, rfl, by decide +kernel, by decide +kernel⟩
def spIsLeast : Sp := fun vs H Q _ => ∃ (bl td : Addr) (xs : List (Addr × Bn)) (nm : List Str) (val : Str → Int), vs = [.ref bl, .ref td] ∧ H bl = some (.lst (rf xs)) ∧ Bs H xs ∧ xs.length ≤ 100 ∧ H td = some (.dK (dI nm fun n => .int (val n))) ∧
  nm.length ≤ 200 ∧ Least (bb xs) nm val ∧ ∀ H', Same H H' → Q (.bl true) H'
theorem ok_isLeast {f f1 : Addr} {fd fd1 : FuncData} (F : Fun K "_law_is_least" "_law_is_least" sIsLeast f fd) (DF : Df P w K mg base 1 "_law_is_forced" ["_law_bounds", "_law_values"] spForced f1 fd1)
    (zs1 : mg "isinstance" = none) (zd : mg "dict" = none) (za : mg "all" = none) (zi : mg "int" = none) (zb : mg "bool" = none) : FnOk P w K mg base CX0 2 f fd ["_law_bounds", "_law_told"] spIsLeast := by
  refine F.ok scIsLeast (fun vs H Q E h => ?_) (fun cdv A outer s H vs Q E hr h => ?_)
  · obtain ⟨bl, td, xs, nm, val, rfl, _⟩ := h
    rfl
  · obtain ⟨bl, td, xs, nm, val, rfl, hbl, hb, hxl, htd, hnl, hL, q⟩ := h
    refine ⟨_, pss_cons (ps_set (i := 2) scIsLeast.nd rfl (Or.inr rfl) (pe_op op_cat
        (pe_lc (own := [("_law_bound", 6)]) (g := gName 6) (tt := tYes) rfl scIsLeast.nd (pi_list (pv 0))
          (blkOk_by (own := [("_law_bound", 6)]) (N := ["_law_bounds", "_law_told", "_law_names_here", "_law_name_here", "_law_values", "_law_value", "_law_bound", "_law_u", "_law_v", "_law_c"]) (sc := defScope sIsLeast) (by decide +kernel))
          (fun _ _ _ _ _ => pg_name (i := 6) scIsLeast.nd rfl (Or.inl rfl)) (fun _ _ _ _ _ => pts_nil) (fun _ _ _ _ _ => pe_ix (r := rIxT K) ix_tup (pv 6) pe_int (fun _ _ => rfl)))
        (pe_lc (own := [("_law_bound", 6)]) (g := gName 6) (tt := tYes) rfl scIsLeast.nd (pi_list (pv 0))
          (blkOk_by (own := [("_law_bound", 6)]) (N := ["_law_bounds", "_law_told", "_law_names_here", "_law_name_here", "_law_values", "_law_value", "_law_bound", "_law_u", "_law_v", "_law_c"]) (sc := defScope sIsLeast) (by decide +kernel))
          (fun _ _ _ _ _ => pg_name (i := 6) scIsLeast.nd rfl (Or.inl rfl)) (fun _ _ _ _ _ => pts_nil) (fun _ _ _ _ _ => pe_ix (r := rIxT K) ix_tup (pv 6) pe_int (fun _ _ => rfl)))))
      (pss_cons (ps_if (PW.pt (pw_or (pt_not (pt_val (pe_callB call_isi (by rfl) zs1 (by decide +kernel) (pa_cons (pv 1) (pa_cons (pe_bltn (v := .ty "dict") (by rfl) zd (by decide +kernel) rfl) pa_nil)))))
        (pw_or (pt_cmp (pc_din (hu_of hr) pe_str (pv 1)))
        (pw_or1 (pt_not (pt_val (pe_callB (cr_all rfl) (by rfl) za (by decide +kernel) (pa_cons (pe_lock (pe_lc (own := [("_law_name_here", 3)]) (g := gName 3) (tt := tYes) rfl scIsLeast.nd (pi_keys (pv 1))
          (blkOk_by (own := [("_law_name_here", 3)]) (N := ["_law_bounds", "_law_told", "_law_names_here", "_law_name_here", "_law_values", "_law_value", "_law_bound", "_law_u", "_law_v", "_law_c"]) (sc := defScope sIsLeast) (by decide +kernel))
          (fun _ _ _ _ _ => pg_name (i := 3) scIsLeast.nd rfl (Or.inl rfl)) (fun _ _ _ _ _ => pts_nil) (fun _ _ _ _ _ => pe_cmpR (r := rIn K false) op_in_seq (pv 3) (pv 2) (by rfl)))) pa_nil)))))))) pss_never pss_nil)
      (pss_cons (ps_if (pt_not (pt_val (pe_callB (cr_all rfl) (by rfl) za (by decide +kernel) (pa_cons (pe_lc (own := [("_law_name_here", 3)]) (g := gName 3) (tt := tYes) rfl scIsLeast.nd (pi_list (pv 2))
          (blkOk_by (own := [("_law_name_here", 3)]) (N := ["_law_bounds", "_law_told", "_law_names_here", "_law_name_here", "_law_values", "_law_value", "_law_bound", "_law_u", "_law_v", "_law_c"]) (sc := defScope sIsLeast) (by decide +kernel))
          (fun _ _ _ _ _ => pg_name (i := 3) scIsLeast.nd rfl (Or.inl rfl)) (fun _ _ _ _ _ => pts_nil) (fun _ _ _ _ _ => pe_or (pe_cmp (pc_din (hu_of hr) (pv 3) (pv 1))) (pe_one (pe_cmpR op_eq (pv 3) pe_str (nomark _))))) pa_nil)))) pss_never pss_nil)
      (pss_cons (ps_set (i := 4) scIsLeast.nd rfl (Or.inr rfl) (pe_disp (pps_cons pe_str pe_int pps_nil) (by rfl) (by rfl) (fun z => by cases z) (by decide)))
      (pss_cons (ps_lock (ps_for PassesOwn.never rfl (pi_keys (pv 1)) (pg_name (i := 3) scIsLeast.nd rfl (Or.inl rfl))
        (pss_cons (ps_set (i := 5) scIsLeast.nd rfl (Or.inl rfl) (pe_dget (hu_of hr) (pv 1) (pv 3) (fun _ _ => rfl)))
        (pss_cons (ps_if (PW.pt (pw_or (pt_not (pt_val (pe_callB call_isi (by rfl) zs1 (by decide +kernel) (pa_cons (pv 5) (pa_cons (pe_bltn (v := .ty "int") (by rfl) zi (by decide +kernel) rfl) pa_nil)))))
          (pw_or (pt_val (pe_callB call_isi (by rfl) zs1 (by decide +kernel) (pa_cons (pv 5) (pa_cons (pe_bltn (v := .ty "bool") (by rfl) zb (by decide +kernel) rfl) pa_nil))))
          (pw_or1 (pt_cmpR op_lt (pv 5) pe_int (nomark _)))))) pss_never pss_nil)
        (pss_one (ps_dput (hu_of hr) (pv 4) (pv 3) (pv 5) rfl))))))
      (pss_cons (ps_if (pt_not (pt_val (pe_callB (cr_all rfl) (by rfl) za (by decide +kernel) (pa_cons (pe_lc (own := [("_law_u", 7), ("_law_v", 8), ("_law_c", 9)]) (g := gTup K 3 (gCons (gName 7) (gCons (gName 8) (gCons (gName 9) gNil)))) (tt := tYes) rfl scIsLeast.nd (pi_list (pv 0))
          (blkOk_by (own := [("_law_u", 7), ("_law_v", 8), ("_law_c", 9)]) (N := ["_law_bounds", "_law_told", "_law_names_here", "_law_name_here", "_law_values", "_law_value", "_law_bound", "_law_u", "_law_v", "_law_c"]) (sc := defScope sIsLeast) (by decide +kernel))
          (fun _ _ _ _ _ => pg_tup rfl (pgs_cons (pg_name (i := 7) scIsLeast.nd rfl (Or.inl rfl)) (pgs_cons (pg_name (i := 8) scIsLeast.nd rfl (Or.inl rfl)) (pgs_cons (pg_name (i := 9) scIsLeast.nd rfl (Or.inl rfl)) pgs_nil)))) (fun _ _ _ _ _ => pts_nil)
          (fun _ _ _ _ _ => pe_cmpR op_le (pe_dget (hu_of hr) (pv 4) (pv 7) (fun _ _ => rfl)) (pe_op op_add (pe_dget (hu_of hr) (pv 4) (pv 8) (fun _ _ => rfl)) (pv 9)) (nomark _))) pa_nil)))) pss_never pss_nil)
      (pss_one (ps_ret (pe_call DF.ok hr (by rfl) DF.gl DF.kp DF.bi .nil pass0 (pa_cons (pv 0) (pa_cons (pv 4) pa_nil)))))))))), ?_⟩
    -- the names
    refine ⟨_, rfl, bl, rfl, ⟨_, SqL.of hbl⟩, fun D1 hD1 => ?_⟩
    have nb1 : bl ≠ D1 := ne_of_none hbl hD1
    refine lc_list (K := K) (a := bl) (xs := rf xs) (fun i H' => H' = upd H D1 (.lst ((((bb xs).map (·.u)).take i).map V.str))) rfl ?_ ?_ ?_
    · rintro i H4 _ rfl
      exact SqL.of (by rw [upd_ne nb1]; exact hbl)
    · rintro i y H4 hy rfl
      obtain ⟨x, hx, rfl⟩ := rf_get hy
      have hi : i < xs.length := (List.getElem?_eq_some_iff.mp hx).1
      have bx : H x.1 = some (.tup (tb x.2)) := hb x (List.mem_of_getElem? hx)
      have et : (((bb xs).map (·.u)).take (i + 1)) = (((bb xs).map (·.u)).take i) ++ [x.2.u] := by
        rw [List.take_add_one, List.getElem?_map, bb_get hx]
        rfl
      refine ⟨rfl, ?_⟩
      refine ⟨_, rfl, x.1, tb x.2, 0, .str x.2.u, rfl, rfl, SqT.of (by rw [upd_ne (ne_of_none bx hD1)]; exact bx), atI_nat (j := 0) rfl, _, upd_same, small1000 ?_, ?_⟩
      · rw [List.length_map, List.length_take]
        omega
      · rw [upd_upd, et, List.map_append]
        rfl
    rintro H1 rfl
    rw [show ((bb xs).map (·.u)).take (rf xs).length = (bb xs).map (·.u) from List.take_of_length_le (by rw [List.length_map, bb_len, rf_len]; omega)]
    have s1 : Same H (upd H D1 (.lst (((bb xs).map (·.u)).map V.str))) := same_up (Same.refl H) hD1
    have e1 : (upd H D1 (.lst (((bb xs).map (·.u)).map V.str))) D1 = some (.lst (((bb xs).map (·.u)).map V.str)) := upd_same
    generalize upd H D1 (.lst (((bb xs).map (·.u)).map V.str)) = H1 at s1 e1
    refine ⟨_, rfl, bl, rfl, ⟨_, SqL.of (s1 _ _ hbl)⟩, fun D2 hD2 => ?_⟩
    have nb2 : bl ≠ D2 := ne_of_none (s1 _ _ hbl) hD2
    refine lc_list (K := K) (a := bl) (xs := rf xs) (fun i H' => H' = upd H1 D2 (.lst ((((bb xs).map (·.v)).take i).map V.str))) rfl ?_ ?_ ?_
    · rintro i H4 _ rfl
      exact SqL.of (by rw [upd_ne nb2]; exact s1 _ _ hbl)
    · rintro i y H4 hy rfl
      obtain ⟨x, hx, rfl⟩ := rf_get hy
      have hi : i < xs.length := (List.getElem?_eq_some_iff.mp hx).1
      have bx := s1 _ _ (hb x (List.mem_of_getElem? hx))
      have et : (((bb xs).map (·.v)).take (i + 1)) = (((bb xs).map (·.v)).take i) ++ [x.2.v] := by
        rw [List.take_add_one, List.getElem?_map, bb_get hx]
        rfl
      refine ⟨rfl, ?_⟩
      refine ⟨_, rfl, x.1, tb x.2, 1, .str x.2.v, rfl, rfl, SqT.of (by rw [upd_ne (ne_of_none bx hD2)]; exact bx), atI_nat (j := 1) rfl, _, upd_same, small1000 ?_, ?_⟩
      · rw [List.length_map, List.length_take]
        omega
      · rw [upd_upd, et, List.map_append]
        rfl
    rintro H2 rfl
    rw [show ((bb xs).map (·.v)).take (rf xs).length = (bb xs).map (·.v) from List.take_of_length_le (by rw [List.length_map, bb_len, rf_len]; omega)]
    have s2 : Same H1 (upd H1 D2 (.lst (((bb xs).map (·.v)).map V.str))) := same_up (Same.refl _) hD2
    have e2 : (upd H1 D2 (.lst (((bb xs).map (·.v)).map V.str))) D2 = some (.lst (((bb xs).map (·.v)).map V.str)) := upd_same
    generalize upd H1 D2 (.lst (((bb xs).map (·.v)).map V.str)) = H2 at s2 e2
    refine ⟨D1, D2, _, _, rfl, rfl, s2 _ _ e1, e2, line100 (by rw [List.length_map, List.length_map, List.length_map, List.length_map, bb_len]; omega), fun nl hnl0 => ?_⟩
    obtain ⟨us, hus⟩ : ∃ us : List Str, us = (bb xs).map (·.u) ++ (bb xs).map (·.v) := ⟨_, rfl⟩
    have e3 : (upd H2 nl (.lst (((bb xs).map (·.u)).map V.str ++ ((bb xs).map (·.v)).map V.str))) nl = some (.lst (us.map V.str)) := by
      rw [upd_same, hus, List.map_append]
    have s3 : Same H (upd H2 nl (.lst (((bb xs).map (·.u)).map V.str ++ ((bb xs).map (·.v)).map V.str))) := same_up (s1.trans s2) hnl0
    generalize upd H2 nl (.lst (((bb xs).map (·.u)).map V.str ++ ((bb xs).map (·.v)).map V.str)) = H3 at s3 e3
    have inus : ∀ n, n ∈ us ↔ ∃ b, b ∈ bb xs ∧ (n = b.u ∨ n = b.v) := fun n => by
      rw [hus, List.mem_append, List.mem_map, List.mem_map]
      constructor
      · rintro (⟨b, h1, h2⟩ | ⟨b, h1, h2⟩)
        · exact ⟨b, h1, .inl h2.symm⟩
        · exact ⟨b, h1, .inr h2.symm⟩
      · rintro ⟨b, h1, h2 | h2⟩
        · exact .inl ⟨b, h1, h2.symm⟩
        · exact .inr ⟨b, h1, h2.symm⟩
    have lus : us.length ≤ 200 := by rw [hus, List.length_append, List.length_map, List.length_map, bb_len]; omega
    -- a dict, without zero, of the names
    have htd3 := s3 _ _ htd
    have nmz := hL.names.nz
    refine ⟨_, rfl, _, _, _, _, true, rfl, .ty "dict", .base (.dK htd3), kit_ty (by decide +kernel), true, rfl, ?_⟩
    refine iteF ?_
    refine ⟨_, rfl, td, _, rfl, dget_out (.inl htd3) nmz, _, rfl, ?_⟩
    refine iteF ?_
    refine ⟨td, _, htd3, trivial, fun od => ?_⟩
    refine ⟨_, rfl, td, od, rfl, .inl ⟨_, upd_same, fun D3 hD3 => ?_⟩⟩
    have b3 : But td H3 (upd H3 td (.frz od (.dK (dI nm fun n => .int (val n))))) := But.locked
    have ntD3 : td ≠ D3 := ne_of_none upd_same hD3
    have nntd : nl ≠ td := ne_of e3 htd3 fun z => nomatch z
    have hD30 : H3 D3 = none := by
      rw [upd_ne ntD3.symm] at hD3
      exact hD3
    refine lc_it (walk_keys (kvs := dI nm fun n => .int (val n))) (fun i H' => ∃ bs : List Bool, H' D3 = some (.lst (bs.map V.bl)) ∧ (∀ b, b ∈ bs → b = true) ∧ bs.length = i ∧ H' td = some (.frz od (.dK (dI nm fun n => .int (val n)))) ∧ But td H3 H')
      ⟨[], upd_same, fun _ h => (nomatch h), rfl, Eq.trans (upd_ne ntD3) upd_same, b3.up hD3⟩ ?_ ?_ ?_
    · rintro i H4 _ ⟨_, _, _, _, e, _⟩
      exact e
    · rintro i y H4 H5 hi ⟨bs, eD, hbs, lbs, etd, b4⟩ ⟨rfl, k, v, hk, rfl⟩
      rw [dI_len] at hi
      obtain ⟨n, hn, rfl, rfl⟩ := dI_get hk
      have nin : n ∈ us := (inus n).mpr ((hL.names.2 n).mp (List.mem_of_getElem? hn)).2
      refine ⟨rfl, ?_⟩
      refine ⟨_, rfl, _, rfl, nl, _, rfl, .inl (SqL.of (b4 nl _ nntd e3)), rfl, flat_strs us, _, eD, bools_len lbs (by omega), bs ++ [true], ?_, bools_snoc hbs, by rw [List.length_append, lbs]; rfl, Eq.trans (upd_ne ntD3) etd, b4.own hD30⟩
      have ei : inV (.str n) (us.map V.str) = true := by rw [inV_str]; exact decide_eq_true nin
      rw [upd_same, List.map_append]
      exact congrArg (fun y => some (HO.lst (bs.map V.bl ++ [V.bl y]))) ei
    rintro H4 ⟨bs, eD, hbs, lbs, etd, b4⟩
    refine ⟨etd, D3, bs, rfl, SqL.of (Eq.trans (upd_ne ntD3.symm) eD), true, by rw [all_true hbs], ?_⟩
    refine iteF ?_
    have s5 : Same H3 (upd H4 td (.dK (dI nm fun n => .int (val n)))) := b4.unlock htd3
    generalize upd H4 td (.dK (dI nm fun n => .int (val n))) = H5 at s5
    -- each name is told, or zero
    refine ⟨_, rfl, nl, rfl, ⟨_, SqL.of (s5 _ _ e3)⟩, fun D4 hD4 => ?_⟩
    refine lc_list (K := K) (a := nl) (xs := us.map V.str) (fun i H' => ∃ bs : List Bool, H' D4 = some (.lst (bs.map V.bl)) ∧ (∀ b, b ∈ bs → b = true) ∧ bs.length = i ∧ Same H5 H') ⟨[], upd_same, fun _ h => (nomatch h), rfl, same_up (Same.refl _) hD4⟩ ?_ ?_ ?_
    · rintro i H6 _ ⟨_, _, _, _, sm⟩
      exact SqL.of (sm _ _ (s5 _ _ e3))
    · rintro i y H6 hy ⟨bs, eD, hbs, lbs, sm⟩
      have hi : i < us.length := by
        have z := (List.getElem?_eq_some_iff.mp hy).1
        rw [List.length_map] at z
        exact z
      obtain ⟨n, hn, rfl⟩ := strs_get hy
      have htd6 := sm _ _ (s5 _ _ htd3)
      have fin : ∃ bs' : List Bool, (upd H6 D4 (.lst (bs.map V.bl ++ [.bl true]))) D4 = some (.lst (bs'.map V.bl)) ∧ (∀ b, b ∈ bs' → b = true) ∧ bs'.length = i + 1 ∧ Same H5 (upd H6 D4 (.lst (bs.map V.bl ++ [.bl true]))) :=
        ⟨bs ++ [true], by rw [upd_same, List.map_append]; rfl, bools_snoc hbs, by rw [List.length_append, lbs]; rfl, same_own sm hD4⟩
      refine ⟨rfl, ?_⟩
      by_cases z : n = zs
      · refine ⟨_, rfl, _, rfl, td, _, rfl, dget_out (.inl htd6) (by rw [z]; exact nmz), _, rfl, ?_⟩
        refine iteF ?_
        refine ⟨_, rfl, rfl, _, eD, bools_len lbs (by omega), ?_⟩
        have ez : decide (V.str n = V.str zs) = true := decide_eq_true (by rw [z])
        show ∃ bs' : List Bool, (upd H6 D4 (.lst (bs.map V.bl ++ [.bl (decide (V.str n = V.str zs))]))) D4 = some (.lst (bs'.map V.bl)) ∧ (∀ b, b ∈ bs' → b = true) ∧ bs'.length = i + 1 ∧ Same H5 (upd H6 D4 (.lst (bs.map V.bl ++ [.bl (decide (V.str n = V.str zs))])))
        rw [ez]
        exact fin
      · have nin : n ∈ nm := (hL.names.2 n).mpr ⟨z, (inus n).mp hn⟩
        refine ⟨_, rfl, _, rfl, td, _, rfl, dget_in (.inl htd6) nin, _, rfl, ?_⟩
        refine iteT ?_
        exact ⟨_, eD, bools_len lbs (by omega), fin⟩
    rintro H6 ⟨bs, eD, hbs, lbs, sm⟩
    refine ⟨D4, bs, rfl, SqL.of eD, true, by rw [all_true hbs], ?_⟩
    refine iteF ?_
    have s6 : Same H H6 := s3.trans (s5.trans sm)
    -- the values
    refine fun vd hvd0 => ⟨upd_same, [((Sum.inr zs : Key), .int 0)], rfl, by decide, ?_⟩
    rw [upd_upd]
    have ntv : td ≠ vd := ne_of_none (s6 _ _ htd) hvd0
    have hvd00 : H vd = none := s6.free hvd0
    refine ⟨td, _, Eq.trans (upd_ne ntv) (s6 _ _ htd), trivial, fun od2 => ?_⟩
    refine ⟨_, rfl, td, od2, rfl, .inl ⟨_, upd_same, ?_⟩⟩
    refine for_it (walk_keys (kvs := dI nm fun n => .int (val n))) (fun j σ H' => ∃ (x3 x5 : Option V), σ = [some (.ref bl), some (.ref td), some (.ref nl), x3, some (.ref vd), x5, none, none, none, none] ∧
      H' vd = some (.dK (dI (zs :: nm.take j) fun n => .int (val n))) ∧ H' td = some (.frz od2 (.dK (dI nm fun n => .int (val n)))) ∧ But td H H') ⟨_, _, rfl, ?_, upd_same, ?_⟩ ?_ ?_ ?_
    · rw [upd_ne ntv.symm, upd_same]
      show some (HO.dK [((Sum.inr zs : Key), .int 0)]) = some (HO.dK [((Sum.inr zs : Key), .int (val zs))])
      rw [hL.zero]
    · exact ((But.same s6).up hvd0).trans But.locked
    · rintro j σ H7 _ ⟨_, _, _, _, e, _⟩
      exact e
    · rintro j y σ H7 H8 hj ⟨x3, x5, rfl, ev, et, b7⟩ ⟨rfl, k, v, hk, rfl⟩
      rw [dI_len] at hj
      obtain ⟨n, hn, rfl, rfl⟩ := dI_get hk
      have nin := List.mem_of_getElem? hn
      have v0 := hL.nonneg n
      refine ⟨_, rfl, _, rfl, td, _, rfl, dget_in (.inr ⟨od2, et⟩) nin, ?_⟩
      refine ⟨_, rfl, _, _, _, _, true, rfl, .ty "int", .base (.int _), kit_ty (by decide +kernel), true, rfl, ?_⟩
      refine iteF ?_
      refine ⟨_, rfl, _, _, _, _, false, rfl, .ty "bool", .base (.int _), kit_ty (by decide +kernel), false, rfl, ?_⟩
      refine iteF ?_
      refine ⟨_, rfl, _, _, rfl, rfl, _, rfl, ?_⟩
      rw [decide_eq_false (show ¬ val n < 0 by omega)]
      refine iteF ?_
      have nout : ¬ n ∈ zs :: nm.take j := fun z => by
        rcases List.mem_cons.mp z with z | z
        · rw [z] at nin
          exact nmz nin
        · obtain ⟨i2, h2⟩ := List.getElem?_of_mem z
          have hi2 : i2 < j := by
            have z2 := (List.getElem?_eq_some_iff.mp h2).1
            rw [List.length_take] at z2
            omega
          rw [List.getElem?_take_of_lt hi2] at h2
          have := nodup_ix hL.names.1 h2 hn
          omega
      have lt : (nm.take j).length ≤ 200 := by rw [List.length_take]; omega
      refine ⟨_, rfl, _, rfl, _, rfl, vd, _, rfl, DPut.k (k := Sum.inr n) ev (small1000 (by rw [dI_len, List.length_cons]; omega)), ?_⟩
      refine ⟨_, _, rfl, ?_, Eq.trans (upd_ne ntv) et, b7.own hvd00⟩
      rw [upd_same, put_out nout, put_self rfl, List.take_add_one, hn]
      rfl
    rintro σ H7 ⟨x3, x5, rfl, ev, et, b7⟩
    rw [dI_len, List.take_length] at ev
    have s7 : Same H (upd H7 td (.dK (dI nm fun n => .int (val n)))) := b7.unlock htd
    have ev7 : (upd H7 td (.dK (dI nm fun n => .int (val n)))) vd = some (.dK (dI (zs :: nm) fun n => .int (val n))) := Eq.trans (upd_ne ntv.symm) ev
    refine ⟨et, ?_⟩
    generalize upd H7 td (.dK (dI nm fun n => .int (val n))) = H8 at s7 ev7
    -- all bounds hold
    refine ⟨_, rfl, bl, rfl, ⟨_, SqL.of (s7 _ _ hbl)⟩, fun D5 hD5 => ?_⟩
    refine lc_list (K := K) (a := bl) (xs := rf xs) (fun i H' => ∃ bs : List Bool, H' D5 = some (.lst (bs.map V.bl)) ∧ (∀ b, b ∈ bs → b = true) ∧ bs.length = i ∧ Same H8 H') ⟨[], upd_same, fun _ h => (nomatch h), rfl, same_up (Same.refl _) hD5⟩ ?_ ?_ ?_
    · rintro i H9 _ ⟨_, _, _, _, sm⟩
      exact SqL.of (sm _ _ (s7 _ _ hbl))
    · rintro i y H9 hy ⟨bs, eD, hbs, lbs, sm⟩
      obtain ⟨x, hx, rfl⟩ := rf_get hy
      have hi : i < xs.length := (List.getElem?_eq_some_iff.mp hx).1
      have hm := List.mem_of_getElem? hx
      have bx := sm _ _ (s7 _ _ (hb x hm))
      have ev9 := sm _ _ ev7
      have keep := hL.keeps x.2 (mem_bb hm)
      refine ⟨x.1, _, rfl, SqT.of bx, rfl, _, _, rfl, _, _, rfl, _, _, rfl, rfl, rfl, ?_⟩
      refine ⟨_, rfl, _, rfl, vd, _, rfl, dget_in (.inl ev9) (hL.names.u (mem_bb hm)), _, rfl, _, rfl, vd, _, rfl, dget_in (.inl ev9) (hL.names.v (mem_bb hm)), _, rfl, _, _, rfl, rfl, _, _, rfl, rfl, ?_⟩
      refine ⟨_, eD, bools_len lbs (by omega), bs ++ [true], ?_, bools_snoc hbs, by rw [List.length_append, lbs]; rfl, same_own sm hD5⟩
      rw [upd_same, List.map_append]
      exact congrArg (fun y => some (HO.lst (bs.map V.bl ++ [V.bl y]))) (decide_eq_true keep)
    rintro H9 ⟨bs, eD, hbs, lbs, sm9⟩
    refine ⟨D5, bs, rfl, SqL.of eD, true, by rw [all_true hbs], ?_⟩
    refine iteF ?_
    have s9 : Same H H9 := s7.trans sm9
    refine ⟨_, rfl, _, rfl, bl, vd, xs, zs :: nm, val, rfl, s9 _ _ hbl, hb.same s9, hxl, sm9 _ _ ev7, List.nodup_cons.mpr ⟨nmz, hL.names.1⟩, by rw [List.length_cons]; omega, List.mem_cons_self, fun b hb2 => ⟨hL.names.u hb2, hL.names.v hb2⟩, hL.forced, fun H10 s10 => ?_⟩
    exact q H10 (s9.trans s10)
end
end K29

/-! the law's look at a ring -/
namespace K29
open PySem PySem.Spec PyProof.Rows L2
/-- a bound as data -/
def dB (b : Bn) : PyData := .tuple [.str b.u, .str b.v, .int b.c]
theorem strOk_of {x : Str} (h : IsNm x) : PyData.strOk x = true := by
  unfold PyData.strOk
  rw [Array.all_eq_true']
  intro c hc
  have z := h.2.2 c (by simpa using hc)
  exact decide_eq_true (by omega)
theorem dB_lay {b : Bn} (h : GB b) : (dB b).canLay0 = true := by simp [dB, PyData.canLay0, PyData.canLayAll0, strOk_of h.1, strOk_of h.2.1]
theorem dB_depth (b : Bn) : (dB b).depth = 1 := by simp [dB, PyData.depth, PyData.depthAll]
theorem dB_shaped {b : Bn} (h : GB b) : SeqAt.shaped (dB b) = true := by
  unfold SeqAt.shaped
  rw [dB_lay h, dB_depth]
  rfl
theorem dBs_lay : ∀ {bs : List Bn}, (∀ b, b ∈ bs → GB b) → PyData.canLayAll0 (bs.map dB) = true
  | [], _ => by simp [PyData.canLayAll0]
  | b :: r, h => by simp [PyData.canLayAll0, dB_lay (h b List.mem_cons_self), dBs_lay (bs := r) fun x hx => h x (List.mem_cons_of_mem _ hx)]
theorem dBs_depth : ∀ (bs : List Bn), PyData.depthAll (bs.map dB) ≤ 1
  | [] => by simp [PyData.depthAll]
  | b :: r => by
    have ih := dBs_depth r
    rw [List.map_cons, PyData.depthAll, dB_depth]
    exact Nat.max_le.mpr ⟨Nat.le_refl _, ih⟩
theorem dBs_shaped {bs : List Bn} (h : ∀ b, b ∈ bs → GB b) : SeqAt.shaped (.list (bs.map dB)) = true := by
  unfold SeqAt.shaped
  have e : (PyData.list (bs.map dB)).canLay0 = true := by
    rw [PyData.canLay0]
    exact dBs_lay h
  have d : (PyData.list (bs.map dB)).depth ≤ 64 := by
    rw [PyData.depth]
    have := dBs_depth bs
    omega
  rw [e, decide_eq_true d]
  rfl
section
variable {K : PySem.W.Frag} {H : Hp}
theorem dB_at {x : Addr × Bn} (h : BAt H x) : Dp K H (.ref x.1) (dB x.2) := Dp.tup (SqT.of h) (.cons (.str _) (.cons (.str _) (.cons (.int _) .nil)))
theorem dBs_at : ∀ {xs : List (Addr × Bn)}, Bs H xs → DpAll K H (rf xs) ((bb xs).map dB)
  | [], _ => .nil
  | x :: r, h => .cons (dB_at (h x List.mem_cons_self)) (dBs_at fun y hy => h y (List.mem_cons_of_mem _ hy))
theorem dBs_list {l : Addr} {xs : List (Addr × Bn)} (hl : H l = some (.lst (rf xs))) (h : Bs H xs) : Dp K H (.ref l) (.list ((bb xs).map dB)) := Dp.lst (SqL.of hl) (dBs_at h)
end
theorem any_in {bs : List Bn} {b : Bn} (h : b ∈ bs) (g : GB b) : ((bs.map dB).any fun z => PyData.eqv z (dB b)) = true :=
  List.any_eq_true.mpr ⟨dB b, List.mem_map.mpr ⟨b, h, rfl⟩, SeqAt.eqv_refl _ (dB_lay g)⟩
theorem Bs.app {H : Hp} {xs ys : List (Addr × Bn)} (a : Bs H xs) (b : Bs H ys) : Bs H (xs ++ ys) := fun x hx => by
  rcases List.mem_append.mp hx with z | z
  · exact a x z
  · exact b x z
theorem rf_app (xs ys : List (Addr × Bn)) : rf (xs ++ ys) = rf xs ++ rf ys := List.map_append
theorem bb_app (xs ys : List (Addr × Bn)) : bb (xs ++ ys) = bb xs ++ bb ys := List.map_append
section
variable {P : Program} {w : World} {K : PySem.W.Frag} {mg : Str → Option Value} {base : Heap}
theorem scIsRound : FnScope ["_law_bounds", "_law_told", "_law_own", "_law_total", "_law_u", "_law_v", "_law_c", "_law_k", "_law_bound", "_law_name_here"] ["_law_bounds", "_law_told"] (defScope sIsRound) :=
  ⟨rfl, rfl, rfl, by decide +kernel, rfl, by decide +kernel, by decide +kernel⟩
def spIsRound : Sp := fun vs H Q _ => ∃ (bl rl : Addr) (xs ys : List (Addr × Bn)) (nm : List Str), vs = [.ref bl, .ref rl] ∧ H bl = some (.lst (rf xs)) ∧ Bs H xs ∧ xs.length ≤ 100 ∧ (∀ x, x ∈ xs → GB x.2) ∧ H rl = some (.lst (rf ys)) ∧ Bs H ys ∧ ys.length ≤ 300 ∧
  NamesOf (bb xs) nm ∧ Ring (lowsOf nm ++ bb xs) (bb ys) ∧ ∀ H', Same H H' → Q (.bl true) H'
/-- what is among the system's own -/
def Own (os : List Bn) (n : Str) : Prop := n ≠ zs → (⟨zs, n, 0⟩ : Bn) ∈ os
theorem ok_isRound {f : Addr} {fd : FuncData} (F : Fun K "_law_is_round" "_law_is_round" sIsRound f fd) (zs1 : mg "isinstance" = none) (zli : mg "list" = none) (ze : mg "enumerate" = none) (zt : mg "tuple" = none) : FnOk P w K mg base CX0 1 f fd ["_law_bounds", "_law_told"] spIsRound := by
  refine F.ok scIsRound (fun vs H Q E h => ?_) (fun cdv A outer s H vs Q E hr h => ?_)
  · obtain ⟨bl, rl, xs, ys, nm, rfl, _⟩ := h
    rfl
  · obtain ⟨bl, rl, xs, ys, nm, rfl, hbl, hb, hxl, hgx, hrl, hby, hyl, hnm, hR, q⟩ := h
    have hu : (A.deeper (envOfC "_law_is_round" (defScope sIsRound) s.heap.objs.size f cdv)).units + 65 < cLine := by
      have := hr.un
      omega
    refine ⟨_, pss_cons (ps_if (PW.pt (pw_or (pt_not (pt_val (pe_callB call_isi (by rfl) zs1 (by decide +kernel) (pa_cons (pv 1) (pa_cons (pe_bltn (v := .ty "list") (by rfl) zli (by decide +kernel) rfl) pa_nil)))))
        (pw_or1 (pt_cmpR (op_eqD hr.units) (pv 1) (pe_lst pa_nil) (nomark _))))) pss_never pss_nil)
      (pss_cons (ps_par (i := 2) (j := 3) (by rfl) scIsRound.nd rfl rfl (by decide) rfl rfl (pa_cons (pe_callTy call_list_of (by rfl) zli (by decide +kernel) (pa_cons (pv 0) pa_nil)) (pa_cons pe_int pa_nil)) (by rfl))
      (pss_cons (ps_for PassesOwn.never rfl (pi_list (pv 0)) (pg_tup rfl (pgs_cons (pg_name (i := 4) scIsRound.nd rfl (Or.inl rfl)) (pgs_cons (pg_name (i := 5) scIsRound.nd rfl (Or.inl rfl)) (pgs_cons (pg_name (i := 6) scIsRound.nd rfl (Or.inl rfl)) pgs_nil))))
        (pss_one (ps_set (i := 2) scIsRound.nd rfl (Or.inl rfl) (pe_op op_cat (pv 2) (pe_lc (own := [("_law_name_here", 9)]) (g := gName 9) rfl scIsRound.nd (pi_tup (pe_tup (pa_cons (pv 4) (pa_cons (pv 5) pa_nil))))
          (blkOk_by (own := [("_law_name_here", 9)]) (N := ["_law_bounds", "_law_told", "_law_own", "_law_total", "_law_u", "_law_v", "_law_c", "_law_k", "_law_bound", "_law_name_here"]) (sc := defScope sIsRound) (by decide +kernel))
          (fun _ _ _ _ _ => pg_name (i := 9) scIsRound.nd rfl (Or.inl rfl)) (fun _ _ _ _ _ => pts_one (pt_cmpR op_ne (pv 9) pe_str (nomark _)))
          (fun _ _ _ _ _ => pe_tup (pa_cons pe_str (pa_cons (pv 9) (pa_cons pe_int pa_nil)))))))))
      (pss_cons (ps_for PassesOwn.never rfl (pi_enum (by rfl) ze (pa_cons (pv 1) pa_nil)) (pg_tup rfl (pgs_cons (pg_name (i := 7) scIsRound.nd rfl (Or.inl rfl)) (pgs_cons (pg_name (i := 8) scIsRound.nd rfl (Or.inl rfl)) pgs_nil)))
        (pss_cons (ps_if (PW.pt (pw_or (pt_not (pt_val (pe_callB call_isi (by rfl) zs1 (by decide +kernel) (pa_cons (pv 8) (pa_cons (pe_bltn (v := .ty "tuple") (by rfl) zt (by decide +kernel) rfl) pa_nil)))))
            (pw_or (pt_cmpR (op_notInD hu) (pv 8) (pv 2) (by rfl))
            (pw_or1 (pt_cmpR op_ne (pe_ix ix_tup (pv 8) pe_int (fun _ _ => rfl)) (pe_ix ix_tup (pe_ix ix_list (pv 1) (pe_op op_sub (pv 7) pe_int) (fun _ _ => rfl)) pe_int (fun _ _ => rfl)) (nomark _)))))) pss_never pss_nil)
        (pss_one (ps_set (i := 3) scIsRound.nd rfl (Or.inl rfl) (pe_op op_add (pv 3) (pe_ix ix_tup (pv 8) pe_int (fun _ _ => rfl)))))))
      (pss_one (ps_ret (pe_cmpR op_lt (pv 3) pe_int (nomark _))))))), ?_⟩
    -- a list, not empty
    refine ⟨_, rfl, _, _, _, _, true, rfl, .ty "list", .base (.lst hrl), kit_ty (by decide +kernel), true, rfl, ?_⟩
    refine iteF ?_
    refine ⟨_, rfl, Nat.zero_le _, fun l0 hl0 => ?_⟩
    have s0 : Same H (upd H l0 (.lst [])) := same_up (Same.refl H) hl0
    have gy : ∀ b, b ∈ bb ys → GB b := fun b hb2 => by
      rcases List.mem_append.mp (hR.mem b hb2) with z | z
      · obtain ⟨n, hn, rfl⟩ := List.mem_map.mp z
        obtain ⟨nz, d, hd, hn2⟩ := (hnm.2 n).mp hn
        obtain ⟨x, hx, rfl⟩ := bb_mem hd
        refine ⟨isNm_zero, ?_, fun e => nz e.symm⟩
        rcases hn2 with e | e
        · show IsNm n
          rw [e]
          exact (hgx x hx).1
        · show IsNm n
          rw [e]
          exact (hgx x hx).2.1
      · obtain ⟨x, hx, rfl⟩ := bb_mem z
        exact hgx x hx
    refine ⟨.list ((bb ys).map dB), .list [], dBs_list (s0 _ _ hrl) (hby.same s0), Dp.lst (SqL.of upd_same) .nil, dBs_shaped gy, by rfl, _, rfl, ?_⟩
    have ene : PyData.eqv (.list ((bb ys).map dB)) (.list []) = false := by
      have hne := hR.ne
      cases e : bb ys with
      | nil => rw [e] at hne; exact absurd hne (Nat.lt_irrefl 0)
      | cons b r => rw [List.map_cons, PyData.eqv, PyData.eqvAll] <;> simp
    rw [ene]
    refine iteF ?_
    generalize upd H l0 (.lst []) = H1 at s0
    -- own, total
    refine ⟨_, rfl, bl, _, rfl, .inl (SqL.of (s0 _ _ hbl)), fun ol hol => ?_⟩
    refine ⟨_, _, rfl, ?_⟩
    have s1 : Same H (upd H1 ol (.lst (rf xs))) := same_up s0 hol
    refine ⟨_, rfl, bl, rfl, ⟨_, SqL.of (s1 _ _ hbl)⟩, ?_⟩
    refine for_list (K := K) (a := bl) (xs := rf xs) (fun i σ H' => ∃ (ol : Addr) (os : List (Addr × Bn)) (x4 x5 x6 : Option V), σ = [some (.ref bl), some (.ref rl), some (.ref ol), some (.int 0), x4, x5, x6, none, none, none] ∧ H' ol = some (.lst (rf os)) ∧ Bs H' os ∧ os.length ≤ xs.length + 2 * i ∧
      (∀ b, b ∈ bb xs → b ∈ bb os) ∧ (∀ b, b ∈ bb os → GB b) ∧ (∀ b, b ∈ (bb xs).take i → Own (bb os) b.u ∧ Own (bb os) b.v) ∧ Same H H') ⟨ol, xs, none, none, none, rfl, upd_same, hb.same s1, by omega, fun _ h => h, fun b hb2 => ?_, fun b hb2 => (by rw [List.take_zero] at hb2; cases hb2), s1⟩ ?_ ?_ ?_
    · obtain ⟨x, hx, rfl⟩ := bb_mem hb2
      exact hgx x hx
    · rintro i σ H2 _ ⟨_, _, _, _, _, _, _, _, _, _, _, _, sm⟩
      exact SqL.of (sm _ _ hbl)
    · rintro i y σ H2 hy ⟨ol, os, x4, x5, x6, rfl, eo, bo, lo, sub, go, own, sm⟩
      obtain ⟨x, hx, rfl⟩ := rf_get hy
      have hi : i < xs.length := (List.getElem?_eq_some_iff.mp hx).1
      have hm := List.mem_of_getElem? hx
      have bx := sm _ _ (hb x hm)
      have gx := hgx x hm
      refine ⟨x.1, _, rfl, SqT.of bx, rfl, _, _, rfl, _, _, rfl, _, _, rfl, rfl, ?_⟩
      refine ⟨_, rfl, _, rfl, _, rfl, line100 (by show 2 ≤ 1000; decide), fun t ht => ?_⟩
      have not_ : ol ≠ t := ne_of_none eo ht
      refine ⟨t, rfl, ⟨_, SqT.of upd_same⟩, fun D hD => ?_⟩
      have sT : Same H2 (upd H2 t (.tup [.str x.2.u, .str x.2.v])) := same_up (Same.refl _) ht
      have eT : (upd H2 t (.tup [.str x.2.u, .str x.2.v])) t = some (.tup [.str x.2.u, .str x.2.v]) := upd_same
      generalize upd H2 t (.tup [.str x.2.u, .str x.2.v]) = H3 at hD sT eT
      have ntD : t ≠ D := ne_of_none eT hD
      refine lc_tup (K := K) (a := t) (xs := [.str x.2.u, .str x.2.v]) (fun j H' => ∃ ns : List (Addr × Bn), H' D = some (.lst (rf ns)) ∧ Bs H' ns ∧ ns.length ≤ j ∧ (∀ b, b ∈ bb ns → GB b) ∧ (∀ n, n ∈ [x.2.u, x.2.v].take j → Own (bb ns) n) ∧ Same H3 H')
        ⟨[], upd_same, Bs.nil, Nat.le_refl _, fun _ h => (nomatch h), fun n hn => (by rw [List.take_zero] at hn; cases hn), same_up (Same.refl _) hD⟩ ?_ ?_ ?_
      · rintro j H4 _ ⟨_, _, _, _, _, _, s4⟩
        exact SqT.of (s4 _ _ eT)
      · rintro j y H4 hy2 ⟨ns, eD, bn, ln, gn, on, s4⟩
        obtain ⟨n, hn, rfl, hnm2⟩ : ∃ n, [x.2.u, x.2.v][j]? = some n ∧ y = .str n ∧ IsNm n := by
          match j, hy2 with
          | 0, h => cases h; exact ⟨_, rfl, rfl, gx.1⟩
          | 1, h => cases h; exact ⟨_, rfl, rfl, gx.2.1⟩
          | j + 2, h => cases h
        have et : [x.2.u, x.2.v].take (j + 1) = [x.2.u, x.2.v].take j ++ [n] := by rw [List.take_add_one, hn]; rfl
        have hj2 : j < 2 := (List.getElem?_eq_some_iff.mp hn).1
        refine ⟨rfl, _, rfl, rfl, _, rfl, ?_⟩
        rw [dec_str]
        by_cases z : n = zs
        · rw [decide_eq_true z]
          refine iteF ⟨ns, eD, bn, by omega, gn, fun m hm2 => ?_, s4⟩
          rw [et] at hm2
          rcases List.mem_append.mp hm2 with z2 | z2
          · exact on m z2
          · rw [List.mem_singleton.mp z2]
            exact fun c => absurd z c
        · rw [decide_eq_false z]
          refine iteT ?_
          refine ⟨_, rfl, line100 (by show 3 ≤ 1000; decide), fun t2 ht2 => ?_⟩
          have nDt : D ≠ t2 := ne_of_none eD ht2
          refine ⟨_, Eq.trans (upd_ne nDt) eD, small1000 (by rw [rf_len]; omega), ns ++ [(t2, ⟨zs, n, 0⟩)], ?_, Bs.snoc (fun y hy => ?_) ?_, by rw [List.length_append]; show ns.length + 1 ≤ j + 1; omega, fun b hb2 => ?_, fun m hm2 => ?_, same_own (same_up s4 ht2) hD⟩
          · rw [upd_same, rf_app]
            rfl
          · show upd _ _ _ _ = _
            rw [upd_ne (ne_of (bn y hy) eD fun z => nomatch z), upd_ne (ne_of_none (bn y hy) ht2)]
            exact bn y hy
          · show upd _ _ _ t2 = _
            rw [upd_ne nDt.symm, upd_same]
            rfl
          · rw [bb_app] at hb2
            rcases List.mem_append.mp hb2 with z2 | z2
            · exact gn b z2
            · rw [List.mem_singleton.mp z2]
              exact ⟨isNm_zero, hnm2, fun e => z e.symm⟩
          · rw [et] at hm2
            rw [bb_app]
            rcases List.mem_append.mp hm2 with z2 | z2
            · exact fun c => List.mem_append_left _ (on m z2 c)
            · rw [List.mem_singleton.mp z2]
              exact fun _ => List.mem_append_right _ (List.mem_singleton.mpr rfl)
      · rintro H4 ⟨ns, eD, bn, ln, gn, on, s4⟩
        have ln : ns.length ≤ 2 := ln
        have eo4 : H4 ol = some (.lst (rf os)) := s4 _ _ (sT _ _ eo)
        have s4' : Same H H4 := sm.trans (sT.trans s4)
        refine ⟨ol, D, _, _, rfl, rfl, eo4, eD, line100 (by rw [rf_len, rf_len]; omega), fun o2 ho2 => ?_⟩
        have s5 : Same H4 (upd H4 o2 (.lst (rf os ++ rf ns))) := same_up (Same.refl _) ho2
        refine ⟨o2, os ++ ns, _, _, _, rfl, by rw [upd_same, rf_app], Bs.app (bo.same (sT.trans (s4.trans s5))) (bn.same s5), by rw [List.length_append]; omega, fun b hb2 => ?_, fun b hb2 => ?_, fun b hb2 => ?_, s4'.trans s5⟩
        · rw [bb_app]
          exact List.mem_append_left _ (sub b hb2)
        · rw [bb_app] at hb2
          rcases List.mem_append.mp hb2 with z | z
          · exact go b z
          · exact gn b z
        · rw [List.take_add_one, bb_get hx] at hb2
          rw [bb_app]
          rcases List.mem_append.mp hb2 with z | z
          · exact ⟨fun c => List.mem_append_left _ ((own b z).1 c), fun c => List.mem_append_left _ ((own b z).2 c)⟩
          · have e : b = x.2 := List.mem_singleton.mp z
            rw [e]
            exact ⟨fun c => List.mem_append_right _ (on x.2.u (by show x.2.u ∈ [x.2.u, x.2.v]; simp) c), fun c => List.mem_append_right _ (on x.2.v (by show x.2.v ∈ [x.2.u, x.2.v]; simp) c)⟩
    · rintro σ H2 ⟨ol, os, x4, x5, x6, rfl, eo, bo, lo, sub, go, own, sm⟩
      rw [rf_len] at lo own
      rw [List.take_of_length_le (by rw [bb_len]; exact Nat.le_refl _)] at own
      have inOwn : ∀ b, b ∈ bb ys → b ∈ bb os := fun b hb2 => by
        rcases List.mem_append.mp (hR.mem b hb2) with z | z
        · obtain ⟨n, hn, rfl⟩ := List.mem_map.mp z
          obtain ⟨nz, d, hd, hn2⟩ := (hnm.2 n).mp hn
          rcases hn2 with e | e
          · have y := (own d hd).1
            rw [← e] at y
            exact y nz
          · have y := (own d hd).2
            rw [← e] at y
            exact y nz
        · exact sub b z
      -- one behind the other
      refine ⟨_, rfl, rl, _, rfl, SqL.of (sm _ _ hrl), ?_⟩
      refine for_it (walk_enum (xs := rf ys)) (fun i σ H' => ∃ x4 x5 x6 x7 x8 : Option V, σ = [some (.ref bl), some (.ref rl), some (.ref ol), some (.int (((bb ys).map (·.c)).take i).sum), x4, x5, x6, x7, x8, none] ∧ Same H2 H') ⟨_, _, _, _, _, rfl, Same.refl _⟩ ?_ ?_ ?_
      · rintro i σ H3 _ ⟨_, _, _, _, _, _, s3⟩
        exact SqL.of (s3 _ _ (sm _ _ hrl))
      · rintro i y σ H3 H4 hi ⟨x4, x5, x6, x7, x8, rfl, s3⟩ ⟨T, i1, y1, rfl, hT, rfl, e1, e2⟩
        cases e1
        rw [rf_len] at hi
        obtain ⟨x, hx, rfl⟩ := rf_get e2
        have hbx := bb_get hx
        have hp : prev (bb ys).length i < (bb ys).length := by
          rw [bb_len]
          unfold prev
          by_cases z : i = 0
          · rw [if_pos z]; omega
          · rw [if_neg z]; omega
        obtain ⟨x', hx', hbx'⟩ : ∃ x', ys[prev (bb ys).length i]? = some x' ∧ (bb ys)[prev (bb ys).length i]? = some x'.2 := by
          rw [bb_len] at hp
          exact ⟨_, List.getElem?_eq_getElem (by rw [bb_len]; exact hp), bb_get (List.getElem?_eq_getElem (by rw [bb_len]; exact hp))⟩
        have lnk := hR.lnk i x.2 x'.2 hbx hbx'
        have s4 : Same H2 (upd H3 T (.tup [.int (i : Nat), .ref x.1])) := same_up s3 hT
        have sH := sm.trans s4
        have b1 := hby x (List.mem_of_getElem? hx) |>.same sH
        have b2 := hby x' (List.mem_of_getElem? hx') |>.same sH
        have hxm : x.2 ∈ bb ys := mem_bb (List.mem_of_getElem? hx)
        have ga : atI (rf ys) ((i : Int) - 1) = some (.ref x'.1) := by
          refine at_prev (by rw [rf_len]; exact hi) ?_
          rw [rf_len]
          rw [bb_len] at hx'
          unfold rf
          rw [List.getElem?_map, hx']
          rfl
        refine ⟨T, _, rfl, SqT.of upd_same, rfl, _, _, rfl, _, _, rfl, rfl, ?_⟩
        refine ⟨_, rfl, _, _, _, _, true, rfl, .ty "tuple", .base (.tup b1), kit_ty (by decide +kernel), true, rfl, ?_⟩
        refine iteF ?_
        refine ⟨_, rfl, _, rfl, dB x.2, _, dB_at b1, dBs_list (s4 _ _ eo) (bo.same s4), dB_shaped (gy _ hxm), dBs_shaped go, _, rfl, ?_⟩
        rw [any_in (inOwn _ hxm) (gy _ hxm)]
        refine iteF ?_
        refine ⟨_, rfl, x.1, tb x.2, 0, .str x.2.u, rfl, rfl, SqT.of b1, atI_nat (j := 0) rfl, ?_⟩
        refine ⟨_, rfl, _, rfl, _, _, rfl, rfl, rl, _, _, .ref x'.1, rfl, rfl, SqL.of (sH _ _ hrl), ga, x'.1, tb x'.2, 1, .str x'.2.v, rfl, rfl, SqT.of b2, atI_nat (j := 1) rfl, rfl, _, rfl, ?_⟩
        rw [lnk, decide_eq_true rfl]
        refine iteF ?_
        refine ⟨_, rfl, _, rfl, x.1, tb x.2, 2, .int x.2.c, rfl, rfl, SqT.of b1, atI_nat (j := 2) rfl, _, _, rfl, rfl, ?_⟩
        refine ⟨x4, x5, x6, some (.int (i : Nat)), some (.ref x.1), ?_, s4⟩
        have es : (((bb ys).map (·.c)).take (i + 1)).sum = (((bb ys).map (·.c)).take i).sum + x.2.c := by
          refine sum_take ?_
          rw [List.getElem?_map, hbx]
          rfl
        rw [es]
        rfl
      · rintro σ H3 ⟨x4, x5, x6, x7, x8, rfl, s3⟩
        refine ⟨_, rfl, _, _, rfl, rfl, ?_⟩
        show Q (.bl (decide ((((bb ys).map (·.c)).take (rf ys).length).sum < 0))) _
        rw [List.take_of_length_le (by rw [List.length_map, bb_len, rf_len]; exact Nat.le_refl _), decide_eq_true hR.neg]
        exact q _ (sm.trans s3)
end
end K29

/-! ring_from -/
namespace K29
open PySem PySem.Spec PyProof.Rows L2
/-- the causes as a function: cn the names that have one, cx where it stands -/
def czOf (cn : List Str) (cx : Str → Addr × Bn) (n : Str) : Option Bn := if n ∈ cn then some (cx n).2 else none
theorem czOf_in {cn : List Str} {cx : Str → Addr × Bn} {n : Str} (h : n ∈ cn) : czOf cn cx n = some (cx n).2 := if_pos h
theorem czOf_ne {cn : List Str} {cx : Str → Addr × Bn} {n : Str} (h : czOf cn cx n ≠ none) : n ∈ cn := by
  unfold czOf at h
  by_cases z : n ∈ cn
  · exact z
  · rw [if_neg z] at h
    exact absurd rfl h
/-- the chain's causes by their addresses -/
def chX (cn : List Str) (cx : Str → Addr × Bn) (y : Str) (k : Nat) : List (Addr × Bn) := (List.range k).map fun i => cx (it (czOf cn cx) i y)
theorem chX_bb {cn : List Str} {cx : Str → Addr × Bn} {y : Str} : ∀ k, (∀ i, i < k → czOf cn cx (it (czOf cn cx) i y) ≠ none) → bb (chX cn cx y k) = chain (czOf cn cx) y k
  | 0, _ => rfl
  | k + 1, h => by
    have ih := chX_bb k fun i hi => h i (by omega)
    have e := czOf_in (cx := cx) (czOf_ne (h k (by omega)))
    unfold chX chain
    rw [List.range_succ, List.map_append]
    show bb (chX cn cx y k ++ [cx (it (czOf cn cx) k y)]) = _
    rw [bb_app, ih, e]
    rfl
theorem chX_len (cn : List Str) (cx : Str → Addr × Bn) (y : Str) (k : Nat) : (chX cn cx y k).length = k := by unfold chX; rw [List.length_map, List.length_range]
theorem chX_succ (cn : List Str) (cx : Str → Addr × Bn) (y : Str) (k : Nat) : chX cn cx y (k + 1) = chX cn cx y k ++ [cx (it (czOf cn cx) k y)] := by
  unfold chX
  rw [List.range_succ, List.map_append]
  rfl
section
variable {P : Program} {w : World} {K : PySem.W.Frag} {mg : Str → Option Value} {base : Heap}
theorem scRingFrom : FnScope ["causes", "name", "turn", "found", "start"] ["causes", "name"] (defScope sRingFrom) := ⟨rfl, rfl, rfl, by decide +kernel, rfl, by decide +kernel, by decide +kernel⟩
def spRingFrom : Sp := fun vs H Q _ => ∃ (d : Addr) (v : Str) (cn : List Str) (cx : Str → Addr × Bn) (p : Nat), vs = [.ref d, .str v] ∧ H d = some (.dK (dI cn fun n => .ref (cx n).1)) ∧ (∀ n, n ∈ cn → BAt H (cx n)) ∧ cn.length ≤ 300 ∧
  (∀ j, czOf cn cx (it (czOf cn cx) j v) ≠ none) ∧ 0 < p ∧ p ≤ cn.length ∧ it (czOf cn cx) (cn.length + p) v = it (czOf cn cx) cn.length v ∧
  ∀ (r : Addr) (j : Nat) (H' : Hp), 0 < j → j ≤ p → it (czOf cn cx) j (it (czOf cn cx) cn.length v) = it (czOf cn cx) cn.length v → H r = none → H' r = some (.lst (rf (chX cn cx (it (czOf cn cx) cn.length v) j).reverse)) → Same H H' → Q (.ref r) H'
theorem ok_ringFrom {f : Addr} {fd : FuncData} (F : Fun K "ring_from" "ring_from" sRingFrom f fd) (zr : mg "range" = none) (zl : mg "len" = none) : FnOk P w K mg base CX0 1 f fd ["causes", "name"] spRingFrom := by
  refine F.ok scRingFrom (fun vs H Q E h => ?_) (fun cdv A outer s H vs Q E hr h => ?_)
  · obtain ⟨d, v, cn, cx, p, rfl, _⟩ := h
    rfl
  · obtain ⟨d, v, cn, cx, p, rfl, hd, hb, hnl, hch, hp0, hp1, hper, q⟩ := h
    refine ⟨_, pss_cons (ps_for PassesOwn.never rfl (pi_range1 (by rfl) zr (pa_cons (pe_callB call_lenD (by rfl) zl PySem.boot_len (pa_cons (pv 0) pa_nil)) pa_nil)) (pg_name (i := 2) scRingFrom.nd rfl (Or.inl rfl))
        (pss_one (ps_set (i := 1) scRingFrom.nd rfl (Or.inl rfl) (pe_ix ix_tup (pe_dget (hu_of hr) (pv 0) (pv 1) (fun _ _ => rfl)) pe_int (fun _ _ => rfl)))))
      (pss_cons (ps_par (i := 3) (j := 4) (by rfl) scRingFrom.nd rfl rfl (by decide) rfl rfl (pa_cons (pe_lst (pa_cons (pe_dget (hu_of hr) (pv 0) (pv 1) (fun _ _ => rfl)) pa_nil)) (pa_cons (pv 1) pa_nil)) (by rfl))
      (pss_cons (ps_while PassesOwn.never (pt_cmpR op_ne (pe_ix ix_tup (pe_ix ix_list (pv 3) (pe_un un_neg pe_int) (fun _ _ => rfl)) pe_int (fun _ _ => rfl)) (pv 4) (nomark _))
        (pss_one (ps_expr (pe_bm PySem.F.plainAttrs_list PySem.F.slot_list_append PySem.F.type_list_append mt_append (pv 3) (pa_cons (pe_dget (hu_of hr) (pv 0) (pe_ix ix_tup (pe_ix ix_list (pv 3) (pe_un un_neg pe_int) (fun _ _ => rfl)) pe_int (fun _ _ => rfl)) (fun _ _ => rfl)) pa_nil)))))
      (pss_one (ps_ret (pe_revL (pv 3)))))), ?_⟩
    obtain ⟨z, hz⟩ : ∃ z, z = czOf cn cx := ⟨_, rfl⟩
    rw [← hz] at hch hper q
    -- one step back
    have nxt : ∀ j, it z j v ∈ cn ∧ (cx (it z j v)).2.u = it z (j + 1) v := fun j => by
      have hm : it z j v ∈ cn := czOf_ne (cx := cx) (by rw [← hz]; exact hch j)
      have e : z (it z j v) = some (cx (it z j v)).2 := by rw [hz]; exact czOf_in (by rw [← hz]; exact hm)
      exact ⟨hm, (nx_some e).symm⟩
    refine ⟨_, rfl, d, _, rfl, hd, _, rfl, by rw [dI_len]; omega, by rw [dI_len]; omega, ?_⟩
    rw [dI_len]
    refine for_range (lo := 0) (n := ((cn.length : Nat) : Int).toNat) (fun i σ H' => H' = H ∧ ∃ x2 : Option V, σ = [some (.ref d), some (.str (it z i v)), x2, none, none]) ⟨rfl, none, rfl⟩ ?_ ?_
    · rintro i σ H1 hi ⟨rfl, x2, rfl⟩
      obtain ⟨hm, hu⟩ := nxt i
      refine ⟨_, rfl, _, rfl, d, _, rfl, dget_in (.inl hd) hm, _, _, _, .str (cx (it z i v)).2.u, rfl, rfl, SqT.of (hb _ hm), atI_nat (j := 0) rfl, rfl, some (.int (0 + (i : Nat))), ?_⟩
      rw [hu]
      rfl
    · rintro σ H1 ⟨rfl, x2, rfl⟩
      -- found, start
      have em : ((cn.length : Nat) : Int).toNat = cn.length := rfl
      obtain ⟨y, hy⟩ : ∃ y, y = it z cn.length v := ⟨_, rfl⟩
      rw [em, ← hy]
      rw [← hy] at q
      have back : ∀ j, it z j y = it z (cn.length + j) v := fun j => by rw [hy, it_add]
      have nxy : ∀ j, it z j y ∈ cn ∧ (cx (it z j y)).2.u = it z (j + 1) y := fun j => by
        rw [back, back]
        exact nxt (cn.length + j)
      have cyc : it z p y = y := by rw [back, hper, hy]
      have hm0 : y ∈ cn := (nxy 0).1
      refine ⟨_, rfl, _, rfl, d, _, rfl, dget_in (.inl hd) hm0, line100 (by show 1 ≤ 1000; decide), fun fl hfl => ?_⟩
      refine ⟨_, rfl, _, _, rfl, ?_⟩
      have ndf : d ≠ fl := ne_of_none hd hfl
      -- the loop
      refine ⟨fun m σ H' => ∃ k : Nat, 1 ≤ k ∧ k ≤ p ∧ m = p - k ∧ σ = [some (.ref d), some (.str y), x2, some (.ref fl), some (.str y)] ∧ H' = upd H1 fl (.lst (rf (chX cn cx y k))), ⟨p - 1, 1, Nat.le_refl _, by omega, rfl, rfl, rfl⟩, ?_⟩
      rintro m σ H2 ⟨k, k1, kp, rfl, rfl, rfl⟩
      obtain ⟨j, rfl⟩ : ∃ j, k = j + 1 := ⟨k - 1, by omega⟩
      obtain ⟨hmj, huj⟩ := nxy j
      have eL : rf (chX cn cx y (j + 1)) = rf (chX cn cx y j) ++ [.ref (cx (it z j y)).1] := by
        rw [chX_succ, rf_app, ← hz]
        rfl
      have gl : atI (rf (chX cn cx y (j + 1))) (-1) = some (.ref (cx (it z j y)).1) := by
        rw [eL]
        exact atI_last _ _
      have bj := hb _ hmj
      have ef : (upd H1 fl (.lst (rf (chX cn cx y (j + 1))))) fl = some (.lst (rf (chX cn cx y (j + 1)))) := upd_same
      have bj2 : (upd H1 fl (.lst (rf (chX cn cx y (j + 1))))) (cx (it z j y)).1 = some (.tup (tb (cx (it z j y)).2)) := by
        rw [upd_ne (ne_of_none bj hfl)]
        exact bj
      refine ⟨_, rfl, 1, rfl, fl, _, _, _, rfl, rfl, SqL.of ef, gl, _, _, 0, .str (cx (it z j y)).2.u, rfl, rfl, SqT.of bj2, atI_nat (j := 0) rfl, _, rfl, rfl, _, rfl, ?_⟩
      rw [dec_str, huj]
      by_cases c : it z (j + 1) y = y
      · rw [decide_eq_true c]
        refine iteF ?_
        refine ⟨_, rfl, fl, _, rfl, SqL.of ef, fun r hr0 => ?_⟩
        have s1 : Same H1 (upd H1 fl (.lst (rf (chX cn cx y (j + 1))))) := same_up (Same.refl _) hfl
        refine q r (j + 1) _ (by omega) kp c (s1.free hr0) ?_ (same_up s1 hr0)
        rw [upd_same]
        unfold rf
        rw [List.map_reverse]
      · rw [decide_eq_false c]
        refine iteT ?_
        have lt : j + 1 < p := by
          rcases Nat.lt_or_ge (j + 1) p with h | h
          · exact h
          · exact absurd (by rw [show j + 1 = p by omega]; exact cyc) c
        obtain ⟨hm2, _⟩ := nxy (j + 1)
        have ed2 : (upd H1 fl (.lst (rf (chX cn cx y (j + 1))))) d = some (.dK (dI cn fun n => .ref (cx n).1)) := by
          rw [upd_ne ndf]
          exact hd
        refine ⟨fun σ' H' => σ' = [some (.ref d), some (.str y), x2, some (.ref fl), some (.str y)] ∧ H' = upd H1 fl (.lst (rf (chX cn cx y (j + 2)))), ?_, ?_⟩
        · rintro σ' H' ⟨rfl, rfl⟩
          exact ⟨p - (j + 2), by omega, j + 2, by omega, lt, rfl, rfl, rfl⟩
        · refine ⟨_, rfl, .inl ⟨rfl, _, SqL.of ef⟩, _, rfl, _, rfl, 1, rfl, fl, _, _, _, rfl, rfl, SqL.of ef, gl, _, _, 0, .str (cx (it z j y)).2.u, rfl, rfl, SqT.of bj2, atI_nat (j := 0) rfl, d, .ref (cx (it z (j + 1) y)).1, rfl, ?_, fl, _, _, rfl, rfl, ef, small1000 (by rw [rf_len, chX_len]; omega), rfl, ?_⟩
          · rw [huj]
            exact dget_in (.inl ed2) hm2
          · rw [upd_upd, chX_succ cn cx y (j + 1), rf_app, ← hz]
            rfl
end
end K29

/-! solve_bounds -/
namespace K29
open PySem PySem.Spec PyProof.Rows L2
/-- what stands in the heap while the passes run -/
structure SS (vd cd : Addr) (nm : List Str) (E : List Bn) (H : Hp) (val : Str → Int) (cx : Str → Addr × Bn) (cn : List Str) : Prop where
  hv : H vd = some (.dK (dI (zs :: nm) fun n => .int (val n)))
  hc : H cd = some (.dK (dI cn fun n => .ref (cx n).1))
  hb : ∀ n, n ∈ cn → BAt H (cx n)
  cnz : ∀ n, n ∈ cn → n ∈ zs :: nm
  ndc : cn.Nodup
  si : ∃ (t : Str → Nat) (T : Nat), SI zs (zs :: nm) E val (czOf cn cx) t T
theorem SS.same {vd cd : Addr} {nm : List Str} {E : List Bn} {H H' : Hp} {val : Str → Int} {cx : Str → Addr × Bn} {cn : List Str} (S : SS vd cd nm E H val cx cn) (s : Same H H') : SS vd cd nm E H' val cx cn :=
  ⟨s _ _ S.hv, s _ _ S.hc, fun n h => (S.hb n h).same s, S.cnz, S.ndc, S.si⟩
theorem SS.len {vd cd : Addr} {nm : List Str} {E : List Bn} {H : Hp} {val : Str → Int} {cx : Str → Addr × Bn} {cn : List Str} (S : SS vd cd nm E H val cx cn) : cn.length ≤ nm.length + 1 := S.ndc.length_le_of_subset S.cnz
/-- one bound relaxed -/
theorem SS.relax {vd cd : Addr} {nm : List Str} {E : List Bn} {H : Hp} {val : Str → Int} {cx : Str → Addr × Bn} {cn : List Str} (S : SS vd cd nm E H val cx cn) {x : Addr × Bn} (hx : BAt H x) (hE : x.2 ∈ E) (h : val x.2.v < val x.2.u - x.2.c) :
    ∃ cn' : List Str, SS vd cd nm E (upd (upd H vd (.dK (putK (dI (zs :: nm) fun n => .int (val n)) (Sum.inr x.2.v) (.int (val x.2.u - x.2.c))))) cd (.dK (putK (dI cn fun n => .ref (cx n).1) (Sum.inr x.2.v) (.ref x.1)))) (put val x.2.v (val x.2.u - x.2.c)) (put cx x.2.v x) cn' := by
  obtain ⟨t, T, si⟩ := S.si
  have nvc : vd ≠ cd := fun e => by
    have h1 := S.hv
    rw [e, S.hc] at h1
    have h2 : (dI cn fun n => V.ref (cx n).1) = (dI (zs :: nm) fun n => V.int (val n)) := by
      injection h1 with h1
      injection h1
    cases cn with
    | nil => cases h2
    | cons a r => cases h2
  have tn : ∀ y : Addr × Bn, BAt H y → BAt (upd (upd H vd (.dK (putK (dI (zs :: nm) fun n => .int (val n)) (Sum.inr x.2.v) (.int (val x.2.u - x.2.c))))) cd (.dK (putK (dI cn fun n => .ref (cx n).1) (Sum.inr x.2.v) (.ref x.1)))) y := fun y hy => by
    show upd _ _ _ _ = _
    rw [upd_ne (ne_of hy S.hc fun z => nomatch z), upd_ne (ne_of hy S.hv fun z => nomatch z)]
    exact hy
  have hvz : x.2.v ∈ zs :: nm := (si.ends x.2 hE).2.1
  have sz : ∀ cn', (∀ n, n ∈ cn' ↔ (n ∈ cn ∨ n = x.2.v)) → czOf cn' (put cx x.2.v x) = put (czOf cn cx) x.2.v (some x.2) := fun cn' hcn => by
    funext n
    by_cases e : n = x.2.v
    · rw [e, put_same, czOf_in ((hcn _).mpr (.inr rfl)), put_same]
    · rw [put_ne e]
      unfold czOf
      by_cases m : n ∈ cn
      · rw [if_pos ((hcn n).mpr (.inl m)), if_pos m, put_ne e]
      · rw [if_neg (fun z => ((hcn n).mp z).elim m e), if_neg m]
  have hv' : (upd (upd H vd (.dK (putK (dI (zs :: nm) fun n => .int (val n)) (Sum.inr x.2.v) (.int (val x.2.u - x.2.c))))) cd (.dK (putK (dI cn fun n => .ref (cx n).1) (Sum.inr x.2.v) (.ref x.1)))) vd = some (.dK (dI (zs :: nm) fun n => .int (put val x.2.v (val x.2.u - x.2.c) n))) := by
    rw [upd_ne nvc, upd_same, put_in hvz, put_int]
  by_cases m : x.2.v ∈ cn
  · have hcn : ∀ n, n ∈ cn ↔ (n ∈ cn ∨ n = x.2.v) := fun n => ⟨.inl, fun z => z.elim id fun e => by rw [e]; exact m⟩
    refine ⟨cn, hv', ?_, fun n hn => ?_, S.cnz, S.ndc, put t x.2.v (T + 1), T + 1, ?_⟩
    · rw [upd_same, put_in m, put_ref]
    · by_cases e : n = x.2.v
      · rw [e, put_same]
        exact tn x hx
      · rw [put_ne e]
        exact tn _ (S.hb n hn)
    · rw [sz cn hcn]
      exact si.relax hE h
  · have hcn : ∀ n, n ∈ cn ++ [x.2.v] ↔ (n ∈ cn ∨ n = x.2.v) := fun n => by rw [List.mem_append, List.mem_singleton]
    refine ⟨cn ++ [x.2.v], hv', ?_, fun n hn => ?_, fun n hn => ?_, nd_snoc S.ndc m, put t x.2.v (T + 1), T + 1, ?_⟩
    · rw [upd_same, put_out m, put_ref]
    · by_cases e : n = x.2.v
      · rw [e, put_same]
        exact tn x hx
      · rw [put_ne e]
        exact tn _ (S.hb n (((hcn n).mp hn).resolve_right e))
    · rcases (hcn n).mp hn with z | z
      · exact S.cnz n z
      · rw [z]
        exact hvz
    · rw [sz _ hcn]
      exact si.relax hE h
def lastV : Option Str → V
  | none => .non
  | some v => .str v
section
variable {P : Program} {w : World} {K : PySem.W.Frag} {mg : Str → Option Value} {base : Heap}
theorem scSolve : FnScope ["bounds", "values", "causes", "u", "v", "c", "name", "lows", "turn", "last", "bound"] ["bounds"] (defScope sSolve) := ⟨rfl, rfl, rfl, by decide +kernel, rfl, by decide +kernel, by decide +kernel⟩
def spSolve : Sp := fun vs H Q _ => ∃ (t : Addr) (xs : List (Addr × Bn)), vs = [.ref t] ∧ H t = some (.tup (rf xs)) ∧ Bs H xs ∧ (∀ x, x ∈ xs → GB x.2) ∧ xs.length ≤ 100 ∧
  (∀ (tp dv : Addr) (nm : List Str) (val : Str → Int) (H' : Hp), Least (bb xs) nm val → nm.length ≤ 200 → H dv = none → H' tp = some (.tup [.ref dv, .non]) → H' dv = some (.dK (dI nm fun n => .int (val n))) → Same H H' → Q (.ref tp) H') ∧
  (∀ (tp r : Addr) (nm : List Str) (ys : List (Addr × Bn)) (H' : Hp), NamesOf (bb xs) nm → Ring (lowsOf nm ++ bb xs) (bb ys) → ys.length ≤ 300 → H r = none → H' tp = some (.tup [.non, .ref r]) → H' r = some (.lst (rf ys)) → Bs H' ys → Same H H' → Q (.ref tp) H')
theorem ok_solve {f f1 : Addr} {fd fd1 : FuncData} (F : Fun K "solve_bounds" "solve_bounds" sSolve f fd) (RF : Df P w K mg base 1 "ring_from" ["causes", "name"] spRingFrom f1 fd1) (zr : mg "range" = none) (zl : mg "len" = none) (zli : mg "list" = none) :
    FnOk P w K mg base CX0 2 f fd ["bounds"] spSolve := by
  refine F.ok scSolve (fun vs H Q E h => ?_) (fun cdv A outer s H vs Q E hr h => ?_)
  · obtain ⟨t, xs, rfl, _⟩ := h
    rfl
  · obtain ⟨t, xs, rfl, ht, hb, hg, hxl, qA, qB⟩ := h
    refine ⟨_, pss_cons (ps_par (i := 1) (j := 2) (by rfl) scSolve.nd rfl rfl (by decide) rfl rfl (pa_cons (pe_disp (pps_cons pe_str pe_int pps_nil) (by rfl) (by rfl) (fun z => by cases z) (by decide)) (pa_cons pe_dnewK pa_nil)) (by rfl))
      (pss_cons (ps_for PassesOwn.never rfl (pi_tup (pv 0)) (pg_tup rfl (pgs_cons (pg_name (i := 3) scSolve.nd rfl (Or.inl rfl)) (pgs_cons (pg_name (i := 4) scSolve.nd rfl (Or.inl rfl)) (pgs_cons (pg_name (i := 5) scSolve.nd rfl (Or.inl rfl)) pgs_nil))))
        (pss_one (ps_for PassesOwn.never rfl (pi_tup (pe_tup (pa_cons (pv 3) (pa_cons (pv 4) pa_nil)))) (pg_name (i := 6) scSolve.nd rfl (Or.inl rfl))
          (pss_one (ps_if (pt_cmp (pc_dnotin (hu_of hr) (pv 6) (pv 1)))
            (pss_cons (ps_dput (hu_of hr) (pv 1) (pv 6) pe_int rfl) (pss_one (ps_dput (hu_of hr) (pv 2) (pv 6) (pe_tup (pa_cons pe_str (pa_cons (pv 6) (pa_cons pe_int pa_nil)))) rfl))) pss_nil)))))
      (pss_cons (ps_lock (ps_setLc (i := 7) (own := [("name", 6)]) (g := gName 6) (tt := tYes) (by rfl) scSolve.nd rfl rfl (sw_true rfl rfl rfl (by decide +kernel)) (pi_keys (pv 2))
          (blkOk_by (own := [("name", 6)]) (N := ["bounds", "values", "causes", "u", "v", "c", "name", "lows", "turn", "last", "bound"]) (sc := defScope sSolve) (by decide +kernel))
          (fun _ _ _ _ _ => pg_name (i := 6) scSolve.nd rfl (Or.inl rfl)) (fun _ _ _ _ _ => pts_nil) (fun _ _ _ _ _ => pe_tup (pa_cons pe_str (pa_cons (pv 6) (pa_cons pe_int pa_nil))))))
      (pss_cons (ps_for PassesOwn.never rfl (pi_range1 (by rfl) zr (pa_cons (pe_callB call_lenD (by rfl) zl PySem.boot_len (pa_cons (pv 1) pa_nil)) pa_nil)) (pg_name (i := 8) scSolve.nd rfl (Or.inl rfl))
        (pss_cons (ps_set (i := 9) scSolve.nd rfl (Or.inl rfl) pe_non)
        (pss_cons (ps_for PassesOwn.never rfl (pi_list (pe_op op_cat (pv 7) (pe_callTy call_list_of (by rfl) zli (by decide +kernel) (pa_cons (pv 0) pa_nil)))) (pg_name (i := 10) scSolve.nd rfl (Or.inl rfl))
          (pss_cons (ps_asg (pv 10) (pg_tup rfl (pgs_cons (pg_name (i := 3) scSolve.nd rfl (Or.inl rfl)) (pgs_cons (pg_name (i := 4) scSolve.nd rfl (Or.inl rfl)) (pgs_cons (pg_name (i := 5) scSolve.nd rfl (Or.inl rfl)) pgs_nil)))))
          (pss_one (ps_if (pt_cmpR op_gt (pe_op op_sub (pe_dget (hu_of hr) (pv 1) (pv 3) (fun _ _ => rfl)) (pv 5)) (pe_dget (hu_of hr) (pv 1) (pv 4) (fun _ _ => rfl)) (nomark _))
            (pss_cons (ps_dput (hu_of hr) (pv 1) (pv 4) (pe_op op_sub (pe_dget (hu_of hr) (pv 1) (pv 3) (fun _ _ => rfl)) (pv 5)) rfl)
            (pss_cons (ps_dput (hu_of hr) (pv 2) (pv 4) (pv 10) rfl)
            (pss_one (ps_set (i := 9) scSolve.nd rfl (Or.inl rfl) (pv 4))))) pss_nil))))
        (pss_one (ps_if (pt_cmpR op_isN (pv 9) pe_non (nomark _)) (pss_cons (ps_ddel (pv 1) pe_str) (pss_one (ps_ret (pe_tup (pa_cons (pv 1) (pa_cons pe_non pa_nil)))))) pss_nil)))))
      (pss_one (ps_ret (pe_tup (pa_cons pe_non (pa_cons (pe_call RF.ok hr (by rfl) RF.gl RF.kp RF.bi .nil pass0 (pa_cons (pv 2) (pa_cons (pv 9) pa_nil))) pa_nil)))))))), ?_⟩
    -- values, causes
    refine fun vd hvd0 => ⟨upd_same, [((Sum.inr zs : Key), .int 0)], rfl, by decide, ?_⟩
    rw [upd_upd]
    refine fun cd hcd0 => ⟨_, _, rfl, ?_⟩
    have nvc : vd ≠ cd := ne_of_none upd_same hcd0
    have hcd00 : H cd = none := by
      rw [upd_ne nvc.symm] at hcd0
      exact hcd0
    have s0 : Same H (upd (upd H vd (.dK (mergeK [] [((Sum.inr zs : Key), V.int 0)]))) cd (.dK [])) := same_up (same_up (Same.refl H) hvd0) hcd0
    have v0 : (upd (upd H vd (.dK (mergeK [] [((Sum.inr zs : Key), V.int 0)]))) cd (.dK [])) vd = some (.dK (dI [zs] fun _ => .int 0)) := Eq.trans (upd_ne nvc) upd_same
    have c0 : (upd (upd H vd (.dK (mergeK [] [((Sum.inr zs : Key), V.int 0)]))) cd (.dK [])) cd = some (.dK []) := upd_same
    generalize upd (upd H vd (.dK (mergeK [] [((Sum.inr zs : Key), V.int 0)]))) cd (.dK []) = H1 at s0 v0 c0
    -- the names
    refine ⟨_, rfl, t, rfl, ⟨_, SqT.of (s0 _ _ ht)⟩, ?_⟩
    refine for_tup (K := K) (a := t) (xs := rf xs) (fun i σ H' => ∃ (nm : List Str) (cx : Str → Addr × Bn) (x3 x4 x5 x6 : Option V), σ = [some (.ref t), some (.ref vd), some (.ref cd), x3, x4, x5, x6, none, none, none, none] ∧
      H' vd = some (.dK (dI (zs :: nm) fun _ => .int 0)) ∧ H' cd = some (.dK (dI nm fun n => .ref (cx n).1)) ∧ (∀ n, n ∈ nm → BAt H' (cx n) ∧ (cx n).2 = ⟨zs, n, 0⟩) ∧ NamesOf ((bb xs).take i) nm ∧ nm.length ≤ 2 * i ∧ Same H H')
      ⟨[], fun _ => (0, ⟨zs, zs, 0⟩), none, none, none, none, rfl, v0, c0, fun _ h => (nomatch h), ⟨List.nodup_nil, fun n => ⟨fun h => (nomatch h), fun h => by
        obtain ⟨_, b, hb2, _⟩ := h
        rw [List.take_zero] at hb2
        cases hb2⟩⟩, Nat.le_refl _, s0⟩ ?_ ?_ ?_
    · rintro i σ H2 _ ⟨_, _, _, _, _, _, _, _, _, _, _, _, sm⟩
      exact SqT.of (sm _ _ ht)
    · rintro i y σ H2 hy ⟨nm, cx, x3, x4, x5, x6, rfl, ev, ec, ebx, hN, hl, sm⟩
      obtain ⟨x, hx, rfl⟩ := rf_get hy
      have hi : i < xs.length := (List.getElem?_eq_some_iff.mp hx).1
      have bx := sm _ _ (hb x (List.mem_of_getElem? hx))
      refine ⟨x.1, _, rfl, SqT.of bx, rfl, _, _, rfl, _, _, rfl, _, _, rfl, rfl, ?_⟩
      refine ⟨_, rfl, _, rfl, line100 (by show 2 ≤ 1000; decide), fun t2 ht2 => ?_⟩
      have sT : Same H2 (upd H2 t2 (.tup [.str x.2.u, .str x.2.v])) := same_up (Same.refl _) ht2
      have eT : (upd H2 t2 (.tup [.str x.2.u, .str x.2.v])) t2 = some (.tup [.str x.2.u, .str x.2.v]) := upd_same
      generalize upd H2 t2 (.tup [.str x.2.u, .str x.2.v]) = H3 at sT eT
      refine ⟨t2, rfl, ⟨_, SqT.of eT⟩, ?_⟩
      refine for_tup (K := K) (a := t2) (xs := [.str x.2.u, .str x.2.v]) (fun j σ H' => ∃ (nm : List Str) (cx : Str → Addr × Bn) (x6 : Option V), σ = [some (.ref t), some (.ref vd), some (.ref cd), some (.str x.2.u), some (.str x.2.v), some (.int x.2.c), x6, none, none, none, none] ∧
        H' vd = some (.dK (dI (zs :: nm) fun _ => .int 0)) ∧ H' cd = some (.dK (dI nm fun n => .ref (cx n).1)) ∧ (∀ n, n ∈ nm → BAt H' (cx n) ∧ (cx n).2 = ⟨zs, n, 0⟩) ∧ nm.Nodup ∧
        (∀ n, n ∈ nm ↔ n ≠ zs ∧ ((∃ b, b ∈ (bb xs).take i ∧ (n = b.u ∨ n = b.v)) ∨ n ∈ [x.2.u, x.2.v].take j)) ∧ nm.length ≤ 2 * i + j ∧ H' t2 = some (.tup [.str x.2.u, .str x.2.v]) ∧ Same H H')
        ⟨nm, cx, _, rfl, sT _ _ ev, sT _ _ ec, fun n hn => ⟨(ebx n hn).1.same sT, (ebx n hn).2⟩, hN.1, fun n => ?_, by omega, eT, sm.trans sT⟩ ?_ ?_ ?_
      · rw [hN.2 n, List.take_zero]
        simp
      · rintro j σ H4 _ ⟨_, _, _, _, _, _, _, _, _, _, e, _⟩
        exact SqT.of e
      · rintro j y σ H4 hy2 ⟨nm, cx, x6, rfl, ev, ec, ebx, nd, hN, hl, e2, sm⟩
        obtain ⟨n, hn, rfl⟩ : ∃ n, [x.2.u, x.2.v][j]? = some n ∧ y = .str n := by
          match j, hy2 with
          | 0, h => cases h; exact ⟨_, rfl, rfl⟩
          | 1, h => cases h; exact ⟨_, rfl, rfl⟩
          | j + 2, h => cases h
        have et : [x.2.u, x.2.v].take (j + 1) = [x.2.u, x.2.v].take j ++ [n] := by rw [List.take_add_one, hn]; rfl
        have hj2 : j < 2 := (List.getElem?_eq_some_iff.mp hn).1
        by_cases z : n ∈ zs :: nm
        · refine ⟨_, rfl, _, rfl, vd, _, rfl, dget_in (.inl ev) z, _, rfl, ?_⟩
          refine iteF ⟨nm, cx, _, rfl, ev, ec, ebx, nd, fun m => ?_, by omega, e2, sm⟩
          rw [hN m, et, List.mem_append, List.mem_singleton]
          constructor
          · rintro ⟨h1, h2 | h2⟩
            · exact ⟨h1, .inl h2⟩
            · exact ⟨h1, .inr (.inl h2)⟩
          · rintro ⟨h1, h2 | h2 | h2⟩
            · exact ⟨h1, .inl h2⟩
            · exact ⟨h1, .inr h2⟩
            · rw [h2] at h1 ⊢
              rcases List.mem_cons.mp z with c | c
              · exact absurd c h1
              · exact (hN n).mp c
        · refine ⟨_, rfl, _, rfl, vd, _, rfl, dget_out (.inl ev) z, _, rfl, ?_⟩
          have z1 : n ≠ zs := fun e => z (by rw [e]; exact List.mem_cons_self)
          have z2 : ¬ n ∈ nm := fun e => z (List.mem_cons_of_mem _ e)
          refine iteT ?_
          refine ⟨_, rfl, _, rfl, vd, _, rfl, DPut.k (k := Sum.inr n) ev (small1000 (by rw [dI_len, List.length_cons]; omega)), ?_⟩
          rw [put_out z, put_self rfl]
          have ec5 : (upd H4 vd (.dK (dI (zs :: nm ++ [n]) fun _ => .int 0))) cd = some (.dK (dI nm fun n => .ref (cx n).1)) := Eq.trans (upd_ne nvc.symm) ec
          have ev5 : (upd H4 vd (.dK (dI (zs :: nm ++ [n]) fun _ => .int 0))) vd = some (.dK (dI (zs :: (nm ++ [n])) fun _ => .int 0)) := upd_same
          have t5 : ∀ (a : Addr) (ys : List V), H4 a = some (.tup ys) → (upd H4 vd (.dK (dI (zs :: nm ++ [n]) fun _ => .int 0))) a = some (.tup ys) := fun a ys h => by
            rw [upd_ne (ne_of h ev fun z => nomatch z)]
            exact h
          have sm5 : Same H (upd H4 vd (.dK (dI (zs :: nm ++ [n]) fun _ => .int 0))) := same_own sm hvd0
          generalize upd H4 vd (.dK (dI (zs :: nm ++ [n]) fun _ => .int 0)) = H5 at ec5 ev5 t5 sm5
          refine ⟨_, rfl, line100 (by show 3 ≤ 1000; decide), fun t6 ht6 => ?_⟩
          have nct : cd ≠ t6 := ne_of_none ec5 ht6
          have nvt : vd ≠ t6 := ne_of_none ev5 ht6
          refine ⟨_, rfl, _, rfl, cd, _, rfl, DPut.k (k := Sum.inr n) (Eq.trans (upd_ne nct) ec5) (small1000 (by rw [dI_len]; omega)), ?_⟩
          rw [put_out z2]
          have t7 : ∀ (a : Addr) (ys : List V), H5 a = some (.tup ys) → (upd (upd H5 t6 (.tup [.str zs, .str n, .int 0])) cd (.dK (dI (nm ++ [n]) (put (fun n => .ref (cx n).1) n (.ref t6))))) a = some (.tup ys) := fun a ys h => by
            rw [upd_ne (ne_of h ec5 fun z => nomatch z), upd_ne (ne_of_none h ht6)]
            exact h
          refine ⟨nm ++ [n], put cx n (t6, ⟨zs, n, 0⟩), _, rfl, Eq.trans (upd_ne nvc) (Eq.trans (upd_ne nvt) ev5), ?_, fun m hm => ?_, nd_snoc nd z2, fun m => ?_, by rw [List.length_append]; show nm.length + 1 ≤ _; omega, t7 _ _ (t5 _ _ e2), same_own (same_up sm5 ht6) hcd00⟩
          · rw [upd_same, put_ref]
          · by_cases e : m = n
            · rw [e, put_same]
              refine ⟨?_, rfl⟩
              show upd _ _ _ t6 = _
              rw [upd_ne nct.symm, upd_same]
              rfl
            · rw [put_ne e]
              have hm2 : m ∈ nm := (List.mem_append.mp hm).resolve_right fun c => e (List.mem_singleton.mp c)
              exact ⟨t7 _ _ (t5 _ _ (ebx m hm2).1), (ebx m hm2).2⟩
          · rw [List.mem_append, List.mem_singleton, hN m, et, List.mem_append, List.mem_singleton]
            constructor
            · rintro (⟨h1, h2 | h2⟩ | h1)
              · exact ⟨h1, .inl h2⟩
              · exact ⟨h1, .inr (.inl h2)⟩
              · rw [h1]
                exact ⟨z1, .inr (.inr rfl)⟩
            · rintro ⟨h1, h2 | h2 | h2⟩
              · exact .inl ⟨h1, .inl h2⟩
              · exact .inl ⟨h1, .inr h2⟩
              · exact .inr h2
      · rintro σ H4 ⟨nm, cx, x6, rfl, ev, ec, ebx, nd, hN, hl, e2, sm⟩
        refine ⟨nm, cx, _, _, _, _, rfl, ev, ec, ebx, ⟨nd, fun n => ?_⟩, ?_, sm⟩
        · rw [hN n, List.take_add_one, bb_get hx]
          show _ ∧ (_ ∨ n ∈ [x.2.u, x.2.v]) ↔ _ ∧ ∃ b, b ∈ (bb xs).take i ++ [x.2] ∧ _
          constructor
          · rintro ⟨h1, ⟨b, h2, h3⟩ | h2⟩
            · exact ⟨h1, b, List.mem_append_left _ h2, h3⟩
            · refine ⟨h1, x.2, List.mem_append_right _ (List.mem_singleton.mpr rfl), ?_⟩
              simpa using h2
          · rintro ⟨h1, b, h2, h3⟩
            rcases List.mem_append.mp h2 with c | c
            · exact ⟨h1, .inl ⟨b, c, h3⟩⟩
            · rw [List.mem_singleton.mp c] at h3
              exact ⟨h1, .inr (by simpa using h3)⟩
        · show nm.length ≤ 2 * (i + 1)
          have hl : nm.length ≤ 2 * i + 2 := hl
          omega
    · rintro σ H2 ⟨nm, cx, x3, x4, x5, x6, rfl, ev, ec, ebx, hN, hl, sm⟩
      rw [rf_len] at hl hN
      rw [List.take_of_length_le (by rw [bb_len]; exact Nat.le_refl _)] at hN
      have nmz := hN.nz
      -- lows
      refine ⟨cd, _, ec, trivial, fun od => ?_⟩
      refine ⟨_, rfl, cd, od, rfl, .inl ⟨_, upd_same, fun D hD => ?_⟩⟩
      have b2 : But cd H2 (upd H2 cd (.frz od (.dK (dI nm fun n => .ref (cx n).1)))) := But.locked
      have ncD : cd ≠ D := ne_of_none upd_same hD
      have hD0 : H2 D = none := by
        rw [upd_ne ncD.symm] at hD
        exact hD
      refine lc_it (walk_keys (kvs := dI nm fun n => .ref (cx n).1)) (fun j H' => ∃ lx : List (Addr × Bn), H' D = some (.lst (rf lx)) ∧ bb lx = lowsOf (nm.take j) ∧ Bs H' lx ∧ H' cd = some (.frz od (.dK (dI nm fun n => .ref (cx n).1))) ∧ But cd H2 H')
        ⟨[], upd_same, rfl, Bs.nil, Eq.trans (upd_ne ncD) upd_same, b2.up hD⟩ ?_ ?_ ?_
      · rintro j H3 _ ⟨_, _, _, _, e, _⟩
        exact e
      · rintro j y H3 H4 hj ⟨lx, eD, elx, blx, ecd, b3⟩ ⟨rfl, k, v, hk, rfl⟩
        rw [dI_len] at hj
        obtain ⟨n, hn, rfl, rfl⟩ := dI_get hk
        refine ⟨rfl, ?_⟩
        refine ⟨_, rfl, line100 (by show 3 ≤ 1000; decide), fun t6 ht6 => ?_⟩
        have nDt : D ≠ t6 := ne_of_none eD ht6
        have nct : cd ≠ t6 := ne_of_none ecd ht6
        have llx : lx.length = j := by
          have c := congrArg List.length elx
          rw [bb_len] at c
          unfold lowsOf at c
          rw [List.length_map, List.length_take] at c
          omega
        refine ⟨_, Eq.trans (upd_ne nDt) eD, small1000 (by rw [rf_len]; omega), lx ++ [(t6, ⟨zs, n, 0⟩)], ?_, ?_, Bs.snoc (fun y hy => ?_) ?_, Eq.trans (upd_ne ncD) (Eq.trans (upd_ne nct) ecd), (b3.up ht6).own hD0⟩
        · rw [upd_same, rf_app]
          rfl
        · rw [bb_app, elx, List.take_add_one, hn]
          unfold lowsOf
          rw [List.map_append]
          rfl
        · show upd _ _ _ _ = _
          rw [upd_ne (ne_of (blx y hy) eD fun z => nomatch z), upd_ne (ne_of_none (blx y hy) ht6)]
          exact blx y hy
        · show upd _ _ _ t6 = _
          rw [upd_ne nDt.symm, upd_same]
          rfl
      rintro H3 ⟨lx, eD, elx, blx, ecd, b3⟩
      rw [dI_len, List.take_length] at elx
      have s3 : Same H2 (upd H3 cd (.dK (dI nm fun n => .ref (cx n).1))) := b3.unlock ec
      have eD3 : (upd H3 cd (.dK (dI nm fun n => .ref (cx n).1))) D = some (.lst (rf lx)) := Eq.trans (upd_ne ncD.symm) eD
      have blx3 : Bs (upd H3 cd (.dK (dI nm fun n => .ref (cx n).1))) lx := fun y hy => by
        show upd _ _ _ _ = _
        rw [upd_ne (ne_of (blx y hy) ecd fun z => nomatch z)]
        exact blx y hy
      refine ⟨ecd, ?_⟩
      generalize upd H3 cd (.dK (dI nm fun n => .ref (cx n).1)) = H4 at s3 eD3 blx3
      have s4 : Same H H4 := sm.trans s3
      have hDH : H D = none := sm.free hD0
      have llx : lx.length = nm.length := by
        have c := congrArg List.length elx
        rw [bb_len] at c
        unfold lowsOf at c
        rw [List.length_map] at c
        exact c
      -- the passes
      obtain ⟨E0, hE0⟩ : ∃ E0, E0 = lowsOf nm ++ bb xs := ⟨_, rfl⟩
      have eE : bb (lx ++ xs) = E0 := by rw [bb_app, elx, hE0]
      have inE : ∀ b, b ∈ E0 → b ∈ bb xs ∨ (b.u = zs ∧ b.c = 0 ∧ b.v ∈ nm) := fun b hb2 => by
        rw [hE0] at hb2
        rcases List.mem_append.mp hb2 with c | c
        · obtain ⟨n, hn, rfl⟩ := List.mem_map.mp c
          exact .inr ⟨rfl, rfl, hn⟩
        · exact .inl c
      have start : SS vd cd nm E0 H4 (fun _ => 0) cx nm := by
        refine ⟨s3 _ _ ev, s3 _ _ ec, fun n hn => ((ebx n hn).1).same s3, fun n hn => List.mem_cons_of_mem _ hn, hN.1, fun _ => 0, 0, SI.start List.mem_cons_self (fun b hb2 => ?_) (fun n h1 h2 => ?_) fun n h => ?_⟩
        · rcases inE b hb2 with c | ⟨c1, c2, c3⟩
          · obtain ⟨x, hx, rfl⟩ := bb_mem c
            exact ⟨hN.u c, hN.v c, (hg x hx).2.2⟩
          · refine ⟨by rw [c1]; exact List.mem_cons_self, List.mem_cons_of_mem _ c3, fun e => ?_⟩
            rw [c1] at e
            rw [← e] at c3
            exact nmz c3
        · have h3 : n ∈ nm := (List.mem_cons.mp h1).resolve_left h2
          refine ⟨by rw [czOf_in h3, (ebx n h3).2], ?_⟩
          rw [hE0]
          exact List.mem_append_left _ (List.mem_map.mpr ⟨n, h3, rfl⟩)
        · have h3 := czOf_ne h
          exact ⟨List.mem_cons_of_mem _ h3, fun e => nmz (by rw [← e]; exact h3)⟩
      refine ⟨_, rfl, vd, _, rfl, start.hv, _, rfl, by rw [dI_len, List.length_cons]; omega, by rw [dI_len, List.length_cons]; omega, ?_⟩
      rw [dI_len]
      refine for_range (lo := 0) (n := (((zs :: nm).length : Nat) : Int).toNat) (fun i σ H' => ∃ (val : Str → Int) (cx : Str → Addr × Bn) (cn : List Str) (x3 x4 x5 x6 x8 x9 x10 : Option V), σ = [some (.ref t), some (.ref vd), some (.ref cd), x3, x4, x5, x6, some (.ref D), x8, x9, x10] ∧
        SS vd cd nm E0 H' val cx cn ∧ Done zs E0 i val ∧ Same H H' ∧ H' D = some (.lst (rf lx)) ∧ Bs H' lx ∧
        (i = 0 ∨ ∃ (v : Str) (val0 : Str → Int), x9 = some (.str v) ∧ v ∈ zs :: nm ∧ val0 v < val v ∧ Done zs E0 (i - 1) val0))
        ⟨fun _ => 0, cx, nm, _, _, _, _, _, _, _, rfl, start, done0 fun _ => Int.le_refl 0, s4, eD3, blx3, .inl rfl⟩ ?_ ?_
      · rintro i σ H5 hi ⟨val0, cx0, cn0, x3, x4, x5, x6, x8, x9, x10, rfl, S0, dn, s5, eD5, blx5, _⟩
        -- lows + list(bounds)
        refine ⟨_, rfl, _, rfl, t, _, rfl, .inr (SqT.of (s5 _ _ ht)), fun l1 hl1 => ?_⟩
        have nDl : D ≠ l1 := ne_of_none eD5 hl1
        refine ⟨D, l1, _, _, rfl, rfl, Eq.trans (upd_ne nDl) eD5, upd_same, line100 (by rw [rf_len, rf_len]; omega), fun L hL => ?_⟩
        have s6 : Same H5 (upd (upd H5 l1 (.lst (rf xs))) L (.lst (rf lx ++ rf xs))) := same_up (same_up (Same.refl _) hl1) hL
        have eL : (upd (upd H5 l1 (.lst (rf xs))) L (.lst (rf lx ++ rf xs))) L = some (.lst (rf (lx ++ xs))) := by rw [upd_same, rf_app]
        have nLv : L ≠ vd := fun e => by
          rw [e, upd_ne (ne_of_none S0.hv hl1), S0.hv] at hL
          cases hL
        have nLc : L ≠ cd := fun e => by
          rw [e, upd_ne (ne_of_none S0.hc hl1), S0.hc] at hL
          cases hL
        generalize upd (upd H5 l1 (.lst (rf xs))) L (.lst (rf lx ++ rf xs)) = H6 at s6 eL
        refine ⟨L, rfl, ⟨_, SqL.of eL⟩, ?_⟩
        refine for_list (K := K) (a := L) (xs := rf (lx ++ xs)) (fun j σ H' => ∃ (val : Str → Int) (cx : Str → Addr × Bn) (cn : List Str) (last : Option Str) (x3 x4 x5 x10 : Option V), σ = [some (.ref t), some (.ref vd), some (.ref cd), x3, x4, x5, x6, some (.ref D), some (.int (0 + (i : Nat))), some (lastV last), x10] ∧
          SS vd cd nm E0 H' val cx cn ∧ Pass val0 val (E0.take j) last ∧ (∀ v, last = some v → v ∈ zs :: nm) ∧ Same H H' ∧ H' D = some (.lst (rf lx)) ∧ H' L = some (.lst (rf (lx ++ xs))) ∧ Bs H' (lx ++ xs))
          ⟨val0, cx0, cn0, none, _, _, _, _, rfl, S0.same s6, (by rw [List.take_zero]; exact Pass.start val0), fun _ h => (nomatch h), s5.trans s6, s6 _ _ eD5, eL, Bs.app (blx5.same s6) ((hb.same s5).same s6)⟩ ?_ ?_ ?_
        · rintro j σ H7 _ ⟨_, _, _, _, _, _, _, _, _, _, _, _, _, _, e, _⟩
          exact SqL.of e
        · rintro j y σ H7 hy ⟨val, cx, cn, last, x3, x4, x5, x10, rfl, S, ps, lin, s7, eD7, eL7, bl7⟩
          obtain ⟨x, hx, rfl⟩ := rf_get hy
          have hm := List.mem_of_getElem? hx
          have bx : H7 x.1 = some (.tup (tb x.2)) := bl7 x hm
          have hxE : x.2 ∈ E0 := by
            rw [← eE]
            exact mem_bb hm
          have et : E0.take (j + 1) = E0.take j ++ [x.2] := by
            rw [List.take_add_one, ← eE, bb_get hx]
            rfl
          obtain ⟨tt, TT, si⟩ := id S.si
          obtain ⟨hu, hv, _⟩ := si.ends x.2 hxE
          refine ⟨_, rfl, x.1, _, rfl, SqT.of bx, rfl, _, _, rfl, _, _, rfl, _, _, rfl, rfl, ?_⟩
          refine ⟨_, rfl, _, rfl, vd, _, rfl, dget_in (.inl S.hv) hu, _, rfl, _, _, rfl, rfl, _, rfl, _, rfl, vd, _, rfl, dget_in (.inl S.hv) hv, _, _, rfl, rfl, _, rfl, ?_⟩
          by_cases c : val x.2.v < val x.2.u - x.2.c
          · rw [decide_eq_true c]
            refine iteT ?_
            have ncv : cd ≠ vd := nvc.symm
            refine ⟨_, rfl, _, rfl, vd, _, rfl, dget_in (.inl S.hv) hu, _, rfl, _, _, rfl, rfl, _, rfl, _, rfl, vd, _, rfl, DPut.k (k := Sum.inr x.2.v) S.hv (small1000 (by rw [dI_len, List.length_cons]; omega)), ?_⟩
            refine ⟨_, rfl, _, rfl, _, rfl, cd, _, rfl, DPut.k (k := Sum.inr x.2.v) (Eq.trans (upd_ne ncv) S.hc) (small1000 (by rw [dI_len]; have := S.len; omega)), ?_⟩
            obtain ⟨cn', S'⟩ := S.relax bx hxE c
            have tn : ∀ y : Addr × Bn, y ∈ lx ++ xs → BAt (upd (upd H7 vd (.dK (putK (dI (zs :: nm) fun n => .int (val n)) (Sum.inr x.2.v) (.int (val x.2.u - x.2.c))))) cd (.dK (putK (dI cn fun n => .ref (cx n).1) (Sum.inr x.2.v) (.ref x.1)))) y := fun y hy => by
              show upd _ _ _ _ = _
              rw [upd_ne (ne_of (bl7 y hy) S.hc fun z => nomatch z), upd_ne (ne_of (bl7 y hy) S.hv fun z => nomatch z)]
              exact bl7 y hy
            have ls : ∀ (a : Addr) (ys : List V), H7 a = some (.lst ys) → (upd (upd H7 vd (.dK (putK (dI (zs :: nm) fun n => .int (val n)) (Sum.inr x.2.v) (.int (val x.2.u - x.2.c))))) cd (.dK (putK (dI cn fun n => .ref (cx n).1) (Sum.inr x.2.v) (.ref x.1)))) a = some (.lst ys) := fun a ys h => by
              rw [upd_ne (ne_of h S.hc fun z => nomatch z), upd_ne (ne_of h S.hv fun z => nomatch z)]
              exact h
            refine ⟨_, rfl, put val x.2.v (val x.2.u - x.2.c), put cx x.2.v x, cn', some x.2.v, _, _, _, _, rfl, S', (by rw [et]; exact ps.put c), fun v e => (by cases e; exact hv), same_own (same_own s7 hvd0) hcd00, ls _ _ eD7, ls _ _ eL7, tn⟩
          · rw [decide_eq_false c]
            refine iteF ⟨val, cx, cn, last, _, _, _, _, rfl, S, (by rw [et]; exact ps.keep c), lin, s7, eD7, eL7, bl7⟩
        · rintro σ H7 ⟨val, cx, cn, last, x3, x4, x5, x10, rfl, S, ps, lin, s7, eD7, eL7, bl7⟩
          rw [List.take_of_length_le (by rw [← eE, rf_len, bb_len]; exact Nat.le_refl _)] at ps
          obtain ⟨tt, TT, si⟩ := id S.si
          cases last with
          | none =>
            refine ⟨_, rfl, rfl, _, rfl, ?_⟩
            refine iteT ?_
            have same := ps.same rfl
            have kp : Keeps E0 val := fun b hb2 => by
              have c := ps.did b hb2
              rw [← same b.u] at c
              omega
            obtain ⟨vz, fo⟩ := K29.forced (bs := bb xs) si kp fun b hb2 => (inE b hb2).imp id fun c => ⟨c.1, c.2.1⟩
            refine ⟨_, rfl, vd, _, Sum.inr zs, rfl, S.hv, rfl, by rw [dI_in List.mem_cons_self]; rfl, ?_⟩
            rw [drop_head nmz]
            refine ⟨_, rfl, line100 (by show 2 ≤ 1000; decide), fun tp htp => ?_⟩
            have nvt : vd ≠ tp := ne_of_none upd_same htp
            refine qA tp vd nm val _ ⟨hN, vz, si.nonneg, fun b hb2 => kp b (by rw [hE0]; exact List.mem_append_right _ hb2), fo, fun s2 h1 h2 h3 n hn => ?_⟩ (by omega) hvd0 upd_same (Eq.trans (upd_ne nvt) upd_same) (same_up (same_own s7 hvd0) htp)
            refine si.below s2 ⟨h1, fun b hb2 => ?_⟩ n (List.mem_cons_of_mem _ hn)
            rcases inE b hb2 with c | ⟨c1, c2, c3⟩
            · exact h3 b c
            · rw [c1, c2, h1]
              have := h2 _ c3
              omega
          | some v =>
            refine ⟨_, rfl, rfl, _, rfl, ?_⟩
            refine iteF ?_
            refine ⟨val, cx, cn, _, _, _, _, _, _, _, rfl, S, done_next dn si.nonneg ps.did, s7, eD7, fun y hy => bl7 y (List.mem_append_left _ hy), .inr ⟨v, val0, rfl, lin v rfl, ps.chg v rfl, dn⟩⟩
      · rintro σ H5 ⟨val, cx, cn, x3, x4, x5, x6, x8, x9, x10, rfl, S, dn, s5, eD5, blx5, hlast⟩
        rcases hlast with c | ⟨v, val0, rfl, hv, hlt, dn0⟩
        · have c : nm.length + 1 = 0 := c
          omega
        · obtain ⟨tt, TT, si⟩ := id S.si
          have nr := not_rooted si (k := nm.length) (by rw [List.length_cons]; exact Nat.le_refl _) dn0 hv hlt
          have ca := caused si hv nr
          obtain ⟨p, p0, p1, per⟩ := period si hv nr (cn := cn) (fun n h => czOf_ne h) (Nat.le_refl _)
          refine ⟨_, rfl, _, rfl, cd, v, cn, cx, p, rfl, S.hc, S.hb, by have := S.len; omega, ca, p0, p1, per, fun r j H6 j0 jp hc hr0 eR s6 => ?_⟩
          refine ⟨line100 (by show 2 ≤ 1000; decide), fun tp htp => ?_⟩
          have nrt : r ≠ tp := ne_of_none eR htp
          have s7 : Same H5 (upd H6 tp (.tup [.non, .ref r])) := same_up s6 htp
          have ca2 : ∀ i, czOf cn cx (it (czOf cn cx) i (it (czOf cn cx) cn.length v)) ≠ none := fun i => by
            rw [← it_add]
            exact ca _
          have ebb : bb (chX cn cx (it (czOf cn cx) cn.length v) j).reverse = (chain (czOf cn cx) (it (czOf cn cx) cn.length v) j).reverse := by
            unfold bb
            rw [List.map_reverse]
            exact congrArg List.reverse (chX_bb j fun i _ => ca2 i)
          have hring : Ring E0 (bb (chX cn cx (it (czOf cn cx) cn.length v) j).reverse) := by
            rw [ebb]
            exact ring_of si j0 (fun i _ => ca2 i) hc
          refine qB tp r nm _ _ hN (hE0 ▸ hring) ?_ (s5.free hr0) upd_same (Eq.trans (upd_ne nrt) eR) (fun y hy => ?_) (s5.trans s7)
          · rw [List.length_reverse, chX_len]
            have := S.len
            omega
          · obtain ⟨i, _, rfl⟩ := List.mem_map.mp (List.mem_reverse.mp hy)
            exact (S.hb _ (czOf_ne (ca2 i))).same s7
end
end K29

/-! Rules that the layer lacks: a + b by an own __add__ where b is a tuple, len by an own __len__, C(*y) and C() by a positional promise, enumerate of a tuple. -/
namespace K29
open PySem PySem.Spec PyProof.Rows L2

/-! ### a + t, a an instance with its own __add__, t a tuple -/
theorem add_own {P : Program} {w : World} {A : Around} {E : Value → Shared → Prop} {s : Shared} {K : PySem.W.Frag} {x C L f : Addr} {g : Heap} {m : Str → Option Value} {ox : Obj} {od : Option Obj} {b : Value} {Q : Value → Shared → Prop}
    (hF : Fr g L s.heap m) (X0 : K.In g) (I : PySem.W.InstAt s.heap x ox C od) (hb : PySem.W.Looks (model P w) s.heap (typeOf b) (.type "tuple")) (hc : PySem.W.selfFirst K C = true)
    (hs : PySem.W.findIn K (.ref C) "__add__" = some (some (.ref f))) (hf : PySem.W.isFn K (.ref f) = true)
    (h : wpAny (model P w) A (call (.ref f) [.ref x, b]) (PySem.W.CmpBack Q) E s) : wpAny (model P w) A (binaryOp .Add (.ref x) b) Q E s := by
  have X := X0.keeps hF.keep
  obtain ⟨cd, hcd, hm⟩ := PySem.W.any_some hc
  obtain ⟨rest, hm⟩ : ∃ rest, cd.mro = .ref C :: rest := by
    cases q : cd.mro with
    | nil => rw [q] at hm; cases hm
    | cons a r =>
      rw [q] at hm
      refine ⟨r, ?_⟩
      rw [List.head?_cons] at hm
      cases beq_iff_eq.mp hm
      rfl
  unfold binaryOp
  refine wpAny_holding (wpAny_bind ?_)
  unfold binaryOp1
  refine wpAny_bind (I.type.here (wpAny_bind (hb.here (wpAny_bind ((PySem.W.fills_K (nm := "add") X hcd hm hs).here ?_)))))
  rw [show (Value.ref C == Value.type "tuple") = false from rfl]
  simp only [Bool.false_eq_true, if_false]
  rw [noFill_tuple_add]
  refine wpAny_bind (wpAny_pure ?_)
  simp only [Bool.and_false, Bool.false_eq_true, if_false, Bool.false_and, if_true]
  refine wpAny_bind (wpAny_pure ?_)
  simp only [Bool.false_eq_true, if_false]
  refine wpAny_bind (m := tryMethod (.ref x) _ b) ?_
  unfold tryMethod
  refine wpAny_bind (PySem.W.special_fn X I hs (beq_iff_eq.mp hf) (wpAny_mono h (fun v s' hv => ?_) fun _ _ e => e))
  cases v <;> first | exact hv.elim | exact wpAny_pure (wpAny_pure (wpAny_pure hv))
/-- a special method of the class -/
structure Own1 (K : PySem.W.Frag) (C f : Addr) (nm : Str) : Prop where
  at_ : PySem.W.findIn K (.ref C) nm = some (some (.ref f))
  fn : PySem.W.isFn K (.ref f) = true
def rAddOwn (C : Addr) (sp : Sp) (E : XK) : R2 := fun x y H Q => ∃ a dx fs t ys, x = .ref a ∧ y = .ref t ∧ H a = some (.ins C dx fs) ∧ H t = some (.tup ys) ∧ sp [.ref a, .ref t] H (fun v H' => (∃ r, v = .ref r) ∧ Q v H') E
section
variable {X : Cx} {CX : CXT} {k : Nat} {f C : Addr} {fd : FuncData} {ps : List Str} {sp : Sp} {E : XK}
theorem op_addOwn (hc : PySem.W.selfFirst X.K C = true) (o : Own1 X.K C f "__add__") (F : FnOk X.prog X.w X.K X.mg X.base CX k f fd ps sp) (hr : Room k X.A) (hb : Binds X.K fd ps []) (hx : Passes CX X E) : OpR X (binaryOp .Add) (rAddOwn C sp E) := by
  rintro pins s σ H x y u v Q I rx ry ⟨a, dx, fs, t, ys, rfl, rfl, ha, ht, q⟩
  obtain rfl : u = Value.ref a := rx
  obtain rfl : v = Value.ref t := ry
  obtain ⟨mA, O, _⟩ := ins_get I.hok ha
  obtain ⟨od, J, _⟩ := O.look
  obtain ⟨m, hF⟩ := I.fr
  obtain ⟨_, _, _, ot, h1, h2, _⟩ := (show ObjOk X.prog X.w H s.heap t (.tup ys) from I.hok t _ ht)
  refine add_own hF I.ok.mod.kin J (h2 ▸ (PySem.W.Looks.ld h1).andThen .now) hc o.at_ o.fn ?_
  refine thn (run_fn (us := [.ref a, .ref t]) (vs := [.ref a, .ref t]) F hr hb .nil hx I (.cons rfl (.cons rfl .nil)) q) fun z s' ⟨v, H', I', r, ⟨b, eb⟩, q'⟩ => ?_
  subst eb
  obtain rfl : z = Value.ref b := r
  exact ⟨.ref b, H', I', rfl, q'⟩
/-! ### len(a), a an instance with its own __len__ -/
def rLenOwn (C : Addr) (sp : Sp) (E : XK) : List V → Hp → VK → Prop := fun xs H Q => ∃ a dx fs, xs = [.ref a] ∧ H a = some (.ins C dx fs) ∧ sp [.ref a] H (fun v H' => ∃ n : Int, v = .int n ∧ 0 ≤ n ∧ n < 2 ^ 63 ∧ Q (.int n) H') E
theorem call_lenOwn (o : Own1 X.K C f "__len__") (F : FnOk X.prog X.w X.K X.mg X.base CX k f fd ps sp) (hr : Room (k + 1) X.A) (hb : Binds X.K fd ps []) (hx : Passes CX X E) : CallR X (.builtin "len") (rLenOwn C sp E) := by
  rintro pins s σ H xs us Q I r ⟨a, dx, fs, rfl, ha, q⟩
  obtain ⟨u, rfl, ru⟩ := vals1 r
  obtain rfl : u = Value.ref a := ru
  obtain ⟨mA, O, _⟩ := ins_get I.hok ha
  obtain ⟨od, J, _⟩ := O.look
  obtain ⟨m, hF⟩ := I.fr
  refine PySem.W.len_K hF I.ok.mod.kin J o.at_ o.fn ?_
  have r2 : Vals [V.ref a] [Value.ref a] := .cons rfl .nil
  have hl := F.len _ _ _ _ q
  have hbt := hb s [.ref a] I.kIn (by simpa using hl)
  refine wpAny_call (codeAny_mono (F.run X.A.in1 X.stack s H ⟨[.ref a], []⟩ [.ref a] [.ref a] _ E hr.in1 I.env0.in1 (by simpa using hbt) r2 q) fun r s' hq => ?_)
  cases r with
  | error e => exact hx pins σ H s e s' I hq
  | ok fl =>
    cases fl with
    | ret z =>
      obtain ⟨v, H', I', rz, n, ev, n0, n1, q'⟩ := I.after hq
      subst ev
      obtain ⟨tk, rfl⟩ := rz
      exact ⟨⟨n0, n1⟩, .int n, H', I'.tok _, ⟨_, rfl⟩, q'⟩
    | next => exact False.elim hq
    | brk => exact False.elim hq
    | cont => exact False.elim hq
/-! ### C(*y), C() by a positional promise -/
theorem pe_makeS1 {x : Str} {e : Expr} {te : TE} {p sp_ pos : Pos} (M : Mk X.K C f) (F : FnR X.prog X.w X.K X.mg X.base CX k f sp) (hr : Room (k + 1) X.A) (hg : Gl X x) (hm : X.mg x = some (.ref C)) (hx : Passes CX X E) (he : PE X e te) (hdb : (x == ("__debug__" : Str)) = false := by decide)
    (hst : starEach [.Starred e sp_] X.env = [(true, eval e X.env)] := by rfl) :
    PE X (.Call (.Name x p) [.Starred e sp_] [] pos) (fun σ H Q => te σ H fun y H1 => ∃ a xs, y = V.ref a ∧ (SqT X.K H1 a xs ∨ SqL X.K H1 a xs) ∧ ∀ z dz, H1 z = Option.none → H1 dz = Option.none → dz ≠ z →
      sp (V.ref z :: xs) (upd (upd H1 dz (.own z)) z (.ins C dz [])) (fun v H2 => v = .non ∧ Q (.ref z) H2) E) := by
  refine ⟨fun pins s σ H Q I h => wpAny_Call_Name_kw (ld_glob I hg hm ?_ hdb)⟩
  refine PySem.W.callWith_S (h₀ := X.base) I.ok.mod.kin M.kp (thn (he.run pins s σ H _ I h) fun v s1 ⟨y, H1, I1, ry, a, xs, ey, hxs, q⟩ => ?_) hst
  subst ey
  obtain rfl : v = Value.ref a := ry
  exact StX.star_any I1 hxs fun us s2 I2 rv => ⟨I2.kIn, StX.run_makeR M F hr hx I2 rv q⟩
theorem pe_makeR0 {x : Str} {p pos : Pos} (M : Mk X.K C f) (F : FnR X.prog X.w X.K X.mg X.base CX k f sp) (hr : Room (k + 1) X.A) (hg : Gl X x) (hm : X.mg x = some (.ref C)) (hx : Passes CX X E) (hdb : (x == ("__debug__" : Str)) = false := by decide) :
    PE X (.Call (.Name x p) [] [] pos) (StX.tMakeR C sp E tNil) :=
  ⟨fun pins s σ H Q I h => wpAny_Call_Name_kw (ld_glob I hg hm (PySem.W.callWith_K0 I.kIn M.kp (StX.run_makeR (us := []) M F hr hx I .nil h)) hdb)⟩
end
/-! ### enumerate of a tuple -/
theorem meets_enumT {v : Value} {o : Obj} {H : Heap → Prop} (B : Begins v o H) :
    Meets (Builtin.«enumerate.__new__» ⟨[.type "enumerate", v], []⟩) (fun _ R s => H s.heap ∧
      R (.ok (.ret (.ref (s.heap.push o).objs.size))) { s with heap := (s.heap.push o).push { cls := .type "enumerate", data := .fields #[.none, .bool false, .ref s.heap.objs.size, rawInt 0, .none, .none] } }) :=
  .of_wp fun prog w A R s h => by
    obtain ⟨hp, gn, dr, tk, os⟩ := s
    obtain ⟨h1, h⟩ := h
    have hsub := sub_enumerate
    have q1 : ∀ {A' : Around} {E : Value → Shared → Prop} {Q : Value → Shared → Prop}, Q (.ref hp.objs.size) ⟨hp.push o, gn, dr, tk, os⟩ → wpAny (model prog w) A' (pyIter v) Q E ⟨hp, gn, dr, tk, os⟩ :=
      fun q => B.iter prog w _ _ ⟨hp, gn, dr, tk, os⟩ _ h1 q
    wp_walk using q1
    refine wpAny_stack_any fun st => wpAny_pure ?_
    split
    · rename_i c _ _ _ _ _
      cases (c == Value.type "enumerate") <;> (wp_walk using q1; exact ⟨_, rfl, h⟩)
    · wp_walk using q1
      exact ⟨_, rfl, h⟩
theorem call_enumT {P : Program} {w : World} {A : Around} {E : Value → Shared → Prop} {s : Shared} {t : Addr} {items : Array Value} {Q : Value → Shared → Prop} (ht : s.heap.IsTuple t items)
    (h : ∀ h', IsEnum h' (s.heap.objs.size + 1) s.heap.objs.size 0 .none → h'.IsTupleIter s.heap.objs.size t 0 → (∀ b o, s.heap.get? b = some o → h'.get? b = some o) → Q (.ref (s.heap.objs.size + 1)) { s with heap := h' }) :
    wpAny (model P w) A (call (.type "enumerate") [.ref t]) Q E s := by
  have hz : (s.heap.push { cls := .type "tuple_iterator", data := .fields #[.ref t, .int 0 0] }).objs.size = s.heap.objs.size + 1 := Heap.size_push _ _
  refine callType_new F.called_enumerate (by decide) (F.typeCall_enumerate_1 _) (F.newCall_enumerate_1 _) (fun obj => F.args_object_init_2 obj _) F.entry_enumerate_new (meets_enumT (begins_tuple t items)) ⟨ht, ?_⟩
  show _ ∧ _
  rw [hz]
  have kp : ∀ b o, s.heap.get? b = some o → ((s.heap.push { cls := .type "tuple_iterator", data := .fields #[.ref t, .int 0 0] }).push { cls := .type "enumerate", data := .fields #[.none, .bool false, .ref s.heap.objs.size, rawInt 0, .none, .none] }).get? b = some o :=
    fun b o e => Heap.get?_push_of_some _ (Heap.get?_push_of_some _ e)
  have he : IsEnum ((s.heap.push { cls := .type "tuple_iterator", data := .fields #[.ref t, .int 0 0] }).push { cls := .type "enumerate", data := .fields #[.none, .bool false, .ref s.heap.objs.size, rawInt 0, .none, .none] }) (s.heap.objs.size + 1) s.heap.objs.size 0 .none := by
    have z := Heap.get?_push_size (s.heap.push { cls := .type "tuple_iterator", data := .fields #[.ref t, .int 0 0] }) (o := { cls := .type "enumerate", data := .fields #[.none, .bool false, .ref s.heap.objs.size, rawInt 0, .none, .none] }) rfl
    rw [hz] at z
    exact z
  exact ⟨⟨_, he, rfl⟩, h _ he ⟨_, Heap.get?_push_of_some _ (Heap.get?_push_size _ rfl), rfl, rfl⟩ kp⟩
/-- the tuple at a, each item in a new pair behind its place -/
def Itet (K : PySem.W.Frag) (a : Addr) : It where
  go := fun i H => ∃ xs x, SqT K H a xs ∧ xs[i]? = some x
  yld := fun i H v H' => ∃ T x, v = .ref T ∧ H T = none ∧ H' = upd H T (.tup [.int (i : Nat), x]) ∧ ∀ xs, SqT K H a xs → xs[i]? = some x
  stop := fun i H => ∃ xs, SqT K H a xs ∧ xs.length ≤ i
theorem turn_enumT {P : Program} {w : World} {K : PySem.W.Frag} {elts : List Expr} {kk : Nat} {tpos : Pos} (a e it : Addr) :
    Turn P w K (.Tuple elts kk tpos) (Itet K a) [e, it] e (fun i h => (∃ old, IsEnum h e it ((i : Nat) : Int) old) ∧ h.IsTupleIter it a i ∧ e ≠ it ∧ e ≠ a ∧ a ≠ it) where
  mem := List.mem_cons_self
  obj := by
    rintro i h ⟨⟨old, he⟩, ⟨o, ho, hc, hd⟩, _⟩ b hb
    rcases List.mem_cons.mp hb with z | z
    · rw [z]
      exact ⟨_, he, fun v q => nomatch q⟩
    · exact ⟨o, by rw [List.mem_singleton.mp z]; exact ho, fun v q => by rw [hd] at q; cases q⟩
  keep := by
    rintro i h h' ⟨⟨old, he⟩, hi, hne⟩ k
    exact ⟨⟨old, k e List.mem_cons_self _ he⟩, hi.at fun o q => k it (List.mem_cons_of_mem _ List.mem_cons_self) o q, hne⟩
  item := by
    rintro X rfl rfl rfl hc i pins s σ H E I hf ⟨⟨old, he⟩, hit, ne1, ne2, ne3⟩ ⟨xs, x, hq, hx⟩
    obtain ⟨its, rv, p, hz⟩ := I.tuple hq
    obtain ⟨u, hu, ru⟩ := rv.get hx
    have ht : s.heap.IsTuple a its.toArray := p
    have hel : e < s.heap.objs.size := Heap.lt_size he
    have hil : it < s.heap.objs.size := let ⟨_, q, _⟩ := hit; Heap.lt_size q
    have D := Draws.tuple (prog := X.prog) (w := X.w) (A := X.A.in1) (I.ok.hd hc) it a ne3 its.toArray
    have hlt : i < its.toArray.size := by
      rw [List.size_toArray]
      exact (List.getElem?_eq_some_iff.mp hu).1
    refine wpAny_pyNext_enum_itemC D he ⟨hit, ht⟩ hlt ne1 (by simp [ne1, ne2]) fun y h' tk hP ho hs' hT hsz hk => ?_
    have ey : y = u := by
      have hP : its.toArray[i]? = some y := hP
      rw [List.getElem?_toArray, hu] at hP
      exact (Option.some.inj hP).symm
    subst ey
    refine ⟨_, rfl, wpAny_letOwnedTupleGo_enum (s := { s with heap := h', toks := tk + 1 }) ho fun h2 he2 sb => ?_⟩
    have hT2 : h2.get? s.heap.objs.size = some { cls := .type "tuple", data := .seq #[.int i tk, y] } := (sb.2 _ (Nat.ne_of_gt hel)).trans hT
    have new : ObjOk X.prog X.w (upd H s.heap.objs.size (.tup [.int (i : Nat), x])) h2 s.heap.objs.size (.tup [.int (i : Nat), x]) :=
      ⟨line100 (by show 2 ≤ 1000; decide), [.int i tk, y], .cons ⟨_, rfl⟩ (.cons ru .nil), ⟨_, hT2, rfl, _, rfl⟩⟩
    have I1 : Inv X pins σ (upd H s.heap.objs.size (.tup [.int (i : Nat), x])) { s with heap := h2, toks := tk + 1 } :=
      I.turnedNew (ch := [e, it]) (fun b ob hb q => by
        have b1 : b ≠ e := fun z => hb (by simp [z])
        have b2 : b ≠ it := fun z => hb (by simp [z])
        exact (sb.2 b b1).trans (hk b ob b1 b2 q)) hf (Nat.le_refl _) new
    refine ⟨.ref s.heap.objs.size, _, I1, rfl, ⟨_, x, rfl, I.hok.fresh (Nat.le_refl _), rfl, fun zs hzs => ?_⟩, ⟨⟨y, ?_⟩, hs'.1.at fun o q => (sb.2 it ne1.symm).trans q, ne1, ne2, ne3⟩, fun b hb => ?_⟩
    · rw [I.tuple_inj hzs hq]
      exact hx
    · rw [show ((i + 1 : Nat) : Int) = (i : Int) + 1 by omega]
      exact he2
    · have hlt2 : b < s.heap.objs.size := by
        rcases List.mem_cons.mp hb with z | z
        · rw [z]; exact hel
        · rw [List.mem_singleton.mp z]; exact hil
      rw [upd_ne (Nat.ne_of_lt hlt2)]
      exact (hf b hb).1
  done := by
    rintro X rfl rfl rfl hc i pins s σ H E I hf ⟨⟨old, he⟩, hit, ne1, ne2, ne3⟩ ⟨xs, hq, hx⟩
    obtain ⟨its, rv, p, hz⟩ := I.tuple hq
    have ht : s.heap.IsTuple a its.toArray := p
    obtain ⟨f0, f1, f2, f3, f4, f5⟩ := hf it (List.mem_cons_of_mem _ List.mem_cons_self)
    have hl := rv.length
    have D : Draws X.prog X.w X.A.in1 it [it, a] i (fun _ _ => True) (fun j h => j = i ∧ h.IsTupleIter it a i ∧ h.IsTuple a its.toArray) :=
      ⟨fun _ _ st => let ⟨o, ho, _⟩ := st.2.1; ⟨o, ho⟩, fun _ _ _ st hk => ⟨st.1, st.2.1.at fun o q => hk it (by simp) o q, st.2.2.at fun o q => hk a (by simp) o q⟩, fun j s Q E hj st hQ => absurd st.1 (Nat.ne_of_lt hj),
        fun s Q E st hE => wpAny_nextOf_tuple_end (I.ok.hd hc) st.2.1 st.2.2 (by simp; omega) hE⟩
    exact wpAny_pyNext_enum_endD D he ⟨rfl, hit, ht⟩ fun h' hx => ⟨rfl, I.turned (t' := s.toks) (fun b o hb q => hx b o hb q) f0 f1 f3 f4 f5⟩
  self := by
    rintro A i s Q E ⟨⟨_, he⟩, _⟩ h
    exact wpAny_pyIter_enum he h
def iEnumT (K : PySem.W.Frag) (ta : TA) : TI := fun σ H R => ta σ H fun vs H1 => ∃ a xs, vs = [.ref a] ∧ SqT K H1 a xs ∧ R (Itet K a) H1
theorem pi_enumT {X : Cx} {e : Expr} {ta : TA} {p pos tpos : Pos} {elts : List Expr} {kk : Nat} (hg : Gl X "enumerate") (hm : X.mg "enumerate" = none) (ha : PA X [e] ta) (hs : starEach [e] X.env = [(false, eval e X.env)] := by rfl) :
    PI X (.Tuple elts kk tpos) (.Call (.Name "enumerate" p) [e] [] pos) (iEnumT X.K ta) := by
  refine ⟨fun pins s σ H R I h => Call_ (ld_blt I hg hm boot_enumerate (PyProof.Rows.callWith_type1 (thn (ha.run pos pins s σ H _ I h) fun us s1 ⟨vs, H1, I1, r1, a, xs, ex, hq, q⟩ => ?_) hs rfl))⟩
  subst ex
  cases r1 with
  | cons r rr =>
    cases rr
    cases r
    obtain ⟨its, rv, p', hz⟩ := I1.tuple hq
    have hal : a < s1.heap.objs.size := p'.lt
    refine call_enumT (show s1.heap.IsTuple a its.toArray from p') fun h' he hit hk => wpAny_pyIter_enum he ?_
    have I2 : Inv X pins σ H1 { s1 with heap := h' } := I1.kept (t' := s1.toks) hk
    refine ⟨s1.heap.objs.size + 1, [s1.heap.objs.size + 1, s1.heap.objs.size], _, _, H1, rfl, I2, turn_enumT a _ _, ⟨⟨.none, he⟩, hit, Nat.succ_ne_self _, Nat.ne_of_gt (Nat.lt_succ_of_lt hal), Nat.ne_of_lt hal⟩, fun b hb => ?_, q⟩
    have hle : s1.heap.objs.size ≤ b := by
      rcases List.mem_cons.mp hb with z | z
      · rw [z]; exact Nat.le_succ _
      · rw [List.mem_singleton.mp z]; exact Nat.le_refl _
    exact I1.fpOk hle (I1.hok.fresh hle)
theorem walk_enumT {K : PySem.W.Frag} {a : Addr} {xs : List V} : Walk (Itet K a) xs.length (fun H => SqT K H a xs) (YPair (fun i => some (.int (i : Nat))) (fun i => xs[i]?)) := by
  refine ⟨fun i _ hi q => ⟨xs, xs[i], q, by simp [hi]⟩, fun _ q => ⟨xs, q, Nat.le_refl _⟩, fun i H v H' _ q y => ?_⟩
  obtain ⟨T, x, h1, h2, h3, h4⟩ := y
  exact ⟨T, .int (i : Nat), x, h1, h2, h3, rfl, h4 xs q⟩
end K29

/-! the class Bounds -/
namespace K29
open PySem PySem.Spec PyProof.Rows L2
def bf (t : Addr) : List (Str × V) := putF "bounds" (.ref t) []
theorem bf_get (t : Addr) : (bf t).lookup ("bounds" : Str) = some (.ref t) := by
  unfold bf
  rw [lookup_putF, if_pos rfl]
theorem bf_no (t : Addr) {m : Str} (h : ¬ m = "bounds") : (bf t).lookup m = none := by
  unfold bf
  rw [lookup_putF, if_neg h]
  all_goals rfl
/-- a system at x, its bounds -/
def Sys (C : Addr) (H : Hp) (x : Addr) (xs : List (Addr × Bn)) : Prop := (∃ dx t, H x = some (.ins C dx (bf t)) ∧ H t = some (.tup (rf xs))) ∧ Bs H xs ∧ (∀ y, y ∈ xs → GB y.2) ∧ xs.length ≤ 100
theorem Sys.same {C : Addr} {H H' : Hp} {x : Addr} {xs : List (Addr × Bn)} (S : Sys C H x xs) (s : Same H H') : Sys C H' x xs := by
  obtain ⟨⟨dx, t, h1, h2⟩, b, g, l⟩ := S
  exact ⟨⟨dx, t, s _ _ h1, s _ _ h2⟩, b.same s, g, l⟩
structure Txt (K : PySem.W.Frag) (mg : Str → Option Value) (C : Addr) : Prop where
  cl : Cls K C
  nB : NoAttr K C "bounds"
  mgC : mg "Bounds" = some (.ref C)
section
variable {P : Program} {w : World} {K : PySem.W.Frag} {mg : Str → Option Value} {base : Heap}
theorem scInit : FnScope ["self", "bounds", "index", "bound"] ["self", "bounds"] (defScope sInit) := ⟨rfl, rfl, rfl, by decide +kernel, rfl, by decide +kernel, by decide +kernel⟩
def spInit (C : Addr) : Sp := fun vs H Q _ => ∃ (x t dx : Addr) (xs : List (Addr × Bn)), vs = [.ref x, .ref t] ∧ H x = some (.ins C dx []) ∧ H t = some (.tup (rf xs)) ∧ Bs H xs ∧ (∀ y, y ∈ xs → GB y.2) ∧ xs.length ≤ 100 ∧
  ∀ H', H' x = some (.ins C dx (bf t)) → But x H H' → Q .non H'
def spInitR (C : Addr) : Sp := fun vs H Q E => ∃ ws rest, vs = ws ++ rest ∧ ws.length = ["self"].length ∧ rest.length ≤ sizeLine ∧ ∀ p, H p = none → spInit C (ws ++ [V.ref p]) (upd H p (.tup rest)) Q E
theorem ok_init {f f1 C : Addr} {fd fd1 : FuncData} (F : Fun K "__init__" "Bounds.__init__" sInit f fd) (T : Txt K mg C) (IB : Df P w K mg base 2 "is_bound" ["thing"] spIsBound f1 fd1) (ze : mg "enumerate" = none) : FnR P w K mg base CX0 3 f (spInitR C) := by
  obtain ⟨oc, od, kV, doc, pm, an, cdv, ct, osl, rfl, lk, hcd⟩ := F.ex
  refine StX.fn_star (ps := ["self"]) (pv := "bounds") (k := 2) (sp := spInit C) lk hcd scInit StX.cxUp_none (StX.bind_star1 (B := fun vs => bindArgs (PySem.W.fnOf "__init__" "Bounds.__init__" (defArgs sInit) (defBody sInit) (defScope sInit) .none kV doc pm an cdv ct) ⟨vs, []⟩) (p1 := "self") (pv := "bounds") (fun a => rfl) (fun a r rs => rfl)) fun A outer s H vs Q E hr h => ?_
  obtain ⟨x, t, dx, xs, rfl, hx, ht, hb, hg, hl, q⟩ := h
  refine ⟨_, PSs.nox (pss_cons (ps_for PassesOwn.never rfl (pi_enumT (by rfl) ze (pa_cons (pv 1) pa_nil)) (pg_tup rfl (pgs_cons (pg_name (i := 2) scInit.nd rfl (Or.inl rfl)) (pgs_cons (pg_name (i := 3) scInit.nd rfl (Or.inl rfl)) pgs_nil)))
      (pss_one (ps_if (pt_not (pt_val (pe_call IB.ok hr (by rfl) IB.gl IB.kp IB.bi .nil pass0 (pa_cons (pv 3) pa_nil)))) pss_never pss_nil)))
    (pss_one (ps_fld (pv 0) (pv 1) rfl))), ?_⟩
  refine ⟨_, rfl, t, _, rfl, SqT.of ht, ?_⟩
  refine for_it (walk_enumT (xs := rf xs)) (fun i σ H' => ∃ x2 x3 : Option V, σ = [some (.ref x), some (.ref t), x2, x3] ∧ Same H H') ⟨none, none, rfl, Same.refl H⟩ ?_ ?_ ?_
  · rintro i σ H1 _ ⟨_, _, _, sm⟩
    exact SqT.of (sm _ _ ht)
  · rintro i y σ H1 H2 hi ⟨x2, x3, rfl, sm⟩ ⟨T2, i1, y1, rfl, hT, rfl, e1, e2⟩
    cases e1
    obtain ⟨z, hz, rfl⟩ := rf_get e2
    have hm := List.mem_of_getElem? hz
    have s2 : Same H (upd H1 T2 (.tup [.int (i : Nat), .ref z.1])) := same_up sm hT
    refine ⟨T2, _, rfl, SqT.of upd_same, rfl, _, _, rfl, _, _, rfl, rfl, ?_⟩
    refine ⟨_, rfl, z, rfl, (hb z hm).same s2, hg z hm, fun H3 s3 => ⟨true, rfl, ?_⟩⟩
    refine iteF ?_
    exact ⟨_, _, rfl, s2.trans s3⟩
  · rintro σ H1 ⟨x2, x3, rfl, sm⟩
    refine ⟨_, rfl, _, rfl, x, C, dx, [], rfl, sm _ _ hx, T.cl, T.nB, (by show 0 < 1000; decide), ?_⟩
    exact q _ upd_same (But.at (But.same sm))
/-- C(..) of bounds makes a system -/
theorem made {C : Addr} {H : Hp} {xs : List (Addr × Bn)} {Q : VK} {E : XK} (hb : Bs H xs) (hg : ∀ y, y ∈ xs → GB y.2) (hl : xs.length ≤ 100) (h : ∀ z H', H z = none → Sys C H' z xs → Same H H' → Q (.ref z) H') :
    ∀ z dz, H z = none → H dz = none → dz ≠ z → spInitR C (V.ref z :: rf xs) (upd (upd H dz (.own z)) z (.ins C dz [])) (fun v H2 => v = .non ∧ Q (.ref z) H2) E := fun z dz hz hdz hne => by
  have s0 : Same H (upd (upd H dz (.own z)) z (.ins C dz [])) := same_own (same_up (Same.refl H) hdz) hz
  refine ⟨[.ref z], rf xs, rfl, rfl, line100 (by rw [rf_len]; omega), fun p hp => ?_⟩
  have nzp : z ≠ p := ne_of_none upd_same hp
  have s1 := same_up (o := .tup (rf xs)) s0 hp
  refine ⟨z, p, dz, xs, rfl, Eq.trans (upd_ne nzp) upd_same, upd_same, hb.same s1, hg, hl, fun H' e b => ⟨rfl, ?_⟩⟩
  have s2 : Same H H' := fun c o e2 => b c o (ne_of_none e2 hz) (s1 c o e2)
  exact h z H' hz ⟨⟨dz, p, e, b p _ nzp.symm upd_same⟩, hb.same s2, hg, hl⟩ s2
/-! ### __len__ -/
theorem scLen : FnScope ["self"] ["self"] (defScope sLen) := ⟨rfl, rfl, rfl, by decide +kernel, rfl, by decide +kernel, by decide +kernel⟩
def spLen (C : Addr) : Sp := fun vs H Q _ => ∃ (x : Addr) (xs : List (Addr × Bn)), vs = [.ref x] ∧ Sys C H x xs ∧ Q (.int (xs.length : Nat)) H
theorem ok_len {f C : Addr} {fd : FuncData} (F : Fun K "__len__" "Bounds.__len__" sLen f fd) (T : Txt K mg C) (zl : mg "len" = none) : FnOk P w K mg base CX0 1 f fd ["self"] (spLen C) := by
  refine F.ok scLen (fun vs H Q E h => ?_) (fun cdv A outer s H vs Q E hr h => ?_)
  · obtain ⟨x, xs, rfl, _⟩ := h
    rfl
  · obtain ⟨x, xs, rfl, ⟨⟨dx, t, hx, ht⟩, _, _, _⟩, q⟩ := h
    refine ⟨_, pss_one (ps_ret (pe_callB call_len_seq (by rfl) zl PySem.boot_len (pa_cons (pe_fld (pv 0) rfl) pa_nil))), ?_⟩
    refine ⟨_, rfl, x, C, dx, _, _, rfl, hx, T.cl, T.nB, bf_get t, t, _, rfl, .inr (SqT.of ht), ?_⟩
    rw [rf_len]
    exact q
/-! ### least, ring -/
theorem scLeast : FnScope ["self"] ["self"] (defScope sLeast) := ⟨rfl, rfl, rfl, by decide +kernel, rfl, by decide +kernel, by decide +kernel⟩
theorem scRing : FnScope ["self"] ["self"] (defScope sRing) := ⟨rfl, rfl, rfl, by decide +kernel, rfl, by decide +kernel, by decide +kernel⟩
def spLeast (C : Addr) : Sp := fun vs H Q _ => ∃ (x : Addr) (xs : List (Addr × Bn)), vs = [.ref x] ∧ Sys C H x xs ∧
  (∀ (dv : Addr) (nm : List Str) (val : Str → Int) (H' : Hp), Least (bb xs) nm val → nm.length ≤ 200 → H dv = none → H' dv = some (.dK (dI nm fun n => .int (val n))) → Same H H' → Q (.ref dv) H') ∧
  (∀ (nm : List Str) (ys : List Bn) (H' : Hp), NamesOf (bb xs) nm → Ring (lowsOf nm ++ bb xs) ys → Same H H' → Q .non H')
def spRing (C : Addr) : Sp := fun vs H Q _ => ∃ (x : Addr) (xs : List (Addr × Bn)), vs = [.ref x] ∧ Sys C H x xs ∧
  (∀ (nm : List Str) (val : Str → Int) (H' : Hp), Least (bb xs) nm val → Same H H' → Q .non H') ∧
  (∀ (r : Addr) (nm : List Str) (ys : List (Addr × Bn)) (H' : Hp), NamesOf (bb xs) nm → Ring (lowsOf nm ++ bb xs) (bb ys) → ys.length ≤ 300 → H r = none → H' r = some (.lst (rf ys)) → Bs H' ys → Same H H' → Q (.ref r) H')
theorem ok_least {f f1 C : Addr} {fd fd1 : FuncData} (F : Fun K "least" "Bounds.least" sLeast f fd) (T : Txt K mg C) (SB : Df P w K mg base 2 "solve_bounds" ["bounds"] spSolve f1 fd1) : FnOk P w K mg base CX0 3 f fd ["self"] (spLeast C) := by
  refine F.ok scLeast (fun vs H Q E h => ?_) (fun cdv A outer s H vs Q E hr h => ?_)
  · obtain ⟨x, xs, rfl, _⟩ := h
    rfl
  · obtain ⟨x, xs, rfl, ⟨⟨dx, t, hx, ht⟩, hb, hg, hl⟩, qA, qB⟩ := h
    refine ⟨_, pss_one (ps_ret (pe_ix ix_tup (pe_call SB.ok hr (by rfl) SB.gl SB.kp SB.bi .nil pass0 (pa_cons (pe_fld (pv 0) rfl) pa_nil)) pe_int (fun _ _ => rfl))), ?_⟩
    refine ⟨_, rfl, x, C, dx, _, _, rfl, hx, T.cl, T.nB, bf_get t, t, xs, rfl, ht, hb, hg, hl, fun tp dv nm val H' hL hn h0 etp edv sm => ?_, fun tp r nm ys H' hN hR hn h0 etp er eb sm => ?_⟩
    · exact ⟨tp, _, 0, .ref dv, rfl, rfl, SqT.of etp, atI_nat (j := 0) rfl, qA dv nm val H' hL hn h0 edv sm⟩
    · exact ⟨tp, _, 0, .non, rfl, rfl, SqT.of etp, atI_nat (j := 0) rfl, qB nm (bb ys) H' hN hR sm⟩
theorem ok_ring {f f1 C : Addr} {fd fd1 : FuncData} (F : Fun K "ring" "Bounds.ring" sRing f fd) (T : Txt K mg C) (SB : Df P w K mg base 2 "solve_bounds" ["bounds"] spSolve f1 fd1) : FnOk P w K mg base CX0 3 f fd ["self"] (spRing C) := by
  refine F.ok scRing (fun vs H Q E h => ?_) (fun cdv A outer s H vs Q E hr h => ?_)
  · obtain ⟨x, xs, rfl, _⟩ := h
    rfl
  · obtain ⟨x, xs, rfl, ⟨⟨dx, t, hx, ht⟩, hb, hg, hl⟩, qA, qB⟩ := h
    refine ⟨_, pss_one (ps_ret (pe_ix ix_tup (pe_call SB.ok hr (by rfl) SB.gl SB.kp SB.bi .nil pass0 (pa_cons (pe_fld (pv 0) rfl) pa_nil)) pe_int (fun _ _ => rfl))), ?_⟩
    refine ⟨_, rfl, x, C, dx, _, _, rfl, hx, T.cl, T.nB, bf_get t, t, xs, rfl, ht, hb, hg, hl, fun tp dv nm val H' hL hn h0 etp edv sm => ?_, fun tp r nm ys H' hN hR hn h0 etp er eb sm => ?_⟩
    · exact ⟨tp, _, 1, .non, rfl, rfl, SqT.of etp, atI_nat (j := 1) rfl, qA nm val H' hL sm⟩
    · exact ⟨tp, _, 1, .ref r, rfl, rfl, SqT.of etp, atI_nat (j := 1) rfl, qB r nm ys H' hN hR hn h0 er eb sm⟩
/-! ### __add__ -/
theorem scAdd : FnScope ["self", "other", "found"] ["self", "other"] (defScope sAdd) := ⟨rfl, rfl, rfl, by decide +kernel, rfl, by decide +kernel, by decide +kernel⟩
def spAdd (C : Addr) : Sp := fun vs H Q _ => ∃ (x : Addr) (xs : List (Addr × Bn)) (y : Addr × Bn), vs = [.ref x, .ref y.1] ∧ Sys C H x xs ∧ BAt H y ∧ GB y.2 ∧ xs.length + 1 ≤ 100 ∧
  ∀ (z : Addr) (H' : Hp), Sys C H' z (xs ++ [y]) → Same H H' → Q (.ref z) H'
theorem ok_add {f f1 f2 C : Addr} {fd fd1 : FuncData} (F : Fun K "__add__" "Bounds.__add__" sAdd f fd) (T : Txt K mg C) (IB : Df P w K mg base 2 "is_bound" ["thing"] spIsBound f1 fd1) (M : Mk K C f2) (G : FnR P w K mg base CX0 3 f2 (spInitR C)) : FnOk P w K mg base CX0 5 f fd ["self", "other"] (spAdd C) := by
  refine F.ok scAdd (fun vs H Q E h => ?_) (fun cdv A outer s H vs Q E hr h => ?_)
  · obtain ⟨x, xs, y, rfl, _⟩ := h
    rfl
  · obtain ⟨x, xs, y, rfl, ⟨⟨dx, t, hx, ht⟩, hb, hg, hl⟩, hy, gy, hl2, q⟩ := h
    refine ⟨_, pss_cons (ps_if (pt_not (pt_val (pe_call IB.ok (hr.mono (by decide)) (by rfl) IB.gl IB.kp IB.bi .nil pass0 (pa_cons (pv 1) pa_nil)))) pss_never pss_nil)
      (pss_cons (ps_set (i := 2) scAdd.nd rfl (Or.inl rfl) (pe_tup (StX.pa_star (pe_fld (pv 0) rfl) (pa_cons (pv 1) pa_nil))))
      (pss_one (ps_ret (pe_makeS1 M G hr (by rfl) T.mgC pass0 (pv 2))))), ?_⟩
    refine ⟨_, rfl, y, rfl, hy, gy, fun H1 s1 => ⟨true, rfl, ?_⟩⟩
    refine iteF ?_
    refine ⟨_, rfl, x, C, dx, _, _, rfl, s1 _ _ hx, T.cl, T.nB, bf_get t, t, _, rfl, .inl (SqT.of (s1 _ _ ht)), _, rfl, line100 (by rw [List.length_append, rf_len]; show xs.length + 1 ≤ 1000; omega), fun p hp => ?_⟩
    have e : rf xs ++ [V.ref y.1] = rf (xs ++ [y]) := by
      rw [rf_app]
      rfl
    have s2 : Same H (upd H1 p (.tup (rf xs ++ [.ref y.1]))) := same_up s1 hp
    refine ⟨_, rfl, p, rf (xs ++ [y]), rfl, .inl (SqT.of (by rw [upd_same, e])), ?_⟩
    refine made ((hb.same s2).snoc (hy.same s2)) (fun z hz => ?_) (by rw [List.length_append]; exact hl2) fun z H' _ hS s3 => q z H' hS (s2.trans s3)
    rcases List.mem_append.mp hz with c | c
    · exact hg z c
    · rw [List.mem_singleton.mp c]
      exact gy
end
end K29

/-! the law -/
namespace K29
open PySem PySem.Spec PyProof.Rows L2
theorem But.keeps {p : Addr} {H0 H H' : Hp} (b : But p H H') (s : Same H0 H) (h : H0 p = none) : Same H0 H' := fun c o e => b c o (ne_of_none e h) (s c o e)
theorem merge_new : ∀ (b a : List Str) (g : Str → V), (a ++ b).Nodup → mergeK (dI a g) (dI b g) = dI (a ++ b) g
  | [], a, g, _ => by rw [List.append_nil]; rfl
  | n :: r, a, g, h => by
    have h2 : ((a ++ [n]) ++ r).Nodup := by rw [List.append_assoc]; exact h
    have no : ¬ n ∈ a := fun z => by
      have := (List.nodup_append.mp h).2.2 n z n List.mem_cons_self
      exact this rfl
    have ih := merge_new r (a ++ [n]) g h2
    show mergeK (putK (dI a g) (Sum.inr n) (g n)) (dI r g) = _
    rw [put_out no, put_self rfl, ih, List.append_assoc]
    rfl
theorem pairs_of {F : Addr → Key × V → Prop} {g : Str → V} : ∀ {as : List Addr} {ns : List Str}, as.length = ns.length → (∀ (j : Nat) (a : Addr) (n : Str), as[j]? = some a → ns[j]? = some n → F a (Sum.inr n, g n)) → Paired F as (dI ns g)
  | [], [], _, _ => .nil
  | [], _ :: _, h, _ => by cases h
  | _ :: _, [], h, _ => by cases h
  | a :: as, n :: ns, h, f => .cons (f 0 a n rfl rfl) (pairs_of (Nat.succ.inj h) fun j b m h1 h2 => f (j + 1) b m h1 h2)
theorem Ring.mono {E E' L : List Bn} (R : Ring E L) (h : ∀ b, b ∈ E → b ∈ E') : Ring E' L := ⟨R.ne, fun b hb => h b (R.mem b hb), R.lnk, R.neg⟩
/-- the ring's bounds are bounds -/
theorem ring_good {xs : List Bn} {nm : List Str} {L : List Bn} (hN : NamesOf xs nm) (R : Ring (lowsOf nm ++ xs) L) (hg : ∀ b, b ∈ xs → GB b) : ∀ b, b ∈ L → GB b := fun b hb => by
  rcases List.mem_append.mp (R.mem b hb) with z | z
  · obtain ⟨n, hn, rfl⟩ := List.mem_map.mp z
    obtain ⟨nz, d, hd, hn2⟩ := (hN.2 n).mp hn
    refine ⟨isNm_zero, ?_, fun e => nz e.symm⟩
    rcases hn2 with e | e
    · show IsNm n
      rw [e]
      exact (hg d hd).1
    · show IsNm n
      rw [e]
      exact (hg d hd).2.1
  · exact hg b z
/-- a solution and a ring cannot both be -/
theorem no_both {xs : List Bn} {nm : List Str} {L : List Bn} {s : Str → Int} (hN : NamesOf xs nm) (R : Ring (lowsOf nm ++ xs) L) (h0 : s zs = 0) (h1 : ∀ n, 0 ≤ s n) (h2 : Keeps xs s) : False := R.no (s := s) fun b hb => by
  rcases List.mem_append.mp hb with z | z
  · obtain ⟨n, hn, rfl⟩ := List.mem_map.mp z
    show s zs ≤ s n + 0
    have := h1 n
    omega
  · exact h2 b z
theorem ins_mem {α : Type} {ws : List α} {z x : α} {n : Nat} : x ∈ ws.take n ++ [z] ++ ws.drop n ↔ x ∈ ws ∨ x = z := by
  have e : x ∈ ws ↔ x ∈ ws.take n ∨ x ∈ ws.drop n := by
    rw [← List.mem_append, List.take_append_drop]
  rw [e, List.mem_append, List.mem_append, List.mem_singleton]
  constructor
  · rintro ((h | h) | h)
    · exact .inl (.inl h)
    · exact .inr h
    · exact .inl (.inr h)
  · rintro ((h | h) | h)
    · exact .inl (.inl h)
    · exact .inr h
    · exact .inl (.inr h)
section
variable {P : Program} {w : World} {K : PySem.W.Frag} {mg : Str → Option Value} {base : Heap}
theorem scLaw : FnScope ["_law_script", "_law_at", "_law_bag_here", "_law_names_here", "_law_road", "_law_values", "_law_many", "_law_bounds", "_law_rounds", "_law_bound", "_law_system", "_law_told", "_law_ring", "_law_again", "_law_greater", "_law_name_here"] ["_law_script"] (defScope sLaw) :=
  ⟨rfl, rfl, rfl, by decide +kernel, rfl, by decide +kernel, by decide +kernel⟩
def spLaw (K : PySem.W.Frag) : Sp := fun vs H Q _ => ∃ (a : Addr) (ns : List Int), vs = [.ref a] ∧ SqL K H a (ns.map V.int) ∧ ns.length ≤ 63 ∧ ∀ H', Q (.bl true) H'
theorem made_seq {C : Addr} {g : TG} {u : TS} {D : Ends} {σ : L2.St} {H : Hp} {E : XK} (h : ∀ z H', H z = none → Sys C H' z [] → Same H H' → g (.ref z) σ H' (u D)) : tSeq (tAsg (StX.tMakeR C (spInitR C) E tNil) g) u D σ H :=
  fun z dz hz hdz hne => made (xs := []) (Q := fun v H1 => g v σ H1 (u D)) Bs.nil (fun _ h => (nomatch h)) (by decide) h z dz hz hdz hne
/-- a method of the class as it is called -/
structure Mt (P : Program) (w : World) (K : PySem.W.Frag) (mg : Str → Option Value) (base : Heap) (C : Addr) (k : Nat) (x : Str) (ps : List Str) (sp : Sp) (f : Addr) (fd : FuncData) : Prop where
  ok : FnOk P w K mg base CX0 k f fd ps sp
  me : Meth K C x f
  bi : Binds K fd ps []
theorem ok_law {f fBag fDraw fOf fNum fAny fKept fRound fIR fIL fRing fI fAdd fLen fLe fRi C : Addr} {fd dBag dDraw dOf dNum dAny dKept dRound dIR dIL dRing dAdd dLen dLe dRi : FuncData}
    (F : Fun K "law" "law" sLaw f fd)
    (BG : Df P w K mg base 1 "_law_bag" ["_law_script", "_law_at"] (spBag K) fBag dBag) (D : Df P w K mg base 1 "_law_draw" ["_law_bag_here", "_law_many"] spDraw fDraw dDraw) (O : Df P w K mg base 2 "_law_of" ["_law_bag_here", "_law_some"] spOf fOf dOf)
    (NU : Df P w K mg base 4 "_law_numbers" ["_law_bag_here", "_law_many"] spNumbers fNum dNum) (AN : Df P w K mg base 3 "_law_any" ["_law_bag_here", "_law_names_here", "_law_many"] spAny fAny dAny)
    (KE : Df P w K mg base 3 "_law_kept" ["_law_bag_here", "_law_names_here", "_law_values", "_law_many"] spKept fKept dKept) (RO : Df P w K mg base 3 "_law_round" ["_law_bag_here", "_law_names_here"] spRound fRound dRound)
    (IR : Df P w K mg base 1 "_law_is_round" ["_law_bounds", "_law_told"] spIsRound fIR dIR) (IL : Df P w K mg base 2 "_law_is_least" ["_law_bounds", "_law_told"] spIsLeast fIL dIL) (RG : Df P w K mg base 3 "is_ring" ["thing"] spIsRing fRing dRing)
    (T : Txt K mg C) (sf : PySem.W.selfFirst K C = true) (M : Mk K C fI) (G : FnR P w K mg base CX0 3 fI (spInitR C)) (oA : Own1 K C fAdd "__add__") (GA : FnOk P w K mg base CX0 5 fAdd dAdd ["self", "other"] (spAdd C)) (bA : Binds K dAdd ["self", "other"] [])
    (oL : Own1 K C fLen "__len__") (GLn : FnOk P w K mg base CX0 1 fLen dLen ["self"] (spLen C)) (bLn : Binds K dLen ["self"] []) (LE : Mt P w K mg base C 3 "least" ["self"] (spLeast C) fLe dLe) (RI : Mt P w K mg base C 3 "ring" ["self"] (spRing C) fRi dRi)
    (zr : mg "range" = none) (zmx : mg "max" = none) (zmn : mg "min" = none) (zl : mg "len" = none) (zd : mg "dict" = none) : FnOk P w K mg base CX0 6 f fd ["_law_script"] (spLaw K) := by
  refine F.ok scLaw (fun vs H Q E h => ?_) (fun cdv A outer s H vs Q E hr h => ?_)
  · obtain ⟨a, ns, rfl, _⟩ := h
    rfl
  · obtain ⟨a, ns0, rfl, hS, hlen, q⟩ := h
    have hr1 : Room 1 _ := hr.mono (by decide)
    have hr2 : Room 2 _ := hr.mono (by decide)
    have hr3 : Room 3 _ := hr.mono (by decide)
    have hr4 : Room 4 _ := hr.mono (by decide)
    refine ⟨_, pss_cons (ps_for PassesOwn.never rfl (pi_range1 (by rfl) zr (pa_cons (pe_callB (call_max2 rfl) (by rfl) zmx (by decide +kernel) (pa_cons pe_int (pa_cons (pe_callB (call_min2 rfl) (by rfl) zmn (by decide +kernel)
          (pa_cons pe_int (pa_cons (pe_callB call_len_seq (by rfl) zl PySem.boot_len (pa_cons (pv 0) pa_nil)) pa_nil))) pa_nil))) pa_nil)) (pg_name (i := 1) scLaw.nd rfl (Or.inl rfl))
        (pss_cons (ps_set (i := 2) scLaw.nd rfl (Or.inr rfl) (pe_call BG.ok hr1 (by rfl) BG.gl BG.kp BG.bi .nil pass0 (pa_cons (pv 0) (pa_cons (pv 1) pa_nil))))
        (pss_cons (ps_par (i := 3) (j := 4) (by rfl) scLaw.nd rfl rfl (by decide) rfl rfl (pa_cons (pe_call NU.ok hr4 (by rfl) NU.gl NU.kp NU.bi .nil pass0 (pa_cons (pv 2) (pa_cons pe_int pa_nil)))
            (pa_cons (pe_call D.ok hr1 (by rfl) D.gl D.kp D.bi .nil pass0 (pa_cons (pv 2) (pa_cons pe_int pa_nil))) pa_nil)) (by rfl))
        (pss_cons (ps_set (i := 5) scLaw.nd rfl (Or.inr rfl) (pe_callTy (call_dictP rfl) (by rfl) zd (by decide +kernel) (pa_cons (pe_lc (own := [("_law_name_here", 15)]) (g := gName 15) (tt := tYes) rfl scLaw.nd (pi_list (pv 3))
            (blkOk_by (own := [("_law_name_here", 15)]) (N := ["_law_script", "_law_at", "_law_bag_here", "_law_names_here", "_law_road", "_law_values", "_law_many", "_law_bounds", "_law_rounds", "_law_bound", "_law_system", "_law_told", "_law_ring", "_law_again", "_law_greater", "_law_name_here"]) (sc := defScope sLaw) (by decide +kernel))
            (fun _ _ _ _ _ => pg_name (i := 15) scLaw.nd rfl (Or.inl rfl)) (fun _ _ _ _ _ => pts_nil)
            (fun _ _ _ _ _ => pe_tup (pa_cons (pv 15) (pa_cons (pe_call O.ok hr2 (by rfl) O.gl O.kp O.bi .nil pass0 (pa_cons (pv 2) (pa_cons (pe_lst (pa_cons pe_int (pa_cons pe_int (pa_cons pe_int (pa_cons pe_int
              (pa_cons (pe_call D.ok hr1 (by rfl) D.gl D.kp D.bi .nil pass0 (pa_cons (pv 2) (pa_cons (pe_op op_pow pe_int pe_int) pa_nil))) pa_nil)))))) pa_nil))) pa_nil)))) pa_nil)))
        (pss_cons (ps_dput (hu_of hr) (pv 5) pe_str pe_int rfl)
        (pss_cons (ps_set (i := 6) scLaw.nd rfl (Or.inl rfl) (pe_call O.ok hr2 (by rfl) O.gl O.kp O.bi .nil pass0 (pa_cons (pv 2) (pa_cons (pe_lst (pa_cons pe_int (pa_cons pe_int (pa_cons pe_int (pa_cons pe_int (pa_cons pe_int pa_nil)))))) pa_nil))))
        (C8.pss_cut (ps_set (i := 7) scLaw.nd rfl (Or.inl rfl) (pe_ifExp (pt_cmpR op_eq (pv 4) pe_int (nomark _)) (pe_call AN.ok hr3 (by rfl) AN.gl AN.kp AN.bi .nil pass0 (pa_cons (pv 2) (pa_cons (pv 3) (pa_cons (pv 6) pa_nil))))
            (pe_call KE.ok hr3 (by rfl) KE.gl KE.kp KE.bi .nil pass0 (pa_cons (pv 2) (pa_cons (pv 3) (pa_cons (pv 5) (pa_cons (pv 6) pa_nil)))))))
        (C8.pss_cut (ps_set (i := 8) scLaw.nd rfl (Or.inl rfl) (pe_ifExp (PW.pt (pw_and (pt_cmpR op_eq (pv 4) pe_int (nomark _)) (pw_and1 (pt_cmpR op_gt (pe_callB call_len_seq (by rfl) zl PySem.boot_len (pa_cons (pv 3) pa_nil)) pe_int (nomark _)))))
            (pe_call RO.ok hr3 (by rfl) RO.gl RO.kp RO.bi .nil pass0 (pa_cons (pv 2) (pa_cons (pv 3) pa_nil))) (pe_lst pa_nil)))
        (pss_cons (ps_for PassesOwn.never rfl (pi_list (pv 8)) (pg_name (i := 9) scLaw.nd rfl (Or.inl rfl)) (pss_one (ps_expr (pe_bm PySem.F.plainAttrs_list PySem.F.slot_list_insert PySem.F.type_list_insert mt_insert (pv 7)
            (pa_cons (pe_call D.ok hr1 (by rfl) D.gl D.kp D.bi .nil pass0 (pa_cons (pv 2) (pa_cons (pe_op op_add (pe_callB call_len_seq (by rfl) zl PySem.boot_len (pa_cons (pv 7) pa_nil)) pe_int) pa_nil))) (pa_cons (pv 9) pa_nil))))))
        (pss_cons (ps_set (i := 10) scLaw.nd rfl (Or.inl rfl) (pe_makeR0 M G hr4 (by rfl) T.mgC pass0))
        (pss_cons (ps_for PassesOwn.never rfl (pi_list (pv 7)) (pg_name (i := 9) scLaw.nd rfl (Or.inl rfl)) (pss_one (ps_set (i := 10) scLaw.nd rfl (Or.inl rfl) (pe_op (op_addOwn sf oA GA hr bA pass0) (pv 10) (pv 9)))))
        (pss_cons (ps_asg (pe_tup (pa_cons (pe_meth0 (pv 10) T.cl LE.me LE.ok hr3 LE.bi .nil pass0) (pa_cons (pe_meth0 (pv 10) T.cl RI.me RI.ok hr3 RI.bi .nil pass0) pa_nil)))
            (pg_tup rfl (pgs_cons (pg_name (i := 11) scLaw.nd rfl (Or.inr rfl)) (pgs_cons (pg_name (i := 12) scLaw.nd rfl (Or.inl rfl)) pgs_nil))))
        (pss_cons (ps_if (PW.pt (pw_or (pt_cmpR op_ne (pe_callB (call_lenOwn oL GLn hr2 bLn pass0) (by rfl) zl PySem.boot_len (pa_cons (pv 10) pa_nil)) (pe_callB call_len_seq (by rfl) zl PySem.boot_len (pa_cons (pv 7) pa_nil)) (nomark _))
            (pw_or1 (pt_cmpR op_ne (pe_cmpR op_isN (pv 11) pe_non (nomark _)) (pe_cmpR op_notN (pv 12) pe_non (nomark _)) (nomark _))))) pss_never pss_nil)
        (C8.pss_cut (ps_if (pt_cmpR op_isN (pv 11) pe_non (nomark _))
            (pss_cons (ps_if (PW.pt (pw_or (pt_cmpR op_eq (pv 4) pe_int (nomark _)) (pw_or1 (pt_not (pt_val (pe_call IR.ok hr1 (by rfl) IR.gl IR.kp IR.bi .nil pass0 (pa_cons (pv 7) (pa_cons (pv 12) pa_nil)))))))) pss_never pss_nil)
            (pss_cons (ps_expr (pe_bm PySem.F.plainAttrs_list PySem.F.slot_list_append PySem.F.type_list_append mt_append (pv 12) (pa_cons pe_str pa_nil)))
            (pss_cons (ps_set (i := 13) scLaw.nd rfl (Or.inl rfl) (pe_meth0 (pv 10) T.cl RI.me RI.ok hr3 RI.bi .nil pass0))
            (pss_one (ps_if (PW.pt (pw_or (pt_not (pt_val (pe_call IR.ok hr1 (by rfl) IR.gl IR.kp IR.bi .nil pass0 (pa_cons (pv 7) (pa_cons (pv 13) pa_nil)))))
              (pw_or (pt_not (pt_val (pe_call RG.ok hr3 (by rfl) RG.gl RG.kp RG.bi .nil pass0 (pa_cons (pv 13) pa_nil))))
              (pw_or1 (pt_cmpR op_ne (pe_ix ix_list (pv 12) (pe_un un_neg pe_int) (fun _ _ => rfl)) pe_str (nomark _)))))) pss_never pss_nil)))))
            (pss_cons (ps_if (PW.pt (pw_or (pt_cmpR (op_neD hr.units) (pv 8) (pe_lst pa_nil) (nomark _)) (pw_or1 (pt_not (pt_val (pe_call IL.ok hr2 (by rfl) IL.gl IL.kp IL.bi .nil pass0 (pa_cons (pv 7) (pa_cons (pv 11) pa_nil)))))))) pss_never pss_nil)
            (pss_cons (ps_lock (ps_setLc (i := 14) (own := [("_law_name_here", 15)]) (g := gName 15) (by rfl) scLaw.nd rfl rfl (sw_true rfl rfl rfl (by decide +kernel)) (pi_keys (pv 11))
              (blkOk_by (own := [("_law_name_here", 15)]) (N := ["_law_script", "_law_at", "_law_bag_here", "_law_names_here", "_law_road", "_law_values", "_law_many", "_law_bounds", "_law_rounds", "_law_bound", "_law_system", "_law_told", "_law_ring", "_law_again", "_law_greater", "_law_name_here"]) (sc := defScope sLaw) (by decide +kernel))
              (fun _ _ _ _ _ => pg_name (i := 15) scLaw.nd rfl (Or.inl rfl)) (fun _ _ _ _ _ => pts_one (pt_cmpR op_gt (pe_dget (hu_of hr) (pv 11) (pv 15) (fun _ _ => rfl)) (pe_dget (hu_of hr) (pv 5) (pv 15) (fun _ _ => rfl)) (nomark _))) (fun _ _ _ _ _ => pv 15)))
            (pss_cons (ps_if (PW.pt (pw_and (pt_cmpR op_lt (pv 4) pe_int (nomark _)) (pw_and1 (pt_cmpR (op_neD hr.units) (pv 14) (pe_lst pa_nil) (nomark _))))) pss_never pss_nil)
            (pss_one (ps_dput (hu_of hr) (pv 11) pe_str pe_int rfl))))))
        (pss_one (ps_if (PW.pt (pw_and (pt_cmpR op_notN (pe_meth0 (pv 10) T.cl LE.me LE.ok hr3 LE.bi .nil pass0) pe_non (nomark _)) (pw_and1 (pt_cmp (pc_din (hu_of hr) pe_str (pe_meth0 (pv 10) T.cl LE.me LE.ok hr3 LE.bi .nil pass0)))))) pss_never pss_nil))))))))))))))))
      (pss_one (ps_ret pe_bl)), ?_⟩
    obtain ⟨T, eT, T1, T2⟩ : ∃ T : Nat, (if (if ((ns0.map V.int).length : Int) < 2 then ((ns0.map V.int).length : Int) else 2) > 1 then (if ((ns0.map V.int).length : Int) < 2 then ((ns0.map V.int).length : Int) else 2) else 1) = (T : Int) ∧ 1 ≤ T ∧ T ≤ 2 := by
      generalize (ns0.map V.int).length = c
      by_cases z : (c : Int) < 2
      · rw [if_pos z]
        by_cases z2 : (c : Int) > 1
        · rw [if_pos z2]
          exact ⟨c, rfl, by omega, by omega⟩
        · rw [if_neg z2]
          exact ⟨1, rfl, by omega, by omega⟩
      · rw [if_neg z, if_pos (by decide)]
        exact ⟨2, rfl, by omega, by omega⟩
    refine ⟨_, rfl, a, _, rfl, .inl hS, _, _, rfl, _, _, rfl, (T : Int), congrArg (fun z => [V.int z]) eT, by omega, by omega, for_range (lo := 0) (n := ((T : Nat) : Int).toNat)
      (fun i σ H' => ∃ x1 x2 x3 x4 x5 x6 x7 x8 x9 x10 x11 x12 x13 x14 : Option V, σ = [some (.ref a), x1, x2, x3, x4, x5, x6, x7, x8, x9, x10, x11, x12, x13, x14, none] ∧ Same H H') ⟨_, _, _, _, _, _, _, _, _, _, _, _, _, _, rfl, Same.refl H⟩ ?_ ?_⟩
    · rintro i σ H0 hi ⟨x1, x2, x3, x4, x5, x6, x7, x8, x9, x10, x11, x12, x13, x14, rfl, sm0⟩
      have hi2 : i < 2 := by omega
      have hS0 : SqL K H0 a (ns0.map V.int) := sm0.seq hS
      refine ⟨_, rfl, _, rfl, a, ns0, i, congrArg (fun z => [V.ref a, V.int z]) (Int.zero_add _), hS0, by omega, fun p H1 hp0 s1 hB1 => ?_⟩
      -- names, road
      refine ⟨_, rfl, p, 13, 0, rfl, by omega, by omega, hB1, by omega, fun l ns H2 hl1 hl2 hN hz hlen14 hB2 hb2 => ?_⟩
      refine ⟨_, rfl, p, 3, 0 + 200, rfl, hB2, by omega, by omega, by decide, fun road H3 r0 r1 hB3 hb3 => ?_⟩
      refine ⟨_, _, rfl, ?_⟩
      have npl : p ≠ l := fun e => hB1.some (e ▸ hl1)
      have hl3 := hb3 l _ npl.symm hl2
      have hbA : But p H1 H3 := hb2.trans hb3
      -- values
      refine ⟨_, rfl, l, rfl, ⟨_, SqL.of hl3⟩, fun D1 hD1 => ?_⟩
      have nlD : l ≠ D1 := ne_of_none hl3 hD1
      have npD : D1 ≠ p := fun e => hB3.some (e ▸ hD1)
      refine lc_list (K := K) (a := l) (xs := ns.map V.str) (fun j H' => ∃ (val : Str → Int) (as : List Addr), H' D1 = some (.lst (as.map V.ref)) ∧ as.length = j ∧ (∀ (q : Nat) (b : Addr) (n : Str), as[q]? = some b → ns[q]? = some n → H' b = some (.tup [.str n, .int (val n)])) ∧
        (∀ n, 0 ≤ val n) ∧ Bag H' p (201 + 2 * j) ∧ But p H3 H') ⟨fun _ => 0, [], upd_same, rfl, fun q b n h => (by cases h), fun _ => Int.le_refl 0, hB3.up hD1, (But.refl H3).up hD1⟩ ?_ ?_ ?_
      · rintro j H4 _ ⟨val, as, _, _, _, _, _, hb4⟩
        exact SqL.of (hb4 l _ npl.symm hl3)
      · rintro j x H4 hx ⟨val, as, e4, l4, t4, v0, hB4, hb4⟩
        obtain ⟨n, hn, rfl⟩ : ∃ n, ns[j]? = some n ∧ x = .str n := by
          rw [List.getElem?_map] at hx
          cases e : ns[j]? with
          | none => rw [e] at hx; cases hx
          | some n => rw [e] at hx; cases hx; exact ⟨n, rfl, rfl⟩
        have hj : j < ns.length := (List.getElem?_eq_some_iff.mp hn).1
        refine ⟨rfl, ?_⟩
        refine ⟨_, rfl, _, rfl, _, rfl, _, _, rfl, rfl, ⟨by decide, by decide, by decide⟩, p, _, _, rfl, hB4, by omega, by decide, by decide, fun dr H5 d0 d1 hB5 hb5 => ?_⟩
        refine ⟨line100 (by show 5 ≤ 1000; decide), fun l5 hl5 => ?_⟩
        have n5 : p ≠ l5 := fun e => hB5.some (e ▸ hl5)
        refine ⟨p, l5, _, _, rfl, n5, hB5.up hl5, by omega, upd_same, (by show 1 ≤ 5; decide), (by show 5 ≤ 1000; decide), fun i5 v5 H6 g5 hB6 hb6 => ?_⟩
        obtain ⟨sl, s0, rfl⟩ : ∃ sl : Int, 0 ≤ sl ∧ v5 = .int sl := by
          have m5 := List.mem_of_getElem? g5
          simp only [List.mem_cons, List.not_mem_nil, or_false] at m5
          rcases m5 with e | e | e | e | e
          · exact ⟨0, by omega, e⟩
          · exact ⟨1, by omega, e⟩
          · exact ⟨2, by omega, e⟩
          · exact ⟨7, by omega, e⟩
          · exact ⟨dr, d0, e⟩
        have hbB : But p H4 H6 := (hb5.trans (But.same (same_up (Same.refl _) hl5))).trans hb6
        have e6 := hbB D1 _ npD e4
        refine ⟨line100 (by show 2 ≤ 1000; decide), fun t ht => ?_⟩
        have nDt : D1 ≠ t := ne_of_none e6 ht
        refine ⟨_, Eq.trans (upd_ne nDt) e6, small1000 (by rw [List.length_map]; omega), put val n sl, as ++ [t], ?_, by rw [List.length_append, l4]; rfl, fun q b m h1 h2 => ?_, fun m => ?_, ?_, ?_⟩
        · rw [upd_same, List.map_append]
          rfl
        · by_cases hq : q < as.length
          · rw [List.getElem?_append_left hq] at h1
            have nm : m ≠ n := fun e => by
              rw [e] at h2
              have := nodup_ix hN.1 h2 hn
              omega
            have t6 := hbB b _ (ne_of (t4 q b m h1 h2) (hB4.lst).choose_spec (fun z => nomatch z)) (t4 q b m h1 h2)
            rw [upd_ne (ne_of t6 e6 fun z => nomatch z), upd_ne (ne_of_none t6 ht), put_ne nm]
            exact t6
          · rw [List.getElem?_append_right (by omega)] at h1
            have hq2 : q = j := by
              have := (List.getElem?_eq_some_iff.mp h1).1
              rw [List.length_singleton] at this
              omega
            subst hq2
            rw [l4, Nat.sub_self] at h1
            cases h1
            rw [hn] at h2
            cases h2
            rw [upd_ne nDt.symm, upd_same, put_same]
        · by_cases e : m = n
          · rw [e, put_same]; exact s0
          · rw [put_ne e]; exact v0 m
        · exact ((hB6.up ht).at (upd_ne npD.symm)).mono (by omega)
        · exact ((hb4.trans hbB).up ht).own hD1
      · rintro H4 ⟨val, as, e4, l4, t4, v0, hB4, hb4⟩
        have l4 : as.length = ns.length := by
          rw [l4, List.length_map]
        have em : mergeK [] (dI ns fun n => .int (val n)) = dI ns fun n => .int (val n) := merge_new ns [] _ hN.1
        refine ⟨D1, as, dI ns (fun n => .int (val n)), rfl, SqL.of e4, pairs_of l4 (fun q b n h1 h2 => SqT.of (t4 q b n h1 h2)), fun vd hvd => ?_⟩
        rw [em]
        have npv : vd ≠ p := fun e => hB4.some (e ▸ hvd)
        have e5 : (upd H4 vd (.dK (dI ns fun n => .int (val n)))) vd = some (.dK (dI ns fun n => .int (val n))) := upd_same
        have hl4 := hb4 l _ npl.symm hl3
        have nlv : l ≠ vd := ne_of_none hl4 hvd
        refine ⟨_, rfl, vd, _, rfl, DPut.k (k := Sum.inr zs) e5 (small1000 (by rw [dI_len]; omega)), ?_⟩
        rw [upd_upd, put_in hz, ← put_int]
        have vz : put val zs 0 zs = 0 := put_same
        have vn : ∀ n, 0 ≤ put val zs 0 n := fun n => by
          by_cases e : n = zs
          · rw [e, put_same]; exact Int.le_refl 0
          · rw [put_ne e]; exact v0 n
        generalize put val zs 0 = val0 at vz vn
        have e6 : (upd H4 vd (.dK (dI ns fun n => .int (val0 n)))) vd = some (.dK (dI ns fun n => .int (val0 n))) := upd_same
        have hl6 : (upd H4 vd (.dK (dI ns fun n => .int (val0 n)))) l = some (.lst (ns.map V.str)) := Eq.trans (upd_ne nlv) hl4
        have hB6 : Bag (upd H4 vd (.dK (dI ns fun n => .int (val0 n)))) p 230 := (hB4.up hvd).mono (by rw [List.length_map]; omega)
        have hb6 : But p H1 (upd H4 vd (.dK (dI ns fun n => .int (val0 n)))) := (hbA.trans hb4).up hvd
        generalize upd H4 vd (.dK (dI ns fun n => .int (val0 n))) = H6 at e6 hl6 hB6 hb6
        -- many
        refine ⟨_, rfl, line100 (by show 5 ≤ 1000; decide), fun l7 hl7 => ?_⟩
        have n7 : p ≠ l7 := fun e => hB6.some (e ▸ hl7)
        refine ⟨p, l7, _, _, rfl, n7, hB6.up hl7, by omega, upd_same, (by show 1 ≤ 5; decide), (by show 5 ≤ 1000; decide), fun i7 v7 H8 g7 hB8 hb8 => ?_⟩
        obtain ⟨m, hm, rfl⟩ : ∃ m : Nat, m ≤ 34 ∧ v7 = .int (m : Int) := by
          have m7 := List.mem_of_getElem? g7
          simp only [List.mem_cons, List.not_mem_nil, or_false] at m7
          rcases m7 with e | e | e | e | e
          · exact ⟨0, by omega, e⟩
          · exact ⟨3, by omega, e⟩
          · exact ⟨8, by omega, e⟩
          · exact ⟨20, by omega, e⟩
          · exact ⟨34, by omega, e⟩
        have hbC : But p H6 H8 := (But.same (same_up (Same.refl _) hl7)).trans hb8
        have hl8 := hbC l _ npl.symm hl6
        have e8 := hbC vd _ npv e6
        have hb8' : But p H1 H8 := hb6.trans hbC
        -- the bounds
        have hr1n : ∀ {r : Addr}, H8 r = none → H1 r = none := fun h => hb8'.free hB8.some h
        refine ⟨fun σ' H' => ∃ (r : Addr) (xs : List (Addr × Bn)), σ' = [some (.ref a), some (.int (0 + (i : Int))), some (.ref p), some (.ref l), some (.int road), some (.ref vd), some (.int (m : Int)), some (.ref r), x8, x9, x10, x11, x12, x13, x14, none] ∧ H1 r = none ∧ H8 r = none ∧ H' r = some (.lst (rf xs)) ∧ Bs H' xs ∧ (∀ x, x ∈ xs → On ns x.2) ∧ xs.length ≤ 34 ∧
          (road ≠ 2 → Keeps (bb xs) val0) ∧ Bag H' p 431 ∧ But p H8 H', ?_, ?_⟩
        · refine ⟨_, rfl, rfl, _, rfl, ite2 (fun h2 => ?_) (fun h2 => ?_)⟩
          · have h2 : road = 2 := V.int.inj (of_decide_eq_true h2)
            refine ⟨_, rfl, _, rfl, _, rfl, p, l, ns, m, _, rfl, by omega, hB8, by omega, npl, hl8, hN, List.length_pos_of_mem hz, hlen14, fun r xs H9 hr0 er br on lr hB9 hb9 => ?_⟩
            exact ⟨r, xs, rfl, hr1n hr0, hr0, er, br, on, by omega, fun z => absurd h2 z, hB9.mono (by omega), hb9⟩
          · refine ⟨_, rfl, _, rfl, _, rfl, _, rfl, p, l, vd, ns, _, val0, m, _, rfl, by omega, hB8, by omega, npl, hl8, hN, List.length_pos_of_mem hz, hlen14, e8, fun n hn => dI_in hn, fun r xs H9 hr0 er br on kp lr hB9 hb9 => ?_⟩
            exact ⟨r, xs, rfl, hr1n hr0, hr0, er, br, on, by omega, fun _ => kp, hB9.mono (by omega), hb9⟩
        rintro σ' H9 ⟨r, xs, rfl, hr1, hr8, er9, bx9, onx, lx, kpx, hB9, hb9⟩
        have nrp : r ≠ p := fun e => hB8.some (e ▸ hr8)
        have hl9 := hb9 l _ npl.symm hl8
        have e9 := hb9 vd _ npv e8
        have nlr : l ≠ r := ne_of_none hl8 hr8
        have nvr : vd ≠ r := ne_of_none e8 hr8
        have hb9' := hb8'.trans hb9
        -- the rounds
        refine ⟨fun σ' H' => ∃ (q : Addr) (ys : List (Addr × Bn)), σ' = [some (.ref a), some (.int (0 + (i : Int))), some (.ref p), some (.ref l), some (.int road), some (.ref vd), some (.int (m : Int)), some (.ref r), some (.ref q), x9, x10, x11, x12, x13, x14, none] ∧ H9 q = none ∧ H' q = some (.lst (rf ys)) ∧ Bs H' ys ∧ (∀ x, x ∈ ys → On ns x.2) ∧ ys.length ≤ 6 ∧
          (ys = [] ∨ (road = 1 ∧ Ring (bb ys) (bb ys))) ∧ Bag H' p 631 ∧ But p H9 H', ?_, ?_⟩
        · refine ⟨_, rfl, rfl, _, rfl, ite2 (fun h2 => ?_) (fun h2 => ?_)⟩
          · have h2 : road = 1 := V.int.inj (of_decide_eq_true h2)
            refine ⟨_, rfl, l, _, rfl, .inl (SqL.of hl9), _, _, rfl, rfl, _, rfl, ite2 (fun h3 => ?_) (fun h3 => ?_)⟩
            · have h3 : 2 ≤ ns.length := by
                have := of_decide_eq_true h3
                rw [List.length_map] at this
                omega
              refine ⟨_, rfl, _, rfl, p, l, ns, _, rfl, hB9, by omega, npl, hl9, hN, h3, hlen14, fun q ys H10 hq0 eq bq on ring lq hB10 hb10 => ?_⟩
              exact ⟨q, ys, rfl, hq0, eq, bq, on, lq, .inr ⟨h2, ring⟩, hB10.mono (by omega), hb10⟩
            · refine ⟨Nat.zero_le _, fun q hq => ?_⟩
              exact ⟨q, [], rfl, hq, upd_same, Bs.nil, fun _ h => (nomatch h), Nat.zero_le _, .inl rfl, (hB9.up hq).mono (by omega), (But.refl _).up hq⟩
          · refine iteF ⟨Nat.zero_le _, fun q hq => ?_⟩
            exact ⟨q, [], rfl, hq, upd_same, Bs.nil, fun _ h => (nomatch h), Nat.zero_le _, .inl rfl, (hB9.up hq).mono (by omega), (But.refl _).up hq⟩
        rintro σ' H10 ⟨q, ys, rfl, hq9, eq10, by10, ony, ly, yroad, hB10, hb10⟩
        have nrq : r ≠ q := ne_of_none er9 hq9
        have npq : q ≠ p := fun e => hB9.some (e ▸ hq9)
        have nvq : vd ≠ q := ne_of_none e9 hq9
        have hb10' := hb9'.trans hb10
        have hr0 : H0 r = none := by
          cases z : H0 r with
          | none => rfl
          | some o =>
            rw [s1 _ _ z] at hr1
            cases hr1
        -- the rounds' bounds are put in
        refine ⟨_, rfl, q, rfl, ⟨_, SqL.of eq10⟩, ?_⟩
        refine for_list (K := K) (a := q) (xs := rf ys) (fun j σ H' => ∃ (ws : List (Addr × Bn)) (y9 : Option V), σ = [some (.ref a), some (.int (0 + (i : Int))), some (.ref p), some (.ref l), some (.int road), some (.ref vd), some (.int (m : Int)), some (.ref r), some (.ref q), y9, x10, x11, x12, x13, x14, none] ∧
          H' r = some (.lst (rf ws)) ∧ Bs H' ws ∧ (∀ x, x ∈ ws → On ns x.2) ∧ ws.length = xs.length + j ∧ (∀ b, b ∈ bb ws → b ∈ bb xs ∨ b ∈ bb ys) ∧ (∀ b, b ∈ (bb ys).take j → b ∈ bb ws) ∧ H' q = some (.lst (rf ys)) ∧ H' vd = some (.dK (dI ns fun n => .int (val0 n))) ∧ Bs H' ys ∧ Bag H' p (631 + j) ∧ Same H0 H')
          ⟨xs, x9, rfl, hb10 r _ nrp er9, bx9.bag hB9 hb10, onx, rfl, fun b h => .inl h, fun b h => (by rw [List.take_zero] at h; cases h), eq10, hb10 vd _ npv e9, by10, hB10, hb10'.keeps s1 hp0⟩ ?_ ?_ ?_
        · rintro j σ H' _ ⟨ws, y9, _, _, _, _, _, _, _, eq, _⟩
          exact SqL.of eq
        · rintro j y σ H' hy ⟨ws, y9, rfl, er, bw, onw, lw, mem, sub, eq, ev, byy, hB, s⟩
          have hj : j < ys.length := by
            have := (List.getElem?_eq_some_iff.mp hy).1
            rw [rf_len] at this
            exact this
          obtain ⟨z, hz2, rfl⟩ := rf_get hy
          have zm := List.mem_of_getElem? hz2
          refine ⟨_, rfl, .inl ⟨rfl, _, SqL.of er⟩, _, rfl, _, rfl, r, _, rfl, .inl (SqL.of er), _, _, rfl, rfl, p, _, _, rfl, hB, by omega, by omega, Int.le_trans (b := 1000) (by rw [rf_len]; omega) (by decide), fun d H3 d0 d1 hB3 hb3 => ?_⟩
          have er3 := hb3 r _ nrp er
          rw [rf_len] at d1
          refine ⟨_, rfl, r, _, d, _, rfl, rfl, er3, small1000 (by rw [rf_len]; omega), d0, by omega, ?_⟩
          have ee : ∀ n, (rf ws).take n ++ [V.ref z.1] ++ (rf ws).drop n = rf (ws.take n ++ [z] ++ ws.drop n) := fun n => by
            unfold rf
            rw [List.map_append, List.map_append, List.map_take, List.map_drop]
            rfl
          rw [ee]
          generalize d.toNat = n
          have bw3 := bw.bag hB hb3
          have by3 := byy.bag hB hb3
          have up : ∀ x, BAt H3 x → BAt (upd H3 r (.lst (rf (ws.take n ++ [z] ++ ws.drop n)))) x := fun x b => by
            show upd _ _ _ _ = _
            rw [upd_ne (ne_of b er3 fun z => nomatch z)]
            exact b
          refine ⟨ws.take n ++ [z] ++ ws.drop n, _, rfl, upd_same, fun x hx => ?_, fun x hx => ?_, ?_, fun b hb => ?_, fun b hb => ?_, Eq.trans (upd_ne nrq.symm) (hb3 q _ npq eq), Eq.trans (upd_ne nvr) (hb3 vd _ npv ev), fun x hx => up x (by3 x hx), (hB3.at (upd_ne nrp.symm)).mono (by omega), same_own (hb3.keeps s hp0) hr0⟩
          · rcases ins_mem.mp hx with h | h
            · exact up x (bw3 x h)
            · rw [h]
              exact up z (by3 z zm)
          · rcases ins_mem.mp hx with h | h
            · exact onw x h
            · rw [h]
              exact ony z zm
          · rw [List.length_append, List.length_append, List.length_take, List.length_drop, List.length_singleton]
            omega
          · obtain ⟨x, hx, rfl⟩ := bb_mem hb
            rcases ins_mem.mp hx with h | h
            · exact mem _ (mem_bb h)
            · rw [h]
              exact .inr (mem_bb zm)
          · rw [List.take_add_one, bb_get hz2] at hb
            rcases List.mem_append.mp hb with h | h
            · obtain ⟨x, hx, rfl⟩ := bb_mem (sub b h)
              exact mem_bb (ins_mem.mpr (.inl hx))
            · rw [List.mem_singleton.mp h]
              exact mem_bb (ins_mem.mpr (.inr rfl))
        rintro σ' H11 ⟨ws, y9, rfl, er11, bw11, onw, lw, mem, sub, eq11, ev11, by11, hB11, s11⟩
        rw [rf_len] at lw sub
        rw [List.take_of_length_le (by rw [bb_len]; exact Nat.le_refl _)] at sub
        have lw40 : ws.length ≤ 40 := by omega
        have gw : ∀ x, x ∈ ws → GB x.2 := fun x hx => (onw x hx).1
        have kw : ys = [] → road ≠ 2 → Keeps (bb ws) val0 := fun h1 h2 b hb => by
          rcases mem b hb with h | h
          · exact kpx h2 b h
          · rw [h1] at h
            cases h
        -- the system
        refine made_seq (fun sy0 H12 hz0 S0 s12 => ?_)
        refine ⟨_, rfl, r, rfl, ⟨_, SqL.of (s12 _ _ er11)⟩, ?_⟩
        refine for_list (K := K) (a := r) (xs := rf ws) (fun j σ H' => ∃ (sy : Addr) (y9 : Option V), σ = [some (.ref a), some (.int (0 + (i : Int))), some (.ref p), some (.ref l), some (.int road), some (.ref vd), some (.int (m : Int)), some (.ref r), some (.ref q), y9, some (.ref sy), x11, x12, x13, x14, none] ∧
          Sys C H' sy (ws.take j) ∧ Same H11 H') ⟨sy0, y9, rfl, S0, s12⟩ ?_ ?_ ?_
        · rintro j σ H' _ ⟨_, _, _, _, s⟩
          exact SqL.of (s _ _ er11)
        · rintro j y σ H' hy ⟨sy, y9, rfl, S, s⟩
          obtain ⟨z, hz2, rfl⟩ := rf_get hy
          have zm := List.mem_of_getElem? hz2
          have bz := s _ _ (bw11 z zm)
          obtain ⟨dx, t, g1, g2⟩ := S.1
          refine ⟨_, rfl, _, rfl, sy, dx, bf t, z.1, tb z.2, rfl, rfl, g1, bz, sy, ws.take j, z, rfl, S, bz, gw z zm, by rw [List.length_take]; omega, fun sy2 H3 S3 s3 => ⟨⟨sy2, rfl⟩, ?_⟩⟩
          refine ⟨sy2, _, rfl, ?_, s.trans s3⟩
          rw [List.take_add_one, hz2]
          exact S3
        rintro σ' H13 ⟨sy, z9, rfl, S13, s13⟩
        rw [List.take_of_length_le (by rw [rf_len]; exact Nat.le_refl _)] at S13
        have er13 := s13 _ _ er11
        have eq13 := s13 _ _ eq11
        have ev13 := s13 _ _ ev11
        have bw13 := bw11.same s13
        have by13 := by11.same s13
        have s13' := s11.trans s13
        have none0 : ∀ {c : Addr}, H13 c = none → H0 c = none := fun {c} h => by
          cases z : H0 c with
          | none => rfl
          | some o =>
            rw [s13' _ _ z] at h
            cases h
        obtain ⟨dx, t, g13, gt13⟩ := S13.1
        have bad : ∀ {nm : List Str} {L : List Bn} {nm2 : List Str} {val2 : Str → Int}, NamesOf (bb ws) nm → Ring (lowsOf nm ++ bb ws) L → Least (bb ws) nm2 val2 → False := fun hN hR hL => no_both hN hR hL.zero hL.nonneg hL.keeps
        refine ⟨_, rfl, sy, dx, bf t, rfl, g13, bf_no t (by decide), sy, ws, rfl, S13, fun dv nm val H14 hL hnl hdv0 hdv14 s14 => ?_, fun nm zs2 H14 hN2 hR2 s14 => ?_⟩
        · -- a least solution
          refine ⟨_, rfl, sy, dx, bf t, rfl, s14 _ _ g13, bf_no t (by decide), sy, ws, rfl, S13.same s14, fun nm2 val2 H15 hL2 s15 => ?_, fun r2 nm2 zs2 H15 hN2 hR2 _ _ _ _ _ => (bad hN2 hR2 hL).elim⟩
          refine ⟨line100 (by show 2 ≤ 1000; decide), fun t2 ht2 => ?_⟩
          refine ⟨t2, _, rfl, SqT.of upd_same, rfl, _, _, rfl, _, _, rfl, rfl, ?_⟩
          have sA : Same H13 (upd H15 t2 (.tup [.ref dv, .non])) := same_up (s14.trans s15) ht2
          have hdvA : (upd H15 t2 (.tup [.ref dv, .non])) dv = some (.dK (dI nm fun n => .int (val n))) := (same_up s15 ht2) _ _ hdv14
          generalize upd H15 t2 (.tup [.ref dv, .non]) = H16 at sA hdvA
          refine ⟨_, rfl, sy, dx, bf t, rfl, sA _ _ g13, sy, ws, rfl, S13.same sA, ((ws.length : Nat) : Int), rfl, by omega, by omega, _, rfl, r, _, rfl, .inl (SqL.of (sA _ _ er13)), rfl, _, rfl, ?_⟩
          rw [rf_len, decide_eq_true rfl]
          refine iteF ?_
          refine ⟨_, rfl, rfl, _, rfl, rfl, rfl, _, rfl, ?_⟩
          refine iteF ?_
          have ey : ys = [] := by
            rcases yroad with h | ⟨_, R⟩
            · exact h
            · exact ((R.mono sub).no hL.keeps).elim
          refine ⟨fun σ' H' => ∃ y1 y2 y3 y4 y5 y6 y7 y8 y9 y11 y12 y13 y14 : Option V, σ' = [some (.ref a), y1, y2, y3, y4, y5, y6, y7, y8, y9, some (.ref sy), y11, y12, y13, y14, none] ∧ Sys C H' sy ws ∧ Same H0 H', ?_, ?_⟩
          · refine ⟨_, rfl, rfl, _, rfl, ?_⟩
            refine iteF ?_
            refine ⟨_, rfl, Nat.zero_le _, fun l0 hl0 => ?_⟩
            have sB : Same H13 (upd H16 l0 (.lst [])) := same_up sA hl0
            have eqB : (upd H16 l0 (.lst [])) q = some (.lst (rf ys)) := sB _ _ eq13
            refine ⟨.list [], .list [], Dp.lst (SqL.of (by rw [eqB, ey]; rfl)) .nil, Dp.lst (SqL.of upd_same) .nil, by rfl, by rfl, _, rfl, ?_⟩
            refine iteF ?_
            have hdvB : (upd H16 l0 (.lst [])) dv = some (.dK (dI nm fun n => .int (val n))) := (same_up (Same.refl _) hl0) _ _ hdvA
            generalize upd H16 l0 (.lst []) = H17 at sB hdvB eqB
            refine ⟨_, rfl, _, rfl, r, dv, ws, nm, val, rfl, sB _ _ er13, bw13.same sB, by omega, hdvB, hnl, hL, fun H18 s18 => ⟨true, rfl, ?_⟩⟩
            refine iteF ?_
            have sC := sB.trans s18
            have hdvC := s18 _ _ hdvB
            have evC := sC _ _ ev13
            have hdv0' : H0 dv = none := none0 hdv0
            refine ⟨dv, _, hdvC, trivial, fun od => ?_⟩
            refine ⟨_, rfl, dv, od, rfl, .inl ⟨_, upd_same, fun D3 hD3 => ?_⟩⟩
            have b3 : But dv H18 (upd H18 dv (.frz od (.dK (dI nm fun n => .int (val n))))) := But.locked
            have ndD3 : dv ≠ D3 := ne_of_none upd_same hD3
            have nvdv : vd ≠ dv := fun e => by
              rw [e, hdv0] at ev13
              cases ev13
            have hD30 : H18 D3 = none := by
              rw [upd_ne ndD3.symm] at hD3
              exact hD3
            refine lc_it (walk_keys (kvs := dI nm fun n => .int (val n))) (fun j H' => ∃ gs : List Str, H' D3 = some (.lst (gs.map V.str)) ∧ gs.length ≤ j ∧ (road < 2 → gs = []) ∧ H' dv = some (.frz od (.dK (dI nm fun n => .int (val n)))) ∧ But dv H18 H')
              ⟨[], upd_same, Nat.le_refl _, fun _ => rfl, Eq.trans (upd_ne ndD3) upd_same, b3.up hD3⟩ ?_ ?_ ?_
            · rintro j H4 _ ⟨_, _, _, _, e, _⟩
              exact e
            · rintro j y H4 H5 hj ⟨gs, eD, lg, g0, edv, b4⟩ ⟨rfl, k, v, hk, rfl⟩
              rw [dI_len] at hj
              obtain ⟨n, hn, rfl, rfl⟩ := dI_get hk
              have hnm := List.mem_of_getElem? hn
              have hns : n ∈ ns := by
                obtain ⟨_, d, hd, e⟩ := (hL.names.2 n).mp hnm
                obtain ⟨x, hx, rfl⟩ := bb_mem hd
                rcases e with e | e
                · rw [e]; exact (onw x hx).2.1
                · rw [e]; exact (onw x hx).2.2
              refine ⟨rfl, ?_⟩
              refine ⟨_, rfl, _, rfl, dv, _, rfl, dget_in (.inr ⟨od, edv⟩) hnm, _, rfl, _, rfl, vd, _, rfl, dget_in (.inl (b4 vd _ nvdv evC)) hns, _, _, rfl, rfl, _, rfl, ite2 (fun h => ?_) (fun h => ?_)⟩
              · have h := of_decide_eq_true h
                refine ⟨_, rfl, _, eD, small1000 (by rw [List.length_map]; omega), gs ++ [n], ?_, by rw [List.length_append]; show gs.length + 1 ≤ j + 1; omega, fun z => ?_, Eq.trans (upd_ne ndD3) edv, b4.own hD30⟩
                · rw [upd_same, List.map_append]
                  rfl
                · have := hL.least val0 vz (fun n _ => vn n) (kw ey (by omega)) n hnm
                  omega
              · exact ⟨gs, eD, by omega, g0, edv, b4⟩
            rintro H19 ⟨gs, eD, lg, g0, edv, b19⟩
            refine ⟨edv, ?_⟩
            have s19 : Same H18 (upd H19 dv (.dK (dI nm fun n => .int (val n)))) := b19.unlock hdvC
            have eD' : (upd H19 dv (.dK (dI nm fun n => .int (val n)))) D3 = some (.lst (gs.map V.str)) := Eq.trans (upd_ne ndD3.symm) eD
            have hdvD : (upd H19 dv (.dK (dI nm fun n => .int (val n)))) dv = some (.dK (dI nm fun n => .int (val n))) := upd_same
            generalize upd H19 dv (.dK (dI nm fun n => .int (val n))) = H20 at s19 eD' hdvD
            have sD := sC.trans s19
            refine ⟨_, rfl, _, _, rfl, rfl, _, rfl, ite2 (fun h => ?_) (fun h => ?_)⟩
            · have eg := g0 (of_decide_eq_true h)
              refine ⟨_, rfl, Nat.zero_le _, fun l1 hl1 => ?_⟩
              have s21 : Same H20 (upd H20 l1 (.lst [])) := same_up (Same.refl _) hl1
              refine ⟨.list [], .list [], Dp.lst (SqL.of (by rw [s21 _ _ eD', eg]; rfl)) .nil, Dp.lst (SqL.of upd_same) .nil, by rfl, by rfl, _, rfl, ?_⟩
              refine iteF ?_
              refine ⟨_, rfl, dv, _, rfl, DPut.k (k := Sum.inr zs) (s21 _ _ hdvD) (small1000 (by rw [dI_len]; omega)), ?_⟩
              exact ⟨_, _, _, _, _, _, _, _, _, _, _, _, _, rfl, S13.same (same_own (sD.trans s21) hdv0), same_own (s13'.trans (sD.trans s21)) hdv0'⟩
            · refine iteF ?_
              refine ⟨_, rfl, dv, _, rfl, DPut.k (k := Sum.inr zs) hdvD (small1000 (by rw [dI_len]; omega)), ?_⟩
              exact ⟨_, _, _, _, _, _, _, _, _, _, _, _, _, rfl, S13.same (same_own sD hdv0), same_own (s13'.trans sD) hdv0'⟩
          -- again
          rintro σ' H17 ⟨y1, y2, y3, y4, y5, y6, y7, y8, y9, y11, y12, y13, y14, rfl, S17, s17⟩
          obtain ⟨dx3, t3, g17, _⟩ := S17.1
          refine ⟨_, rfl, sy, dx3, bf t3, rfl, g17, bf_no t3 (by decide), sy, ws, rfl, S17, fun dv2 nm2 val2 H18 hL2 _ _ _ s18 => ?_, fun nm2 zs2 H18 hN2 hR2 s18 => ?_⟩
          · refine ⟨rfl, _, rfl, ?_⟩
            refine iteT ?_
            refine ⟨_, rfl, sy, dx3, bf t3, rfl, s18 _ _ g17, bf_no t3 (by decide), sy, ws, rfl, S17.same s18, fun dv3 nm3 val3 H19 hL3 _ _ hdv3 s19 => ?_, fun nm3 zs3 H19 hN3 hR3 _ => (bad hN3 hR3 hL2).elim⟩
            refine ⟨dv3, none, rfl, dget_out (.inl hdv3) hL3.names.nz, _, rfl, ?_⟩
            refine iteF ?_
            exact ⟨_, _, _, _, _, _, _, _, _, _, _, _, _, _, rfl, sm0.trans (s17.trans (s18.trans s19))⟩
          · refine ⟨rfl, _, rfl, ?_⟩
            refine iteF ?_
            exact ⟨_, _, _, _, _, _, _, _, _, _, _, _, _, _, rfl, sm0.trans (s17.trans s18)⟩
        · -- a ring
          refine ⟨_, rfl, sy, dx, bf t, rfl, s14 _ _ g13, bf_no t (by decide), sy, ws, rfl, S13.same s14, fun nm2 val2 H15 hL2 s15 => (bad hN2 hR2 hL2).elim, fun rr nm2 rs H15 hNr hRr hlr hr14 hrr brr s15 => ?_⟩
          refine ⟨line100 (by show 2 ≤ 1000; decide), fun t2 ht2 => ?_⟩
          refine ⟨t2, _, rfl, SqT.of upd_same, rfl, _, _, rfl, _, _, rfl, rfl, ?_⟩
          have sA : Same H13 (upd H15 t2 (.tup [.non, .ref rr])) := same_up (s14.trans s15) ht2
          have hrrA : (upd H15 t2 (.tup [.non, .ref rr])) rr = some (.lst (rf rs)) := (same_up (Same.refl _) ht2) _ _ hrr
          have brA : Bs (upd H15 t2 (.tup [.non, .ref rr])) rs := brr.same (same_up (Same.refl _) ht2)
          generalize upd H15 t2 (.tup [.non, .ref rr]) = H16 at sA hrrA brA
          refine ⟨_, rfl, sy, dx, bf t, rfl, sA _ _ g13, sy, ws, rfl, S13.same sA, ((ws.length : Nat) : Int), rfl, by omega, by omega, _, rfl, r, _, rfl, .inl (SqL.of (sA _ _ er13)), rfl, _, rfl, ?_⟩
          rw [rf_len, decide_eq_true rfl]
          refine iteF ?_
          refine ⟨_, rfl, rfl, _, rfl, rfl, rfl, _, rfl, ?_⟩
          refine iteF ?_
          have hr13 : H13 rr = none := by
            cases z : H13 rr with
            | none => rfl
            | some o =>
              rw [s14 _ _ z] at hr14
              cases hr14
          have gb : ∀ b, b ∈ bb ws → GB b := fun b hb => by
            obtain ⟨x, hx, rfl⟩ := bb_mem hb
            exact gw x hx
          refine ⟨fun σ' H' => ∃ y1 y2 y3 y4 y5 y6 y7 y8 y9 y11 y12 y13 y14 : Option V, σ' = [some (.ref a), y1, y2, y3, y4, y5, y6, y7, y8, y9, some (.ref sy), y11, y12, y13, y14, none] ∧ Sys C H' sy ws ∧ Same H0 H', ?_, ?_⟩
          · refine ⟨_, rfl, rfl, _, rfl, ?_⟩
            refine iteT ?_
            refine ⟨_, rfl, rfl, _, rfl, ite2 (fun h => ?_) (fun h => ?_)⟩
            · exfalso
              have h : road = 0 := V.int.inj (of_decide_eq_true h)
              have ey : ys = [] := by
                rcases yroad with h2 | ⟨h2, _⟩
                · exact h2
                · omega
              exact no_both hN2 hR2 vz vn (kw ey (by omega))
            refine ⟨_, rfl, _, rfl, r, rr, ws, rs, nm2, rfl, sA _ _ er13, bw13.same sA, by omega, gw, hrrA, brA, hlr, hNr, hRr, fun H17 s17 => ⟨true, rfl, ?_⟩⟩
            refine iteF ?_
            have hrr17 := s17 _ _ hrrA
            refine ⟨_, rfl, .inl ⟨rfl, _, SqL.of hrr17⟩, rr, _, _, rfl, rfl, hrr17, small1000 (by rw [rf_len]; omega), ?_⟩
            have sB : Same H13 (upd H17 rr (.lst (rf rs ++ [.str "spoilt"]))) := same_own (sA.trans s17) hr13
            have hrrB : (upd H17 rr (.lst (rf rs ++ [.str "spoilt"]))) rr = some (.lst (rf rs ++ [.str "spoilt"])) := upd_same
            generalize upd H17 rr (.lst (rf rs ++ [.str "spoilt"])) = H18 at sB hrrB
            refine ⟨_, rfl, sy, dx, bf t, rfl, sB _ _ g13, bf_no t (by decide), sy, ws, rfl, S13.same sB, fun nm3 val3 H19 hL3 s19 => (bad hN2 hR2 hL3).elim, fun ra nm3 as H19 hN3 hR3 hl3 hr18 h3 b3 s19 => ?_⟩
            have sC := sB.trans s19
            refine ⟨_, rfl, _, rfl, r, ra, ws, as, nm3, rfl, sC _ _ er13, bw13.same sC, by omega, gw, h3, b3, hl3, hN3, hR3, fun H20 s20 => ⟨true, rfl, ?_⟩⟩
            refine iteF ?_
            refine ⟨_, rfl, ra, as, _, rfl, s20 _ _ h3, b3.same s20, fun x hx => ring_good hN3 hR3 gb _ (mem_bb hx), hR3, hl3, fun H21 s21 => ⟨true, rfl, ?_⟩⟩
            refine iteF ?_
            have sE := s19.trans (s20.trans s21)
            refine ⟨_, rfl, 1, rfl, rr, _, _, .str "spoilt", rfl, rfl, SqL.of (sE _ _ hrrB), atI_last _ _, rfl, _, rfl, ?_⟩
            refine iteF ?_
            exact ⟨_, _, _, _, _, _, _, _, _, _, _, _, _, rfl, S13.same (sB.trans sE), s13'.trans (sB.trans sE)⟩
          -- again
          rintro σ' H17 ⟨y1, y2, y3, y4, y5, y6, y7, y8, y9, y11, y12, y13, y14, rfl, S17, s17⟩
          obtain ⟨dx3, t3, g17, _⟩ := S17.1
          refine ⟨_, rfl, sy, dx3, bf t3, rfl, g17, bf_no t3 (by decide), sy, ws, rfl, S17, fun dv2 nm2 val2 H18 hL2 _ _ _ s18 => ?_, fun nm2 zs2 H18 hN2 hR2 s18 => ?_⟩
          · refine ⟨rfl, _, rfl, ?_⟩
            refine iteT ?_
            refine ⟨_, rfl, sy, dx3, bf t3, rfl, s18 _ _ g17, bf_no t3 (by decide), sy, ws, rfl, S17.same s18, fun dv3 nm3 val3 H19 hL3 _ _ hdv3 s19 => ?_, fun nm3 zs3 H19 hN3 hR3 _ => (bad hN3 hR3 hL2).elim⟩
            refine ⟨dv3, none, rfl, dget_out (.inl hdv3) hL3.names.nz, _, rfl, ?_⟩
            refine iteF ?_
            exact ⟨_, _, _, _, _, _, _, _, _, _, _, _, _, _, rfl, sm0.trans (s17.trans (s18.trans s19))⟩
          · refine ⟨rfl, _, rfl, ?_⟩
            refine iteF ?_
            exact ⟨_, _, _, _, _, _, _, _, _, _, _, _, _, _, rfl, sm0.trans (s17.trans s18)⟩
    · rintro σ H' ⟨x1, x2, x3, x4, x5, x6, x7, x8, x9, x10, x11, x12, x13, x14, rfl, sm⟩
      exact q _
end
end K29

/-! What the top has written, the head. -/
namespace K29
open PySem PySem.Spec PyProof.Rows L2
theorem all_mk {l : PySem.W.OpenLaw} {w : World} {K : PySem.W.Frag} {h : Heap} {mg : Str → Option Value} {fa C f1 f2 f3 f4 f5 f6 f7 f8 f9 f10 f11 f12 f13 f14 f15 f16 f17 f18 f19 f20 f21 f22 f23 f24 : Addr} (X : K.In h) (G : h.Ns mainGlobals mg) (hfa : mg "law" = some (.ref fa))
    {od1 an1 od2 an2 od3 an3 od4 an4 od5 an5 od6 an6 od7 an7 od8 an8 od9 an9 od10 an10 od11 an11 od12 an12 od13 an13 od14 an14 od15 an15 od16 an16 od17 an17 od18 an18 od19 an19 od20 an20 od21 an21 od22 an22 od23 an23 od24 an24 : Option Addr} {sl1 sl2 sl3 sl4 sl5 sl6 sl7 sl8 sl9 sl10 sl11 sl12 sl13 sl14 sl15 sl16 sl17 sl18 sl19 sl20 sl21 sl22 sl23 sl24 : Array (Option Value)} {oc1 kV1 dc1 pm1 cd1 ct1 oc2 kV2 dc2 pm2 cd2 ct2 oc3 kV3 dc3 pm3 cd3 ct3 oc4 kV4 dc4 pm4 cd4 ct4 oc5 kV5 dc5 pm5 cd5 ct5 oc6 kV6 dc6 pm6 cd6 ct6 oc7 kV7 dc7 pm7 cd7 ct7 oc8 kV8 dc8 pm8 cd8 ct8 oc9 kV9 dc9 pm9 cd9 ct9 oc10 kV10 dc10 pm10 cd10 ct10 oc11 kV11 dc11 pm11 cd11 ct11 oc12 kV12 dc12 pm12 cd12 ct12 oc13 kV13 dc13 pm13 cd13 ct13 oc14 kV14 dc14 pm14 cd14 ct14 oc15 kV15 dc15 pm15 cd15 ct15 oc16 kV16 dc16 pm16 cd16 ct16 oc17 kV17 dc17 pm17 cd17 ct17 oc18 kV18 dc18 pm18 cd18 ct18 oc19 kV19 dc19 pm19 cd19 ct19 oc20 kV20 dc20 pm20 cd20 ct20 oc21 kV21 dc21 pm21 cd21 ct21 oc22 kV22 dc22 pm22 cd22 ct22 oc23 kV23 dc23 pm23 cd23 ct23 oc24 kV24 dc24 pm24 cd24 ct24 : Value}
    (aC : PySem.W.nsIn K mainGlobals "Bounds" = some (some (.ref C)))
    (a1 : PySem.W.nsIn K mainGlobals "is_integer" = some (some (.ref f1)))
    (l1 : K.lookup f1 = some ⟨oc1, od1, .func (PySem.W.fnOf "is_integer" "is_integer" (defArgs sIsInteger) (defBody sIsInteger) (defScope sIsInteger) .none kV1 dc1 pm1 an1 cd1 ct1), sl1⟩)
    (c1 : PySem.W.codeIn K cd1 "is_integer" = true)
    (k1 : PySem.W.keepIn K (.ref f1) = true)
    (a2 : PySem.W.nsIn K mainGlobals "is_name" = some (some (.ref f2)))
    (l2 : K.lookup f2 = some ⟨oc2, od2, .func (PySem.W.fnOf "is_name" "is_name" (defArgs sIsName) (defBody sIsName) (defScope sIsName) .none kV2 dc2 pm2 an2 cd2 ct2), sl2⟩)
    (c2 : PySem.W.codeIn K cd2 "is_name" = true)
    (k2 : PySem.W.keepIn K (.ref f2) = true)
    (a3 : PySem.W.nsIn K mainGlobals "is_bound" = some (some (.ref f3)))
    (l3 : K.lookup f3 = some ⟨oc3, od3, .func (PySem.W.fnOf "is_bound" "is_bound" (defArgs sIsBound) (defBody sIsBound) (defScope sIsBound) .none kV3 dc3 pm3 an3 cd3 ct3), sl3⟩)
    (c3 : PySem.W.codeIn K cd3 "is_bound" = true)
    (k3 : PySem.W.keepIn K (.ref f3) = true)
    (a4 : PySem.W.nsIn K mainGlobals "is_ring" = some (some (.ref f4)))
    (l4 : K.lookup f4 = some ⟨oc4, od4, .func (PySem.W.fnOf "is_ring" "is_ring" (defArgs sIsRing) (defBody sIsRing) (defScope sIsRing) .none kV4 dc4 pm4 an4 cd4 ct4), sl4⟩)
    (c4 : PySem.W.codeIn K cd4 "is_ring" = true)
    (k4 : PySem.W.keepIn K (.ref f4) = true)
    (a5 : PySem.W.nsIn K mainGlobals "ring_from" = some (some (.ref f5)))
    (l5 : K.lookup f5 = some ⟨oc5, od5, .func (PySem.W.fnOf "ring_from" "ring_from" (defArgs sRingFrom) (defBody sRingFrom) (defScope sRingFrom) .none kV5 dc5 pm5 an5 cd5 ct5), sl5⟩)
    (c5 : PySem.W.codeIn K cd5 "ring_from" = true)
    (k5 : PySem.W.keepIn K (.ref f5) = true)
    (a6 : PySem.W.nsIn K mainGlobals "solve_bounds" = some (some (.ref f6)))
    (l6 : K.lookup f6 = some ⟨oc6, od6, .func (PySem.W.fnOf "solve_bounds" "solve_bounds" (defArgs sSolve) (defBody sSolve) (defScope sSolve) .none kV6 dc6 pm6 an6 cd6 ct6), sl6⟩)
    (c6 : PySem.W.codeIn K cd6 "solve_bounds" = true)
    (k6 : PySem.W.keepIn K (.ref f6) = true)
    (a7 : PySem.W.nsIn K mainGlobals "_law_bag" = some (some (.ref f7)))
    (l7 : K.lookup f7 = some ⟨oc7, od7, .func (PySem.W.fnOf "_law_bag" "_law_bag" (defArgs sBag) (defBody sBag) (defScope sBag) .none kV7 dc7 pm7 an7 cd7 ct7), sl7⟩)
    (c7 : PySem.W.codeIn K cd7 "_law_bag" = true)
    (k7 : PySem.W.keepIn K (.ref f7) = true)
    (a8 : PySem.W.nsIn K mainGlobals "_law_draw" = some (some (.ref f8)))
    (l8 : K.lookup f8 = some ⟨oc8, od8, .func (PySem.W.fnOf "_law_draw" "_law_draw" (defArgs sDraw) (defBody sDraw) (defScope sDraw) .none kV8 dc8 pm8 an8 cd8 ct8), sl8⟩)
    (c8 : PySem.W.codeIn K cd8 "_law_draw" = true)
    (k8 : PySem.W.keepIn K (.ref f8) = true)
    (a9 : PySem.W.nsIn K mainGlobals "_law_of" = some (some (.ref f9)))
    (l9 : K.lookup f9 = some ⟨oc9, od9, .func (PySem.W.fnOf "_law_of" "_law_of" (defArgs sOf) (defBody sOf) (defScope sOf) .none kV9 dc9 pm9 an9 cd9 ct9), sl9⟩)
    (c9 : PySem.W.codeIn K cd9 "_law_of" = true)
    (k9 : PySem.W.keepIn K (.ref f9) = true)
    (a10 : PySem.W.nsIn K mainGlobals "_law_name" = some (some (.ref f10)))
    (l10 : K.lookup f10 = some ⟨oc10, od10, .func (PySem.W.fnOf "_law_name" "_law_name" (defArgs sName) (defBody sName) (defScope sName) .none kV10 dc10 pm10 an10 cd10 ct10), sl10⟩)
    (c10 : PySem.W.codeIn K cd10 "_law_name" = true)
    (k10 : PySem.W.keepIn K (.ref f10) = true)
    (a11 : PySem.W.nsIn K mainGlobals "_law_names" = some (some (.ref f11)))
    (l11 : K.lookup f11 = some ⟨oc11, od11, .func (PySem.W.fnOf "_law_names" "_law_names" (defArgs sNames) (defBody sNames) (defScope sNames) .none kV11 dc11 pm11 an11 cd11 ct11), sl11⟩)
    (c11 : PySem.W.codeIn K cd11 "_law_names" = true)
    (k11 : PySem.W.keepIn K (.ref f11) = true)
    (a12 : PySem.W.nsIn K mainGlobals "_law_numbers" = some (some (.ref f12)))
    (l12 : K.lookup f12 = some ⟨oc12, od12, .func (PySem.W.fnOf "_law_numbers" "_law_numbers" (defArgs sNumbers) (defBody sNumbers) (defScope sNumbers) .none kV12 dc12 pm12 an12 cd12 ct12), sl12⟩)
    (c12 : PySem.W.codeIn K cd12 "_law_numbers" = true)
    (k12 : PySem.W.keepIn K (.ref f12) = true)
    (a13 : PySem.W.nsIn K mainGlobals "_law_kept" = some (some (.ref f13)))
    (l13 : K.lookup f13 = some ⟨oc13, od13, .func (PySem.W.fnOf "_law_kept" "_law_kept" (defArgs sKept) (defBody sKept) (defScope sKept) .none kV13 dc13 pm13 an13 cd13 ct13), sl13⟩)
    (c13 : PySem.W.codeIn K cd13 "_law_kept" = true)
    (k13 : PySem.W.keepIn K (.ref f13) = true)
    (a14 : PySem.W.nsIn K mainGlobals "_law_any" = some (some (.ref f14)))
    (l14 : K.lookup f14 = some ⟨oc14, od14, .func (PySem.W.fnOf "_law_any" "_law_any" (defArgs sAny) (defBody sAny) (defScope sAny) .none kV14 dc14 pm14 an14 cd14 ct14), sl14⟩)
    (c14 : PySem.W.codeIn K cd14 "_law_any" = true)
    (k14 : PySem.W.keepIn K (.ref f14) = true)
    (a15 : PySem.W.nsIn K mainGlobals "_law_round" = some (some (.ref f15)))
    (l15 : K.lookup f15 = some ⟨oc15, od15, .func (PySem.W.fnOf "_law_round" "_law_round" (defArgs sRound) (defBody sRound) (defScope sRound) .none kV15 dc15 pm15 an15 cd15 ct15), sl15⟩)
    (c15 : PySem.W.codeIn K cd15 "_law_round" = true)
    (k15 : PySem.W.keepIn K (.ref f15) = true)
    (a16 : PySem.W.nsIn K mainGlobals "_law_is_forced" = some (some (.ref f16)))
    (l16 : K.lookup f16 = some ⟨oc16, od16, .func (PySem.W.fnOf "_law_is_forced" "_law_is_forced" (defArgs sForced) (defBody sForced) (defScope sForced) .none kV16 dc16 pm16 an16 cd16 ct16), sl16⟩)
    (c16 : PySem.W.codeIn K cd16 "_law_is_forced" = true)
    (k16 : PySem.W.keepIn K (.ref f16) = true)
    (a17 : PySem.W.nsIn K mainGlobals "_law_is_least" = some (some (.ref f17)))
    (l17 : K.lookup f17 = some ⟨oc17, od17, .func (PySem.W.fnOf "_law_is_least" "_law_is_least" (defArgs sIsLeast) (defBody sIsLeast) (defScope sIsLeast) .none kV17 dc17 pm17 an17 cd17 ct17), sl17⟩)
    (c17 : PySem.W.codeIn K cd17 "_law_is_least" = true)
    (k17 : PySem.W.keepIn K (.ref f17) = true)
    (a18 : PySem.W.nsIn K mainGlobals "_law_is_round" = some (some (.ref f18)))
    (l18 : K.lookup f18 = some ⟨oc18, od18, .func (PySem.W.fnOf "_law_is_round" "_law_is_round" (defArgs sIsRound) (defBody sIsRound) (defScope sIsRound) .none kV18 dc18 pm18 an18 cd18 ct18), sl18⟩)
    (c18 : PySem.W.codeIn K cd18 "_law_is_round" = true)
    (k18 : PySem.W.keepIn K (.ref f18) = true)
    (a19 : PySem.W.nsIn K mainGlobals "law" = some (some (.ref f19)))
    (l19 : K.lookup f19 = some ⟨oc19, od19, .func (PySem.W.fnOf "law" "law" (defArgs sLaw) (defBody sLaw) (defScope sLaw) .none kV19 dc19 pm19 an19 cd19 ct19), sl19⟩)
    (c19 : PySem.W.codeIn K cd19 "law" = true)
    (k19 : PySem.W.keepIn K (.ref f19) = true)
    (a20 : PySem.W.findIn K (.ref C) "__init__" = some (some (.ref f20)))
    (i20 : PySem.W.isFn K (.ref f20) = true)
    (l20 : K.lookup f20 = some ⟨oc20, od20, .func (PySem.W.fnOf "__init__" "Bounds.__init__" (defArgs sInit) (defBody sInit) (defScope sInit) .none kV20 dc20 pm20 an20 cd20 ct20), sl20⟩)
    (c20 : PySem.W.codeIn K cd20 "Bounds.__init__" = true)
    (k20 : PySem.W.keepIn K (.ref f20) = true)
    (a21 : PySem.W.findIn K (.ref C) "least" = some (some (.ref f21)))
    (i21 : PySem.W.isFn K (.ref f21) = true)
    (l21 : K.lookup f21 = some ⟨oc21, od21, .func (PySem.W.fnOf "least" "Bounds.least" (defArgs sLeast) (defBody sLeast) (defScope sLeast) .none kV21 dc21 pm21 an21 cd21 ct21), sl21⟩)
    (c21 : PySem.W.codeIn K cd21 "Bounds.least" = true)
    (k21 : PySem.W.keepIn K (.ref f21) = true)
    (a22 : PySem.W.findIn K (.ref C) "ring" = some (some (.ref f22)))
    (i22 : PySem.W.isFn K (.ref f22) = true)
    (l22 : K.lookup f22 = some ⟨oc22, od22, .func (PySem.W.fnOf "ring" "Bounds.ring" (defArgs sRing) (defBody sRing) (defScope sRing) .none kV22 dc22 pm22 an22 cd22 ct22), sl22⟩)
    (c22 : PySem.W.codeIn K cd22 "Bounds.ring" = true)
    (k22 : PySem.W.keepIn K (.ref f22) = true)
    (a23 : PySem.W.findIn K (.ref C) "__len__" = some (some (.ref f23)))
    (i23 : PySem.W.isFn K (.ref f23) = true)
    (l23 : K.lookup f23 = some ⟨oc23, od23, .func (PySem.W.fnOf "__len__" "Bounds.__len__" (defArgs sLen) (defBody sLen) (defScope sLen) .none kV23 dc23 pm23 an23 cd23 ct23), sl23⟩)
    (c23 : PySem.W.codeIn K cd23 "Bounds.__len__" = true)
    (k23 : PySem.W.keepIn K (.ref f23) = true)
    (a24 : PySem.W.findIn K (.ref C) "__add__" = some (some (.ref f24)))
    (i24 : PySem.W.isFn K (.ref f24) = true)
    (l24 : K.lookup f24 = some ⟨oc24, od24, .func (PySem.W.fnOf "__add__" "Bounds.__add__" (defArgs sAdd) (defBody sAdd) (defScope sAdd) .none kV24 dc24 pm24 an24 cd24 ct24), sl24⟩)
    (c24 : PySem.W.codeIn K cd24 "Bounds.__add__" = true)
    (k24 : PySem.W.keepIn K (.ref f24) = true)
    (pg : PySem.W.plainGet K C Str.empty = true)
    (hd : PySem.W.hasDictIn K C = true)
    (po : PySem.W.plainOver K C = true)
    (sa : PySem.W.findIn K (.ref C) "__setattr__" = some (some (.builtin "object.__setattr__")))
    (mk : PySem.W.makesIn K C = true)
    (kc : PySem.W.keepIn K (.ref C) = true)
    (nB : PySem.W.findIn K (.ref C) "bounds" = some none)
    (sf : PySem.W.selfFirst K C = true)
    (yIsi : PySem.W.nsIn K mainGlobals "isinstance" = some none)
    (yInt : PySem.W.nsIn K mainGlobals "int" = some none)
    (yBool : PySem.W.nsIn K mainGlobals "bool" = some none)
    (yStr : PySem.W.nsIn K mainGlobals "str" = some none)
    (yLen : PySem.W.nsIn K mainGlobals "len" = some none)
    (yAll : PySem.W.nsIn K mainGlobals "all" = some none)
    (yTuple : PySem.W.nsIn K mainGlobals "tuple" = some none)
    (yList : PySem.W.nsIn K mainGlobals "list" = some none)
    (yEnum : PySem.W.nsIn K mainGlobals "enumerate" = some none)
    (ySum : PySem.W.nsIn K mainGlobals "sum" = some none)
    (yRange : PySem.W.nsIn K mainGlobals "range" = some none)
    (yAbs : PySem.W.nsIn K mainGlobals "abs" = some none)
    (yMin : PySem.W.nsIn K mainGlobals "min" = some none)
    (yMax : PySem.W.nsIn K mainGlobals "max" = some none)
    (yDict : PySem.W.nsIn K mainGlobals "dict" = some none)
    : ∃ fd : FuncData, (∀ (s : Shared) (v : Value), BindsTo s fd ⟨[v], []⟩ [("_law_script", v)]) ∧ ∀ base : Heap, K.In base → base.Ns mainGlobals mg → FnOk l.prog w K mg base CX0 6 fa fd ["_law_script"] (spLaw K) := by
  have e := hfa.symm.trans (PySem.W.mg_of X G a19)
  cases e
  have T : Txt K mg C := ⟨⟨pg, hd, po, sa⟩, nB, PySem.W.mg_of X G aC⟩
  have zIsi := PySem.W.mg_none_of X G yIsi
  have zInt := PySem.W.mg_none_of X G yInt
  have zBool := PySem.W.mg_none_of X G yBool
  have zStr := PySem.W.mg_none_of X G yStr
  have zLen := PySem.W.mg_none_of X G yLen
  have zAll := PySem.W.mg_none_of X G yAll
  have zTuple := PySem.W.mg_none_of X G yTuple
  have zList := PySem.W.mg_none_of X G yList
  have zEnum := PySem.W.mg_none_of X G yEnum
  have zSum := PySem.W.mg_none_of X G ySum
  have zRange := PySem.W.mg_none_of X G yRange
  have zAbs := PySem.W.mg_none_of X G yAbs
  have zMin := PySem.W.mg_none_of X G yMin
  have zMax := PySem.W.mg_none_of X G yMax
  have zDict := PySem.W.mg_none_of X G yDict
  have F1 := fun_mk (st := sIsInteger) l1 c1 k1
  have F2 := fun_mk (st := sIsName) l2 c2 k2
  have F3 := fun_mk (st := sIsBound) l3 c3 k3
  have F4 := fun_mk (st := sIsRing) l4 c4 k4
  have F5 := fun_mk (st := sRingFrom) l5 c5 k5
  have F6 := fun_mk (st := sSolve) l6 c6 k6
  have F7 := fun_mk (st := sBag) l7 c7 k7
  have F8 := fun_mk (st := sDraw) l8 c8 k8
  have F9 := fun_mk (st := sOf) l9 c9 k9
  have F10 := fun_mk (st := sName) l10 c10 k10
  have F11 := fun_mk (st := sNames) l11 c11 k11
  have F12 := fun_mk (st := sNumbers) l12 c12 k12
  have F13 := fun_mk (st := sKept) l13 c13 k13
  have F14 := fun_mk (st := sAny) l14 c14 k14
  have F15 := fun_mk (st := sRound) l15 c15 k15
  have F16 := fun_mk (st := sForced) l16 c16 k16
  have F17 := fun_mk (st := sIsLeast) l17 c17 k17
  have F18 := fun_mk (st := sIsRound) l18 c18 k18
  have F19 := fun_mk (st := sLaw) l19 c19 k19
  have F20 := fun_mk (st := sInit) l20 c20 k20
  have F21 := fun_mk (st := sLeast) l21 c21 k21
  have F22 := fun_mk (st := sRing) l22 c22 k22
  have F23 := fun_mk (st := sLen) l23 c23 k23
  have F24 := fun_mk (st := sAdd) l24 c24 k24
  have b1 := F1.binds (ps := ["thing"]) fun _ _ _ _ _ _ us hl => match us, hl with | [_], _ => rfl
  have b2 := F2.binds (ps := ["thing"]) fun _ _ _ _ _ _ us hl => match us, hl with | [_], _ => rfl
  have b3 := F3.binds (ps := ["thing"]) fun _ _ _ _ _ _ us hl => match us, hl with | [_], _ => rfl
  have b4 := F4.binds (ps := ["thing"]) fun _ _ _ _ _ _ us hl => match us, hl with | [_], _ => rfl
  have b5 := F5.binds (ps := ["causes", "name"]) fun _ _ _ _ _ _ us hl => match us, hl with | [_, _], _ => rfl
  have b6 := F6.binds (ps := ["bounds"]) fun _ _ _ _ _ _ us hl => match us, hl with | [_], _ => rfl
  have b7 := F7.binds (ps := ["_law_script", "_law_at"]) fun _ _ _ _ _ _ us hl => match us, hl with | [_, _], _ => rfl
  have b8 := F8.binds (ps := ["_law_bag_here", "_law_many"]) fun _ _ _ _ _ _ us hl => match us, hl with | [_, _], _ => rfl
  have b9 := F9.binds (ps := ["_law_bag_here", "_law_some"]) fun _ _ _ _ _ _ us hl => match us, hl with | [_, _], _ => rfl
  have b10 := F10.binds (ps := ["_law_bag_here"]) fun _ _ _ _ _ _ us hl => match us, hl with | [_], _ => rfl
  have b11 := F11.binds (ps := ["_law_bag_here", "_law_many"]) fun _ _ _ _ _ _ us hl => match us, hl with | [_, _], _ => rfl
  have b12 := F12.binds (ps := ["_law_bag_here", "_law_many"]) fun _ _ _ _ _ _ us hl => match us, hl with | [_, _], _ => rfl
  have b13 := F13.binds (ps := ["_law_bag_here", "_law_names_here", "_law_values", "_law_many"]) fun _ _ _ _ _ _ us hl => match us, hl with | [_, _, _, _], _ => rfl
  have b14 := F14.binds (ps := ["_law_bag_here", "_law_names_here", "_law_many"]) fun _ _ _ _ _ _ us hl => match us, hl with | [_, _, _], _ => rfl
  have b15 := F15.binds (ps := ["_law_bag_here", "_law_names_here"]) fun _ _ _ _ _ _ us hl => match us, hl with | [_, _], _ => rfl
  have b16 := F16.binds (ps := ["_law_bounds", "_law_values"]) fun _ _ _ _ _ _ us hl => match us, hl with | [_, _], _ => rfl
  have b17 := F17.binds (ps := ["_law_bounds", "_law_told"]) fun _ _ _ _ _ _ us hl => match us, hl with | [_, _], _ => rfl
  have b18 := F18.binds (ps := ["_law_bounds", "_law_told"]) fun _ _ _ _ _ _ us hl => match us, hl with | [_, _], _ => rfl
  have b21 := F21.binds (ps := ["self"]) fun _ _ _ _ _ _ us hl => match us, hl with | [_], _ => rfl
  have b22 := F22.binds (ps := ["self"]) fun _ _ _ _ _ _ us hl => match us, hl with | [_], _ => rfl
  have b23 := F23.binds (ps := ["self"]) fun _ _ _ _ _ _ us hl => match us, hl with | [_], _ => rfl
  have b24 := F24.binds (ps := ["self", "other"]) fun _ _ _ _ _ _ us hl => match us, hl with | [_, _], _ => rfl
  refine ⟨PySem.W.fnOf "law" "law" (defArgs sLaw) (defBody sLaw) (defScope sLaw) .none kV19 dc19 pm19 an19 cd19 ct19, fun s v => .of_eq rfl, fun base _ _ => ?_⟩
  have II : Df l.prog w K mg base 1 "is_integer" ["thing"] spIsInteger f1 _ := ⟨ok_isInteger F1 zIsi zInt zBool, PySem.W.mg_of X G a1, k1, b1⟩
  have IN : Df l.prog w K mg base 1 "is_name" ["thing"] spIsName f2 _ := ⟨ok_isName F2 zIsi zStr zLen zAll, PySem.W.mg_of X G a2, k2, b2⟩
  have IB : Df l.prog w K mg base 2 "is_bound" ["thing"] spIsBound f3 _ := ⟨ok_isBound F3 II IN zIsi zTuple zLen, PySem.W.mg_of X G a3, k3, b3⟩
  have RG : Df l.prog w K mg base 3 "is_ring" ["thing"] spIsRing f4 _ := ⟨ok_isRing F4 IB zIsi zList zTuple zLen zAll zEnum zSum, PySem.W.mg_of X G a4, k4, b4⟩
  have RF : Df l.prog w K mg base 1 "ring_from" ["causes", "name"] spRingFrom f5 _ := ⟨ok_ringFrom F5 zRange zLen, PySem.W.mg_of X G a5, k5, b5⟩
  have SB : Df l.prog w K mg base 2 "solve_bounds" ["bounds"] spSolve f6 _ := ⟨ok_solve F6 RF zRange zLen zList, PySem.W.mg_of X G a6, k6, b6⟩
  have BG : Df l.prog w K mg base 1 "_law_bag" ["_law_script", "_law_at"] (spBag K) f7 _ := ⟨ok_bag F7 zLen zAbs zInt, PySem.W.mg_of X G a7, k7, b7⟩
  have D : Df l.prog w K mg base 1 "_law_draw" ["_law_bag_here", "_law_many"] spDraw f8 _ := ⟨ok_draw F8 zInt, PySem.W.mg_of X G a8, k8, b8⟩
  have O : Df l.prog w K mg base 2 "_law_of" ["_law_bag_here", "_law_some"] spOf f9 _ := ⟨ok_of F9 D zLen, PySem.W.mg_of X G a9, k9, b9⟩
  have NA : Df l.prog w K mg base 2 "_law_name" ["_law_bag_here"] spName f10 _ := ⟨ok_name F10 D zRange, PySem.W.mg_of X G a10, k10, b10⟩
  have NS : Df l.prog w K mg base 3 "_law_names" ["_law_bag_here", "_law_many"] spNames f11 _ := ⟨ok_names F11 D O NA zRange zLen, PySem.W.mg_of X G a11, k11, b11⟩
  have NU : Df l.prog w K mg base 4 "_law_numbers" ["_law_bag_here", "_law_many"] spNumbers f12 _ := ⟨ok_numbers F12 NS, PySem.W.mg_of X G a12, k12, b12⟩
  have KE : Df l.prog w K mg base 3 "_law_kept" ["_law_bag_here", "_law_names_here", "_law_values", "_law_many"] spKept f13 _ := ⟨ok_kept F13 D O zRange, PySem.W.mg_of X G a13, k13, b13⟩
  have AN : Df l.prog w K mg base 3 "_law_any" ["_law_bag_here", "_law_names_here", "_law_many"] spAny f14 _ := ⟨ok_any F14 D O zRange, PySem.W.mg_of X G a14, k14, b14⟩
  have RO : Df l.prog w K mg base 3 "_law_round" ["_law_bag_here", "_law_names_here"] spRound f15 _ := ⟨ok_round F15 D O zRange zLen zList zMin zSum zInt, PySem.W.mg_of X G a15, k15, b15⟩
  have DF : Df l.prog w K mg base 1 "_law_is_forced" ["_law_bounds", "_law_values"] spForced f16 _ := ⟨ok_forced F16 zRange zLen, PySem.W.mg_of X G a16, k16, b16⟩
  have IL : Df l.prog w K mg base 2 "_law_is_least" ["_law_bounds", "_law_told"] spIsLeast f17 _ := ⟨ok_isLeast F17 DF zIsi zDict zAll zInt zBool, PySem.W.mg_of X G a17, k17, b17⟩
  have IR : Df l.prog w K mg base 1 "_law_is_round" ["_law_bounds", "_law_told"] spIsRound f18 _ := ⟨ok_isRound F18 zIsi zList zEnum zTuple, PySem.W.mg_of X G a18, k18, b18⟩
  have M : Mk K C f20 := ⟨mk, a20, i20, kc⟩
  have GI : FnR l.prog w K mg base CX0 3 f20 (spInitR C) := ok_init F20 T IB zEnum
  exact ok_law F19 BG D O NU AN KE RO IR IL RG T sf M GI ⟨a24, i24⟩ (ok_add F24 T IB M GI) b24 ⟨a23, i23⟩ (ok_len F23 T zLen) b23 ⟨ok_least F21 T SB, ⟨a21, i21, k21⟩, b21⟩ ⟨ok_ring F22 T SB, ⟨a22, i22, k22⟩, b22⟩ zRange zMax zMin zLen zDict
theorem walk {l : PySem.W.OpenLaw} {q : Program} {loose : List Str} {XP : (Str → Option Value) → Heap → Prop} {YP : World → Heap → Prop} {d : DefRec} {K : Params → PySem.W.Frag} (hn : l.most = some 63) (hdf : d.params.defaults = [])
    (hY : ∀ (w : World) (h : Heap), YP w h → (K w.params).In h)
    (F : ∀ (w : World) (mg : Str → Option Value) (fa : Addr) (h : Heap), (K w.params).In h → h.Ns mainGlobals mg → mg d.name = some (.ref fa) →
      ∃ fd : FuncData, (∀ (s : Shared) (u : Value), BindsTo s fd ⟨[u], []⟩ [("_law_script", u)]) ∧ ∀ base : Heap, (K w.params).In base → base.Ns mainGlobals mg → FnOk l.prog w (K w.params) mg base CX0 6 fa fd ["_law_script"] (spLaw (K w.params))) :
    PySem.W.WalkO q loose XP YP l.row.toRowW d [] (fun f vs => PySem.call f vs) :=
  L2.walk_of (n := 63) (k := 6) (x := "_law_script") (CX := fun _ => CX0) (sp := fun w => spLaw (K w.params)) hn (by decide) hdf ⟨rfl, by decide, by decide⟩ hY F (fun _ _ a ns hl _ hS => ⟨a, ns, rfl, hS, hl, fun _ => rfl⟩) fun _ _ _ _ _ z => z
end K29
open PySem PySem.W PyProof.Rows in
set_option maxRecDepth 100000 in
set_option maxHeartbeats 0 in
theorem PySem.Challenge.cw_rowsinplace_k29_whole_least_solutions_holds : PySem.Challenge.rw_rowsinplace_k29_whole_least_solutions.Holds := by
  w_on; o_law; k_head; (case hw => w_witness2)
  k_fill
  refine K29.walk (l := PySem.Challenge.rw_rowsinplace_k29_whole_least_solutions) rfl rfl (fun w h Y => PySem.W.kIn_of Y) ?F
  case F =>
    intro w mg fa h KX G hmg
    refine' K29.all_mk KX G hmg ?aC ?a1 ?l1 ?c1 ?k1 ?a2 ?l2 ?c2 ?k2 ?a3 ?l3 ?c3 ?k3 ?a4 ?l4 ?c4 ?k4 ?a5 ?l5 ?c5 ?k5 ?a6 ?l6 ?c6 ?k6 ?a7 ?l7 ?c7 ?k7 ?a8 ?l8 ?c8 ?k8 ?a9 ?l9 ?c9 ?k9 ?a10 ?l10 ?c10 ?k10 ?a11 ?l11 ?c11 ?k11 ?a12 ?l12 ?c12 ?k12 ?a13 ?l13 ?c13 ?k13 ?a14 ?l14 ?c14 ?k14 ?a15 ?l15 ?c15 ?k15 ?a16 ?l16 ?c16 ?k16 ?a17 ?l17 ?c17 ?k17 ?a18 ?l18 ?c18 ?k18 ?a19 ?l19 ?c19 ?k19 ?a20 ?i20 ?l20 ?c20 ?k20 ?a21 ?i21 ?l21 ?c21 ?k21 ?a22 ?i22 ?l22 ?c22 ?k22 ?a23 ?i23 ?l23 ?c23 ?k23 ?a24 ?i24 ?l24 ?c24 ?k24 ?pg ?hd ?po ?sa ?mk ?kc ?nB ?sf ?yIsi ?yInt ?yBool ?yStr ?yLen ?yAll ?yTuple ?yList ?yEnum ?ySum ?yRange ?yAbs ?yMin ?yMax ?yDict
    (case aC => k_is)
    (case a1 => k_is)
    (case l1 => k_is)
    (case c1 => k_is)
    (case k1 => k_is)
    (case a2 => k_is)
    (case l2 => k_is)
    (case c2 => k_is)
    (case k2 => k_is)
    (case a3 => k_is)
    (case l3 => k_is)
    (case c3 => k_is)
    (case k3 => k_is)
    (case a4 => k_is)
    (case l4 => k_is)
    (case c4 => k_is)
    (case k4 => k_is)
    (case a5 => k_is)
    (case l5 => k_is)
    (case c5 => k_is)
    (case k5 => k_is)
    (case a6 => k_is)
    (case l6 => k_is)
    (case c6 => k_is)
    (case k6 => k_is)
    (case a7 => k_is)
    (case l7 => k_is)
    (case c7 => k_is)
    (case k7 => k_is)
    (case a8 => k_is)
    (case l8 => k_is)
    (case c8 => k_is)
    (case k8 => k_is)
    (case a9 => k_is)
    (case l9 => k_is)
    (case c9 => k_is)
    (case k9 => k_is)
    (case a10 => k_is)
    (case l10 => k_is)
    (case c10 => k_is)
    (case k10 => k_is)
    (case a11 => k_is)
    (case l11 => k_is)
    (case c11 => k_is)
    (case k11 => k_is)
    (case a12 => k_is)
    (case l12 => k_is)
    (case c12 => k_is)
    (case k12 => k_is)
    (case a13 => k_is)
    (case l13 => k_is)
    (case c13 => k_is)
    (case k13 => k_is)
    (case a14 => k_is)
    (case l14 => k_is)
    (case c14 => k_is)
    (case k14 => k_is)
    (case a15 => k_is)
    (case l15 => k_is)
    (case c15 => k_is)
    (case k15 => k_is)
    (case a16 => k_is)
    (case l16 => k_is)
    (case c16 => k_is)
    (case k16 => k_is)
    (case a17 => k_is)
    (case l17 => k_is)
    (case c17 => k_is)
    (case k17 => k_is)
    (case a18 => k_is)
    (case l18 => k_is)
    (case c18 => k_is)
    (case k18 => k_is)
    (case a19 => k_is)
    (case l19 => k_is)
    (case c19 => k_is)
    (case k19 => k_is)
    (case a20 => k_is)
    (case i20 => k_is)
    (case l20 => k_is)
    (case c20 => k_is)
    (case k20 => k_is)
    (case a21 => k_is)
    (case i21 => k_is)
    (case l21 => k_is)
    (case c21 => k_is)
    (case k21 => k_is)
    (case a22 => k_is)
    (case i22 => k_is)
    (case l22 => k_is)
    (case c22 => k_is)
    (case k22 => k_is)
    (case a23 => k_is)
    (case i23 => k_is)
    (case l23 => k_is)
    (case c23 => k_is)
    (case k23 => k_is)
    (case a24 => k_is)
    (case i24 => k_is)
    (case l24 => k_is)
    (case c24 => k_is)
    (case k24 => k_is)
    (case pg => k_is)
    (case hd => k_is)
    (case po => k_is)
    (case sa => k_is)
    (case mk => k_is)
    (case kc => k_is)
    (case nB => k_is)
    (case sf => k_is)
    (case yIsi => k_is)
    (case yInt => k_is)
    (case yBool => k_is)
    (case yStr => k_is)
    (case yLen => k_is)
    (case yAll => k_is)
    (case yTuple => k_is)
    (case yList => k_is)
    (case yEnum => k_is)
    (case ySum => k_is)
    (case yRange => k_is)
    (case yAbs => k_is)
    (case yMin => k_is)
    (case yMax => k_is)
    (case yDict => k_is)
#print axioms PySem.Challenge.cw_rowsinplace_k29_whole_least_solutions_holds
