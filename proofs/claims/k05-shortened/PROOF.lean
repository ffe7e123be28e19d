import PyProof.Rows.All
import Wide.All
import OpenK.AllK
import Wide.FinOn
import HandS.ForMost
import HandS.Conv
import HandS.Zip
import HandS.TupAny
import KE.SortData
import KE.KDictKeyed
import PySem.Challenge.RW_homeround_k05_whole_shortened
set_option Elab.async false
set_option linter.all false
set_option maxRecDepth 100000
set_option maxHeartbeats 4000000
/-! Plain mathematics: shortening by middles, the walk by the next places, the least rests. No program in sight. -/
namespace Hr
/-! ### shortening -/
abbrev F := Nat → Nat → Int
def relax (k : Nat) (f : F) : F := fun i j => if f i k + f k j < f i j then f i k + f k j else f i j
def fw : Nat → F → F
  | 0, f => f
  | k + 1, f => relax k (fw k f)
def ah : Nat → F → Nat → Nat → Nat
  | 0, _ => fun _ j => j
  | k + 1, f => fun i j => if fw k f i k + fw k f k j < fw k f i j then ah k f i k else ah k f i j
def ln : Nat → F → Nat → Nat → Nat
  | 0, _ => fun i j => if i = j then 0 else 1
  | k + 1, f => fun i j => if fw k f i k + fw k f k j < fw k f i j then ln k f i k + ln k f k j else ln k f i j
structure Nice (f : F) : Prop where
  nn : ∀ i j, 0 ≤ f i j
  dz : ∀ i, f i i = 0
theorem fw_succ (k : Nat) (f : F) (i j : Nat) : fw (k + 1) f i j = if fw k f i k + fw k f k j < fw k f i j then fw k f i k + fw k f k j else fw k f i j := rfl
theorem ah_succ (k : Nat) (f : F) (i j : Nat) : ah (k + 1) f i j = if fw k f i k + fw k f k j < fw k f i j then ah k f i k else ah k f i j := rfl
theorem ln_succ (k : Nat) (f : F) (i j : Nat) : ln (k + 1) f i j = if fw k f i k + fw k f k j < fw k f i j then ln k f i k + ln k f k j else ln k f i j := rfl
theorem Nice.relax {f : F} (h : Nice f) (k : Nat) : Nice (relax k f) := by
  refine ⟨fun i j => ?_, fun i => ?_⟩
  · have h1 := h.nn i k
    have h2 := h.nn k j
    have h3 := h.nn i j
    unfold Hr.relax
    split <;> omega
  · have h1 := h.nn i k
    have h2 := h.nn k i
    have h3 := h.dz i
    unfold Hr.relax
    split <;> omega
theorem Nice.fw {f : F} (h : Nice f) : ∀ k, Nice (fw k f)
  | 0 => h
  | k + 1 => (Nice.fw h k).relax k
/-- row k and column k stand while k is the middle -/
theorem fw_row {f : F} (h : Nice f) (k j : Nat) : fw (k + 1) f k j = fw k f k j := by
  have h1 := (h.fw k).dz k
  rw [fw_succ, if_neg (by omega)]
theorem fw_col {f : F} (h : Nice f) (k i : Nat) : fw (k + 1) f i k = fw k f i k := by
  have h1 := (h.fw k).dz k
  rw [fw_succ, if_neg (by omega)]
theorem ah_col {f : F} (h : Nice f) (k i : Nat) : ah (k + 1) f i k = ah k f i k := by
  have h1 := (h.fw k).dz k
  rw [ah_succ, if_neg (by omega)]
theorem fw_le1 (k : Nat) (f : F) (i j : Nat) : fw (k + 1) f i j ≤ fw k f i j := by
  rw [fw_succ]
  split <;> omega
theorem fw_le (f : F) (i j : Nat) : ∀ k, fw k f i j ≤ f i j
  | 0 => Int.le_refl _
  | k + 1 => Int.le_trans (fw_le1 k f i j) (fw_le f i j k)
theorem fw_tri {f : F} (h : Nice f) : ∀ k m i j, m < k → fw k f i j ≤ fw k f i m + fw k f m j
  | 0, _, _, _, hm => absurd hm (Nat.not_lt_zero _)
  | k + 1, m, i, j, hm => by
    have N := h.fw k
    by_cases e : m = k
    · subst e
      rw [fw_col h, fw_row h, fw_succ]
      split <;> omega
    · have hmk : m < k := by omega
      have t1 := fw_tri h k m i j hmk
      have t2 := fw_tri h k m k j hmk
      have t3 := fw_tri h k m i k hmk
      have n1 := N.nn k m
      have n2 := N.nn m k
      rw [fw_succ k f i j, fw_succ k f i m, fw_succ k f m j]
      split <;> split <;> split <;> omega
theorem fw_fixed {g : F} : ∀ k, (∀ m i j, m < k → g i j ≤ g i m + g m j) → fw k g = g
  | 0, _ => rfl
  | k + 1, h => by
    have ih : fw k g = g := fw_fixed k fun m i j hm => h m i j (by omega)
    funext i j
    rw [fw_succ, ih]
    have t := h k i j (by omega)
    rw [if_neg (by omega)]
theorem fw_fix {f : F} (h : Nice f) (n : Nat) : fw n (fw n f) = fw n f := fw_fixed n fun m i j hm => fw_tri h n m i j hm
theorem fw_mono {f g : F} (h : ∀ i j, f i j ≤ g i j) : ∀ k i j, fw k f i j ≤ fw k g i j
  | 0, i, j => h i j
  | k + 1, i, j => by
    have h1 := fw_mono h k i j
    have h2 := fw_mono h k i k
    have h3 := fw_mono h k k j
    rw [fw_succ, fw_succ]
    split <;> split <;> omega
theorem fw_sym {f : F} {n : Nat} (h : ∀ i j, i < n → j < n → f i j = f j i) : ∀ k, k ≤ n → ∀ i j, i < n → j < n → fw k f i j = fw k f j i
  | 0, _, i, j, hi, hj => h i j hi hj
  | k + 1, hk, i, j, hi, hj => by
    have h1 := fw_sym h k (by omega) i j hi hj
    have h2 := fw_sym h k (by omega) i k hi (by omega)
    have h3 := fw_sym h k (by omega) k j (by omega) hj
    rw [fw_succ, fw_succ]
    split <;> split <;> omega
/-! ### the walk -/
theorem ln_self {f : F} (h : Nice f) (i : Nat) : ∀ k, ln k f i i = 0
  | 0 => if_pos rfl
  | k + 1 => by
    have h1 := (h.fw k).dz i
    have h2 := (h.fw k).nn i k
    have h3 := (h.fw k).nn k i
    rw [ln_succ, if_neg (by omega)]
    exact ln_self h i k
theorem ln_le (f : F) : ∀ k i j, ln k f i j ≤ 2 ^ k
  | 0, i, j => by
    show (if i = j then 0 else 1) ≤ 1
    split <;> omega
  | k + 1, i, j => by
    have h1 := ln_le f k i j
    have h2 := ln_le f k i k
    have h3 := ln_le f k k j
    rw [ln_succ, Nat.pow_succ]
    split <;> omega
theorem next_ok {f : F} (h : Nice f) : ∀ k i j, i ≠ j → fw k f i j = f i (ah k f i j) + fw k f (ah k f i j) j ∧ ln k f i j = 1 + ln k f (ah k f i j) j ∧ (ah k f i j = j ∨ ah k f i j < k)
  | 0, i, j, hij => by
    show f i j = f i j + f j j ∧ (if i = j then 0 else 1) = 1 + (if j = j then 0 else 1) ∧ (j = j ∨ j < 0)
    rw [h.dz j, if_neg hij, if_pos rfl]
    exact ⟨by omega, rfl, .inl rfl⟩
  | k + 1, i, j, hij => by
    have N := h.fw k
    have zk := N.dz k
    by_cases c : fw k f i k + fw k f k j < fw k f i j
    · have hik : i ≠ k := by
        intro e
        subst e
        omega
      obtain ⟨a1, a2, a3⟩ := next_ok h k i k hik
      rw [ah_succ, if_pos c, fw_succ k f i j, if_pos c, ln_succ k f i j, if_pos c]
      generalize ah k f i k = p at a1 a2 a3
      rcases a3 with e | e
      · subst e
        rw [fw_row h, ln_succ, if_neg (by omega)]
        rw [ln_self h] at a2
        exact ⟨by omega, by omega, .inr (by omega)⟩
      · have t := fw_tri h k p i j e
        have l := fw_le f i p k
        have c2 : fw k f p k + fw k f k j < fw k f p j := by omega
        rw [fw_succ, if_pos c2, ln_succ, if_pos c2]
        exact ⟨by omega, by omega, .inr (by omega)⟩
    · obtain ⟨a1, a2, a3⟩ := next_ok h k i j hij
      rw [ah_succ, if_neg c, fw_succ k f i j, if_neg c, ln_succ k f i j, if_neg c]
      generalize ah k f i j = p at a1 a2 a3
      have c2 : ¬ fw k f p k + fw k f k j < fw k f p j := by
        rcases a3 with e | e
        · subst e
          have n1 := N.nn p k
          have n2 := N.nn k p
          have n3 := N.dz p
          omega
        · have t := fw_tri h k p i k e
          have l := fw_le f i p k
          omega
      rw [fw_succ, if_neg c2, ln_succ, if_neg c2]
      exact ⟨a1, a2, by omega⟩
theorem ah_lt {f : F} (h : Nice f) {n i j : Nat} (hij : i ≠ j) (hj : j < n) : ah n f i j < n := by
  rcases (next_ok h n i j hij).2.2 with e | e
  · rw [e]; exact hj
  · exact e
/-- the length of a walk -/
def pl (f : F) : List Nat → Int
  | x :: y :: r => f x y + pl f (y :: r)
  | _ => 0
theorem pl_snoc (f : F) (x y : Nat) : ∀ ps : List Nat, pl f (ps ++ [x, y]) = pl f (ps ++ [x]) + f x y
  | [] => by
    show f x y + 0 = 0 + f x y
    omega
  | [a] => by
    show f a x + (f x y + 0) = f a x + 0 + f x y
    omega
  | a :: b :: r => by
    have ih := pl_snoc f x y (b :: r)
    show f a b + pl f ((b :: r) ++ [x, y]) = f a b + pl f ((b :: r) ++ [x]) + f x y
    rw [ih]
    omega
theorem pl_sum (f : F) : ∀ ps : List Nat, ((List.range (ps.length - 1)).map fun k => f (ps.getD k 0) (ps.getD (k + 1) 0)).sum = pl f ps
  | [] => rfl
  | [_] => rfl
  | a :: b :: r => by
    have ih := pl_sum f (b :: r)
    have e : (a :: b :: r).length - 1 = (b :: r).length - 1 + 1 := by simp
    rw [e, List.range_succ_eq_map, List.map_cons, List.sum_cons, List.map_map]
    show f a b + _ = f a b + pl f (b :: r)
    rw [← ih]
    congr 1
/-! ### the least rests -/
def ostep (o : Option Int) (x : Int) : Option Int :=
  match o with
  | none => some x
  | some y => if x < y then some x else some y
def lst (S : List Nat) (g : Nat → Int) (i : Nat) : Option Int := (((List.range i).filter fun p => decide (p ∉ S)).map g).foldl ostep none
def R (f : F) (n : Nat) : Nat → List Nat → Nat → Int
  | 0, _, l => f l 0
  | m + 1, S, l => (lst S (fun p => R f n m (p :: S) p + f l p) n).getD 0
theorem lst_zero (S : List Nat) (g : Nat → Int) : lst S g 0 = none := rfl
theorem lst_in {S : List Nat} (g : Nat → Int) {i : Nat} (h : i ∈ S) : lst S g (i + 1) = lst S g i := by
  unfold lst
  rw [List.range_succ, List.filter_append, List.filter_cons, if_neg (by simpa using h), List.filter_nil, List.append_nil]
theorem lst_out {S : List Nat} (g : Nat → Int) {i : Nat} (h : i ∉ S) : lst S g (i + 1) = ostep (lst S g i) (g i) := by
  unfold lst
  rw [List.range_succ, List.filter_append, List.filter_cons, if_pos (by simpa using h), List.filter_nil, List.map_append, List.foldl_append]
  rfl
theorem lst_congr {S T : List Nat} {g g' : Nat → Int} (h : ∀ x, x ∈ S ↔ x ∈ T) (hg : ∀ x, x ∉ S → g x = g' x) : ∀ i, lst S g i = lst T g' i
  | 0 => rfl
  | i + 1 => by
    by_cases c : i ∈ S
    · rw [lst_in g c, lst_in g' ((h i).mp c), lst_congr h hg i]
    · rw [lst_out g c, lst_out g' (fun z => c ((h i).mpr z)), lst_congr h hg i, hg i c]
theorem R_congr (f : F) (n : Nat) : ∀ (m : Nat) (S T : List Nat) (l : Nat), (∀ x, x ∈ S ↔ x ∈ T) → R f n m S l = R f n m T l
  | 0, _, _, _, _ => rfl
  | m + 1, S, T, l, h => by
    show (lst S _ n).getD 0 = (lst T _ n).getD 0
    rw [lst_congr h (g' := fun p => R f n m (p :: T) p + f l p)]
    intro x _
    show R f n m (x :: S) x + f l x = R f n m (x :: T) x + f l x
    rw [R_congr f n m (x :: S) (x :: T) x fun y => by rw [List.mem_cons, List.mem_cons, h y]]
def leO : Option Int → Option Int → Prop
  | none, none => True
  | some a, some b => a ≤ b
  | _, _ => False
theorem lst_mono {S : List Nat} {g g' : Nat → Int} (h : ∀ x, g x ≤ g' x) : ∀ i, leO (lst S g i) (lst S g' i)
  | 0 => True.intro
  | i + 1 => by
    have ih := lst_mono (S := S) h i
    by_cases c : i ∈ S
    · rw [lst_in g c, lst_in g' c]
      exact ih
    · rw [lst_out g c, lst_out g' c]
      have hi := h i
      revert ih
      cases lst S g i <;> cases lst S g' i
      · intro _
        exact hi
      · intro z
        exact z.elim
      · intro z
        exact z.elim
      · rename_i a b
        intro z
        have z' : a ≤ b := z
        unfold ostep
        show leO (if g i < a then some (g i) else some a) (if g' i < b then some (g' i) else some b)
        split <;> split
        · exact hi
        · show g i ≤ b
          omega
        · show a ≤ g' i
          omega
        · exact z'
theorem R_mono {f g : F} (h : ∀ i j, f i j ≤ g i j) (n : Nat) : ∀ (m : Nat) (S : List Nat) (l : Nat), R f n m S l ≤ R g n m S l
  | 0, _, l => h l 0
  | m + 1, S, l => by
    show (lst S _ n).getD 0 ≤ (lst S _ n).getD 0
    have q := lst_mono (S := S) (g := fun p => R f n m (p :: S) p + f l p) (g' := fun p => R g n m (p :: S) p + g l p) (fun x => by
      have h1 := R_mono h n m (x :: S) x
      have h2 := h l x
      show R f n m (x :: S) x + f l x ≤ R g n m (x :: S) x + g l x
      omega) n
    revert q
    cases lst S (fun p => R f n m (p :: S) p + f l p) n <;> cases lst S (fun p => R g n m (p :: S) p + g l p) n
    · intro _
      exact Int.le_refl _
    · intro z
      exact z.elim
    · intro z
      exact z.elim
    · intro z
      exact z
/-- where a place is left the least is that of one of those left -/
theorem lst_some {S : List Nat} (g : Nat → Int) : ∀ i, (∃ p, p < i ∧ p ∉ S) → ∃ p, p < i ∧ p ∉ S ∧ lst S g i = some (g p)
  | 0, ⟨_, h, _⟩ => absurd h (Nat.not_lt_zero _)
  | i + 1, ⟨p, h, hp⟩ => by
    by_cases c : i ∈ S
    · have hpi : p < i := by
        rcases Nat.lt_succ_iff_lt_or_eq.mp h with e | e
        · exact e
        · subst e
          exact absurd c hp
      obtain ⟨q, h1, h2, h3⟩ := lst_some g i ⟨p, hpi, hp⟩
      exact ⟨q, by omega, h2, by rw [lst_in g c]; exact h3⟩
    · rw [lst_out g c]
      by_cases e : ∃ p, p < i ∧ p ∉ S
      · obtain ⟨q, h1, h2, h3⟩ := lst_some g i e
        rw [h3]
        show ∃ p, p < i + 1 ∧ p ∉ S ∧ (if g i < g q then some (g i) else some (g q)) = some (g p)
        by_cases d : g i < g q
        · exact ⟨i, by omega, c, if_pos d⟩
        · exact ⟨q, by omega, h2, if_neg d⟩
      · have z : lst S g i = none := by
          cases k : lst S g i with
          | none => rfl
          | some v =>
            exfalso
            have : ∀ j, (∀ p, p < j → p ∈ S) → lst S g j = none := by
              intro j
              induction j with
              | zero => intro _; rfl
              | succ j ih =>
                intro hj
                rw [lst_in g (hj j (by omega))]
                exact ih fun p hp => hj p (by omega)
            rw [this i fun p hp => Classical.byContradiction fun q => e ⟨p, hp, q⟩] at k
            cases k
        rw [z]
        exact ⟨i, by omega, c, rfl⟩
/-! ### sets of places -/
structure Vs (n : Nat) (S : List Nat) : Prop where
  lt : S.Pairwise (· < ·)
  z : 0 ∈ S
  b : ∀ x ∈ S, x < n
theorem sorted_ext : ∀ {S T : List Nat}, S.Pairwise (· < ·) → T.Pairwise (· < ·) → (∀ x, x ∈ S ↔ x ∈ T) → S = T
  | [], [], _, _, _ => rfl
  | [], y :: t, _, _, h => absurd ((h y).mpr List.mem_cons_self) List.not_mem_nil
  | x :: s, [], _, _, h => absurd ((h x).mp List.mem_cons_self) List.not_mem_nil
  | x :: s, y :: t, hs, ht, h => by
    obtain ⟨h1, h2⟩ := List.pairwise_cons.mp hs
    obtain ⟨k1, k2⟩ := List.pairwise_cons.mp ht
    have e : x = y := by
      rcases List.mem_cons.mp ((h x).mp List.mem_cons_self) with e | e
      · exact e
      · have a := k1 x e
        rcases List.mem_cons.mp ((h y).mpr List.mem_cons_self) with e' | e'
        · exact e'.symm
        · have b := h1 y e'
          omega
    subst e
    congr 1
    refine sorted_ext h2 k2 fun z => ⟨fun hz => ?_, fun hz => ?_⟩
    · rcases List.mem_cons.mp ((h z).mp (List.mem_cons_of_mem _ hz)) with e | e
      · subst e
        exact absurd (h1 z hz) (Nat.lt_irrefl _)
      · exact e
    · rcases List.mem_cons.mp ((h z).mpr (List.mem_cons_of_mem _ hz)) with e | e
      · subst e
        exact absurd (k1 z hz) (Nat.lt_irrefl _)
      · exact e
theorem sorted_len : ∀ {S : List Nat} {a n : Nat}, S.Pairwise (· < ·) → (∀ x ∈ S, a ≤ x ∧ x < n) → S.length ≤ n - a ∧ (S.length = n - a → S = List.range' a (n - a))
  | [], a, n, _, _ => ⟨Nat.zero_le _, fun e => by
    have e' : n - a = 0 := e.symm
    rw [e']
    rfl⟩
  | x :: s, a, n, hs, h => by
    obtain ⟨h1, h2⟩ := List.pairwise_cons.mp hs
    obtain ⟨l1, l2⟩ := h x List.mem_cons_self
    obtain ⟨i1, i2⟩ := sorted_len (S := s) (a := x + 1) (n := n) h2 fun y hy => ⟨h1 y hy, (h y (List.mem_cons_of_mem _ hy)).2⟩
    rw [List.length_cons]
    refine ⟨by omega, fun e => ?_⟩
    have ex : x = a := by omega
    subst ex
    rw [i2 (by omega), show n - x = (n - (x + 1)) + 1 by omega]
    rfl
theorem Vs.len {n : Nat} {S : List Nat} (h : Vs n S) : S.length ≤ n := by
  have := (sorted_len (a := 0) h.lt fun x hx => ⟨Nat.zero_le _, h.b x hx⟩).1
  omega
theorem Vs.full {n : Nat} {S : List Nat} (h : Vs n S) (e : S.length = n) : S = List.range n := by
  have := (sorted_len (a := 0) h.lt fun x hx => ⟨Nat.zero_le _, h.b x hx⟩).2 (by omega)
  rw [this, List.range_eq_range']
  rfl
theorem Vs.pos {n : Nat} {S : List Nat} (h : Vs n S) : 0 < S.length := List.length_pos_of_mem h.z
theorem Vs.range {n : Nat} (h : 0 < n) : Vs n (List.range n) := ⟨List.pairwise_lt_range, List.mem_range.mpr h, fun _ hx => List.mem_range.mp hx⟩
theorem Vs.left {n : Nat} {S : List Nat} (h : Vs n S) (e : S.length < n) : ∃ p, p < n ∧ p ∉ S := by
  apply Classical.byContradiction
  intro c
  have q : S = List.range n := sorted_ext h.lt List.pairwise_lt_range fun x => ⟨fun hx => List.mem_range.mpr (h.b x hx), fun hx => Classical.byContradiction fun z => c ⟨x, List.mem_range.mp hx, z⟩⟩
  rw [q, List.length_range] at e
  exact Nat.lt_irrefl _ e
theorem Vs.nodup {n : Nat} {S : List Nat} (h : Vs n S) : S.Nodup := h.lt.imp fun q => Nat.ne_of_lt q
/-- one place more, sorted -/
theorem Vs.more {n : Nat} {S T : List Nat} {p : Nat} (h : Vs n S) (hp : p < n) (hn : p ∉ S) (e : T.Perm (S ++ [p])) (hs : T.Pairwise (· ≤ ·)) : Vs n T ∧ T.length = S.length + 1 ∧ ∀ x, x ∈ T ↔ x ∈ p :: S := by
  have hm : ∀ x, x ∈ T ↔ x ∈ p :: S := fun x => by
    rw [e.mem_iff, List.mem_append, List.mem_cons, List.mem_cons]
    constructor
    · rintro (a | a | a)
      · exact .inr a
      · exact .inl a
      · exact absurd a List.not_mem_nil
    · rintro (a | a)
      · exact .inr (.inl a)
      · exact .inl a
  have nd : T.Nodup := e.nodup_iff.mpr (by
    rw [List.nodup_append]
    refine ⟨h.nodup, List.nodup_cons.mpr ⟨List.not_mem_nil, List.nodup_nil⟩, fun a ha b hb q => ?_⟩
    rw [List.mem_singleton] at hb
    subst hb
    subst q
    exact hn ha)
  refine ⟨⟨?_, (hm 0).mpr (List.mem_cons_of_mem _ h.z), fun x hx => ?_⟩, ?_, hm⟩
  · exact (List.Pairwise.and hs nd).imp fun ⟨a, b⟩ => Nat.lt_of_le_of_ne a b
  · rcases List.mem_cons.mp ((hm x).mp hx) with q | q
    · rw [q]; exact hp
    · exact h.b x q
  · rw [e.length_eq, List.length_append, List.length_singleton]
def setsN : Nat → List (List Nat)
  | 0 => [[0]]
  | i + 1 => setsN i ++ (setsN i).map fun S => S ++ [i + 1]
theorem setsN_ok : ∀ (i : Nat) (S : List Nat), S ∈ setsN i → Vs (i + 1) S
  | 0, S, h => by
    have e : S = [0] := by simpa [setsN] using h
    subst e
    exact ⟨List.pairwise_singleton _ _, List.mem_cons_self, fun x hx => by simp at hx; omega⟩
  | i + 1, S, h => by
    rcases List.mem_append.mp h with h | h
    · have q := setsN_ok i S h
      exact ⟨q.lt, q.z, fun x hx => Nat.lt_succ_of_lt (q.b x hx)⟩
    · obtain ⟨T, hT, rfl⟩ := List.mem_map.mp h
      have q := setsN_ok i T hT
      refine ⟨List.pairwise_append.mpr ⟨q.lt, List.pairwise_singleton _ _, fun a ha b hb => ?_⟩, List.mem_append_left _ q.z, fun x hx => ?_⟩
      · rw [List.mem_singleton] at hb
        rw [hb]
        exact q.b a ha
      · rcases List.mem_append.mp hx with z | z
        · exact Nat.lt_succ_of_lt (q.b x z)
        · rw [List.mem_singleton] at z
          omega
theorem setsN_all : ∀ (i : Nat) (S : List Nat), Vs (i + 1) S → S ∈ setsN i
  | 0, S, h => by
    have e : S = [0] := sorted_ext h.lt (List.pairwise_singleton _ _) fun x => ⟨fun hx => by
      have := h.b x hx
      rw [List.mem_singleton]
      omega, fun hx => by
      rw [List.mem_singleton] at hx
      rw [hx]
      exact h.z⟩
    rw [e]
    exact List.mem_cons_self
  | i + 1, S, h => by
    by_cases c : i + 1 ∈ S
    · refine List.mem_append_right _ (List.mem_map.mpr ⟨S.filter fun x => decide (x < i + 1), setsN_all i _ ⟨h.lt.filter _, ?_, fun x hx => ?_⟩, ?_⟩)
      · exact List.mem_filter.mpr ⟨h.z, by simp⟩
      · have := (List.mem_filter.mp hx).2
        simpa using this
      · refine sorted_ext (List.pairwise_append.mpr ⟨h.lt.filter _, List.pairwise_singleton _ _, fun a ha b hb => ?_⟩) h.lt fun x => ⟨fun hx => ?_, fun hx => ?_⟩
        · rw [List.mem_singleton] at hb
          rw [hb]
          simpa using (List.mem_filter.mp ha).2
        · rcases List.mem_append.mp hx with z | z
          · exact (List.mem_filter.mp z).1
          · rw [List.mem_singleton] at z
            rw [z]
            exact c
        · have hb := h.b x hx
          by_cases e : x = i + 1
          · exact List.mem_append_right _ (by rw [e]; exact List.mem_cons_self)
          · exact List.mem_append_left _ (List.mem_filter.mpr ⟨hx, by simp; omega⟩)
    · refine List.mem_append_left _ (setsN_all i S ⟨h.lt, h.z, fun x hx => ?_⟩)
      have := h.b x hx
      have : x ≠ i + 1 := fun e => c (e ▸ hx)
      omega
theorem setsN_len : ∀ i, (setsN i).length = 2 ^ i
  | 0 => rfl
  | i + 1 => by
    show (setsN i ++ (setsN i).map fun S => S ++ [i + 1]).length = _
    rw [List.length_append, List.length_map, setsN_len i, Nat.pow_succ]
    omega
end Hr

/-! Own rules: sorted of a tuple of ints; a dict whose keys are pairs (tuple of ints, int); sorted of such a dict. -/
namespace Hr
open PySem PySem.Spec PyProof.Rows L2
/-! ### sorted(t), t a tuple of ints -/
section
variable {prog : Program} {w : World} {A : Around} {E : Value → Shared → Prop} {s : Shared}
theorem collect_tupH {t : Addr} {its : List Value} {Q : List Value → Shared → Prop} (ht : IsTup s.heap t its.toArray) (hz : its.length ≤ sizeLine)
    (h : ∀ h', (∀ b o, s.heap.get? b = some o → h'.get? b = some o) → Q its { s with heap := h' }) : wpAny (model prog w) A (collect (.ref t)) Q E s := by
  obtain ⟨ob, hob, hcl, k, hda⟩ := id ht
  unfold collect
  refine wpAny_bind (wpAny_runValue (codeAny_builtin entry_proto_collect' ?_))
  refine wpAny_bind (m := newList []) (wpAny_newList (wpAny_pure ⟨Code.quiet_builtin _ (by decide +kernel), codeAny_builtin entry_list_iadd' ?_⟩))
  show wpAny _ _ (Builtin.List.listExtendWith (.ref s.heap.objs.size) (.ref t) (.ref s.heap.objs.size)) _ _ _
  unfold Builtin.List.listExtendWith
  have hob' : (s.heap.push (seqObj "list" #[] 0)).get? t = some ob := Heap.get?_push_of_some _ hob
  refine wpAny_bind (wpAny_typeOf (T := "tuple") ⟨ob, hob', hcl⟩ ?_)
  rw [if_pos (by simp)]
  refine wpAny_bind (listItems_at hob' hda ?_)
  refine wpAny_bind (listItems_at (xs := #[]) (n := 0) (Heap.get?_push_size _ rfl) rfl ?_)
  rw [if_neg (by simp)]
  refine wpAny_bind (listUpdate_at (xs := #[]) (n := 0) (Heap.get?_push_size _ rfl) rfl ?_ (Nat.zero_le _) (by simp only [Array.size_append, List.size_toArray, List.length_nil]; omega))
  refine wpAny_pure ?_
  refine wpAny_bind (m := load s.heap.objs.size) (wpAny_load (get?_update_seq (Heap.get?_push_size _ rfl) _) ?_)
  have e : ((#[] : Array Value) ++ its.toArray).toList = its := by simp
  show wpAny _ _ (pure ((#[] : Array Value) ++ its.toArray).toList) Q E _
  rw [e]
  refine wpAny_pure (h _ fun b o q => ?_)
  rw [Heap.get?_update_ne _ _ _ _ (Nat.ne_of_lt (Heap.lt_size q))]
  exact Heap.get?_push_of_some _ q
end
section
variable {X : Cx}
def rSortTup (K : PySem.W.Frag) : List V → Hp → VK → Prop := fun vs H Q => ∃ (a : Addr) (ns : List Int), vs = [V.ref a] ∧ SqT K H a (ns.map V.int) ∧ ns.length < 64 ∧
  ∀ (ms : List Int) (p : Addr), ms.Perm ns → ms.Pairwise (· ≤ ·) → H p = none → Q (.ref p) (upd H p (.lst (ms.map V.int)))
theorem cr_sortTup : CallR X (.builtin "sorted") (rSortTup X.K) := by
  intro pins s σ H vs us Q I r h
  obtain ⟨a, ns, rfl, hs, h64, q⟩ := h
  obtain ⟨its, rv, ht, hz⟩ := I.tuple hs
  rw [Vals.ref1 r]
  have hi := rv.ints
  have hil : its.length = ns.length := hi.length
  have hiz : its.length ≤ sizeLine := by rw [hil]; exact small64 h64
  refine Calls.call_function_entry kind_sorted plain_sorted entry_sorted (args_sorted1 _) ?_
  unfold Builtin.«sorted»
  refine wpAny_bind (m := checkCount "sorted" 1 1 _) (wpAny_pure ?_)
  refine wpAny_bind (collect_tupH ht hiz fun h' hk => ?_)
  have I1 : Inv X pins σ H { s with heap := h' } := I.kept (t' := s.toks) hk
  refine wpAny_bind (wpAny_newList ?_ hiz)
  have hoD : (h'.push (seqObj "list" its.toArray 0)).get? h'.objs.size = some (seqObj "list" its.toArray 0) := Heap.get?_push_size _ rfl
  refine wpAny_bind (wpAny_holding (wpAny_call_entry slot_list_sort ⟨_, hoD, rfl⟩ entry_list_sort
    (list_sort_tree (s := { s with heap := h'.push (seqObj "list" its.toArray 0) }) hoD hi (by rw [hil]; exact h64) fun out ms g1 g2 g3 => ⟨_, rfl, ?_⟩) (args_list_sort _)))
  obtain ⟨c, he'⟩ := sortedHeap_at (vs := its) (out := out) hoD
  have hlen : (ms.map V.int).length ≤ sizeLine := by
    rw [List.length_map, g2.length_eq]
    exact small64 h64
  refine wpAny_pure ⟨_, rfl, .ref h'.objs.size, upd H h'.objs.size (.lst (ms.map V.int)), I1.laid (t' := s.toks) (fun b u e => ?_) (Nat.le_refl _)
    (show ObjOk X.prog X.w _ _ _ (.lst (ms.map V.int)) from ⟨hlen, out.toList, c, vals_of_ints g1, by rw [Array.toArray_toList]; exact he'⟩), rfl, q ms _ g2 g3 (I1.hok.fresh (Nat.le_refl _))⟩
  have lb := Heap.lt_size e
  rw [sortedHeap_old (Nat.ne_of_lt lb) (by rw [size_push']; exact Nat.lt_succ_of_lt lb)]
  exact Heap.get?_push_of_some _ e
end

/-! ### a dict whose keys are pairs (tuple of places, place) and whose values are objects -/
abbrev pV (S : List Nat) : List V := S.map fun (n : Nat) => V.int (n : Int)
def nk (S : List Nat) (l : Nat) : NestedKey := .tup [.tup (S.map fun (n : Nat) => .num (n : Int)), .num (l : Int)]
theorem nums_inj : ∀ {S T : List Nat}, (S.map fun (n : Nat) => NestedKey.num (n : Int)) = (T.map fun (n : Nat) => NestedKey.num (n : Int)) → S = T
  | [], [], _ => rfl
  | [], _ :: _, h => by cases h
  | _ :: _, [], h => by cases h
  | x :: s, y :: t, h => by
    rw [List.map_cons, List.map_cons] at h
    injection h with h1 h2
    injection h1 with h1
    rw [nums_inj h2, Int.ofNat_inj.mp h1]
theorem nk_inj {S T : List Nat} {l m : Nat} (h : nk S l = nk T m) : S = T ∧ l = m := by
  unfold nk at h
  injection h with h
  injection h with h1 h2
  injection h1 with h1
  injection h2 with h2 _
  injection h2 with h2
  exact ⟨nums_inj h1, Int.ofNat_inj.mp h2⟩
theorem nums_depth : ∀ S : List Nat, NestedKey.depthAll (S.map fun (n : Nat) => .num (n : Int)) = 0
  | [] => by simp [NestedKey.depthAll]
  | x :: s => by
    rw [List.map_cons, NestedKey.depthAll, nums_depth s]
    simp [NestedKey.depth]
theorem nk_depth (S : List Nat) (l : Nat) : (nk S l).depth ≤ 8 := by
  unfold nk
  rw [NestedKey.depth, NestedKey.depthAll, NestedKey.depth, nums_depth]
  simp [NestedKey.depth, NestedKey.depthAll]
structure Ent where
  S : List Nat
  l : Nat
  ka : Addr
  va : Addr
def Ent.x (e : Ent) : NestedKey × Addr × Value := (nk e.S e.l, e.ka, .ref e.va)
def hit (S : List Nat) (l : Nat) (e : Ent) : Bool := decide (e.S = S ∧ e.l = l)
def findE (es : List Ent) (S : List Nat) (l : Nat) : Option Ent := es.find? (hit S l)
def putE (es : List Ent) (S : List Nat) (l : Nat) (ka va : Addr) : List Ent :=
  if (findE es S l).isSome = true then es.map (fun e => if hit S l e = true then { e with va := va } else e) else es ++ [⟨S, l, ka, va⟩]
theorem hit_nk (S : List Nat) (l : Nat) (e : Ent) : decide (e.x.1 = nk S l) = hit S l e := by
  unfold hit Ent.x
  by_cases h : e.S = S ∧ e.l = l
  · rw [decide_eq_true h, decide_eq_true]
    rw [h.1, h.2]
  · rw [decide_eq_false h, decide_eq_false]
    intro q
    exact h (nk_inj q)
theorem atKey_x (S : List Nat) (l : Nat) : ∀ es : List Ent, atKey (es.map Ent.x) (nk S l) = (findE es S l).map fun e => (e.ka, Value.ref e.va)
  | [] => rfl
  | e :: r => by
    have ih := atKey_x S l r
    unfold atKey findE at ih ⊢
    rw [List.map_cons, List.find?_cons, List.find?_cons, hit_nk]
    cases hit S l e with
    | true => rfl
    | false => exact ih
theorem putE_x (es : List Ent) (S : List Nat) (l : Nat) (ka va : Addr) : (putE es S l ka va).map Ent.x = storedH (es.map Ent.x) (nk S l) ka (.ref va) := by
  unfold putE storedH
  rw [atKey_x, Option.isSome_map]
  by_cases c : (findE es S l).isSome = true
  · rw [if_pos c, if_pos c, List.map_map, List.map_map]
    refine List.map_congr_left fun e _ => ?_
    show (if hit S l e = true then { e with va := va } else e).x = putAt (nk S l) (.ref va) e.x
    unfold putAt
    have hd := hit_nk S l e
    by_cases k : hit S l e = true
    · rw [if_pos k, if_pos (by rw [k] at hd; exact of_decide_eq_true hd)]
      rfl
    · rw [if_neg k, if_neg (fun z => k (by rw [← hd]; exact decide_eq_true z))]
  · rw [if_neg c, if_neg c, List.map_append]
    rfl
theorem putE_len (es : List Ent) (S : List Nat) (l : Nat) (ka va : Addr) : (putE es S l ka va).length ≤ es.length + 1 := by
  unfold putE
  split
  · rw [List.length_map]
    omega
  · rw [List.length_append]
    exact Nat.le_refl _
theorem putE_mem {es : List Ent} {S : List Nat} {l : Nat} {ka va : Addr} {e : Ent} (h : e ∈ putE es S l ka va) : e ∈ es ∨ (e.va = va ∧ ((∃ o ∈ es, o.S = e.S ∧ o.l = e.l ∧ o.ka = e.ka) ∨ e = ⟨S, l, ka, va⟩)) := by
  unfold putE at h
  split at h
  · obtain ⟨o, ho, rfl⟩ := List.mem_map.mp h
    by_cases k : hit S l o = true
    · rw [if_pos k]
      exact .inr ⟨rfl, .inl ⟨o, ho, rfl, rfl, rfl⟩⟩
    · rw [if_neg k]
      exact .inl ho
  · rcases List.mem_append.mp h with h | h
    · exact .inl h
    · rw [List.mem_singleton] at h
      subst h
      exact .inr ⟨rfl, .inr rfl⟩
theorem findE_mem {es : List Ent} {S : List Nat} {l : Nat} {e : Ent} (h : findE es S l = some e) : e ∈ es ∧ e.S = S ∧ e.l = l := by
  have h1 := List.mem_of_find?_eq_some h
  have h2 := List.find?_some h
  exact ⟨h1, of_decide_eq_true h2⟩
theorem findE_map {S T : List Nat} {l m : Nat} {va : Addr} : ∀ es : List Ent, findE (es.map fun e => if hit S l e = true then { e with va := va } else e) T m = (findE es T m).map fun e => if hit S l e = true then { e with va := va } else e
  | [] => rfl
  | e :: r => by
    have ih := findE_map (S := S) (T := T) (l := l) (m := m) (va := va) r
    unfold findE at ih ⊢
    rw [List.map_cons, List.find?_cons, List.find?_cons]
    have q : hit T m (if hit S l e = true then { e with va := va } else e) = hit T m e := by
      by_cases k : hit S l e = true
      · rw [if_pos k]
        rfl
      · rw [if_neg k]
    rw [q]
    cases hit T m e with
    | true => rfl
    | false => exact ih
/-- what stands behind a store -/
theorem findE_put_same (es : List Ent) (S : List Nat) (l : Nat) (ka va : Addr) : ∃ k, findE (putE es S l ka va) S l = some ⟨S, l, k, va⟩ := by
  unfold putE
  by_cases c : (findE es S l).isSome = true
  · rw [if_pos c, findE_map]
    obtain ⟨e, he⟩ := Option.isSome_iff_exists.mp c
    obtain ⟨_, h1, h2⟩ := findE_mem he
    rw [he, Option.map_some, if_pos (show hit S l e = true from decide_eq_true ⟨h1, h2⟩)]
    refine ⟨e.ka, ?_⟩
    obtain ⟨eS, el, ek, ev⟩ := e
    cases h1
    cases h2
    rfl
  · rw [if_neg c]
    have z : findE es S l = none := by
      cases q : findE es S l with
      | none => rfl
      | some e => rw [q] at c; exact (c rfl).elim
    unfold findE at z ⊢
    rw [List.find?_append, z, Option.none_or, List.find?_cons]
    rw [show hit S l ⟨S, l, ka, va⟩ = true from decide_eq_true ⟨rfl, rfl⟩]
    exact ⟨ka, rfl⟩
theorem findE_put_other (es : List Ent) {S T : List Nat} {l m : Nat} (ka va : Addr) (h : ¬ (T = S ∧ m = l)) : findE (putE es S l ka va) T m = findE es T m := by
  unfold putE
  by_cases c : (findE es S l).isSome = true
  · rw [if_pos c, findE_map]
    cases q : findE es T m with
    | none => rfl
    | some e =>
      obtain ⟨_, h1, h2⟩ := findE_mem q
      rw [Option.map_some, if_neg]
      intro z
      have z' := of_decide_eq_true z
      exact h ⟨h1.symm.trans z'.1, h2.symm.trans z'.2⟩
  · rw [if_neg c]
    unfold findE
    rw [List.find?_append]
    cases q : es.find? (hit T m) with
    | none =>
      rw [Option.none_or, List.find?_cons]
      rw [show hit T m ⟨S, l, ka, va⟩ = false from decide_eq_false fun z => h ⟨z.1.symm, z.2.symm⟩]
      rfl
    | some e => rfl

/-- the key (S, l) stands at ka -/
def KeyAt (H : Hp) (ka : Addr) (S : List Nat) (l : Nat) : Prop := ∃ q : Addr, H ka = some (.tup [.ref q, .int (l : Int)]) ∧ H q = some (.tup (pV S))
def KeysOk (H : Hp) (es : List Ent) : Prop := ∀ e ∈ es, KeyAt H e.ka e.S e.l
def dnP (P : Program) (w : World) (d : Addr) (es : List Ent) (h : Heap) : Prop := (d == sysModules) = false ∧ es.length ≤ sizeLine ∧ ∃ o t ep, h.get? d = some o ∧ o.ExactDict ∧ o.data = .dict t ep ∧
  t.toList = (es.map Ent.x).map (entryOfKey (nestedKind P w)) ∧ ((es.map Ent.x).map (·.1)).Nodup
def DN (P : Program) (w : World) (d : Addr) (es : List Ent) : HO := .ext (dnP P w d es)
theorem DN_ok {P : Program} {w : World} {H : Hp} {h : Heap} {d : Addr} {es : List Ent} (x : dnP P w d es h) : ObjOk P w H h d (DN P w d es) := by
  refine ⟨x, ?_, fun h1 h2 y k => ?_⟩
  · obtain ⟨_, _, o, _, _, e, _⟩ := x
    exact ⟨o, e⟩
  · obtain ⟨a, b, o, t, ep, e, c⟩ := y
    exact ⟨a, b, o, t, ep, k o e, c⟩
section
variable {P : Program} {w : World} {H : Hp} {h : Heap} {d ka : Addr} {es : List Ent} {S : List Nat} {l : Nat}
theorem nested_of : ∀ {S : List Nat} {us : List Value}, Vals (pV S) us → NestedAll h (S.map fun (n : Nat) => .num (n : Int)) us
  | [], _, r => by cases r; exact .nil
  | x :: s, _, r => by
    rw [show pV (x :: s) = V.int (x : Int) :: pV s from rfl] at r
    cases r with
    | cons a t =>
      obtain ⟨tk, rfl⟩ := a
      exact .cons (.int _ _) (nested_of t)
theorem tup_at (ok : HOk P w H h) {a : Addr} {xs : List V} (e : H a = some (.tup xs)) : ∃ (its : List Value) (o : Obj) (n : Nat), Vals xs its ∧ h.get? a = some o ∧ o.cls = .type "tuple" ∧ o.data = .seq its.toArray n := by
  obtain ⟨_, its, r, o, h1, h2, n, h3⟩ := (show ObjOk P w H h a (.tup xs) from ok a _ e)
  exact ⟨its, o, n, r, h1, h2, h3⟩
theorem key_at (ok : HOk P w H h) (e : KeyAt H ka S l) : (nestedKind P w).is h (nk S l) ka := by
  obtain ⟨q, e1, e2⟩ := e
  obtain ⟨its, o, n, r, h1, h2, h3⟩ := tup_at ok e1
  obtain ⟨its2, o2, n2, r2, g1, g2, g3⟩ := tup_at ok e2
  cases r with
  | cons ra rt =>
    cases rt with
    | cons rb rt =>
      cases rt
      cases ra
      obtain ⟨tk, rfl⟩ := rb
      refine ⟨.tup h1 h2 h3 ?_, nk_depth S l⟩
      exact .cons (.tup g1 g2 g3 (by simpa using nested_of r2)) (.cons (.int _ _) .nil)
theorem dn_of (ok : HOk P w H h) (e : H d = some (DN P w d es)) : dnP P w d es h := (show ObjOk P w H h d (DN P w d es) from ok d _ e).1
theorem dn_dict (ok : HOk P w H h) (e : H d = some (DN P w d es)) (k : KeysOk H es) : h.DictOfH (nestedKind P w) d (es.map Ent.x) := by
  obtain ⟨_, _, o, t, ep, h1, h2, h3, h4, h5⟩ := dn_of ok e
  refine ⟨o, t, ep, h1, h2, h3, h4, fun x hx => ?_, h5⟩
  obtain ⟨e', he', rfl⟩ := List.mem_map.mp hx
  exact key_at ok (k e' he')
end
section
variable {X : Cx}
theorem dn_ne {H : Hp} {a d : Addr} {xs : List V} {es : List Ent} (e : H a = some (.tup xs)) (e' : H d = some (DN X.prog X.w d es)) : a ≠ d := ne_of e e' (fun z => nomatch z)
/-- {} -/
def tNewN (P : Program) (w : World) : TE := fun _ H Q => ∀ p, H p = none → Q (.ref p) (upd H p (DN P w p []))
theorem pe_newN {pos : Pos} : PE X (.Dict [] [] pos) (tNewN X.prog X.w) := ⟨fun pins s σ H Q I h => by
  have hp : dnP X.prog X.w s.heap.objs.size [] (s.heap.push { cls := .type "dict", data := .dict #[] }) :=
    ⟨beq_eq_false_iff_ne.mpr (Nat.ne_of_gt I.big), Nat.zero_le _, _, #[], 0, Heap.get?_push_size _ rfl, ⟨rfl, rfl, rfl⟩, rfl, rfl, List.nodup_nil⟩
  exact wpAny_Dict_empty ⟨.ref s.heap.objs.size, _, I.laid (a := s.heap.objs.size) (o := DN X.prog X.w s.heap.objs.size []) (t' := s.toks) (fun _ _ q => Heap.get?_push_of_some _ q) (Nat.le_refl _) (DN_ok hp), rfl, h _ (I.hok.fresh (Nat.le_refl _))⟩⟩
theorem dn_room {A : Around} (hu : A.units + 64 < cLine) (P : Program) (w : World) : (nestedKind P w).room A.in1 := by
  show A.units + 1 + 8 < cLine
  omega
/-- d[k] -/
def tGetN (P : Program) (w : World) (td ty : TE) : TE := fun σ H Q => td σ H fun x H1 => ty σ H1 fun y H2 => ∃ d es S l ka e, x = .ref d ∧ y = .ref ka ∧ H2 d = some (DN P w d es) ∧ KeysOk H2 es ∧ KeyAt H2 ka S l ∧ findE es S l = some e ∧ Q (.ref e.va) H2
theorem pe_getN {o i : Expr} {pos : Pos} {td ty : TE} (hu : X.A.units + 64 < cLine) (ho : PE X o td) (hi : PE X i ty) (hs : NoSl i) : PE X (.Subscript o i pos) (tGetN X.prog X.w td ty) := by
  refine ⟨fun pins s σ H Q I h => ?_⟩
  refine subD_of PySem.F.slot_dict_getitem.lookup hs (thn (ho.run pins s σ H _ I h) fun u s1 ⟨x, H1, I1, rx, q1⟩ => thn (hi.run pins s1 σ H1 _ I1 q1) fun iv s2 ⟨y, H2, I2, ry, d, es, S, l, ka, e, ex, ey, hd, hk, hky, hf, q⟩ => ?_)
  subst ex
  subst ey
  cases rx
  cases ry
  have dd := dn_dict I2.hok hd hk
  refine ⟨dd.typeIs, ?_⟩
  refine wpAny_getItem_heap (dn_room hu _ _) (key_at I2.hok hky) dd (by rw [atKey_x, hf]; rfl) ?_
  exact ⟨.ref e.va, H2, I2.tok _, rfl, q⟩
/-- d[k] = v -/
def sPutN (P : Program) (w : World) (td ty tv : TE) : TS := fun D σ H => tv σ H fun v H1 => td σ H1 fun x H2 => ty σ H2 fun y H3 => ∃ d es S l ka va, x = .ref d ∧ y = .ref ka ∧ v = .ref va ∧ H3 d = some (DN P w d es) ∧ KeysOk H3 es ∧ KeyAt H3 ka S l ∧ es.length < sizeLine ∧
  D.nx σ (upd H3 d (DN P w d (putE es S l ka va)))
theorem ps_putN {o i value : Expr} {pos pos' : Pos} {td ty tv : TE} (hu : X.A.units + 64 < cLine) (ho : PE X o td) (hi : PE X i ty) (hv : PE X value tv) (hs : swapsWith value (some (.Subscript o i pos')) pos.line X.env = pure false) :
    PS X (.Assign [.Subscript o i pos'] value pos) (sPutN X.prog X.w td ty tv) := by
  refine ⟨fun pins s σ H D I h => ?_⟩
  refine wpAny_Assign_Subscript (thn (hv.run pins s σ H _ I h) fun r s1 ⟨v, H1, I1, rv, q1⟩ => thn (ho.run pins s1 σ H1 _ I1 q1) fun u s2 ⟨x, H2, I2, rx, q2⟩ => thn (hi.run pins s2 σ H2 _ I2 q2) fun iv s3 ⟨y, H3, I3, ry, d, es, S, l, ka, va, ex, ey, ev, hd, hk, hky, hl, q⟩ => ?_) hs
  subst ex
  subst ey
  subst ev
  cases rx
  cases ry
  cases rv
  have dd := dn_dict I3.hok hd hk
  have h0 := dn_of I3.hok hd
  have hz : (es.map Ent.x).length ≤ sizeLine := by rw [List.length_map]; exact Nat.le_of_lt hl
  refine wpAny_setItem_heap (hsz := hz) (dn_room hu _ _) (key_at I3.hok hky) dd fun h' dd' hs => ⟨σ, _, ?_, q⟩
  obtain ⟨ob, t, ep, g1, g2, g3, g4, _, g5⟩ := dd'
  rw [← putE_x] at g4 g5
  have hn : dnP X.prog X.w d (putE es S l ka va) h' := ⟨h0.1, Nat.le_trans (putE_len es S l ka va) hl, ob, t, ep, g1, g2, g3, g4, g5⟩
  exact d_write I3 (by rw [hd]; exact True.intro) hs ⟨ob, g1⟩ (DN_ok hn)

/-! ### sorted(d) -/
def enc (e : Ent) : PyData := .tuple [.tuple ((e.S.map fun (n : Nat) => (n : Int)).map PyData.int), .int (e.l : Int)]
theorem enc_alike (a b : Ent) : PySem.W.alike (enc a) (enc b) = true := by
  unfold enc
  rw [PySem.W.alike, PySem.W.alikeAll, PySem.W.alike, PySem.W.alike_ints, PySem.W.alikeAll, PySem.W.alike, PySem.W.alikeAll]
  rfl
theorem enc_depth (a : Ent) : (enc a).depth ≤ 2 := by
  unfold enc
  rw [PyData.depth, PyData.depthAll, PyData.depth, PySem.W.depth_ints, PyData.depthAll, PyData.depth, PyData.depthAll]
  decide
theorem vals_ints_nat : ∀ S : List Nat, pV S = (S.map fun (n : Nat) => (n : Int)).map V.int
  | [] => rfl
  | x :: s => by rw [show pV (x :: s) = V.int (x : Int) :: pV s from rfl, vals_ints_nat s]; rfl
theorem key_reads {P : Program} {w : World} {H : Hp} {h : Heap} {e : Ent} (ok : HOk P w H h) (k : KeyAt H e.ka e.S e.l) : ∃ as, Reads h (.ref e.ka) (enc e) as := by
  obtain ⟨q, e1, e2⟩ := k
  obtain ⟨its, o, n, r, h1, h2, h3⟩ := tup_at ok e1
  obtain ⟨_, its2, r2, p2⟩ := (show ObjOk P w H h q (.tup (pV e.S)) from ok q _ e2)
  cases r with
  | cons ra rt =>
    cases rt with
    | cons rb rt =>
      cases rt
      cases ra
      obtain ⟨tk, rfl⟩ := rb
      rw [vals_ints_nat] at r2
      have r3 := reads_tuple_ints p2 r2.ints
      exact ⟨_, .tuple h1 h2 h3 (by simpa using (ReadsAll.cons r3 (ReadsAll.cons (Reads.int (e.l : Int) tk) ReadsAll.nil)))⟩
theorem each_ents {Rl : Value → Ent → Prop} : ∀ es : List Ent, (∀ e ∈ es, Rl (.ref e.ka) e) → PySem.W.EachIs Rl (es.map fun e => Value.ref e.ka) es
  | [], _ => .nil
  | e :: r, h => .cons (h e List.mem_cons_self) (each_ents r fun e' he' => h e' (List.mem_cons_of_mem _ he'))
def rSortN (P : Program) (w : World) : List V → Hp → VK → Prop := fun vs H Q => ∃ (d : Addr) (es : List Ent), vs = [V.ref d] ∧ H d = some (DN P w d es) ∧ KeysOk H es ∧
  ∀ (fs : List Ent) (p : Addr), (∀ e ∈ fs, e ∈ es) → fs.length = es.length → H p = none → Q (.ref p) (upd H p (.lst (fs.map fun e => V.ref e.ka)))
theorem cr_sortN (hc : X.calm = true) (hu : X.A.units + 64 < cLine) : CallR X (.builtin "sorted") (rSortN X.prog X.w) := by
  intro pins s σ H vs us Q I r h
  obtain ⟨d, es, rfl, hd, hk, q⟩ := h
  rw [Vals.ref1 r]
  obtain ⟨hm, hz, o, t, ep, g1, g2, g3, g4, g5⟩ := dn_of I.hok hd
  have hts : t.size = es.length := by rw [size_of_entries g4, List.length_map]
  refine Calls.call_function_entry kind_sorted plain_sorted entry_sorted (args_sorted1 _) ?_
  unfold Builtin.«sorted»
  refine wpAny_bind (m := checkCount "sorted" 1 1 _) (wpAny_pure ?_)
  refine wpAny_bind (PySem.W.kdu_collect (A := X.A.in1) (kdl_raw hm g2 g3) (I.ok.hd hc) g1 (by rw [hts]; exact hz) fun h' tk acc hkp hacc => ?_)
  have hal : acc.toList.length = es.length := by rw [Array.length_toList, hacc.1, hts]
  have ea : acc.toList = es.map fun e => Value.ref e.ka := by
    apply List.ext_getElem?
    intro j
    rw [List.getElem?_map]
    cases hj : acc.toList[j]? with
    | none =>
      have h1 := List.getElem?_eq_none_iff.mp hj
      rw [List.getElem?_eq_none (by omega)]
      rfl
    | some v =>
      obtain ⟨en, hen, hv⟩ := hacc.2 j v (by rw [← Array.getElem?_toList]; exact hj)
      have qe := entry_at g4 j
      rw [hen, List.getElem?_map] at qe
      cases hb : es[j]? with
      | none =>
        rw [hb] at qe
        exact nomatch (show some en = none from qe)
      | some b =>
        rw [hb] at qe
        have e2 : en = entryOfKey (nestedKind X.prog X.w) b.x := Option.some.inj qe
        rw [hv, e2]
        rfl
  have I1 : Inv X pins σ H { s with heap := h', toks := tk } := I.kept hkp
  refine wpAny_bind (wpAny_newList ?_ (by rw [hal]; exact hz))
  rw [ea]
  have hoD : (h'.push (seqObj "list" (es.map fun e => Value.ref e.ka).toArray 0)).get? h'.objs.size = some (seqObj "list" (es.map fun e => Value.ref e.ka).toArray 0) := Heap.get?_push_size _ rfl
  have old : ∀ b u, h'.get? b = some u → (PySem.W.sortingHeap (h'.push (seqObj "list" (es.map fun e => Value.ref e.ka).toArray 0)) h'.objs.size (es.map fun e => Value.ref e.ka)).get? b = some u := fun b u e =>
    PySem.W.sortingHeap_old (Nat.ne_of_lt (Heap.lt_size e)) (Heap.get?_push_of_some _ e)
  have er : PySem.W.EachIs (fun v e => ∃ as, Reads (PySem.W.sortingHeap (h'.push (seqObj "list" (es.map fun e => Value.ref e.ka).toArray 0)) h'.objs.size (es.map fun e => Value.ref e.ka)) v (enc e) as) (es.map fun e => Value.ref e.ka) es :=
    each_ents es fun e he => by
      obtain ⟨as, z⟩ := key_reads I1.hok (hk e he)
      exact ⟨as, Reads.keeps old z⟩
  have hen : PySem.W.AllAlike (es.map enc) := PySem.W.AllAlike.of enc_alike
  have hso : PySem.W.Sortable (es.map enc) := PySem.W.Sortable.tuples fun b => ⟨_, _, rfl⟩
  have hdp : ∀ z, z ∈ es.map enc → X.A.in1.in1.units + z.depth < cLine := fun z hz' => by
    obtain ⟨e, _, rfl⟩ := List.mem_map.mp hz'
    have := enc_depth e
    show X.A.units + 1 + 1 + (enc e).depth < cLine
    omega
  have SA := PySem.W.SortsAt.data (prog := X.prog) (w := X.w) (A := X.A.in1.in1) (s := { s with heap := PySem.W.sortingHeap (h'.push (seqObj "list" (es.map fun e => Value.ref e.ka).toArray 0)) h'.objs.size (es.map fun e => Value.ref e.ka), toks := tk })
    (PySem.W.each_map (R := fun v z => ∃ as, Reads (PySem.W.sortingHeap (h'.push (seqObj "list" (es.map fun e => Value.ref e.ka).toArray 0)) h'.objs.size (es.map fun e => Value.ref e.ka)) v z as) enc er) hen hso hdp
  have eo := PySem.W.sortVals_data (R := fun v e => v = Value.ref e.ka) false (each_ents es fun e _ => rfl) er hen
  have hsl := PySem.W.sortVals_length (κ := PySem.W.dataKind (PySem.W.sortingHeap (h'.push (seqObj "list" (es.map fun e => Value.ref e.ka).toArray 0)) h'.objs.size (es.map fun e => Value.ref e.ka)) (es.map enc)) false (ks := es.map fun e => Value.ref e.ka) (vs := es.map fun e => Value.ref e.ka) rfl
  generalize hgf : es.mergeSort (PySem.W.dataLe false enc) = fs at eo
  generalize hgo : PySem.W.sortVals (PySem.W.dataKind (PySem.W.sortingHeap (h'.push (seqObj "list" (es.map fun e => Value.ref e.ka).toArray 0)) h'.objs.size (es.map fun e => Value.ref e.ka)) (es.map enc)) false (es.map fun e => Value.ref e.ka) (es.map fun e => Value.ref e.ka) = out at eo hsl
  have hfs : ∀ e ∈ fs, e ∈ es := fun e he => by
    rw [← hgf] at he
    exact List.mem_mergeSort.mp he
  have hfl : fs.length = es.length := by rw [← hgf, List.length_mergeSort]
  have hol : out = fs.map fun e => Value.ref e.ka := by
    clear hgf hgo hfs hfl hsl
    induction eo with
    | nil => rfl
    | cons a t ih => rw [List.map_cons, a, ih]
  refine wpAny_bind (wpAny_holding (wpAny_call_entry slot_list_sort ⟨_, hoD, rfl⟩ entry_list_sort
    (PySem.W.list_sort_vals (s := { s with heap := h'.push (seqObj "list" (es.map fun e => Value.ref e.ka).toArray 0), toks := tk }) hoD SA (by rw [List.length_map]; exact hz) ⟨_, rfl, ?_⟩) (args_list_sort _)))
  obtain ⟨c, he'⟩ := sortedHeap_at (vs := es.map fun e => Value.ref e.ka) (out := out.toArray) hoD
  rw [hgo]
  have hlen : (fs.map fun e => V.ref e.ka).length ≤ sizeLine := by rw [List.length_map, hfl]; exact hz
  have hrv : Vals (fs.map fun e => V.ref e.ka) out := by
    rw [hol]
    clear hgf hgo hfs hfl hol hlen eo hsl he'
    induction fs with
    | nil => exact .nil
    | cons e r ih => exact .cons rfl ih
  refine wpAny_pure ⟨_, rfl, .ref h'.objs.size, upd H h'.objs.size (.lst (fs.map fun e => V.ref e.ka)), I1.laid (t' := tk) (fun b u e => ?_) (Nat.le_refl _)
    (show ObjOk X.prog X.w _ _ _ (.lst (fs.map fun e => V.ref e.ka)) from ⟨hlen, out, c, hrv, he'⟩), rfl, q fs _ hfs hfl (I1.hok.fresh (Nat.le_refl _))⟩
  have lb := Heap.lt_size e
  rw [sortedHeap_old (Nat.ne_of_lt lb) (by rw [size_push']; exact Nat.lt_succ_of_lt lb)]
  exact Heap.get?_push_of_some _ e
end
end Hr

/-! The defs of homeround/tables.py, walked. -/
namespace Hr
open PySem PySem.Spec PyProof.Rows L2
/-! ### the text -/
def topS (i : Nat) : Stmt := PySem.Challenge.pw_homeround_k05_whole_shortened.main.body.getD i (.Pass ⟨0, 0, 0, 0⟩)
abbrev sEven : Stmt := topS 1
abbrev sStraight : Stmt := topS 2
abbrev sLeast : Stmt := topS 3
abbrev sShortened : Stmt := topS 4
abbrev sWalk : Stmt := topS 5
/-! ### heaps -/
theorem same_new {H : Hp} {p : Addr} (h : H p = none) (o : HO) : Same H (upd H p o) := fun b u q => by
  rw [upd_ne (ne_of_none q h)]
  exact q
theorem sset {H H1 : Hp} {p : Addr} (s : Same H H1) (h : H p = none) (o : HO) : Same H (upd H1 p o) := fun b u q => by
  rw [upd_ne (ne_of_none q h)]
  exact s b u q
theorem sT {H H1 : Hp} (s : Same H H1) {K : PySem.W.Frag} {a : Addr} {xs : List V} (h : H a = some (.tup xs)) : SqT K H1 a xs := SqT.of (s _ _ h)
theorem atI_map {φ : Nat → V} {n m : Nat} {i : Int} (hi : i = (m : Int)) (hm : m < n) : atI ((List.range n).map φ) i = some (φ m) := by
  rw [hi]
  refine atI_nat ?_
  rw [List.getElem?_map, List.getElem?_range hm]
  rfl
theorem len_map {φ : Nat → V} {n : Nat} : ((List.range n).map φ).length = n := by rw [List.length_map, List.length_range]
theorem map_succ {α : Type} (φ : Nat → α) (i : Nat) : (List.range (i + 1)).map φ = (List.range i).map φ ++ [φ i] := by
  rw [List.range_succ, List.map_append]
  rfl
theorem small256 {n : Nat} (h : n ≤ 256) : n ≤ sizeLine := Nat.le_of_lt (small1000 (by omega))
/-- a table: a tuple of n tuples of n ints -/
abbrev refs (n : Nat) (r : Nat → Addr) : List V := (List.range n).map fun i => V.ref (r i)
abbrev rowI (n : Nat) (g : Nat → Int) : List V := (List.range n).map fun i => V.int (g i)
def TabAt (H : Hp) (a : Addr) (n : Nat) (f : F) : Prop := ∃ r : Nat → Addr, H a = some (.tup (refs n r)) ∧ ∀ i, i < n → H (r i) = some (.tup (rowI n (f i)))
theorem TabAt.keep {H H1 : Hp} {a : Addr} {n : Nat} {f : F} (h : TabAt H a n f) (s : Same H H1) : TabAt H1 a n f := by
  obtain ⟨r, h1, h2⟩ := h
  exact ⟨r, s _ _ h1, fun i hi => s _ _ (h2 i hi)⟩
theorem TabAt.congr {H : Hp} {a : Addr} {n : Nat} {f g : F} (h : TabAt H a n f) (e : ∀ i j, i < n → j < n → f i j = g i j) : TabAt H a n g := by
  obtain ⟨r, h1, h2⟩ := h
  refine ⟨r, h1, fun i hi => ?_⟩
  rw [h2 i hi]
  refine congrArg (fun l => some (HO.tup l)) (List.map_congr_left fun j hj => ?_)
  rw [e i j hi (List.mem_range.mp hj)]
/-- a list of lists -/
def LLAt (H : Hp) (a : Addr) (n : Nat) (r : Nat → Addr) (g : Nat → Nat → Int) : Prop :=
  H a = some (.lst (refs n r)) ∧ ∀ i, i < n → H (r i) = some (.lst (rowI n (g i)))
section
variable {X : Cx} {a b : Expr} {ta tb : TE} {pos : Pos} {K : PySem.W.Frag}
theorem ixT (ha : PE X a ta) (hb : PE X b tb) (hK : X.K = K := by rfl) (hs : PlainIx b := by intro _ _; rfl) : PE X (.Subscript a b pos) (tOp (rIxT K) ta tb) := by
  subst hK
  exact pe_ix ix_tup ha hb hs
theorem ixL (ha : PE X a ta) (hb : PE X b tb) (hK : X.K = K := by rfl) (hs : PlainIx b := by intro _ _; rfl) : PE X (.Subscript a b pos) (tOp (rIxL K) ta tb) := by
  subst hK
  exact pe_ix ix_list ha hb hs
end
theorem yes_ {σ : L2.St} {H : Hp} {Q : Bool → Hp → Prop} (h : Q true H) : tYes σ H Q := h
/-! ### is_even -/
def evenL (n : Nat) (f : F) (m : Nat) : List Bool := (List.range m).map fun k => decide (V.int (f (k / n) (k % n)) = V.int (f (k % n) (k / n)))
def evenB (n : Nat) (f : F) : Bool := (evenL n f (n * n)).all id
theorem evenB_iff {n : Nat} {f : F} : evenB n f = true ↔ ∀ i j, i < n → j < n → f i j = f j i := by
  unfold evenB evenL
  rw [List.all_map, List.all_eq_true]
  constructor
  · intro h i j hi hj
    have hn : 0 < n := by omega
    have hk : n * i + j < n * n := by
      have h1 : n * i + j < n * i + n := by omega
      have h2 : n * i + n = n * (i + 1) := by rw [Nat.mul_add, Nat.mul_one]
      have h3 : n * (i + 1) ≤ n * n := Nat.mul_le_mul_left n (by omega)
      omega
    have q := of_decide_eq_true (h (n * i + j) (List.mem_range.mpr hk))
    have e1 : (n * i + j) / n = i := by
      rw [Nat.mul_add_div hn, Nat.div_eq_of_lt hj, Nat.add_zero]
    have e2 : (n * i + j) % n = j := by
      rw [Nat.mul_add_mod, Nat.mod_eq_of_lt hj]
    rw [e1, e2] at q
    exact V.int.inj q
  · intro h k hk
    have hk := List.mem_range.mp hk
    have hn : 0 < n := by
      rcases Nat.eq_zero_or_pos n with e | e
      · subst e
        exact absurd hk (Nat.not_lt_zero _)
      · exact e
    have h1 : k / n < n := Nat.div_lt_of_lt_mul hk
    have h2 : k % n < n := Nat.mod_lt _ hn
    show decide _ = true
    exact decide_eq_true (by rw [h _ _ h1 h2])
def spEven : Sp := fun vs H Q _ => ∃ (a : Addr) (n : Nat) (f : F), vs = [.ref a] ∧ TabAt H a n f ∧ 0 < n ∧ n ≤ 8 ∧ ∀ H', Same H H' → Q (.bl (evenB n f)) H'
section
variable {P : Program} {w : World} {K : PySem.W.Frag} {mg : Str → Option Value} {base : Heap}
structure Blt (mg : Str → Option Value) : Prop where
  len : mg "len" = none
  all : mg "all" = none
  range : mg "range" = none
  list : mg "list" = none
  tuple : mg "tuple" = none
  sorted : mg "sorted" = none
  zip : mg "zip" = none
  sum : mg "sum" = none
theorem scEven : FnScope ["table", "many", "k"] ["table"] (defScope sEven) := ⟨rfl, rfl, rfl, by decide +kernel, rfl, by decide +kernel, by decide +kernel⟩
theorem ok_even {f0 : Addr} {fd : FuncData} {k : Nat} (F : Fun K "is_even" "is_even" sEven f0 fd) (B : Blt mg) : FnOk P w K mg base CX0 (k + 1) f0 fd ["table"] spEven := by
  refine F.ok scEven (fun vs H Q E h => ?_) (fun cdv A outer s H vs Q E hr h => ?_)
  · obtain ⟨a, n, f, rfl, _⟩ := h
    rfl
  obtain ⟨a, n, f, rfl, ⟨r, ha, hb⟩, hn, h8, q⟩ := h
  refine ⟨_, pss_cons (ps_set (i := 1) scEven.nd rfl (Or.inr rfl) (pe_callB call_len (by rfl) B.len PySem.boot_len (pa_cons (pv 0) pa_nil)))
    (pss_one (ps_ret (pe_callB (cr_all rfl) (by rfl) B.all (by decide +kernel) (pa_cons
      (pe_lc (own := [("k", 2)]) (g := gName 2) rfl scEven.nd (pi_range1 (by rfl) B.range (pa_cons (pe_op op_mul (pv 1) (pv 1)) pa_nil)) (blkOk_by (own := [("k", 2)]) (N := ["table", "many", "k"]) (sc := defScope sEven) (by decide +kernel))
        (fun _ _ _ _ _ => pg_name (i := 2) scEven.nd rfl (Or.inl rfl)) (fun _ _ _ _ _ => pts_nil)
        (fun _ _ _ _ _ => pe_cmpR op_eq (ixT (K := K) (ixT (K := K) (pv 0) (pe_op op_fdiv (pv 2) (pv 1))) (pe_op op_mod (pv 2) (pv 1)))
          (ixT (K := K) (ixT (K := K) (pv 0) (pe_op op_mod (pv 2) (pv 1))) (pe_op op_fdiv (pv 2) (pv 1))) (nomark _)))
      pa_nil)))), ?_⟩
  have hdc : CDiv 0 (n : Int) := ⟨by omega, by omega⟩
  refine ⟨_, rfl, _, n, rfl, .inr ⟨_, SqT.of ha, len_map.symm⟩, ?_⟩
  have hnn : n * n ≤ 64 := Nat.mul_le_mul h8 h8
  have hnz : ((n : Int) * (n : Int)) = ((n * n : Nat) : Int) := by rw [Int.natCast_mul]
  refine ⟨_, rfl, _, rfl, _, _, rfl, rfl, .inl ⟨by omega, by omega⟩, (n : Int) * n, rfl, by omega, by omega, fun D hD => ?_⟩
  have e1 : ((n : Int) * (n : Int)).toNat = n * n := by omega
  rw [e1]
  refine lc_range (lo := 0) (n := n * n) (fun i H1 => H1 = upd H D (.lst ((evenL n f i).map V.bl))) rfl ?_ ?_
  · rintro i H1 hi rfl
    refine ⟨rfl, ?_⟩
    refine yes_ (iteT ?_)
    have hz : D ≠ a := fun e => by
      rw [e, ha] at hD
      cases hD
    have sm : Same H (upd H D (.lst ((evenL n f i).map V.bl))) := same_new hD _
    have hq : i / n < n := Nat.div_lt_of_lt_mul hi
    have hm : i % n < n := Nat.mod_lt _ hn
    have eq : (0 + (i : Int)) / (n : Int) = ((i / n : Nat) : Int) := by rw [Int.zero_add, Int.natCast_ediv]
    have em : (0 + (i : Int)) % (n : Int) = ((i % n : Nat) : Int) := by rw [Int.zero_add, Int.natCast_emod]
    refine ⟨_, rfl, _, rfl, _, rfl, _, _, rfl, rfl, ⟨by omega, by omega⟩, a, _, _, _, rfl, rfl, sT sm ha, atI_map eq hq,
      _, rfl, _, rfl, _, _, rfl, rfl, by omega, _, _, _, _, rfl, rfl, sT sm (hb _ hq), atI_map em hm,
      _, rfl, _, rfl, _, rfl, _, _, rfl, rfl, by omega, a, _, _, _, rfl, rfl, sT sm ha, atI_map em hm,
      _, rfl, _, rfl, _, _, rfl, rfl, ⟨by omega, by omega⟩, _, _, _, _, rfl, rfl, sT sm (hb _ hm), atI_map eq hq, rfl, _, upd_same, ?_, ?_⟩
    · rw [List.length_map]
      unfold evenL
      rw [List.length_map, List.length_range]
      exact small1000 (by omega)
    · rw [upd_upd]
      unfold evenL
      rw [map_succ, List.map_append]
      rfl
  · rintro H1 rfl
    refine ⟨D, _, rfl, SqL.of upd_same, ?_⟩
    exact q _ (same_new hD _)
end
/-! ### lists of lists that are written -/
structure LL (H0 H : Hp) (D : Addr) (m n : Nat) (r : Nat → Addr) (g : Nat → Nat → Int) : Prop where
  same : Same H0 H
  dn : H0 D = none
  top : H D = some (.lst (refs m r))
  row : ∀ k, k < m → H (r k) = some (.lst (rowI n (g k)))
  new : ∀ k, k < m → H0 (r k) = none
  ne : ∀ k, k < m → r k ≠ D
  inj : ∀ k l, k < m → l < m → r k = r l → k = l
theorem LL.at {H0 H : Hp} {D : Addr} {m n : Nat} {r : Nat → Addr} {g : Nat → Nat → Int} (L : LL H0 H D m n r g) : LLAt H D m r (fun _ _ => 0) ∨ True := .inr trivial
section
variable {H0 H : Hp} {D p : Addr} {m n : Nat} {r : Nat → Addr} {g : Nat → Nat → Int}
theorem LL.start (h : H0 D = none) (n : Nat) (r : Nat → Addr) (g : Nat → Nat → Int) : LL H0 (upd H0 D (.lst [])) D 0 n r g :=
  ⟨same_new h _, h, upd_same, fun _ z => absurd z (Nat.not_lt_zero _), fun _ z => absurd z (Nat.not_lt_zero _), fun _ z => absurd z (Nat.not_lt_zero _), fun _ _ z => absurd z (Nat.not_lt_zero _)⟩
theorem LL.keep {H1 : Hp} (L : LL H0 H D m n r g) (s : Same H H1) : LL H0 H1 D m n r g :=
  ⟨L.same.trans s, L.dn, s _ _ L.top, fun k hk => s _ _ (L.row k hk), L.new, L.ne, L.inj⟩
theorem LL.base {HB : Hp} (L : LL H0 H D m n r g) (s : Same HB H0) : LL HB H D m n r g :=
  ⟨s.trans L.same, s.free L.dn, L.top, L.row, fun k hk => s.free (L.new k hk), L.ne, L.inj⟩
theorem LL.congr {g' : Nat → Nat → Int} (L : LL H0 H D m n r g) (h : ∀ i j, i < m → j < n → g i j = g' i j) : LL H0 H D m n r g' :=
  ⟨L.same, L.dn, L.top, fun k hk => (L.row k hk).trans (congrArg (fun l => some (HO.lst l)) (List.map_congr_left fun j hj => by rw [h k j hk (List.mem_range.mp hj)])), L.new, L.ne, L.inj⟩
theorem refs_ext {q : Nat → Addr} (h : ∀ k, k < m → r k = q k) : refs m r = refs m q := List.map_congr_left fun k hk => by rw [h k (List.mem_range.mp hk)]
theorem LL.grow (L : LL H0 H D m n r g) (hp : H p = none) : LL H0 (upd (upd H p (.lst (rowI n (g m)))) D (.lst (refs m r ++ [.ref p]))) D (m + 1) n (fun k => if k < m then r k else p) g := by
  have hpD : p ≠ D := fun e => by
    rw [e, L.top] at hp
    cases hp
  have hpr : ∀ k, k < m → r k ≠ p := fun k hk e => by
    have z := L.row k hk
    rw [e, hp] at z
    cases z
  have hn := L.same.free hp
  refine ⟨fun b o q => ?_, L.dn, ?_, fun k hk => ?_, fun k hk => ?_, fun k hk => ?_, fun k l hk hl => ?_⟩
  · rw [upd_ne (ne_of_none q L.dn), upd_ne (ne_of_none q hn)]
    exact L.same b o q
  · rw [upd_same, refs, refs, map_succ]
    have e : refs m r = refs m fun k => if k < m then r k else p := refs_ext fun k hk => by rw [if_pos hk]
    show some (HO.lst (refs m r ++ [V.ref p])) = some (HO.lst (refs m (fun k => if k < m then r k else p) ++ [V.ref (if m < m then r m else p)]))
    rw [← e, if_neg (Nat.lt_irrefl m)]
  · show upd _ _ _ (if k < m then r k else p) = _
    by_cases c : k < m
    · rw [if_pos c, upd_ne (L.ne k c), upd_ne (hpr k c)]
      exact L.row k c
    · have e : k = m := by omega
      subst e
      rw [if_neg c, upd_ne hpD, upd_same]
  · show H0 (if k < m then r k else p) = none
    by_cases c : k < m
    · rw [if_pos c]
      exact L.new k c
    · rw [if_neg c]
      exact hn
  · show (if k < m then r k else p) ≠ D
    by_cases c : k < m
    · rw [if_pos c]
      exact L.ne k c
    · rw [if_neg c]
      exact hpD
  · show (if k < m then r k else p) = (if l < m then r l else p) → k = l
    by_cases c : k < m <;> by_cases d : l < m
    · rw [if_pos c, if_pos d]
      exact L.inj k l c d
    · rw [if_pos c, if_neg d]
      exact fun e => absurd e (hpr k c)
    · rw [if_neg c, if_pos d]
      exact fun e => absurd e.symm (hpr l d)
    · omega
theorem row_set {t : Nat} {v : Int} {φ : Nat → Int} (ht : t < n) : (rowI n φ).set t (V.int v) = rowI n fun j => if j = t then v else φ j := by
  apply List.ext_getElem?
  intro j
  rw [List.getElem?_set, List.getElem?_map, List.getElem?_map, List.length_map, List.length_range]
  by_cases c : t = j
  · subst c
    rw [if_pos rfl, if_pos ht, List.getElem?_range ht]
    show some (V.int v) = some (V.int (if t = t then v else φ t))
    rw [if_pos rfl]
  · rw [if_neg c]
    by_cases d : j < n
    · rw [List.getElem?_range d]
      show some (V.int (φ j)) = some (V.int (if j = t then v else φ j))
      rw [if_neg (fun e => c e.symm)]
    · rw [List.getElem?_eq_none (by rw [List.length_range]; omega)]
      rfl
theorem LL.put (L : LL H0 H D m n r g) {h t : Nat} (hh : h < m) (ht : t < n) (v : Int) : LL H0 (upd H (r h) (.lst ((rowI n (g h)).set t (V.int v)))) D m n r (fun i j => if i = h ∧ j = t then v else g i j) := by
  refine ⟨sset L.same (L.new h hh) _, L.dn, ?_, fun k hk => ?_, L.new, L.ne, L.inj⟩
  · rw [upd_ne (L.ne h hh).symm]
    exact L.top
  · by_cases c : k = h
    · subst c
      rw [upd_same, row_set ht]
      refine congrArg (fun l => some (HO.lst l)) (List.map_congr_left fun j _ => ?_)
      show V.int (if j = t then v else g k j) = V.int (if k = k ∧ j = t then v else g k j)
      by_cases d : j = t
      · rw [if_pos d, if_pos ⟨rfl, d⟩]
      · rw [if_neg d, if_neg (fun z => d z.2)]
    · rw [upd_ne (fun e => c (L.inj k h hk hh e)), L.row k hk]
      refine congrArg (fun l => some (HO.lst l)) (List.map_congr_left fun j _ => ?_)
      show V.int (g k j) = V.int (if k = h ∧ j = t then v else g k j)
      rw [if_neg (fun z : k = h ∧ j = t => c z.1)]
theorem LL.other (L : LL H0 H D m n r g) {o : HO} (h1 : p ≠ D) (h2 : ∀ k, k < m → p ≠ r k) (h3 : H0 p = none) : LL H0 (upd H p o) D m n r g :=
  ⟨sset L.same h3 _, L.dn, by rw [upd_ne h1.symm]; exact L.top, fun k hk => by rw [upd_ne (h2 k hk).symm]; exact L.row k hk, L.new, L.ne, L.inj⟩
theorem LL.llat (L : LL H0 H D n n r g) : LLAt H D n r g := ⟨L.top, L.row⟩
end
theorem ixN_nat {n m : Nat} (h : m < n) : ixN n (m : Int) = some m := by
  unfold ixN
  rw [if_pos (by omega), if_pos (by omega)]
  rfl
theorem row_get {n i : Nat} {φ : Nat → V} {x : V} (h : ((List.range n).map φ)[i]? = some x) : i < n ∧ x = φ i := by
  have hi : i < n := by
    have := (List.getElem?_eq_some_iff.mp h).1
    rwa [List.length_map, List.length_range] at this
  rw [List.getElem?_map, List.getElem?_range hi] at h
  exact ⟨hi, (Option.some.inj h).symm⟩
theorem rgV_eq (n : Nat) : rgV 0 (n : Int) = rowI n fun i => (i : Int) := by
  unfold rgV
  have e : ((n : Int) - 0).toNat = n := by omega
  rw [e]
  exact List.map_congr_left fun i _ => by rw [Int.zero_add]
/-! ### least_ways -/
def mix {α : Type} (A B : Nat → Nat → α) (j l : Nat) : Nat → Nat → α := fun x y => if x < j ∨ (x = j ∧ y < l) then A x y else B x y
theorem mix_zero {α : Type} (A B : Nat → Nat → α) : mix A B 0 0 = B := by
  funext x y
  exact if_neg (by omega)
theorem mix_next {α : Type} (A B : Nat → Nat → α) {j n x y : Nat} (hy : y < n) : mix A B j n x y = mix A B (j + 1) 0 x y := by
  unfold mix
  by_cases c : x < j + 1
  · rw [if_pos (by omega), if_pos (by omega)]
  · rw [if_neg (by omega), if_neg (by omega)]
theorem mix_end {α : Type} (A B : Nat → Nat → α) {n x y : Nat} (hx : x < n) : mix A B n 0 x y = A x y := if_pos (.inl hx)
theorem mix_put {α : Type} (A B : Nat → Nat → α) (j l : Nat) : (fun x y => if x = j ∧ y = l then A j l else mix A B j l x y) = mix A B j (l + 1) := by
  funext x y
  unfold mix
  by_cases c : x = j ∧ y = l
  · rw [if_pos c, if_pos (by omega), c.1, c.2]
  · rw [if_neg c]
    by_cases d : x < j ∨ (x = j ∧ y < l)
    · rw [if_pos d, if_pos (by omega)]
    · rw [if_neg d, if_neg (by omega)]
theorem mix_same {α : Type} {A B : Nat → Nat → α} {j l : Nat} (h : A j l = B j l) : mix A B j l = mix A B j (l + 1) := by
  rw [← mix_put]
  funext x y
  by_cases c : x = j ∧ y = l
  · rw [if_pos c, c.1, c.2, h]
    exact if_neg (by omega)
  · rw [if_neg c]
theorem mix_both {α : Type} {A B : Nat → Nat → α} {j l x y : Nat} (h : A x y = B x y) : mix A B j l x y = B x y := by
  unfold mix
  split
  · exact h
  · rfl
def spLeast : Sp := fun vs H Q _ => ∃ (a : Addr) (n : Nat) (f : F), vs = [.ref a] ∧ TabAt H a n f ∧ Nice f ∧ n ≤ 8 ∧ ∀ (H' : Hp) (p D1 D2 : Addr) (r1 r2 : Nat → Addr), Same H H' → H' p = some (.tup [.ref D1, .ref D2]) →
  LLAt H' D1 n r1 (fw n f) → LLAt H' D2 n r2 (fun i j => (ah n f i j : Int)) → Q (.ref p) H'
section
variable {X : Cx} {K : PySem.W.Frag}
def rListOf (K : PySem.W.Frag) : List V → Hp → VK → Prop := fun xs H Q => ∃ p ys, xs = [.ref p] ∧ (SqL K H p ys ∨ SqT K H p ys) ∧ ∀ l, H l = none → Q (.ref l) (upd H l (.lst ys))
theorem cl_list (hK : X.K = K := by rfl) : CallR X (.type "list") (rListOf K) := by
  subst hK
  exact call_list_of
def rTupOf (K : PySem.W.Frag) : List V → Hp → VK → Prop := fun xs H Q => ∃ p ys, xs = [.ref p] ∧ SqL K H p ys ∧ ∀ l, H l = none → Q (.ref l) (upd H l (.tup ys))
theorem cl_tup (hK : X.K = K := by rfl) : CallR X (.type "tuple") (rTupOf K) := by
  subst hK
  intro pins s σ H xs us Q I r h
  obtain ⟨p, ys, e, h1, h2⟩ := h
  exact call_tuple_of pins s σ H xs us Q I r ⟨p, ys, e, .inl ⟨h1, h2⟩⟩
end
section
variable {P : Program} {w : World} {K : PySem.W.Frag} {mg : Str → Option Value} {base : Heap}
abbrev nLeast : List Str := ["table", "places", "found", "ahead", "middle", "here", "there", "more", "line"]
theorem scLeast : FnScope nLeast ["table"] (defScope sLeast) := ⟨rfl, rfl, rfl, by decide +kernel, rfl, by decide +kernel, by decide +kernel⟩
theorem ok_least {f0 : Addr} {fd : FuncData} {k : Nat} (Fn : Fun K "least_ways" "least_ways" sLeast f0 fd) (B : Blt mg) : FnOk P w K mg base CX0 (k + 1) f0 fd ["table"] spLeast := by
  refine Fn.ok scLeast (fun vs H Q E h => ?_) (fun cdv A outer s H vs Q E hr h => ?_)
  · obtain ⟨a, n, f, rfl, _⟩ := h
    rfl
  obtain ⟨a, n, f, rfl, ⟨r, ha, hb⟩, hf, h8, q⟩ := h
  refine ⟨_, pss_cons (ps_set (i := 1) scLeast.nd rfl (Or.inr rfl) (pe_listRg rfl (by rfl) B.list (prg_1 (by rfl) B.range (pe_callB call_len (by rfl) B.len PySem.boot_len (pa_cons (pv 0) pa_nil)))))
    (pss_cons (ps_setLc (i := 2) (own := [("line", 8)]) (g := gName 8) (by rfl) scLeast.nd rfl rfl (sw_true rfl rfl rfl (by decide +kernel)) (pi_tup (pv 0)) (blkOk_by (own := [("line", 8)]) (N := nLeast) (sc := defScope sLeast) (by decide +kernel))
        (fun _ _ _ _ _ => pg_name (i := 8) scLeast.nd rfl (Or.inl rfl)) (fun _ _ _ _ _ => pts_nil) (fun _ _ _ _ _ => pe_callTy (cl_list (K := K)) (by rfl) B.list (by decide +kernel) (pa_cons (pv 8) pa_nil)))
    (pss_cons (ps_setLc (i := 3) (own := [("line", 8)]) (g := gName 8) (by rfl) scLeast.nd rfl rfl (sw_true rfl rfl rfl (by decide +kernel)) (pi_tup (pv 0)) (blkOk_by (own := [("line", 8)]) (N := nLeast) (sc := defScope sLeast) (by decide +kernel))
        (fun _ _ _ _ _ => pg_name (i := 8) scLeast.nd rfl (Or.inl rfl)) (fun _ _ _ _ _ => pts_nil) (fun _ _ _ _ _ => pe_callTy (cl_list (K := K)) (by rfl) B.list (by decide +kernel) (pa_cons (pv 1) pa_nil)))
    (pss_cons (ps_for PassesOwn.never rfl (pi_list (pv 1)) (pg_name (i := 4) scLeast.nd rfl (Or.inl rfl))
      (pss_one (ps_for PassesOwn.never rfl (pi_list (pv 1)) (pg_name (i := 5) scLeast.nd rfl (Or.inl rfl))
        (pss_one (ps_for PassesOwn.never rfl (pi_list (pv 1)) (pg_name (i := 6) scLeast.nd rfl (Or.inl rfl))
          (pss_cons (ps_set (i := 7) scLeast.nd rfl (Or.inl rfl) (pe_op op_add (ixL (K := K) (ixL (K := K) (pv 2) (pv 5)) (pv 4)) (ixL (K := K) (ixL (K := K) (pv 2) (pv 4)) (pv 6))))
          (pss_one (ps_if (pt_cmpR op_lt (pv 7) (ixL (K := K) (ixL (K := K) (pv 2) (pv 5)) (pv 6)) (nomark _))
            (pss_cons (ps_asg (pv 7) (pg_sub (ixL (K := K) (pv 2) (pv 5)) (pv 6) set_list))
            (pss_one (ps_asg (ixL (K := K) (ixL (K := K) (pv 3) (pv 5)) (pv 4)) (pg_sub (ixL (K := K) (pv 3) (pv 5)) (pv 6) set_list)))) pss_nil))))))))
    (pss_one (ps_ret (pe_tup (pa_cons (pv 2) (pa_cons (pv 3) pa_nil)))))))), ?_⟩
  -- places
  refine ⟨_, rfl, _, n, rfl, .inr ⟨_, SqT.of ha, len_map.symm⟩, (n : Int), rfl, RgOk.of_le (by omega) (by omega) (by omega) (by omega), fun pl hpl => ?_⟩
  rw [rgV_eq]
  have s0 : Same H (upd H pl (.lst (rowI n fun i => (i : Int)))) := same_new hpl _
  have hp0 : (upd H pl (.lst (rowI n fun i => (i : Int)))) pl = some (.lst (rowI n fun i => (i : Int))) := upd_same
  generalize upd H pl (.lst (rowI n fun i => (i : Int))) = H0 at s0 hp0
  -- found
  refine ⟨_, rfl, a, rfl, ⟨_, sT s0 ha⟩, fun D1 hD1 => ?_⟩
  refine lc_tup (K := K) (a := a) (xs := refs n r) (fun i H1 => ∃ r1, LL H0 H1 D1 i n r1 f) ⟨r, LL.start hD1 n r f⟩ (fun i H1 _ ⟨_, L⟩ => sT (s0.trans L.same) ha) ?_ ?_
  · rintro i x H1 hi ⟨r1, L⟩
    obtain ⟨hin, rfl⟩ := row_get hi
    refine ⟨rfl, yes_ (iteT ?_)⟩
    refine ⟨_, rfl, r i, _, rfl, .inr (sT (s0.trans L.same) (hb i hin)), fun p hp => ?_⟩
    have hpD : D1 ≠ p := fun e => by
      rw [← e, L.top] at hp
      cases hp
    exact ⟨refs i r1, by rw [upd_ne hpD]; exact L.top, by rw [len_map]; exact small1000 (by omega), _, L.grow hp⟩
  rintro H1 ⟨r1, L1⟩
  rw [len_map] at L1
  -- ahead
  have hp1 := L1.same _ _ hp0
  refine ⟨_, rfl, a, rfl, ⟨_, sT (s0.trans L1.same) ha⟩, fun D2 hD2 => ?_⟩
  refine lc_tup (K := K) (a := a) (xs := refs n r) (fun i H2 => ∃ r2, LL H1 H2 D2 i n r2 (fun _ j => (j : Int))) ⟨r, LL.start hD2 n r _⟩ (fun i H2 _ ⟨_, L⟩ => sT ((s0.trans L1.same).trans L.same) ha) ?_ ?_
  · rintro i x H2 hi ⟨r2, L⟩
    obtain ⟨hin, rfl⟩ := row_get hi
    refine ⟨rfl, yes_ (iteT ?_)⟩
    refine ⟨_, rfl, pl, _, rfl, .inl (SqL.of (L.same _ _ hp1)), fun p hp => ?_⟩
    have hpD : D2 ≠ p := fun e => by
      rw [← e, L.top] at hp
      cases hp
    exact ⟨refs i r2, by rw [upd_ne hpD]; exact L.top, by rw [len_map]; exact small1000 (by omega), _, L.grow hp⟩
  rintro H2 ⟨r2, L2⟩
  rw [len_map] at L2
  -- what stands apart
  have hDD : D1 ≠ D2 := fun e => by
    have z := L1.top
    rw [e, L2.dn] at z
    cases z
  have a1 : ∀ i, i < n → r1 i ≠ D2 := fun i hi e => by
    have z := L1.row i hi
    rw [e, L2.dn] at z
    cases z
  have a2 : ∀ i, i < n → r2 i ≠ D1 := fun i hi e => by
    have z := L1.top
    rw [← e, L2.new i hi] at z
    cases z
  have a3 : ∀ i j, i < n → j < n → r1 i ≠ r2 j := fun i j hi hj e => by
    have z := L1.row i hi
    rw [e, L2.new j hj] at z
    cases z
  have M1 : LL H0 H2 D1 n n r1 (fw 0 f) := L1.keep L2.same
  have M2 : LL H0 H2 D2 n n r2 (fun i j => (ah 0 f i j : Int)) := L2.base L1.same
  clear L1 L2 hD1 hD2 hp1
  refine ⟨_, rfl, pl, rfl, ⟨_, SqL.of (M1.same _ _ hp0)⟩, for_list (K := K) (a := pl) (xs := rowI n fun i => (i : Int))
    (fun i σ H3 => ∃ v4 v5 v6 v7 v8, σ = [some (.ref a), some (.ref pl), some (.ref D1), some (.ref D2), v4, v5, v6, v7, v8] ∧ LL H0 H3 D1 n n r1 (fw i f) ∧ LL H0 H3 D2 n n r2 (fun x y => (ah i f x y : Int)))
    ⟨none, none, none, none, none, rfl, M1, M2⟩ (fun i σ H3 _ ⟨_, _, _, _, _, _, L, _⟩ => SqL.of (L.same _ _ hp0)) ?_ ?_⟩
  · rintro i x σ H3 hi ⟨v4, v5, v6, v7, v8, rfl, L1, L2⟩
    obtain ⟨hin, rfl⟩ := row_get hi
    refine ⟨_, rfl, pl, rfl, ⟨_, SqL.of (L1.same _ _ hp0)⟩, for_list (K := K) (a := pl) (xs := rowI n fun i => (i : Int))
      (fun j σ H3 => ∃ v5 v6 v7 v8, σ = [some (.ref a), some (.ref pl), some (.ref D1), some (.ref D2), some (.int (i : Int)), v5, v6, v7, v8] ∧ LL H0 H3 D1 n n r1 (mix (fw (i + 1) f) (fw i f) j 0) ∧
        LL H0 H3 D2 n n r2 (fun x y => ((mix (ah (i + 1) f) (ah i f) j 0 x y : Nat) : Int)))
      ⟨v5, v6, v7, v8, rfl, by rw [mix_zero]; exact L1, by rw [mix_zero]; exact L2⟩ (fun j σ H3 _ ⟨_, _, _, _, _, L, _⟩ => SqL.of (L.same _ _ hp0)) ?_ ?_⟩
    · rintro j x σ H4 hj ⟨w5, w6, w7, w8, rfl, L1, L2⟩
      obtain ⟨hjn, rfl⟩ := row_get hj
      refine ⟨_, rfl, pl, rfl, ⟨_, SqL.of (L1.same _ _ hp0)⟩, for_list (K := K) (a := pl) (xs := rowI n fun i => (i : Int))
        (fun l σ H3 => ∃ v6 v7 v8, σ = [some (.ref a), some (.ref pl), some (.ref D1), some (.ref D2), some (.int (i : Int)), some (.int (j : Int)), v6, v7, v8] ∧ LL H0 H3 D1 n n r1 (mix (fw (i + 1) f) (fw i f) j l) ∧
          LL H0 H3 D2 n n r2 (fun x y => ((mix (ah (i + 1) f) (ah i f) j l x y : Nat) : Int)))
        ⟨w6, w7, w8, rfl, L1, L2⟩ (fun j σ H3 _ ⟨_, _, _, _, L, _⟩ => SqL.of (L.same _ _ hp0)) ?_ ?_⟩
      · rintro l x σ H5 hl ⟨u6, u7, u8, rfl, L1, L2⟩
        obtain ⟨hln, rfl⟩ := row_get hl
        have t1 : mix (fw (i + 1) f) (fw i f) j l j i = fw i f j i := mix_both (fw_col hf i j)
        have t2 : mix (fw (i + 1) f) (fw i f) j l i l = fw i f i l := mix_both (fw_row hf i l)
        have t3 : mix (fw (i + 1) f) (fw i f) j l j l = fw i f j l := if_neg (by omega)
        have t4 : mix (ah (i + 1) f) (ah i f) j l j i = ah i f j i := mix_both (ah_col hf i j)
        refine ⟨_, rfl, _, rfl, D1, _, _, _, rfl, rfl, SqL.of L1.top, atI_map rfl hjn, _, rfl, _, _, _, _, rfl, rfl, SqL.of (L1.row j hjn), atI_map rfl hin,
          _, rfl, _, rfl, D1, _, _, _, rfl, rfl, SqL.of L1.top, atI_map rfl hin, _, rfl, _, _, _, _, rfl, rfl, SqL.of (L1.row i hin), atI_map rfl hln, _, _, rfl, rfl, ?_⟩
        rw [t1, t2]
        refine ⟨_, rfl, _, rfl, _, rfl, D1, _, _, _, rfl, rfl, SqL.of L1.top, atI_map rfl hjn, _, rfl, _, _, _, _, rfl, rfl, SqL.of (L1.row j hjn), atI_map rfl hln, _, _, rfl, rfl, _, rfl, ?_⟩
        rw [t3]
        refine ite2 (fun c => ?_) (fun c => ?_)
        · have c' := of_decide_eq_true c
          have e1 : fw (i + 1) f j l = fw i f j i + fw i f i l := by rw [fw_succ, if_pos c']
          have e2 : ah (i + 1) f j l = ah i f j i := by rw [ah_succ, if_pos c']
          refine ⟨_, rfl, _, rfl, _, rfl, D1, _, _, _, rfl, rfl, SqL.of L1.top, atI_map rfl hjn, _, rfl, r1 j, _, _, l, rfl, rfl, L1.row j hjn, (by rw [len_map]; exact ixN_nat hln), ?_⟩
          have N1 := L1.put hjn hln (fw i f j i + fw i f i l)
          have N2 := L2.other (p := r1 j) (o := .lst ((rowI n (mix (fw (i + 1) f) (fw i f) j l j)).set l (V.int (fw i f j i + fw i f i l)))) (a1 j hjn) (fun k hk => a3 j k hjn hk) (L1.new j hjn)
          generalize upd H5 (r1 j) (.lst ((rowI n (mix (fw (i + 1) f) (fw i f) j l j)).set l (V.int (fw i f j i + fw i f i l)))) = H6 at N1 N2
          refine ⟨_, rfl, _, rfl, D2, _, _, _, rfl, rfl, SqL.of N2.top, atI_map rfl hjn, _, rfl, _, _, _, _, rfl, rfl, SqL.of (N2.row j hjn), atI_map rfl hin,
            _, rfl, _, rfl, D2, _, _, _, rfl, rfl, SqL.of N2.top, atI_map rfl hjn, _, rfl, r2 j, _, _, l, rfl, rfl, N2.row j hjn, (by rw [len_map]; exact ixN_nat hln), ?_⟩
          have O2 := N2.put hjn hln ((mix (ah (i + 1) f) (ah i f) j l j i : Nat) : Int)
          have O1 := N1.other (p := r2 j) (o := .lst ((rowI n fun y => ((mix (ah (i + 1) f) (ah i f) j l j y : Nat) : Int)).set l (V.int ((mix (ah (i + 1) f) (ah i f) j l j i : Nat) : Int)))) (a2 j hjn) (fun k hk e => a3 k j hk hjn e.symm) (L2.new j hjn)
          refine ⟨_, _, _, rfl, ?_, ?_⟩
          · rw [← mix_put, e1]
            exact O1
          · refine O2.congr fun x y _ _ => ?_
            rw [← mix_put, e2, t4]
            show (if x = j ∧ y = l then ((ah i f j i : Nat) : Int) else ((mix (ah (i + 1) f) (ah i f) j l x y : Nat) : Int)) = ((if x = j ∧ y = l then ah i f j i else mix (ah (i + 1) f) (ah i f) j l x y : Nat) : Int)
            by_cases d : x = j ∧ y = l
            · rw [if_pos d, if_pos d]
            · rw [if_neg d, if_neg d]
        · have c' : ¬ fw i f j i + fw i f i l < fw i f j l := fun z => c (decide_eq_true z)
          have e1 : fw (i + 1) f j l = fw i f j l := by rw [fw_succ, if_neg c']
          have e2 : ah (i + 1) f j l = ah i f j l := by rw [ah_succ, if_neg c']
          exact ⟨_, _, _, rfl, by rw [← mix_same e1]; exact L1, by rw [← mix_same e2]; exact L2⟩
      · rintro σ H5 ⟨u6, u7, u8, rfl, L1, L2⟩
        rw [len_map] at L1 L2
        exact ⟨_, _, _, _, rfl, L1.congr fun x y _ hy => mix_next _ _ hy, L2.congr fun x y _ hy => by rw [mix_next _ _ hy]⟩
    · rintro σ H4 ⟨w5, w6, w7, w8, rfl, L1, L2⟩
      rw [len_map] at L1 L2
      exact ⟨_, _, _, _, _, rfl, L1.congr fun x y hx _ => mix_end _ _ hx, L2.congr fun x y hx _ => by rw [mix_end _ _ hx]⟩
  · rintro σ H3 ⟨v4, v5, v6, v7, v8, rfl, L1, L2⟩
    rw [len_map] at L1 L2
    refine ⟨_, rfl, _, rfl, (by show 2 ≤ sizeLine; decide), fun p hp => ?_⟩
    have sp := same_new hp (.tup [.ref D1, .ref D2])
    exact q _ p D1 D2 r1 r2 ((s0.trans L1.same).trans sp) upd_same (L1.keep sp).llat (L2.keep sp).llat
end
end Hr

/-! shortened, is_straight, walk. -/
namespace Hr
open PySem PySem.Spec PyProof.Rows L2
/-! ### a list of new things that stay -/
structure LB (H0 H : Hp) (D : Addr) (m : Nat) (r : Nat → Addr) (o : Nat → HO) : Prop where
  same : Same H0 H
  dn : H0 D = none
  top : H D = some (.lst (refs m r))
  row : ∀ k, k < m → H (r k) = some (o k)
  ne : ∀ k, k < m → r k ≠ D
section
variable {H0 H : Hp} {D p : Addr} {m : Nat} {r : Nat → Addr} {o : Nat → HO}
theorem LB.start (h : H0 D = none) (r : Nat → Addr) (o : Nat → HO) : LB H0 (upd H0 D (.lst [])) D 0 r o :=
  ⟨same_new h _, h, upd_same, fun _ z => absurd z (Nat.not_lt_zero _), fun _ z => absurd z (Nat.not_lt_zero _)⟩
theorem LB.keep {H1 : Hp} (L : LB H0 H D m r o) (s : Same H H1) : LB H0 H1 D m r o :=
  ⟨L.same.trans s, L.dn, s _ _ L.top, fun k hk => s _ _ (L.row k hk), L.ne⟩
theorem LB.neD (L : LB H0 H D m r o) (hp : H p = none) : D ≠ p := fun e => by
  rw [← e, L.top] at hp
  cases hp
/-- an item more, which stands at p -/
theorem LB.add (L : LB H0 H D m r o) (hp : H p = some (o m)) (hD : p ≠ D) : LB H0 (upd H D (.lst (refs m r ++ [.ref p]))) D (m + 1) (fun k => if k < m then r k else p) o := by
  refine ⟨fun b u q => ?_, L.dn, ?_, fun k hk => ?_, fun k hk => ?_⟩
  · rw [upd_ne (ne_of_none q L.dn)]
    exact L.same b u q
  · rw [upd_same, refs, refs, map_succ]
    have e : refs m r = refs m fun k => if k < m then r k else p := refs_ext fun k hk => by rw [if_pos hk]
    show some (HO.lst (refs m r ++ [V.ref p])) = some (HO.lst (refs m (fun k => if k < m then r k else p) ++ [V.ref (if m < m then r m else p)]))
    rw [← e, if_neg (Nat.lt_irrefl m)]
  · show upd _ _ _ (if k < m then r k else p) = _
    by_cases c : k < m
    · rw [if_pos c, upd_ne (L.ne k c)]
      exact L.row k c
    · have e : k = m := by omega
      subst e
      rw [if_neg c, upd_ne hD]
      exact hp
  · show (if k < m then r k else p) ≠ D
    by_cases c : k < m
    · rw [if_pos c]
      exact L.ne k c
    · rw [if_neg c]
      exact hD
theorem LB.grow (L : LB H0 H D m r o) (hp : H p = none) : LB H0 (upd (upd H p (o m)) D (.lst (refs m r ++ [.ref p]))) D (m + 1) (fun k => if k < m then r k else p) o :=
  (L.keep (same_new hp _)).add upd_same (L.neD hp).symm
end
/-! ### shortened -/
def spShort : Sp := fun vs H Q _ => ∃ (a : Addr) (n : Nat) (f : F), vs = [.ref a] ∧ TabAt H a n f ∧ Nice f ∧ n ≤ 8 ∧ ∀ (H' : Hp) (p : Addr), Same H H' → TabAt H' p n (fw n f) → Q (.ref p) H'
section
variable {P : Program} {w : World} {K : PySem.W.Frag} {mg : Str → Option Value} {base : Heap}
theorem scShort : FnScope ["table", "line"] ["table"] (defScope sShortened) := ⟨rfl, rfl, rfl, by decide +kernel, rfl, by decide +kernel, by decide +kernel⟩
theorem ok_short {f0 f1 : Addr} {fd fd1 : FuncData} (Fn : Fun K "shortened" "shortened" sShortened f0 fd) (B : Blt mg) (G : FnOk P w K mg base CX0 1 f1 fd1 ["table"] spLeast) (bG : Binds K fd1 ["table"] []) (kG : PySem.W.keepIn K (.ref f1) = true) (mG : mg "least_ways" = some (.ref f1)) :
    FnOk P w K mg base CX0 2 f0 fd ["table"] spShort := by
  refine Fn.ok scShort (fun vs H Q E h => ?_) (fun cdv A outer s H vs Q E hr h => ?_)
  · obtain ⟨a, n, f, rfl, _⟩ := h
    rfl
  obtain ⟨a, n, f, rfl, ha, hf, h8, q⟩ := h
  refine ⟨_, pss_one (ps_ret (pe_callTy (cl_tup (K := K)) (by rfl) B.tuple (by decide +kernel) (pa_cons
    (pe_lc (own := [("line", 1)]) (g := gName 1) rfl scShort.nd (pi_list (ixT (K := K) (pe_call G hr (by rfl) mG kG bG .nil pass0 (pa_cons (pv 0) pa_nil)) pe_int))
      (blkOk_by (own := [("line", 1)]) (N := ["table", "line"]) (sc := defScope sShortened) (by decide +kernel))
      (fun _ _ _ _ _ => pg_name (i := 1) scShort.nd rfl (Or.inl rfl)) (fun _ _ _ _ _ => pts_nil) (fun _ _ _ _ _ => pe_callTy (cl_tup (K := K)) (by rfl) B.tuple (by decide +kernel) (pa_cons (pv 1) pa_nil)))
    pa_nil))), ?_⟩
  refine ⟨_, rfl, a, n, f, rfl, ha, hf, h8, fun H1 p D1 D2 r1 r2 s1 hp L1 L2 => ?_⟩
  refine ⟨p, _, 0, _, rfl, rfl, SqT.of hp, atI_nat (j := 0) rfl, D1, rfl, ⟨_, SqL.of L1.1⟩, fun D hD => ?_⟩
  refine lc_list (K := K) (a := D1) (xs := refs n r1) (fun i H2 => ∃ r, LB H1 H2 D i r (fun k => .tup (rowI n (fw n f k)))) ⟨r1, LB.start hD _ _⟩ (fun i H2 _ ⟨_, L⟩ => SqL.of (L.same _ _ L1.1)) ?_ ?_
  · rintro i x H2 hi ⟨r, L⟩
    obtain ⟨hin, rfl⟩ := row_get hi
    refine ⟨rfl, yes_ (iteT ?_)⟩
    refine ⟨_, rfl, r1 i, _, rfl, SqL.of (L.same _ _ (L1.2 i hin)), fun t ht => ?_⟩
    exact ⟨refs i r, by rw [upd_ne (L.neD ht)]; exact L.top, by rw [len_map]; exact small1000 (by omega), _, L.grow ht⟩
  · rintro H2 ⟨r, L⟩
    rw [len_map] at L
    refine ⟨D, _, rfl, SqL.of L.top, fun t ht => ?_⟩
    have st := same_new ht (.tup (refs n r))
    exact q _ t ((s1.trans L.same).trans st) ⟨r, upd_same, fun i hi => st _ _ (L.row i hi)⟩
/-! ### is_straight -/
def tabD (n : Nat) (f : F) : PyData := .tuple ((List.range n).map fun i => .tuple ((List.range n).map fun j => .int (f i j)))
theorem dpAll_map {H : Hp} {α : Type} {φ : α → V} {δ : α → PyData} : ∀ l : List α, (∀ i ∈ l, Dp K H (φ i) (δ i)) → DpAll K H (l.map φ) (l.map δ)
  | [], _ => .nil
  | i :: l, h => .cons (h i List.mem_cons_self) (dpAll_map l fun j hj => h j (List.mem_cons_of_mem _ hj))
theorem TabAt.dp {H : Hp} {a : Addr} {n : Nat} {f : F} (h : TabAt H a n f) : Dp K H (.ref a) (tabD n f) := by
  obtain ⟨r, h1, h2⟩ := h
  exact .tup (SqT.of h1) (dpAll_map _ fun i hi => .tup (SqT.of (h2 i (List.mem_range.mp hi))) (dpAll_map _ fun j _ => .int _))
theorem canLay_map {α : Type} {δ : α → PyData} : ∀ l : List α, (∀ i ∈ l, (δ i).canLay0 = true) → PyData.canLayAll0 (l.map δ) = true
  | [], _ => by simp [PyData.canLayAll0]
  | i :: l, h => by
    rw [List.map_cons, PyData.canLayAll0, h i List.mem_cons_self, canLay_map l fun j hj => h j (List.mem_cons_of_mem _ hj)]
    rfl
theorem depth_map {α : Type} {δ : α → PyData} {m : Nat} : ∀ l : List α, (∀ i ∈ l, (δ i).depth ≤ m) → PyData.depthAll (l.map δ) ≤ m
  | [], _ => by simp [PyData.depthAll]
  | i :: l, h => by
    rw [List.map_cons, PyData.depthAll]
    have h1 := h i List.mem_cons_self
    have h2 := depth_map l fun j hj => h j (List.mem_cons_of_mem _ hj)
    omega
theorem tabD_can (n : Nat) (f : F) : (tabD n f).canLay0 = true := by
  unfold tabD
  rw [PyData.canLay0]
  refine canLay_map _ fun i _ => ?_
  rw [PyData.canLay0]
  exact canLay_map _ fun j _ => by rw [PyData.canLay0]
theorem tabD_depth (n : Nat) (f : F) : (tabD n f).depth ≤ 2 := by
  unfold tabD
  rw [PyData.depth]
  have h := depth_map (δ := fun i => PyData.tuple ((List.range n).map fun j => .int (f i j))) (m := 1) (List.range n) fun i _ => by
    rw [PyData.depth]
    have := depth_map (δ := fun j => PyData.int (f i j)) (m := 0) (List.range n) fun j _ => by
      rw [PyData.depth]
      exact Nat.le_refl _
    omega
  omega
theorem tabD_shaped (n : Nat) (f : F) : SeqAt.shaped (tabD n f) = true := by
  unfold SeqAt.shaped
  have h := tabD_depth n f
  rw [tabD_can, decide_eq_true (by omega)]
  rfl
theorem tabD_eqv (n : Nat) (f : F) : PyData.eqv (tabD n f) (tabD n f) = true := SeqAt.eqv_refl _ (tabD_can n f)
def spStraight : Sp := fun vs H Q _ => ∃ (a : Addr) (n : Nat) (f : F), vs = [.ref a] ∧ TabAt H a n f ∧ Nice f ∧ n ≤ 8 ∧ fw n f = f ∧ ∀ H', Same H H' → Q (.bl true) H'
theorem scStraight : FnScope ["table"] ["table"] (defScope sStraight) := ⟨rfl, rfl, rfl, by decide +kernel, rfl, by decide +kernel, by decide +kernel⟩
theorem ok_straight {f0 f1 : Addr} {fd fd1 : FuncData} (Fn : Fun K "is_straight" "is_straight" sStraight f0 fd) (G : FnOk P w K mg base CX0 2 f1 fd1 ["table"] spShort) (bG : Binds K fd1 ["table"] []) (kG : PySem.W.keepIn K (.ref f1) = true) (mG : mg "shortened" = some (.ref f1)) :
    FnOk P w K mg base CX0 3 f0 fd ["table"] spStraight := by
  refine Fn.ok scStraight (fun vs H Q E h => ?_) (fun cdv A outer s H vs Q E hr h => ?_)
  · obtain ⟨a, n, f, rfl, _⟩ := h
    rfl
  obtain ⟨a, n, f, rfl, ha, hf, h8, hs, q⟩ := h
  refine ⟨_, pss_one (ps_ret (pe_cmpR (op_eqD hr.units) (pe_call G hr (by rfl) mG kG bG .nil pass0 (pa_cons (pv 0) pa_nil)) (pv 0) (nomark _))), ?_⟩
  refine ⟨_, rfl, a, n, f, rfl, ha, hf, h8, fun H1 p s1 hp => ?_⟩
  rw [hs] at hp
  refine ⟨_, rfl, tabD n f, tabD n f, hp.dp, (ha.keep s1).dp, tabD_shaped n f, tabD_shaped n f, ?_⟩
  rw [tabD_eqv]
  exact q _ s1
/-! ### walk -/
def spWalk : Sp := fun vs H Q _ => ∃ (a : Addr) (n one other : Nat) (f : F), vs = [.ref a, .int (one : Int), .int (other : Int)] ∧ TabAt H a n f ∧ Nice f ∧ n ≤ 8 ∧ one < n ∧ other < n ∧
  ∀ (H' : Hp) (p : Addr) (ps : List Nat), Same H H' → H' p = some (.tup (pV ps)) → (∀ x ∈ ps, x < n) → 0 < ps.length → ps.length ≤ 300 → pl f ps = fw n f one other → Q (.ref p) H'
theorem scWalk : FnScope ["table", "one", "other", "ahead", "found"] ["table", "one", "other"] (defScope sWalk) := ⟨rfl, rfl, rfl, by decide +kernel, rfl, by decide +kernel, by decide +kernel⟩
theorem pV_snoc (ps : List Nat) (x : Nat) : pV (ps ++ [x]) = pV ps ++ [V.int (x : Int)] := List.map_append
theorem ok_walk {f0 f1 : Addr} {fd fd1 : FuncData} (Fn : Fun K "walk" "walk" sWalk f0 fd) (B : Blt mg) (G : FnOk P w K mg base CX0 1 f1 fd1 ["table"] spLeast) (bG : Binds K fd1 ["table"] []) (kG : PySem.W.keepIn K (.ref f1) = true) (mG : mg "least_ways" = some (.ref f1)) :
    FnOk P w K mg base CX0 2 f0 fd ["table", "one", "other"] spWalk := by
  refine Fn.ok scWalk (fun vs H Q E h => ?_) (fun cdv A outer s H vs Q E hr h => ?_)
  · obtain ⟨a, n, one, other, f, rfl, _⟩ := h
    rfl
  obtain ⟨a, n, one, other, f, rfl, ha, hf, h8, h1, h2, q⟩ := h
  refine ⟨_, pss_cons (ps_set (i := 3) scWalk.nd rfl (Or.inl rfl) (ixT (K := K) (pe_call G hr (by rfl) mG kG bG .nil pass0 (pa_cons (pv 0) pa_nil)) pe_int))
    (pss_cons (ps_set (i := 4) scWalk.nd rfl (Or.inl rfl) (pe_lst (pa_cons (pv 1) pa_nil)))
    (pss_cons (ps_while PassesOwn.never (pt_cmpR op_ne (ixL (K := K) (pv 4) (pe_un un_neg pe_int)) (pv 2) (nomark _))
      (pss_one (ps_expr (pe_bm PySem.F.plainAttrs_list PySem.F.slot_list_append PySem.F.type_list_append mt_append (pv 4) (pa_cons (ixL (K := K) (ixL (K := K) (pv 3) (ixL (K := K) (pv 4) (pe_un un_neg pe_int))) (pv 2)) pa_nil)))))
    (pss_one (ps_ret (pe_callTy (cl_tup (K := K)) (by rfl) B.tuple (by decide +kernel) (pa_cons (pv 4) pa_nil)))))), ?_⟩
  refine ⟨_, rfl, a, n, f, rfl, ha, hf, h8, fun H1 p D1 D2 r1 r2 s1 hp L1 L2 => ?_⟩
  refine ⟨p, _, 1, _, rfl, rfl, SqT.of hp, atI_nat (j := 1) rfl, ?_⟩
  refine ⟨_, rfl, (by show 1 ≤ sizeLine; decide), fun l hl => ?_⟩
  refine ⟨fun m σ H2 => ∃ (ps : List Nat) (x : Nat), σ = [some (.ref a), some (.int (one : Int)), some (.int (other : Int)), some (.ref D2), some (.ref l)] ∧ Same H1 H2 ∧ H2 l = some (.lst (pV (ps ++ [x]))) ∧ x < n ∧ (∀ y ∈ ps, y < n) ∧
    pl f (ps ++ [x]) + fw n f x other = fw n f one other ∧ ps.length + ln n f x other = ln n f one other ∧ m = ln n f x other, ⟨ln n f one other, [], one, rfl, same_new hl _, upd_same, h1, fun _ z => absurd z List.not_mem_nil, ?_, Nat.zero_add _, rfl⟩, ?_⟩
  · show 0 + fw n f one other = _
    omega
  rintro m σ H2 ⟨ps, x, rfl, s2, hL, hx, hps, e1, e2, rfl⟩
  have hat : atI (pV (ps ++ [x])) (-1) = some (V.int (x : Int)) := by
    rw [pV_snoc]
    exact atI_last _ _
  refine ⟨_, rfl, 1, rfl, l, _, _, _, rfl, rfl, SqL.of hL, hat, _, rfl, rfl, _, rfl, ?_⟩
  have hlen := ln_le f n one other
  have h256 : 2 ^ n ≤ 256 := Nat.pow_le_pow_right (by decide) h8
  by_cases c : x = other
  · subst c
    rw [decide_eq_true rfl]
    refine iteF ?_
    refine ⟨_, rfl, l, _, rfl, SqL.of hL, fun t ht => ?_⟩
    have z := (hf.fw n).dz x
    refine q _ t (ps ++ [x]) ((s1.trans s2).trans (same_new ht _)) upd_same (fun y hy => ?_) ?_ ?_ (by omega)
    · rcases List.mem_append.mp hy with hy | hy
      · exact hps y hy
      · rw [List.mem_singleton] at hy
        omega
    · rw [List.length_append, List.length_singleton]
      omega
    · rw [List.length_append, List.length_singleton]
      omega
  · have cv : decide (V.int (x : Int) = V.int (other : Int)) = false := decide_eq_false fun z => c (Int.ofNat_inj.mp (V.int.inj z))
    rw [cv]
    refine iteT ⟨fun σ H3 => ∃ (ps : List Nat) (x' : Nat), σ = [some (.ref a), some (.int (one : Int)), some (.int (other : Int)), some (.ref D2), some (.ref l)] ∧ Same H1 H3 ∧ H3 l = some (.lst (pV (ps ++ [x']))) ∧ x' < n ∧ (∀ y ∈ ps, y < n) ∧
      pl f (ps ++ [x']) + fw n f x' other = fw n f one other ∧ ps.length + ln n f x' other = ln n f one other ∧ ln n f x' other < ln n f x other, fun σ' H' ⟨ps', x', a1, a2, a3, a4, a5, a6, a7, a8⟩ => ⟨_, a8, ps', x', a1, a2, a3, a4, a5, a6, a7, rfl⟩, ?_⟩
    obtain ⟨n1, n2, n3⟩ := next_ok hf n x other c
    have hy := ah_lt hf c h2 (n := n)
    refine ⟨_, rfl, .inl ⟨rfl, _, SqL.of hL⟩, _, rfl, _, rfl, 1, rfl, l, _, _, _, rfl, rfl, SqL.of hL, hat, D2, _, _, _, rfl, rfl, SqL.of (s2 _ _ L2.1), atI_map rfl hx,
      _, rfl, _, _, _, _, rfl, rfl, SqL.of (s2 _ _ (L2.2 x hx)), atI_map rfl h2, l, _, _, rfl, rfl, hL, ?_, ?_⟩
    · rw [List.length_map, List.length_append, List.length_singleton]
      exact small1000 (by omega)
    · refine ⟨ps ++ [x], ah n f x other, rfl, sset s2 hl _, ?_, hy, fun y hy => ?_, ?_, ?_, by omega⟩
      · rw [upd_same, pV_snoc (ps ++ [x])]
      · rcases List.mem_append.mp hy with hy | hy
        · exact hps y hy
        · rw [List.mem_singleton] at hy
          omega
      · rw [List.append_assoc]
        show pl f (ps ++ [x, ah n f x other]) + _ = _
        rw [pl_snoc]
        omega
      · rw [List.length_append, List.length_singleton]
        omega
end
end Hr

/-! sets_of, best_rest. -/
namespace Hr
open PySem PySem.Spec PyProof.Rows L2
abbrev sRests : Stmt := topS 7
abbrev sSets : Stmt := topS 8
abbrev sBest : Stmt := topS 9
abbrev sShortest : Stmt := topS 10
/-! ### rules with the written part told -/
section
variable {X : Cx} {K : PySem.W.Frag} {P : Program} {w : World}
theorem opCat (hK : X.K = K := by rfl) : OpR X (binaryOp .Add) (rCatT K) := by
  subst hK
  exact op_catT
def rLenK (K : PySem.W.Frag) : List V → Hp → VK → Prop := fun xs H Q => ∃ x n, xs = [x] ∧ LenV K x H n ∧ Q (.int n) H
theorem clen (hK : X.K = K := by rfl) : CallR X (.builtin "len") (rLenK K) := by
  subst hK
  exact call_len
theorem getN {o i : Expr} {pos : Pos} {td ty : TE} (hu : X.A.units + 64 < cLine) (ho : PE X o td) (hi : PE X i ty) (hP : X.prog = P := by rfl) (hw : X.w = w := by rfl) (hs : NoSl i := by intro _ _; rfl) : PE X (.Subscript o i pos) (tGetN P w td ty) := by
  subst hP
  subst hw
  exact pe_getN hu ho hi hs
end
/-! ### sets of places in a heap -/
def TA (H : Hp) (as : List Addr) (Ss : List (List Nat)) : Prop := Paired (fun a S => H a = some (.tup (pV S))) as Ss
theorem TA.keep {H H' : Hp} {as : List Addr} {Ss : List (List Nat)} (t : TA H as Ss) (k : ∀ a xs, H a = some (.tup xs) → H' a = some (.tup xs)) : TA H' as Ss := Paired.mapP t fun _ _ z => k _ _ z
theorem TA.append {H : Hp} {as bs : List Addr} {Ss Ts : List (List Nat)} (t : TA H as Ss) (u : TA H bs Ts) : TA H (as ++ bs) (Ss ++ Ts) := by
  unfold TA at t u ⊢
  induction t with
  | nil => exact u
  | cons h _ ih => exact .cons h ih
theorem TA.get {H : Hp} {as : List Addr} {Ss : List (List Nat)} (t : TA H as Ss) {i : Nat} {x : V} (h : (as.map V.ref)[i]? = some x) : ∃ a S, x = .ref a ∧ Ss[i]? = some S ∧ H a = some (.tup (pV S)) := by
  rw [List.getElem?_map] at h
  cases q : as[i]? with
  | none =>
    rw [q] at h
    cases h
  | some a =>
    rw [q] at h
    obtain ⟨S, h1, h2⟩ := paired_get t q
    exact ⟨a, S, (Option.some.inj h).symm, h1, h2⟩
theorem TA.len {H : Hp} {as : List Addr} {Ss : List (List Nat)} (t : TA H as Ss) : as.length = Ss.length := Paired.length t
theorem take_succ {α : Type} {l : List α} {i : Nat} {x : α} (h : l[i]? = some x) : l.take (i + 1) = l.take i ++ [x] := by
  rw [List.take_add_one, h]
  rfl
theorem same_tups {H H' : Hp} (s : Same H H') : ∀ a xs, H a = some (.tup xs) → H' a = some (.tup xs) := fun _ _ h => s _ _ h
theorem pV_ne {n : Nat} {S : List Nat} (h : Vs n S) : pV S ≠ [] := fun e => by
  have h1 := h.pos
  have h2 : (pV S).length = S.length := List.length_map _
  rw [e] at h2
  have h3 : S.length = 0 := h2.symm
  omega
theorem pV_len (S : List Nat) : (pV S).length = S.length := List.length_map _
/-! ### sets_of -/
def ofSize (n size : Nat) : List (List Nat) := (setsN (n - 1)).filter fun S => decide (S.length = size)
def spSets : Sp := fun vs H Q _ => ∃ n size : Nat, vs = [.int (n : Int), .int (size : Int)] ∧ 1 ≤ n ∧ n ≤ 8 ∧ ∀ (H' : Hp) (D : Addr) (as : List Addr), Same H H' → H' D = some (.lst (as.map V.ref)) → TA H' as (ofSize n size) → Q (.ref D) H'
section
variable {P : Program} {w : World} {K : PySem.W.Frag} {mg : Str → Option Value} {base : Heap}
abbrev nSets : List Str := ["many", "size", "found", "place", "some"]
theorem scSets : FnScope nSets ["many", "size"] (defScope sSets) := ⟨rfl, rfl, rfl, by decide +kernel, rfl, by decide +kernel, by decide +kernel⟩
theorem ok_sets {f0 : Addr} {fd : FuncData} (Fn : Fun K "sets_of" "sets_of" sSets f0 fd) (B : Blt mg) : FnOk P w K mg base CX0 1 f0 fd ["many", "size"] spSets := by
  refine Fn.ok scSets (fun vs H Q E h => ?_) (fun cdv A outer s H vs Q E hr h => ?_)
  · obtain ⟨n, size, rfl, _⟩ := h
    rfl
  obtain ⟨n, size, rfl, h1, h8, q⟩ := h
  refine ⟨_, pss_cons (ps_set (i := 2) scSets.nd rfl (Or.inl rfl) (pe_lst (pa_cons (pe_tup (pa_cons pe_int pa_nil)) pa_nil)))
    (pss_cons (ps_for PassesOwn.never rfl (pi_range2 (by rfl) B.range (pa_cons pe_int (pa_cons (pv 0) pa_nil))) (pg_name (i := 3) scSets.nd rfl (Or.inr rfl))
      (pss_one (ps_set (i := 2) scSets.nd rfl (Or.inl rfl) (pe_op op_cat (pv 2) (pe_lc (own := [("some", 4)]) (g := gName 4) rfl scSets.nd (pi_list (pv 2))
        (blkOk_by (own := [("some", 4)]) (N := nSets) (sc := defScope sSets) (by decide +kernel)) (fun _ _ _ _ _ => pg_name (i := 4) scSets.nd rfl (Or.inl rfl)) (fun _ _ _ _ _ => pts_nil)
        (fun _ _ _ _ _ => pe_op (opCat (K := K)) (pv 4) (pe_tup (pa_cons (pv 3) pa_nil))))))))
    (pss_one (ps_ret (pe_lc (own := [("some", 4)]) (g := gName 4) rfl scSets.nd (pi_list (pv 2))
        (blkOk_by (own := [("some", 4)]) (N := nSets) (sc := defScope sSets) (by decide +kernel)) (fun _ _ _ _ _ => pg_name (i := 4) scSets.nd rfl (Or.inl rfl))
        (fun _ _ _ _ _ => pts_one (pt_cmpR op_eq (pe_callB (clen (K := K)) (by rfl) B.len PySem.boot_len (pa_cons (pv 4) pa_nil)) (pv 1) (nomark _))) (fun _ _ _ _ _ => pv 4))))), ?_⟩
  refine ⟨(by show 1 ≤ sizeLine; decide), fun t ht => ⟨(by show 1 ≤ sizeLine; decide), fun D hD => ?_⟩⟩
  have st := same_new ht (.tup [.int 0])
  have sD := same_new hD (.lst [.ref t])
  refine ⟨_, rfl, 1, (n : Int), rfl, ⟨by omega, by omega, by omega, by omega⟩, for_range (lo := 1) (n := ((n : Int) - 1).toNat)
    (fun i σ H1 => ∃ D as v3, σ = [some (.int (n : Int)), some (.int (size : Int)), some (.ref D), v3, none] ∧ Same H H1 ∧ H1 D = some (.lst (as.map V.ref)) ∧ TA H1 as (setsN i))
    ⟨D, [t], none, rfl, st.trans sD, upd_same, .cons (sD _ _ upd_same) .nil⟩ ?_ ?_⟩
  · rintro i σ H1 hi ⟨D, as, v3, rfl, s1, hD1, hT⟩
    have hin : i + 1 < n := by omega
    have hlen : as.length ≤ 128 := by
      rw [hT.len, setsN_len]
      exact Nat.le_trans (Nat.pow_le_pow_right (j := 7) (by decide) (by omega)) (by decide)
    refine ⟨_, rfl, _, rfl, D, rfl, ⟨_, SqL.of hD1⟩, fun L hL => ?_⟩
    refine lc_list (K := K) (a := D) (xs := as.map V.ref) (fun j H2 => ∃ bs, Same H1 H2 ∧ H2 L = some (.lst (bs.map V.ref)) ∧ TA H2 bs (((setsN i).take j).map fun S => S ++ [i + 1]))
      ⟨[], same_new hL _, upd_same, .nil⟩ (fun j H2 _ ⟨_, s2, _⟩ => SqL.of (s2 _ _ hD1)) ?_ ?_
    · rintro j x H2 hj ⟨bs, s2, hL2, hB⟩
      obtain ⟨b, S, rfl, hS, hb⟩ := hT.get hj
      have hV := setsN_ok i S (List.mem_of_getElem? hS)
      refine ⟨rfl, yes_ (iteT ?_)⟩
      refine ⟨_, rfl, _, rfl, (by show 1 ≤ sizeLine; decide), fun p hp => ?_⟩
      have sp := same_new hp (.tup [.int (1 + (i : Int))])
      refine ⟨b, p, _, _, rfl, rfl, SqT.of (sp _ _ (s2 _ _ hb)), SqT.of upd_same, pV_ne hV, ?_, (fun z => nomatch z), fun _ t ht => ?_⟩
      · have := hV.len
        rw [pV_len]
        exact small256 (by show S.length + 1 ≤ 256; omega)
      have su := same_new ht (.tup (pV S ++ [.int (1 + (i : Int))]))
      have sA := sp.trans su
      have hbl : bs.length ≤ 128 := by
        rw [hB.len, List.length_map, List.length_take]
        have := hT.len
        omega
      refine ⟨_, sA _ _ hL2, by rw [List.length_map]; exact small1000 (by omega), bs ++ [t], sset (s2.trans sA) hL _, by rw [upd_same, List.map_append]; rfl, ?_⟩
      rw [take_succ hS, List.map_append]
      have nt : ∀ a xs, (upd (upd H2 p (.tup [.int (1 + (i : Int))])) t (.tup (pV S ++ [.int (1 + (i : Int))]))) a = some (.tup xs) → a ≠ L := fun a xs h e => by
        rw [e, sA _ _ hL2] at h
        cases h
      refine TA.append (hB.keep fun a xs h => ?_) (.cons ?_ .nil)
      · rw [upd_ne (nt a xs (sA _ _ h))]
        exact sA _ _ h
      · rw [upd_ne (nt t _ upd_same), upd_same, pV_snoc]
        rw [show ((i + 1 : Nat) : Int) = 1 + (i : Int) by omega]
    · rintro H2 ⟨bs, s2, hL2, hB⟩
      rw [List.length_map, hT.len, List.take_length] at hB
      have hbl : bs.length ≤ 128 := by
        rw [hB.len, List.length_map, ← hT.len]
        exact hlen
      refine ⟨D, L, _, _, rfl, rfl, s2 _ _ hD1, hL2, ?_, fun p hp => ?_⟩
      · rw [List.length_map, List.length_map]
        exact small256 (by omega)
      have sp := same_new hp (.lst (as.map V.ref ++ bs.map V.ref))
      exact ⟨p, as ++ bs, _, rfl, (s1.trans s2).trans sp, by rw [upd_same, List.map_append], TA.append (hT.keep (same_tups (s2.trans sp))) (hB.keep (same_tups sp))⟩
  · rintro σ H1 ⟨D, as, v3, rfl, s1, hD1, hT⟩
    rw [show ((n : Int) - 1).toNat = n - 1 by omega] at hT
    have hlen : as.length ≤ 128 := by
      rw [hT.len, setsN_len]
      exact Nat.le_trans (Nat.pow_le_pow_right (j := 7) (by decide) (by omega)) (by decide)
    refine ⟨_, rfl, D, rfl, ⟨_, SqL.of hD1⟩, fun L hL => ?_⟩
    refine lc_list (K := K) (a := D) (xs := as.map V.ref) (fun j H2 => ∃ bs, bs.length ≤ j ∧ Same H1 H2 ∧ H2 L = some (.lst (bs.map V.ref)) ∧ TA H2 bs (((setsN (n - 1)).take j).filter fun S => decide (S.length = size)))
      ⟨[], Nat.le_refl _, same_new hL _, upd_same, .nil⟩ (fun j H2 _ ⟨_, _, s2, _⟩ => SqL.of (s2 _ _ hD1)) ?_ ?_
    · rintro j x H2 hj ⟨bs, hbl, s2, hL2, hB⟩
      have hjl := (List.getElem?_eq_some_iff.mp hj).1
      rw [List.length_map] at hjl
      obtain ⟨b, S, rfl, hS, hb⟩ := hT.get hj
      refine ⟨rfl, ?_⟩
      refine ⟨_, rfl, _, S.length, rfl, .inr ⟨_, SqT.of (s2 _ _ hb), (pV_len S).symm⟩, _, rfl, rfl, _, rfl, ?_⟩
      rw [take_succ hS, List.filter_append]
      refine ite2 (fun c => ?_) (fun c => ?_)
      · have e : S.length = size := Int.ofNat_inj.mp (V.int.inj (of_decide_eq_true c))
        refine ⟨_, rfl, _, hL2, by rw [List.length_map]; exact small1000 (by omega), bs ++ [b], by rw [List.length_append, List.length_singleton]; omega, sset s2 hL _, by rw [upd_same, List.map_append]; rfl, ?_⟩
        have nt : ∀ a xs, H2 a = some (.tup xs) → a ≠ L := fun a xs h e => by
          rw [e, hL2] at h
          cases h
        refine TA.append (hB.keep fun a xs h => ?_) ?_
        · rw [upd_ne (nt a xs h)]
          exact h
        · rw [List.filter_cons, if_pos (decide_eq_true e)]
          refine .cons ?_ .nil
          rw [upd_ne (nt b _ (s2 _ _ hb))]
          exact s2 _ _ hb
      · have e : ¬ S.length = size := fun z => c (decide_eq_true (by rw [z]))
        rw [List.filter_cons, if_neg (by rw [decide_eq_false e]; exact Bool.false_ne_true), List.filter_nil, List.append_nil]
        exact ⟨bs, by omega, s2, hL2, hB⟩
    · rintro H2 ⟨bs, _, s2, hL2, hB⟩
      rw [List.length_map, hT.len, List.take_length] at hB
      exact q H2 L bs (s1.trans s2) hL2 hB
end
end Hr

/-! best_rest, rests. -/
namespace Hr
open PySem PySem.Spec PyProof.Rows L2
/-! ### what the table of rests holds -/
def EsOk (H : Hp) (es : List Ent) : Prop := ∀ e ∈ es, KeyAt H e.ka e.S e.l ∧ ∃ x y : Int, H e.va = some (.tup [.int x, .int y])
theorem EsOk.keys {H : Hp} {es : List Ent} (h : EsOk H es) : KeysOk H es := fun e he => (h e he).1
def Has (H : Hp) (es : List Ent) (S : List Nat) (l : Nat) (v : Int) : Prop := ∃ e y, findE es S l = some e ∧ H e.va = some (.tup [.int v, .int y])
abbrev Tups (H H' : Hp) : Prop := ∀ a xs, H a = some (.tup xs) → H' a = some (.tup xs)
theorem KeyAt.keep {H H' : Hp} {ka : Addr} {S : List Nat} {l : Nat} (h : KeyAt H ka S l) (k : Tups H H') : KeyAt H' ka S l := by
  obtain ⟨q, h1, h2⟩ := h
  exact ⟨q, k _ _ h1, k _ _ h2⟩
theorem EsOk.keep {H H' : Hp} {es : List Ent} (h : EsOk H es) (k : Tups H H') : EsOk H' es := fun e he => by
  obtain ⟨h1, x, y, h2⟩ := h e he
  exact ⟨h1.keep k, x, y, k _ _ h2⟩
theorem Has.keep {H H' : Hp} {es : List Ent} {S : List Nat} {l : Nat} {v : Int} (h : Has H es S l v) (k : Tups H H') : Has H' es S l v := by
  obtain ⟨e, y, h1, h2⟩ := h
  exact ⟨e, y, h1, k _ _ h2⟩
theorem EsOk.put {H : Hp} {es : List Ent} {S : List Nat} {l : Nat} {ka va : Addr} {x y : Int} (h : EsOk H es) (hk : KeyAt H ka S l) (hv : H va = some (.tup [.int x, .int y])) : EsOk H (putE es S l ka va) := fun e he => by
  rcases putE_mem he with c | ⟨e1, ⟨o, ho, a1, a2, a3⟩ | e2⟩
  · exact h e c
  · rw [e1, ← a1, ← a2, ← a3]
    exact ⟨(h o ho).1, x, y, hv⟩
  · subst e2
    exact ⟨hk, x, y, hv⟩
theorem Has.put {H : Hp} {es : List Ent} {S T : List Nat} {l m : Nat} {ka va : Addr} {v : Int} (h : Has H es T m v) (hv : T = S → m = l → ∃ y, H va = some (.tup [.int v, .int y])) : Has H (putE es S l ka va) T m v := by
  by_cases c : T = S ∧ m = l
  · obtain ⟨y, hy⟩ := hv c.1 c.2
    obtain ⟨k, hk⟩ := findE_put_same es S l ka va
    rw [c.1, c.2]
    exact ⟨_, y, hk, hy⟩
  · obtain ⟨e, y, h1, h2⟩ := h
    exact ⟨e, y, (findE_put_other es ka va c).trans h1, h2⟩
theorem Has.new {H : Hp} {es : List Ent} {S : List Nat} {l : Nat} {ka va : Addr} {v y : Int} (hv : H va = some (.tup [.int v, .int y])) : Has H (putE es S l ka va) S l v := by
  obtain ⟨k, hk⟩ := findE_put_same es S l ka va
  exact ⟨_, y, hk, hv⟩
theorem tups_new {H : Hp} {p : Addr} (h : H p = none) (o : HO) : Tups H (upd H p o) := same_tups (same_new h o)
theorem tups_ext {H : Hp} {d : Addr} {φ : Heap → Prop} (h : H d = some (.ext φ)) (o : HO) : Tups H (upd H d o) := fun a xs q => by
  rw [upd_ne (ne_of q h (fun z => nomatch z))]
  exact q
theorem flat_pV (S : List Nat) : (pV S).all flatV = true := by
  rw [List.all_map, List.all_eq_true]
  intro x _
  rfl
theorem inV_pV (i : Nat) (S : List Nat) : inV (V.int (i : Int)) (pV S) = decide (i ∈ S) := by
  induction S with
  | nil => rfl
  | cons x s ih =>
    show (eqV (V.int (x : Int)) (V.int (i : Int)) || inV (V.int (i : Int)) (pV s)) = _
    rw [ih]
    by_cases c : x = i
    · subst c
      rw [decide_eq_true (List.mem_cons_self : x ∈ x :: s)]
      have : eqV (V.int (x : Int)) (V.int (x : Int)) = true := by simp [eqV]
      rw [this]
      rfl
    · have e : eqV (V.int (x : Int)) (V.int (i : Int)) = false := by
        simp [eqV]
        omega
      rw [e, Bool.false_or]
      by_cases d : i ∈ s
      · rw [decide_eq_true d, decide_eq_true (List.mem_cons_of_mem _ d)]
      · rw [decide_eq_false d, decide_eq_false]
        intro z
        rcases List.mem_cons.mp z with z | z
        · exact c z.symm
        · exact d z
theorem ints_back {ms : List Int} {L : List Nat} (h : ms.Perm (L.map fun (n : Nat) => (n : Int))) (hs : ms.Pairwise (· ≤ ·)) : ∃ T : List Nat, ms = T.map (fun (n : Nat) => (n : Int)) ∧ T.Perm L ∧ T.Pairwise (· ≤ ·) := by
  refine ⟨ms.map Int.toNat, ?_, ?_, ?_⟩
  · rw [List.map_map]
    have : ∀ x ∈ ms, ((fun (n : Nat) => (n : Int)) ∘ Int.toNat) x = x := fun x hx => by
      obtain ⟨y, _, rfl⟩ := List.mem_map.mp (h.mem_iff.mp hx)
      show ((y : Int).toNat : Int) = y
      omega
    conv => lhs; rw [← List.map_id ms]
    exact (List.map_congr_left fun x hx => by rw [this x hx]; rfl)
  · have q := h.map Int.toNat
    rw [List.map_map] at q
    have e : L.map (Int.toNat ∘ fun (n : Nat) => (n : Int)) = L := by
      conv => rhs; rw [← List.map_id L]
      exact List.map_congr_left fun x _ => rfl
    rw [e] at q
    exact q
  · refine List.pairwise_map.mpr (hs.imp fun {a b} hab => ?_)
    omega
def oV : Option Int → V
  | none => .non
  | some x => .int x
/-! ### best_rest -/
def spBest (P : Program) (w : World) : Sp := fun vs H Q _ => ∃ (a d q : Addr) (n l m : Nat) (f : F) (es : List Ent) (S : List Nat), vs = [.ref a, .ref d, .ref q, .int (l : Int)] ∧ TabAt H a n f ∧ n ≤ 8 ∧ H d = some (DN P w d es) ∧ EsOk H es ∧ H q = some (.tup (pV S)) ∧ Vs n S ∧ l < n ∧ S.length < n ∧
  (∀ T p, Vs n T → T.length = S.length + 1 → p ∈ T → Has H es T p (R f n m T p)) ∧ ∀ (H' : Hp) (t : Addr) (y : Int), Same H H' → H' t = some (.tup [.int (R f n (m + 1) S l), .int y]) → Q (.ref t) H'
section
variable {P : Program} {w : World} {K : PySem.W.Frag} {mg : Str → Option Value} {base : Heap}
abbrev nBest : List Str := ["table", "found", "some", "last", "least", "ways", "place", "rest", "more"]
theorem scBest : FnScope nBest ["table", "found", "some", "last"] (defScope sBest) := ⟨rfl, rfl, rfl, by decide +kernel, rfl, by decide +kernel, by decide +kernel⟩
theorem ok_best {f0 : Addr} {fd : FuncData} (Fn : Fun K "best_rest" "best_rest" sBest f0 fd) (B : Blt mg) : FnOk P w K mg base CX0 1 f0 fd ["table", "found", "some", "last"] (spBest P w) := by
  refine Fn.ok scBest (fun vs H Q E h => ?_) (fun cdv A outer s H vs Q E hr h => ?_)
  · obtain ⟨a, d, q, n, l, m, f, es, S, rfl, _⟩ := h
    rfl
  obtain ⟨a, d, q, n, l, m, f, es, S, rfl, hT, h8, hd, hes, hq, hV, hl, hSn, hR, k⟩ := h
  obtain ⟨r, ha, hb⟩ := id hT
  have hu := hr.units
  refine ⟨_, pss_cons (ps_set (i := 4) scBest.nd rfl (Or.inl rfl) pe_non)
    (pss_cons (ps_set (i := 5) scBest.nd rfl (Or.inl rfl) pe_int)
    (pss_cons (ps_for PassesOwn.never rfl (pi_range1 (by rfl) B.range (pa_cons (pe_callB call_len (by rfl) B.len PySem.boot_len (pa_cons (pv 0) pa_nil)) pa_nil)) (pg_name (i := 6) scBest.nd rfl (Or.inl rfl))
      (pss_one (ps_if (pt_cmpR op_notIn_seq (pv 6) (pv 2) rfl)
        (pss_cons (ps_asg (getN (P := P) (w := w) hu (pv 1) (pe_tup (pa_cons (pe_callTy (cl_tup (K := K)) (by rfl) B.tuple (by decide +kernel) (pa_cons (pe_callB cr_sortTup (by rfl) B.sorted (by decide +kernel) (pa_cons (pe_op (opCat (K := K)) (pv 2) (pe_tup (pa_cons (pv 6) pa_nil))) pa_nil)) pa_nil)) (pa_cons (pv 6) pa_nil))))
            (pg_tup rfl (pgs_cons (pg_name (i := 7) scBest.nd rfl (Or.inl rfl)) (pgs_cons (pg_name (i := 8) scBest.nd rfl (Or.inl rfl)) pgs_nil))))
        (pss_cons (ps_set (i := 7) scBest.nd rfl (Or.inl rfl) (pe_op op_add (pv 7) (ixT (K := K) (ixT (K := K) (pv 0) (pv 3)) (pv 6))))
        (pss_cons (ps_if (PW.pt (pw_or (pt_cmpR op_isN (pv 4) pe_non (nomark _)) (pw_or1 (pt_cmpR op_lt (pv 7) (pv 4) (nomark _)))))
          (pss_cons (ps_set (i := 4) scBest.nd rfl (Or.inl rfl) (pv 7)) (pss_one (ps_set (i := 5) scBest.nd rfl (Or.inl rfl) pe_int))) pss_nil)
        (pss_one (ps_if (pt_cmpR op_eq (pv 7) (pv 4) (nomark _)) (pss_one (ps_set (i := 5) scBest.nd rfl (Or.inl rfl) (pe_op op_add (pv 5) (pv 8)))) pss_nil))))) pss_nil)))
    (pss_one (ps_ret (pe_tup (pa_cons (pv 4) (pa_cons (pv 5) pa_nil))))))), ?_⟩
  refine ⟨_, rfl, _, n, rfl, .inr ⟨_, SqT.of ha, len_map.symm⟩, (n : Int), rfl, by omega, by omega, ?_⟩
  rw [show ((n : Int)).toNat = n from rfl]
  refine for_range (lo := 0) (n := n)
    (fun i σ H1 => ∃ (y : Int) (v6 v7 v8 : Option V), σ = [some (.ref a), some (.ref d), some (.ref q), some (.int (l : Int)), some (oV (lst S (fun p => R f n m (p :: S) p + f l p) i)), some (.int y), v6, v7, v8] ∧ Same H H1)
    ⟨0, none, none, none, rfl, Same.refl H⟩ ?_ ?_
  · rintro i σ H1 hi ⟨y, v6, v7, v8, rfl, s1⟩
    have e0 : (0 : Int) + (i : Int) = (i : Int) := Int.zero_add _
    rw [e0]
    refine ⟨_, rfl, _, rfl, q, _, rfl, .inr (SqT.of (s1 _ _ hq)), rfl, flat_pV S, _, rfl, ?_⟩
    show if (!inV (V.int (i : Int)) (pV S)) = true then _ else _
    rw [inV_pV]
    by_cases c : i ∈ S
    · rw [decide_eq_true c, lst_in _ c]
      exact iteF ⟨y, _, v7, v8, rfl, s1⟩
    rw [decide_eq_false c]
    refine iteT ?_
    have hSl : S.length ≤ 8 := Nat.le_trans hV.len h8
    refine ⟨_, rfl, _, rfl, _, rfl, (by show 1 ≤ sizeLine; decide), fun p hp => ?_⟩
    have sp := same_new hp (.tup [.int (i : Int)])
    refine ⟨q, p, _, _, rfl, rfl, SqT.of (sp _ _ (s1 _ _ hq)), SqT.of upd_same, pV_ne hV, ?_, (fun z => nomatch z), fun _ t ht => ?_⟩
    · rw [pV_len]
      exact small256 (by show S.length + 1 ≤ 256; omega)
    have st := same_new ht (.tup (pV S ++ [.int (i : Int)]))
    have ec : pV S ++ [V.int (i : Int)] = ((S ++ [i]).map fun (n : Nat) => (n : Int)).map V.int := by
      rw [← vals_ints_nat, pV_snoc]
    refine ⟨t, (S ++ [i]).map fun (n : Nat) => (n : Int), rfl, by rw [← ec]; exact SqT.of upd_same, ?_, fun ms u hms hso hu' => ?_⟩
    · rw [List.length_map, List.length_append, List.length_singleton]
      omega
    obtain ⟨T, rfl, hperm, hsort⟩ := ints_back hms hso
    obtain ⟨hVT, hTl, hTm⟩ := hV.more hi c hperm hsort
    rw [← vals_ints_nat]
    have su := same_new hu' (.lst (pV T))
    refine ⟨u, _, rfl, SqL.of upd_same, fun x hx => ?_⟩
    have sx := same_new hx (.tup (pV T))
    refine ⟨_, rfl, (by show 2 ≤ sizeLine; decide), fun z hz => ?_⟩
    have sz := same_new hz (.tup [.ref x, .int (i : Int)])
    have s2 := (((s1.trans sp).trans st).trans su).trans (sx.trans sz)
    have hx2 := sz _ _ (upd_same (H := upd (upd (upd H1 p (.tup [.int (i : Int)])) t (.tup (pV S ++ [.int (i : Int)]))) u (.lst (pV T))) (a := x) (o := .tup (pV T)))
    have hz2 := upd_same (H := upd (upd (upd (upd H1 p (.tup [.int (i : Int)])) t (.tup (pV S ++ [.int (i : Int)]))) u (.lst (pV T))) x (.tup (pV T))) (a := z) (o := .tup [.ref x, .int (i : Int)])
    generalize upd (upd (upd (upd (upd H1 p (.tup [.int (i : Int)])) t (.tup (pV S ++ [.int (i : Int)]))) u (.lst (pV T))) x (.tup (pV T))) z (.tup [.ref x, .int (i : Int)]) = H2 at s2 hx2 hz2
    obtain ⟨e, y2, he, hv⟩ := hR T i hVT hTl ((hTm i).mpr List.mem_cons_self)
    refine ⟨d, es, T, i, z, e, rfl, rfl, s2 _ _ hd, (hes.keep (same_tups s2)).keys, ⟨x, hz2, hx2⟩, he, ?_⟩
    refine ⟨e.va, _, rfl, SqT.of (s2 _ _ hv), rfl, _, _, rfl, _, _, rfl, rfl, ?_⟩
    refine ⟨_, rfl, _, rfl, _, rfl, a, _, _, _, rfl, rfl, SqT.of (s2 _ _ ha), atI_map rfl hl, _, rfl, _, _, _, _, rfl, rfl, SqT.of (s2 _ _ (hb l hl)), atI_map rfl hi, _, _, rfl, rfl, ?_⟩
    rw [lst_out _ c]
    have er : R f n m T i = R f n m (i :: S) i := R_congr f n m T (i :: S) i hTm
    rw [er]
    refine ⟨_, rfl, rfl, _, rfl, ?_⟩
    cases lst S (fun p => R f n m (p :: S) p + f l p) i with
    | none =>
      show if decide (oV none = V.non) = true then _ else _
      rw [decide_eq_true (show oV none = V.non from rfl)]
      refine iteT (iteT ?_)
      refine ⟨_, rfl, ?_⟩
      refine ⟨_, rfl, _, rfl, rfl, _, rfl, ?_⟩
      rw [decide_eq_true rfl]
      refine iteT ⟨_, rfl, _, rfl, _, _, rfl, rfl, ?_⟩
      exact ⟨_, _, _, _, rfl, s2⟩
    | some v =>
      show if decide (oV (some v) = V.non) = true then _ else _
      rw [decide_eq_false (show ¬ oV (some v) = V.non from fun z => nomatch z)]
      refine iteF ⟨_, rfl, _, rfl, _, _, rfl, rfl, _, rfl, ?_⟩
      show if decide (R f n m (i :: S) i + f l i < v) = true then _ else _
      by_cases c2 : R f n m (i :: S) i + f l i < v
      · rw [decide_eq_true c2]
        refine iteT ⟨_, rfl, ?_⟩
        refine ⟨_, rfl, _, rfl, rfl, _, rfl, ?_⟩
        rw [decide_eq_true rfl]
        refine iteT ⟨_, rfl, _, rfl, _, _, rfl, rfl, ?_⟩
        rw [show ostep (some v) (R f n m (i :: S) i + f l i) = some (R f n m (i :: S) i + f l i) from if_pos c2]
        exact ⟨_, _, _, _, rfl, s2⟩
      · rw [decide_eq_false c2]
        refine iteF ?_
        refine ⟨_, rfl, _, rfl, rfl, _, rfl, ?_⟩
        refine ite2 (fun c3 => ?_) (fun c3 => ?_)
        · refine ⟨_, rfl, _, rfl, _, _, rfl, rfl, ?_⟩
          rw [show ostep (some v) (R f n m (i :: S) i + f l i) = some v from if_neg c2]
          exact ⟨_, _, _, _, rfl, s2⟩
        · rw [show ostep (some v) (R f n m (i :: S) i + f l i) = some v from if_neg c2]
          exact ⟨y, _, _, _, rfl, s2⟩
  · rintro σ H1 ⟨y, v6, v7, v8, rfl, s1⟩
    obtain ⟨p, _, _, hp⟩ := lst_some (fun p => R f n m (p :: S) p + f l p) n (hV.left hSn)
    rw [hp]
    refine ⟨_, rfl, _, rfl, (by show 2 ≤ sizeLine; decide), fun t ht => ?_⟩
    refine k _ t y (s1.trans (same_new ht _)) ?_
    rw [upd_same]
    show some (HO.tup [oV (some (R f n m (p :: S) p + f l p)), V.int y]) = some (HO.tup [V.int ((lst S (fun p => R f n m (p :: S) p + f l p) n).getD 0), V.int y])
    rw [hp]
    rfl
end
end Hr

/-! rests. -/
namespace Hr
open PySem PySem.Spec PyProof.Rows L2
section
variable {X : Cx} {P : Program} {w : World}
theorem newN {pos : Pos} (hP : X.prog = P := by rfl) (hw : X.w = w := by rfl) : PE X (.Dict [] [] pos) (tNewN P w) := by
  subst hP
  subst hw
  exact pe_newN
theorem putN {o i value : Expr} {pos pos' : Pos} {td ty tv : TE} (hu : X.A.units + 64 < cLine) (ho : PE X o td) (hi : PE X i ty) (hv : PE X value tv) (hP : X.prog = P := by rfl) (hw : X.w = w := by rfl)
    (hs : swapsWith value (some (.Subscript o i pos')) pos.line X.env = pure false := by rfl) : PS X (.Assign [.Subscript o i pos'] value pos) (sPutN P w td ty tv) := by
  subst hP
  subst hw
  exact ps_putN hu ho hi hv hs
end
theorem put_all {P : Program} {w : World} {H : Hp} {es : List Ent} {d ka va : Addr} {S : List Nat} {l : Nat} {y : Int} (Rf : List Nat → Nat → Int) (hd : H d = some (DN P w d es)) (hes : EsOk H es) (hk : KeyAt H ka S l) (hv : H va = some (.tup [.int (Rf S l), .int y])) :
    EsOk (upd H d (DN P w d (putE es S l ka va))) (putE es S l ka va) ∧ (∀ T m, Has H es T m (Rf T m) → Has (upd H d (DN P w d (putE es S l ka va))) (putE es S l ka va) T m (Rf T m)) ∧ Has (upd H d (DN P w d (putE es S l ka va))) (putE es S l ka va) S l (Rf S l) := by
  have tp := tups_ext hd (DN P w d (putE es S l ka va))
  refine ⟨(hes.put hk hv).keep tp, fun T m hT => ?_, ?_⟩
  · refine Has.keep (Has.put hT fun e1 e2 => ⟨y, ?_⟩) tp
    rw [e1, e2]
    exact hv
  · exact Has.keep (Has.new hv) tp
theorem mem_ofSize {n size : Nat} (h : 1 ≤ n) {S : List Nat} : S ∈ ofSize n size ↔ Vs n S ∧ S.length = size := by
  unfold ofSize
  have e : n - 1 + 1 = n := by omega
  rw [List.mem_filter, decide_eq_true_iff]
  constructor
  · rintro ⟨a, b⟩
    have q := setsN_ok _ _ a
    rw [e] at q
    exact ⟨q, b⟩
  · rintro ⟨a, b⟩
    rw [← e] at a
    exact ⟨setsN_all _ _ a, b⟩
def spRests (P : Program) (w : World) : Sp := fun vs H Q _ => ∃ (a : Addr) (n : Nat) (f : F), vs = [.ref a] ∧ TabAt H a n f ∧ 1 ≤ n ∧ n ≤ 8 ∧ ∀ (H' : Hp) (d : Addr) (es : List Ent), Same H H' → H' d = some (DN P w d es) → EsOk H' es → es.length ≤ 9000 →
  (∀ S l, Vs n S → l ∈ S → Has H' es S l (R f n (n - S.length) S l)) → Q (.ref d) H'
section
variable {P : Program} {w : World} {K : PySem.W.Frag} {mg : Str → Option Value} {base : Heap}
abbrev nRests : List Str := ["table", "many", "everything", "found", "last", "size", "some"]
theorem scRests : FnScope nRests ["table"] (defScope sRests) := ⟨rfl, rfl, rfl, by decide +kernel, rfl, by decide +kernel, by decide +kernel⟩
theorem ok_rests {f0 f1 f2 : Addr} {fd fd1 fd2 : FuncData} (Fn : Fun K "rests" "rests" sRests f0 fd) (B : Blt mg) (GS : FnOk P w K mg base CX0 1 f1 fd1 ["many", "size"] spSets) (bS : Binds K fd1 ["many", "size"] []) (kS : PySem.W.keepIn K (.ref f1) = true) (mS : mg "sets_of" = some (.ref f1))
    (GB : FnOk P w K mg base CX0 1 f2 fd2 ["table", "found", "some", "last"] (spBest P w)) (bB : Binds K fd2 ["table", "found", "some", "last"] []) (kB : PySem.W.keepIn K (.ref f2) = true) (mB : mg "best_rest" = some (.ref f2)) :
    FnOk P w K mg base CX0 2 f0 fd ["table"] (spRests P w) := by
  refine Fn.ok scRests (fun vs H Q E h => ?_) (fun cdv A outer s H vs Q E hr h => ?_)
  · obtain ⟨a, n, f, rfl, _⟩ := h
    rfl
  obtain ⟨a, n, f, rfl, hT, hn, h8, k⟩ := h
  obtain ⟨r, ha, hb⟩ := id hT
  have hu := hr.units
  refine ⟨_, pss_cons (ps_set (i := 1) scRests.nd rfl (Or.inl rfl) (pe_callB call_len (by rfl) B.len PySem.boot_len (pa_cons (pv 0) pa_nil)))
    (pss_cons (ps_set (i := 2) scRests.nd rfl (Or.inl rfl) (pe_tupRg rfl (by rfl) B.tuple (prg_1 (by rfl) B.range (pv 1))))
    (pss_cons (ps_set (i := 3) scRests.nd rfl (Or.inl rfl) (newN (P := P) (w := w)))
    (pss_cons (ps_for PassesOwn.never rfl (pi_tup (pv 2)) (pg_name (i := 4) scRests.nd rfl (Or.inl rfl))
      (pss_one (putN (P := P) (w := w) hu (pv 3) (pe_tup (pa_cons (pv 2) (pa_cons (pv 4) pa_nil))) (pe_tup (pa_cons (ixT (K := K) (ixT (K := K) (pv 0) (pv 4)) pe_int) (pa_cons pe_int pa_nil))))))
    (pss_cons (ps_for PassesOwn.never rfl (pi_range3 (by rfl) B.range (pa_cons (pe_op op_sub (pv 1) pe_int) (pa_cons pe_int (pa_cons (pe_un un_neg pe_int) pa_nil)))) (pg_name (i := 5) scRests.nd rfl (Or.inl rfl))
      (pss_one (ps_for PassesOwn.never rfl (pi_list (pe_call GS hr (by rfl) mS kS bS .nil pass0 (pa_cons (pv 1) (pa_cons (pv 5) pa_nil)))) (pg_name (i := 6) scRests.nd rfl (Or.inl rfl))
        (pss_one (ps_for PassesOwn.never rfl (pi_tup (pv 6)) (pg_name (i := 4) scRests.nd rfl (Or.inl rfl))
          (pss_one (putN (P := P) (w := w) hu (pv 3) (pe_tup (pa_cons (pv 6) (pa_cons (pv 4) pa_nil))) (pe_call GB hr (by rfl) mB kB bB .nil pass0 (pa_cons (pv 0) (pa_cons (pv 3) (pa_cons (pv 6) (pa_cons (pv 4) pa_nil))))))))))))
    (pss_one (ps_ret (pv 3))))))), ?_⟩
  -- many, everything
  refine ⟨_, rfl, _, n, rfl, .inr ⟨_, SqT.of ha, len_map.symm⟩, ?_⟩
  refine ⟨_, rfl, (n : Int), rfl, RgOk.of_le (by omega) (by omega) (by omega) (by omega), fun ev hev => ?_⟩
  rw [rgV_eq]
  have sE := same_new hev (.tup (rowI n fun i => (i : Int)))
  have hE : (upd H ev (.tup (rowI n fun i => (i : Int)))) ev = some (.tup (pV (List.range n))) := upd_same
  generalize upd H ev (.tup (rowI n fun i => (i : Int))) = H0 at sE hE
  have ha0 := sE _ _ ha
  have hb0 : ∀ i, i < n → H0 (r i) = some (.tup (rowI n (f i))) := fun i hi => sE _ _ (hb i hi)
  have hT0 := hT.keep sE
  intro d hd0
  have line9 : 9000 < sizeLine := by rw [sizeLine_eq]; omega
  refine ⟨_, rfl, ev, rfl, ⟨_, sT (same_new hd0 _) hE⟩, for_tup (K := K) (a := ev) (xs := pV (List.range n))
    (fun i σ H1 => ∃ (es : List Ent) (v4 : Option V), σ = [some (.ref a), some (.int (n : Int)), some (.ref ev), some (.ref d), v4, none, none] ∧ Same H0 H1 ∧ H1 d = some (DN P w d es) ∧ EsOk H1 es ∧ es.length ≤ i ∧ ∀ l, l < i → Has H1 es (List.range n) l (R f n (n - (List.range n).length) (List.range n) l))
    ⟨[], none, rfl, same_new hd0 _, upd_same, fun _ z => absurd z List.not_mem_nil, Nat.le_refl _, fun _ z => absurd z (Nat.not_lt_zero _)⟩ (fun i σ H1 _ ⟨_, _, _, s1, _⟩ => sT s1 hE) ?_ ?_⟩
  · rintro i x σ H1 hi ⟨es, v4, rfl, s1, hd, hes, hl, hh⟩
    obtain ⟨hin, rfl⟩ := row_get (n := n) (φ := fun i => V.int (i : Int)) hi
    refine ⟨_, rfl, _, rfl, a, _, _, _, rfl, rfl, sT s1 ha0, atI_map rfl hin, _, _, _, _, rfl, rfl, sT s1 (hb0 i hin), atI_map (m := 0) rfl (by omega), (by show 2 ≤ sizeLine; decide), fun va hva => ?_⟩
    have s2 := same_new hva (.tup [.int (f i 0), .int 1])
    refine ⟨_, rfl, _, rfl, _, rfl, (by show 2 ≤ sizeLine; decide), fun ka hka => ?_⟩
    have s3 := same_new hka (.tup [.ref ev, .int (i : Int)])
    have e1 := s3 _ _ (upd_same (H := H1) (a := va) (o := .tup [.int (f i 0), .int 1]))
    have e2 := upd_same (H := upd H1 va (.tup [.int (f i 0), .int 1])) (a := ka) (o := .tup [.ref ev, .int (i : Int)])
    have s4 := s2.trans s3
    generalize upd (upd H1 va (.tup [.int (f i 0), .int 1])) ka (.tup [.ref ev, .int (i : Int)]) = H2 at e1 e2 s4
    have hky : KeyAt H2 ka (List.range n) i := ⟨ev, e2, s4 _ _ (s1 _ _ hE)⟩
    have hes2 := hes.keep (same_tups s4)
    have hd2 := s4 _ _ hd
    refine ⟨d, es, List.range n, i, ka, va, rfl, rfl, rfl, hd2, hes2.keys, hky, by omega, ?_⟩
    have ez : R f n (n - (List.range n).length) (List.range n) i = f i 0 := by
      rw [List.length_range, Nat.sub_self]
      rfl
    obtain ⟨p1, p2, p3⟩ := put_all (Rf := fun S l => R f n (n - S.length) S l) hd2 hes2 hky (by show H2 va = some (.tup [.int (R f n (n - (List.range n).length) (List.range n) i), .int 1]); rw [ez]; exact e1)
    refine ⟨_, _, rfl, sset (s1.trans s4) hd0 _, upd_same, p1, Nat.le_trans (putE_len es _ _ _ _) (by omega), fun l hl' => ?_⟩
    by_cases c : l = i
    · subst c
      exact p3
    · exact p2 _ _ ((hh l (by omega)).keep (same_tups s4))
  rintro σ H1 ⟨es, v4, rfl, s1, hd, hes, hl, hh⟩
  rw [pV_len, List.length_range] at hl hh
  refine ⟨_, rfl, _, _, rfl, rfl, 1, rfl, (n : Int) - 1, 0, -1, _, rfl, RgC.neg (by omega) (by omega) (by omega) (by omega), for_rangeC (lo := (n : Int) - 1) (c := -1) (n := ((n : Int) - 1 - 0).toNat)
    (fun i σ H2 => ∃ (es : List Ent) (v4 v5 v6 : Option V), σ = [some (.ref a), some (.int (n : Int)), some (.ref ev), some (.ref d), v4, v5, v6] ∧ Same H0 H2 ∧ H2 d = some (DN P w d es) ∧ EsOk H2 es ∧ es.length ≤ n + 1024 * i ∧
      ∀ S l, Vs n S → n - i ≤ S.length → l ∈ S → Has H2 es S l (R f n (n - S.length) S l))
    ⟨es, v4, none, none, rfl, s1, hd, hes, by omega, fun S l hS hlS hm => ?_⟩ ?_ ?_⟩
  · have e : S = List.range n := hS.full (by have := hS.len; omega)
    subst e
    rw [List.length_range]
    exact hh l (List.mem_range.mp hm)
  · rintro i σ H2 hi ⟨es, v4, v5, v6, rfl, s2, hd, hes, hl, hh⟩

    have hin : i < n - 1 := by omega
    have esz : (n : Int) - 1 + (i : Int) * -1 = ((n - 1 - i : Nat) : Int) := by omega
    rw [esz]
    generalize hsz : n - 1 - i = sz
    refine ⟨_, rfl, _, rfl, n, sz, rfl, hn, h8, fun H3 D as s3 hD hA => ?_⟩
    have hal : as.length ≤ 128 := by
      rw [hA.len]
      refine Nat.le_trans (List.length_filter_le _ _) ?_
      rw [setsN_len]
      exact Nat.le_trans (Nat.pow_le_pow_right (j := 7) (by decide) (by omega)) (by decide)
    have s03 := s2.trans s3
    have hdD : ∀ {H' : Hp} {es : List Ent}, H' D = some (.lst (as.map V.ref)) → H' d = some (DN P w d es) → D ≠ d := fun h1 h2 => ne_of h1 h2 (fun z => nomatch z)
    refine ⟨D, rfl, ⟨_, SqL.of hD⟩, for_list (K := K) (a := D) (xs := as.map V.ref)
      (fun t σ H4 => ∃ (es : List Ent) (v4 v6 : Option V), σ = [some (.ref a), some (.int (n : Int)), some (.ref ev), some (.ref d), v4, some (.int (sz : Int)), v6] ∧ Same H0 H4 ∧ H4 D = some (.lst (as.map V.ref)) ∧ TA H4 as (ofSize n sz) ∧ H4 d = some (DN P w d es) ∧ EsOk H4 es ∧
        es.length ≤ n + 1024 * i + 8 * t ∧ (∀ S l, Vs n S → n - i ≤ S.length → l ∈ S → Has H4 es S l (R f n (n - S.length) S l)) ∧ ∀ j S l, j < t → (ofSize n sz)[j]? = some S → l ∈ S → Has H4 es S l (R f n (n - S.length) S l))
      ⟨es, v4, v6, rfl, s03, hD, hA, s3 _ _ hd, hes.keep (same_tups s3), by omega, fun S l h1 h2 h3 => (hh S l h1 h2 h3).keep (same_tups s3), fun _ _ _ z => absurd z (Nat.not_lt_zero _)⟩ (fun t σ H4 _ ⟨_, _, _, _, _, h, _⟩ => SqL.of h) ?_ ?_⟩
    · rintro t x σ H4 ht ⟨es, v4, v6, rfl, s4, hD4, hA4, hd4, hes4, hl4, hh4, hg4⟩
      obtain ⟨b, S, rfl, hS, hb4⟩ := hA4.get ht
      obtain ⟨hV, hSl⟩ := (mem_ofSize hn).mp (List.mem_of_getElem? hS)
      have htl := (List.getElem?_eq_some_iff.mp ht).1
      rw [List.length_map] at htl
      have hS8 : S.length ≤ 8 := Nat.le_trans hV.len h8
      refine ⟨_, rfl, b, rfl, ⟨_, SqT.of hb4⟩, for_tup (K := K) (a := b) (xs := pV S)
        (fun u σ H5 => ∃ (es : List Ent) (v4 : Option V), σ = [some (.ref a), some (.int (n : Int)), some (.ref ev), some (.ref d), v4, some (.int (sz : Int)), some (.ref b)] ∧ Same H0 H5 ∧ H5 D = some (.lst (as.map V.ref)) ∧ TA H5 as (ofSize n sz) ∧ H5 b = some (.tup (pV S)) ∧ H5 d = some (DN P w d es) ∧ EsOk H5 es ∧
          es.length ≤ n + 1024 * i + 8 * t + u ∧ (∀ S l, Vs n S → n - i ≤ S.length → l ∈ S → Has H5 es S l (R f n (n - S.length) S l)) ∧ (∀ j S l, j < t → (ofSize n sz)[j]? = some S → l ∈ S → Has H5 es S l (R f n (n - S.length) S l)) ∧
          ∀ j l, j < u → S[j]? = some l → Has H5 es S l (R f n (n - S.length) S l))
        ⟨es, v4, rfl, s4, hD4, hA4, hb4, hd4, hes4, by omega, hh4, hg4, fun _ _ z => absurd z (Nat.not_lt_zero _)⟩ (fun u σ H5 _ ⟨_, _, _, _, _, _, h, _⟩ => SqT.of h) ?_ ?_⟩
      · rintro u x σ H5 hu5 ⟨es, v4, rfl, s5, hD5, hA5, hb5, hd5, hes5, hl5, hh5, hg5, hk5⟩
        have hul := (List.getElem?_eq_some_iff.mp hu5).1
        rw [pV_len] at hul
        obtain ⟨l, hSu, rfl⟩ : ∃ l, S[u]? = some l ∧ x = V.int (l : Int) := by
          rw [List.getElem?_map] at hu5
          cases q : S[u]? with
          | none =>
            rw [q] at hu5
            cases hu5
          | some l =>
            rw [q] at hu5
            exact ⟨l, rfl, (Option.some.inj hu5).symm⟩
        have hlS := List.mem_of_getElem? hSu
        refine ⟨_, rfl, _, rfl, _, rfl, _, rfl, a, d, b, n, l, i, f, es, S, rfl, hT0.keep s5, h8, hd5, hes5, hb5, hV, hV.b l hlS, by omega, fun T p hVT hTl hp => ?_, fun H6 va y s6 hva => ?_⟩
        · have q := hh5 T p hVT (by omega) hp
          rw [show n - T.length = i by omega] at q
          exact q
        refine ⟨_, rfl, _, rfl, _, rfl, (by show 2 ≤ sizeLine; decide), fun ka hka => ?_⟩
        have s7 := same_new hka (.tup [.ref b, .int (l : Int)])
        have e1 := s7 _ _ hva
        have e2 := upd_same (H := H6) (a := ka) (o := .tup [.ref b, .int (l : Int)])
        have s8 := s6.trans s7
        generalize upd H6 ka (.tup [.ref b, .int (l : Int)]) = H7 at e1 e2 s8
        have hky : KeyAt H7 ka S l := ⟨b, e2, s8 _ _ hb5⟩
        have hes7 := hes5.keep (same_tups s8)
        have hd7 := s8 _ _ hd5
        have hD7 := s8 _ _ hD5
        refine ⟨d, es, S, l, ka, va, rfl, rfl, rfl, hd7, hes7.keys, hky, by omega, ?_⟩
        have em : n - S.length = i + 1 := by omega
        obtain ⟨p1, p2, p3⟩ := put_all (Rf := fun S l => R f n (n - S.length) S l) hd7 hes7 hky (by show H7 va = some (.tup [.int (R f n (n - S.length) S l), .int y]); rw [em]; exact e1)
        have tp := tups_ext hd7 (DN P w d (putE es S l ka va))
        have hDd := hdD hD7 hd7
        refine ⟨_, _, rfl, sset (s5.trans s8) hd0 _, by rw [upd_ne hDd]; exact hD7, (hA5.keep (same_tups s8)).keep tp, tp _ _ (s8 _ _ hb5), upd_same, p1, Nat.le_trans (putE_len es _ _ _ _) (by omega),
          fun T m h1 h2 h3 => p2 _ _ ((hh5 T m h1 h2 h3).keep (same_tups s8)), fun j T m h1 h2 h3 => p2 _ _ ((hg5 j T m h1 h2 h3).keep (same_tups s8)), fun j m h1 h2 => ?_⟩
        by_cases c : j = u
        · subst c
          rw [hSu] at h2
          cases h2
          exact p3
        · exact p2 _ _ ((hk5 j m (by omega) h2).keep (same_tups s8))
      · rintro σ H5 ⟨es, v4, rfl, s5, hD5, hA5, hb5, hd5, hes5, hl5, hh5, hg5, hk5⟩
        rw [pV_len] at hl5 hk5
        refine ⟨es, v4, _, rfl, s5, hD5, hA5, hd5, hes5, by omega, hh5, fun j T m h1 h2 h3 => ?_⟩
        by_cases c : j = t
        · subst c
          rw [hS] at h2
          cases h2
          obtain ⟨u, hu5⟩ := List.mem_iff_getElem?.mp h3
          exact hk5 u m (List.getElem?_eq_some_iff.mp hu5).1 hu5
        · exact hg5 j T m (by omega) h2 h3
    · rintro σ H4 ⟨es, v4, v6, rfl, s4, hD4, hA4, hd4, hes4, hl4, hh4, hg4⟩
      rw [List.length_map] at hl4 hg4
      refine ⟨es, v4, _, v6, rfl, s4, hd4, hes4, by omega, fun S l h1 h2 h3 => ?_⟩
      by_cases c : n - i ≤ S.length
      · exact hh4 S l h1 c h3
      · have hm : S ∈ ofSize n sz := (mem_ofSize hn).mpr ⟨h1, by omega⟩
        obtain ⟨j, hj⟩ := List.mem_iff_getElem?.mp hm
        exact hg4 j S l (by rw [hA4.len]; exact (List.getElem?_eq_some_iff.mp hj).1) hj h3
  · rintro σ H2 ⟨es, v4, v5, v6, rfl, s2, hd, hes, hl, hh⟩
    refine ⟨_, rfl, ?_⟩
    exact k H2 d es (sE.trans s2) hd hes (by omega) fun S l h1 h3 => hh S l h1 (by have := h1.pos; omega) h3
end
end Hr

/-! shortest. -/
namespace Hr
open PySem PySem.Spec PyProof.Rows L2
theorem findE_of_mem {es : List Ent} {e : Ent} (h : e ∈ es) : ∃ e', findE es e.S e.l = some e' := by
  cases q : findE es e.S e.l with
  | some e' => exact ⟨e', rfl⟩
  | none =>
    have z := List.find?_eq_none.mp q e h
    exact absurd (decide_eq_true ⟨rfl, rfl⟩) z
def spShortest : Sp := fun vs H Q _ => ∃ (a : Addr) (n : Nat) (f : F), vs = [.ref a] ∧ TabAt H a n f ∧ 1 ≤ n ∧ n ≤ 8 ∧ ∀ (H' : Hp) (p : Addr) (x y : V), Same H H' → H' p = some (.tup [.int (R f n (n - 1) [0] 0), x, y]) → Q (.ref p) H'
section
variable {P : Program} {w : World} {K : PySem.W.Frag} {mg : Str → Option Value} {base : Heap}
abbrev nShortest : List Str := ["table", "found", "some", "last", "gone", "place", "longer", "ahead", "floors", "key"]
theorem scShortest : FnScope nShortest ["table"] (defScope sShortest) := ⟨rfl, rfl, rfl, by decide +kernel, rfl, by decide +kernel, by decide +kernel⟩
theorem ok_shortest {f0 f1 : Addr} {fd fd1 : FuncData} (Fn : Fun K "shortest" "shortest" sShortest f0 fd) (B : Blt mg) (G : FnOk P w K mg base CX0 2 f1 fd1 ["table"] (spRests P w)) (bG : Binds K fd1 ["table"] []) (kG : PySem.W.keepIn K (.ref f1) = true) (mG : mg "rests" = some (.ref f1)) :
    FnOk P w K mg base CX0 3 f0 fd ["table"] spShortest := by
  refine Fn.ok scShortest (fun vs H Q E h => ?_) (fun cdv A outer s H vs Q E hr h => ?_)
  · obtain ⟨a, n, f, rfl, _⟩ := h
    rfl
  obtain ⟨a, n, f, rfl, hT, hn, h8, k⟩ := h
  have hu := hr.units
  refine ⟨_, pss_cons (ps_set (i := 1) scShortest.nd rfl (Or.inr rfl) (pe_call G hr (by rfl) mG kG bG .nil pass0 (pa_cons (pv 0) pa_nil)))
    (pss_cons (ps_set (i := 2) scShortest.nd rfl (Or.inl rfl) (pe_tup (pa_cons pe_int pa_nil)))
    (pss_cons (ps_set (i := 3) scShortest.nd rfl (Or.inl rfl) pe_int)
    (pss_cons (ps_set (i := 4) scShortest.nd rfl (Or.inl rfl) (pe_lst (pa_cons pe_int pa_nil)))
    (pss_cons (ps_while PassesOwn.never (pt_cmpR op_lt (pe_callB call_len (by rfl) B.len PySem.boot_len (pa_cons (pv 2) pa_nil)) (pe_callB call_len (by rfl) B.len PySem.boot_len (pa_cons (pv 0) pa_nil)) (nomark _))
      (pss_cons (ps_for PassesOwn.never rfl (pi_range1 (by rfl) B.range (pa_cons (pe_callB call_len (by rfl) B.len PySem.boot_len (pa_cons (pv 0) pa_nil)) pa_nil)) (pg_name (i := 5) scShortest.nd rfl (Or.inl rfl))
        (pss_cons (ps_set (i := 6) scShortest.nd rfl (Or.inl rfl) (pe_callTy (cl_tup (K := K)) (by rfl) B.tuple (by decide +kernel) (pa_cons (pe_callB cr_sortTup (by rfl) B.sorted (by decide +kernel) (pa_cons (pe_op (opCat (K := K)) (pv 2) (pe_tup (pa_cons (pv 5) pa_nil))) pa_nil)) pa_nil)))
        (pss_one (ps_if (PW.pt (pw_and (pt_cmpR op_notIn_seq (pv 5) (pv 2) rfl) (pw_and1 (pt_cmpR op_eq
            (pe_op op_add (ixT (K := K) (getN (P := P) (w := w) hu (pv 1) (pe_tup (pa_cons (pv 6) (pa_cons (pv 5) pa_nil)))) pe_int) (ixT (K := K) (ixT (K := K) (pv 0) (pv 3)) (pv 5)))
            (ixT (K := K) (getN (P := P) (w := w) hu (pv 1) (pe_tup (pa_cons (pv 2) (pa_cons (pv 3) pa_nil)))) pe_int) (nomark _)))))
          (pss_one (ps_set (i := 7) scShortest.nd rfl (Or.inl rfl) (pe_tup (pa_cons (pv 6) (pa_cons (pv 5) pa_nil))))) pss_nil))))
      (pss_cons (ps_asg (pv 7) (pg_tup rfl (pgs_cons (pg_name (i := 2) scShortest.nd rfl (Or.inl rfl)) (pgs_cons (pg_name (i := 3) scShortest.nd rfl (Or.inl rfl)) pgs_nil))))
      (pss_one (ps_expr (pe_bm PySem.F.plainAttrs_list PySem.F.slot_list_append PySem.F.type_list_append mt_append (pv 4) (pa_cons (pv 3) pa_nil)))))))
    (pss_cons (ps_setLc (i := 8) (own := [("key", 9)]) (g := gName 9) (by rfl) scShortest.nd rfl rfl (sw_true rfl rfl rfl (by decide +kernel)) (pi_list (pe_callB (cr_sortN rfl hu) (by rfl) B.sorted (by decide +kernel) (pa_cons (pv 1) pa_nil)))
        (blkOk_by (own := [("key", 9)]) (N := nShortest) (sc := defScope sShortest) (by decide +kernel)) (fun _ _ _ _ _ => pg_name (i := 9) scShortest.nd rfl (Or.inl rfl)) (fun _ _ _ _ _ => pts_nil)
        (fun _ _ _ _ _ => pe_tup (pa_cons (ixT (K := K) (pv 9) pe_int) (pa_cons (ixT (K := K) (pv 9) pe_int) (pa_cons (ixT (K := K) (getN (P := P) (w := w) hu (pv 1) (pv 9)) pe_int) pa_nil)))))
    (pss_one (ps_ret (pe_tup (pa_cons (ixT (K := K) (getN (P := P) (w := w) hu (pv 1) (pe_tup (pa_cons (pe_tup (pa_cons pe_int pa_nil)) (pa_cons pe_int pa_nil)))) pe_int)
      (pa_cons (pe_callTy (cl_tup (K := K)) (by rfl) B.tuple (by decide +kernel) (pa_cons (pv 4) pa_nil)) (pa_cons (pv 8) pa_nil))))))))))), ?_⟩
  refine ⟨_, rfl, a, n, f, rfl, hT, hn, h8, fun H1 d es s1 hd hes hel hh => ?_⟩
  obtain ⟨r, ha, hb⟩ := hT.keep s1
  refine ⟨(by show 1 ≤ sizeLine; decide), fun q0 hq0 => ?_⟩
  have sq := same_new hq0 (.tup [.int 0])
  refine ⟨(by show 1 ≤ sizeLine; decide), fun g hg => ?_⟩
  have sg := same_new hg (.lst [.int 0])
  have hg1 := sq.free hg
  have hV0 : Vs n [0] := ⟨List.pairwise_singleton _ _, List.mem_cons_self, fun x hx => by
    rw [List.mem_singleton] at hx
    omega⟩
  refine ⟨fun mm σ H' => ∃ (q : Addr) (l : Nat) (S : List Nat) (gs : List V) (v5 v6 v7 : Option V), σ = [some (.ref a), some (.ref d), some (.ref q), some (.int (l : Int)), some (.ref g), v5, v6, v7, none, none] ∧ Same H1 H' ∧ H' g = some (.lst gs) ∧ H' q = some (.tup (pV S)) ∧ Vs n S ∧ l ∈ S ∧ gs.length = S.length ∧ mm = n - S.length,
    ⟨n - 1, q0, 0, [0], [.int 0], none, none, none, rfl, sq.trans sg, upd_same, sg _ _ upd_same, hV0, List.mem_cons_self, rfl, rfl⟩, ?_⟩
  rintro mm σ H2 ⟨q, l, S, gs, v5, v6, v7, rfl, s2, hgs, hq, hV, hlS, hgl, rfl⟩
  have hSn := hV.len
  refine ⟨_, rfl, _, S.length, rfl, .inr ⟨_, SqT.of hq, (pV_len S).symm⟩, _, rfl, _, n, rfl, .inr ⟨_, SqT.of (s2 _ _ ha), len_map.symm⟩, _, _, rfl, rfl, _, rfl, ?_⟩
  by_cases c : S.length < n
  · rw [decide_eq_true (show (S.length : Int) < (n : Int) by omega)]
    refine iteT ⟨fun σ H' => ∃ (q : Addr) (l : Nat) (T : List Nat) (gs : List V) (v5 v6 v7 : Option V), σ = [some (.ref a), some (.ref d), some (.ref q), some (.int (l : Int)), some (.ref g), v5, v6, v7, none, none] ∧ Same H1 H' ∧ H' g = some (.lst gs) ∧ H' q = some (.tup (pV T)) ∧ Vs n T ∧ l ∈ T ∧ gs.length = T.length ∧ T.length = S.length + 1,
      fun σ' H' ⟨q, l, T, gs, v5, v6, v7, e1, e2, e3, e4, e5, e6, e7, e8⟩ => ⟨n - T.length, by omega, q, l, T, gs, v5, v6, v7, e1, e2, e3, e4, e5, e6, e7, rfl⟩, ?_⟩
    have hln := hV.b l hlS
    generalize hm : n - S.length - 1 = m
    have em : n - S.length = m + 1 := by omega
    refine ⟨_, rfl, _, n, rfl, .inr ⟨_, SqT.of (s2 _ _ ha), len_map.symm⟩, (n : Int), rfl, by omega, by omega, ?_⟩
    rw [show ((n : Int)).toNat = n from rfl]
    refine for_range (lo := 0) (n := n)
      (fun i σ H3 => ∃ (v5 v6 v7 : Option V), σ = [some (.ref a), some (.ref d), some (.ref q), some (.int (l : Int)), some (.ref g), v5, v6, v7, none, none] ∧ Same H2 H3 ∧
        ((∃ (t q' : Addr) (T : List Nat) (p : Nat), v7 = some (.ref t) ∧ H3 t = some (.tup [.ref q', .int (p : Int)]) ∧ H3 q' = some (.tup (pV T)) ∧ Vs n T ∧ T.length = S.length + 1 ∧ p ∈ T) ∨ ∀ p, p < i → p ∉ S → R f n m (p :: S) p + f l p ≠ R f n (m + 1) S l))
      ⟨v5, v6, v7, rfl, Same.refl H2, .inr fun _ z => absurd z (Nat.not_lt_zero _)⟩ ?_ ?_
    · rintro i σ H3 hi ⟨w5, w6, w7, rfl, s3, hor⟩
      have e0 : (0 : Int) + (i : Int) = (i : Int) := Int.zero_add _
      rw [e0]
      have hS8 : S.length ≤ 8 := by omega
      refine ⟨_, rfl, _, rfl, (by show 1 ≤ sizeLine; decide), fun p hp => ?_⟩
      have sp := same_new hp (.tup [.int (i : Int)])
      refine ⟨q, p, _, _, rfl, rfl, SqT.of (sp _ _ (s3 _ _ hq)), SqT.of upd_same, pV_ne hV, ?_, (fun z => nomatch z), fun _ t ht => ?_⟩
      · rw [pV_len]
        exact small256 (by show S.length + 1 ≤ 256; omega)
      have st := same_new ht (.tup (pV S ++ [.int (i : Int)]))
      have ec : pV S ++ [V.int (i : Int)] = ((S ++ [i]).map fun (n : Nat) => (n : Int)).map V.int := by
        rw [← vals_ints_nat, pV_snoc]
      refine ⟨t, (S ++ [i]).map fun (n : Nat) => (n : Int), rfl, by rw [← ec]; exact SqT.of upd_same, ?_, fun ms u hms hso hu' => ?_⟩
      · rw [List.length_map, List.length_append, List.length_singleton]
        omega
      obtain ⟨T, rfl, hperm, hsort⟩ := ints_back hms hso
      rw [← vals_ints_nat]
      have su := same_new hu' (.lst (pV T))
      refine ⟨u, _, rfl, SqL.of upd_same, fun x hx => ?_⟩
      have sx := same_new hx (.tup (pV T))
      have hx4 := upd_same (H := upd (upd (upd H3 p (.tup [.int (i : Int)])) t (.tup (pV S ++ [.int (i : Int)]))) u (.lst (pV T))) (a := x) (o := .tup (pV T))
      have s4 := ((sp.trans st).trans su).trans sx
      generalize upd (upd (upd (upd H3 p (.tup [.int (i : Int)])) t (.tup (pV S ++ [.int (i : Int)]))) u (.lst (pV T))) x (.tup (pV T)) = H4 at hx4 s4
      have hor4 : (∃ (t q' : Addr) (T : List Nat) (p : Nat), w7 = some (.ref t) ∧ H4 t = some (.tup [.ref q', .int (p : Int)]) ∧ H4 q' = some (.tup (pV T)) ∧ Vs n T ∧ T.length = S.length + 1 ∧ p ∈ T) ∨ ∀ p, p < i → p ∉ S → R f n m (p :: S) p + f l p ≠ R f n (m + 1) S l := by
        rcases hor with ⟨t, q', T, p, z1, z2, z3, z4⟩ | z
        · exact .inl ⟨t, q', T, p, z1, s4 _ _ z2, s4 _ _ z3, z4⟩
        · exact .inr z
      have s24 := s3.trans s4
      have s14 := s2.trans s24
      refine ⟨_, rfl, _, rfl, q, _, rfl, .inr (SqT.of (s24 _ _ hq)), rfl, flat_pV S, _, rfl, ?_⟩
      show if (!inV (V.int (i : Int)) (pV S)) = true then _ else _
      rw [inV_pV]
      by_cases ci : i ∈ S
      · rw [decide_eq_true ci]
        refine iteF (iteF ?_)
        refine ⟨_, _, w7, rfl, s24, ?_⟩
        rcases hor4 with z | z
        · exact .inl z
        · refine .inr fun p hp hpS => z p ?_ hpS
          rcases Nat.lt_succ_iff_lt_or_eq.mp hp with e | e
          · exact e
          · subst e
            exact absurd ci hpS
      rw [decide_eq_false ci]
      refine iteT ?_
      obtain ⟨hVT, hTl, hTm⟩ := hV.more hi ci hperm hsort
      refine ⟨_, rfl, _, rfl, _, rfl, (by show 2 ≤ sizeLine; decide), fun z hz => ?_⟩
      have sz := same_new hz (.tup [.ref x, .int (i : Int)])
      obtain ⟨e, y2, he, hv⟩ := hh T i hVT ((hTm i).mpr List.mem_cons_self)
      have s15 := s14.trans sz
      refine ⟨d, es, T, i, z, e, rfl, rfl, s15 _ _ hd, (hes.keep (same_tups s15)).keys, ⟨x, upd_same, sz _ _ hx4⟩, he, ?_⟩
      refine ⟨e.va, _, 0, _, rfl, rfl, SqT.of (s15 _ _ hv), atI_nat (j := 0) rfl, ?_⟩
      refine ⟨_, rfl, _, rfl, a, _, _, _, rfl, rfl, SqT.of (s15 _ _ ha), atI_map rfl hln, _, rfl, _, _, _, _, rfl, rfl, SqT.of (s15 _ _ (hb l hln)), atI_map rfl hi, _, _, rfl, rfl, ?_⟩
      refine ⟨_, rfl, _, rfl, _, rfl, (by show 2 ≤ sizeLine; decide), fun z2 hz2 => ?_⟩
      have sz2 := same_new hz2 (.tup [.ref q, .int (l : Int)])
      obtain ⟨e', y3, he', hv'⟩ := hh S l hV hlS
      have s16 := s15.trans sz2
      have hz2' := upd_same (H := upd H4 z (.tup [.ref x, .int (i : Int)])) (a := z2) (o := .tup [.ref q, .int (l : Int)])
      have hzz := sz2 _ _ (upd_same (H := H4) (a := z) (o := .tup [.ref x, .int (i : Int)]))
      have s46 := sz.trans sz2
      generalize upd (upd H4 z (.tup [.ref x, .int (i : Int)])) z2 (.tup [.ref q, .int (l : Int)]) = H5 at s16 hz2' hzz s46
      refine ⟨d, es, S, l, z2, e', rfl, rfl, s16 _ _ hd, (hes.keep (same_tups s16)).keys, ⟨q, hz2', (s24.trans s46) _ _ hq⟩, he', ?_⟩
      refine ⟨e'.va, _, 0, _, rfl, rfl, SqT.of (s16 _ _ hv'), atI_nat (j := 0) rfl, rfl, _, rfl, ?_⟩
      have eT : R f n (n - T.length) T i = R f n m (i :: S) i := by
        have enm : n - T.length = m := by
          clear hor4 hor
          omega
        rw [enm]
        exact R_congr f n m T (i :: S) i hTm
      rw [eT, em]
      refine ite2 (fun cc => ?_) (fun cc => ?_)
      · -- ahead = (longer, place)
        refine ⟨_, rfl, _, rfl, (by show 2 ≤ sizeLine; decide), fun y hy => ?_⟩
        have sy := same_new hy (.tup [.ref x, .int (i : Int)])
        exact ⟨_, _, _, rfl, (s24.trans s46).trans sy, .inl ⟨y, x, T, i, rfl, upd_same, sy _ _ (s46 _ _ hx4), hVT, hTl, (hTm i).mpr List.mem_cons_self⟩⟩
      · have cc' : R f n m (i :: S) i + f l i ≠ R f n (m + 1) S l := fun z => cc (decide_eq_true (congrArg V.int z))
        refine ⟨_, _, w7, rfl, s24.trans s46, ?_⟩
        rcases hor4 with ⟨t, q', T, p, z1, z2, z3, z4⟩ | z
        · exact .inl ⟨t, q', T, p, z1, s46 _ _ z2, s46 _ _ z3, z4⟩
        · refine .inr fun p hp hpS => ?_
          rcases Nat.lt_succ_iff_lt_or_eq.mp hp with e | e
          · exact z p e hpS
          · subst e
            exact cc'
    · rintro σ H3 ⟨w5, w6, w7, rfl, s3, hor⟩
      obtain ⟨p0, hp0, hpS, hpv⟩ := lst_some (fun p => R f n m (p :: S) p + f l p) n (hV.left c)
      have hor' : ∃ (t q' : Addr) (T : List Nat) (p : Nat), w7 = some (.ref t) ∧ H3 t = some (.tup [.ref q', .int (p : Int)]) ∧ H3 q' = some (.tup (pV T)) ∧ Vs n T ∧ T.length = S.length + 1 ∧ p ∈ T := by
        rcases hor with z | z
        · exact z
        · refine absurd ?_ (z p0 hp0 hpS)
          show _ = (lst S (fun p => R f n m (p :: S) p + f l p) n).getD 0
          rw [hpv]
          rfl
      obtain ⟨t, q', T, p, rfl, ht, hq', hVT, hTl, hpT⟩ := hor'
      refine ⟨_, rfl, t, _, rfl, SqT.of ht, rfl, _, _, rfl, _, _, rfl, rfl, ?_⟩
      refine ⟨_, rfl, .inl ⟨rfl, _, SqL.of (s3 _ _ hgs)⟩, _, rfl, g, _, _, rfl, rfl, s3 _ _ hgs, small1000 (by omega), ?_⟩
      have s13 := s2.trans s3
      have hqg : q' ≠ g := ne_of hq' (s3 _ _ hgs) (fun z => nomatch z)
      refine ⟨q', p, T, gs ++ [.int (p : Int)], _, _, _, rfl, sset s13 hg1 _, upd_same, by rw [upd_ne hqg]; exact hq', hVT, hpT, ?_, hTl⟩
      rw [List.length_append, List.length_singleton]
      omega
  · rw [decide_eq_false (show ¬ (S.length : Int) < (n : Int) by omega)]
    refine iteF ?_
    -- floors
    refine ⟨_, rfl, d, es, rfl, s2 _ _ hd, (hes.keep (same_tups s2)).keys, fun fs p hfs hfl hp => ?_⟩
    have sp := same_new hp (.lst (fs.map fun e => V.ref e.ka))
    have hpl : (upd H2 p (.lst (fs.map fun e => V.ref e.ka))) p = some (.lst (fs.map fun e => V.ref e.ka)) := upd_same
    have s13 := s2.trans sp
    have hgs3 := sp _ _ hgs
    generalize upd H2 p (.lst (fs.map fun e => V.ref e.ka)) = H3 at s13 hpl hgs3
    refine ⟨p, rfl, ⟨_, SqL.of hpl⟩, fun D hD => ?_⟩
    refine lc_list (K := K) (a := p) (xs := fs.map fun e => V.ref e.ka) (fun i H4 => ∃ acc : List V, acc.length = i ∧ Same H3 H4 ∧ H4 D = some (.lst acc)) ⟨[], rfl, same_new hD _, upd_same⟩ (fun i H4 _ ⟨_, _, s4, _⟩ => SqL.of (s4 _ _ hpl)) ?_ ?_
    · rintro i x H4 hi ⟨acc, hal, s4, hD4⟩
      have hil := (List.getElem?_eq_some_iff.mp hi).1
      rw [List.length_map] at hil
      obtain ⟨e, hef, rfl⟩ : ∃ e, e ∈ fs ∧ x = V.ref e.ka := by
        obtain ⟨e, h1, h2⟩ := List.mem_map.mp (List.mem_of_getElem? hi)
        exact ⟨e, h1, h2.symm⟩
      have heS := hfs e hef
      have s14 := s13.trans s4
      obtain ⟨⟨qk, hk1, hk2⟩, _⟩ := hes e heS
      obtain ⟨e', he'⟩ := findE_of_mem heS
      obtain ⟨_, x1, y1, hv⟩ := hes e' (findE_mem he').1
      refine ⟨rfl, yes_ (iteT ?_)⟩
      refine ⟨_, rfl, e.ka, _, 0, _, rfl, rfl, SqT.of (s14 _ _ hk1), atI_nat (j := 0) rfl, _, rfl, e.ka, _, 1, _, rfl, rfl, SqT.of (s14 _ _ hk1), atI_nat (j := 1) rfl, ?_⟩
      refine ⟨_, rfl, _, rfl, d, es, e.S, e.l, e.ka, e', rfl, rfl, s14 _ _ hd, (hes.keep (same_tups s14)).keys, ⟨qk, s14 _ _ hk1, s14 _ _ hk2⟩, he', ?_⟩
      refine ⟨e'.va, _, 0, _, rfl, rfl, SqT.of (s14 _ _ hv), atI_nat (j := 0) rfl, (by show 3 ≤ sizeLine; decide), fun t ht => ?_⟩
      have hDt : D ≠ t := ne_of_none hD4 ht
      have st := same_new ht (.tup [.ref qk, .int (e.l : Int), .int x1])
      refine ⟨acc, by rw [upd_ne hDt]; exact hD4, ?_, acc ++ [.ref t], by rw [List.length_append, List.length_singleton, hal], sset (s4.trans st) hD _, upd_same⟩
      have : fs.length ≤ 9000 := by omega
      rw [sizeLine_eq]
      omega
    · rintro H4 ⟨acc, hal, s4, hD4⟩
      have s14 := s13.trans s4
      refine ⟨_, rfl, (by show 1 ≤ sizeLine; decide), fun t1 ht1 => ⟨(by show 2 ≤ sizeLine; decide), fun t2 ht2 => ?_⟩⟩
      have st1 := same_new ht1 (.tup [.int 0])
      have st2 := same_new ht2 (.tup [.ref t1, .int 0])
      obtain ⟨e, y2, he, hv⟩ := hh [0] 0 hV0 List.mem_cons_self
      have s15 := s14.trans (st1.trans st2)
      refine ⟨d, es, [0], 0, t2, e, rfl, rfl, s15 _ _ hd, (hes.keep (same_tups s15)).keys, ⟨t1, upd_same, st2 _ _ upd_same⟩, he, ?_⟩
      refine ⟨e.va, _, 0, _, rfl, rfl, SqT.of (s15 _ _ hv), atI_nat (j := 0) rfl, ?_⟩
      refine ⟨_, rfl, g, _, rfl, SqL.of ((s4.trans (st1.trans st2)) _ _ hgs3), fun t3 ht3 => ?_⟩
      have st3 := same_new ht3 (.tup gs)
      refine ⟨_, rfl, (by show 3 ≤ sizeLine; decide), fun t4 ht4 => ?_⟩
      have st4 := same_new ht4 (.tup [.int (R f n (n - [0].length) [0] 0), .ref t3, .ref D])
      exact k _ t4 (.ref t3) (.ref D) (((s1.trans s15).trans st3).trans st4) upd_same
end
end Hr

/-! The law's helpers. -/
namespace Hr
open PySem PySem.Spec PyProof.Rows L2
abbrev sCell : Stmt := topS 12
abbrev sLen : Stmt := topS 13
abbrev sTab : Stmt := topS 14
abbrev sLess : Stmt := topS 15
/-! ### the state: a dict of the script and the place -/
def stK (a : Addr) (t : Int) : List (Key × V) := [(Sum.inr "script", .ref a), (Sum.inr "at", .int t)]
theorem key_sa : ¬ ((Sum.inr ("script" : Str) : Key) = Sum.inr ("at" : Str)) := by decide +kernel
theorem key_as : ¬ ((Sum.inr ("at" : Str) : Key) = Sum.inr ("script" : Str)) := by decide +kernel
theorem stK_at (a : Addr) (t : Int) : valV (stK a t) (Sum.inr ("at" : Str) : Key) = some (.int t) := by
  unfold stK
  rw [valV_neg (p := ((Sum.inr ("script" : Str) : Key), V.ref a)) key_sa, valV_pos (p := ((Sum.inr ("at" : Str) : Key), V.int t)) rfl]
theorem stK_script (a : Addr) (t : Int) : valV (stK a t) (Sum.inr ("script" : Str) : Key) = some (.ref a) := by
  unfold stK
  rw [valV_pos (p := ((Sum.inr ("script" : Str) : Key), V.ref a)) rfl]
theorem stK_put (a : Addr) (t u : Int) : putK (stK a t) (Sum.inr ("at" : Str) : Key) (.int u) = stK a u := by
  unfold putK
  rw [valV_any, stK_at, if_pos (show (some (V.int t)).isSome = true from rfl)]
  unfold stK
  rw [List.map_cons, List.map_cons, List.map_nil, if_neg key_sa, if_pos rfl]
section
variable {H : Hp} {d a : Addr} {t : Int}
theorem get_at (h : H d = some (.dK (stK a t))) : DGet H d (.str "at") (some (.int t)) := by
  have q := DGet.k (k := (Sum.inr ("at" : Str) : Key)) h
  rw [stK_at] at q
  exact q
theorem get_script (h : H d = some (.dK (stK a t))) : DGet H d (.str "script") (some (.ref a)) := by
  have q := DGet.k (k := (Sum.inr ("script" : Str) : Key)) h
  rw [stK_script] at q
  exact q
theorem put_at (h : H d = some (.dK (stK a t))) (u : Int) : DPut H d (.str "at") (.int u) (upd H d (.dK (stK a u))) := by
  have q := DPut.k (k := (Sum.inr ("at" : Str) : Key)) (v := .int u) h (by show 2 < sizeLine; decide)
  rw [stK_put] at q
  exact q
theorem sq_upd {K : PySem.W.Frag} {xs : List V} {kvs : List (Key × V)} {o : HO} (h : SqL K H a xs) (hd : H d = some (.dK kvs)) : SqL K (upd H d o) a xs := by
  rcases h with (h | ⟨ob, h⟩) | h
  · exact .inl (.inl (by rw [upd_ne (ne_of h hd (fun z => nomatch z))]; exact h))
  · exact .inl (.inr ⟨ob, by rw [upd_ne (ne_of h hd (fun z => nomatch z))]; exact h⟩)
  · exact .inr h
end
def spCell (K : PySem.W.Frag) : Sp := fun vs H Q _ => ∃ (d a : Addr) (t : Int) (ns : List Int), vs = [.ref d] ∧ H d = some (.dK (stK a t)) ∧ SqL K H a (ns.map V.int) ∧ 0 ≤ t ∧ ∀ v : Int, Q (.int v) (upd H d (.dK (stK a (t + 1))))
def spLen : Sp := fun vs H Q _ => ∃ c : Int, vs = [.int c] ∧ ∀ (H' : Hp) (v : Int), 0 ≤ v → Same H H' → Q (.int v) H'
section
variable {P : Program} {w : World} {K : PySem.W.Frag} {mg : Str → Option Value} {base : Heap}
theorem scCell : FnScope ["state"] ["state"] (defScope sCell) := ⟨rfl, rfl, rfl, by decide +kernel, rfl, by decide +kernel, by decide +kernel⟩
theorem ok_cell {f0 : Addr} {fd : FuncData} (Fn : Fun K "_law_acell" "_law_acell" sCell f0 fd) (B : Blt mg) : FnOk P w K mg base CX0 1 f0 fd ["state"] (spCell K) := by
  refine Fn.ok scCell (fun vs H Q E h => ?_) (fun cdv A outer s H vs Q E hr h => ?_)
  · obtain ⟨d, a, t, ns, rfl, _⟩ := h
    rfl
  obtain ⟨d, a, t, ns, rfl, hd, hS, ht, k⟩ := h
  have hu := hu_of hr
  refine ⟨_, pss_cons (ps_dput hu (pv 0) pe_str (pe_op op_add (pe_dget hu (pv 0) pe_str (fun _ _ => rfl)) pe_int) rfl)
    (pss_cons (ps_if (pt_cmpR op_gt (pe_dget hu (pv 0) pe_str (fun _ _ => rfl)) (pe_callB call_len (by rfl) B.len PySem.boot_len (pa_cons (pe_dget hu (pv 0) pe_str (fun _ _ => rfl)) pa_nil)) (nomark _)) (pss_one (ps_ret pe_int)) pss_nil)
    (pss_one (ps_ret (pe_ix ix_list (pe_dget hu (pv 0) pe_str (fun _ _ => rfl)) (pe_op op_sub (pe_dget hu (pv 0) pe_str (fun _ _ => rfl)) pe_int) (fun _ _ => rfl))))), ?_⟩
  refine ⟨_, rfl, d, _, rfl, get_at hd, _, _, rfl, rfl, _, rfl, d, _, rfl, put_at hd (t + 1), ?_⟩
  have hS1 := sq_upd (o := .dK (stK a (t + 1))) hS hd
  have hd1 : (upd H d (.dK (stK a (t + 1)))) d = some (.dK (stK a (t + 1))) := upd_same
  have fin := k
  generalize upd H d (.dK (stK a (t + 1))) = H1 at hS1 hd1 k
  refine ⟨_, rfl, d, _, rfl, get_at hd1, _, rfl, d, _, rfl, get_script hd1, _, ns.length, rfl, .inl ⟨_, hS1, (List.length_map _).symm⟩, _, _, rfl, rfl, _, rfl, ?_⟩
  refine ite2 (fun c => ?_) (fun c => ?_)
  · exact k 0
  · have c' : ¬ (ns.length : Int) < t + 1 := fun z => c (decide_eq_true z)
    have hlt : t.toNat < ns.length := by omega
    refine ⟨_, rfl, d, _, rfl, get_script hd1, _, rfl, d, _, rfl, get_at hd1, _, _, rfl, rfl, a, _, _, .int ns[t.toNat], rfl, rfl, hS1, ?_, ?_⟩
    · rw [show t + 1 - 1 = ((t.toNat : Nat) : Int) by omega]
      refine atI_nat ?_
      rw [List.getElem?_map, List.getElem?_eq_getElem hlt]
      rfl
    · exact k _
theorem scLen : FnScope ["cell", "top"] ["cell"] (defScope sLen) := ⟨rfl, rfl, rfl, by decide +kernel, rfl, by decide +kernel, by decide +kernel⟩
theorem ok_len {f0 : Addr} {fd : FuncData} (Fn : Fun K "_law_alength" "_law_alength" sLen f0 fd) : FnOk P w K mg base CX0 1 f0 fd ["cell"] spLen := by
  refine Fn.ok scLen (fun vs H Q E h => ?_) (fun cdv A outer s H vs Q E hr h => ?_)
  · obtain ⟨c, rfl, _⟩ := h
    rfl
  obtain ⟨c, rfl, k⟩ := h
  refine ⟨_, pss_cons (ps_set (i := 1) scLen.nd rfl (Or.inl rfl) (pe_ix ix_list (pe_lst (pa_cons pe_int (pa_cons pe_int (pa_cons pe_int (pa_cons pe_int (pa_cons pe_int pa_nil)))))) (pe_op op_mod (pv 0) pe_int) (fun _ _ => rfl)))
    (pss_one (ps_ret (pe_op op_mod (pe_op op_fdiv (pv 0) pe_int) (pv 1)))), ?_⟩
  obtain ⟨v, hv, hat⟩ : ∃ v : Int, 0 < v ∧ atI [V.int 4, V.int 2, V.int 10, V.int 1000, V.int 1000001] (c % 5) = some (.int v) := by
    have h0 := Int.emod_nonneg c (show (5 : Int) ≠ 0 by decide)
    have h1 := Int.emod_lt_of_pos c (show (0 : Int) < 5 by decide)
    generalize c % 5 = m at h0 h1
    have hm : m = 0 ∨ m = 1 ∨ m = 2 ∨ m = 3 ∨ m = 4 := by omega
    rcases hm with e | e | e | e | e
    · exact ⟨4, by decide, by rw [e]; exact atI_nat (j := 0) rfl⟩
    · exact ⟨2, by decide, by rw [e]; exact atI_nat (j := 1) rfl⟩
    · exact ⟨10, by decide, by rw [e]; exact atI_nat (j := 2) rfl⟩
    · exact ⟨1000, by decide, by rw [e]; exact atI_nat (j := 3) rfl⟩
    · exact ⟨1000001, by decide, by rw [e]; exact atI_nat (j := 4) rfl⟩
  refine ⟨(by show 5 ≤ sizeLine; decide), fun p hp => ?_⟩
  refine ⟨_, rfl, _, _, rfl, rfl, (by show (0 : Int) < 5; decide), p, _, _, _, rfl, rfl, SqL.of upd_same, hat, ?_⟩
  refine ⟨_, rfl, _, _, rfl, rfl, ⟨by decide, by decide⟩, _, rfl, _, _, rfl, rfl, hv, ?_⟩
  exact k _ _ (Int.emod_nonneg _ (by omega)) (same_new hp _)
/-! ### _law_aless -/
def spLess : Sp := fun vs H Q _ => ∃ (a b : Addr) (n : Nat) (f g : F), vs = [.ref a, .ref b] ∧ TabAt H a n f ∧ TabAt H b n g ∧ n ≤ 8 ∧ (∀ i j, i < n → j < n → f i j ≤ g i j) ∧ ∀ H', Same H H' → Q (.bl true) H'
abbrev nLess : List Str := ["one", "other", "line", "more", "k"]
theorem scLess : FnScope nLess ["one", "other"] (defScope sLess) := ⟨rfl, rfl, rfl, by decide +kernel, rfl, by decide +kernel, by decide +kernel⟩
theorem ok_less {f0 : Addr} {fd : FuncData} (Fn : Fun K "_law_aless" "_law_aless" sLess f0 fd) (B : Blt mg) : FnOk P w K mg base CX0 1 f0 fd ["one", "other"] spLess := by
  refine Fn.ok scLess (fun vs H Q E h => ?_) (fun cdv A outer s H vs Q E hr h => ?_)
  · obtain ⟨a, b, n, f, g, rfl, _⟩ := h
    rfl
  obtain ⟨a, b, n, f, g, rfl, ⟨r, ha, hra⟩, ⟨q, hb, hqb⟩, h8, hle, k⟩ := h
  refine ⟨_, pss_cons (ps_for PassesOwn.never rfl (RZ.pi_zipA (by rfl) B.zip (pa_cons (pv 0) (pa_cons (pv 1) pa_nil)))
      (pg_tup rfl (pgs_cons (pg_name (i := 2) scLess.nd rfl (Or.inr rfl)) (pgs_cons (pg_name (i := 3) scLess.nd rfl (Or.inr rfl)) pgs_nil)))
      (pss_one (ps_if (pt_cmpR op_gt (pe_callB call_len (by rfl) B.len PySem.boot_len (pa_cons
        (pe_lc (own := [("k", 4)]) (g := gName 4) rfl scLess.nd (pi_range1 (by rfl) B.range (pa_cons (pe_callB call_len (by rfl) B.len PySem.boot_len (pa_cons (pv 2) pa_nil)) pa_nil)) (blkOk_by (own := [("k", 4)]) (N := nLess) (sc := defScope sLess) (by decide +kernel))
          (fun _ _ _ _ _ => pg_name (i := 4) scLess.nd rfl (Or.inl rfl)) (fun _ _ _ _ _ => pts_one (pt_cmpR op_gt (ixT (K := K) (pv 2) (pv 4)) (ixT (K := K) (pv 3) (pv 4)) (nomark _))) (fun _ _ _ _ _ => pv 4)) pa_nil)) pe_int (nomark _))
        (pss_one (ps_ret pe_bl)) pss_nil)))
    (pss_one (ps_ret pe_bl)), ?_⟩
  refine ⟨_, rfl, _, rfl, a, b, refs n r, refs n q, rfl, .inr ⟨SqT.of ha, SqT.of hb, RZ.for_zipT (K := K) (a := a) (b := b) (xs := refs n r) (ys := refs n q) (by rw [len_map, len_map])
    (fun i σ H1 => ∃ v2 v3, σ = [some (.ref a), some (.ref b), v2, v3, none] ∧ Same H H1) ⟨none, none, rfl, Same.refl H⟩ (fun i σ H1 ⟨_, _, _, s1⟩ => ⟨sT s1 ha, sT s1 hb⟩) ?_ ?_⟩⟩
  · rintro i x y T σ H1 hx hy ⟨v2, v3, rfl, s1⟩ hT
    obtain ⟨hin, rfl⟩ := row_get hx
    obtain ⟨_, rfl⟩ := row_get hy
    have sT1 := same_new hT (.tup [.ref (r i), .ref (q i)])
    have s2 := s1.trans sT1
    refine ⟨T, _, rfl, SqT.of upd_same, rfl, _, _, rfl, _, _, rfl, rfl, ?_⟩
    generalize upd H1 T (.tup [.ref (r i), .ref (q i)]) = H2 at s2
    refine ⟨_, rfl, _, n, rfl, .inr ⟨_, sT s2 (hra i hin), len_map.symm⟩, (n : Int), rfl, by omega, by omega, fun D hD => ?_⟩
    rw [show ((n : Int)).toNat = n from rfl]
    refine lc_range (lo := 0) (n := n) (fun j H3 => H3 = upd H2 D (.lst [])) rfl ?_ ?_
    · rintro j H3 hj rfl
      have e0 : (0 : Int) + (j : Int) = (j : Int) := Int.zero_add _
      rw [e0]
      have s3 := s2.trans (same_new hD (.lst []))
      refine ⟨rfl, ?_⟩
      refine ⟨_, rfl, _, rfl, _, _, _, _, rfl, rfl, sT s3 (hra i hin), atI_map rfl hj, _, rfl, _, rfl, _, _, _, _, rfl, rfl, sT s3 (hqb i hin), atI_map rfl hj, _, _, rfl, rfl, _, rfl, ?_⟩
      have hle' := hle i j hin hj
      rw [decide_eq_false (show ¬ g i j < f i j by omega)]
      exact iteF rfl
    · rintro H3 rfl
      refine ⟨_, 0, rfl, .inl ⟨[], SqL.of upd_same, rfl⟩, _, _, rfl, rfl, _, rfl, ?_⟩
      rw [decide_eq_false (show ¬ (0 : Int) < ((0 : Nat) : Int) by decide)]
      exact iteF ⟨_, _, rfl, s2.trans (same_new hD _)⟩
  · rintro σ H1 ⟨v2, v3, rfl, s1⟩
    exact k H1 s1
end
end Hr

/-! _law_atable. -/
namespace Hr
open PySem PySem.Spec PyProof.Rows L2
/-- the heap without what stands at d -/
def hideD (d : Addr) (H : Hp) : Hp := fun b => if b = d then none else H b
theorem hide_self (d : Addr) (H : Hp) : hideD d H d = none := if_pos rfl
theorem hide_ne {d b : Addr} {H : Hp} (h : b ≠ d) : hideD d H b = H b := if_neg h
theorem hide_some {d b : Addr} {H : Hp} {o : HO} (h : hideD d H b = some o) : b ≠ d ∧ H b = some o := by
  by_cases c : b = d
  · rw [c, hide_self] at h
    cases h
  · rw [hide_ne c] at h
    exact ⟨c, h⟩
theorem sq_hide {K : PySem.W.Frag} {H : Hp} {d a : Addr} {xs : List V} {kvs : List (Key × V)} (h : SqL K H a xs) (hd : H d = some (.dK kvs)) : SqL K (hideD d H) a xs := by
  rcases h with (h | ⟨ob, h⟩) | h
  · exact .inl (.inl (by rw [hide_ne (ne_of h hd (fun z => nomatch z))]; exact h))
  · exact .inl (.inr ⟨ob, by rw [hide_ne (ne_of h hd (fun z => nomatch z))]; exact h⟩)
  · exact .inr h
theorem rep_row : ∀ n : Nat, (List.replicate n [V.int 0]).flatten = rowI n fun _ => 0
  | 0 => rfl
  | n + 1 => by
    rw [List.replicate_succ', List.flatten_append, rep_row n]
    exact (map_succ (fun _ => V.int 0) n).symm
def spTab (K : PySem.W.Frag) : Sp := fun vs H Q _ => ∃ (d a : Addr) (t : Int) (ns : List Int) (n : Nat) (e : Bool), vs = [.ref d, .int (n : Int), .bl e] ∧ H d = some (.dK (stK a t)) ∧ SqL K H a (ns.map V.int) ∧ 0 ≤ t ∧ 1 ≤ n ∧ n ≤ 8 ∧
  ∀ (H' : Hp) (p : Addr) (f : F), Nice f → TabAt H' p n f → Q (.ref p) H'
section
variable {P : Program} {w : World} {K : PySem.W.Frag} {mg : Str → Option Value} {base : Heap}
abbrev nTab : List Str := ["state", "many", "even", "found", "one", "other", "k", "line"]
theorem scTab : FnScope nTab ["state", "many", "even"] (defScope sTab) := ⟨rfl, rfl, rfl, by decide +kernel, rfl, by decide +kernel, by decide +kernel⟩
theorem ok_tab {f0 f1 f2 : Addr} {fd fd1 fd2 : FuncData} (Fn : Fun K "_law_atable" "_law_atable" sTab f0 fd) (B : Blt mg) (GC : FnOk P w K mg base CX0 1 f1 fd1 ["state"] (spCell K)) (bC : Binds K fd1 ["state"] []) (kC : PySem.W.keepIn K (.ref f1) = true) (mC : mg "_law_acell" = some (.ref f1))
    (GL : FnOk P w K mg base CX0 1 f2 fd2 ["cell"] spLen) (bL : Binds K fd2 ["cell"] []) (kL : PySem.W.keepIn K (.ref f2) = true) (mL : mg "_law_alength" = some (.ref f2)) :
    FnOk P w K mg base CX0 2 f0 fd ["state", "many", "even"] (spTab K) := by
  refine Fn.ok scTab (fun vs H Q E h => ?_) (fun cdv A outer s H vs Q E hr h => ?_)
  · obtain ⟨d, a, t, ns, n, e, rfl, _⟩ := h
    rfl
  obtain ⟨d, a, t0, ns, n, e, rfl, hd, hS, ht0, hn, h8, k⟩ := h
  refine ⟨_, pss_cons (ps_setLc (i := 3) (own := [("k", 6)]) (g := gName 6) (by rfl) scTab.nd rfl rfl (sw_true rfl rfl rfl (by decide +kernel)) (pi_range1 (by rfl) B.range (pa_cons (pv 1) pa_nil)) (blkOk_by (own := [("k", 6)]) (N := nTab) (sc := defScope sTab) (by decide +kernel))
        (fun _ _ _ _ _ => pg_name (i := 6) scTab.nd rfl (Or.inl rfl)) (fun _ _ _ _ _ => pts_nil) (fun _ _ _ _ _ => pe_op op_rep (pe_lst (pa_cons pe_int pa_nil)) (pv 1)))
    (pss_cons (ps_for PassesOwn.never rfl (pi_range1 (by rfl) B.range (pa_cons (pv 1) pa_nil)) (pg_name (i := 4) scTab.nd rfl (Or.inl rfl))
      (pss_one (ps_for PassesOwn.never rfl (pi_range1 (by rfl) B.range (pa_cons (pv 1) pa_nil)) (pg_name (i := 5) scTab.nd rfl (Or.inl rfl))
        (pss_one (ps_if (PW.pt (pw_or (pt_cmpR op_lt (pv 4) (pv 5) (nomark _)) (pw_or1 (PW.pt (pw_and (pt_cmpR op_gt (pv 4) (pv 5) (nomark _)) (pw_and1 (pt_not (pt_val (pv 2)))))))))
          (pss_one (ps_asg (pe_call GL hr (by rfl) mL kL bL .nil pass0 (pa_cons (pe_call GC hr (by rfl) mC kC bC .nil pass0 (pa_cons (pv 0) pa_nil)) pa_nil)) (pg_sub (ixL (K := K) (pv 3) (pv 4)) (pv 5) set_list)))
          (pss_one (ps_if (pt_cmpR op_gt (pv 4) (pv 5) (nomark _)) (pss_one (ps_asg (ixL (K := K) (ixL (K := K) (pv 3) (pv 5)) (pv 4)) (pg_sub (ixL (K := K) (pv 3) (pv 4)) (pv 5) set_list))) pss_nil)))))))
    (pss_one (ps_ret (pe_callTy (cl_tup (K := K)) (by rfl) B.tuple (by decide +kernel) (pa_cons
      (pe_lc (own := [("line", 7)]) (g := gName 7) rfl scTab.nd (pi_list (pv 3)) (blkOk_by (own := [("line", 7)]) (N := nTab) (sc := defScope sTab) (by decide +kernel))
        (fun _ _ _ _ _ => pg_name (i := 7) scTab.nd rfl (Or.inl rfl)) (fun _ _ _ _ _ => pts_nil) (fun _ _ _ _ _ => pe_callTy (cl_tup (K := K)) (by rfl) B.tuple (by decide +kernel) (pa_cons (pv 7) pa_nil)))
      pa_nil))))), ?_⟩
  have hSb := sq_hide hS hd
  have hdb : hideD d H d = none := hide_self d H
  refine ⟨_, rfl, (n : Int), rfl, by omega, by omega, fun D hD => ?_⟩
  have hDd : D ≠ d := fun z => by
    rw [z, hd] at hD
    cases hD
  have L0 : LL (hideD d H) (upd H D (.lst [])) D 0 n (fun _ => D) (fun _ _ => 0) := by
    refine ⟨fun b o q => ?_, by rw [hide_ne hDd]; exact hD, upd_same, fun _ z => absurd z (Nat.not_lt_zero _), fun _ z => absurd z (Nat.not_lt_zero _), fun _ z => absurd z (Nat.not_lt_zero _), fun _ _ z => absurd z (Nat.not_lt_zero _)⟩
    obtain ⟨h1, h2⟩ := hide_some q
    rw [upd_ne (ne_of_none h2 hD)]
    exact h2
  rw [show ((n : Int)).toNat = n from rfl]
  refine lc_range (lo := 0) (n := n) (fun i H1 => H1 d = some (.dK (stK a t0)) ∧ ∃ r, LL (hideD d H) H1 D i n r (fun _ _ => 0)) ⟨by rw [upd_ne hDd.symm]; exact hd, _, L0⟩ ?_ ?_
  · rintro i H1 hi ⟨hd1, r, L⟩
    refine ⟨rfl, yes_ (iteT ?_)⟩
    refine ⟨(by show 1 ≤ sizeLine; decide), fun p1 hp1 => ?_⟩
    have s1 := same_new hp1 (.lst [.int 0])
    refine ⟨_, rfl, p1, (n : Int), _, rfl, rfl, upd_same, by omega, by omega, ?_, fun p2 hp2 => ?_⟩
    · show 1 * (n : Int).toNat ≤ sizeLine
      rw [Nat.one_mul]
      exact small256 (by omega)
    rw [show ((n : Int)).toNat = n from rfl, rep_row]
    have L1 := L.keep s1
    have s2 := same_new hp2 (.lst (rowI n fun _ => 0))
    have hd2 : D ≠ p2 := fun z => by
      rw [← z, L1.top] at hp2
      cases hp2
    refine ⟨refs i r, by rw [upd_ne hd2]; exact L1.top, by rw [len_map]; exact small1000 (by omega), ?_, _, L1.grow hp2⟩
    rw [upd_ne hDd.symm]
    exact s2 _ _ (s1 _ _ hd1)
  rintro H1 ⟨hd1, r, L⟩
  -- the loops
  have inv_at : ∀ {H' : Hp} {g : Nat → Nat → Int}, LL (hideD d H) H' D n n r g → SqL K H' a (ns.map V.int) := fun L => L.same.seq hSb
  refine ⟨_, rfl, (n : Int), rfl, by omega, by omega, ?_⟩
  rw [show ((n : Int)).toNat = n from rfl]
  refine for_range (lo := 0) (n := n) (fun i σ H2 => ∃ (g : Nat → Nat → Int) (t : Int) (v4 v5 : Option V), σ = [some (.ref d), some (.int (n : Int)), some (.bl e), some (.ref D), v4, v5, none, none] ∧ LL (hideD d H) H2 D n n r g ∧ H2 d = some (.dK (stK a t)) ∧ 0 ≤ t ∧ (∀ i j, 0 ≤ g i j) ∧ ∀ i, g i i = 0)
    ⟨fun _ _ => 0, t0, none, none, rfl, L, hd1, ht0, fun _ _ => Int.le_refl 0, fun _ => rfl⟩ ?_ ?_
  · rintro i σ H2 hi ⟨g, t, v4, v5, rfl, L2, hd2, ht, hnn, hdz⟩
    have e0 : (0 : Int) + (i : Int) = (i : Int) := Int.zero_add _
    rw [e0]
    refine ⟨_, rfl, (n : Int), rfl, by omega, by omega, ?_⟩
    rw [show ((n : Int)).toNat = n from rfl]
    refine for_range (lo := 0) (n := n) (fun j σ H2 => ∃ (g : Nat → Nat → Int) (t : Int) (v5 : Option V), σ = [some (.ref d), some (.int (n : Int)), some (.bl e), some (.ref D), some (.int (i : Int)), v5, none, none] ∧ LL (hideD d H) H2 D n n r g ∧ H2 d = some (.dK (stK a t)) ∧ 0 ≤ t ∧ (∀ i j, 0 ≤ g i j) ∧ ∀ i, g i i = 0)
      ⟨g, t, v5, rfl, L2, hd2, ht, hnn, hdz⟩ ?_ ?_
    · rintro j σ H3 hj ⟨g, t, v5, rfl, L3, hd3, ht, hnn, hdz⟩
      have e1 : (0 : Int) + (j : Int) = (j : Int) := Int.zero_add _
      rw [e1]
      -- a cell of the script's
      have store : ∀ {H' : Hp} {t' : Int} {v : Int}, i ≠ j → LL (hideD d H) H' D n n r g → H' d = some (.dK (stK a t')) → 0 ≤ t' → 0 ≤ v →
          ∃ (g' : Nat → Nat → Int) (t'' : Int) (v5' : Option V), ([some (.ref d), some (.int (n : Int)), some (.bl e), some (.ref D), some (.int (i : Int)), some (.int (j : Int)), none, none] : List (Option V)) = [some (.ref d), some (.int (n : Int)), some (.bl e), some (.ref D), some (.int (i : Int)), v5', none, none] ∧
            LL (hideD d H) (upd H' (r i) (.lst ((rowI n (g i)).set j (V.int v)))) D n n r g' ∧ (upd H' (r i) (.lst ((rowI n (g i)).set j (V.int v)))) d = some (.dK (stK a t'')) ∧ 0 ≤ t'' ∧ (∀ i j, 0 ≤ g' i j) ∧ ∀ i, g' i i = 0 := by
        intro H' t' v hij L' hd' ht' hv
        refine ⟨_, t', _, rfl, L'.put hi hj v, ?_, ht', fun x y => ?_, fun x => ?_⟩
        · rw [upd_ne (ne_of hd' (L'.row i hi) (fun z => nomatch z))]
          exact hd'
        · show 0 ≤ (if x = i ∧ y = j then v else g x y)
          split
          · exact hv
          · exact hnn x y
        · show (if x = i ∧ x = j then v else g x x) = 0
          rw [if_neg (fun z => hij (z.1.symm.trans z.2))]
          exact hdz x
      have cellCase : i ≠ j → tAsg (tCall spLen [] E0 (tCons (tCall (spCell K) [] E0 (tCons (tVar 0) tNil)) tNil)) (gSub (tOp (rIxL K) (tVar 3) (tVar 4)) (tVar 5) rSetL)
          { nx := fun σ H2 => ∃ (g : Nat → Nat → Int) (t : Int) (v5 : Option V), σ = [some (.ref d), some (.int (n : Int)), some (.bl e), some (.ref D), some (.int (i : Int)), v5, none, none] ∧ LL (hideD d H) H2 D n n r g ∧ H2 d = some (.dK (stK a t)) ∧ 0 ≤ t ∧ (∀ i j, 0 ≤ g i j) ∧ ∀ i, g i i = 0, rt := Q }
          [some (.ref d), some (.int (n : Int)), some (.bl e), some (.ref D), some (.int (i : Int)), some (.int (j : Int)), none, none] H3 := by
        intro hij
        refine ⟨_, rfl, d, a, t, ns, rfl, hd3, inv_at L3, ht, fun v => ?_⟩
        have L4 := L3.other (p := d) (o := .dK (stK a (t + 1))) (ne_of hd3 L3.top (fun z => nomatch z)) (fun k hk => ne_of hd3 (L3.row k hk) (fun z => nomatch z)) hdb
        have hd4 : (upd H3 d (.dK (stK a (t + 1)))) d = some (.dK (stK a (t + 1))) := upd_same
        generalize upd H3 d (.dK (stK a (t + 1))) = H4 at L4 hd4
        refine ⟨v, rfl, fun H5 v2 hv2 s5 => ?_⟩
        have L5 := L4.keep s5
        refine ⟨_, rfl, _, rfl, D, _, _, _, rfl, rfl, SqL.of L5.top, atI_map rfl hi, _, rfl, r i, _, _, j, rfl, rfl, L5.row i hi, (by rw [len_map]; exact ixN_nat hj), ?_⟩
        exact store hij L5 (s5 _ _ hd4) (by omega) hv2
      refine ⟨_, rfl, _, rfl, _, _, rfl, rfl, _, rfl, ?_⟩
      by_cases c1 : i < j
      · rw [decide_eq_true (show (i : Int) < (j : Int) by omega)]
        exact iteT (iteT (cellCase (by omega)))
      rw [decide_eq_false (show ¬ (i : Int) < (j : Int) by omega)]
      refine iteF ?_
      refine ⟨_, rfl, _, rfl, _, _, rfl, rfl, _, rfl, ?_⟩
      by_cases c2 : j < i
      · rw [decide_eq_true (show (j : Int) < (i : Int) by omega)]
        refine iteT ⟨_, rfl, e, rfl, ?_⟩
        cases e with
        | false => exact iteT (cellCase (by omega))
        | true =>
          refine iteF ?_
          refine ⟨_, rfl, _, rfl, _, _, rfl, rfl, _, rfl, ?_⟩
          rw [decide_eq_true (show (j : Int) < (i : Int) by omega)]
          refine iteT ?_
          refine ⟨_, rfl, _, rfl, D, _, _, _, rfl, rfl, SqL.of L3.top, atI_map rfl hj, _, rfl, _, _, _, _, rfl, rfl, SqL.of (L3.row j hj), atI_map rfl hi, _, rfl, _, rfl, D, _, _, _, rfl, rfl, SqL.of L3.top, atI_map rfl hi, _, rfl, r i, _, _, j, rfl, rfl, L3.row i hi, (by rw [len_map]; exact ixN_nat hj), ?_⟩
          exact store (by omega) L3 hd3 ht (hnn j i)
      · rw [decide_eq_false (show ¬ (j : Int) < (i : Int) by omega)]
        refine iteF (iteF ?_)
        refine ⟨_, rfl, _, rfl, _, _, rfl, rfl, _, rfl, ?_⟩
        rw [decide_eq_false (show ¬ (j : Int) < (i : Int) by omega)]
        exact iteF ⟨g, t, _, rfl, L3, hd3, ht, hnn, hdz⟩
    · rintro σ H3 ⟨g, t, v5, rfl, L3, hd3, ht, hnn, hdz⟩
      exact ⟨g, t, _, _, rfl, L3, hd3, ht, hnn, hdz⟩
  · rintro σ H2 ⟨g, t, v4, v5, rfl, L2, hd2, ht, hnn, hdz⟩
    refine ⟨_, rfl, D, rfl, ⟨_, SqL.of L2.top⟩, fun D' hD' => ?_⟩
    refine lc_list (K := K) (a := D) (xs := refs n r) (fun i H3 => ∃ r', LB H2 H3 D' i r' (fun k => .tup (rowI n (g k)))) ⟨r, LB.start hD' _ _⟩ (fun i H3 _ ⟨_, L⟩ => SqL.of (L.same _ _ L2.top)) ?_ ?_
    · rintro i x H3 hi ⟨r', L⟩
      obtain ⟨hin, rfl⟩ := row_get hi
      refine ⟨rfl, yes_ (iteT ?_)⟩
      refine ⟨_, rfl, r i, _, rfl, SqL.of (L.same _ _ (L2.row i hin)), fun z hz => ?_⟩
      exact ⟨refs i r', by rw [upd_ne (L.neD hz)]; exact L.top, by rw [len_map]; exact small1000 (by omega), _, L.grow hz⟩
    · rintro H3 ⟨r', L⟩
      rw [len_map] at L
      refine ⟨D', _, rfl, SqL.of L.top, fun z hz => ?_⟩
      have st := same_new hz (.tup (refs n r'))
      exact k _ z g ⟨hnn, hdz⟩ ⟨r', upd_same, fun i hi => st _ _ (L.row i hi)⟩
end
end Hr

/-! The law. -/
namespace Hr
open PySem PySem.Spec PyProof.Rows L2
abbrev sLaw : Stmt := topS 16
theorem merge_st (a : Addr) (t : Int) : mergeK [] (stK a t) = stK a t := by
  show putK (putK [] (Sum.inr ("script" : Str) : Key) (.ref a)) (Sum.inr ("at" : Str) : Key) (.int t) = stK a t
  rw [putK_new (kvs := []) _ valV_nil, List.nil_append]
  rw [putK_new _ (by rw [valV_neg (p := ((Sum.inr ("script" : Str) : Key), V.ref a)) key_sa]; exact valV_nil)]
  rfl
theorem cut_whole {xs : List V} {lo hi : Option Int} (h : HT.sIx xs.length 0 lo = 0 ∧ HT.sIx xs.length xs.length hi = xs.length) : cutV xs lo hi = xs := by
  unfold cutV
  rw [h.1, h.2, List.drop_zero, Nat.sub_zero, List.take_length]
theorem sl_any {K : PySem.W.Frag} {H : Hp} {a : Addr} {xs : List V} {lo hi : Option Int} {Q : VK} (h : H a = some (.tup xs)) (k : ∀ (p : Addr) (H' : Hp), Same H H' → H' p = some (.tup (cutV xs lo hi)) → Q (.ref p) H') : rSlA K (.ref a) lo hi H Q :=
  ⟨a, xs, rfl, SqT.of h, fun hw => k a H (Same.refl H) (by rw [cut_whole hw]; exact h), fun _ p hp => k p _ (same_new hp _) upd_same⟩
theorem cat_any {K : PySem.W.Frag} {H : Hp} {a b : Addr} {xs ys : List V} {Q : VK} (ha : H a = some (.tup xs)) (hb : H b = some (.tup ys)) (hl : xs.length + ys.length ≤ sizeLine)
    (k : ∀ (p : Addr) (H' : Hp), Same H H' → H' p = some (.tup (xs ++ ys)) → Q (.ref p) H') : rCatA K (.ref a) (.ref b) H Q :=
  ⟨a, b, xs, ys, rfl, rfl, SqT.of ha, SqT.of hb, hl, fun e => k b H (Same.refl H) (by rw [e]; exact hb), fun _ e => k a H (Same.refl H) (by rw [e, List.append_nil]; exact ha), fun _ _ p hp => k p _ (same_new hp _) upd_same⟩
theorem nopart_ {σ : L2.St} {H : Hp} {Q : Option Int → Hp → Prop} (h : Q none H) : tNoPart σ H Q := h
theorem cut_to {xs : List V} {i : Int} {m : Nat} (hi : i = (m : Int)) : cutV xs none (some i) = xs.take m := by
  unfold cutV
  rw [hi, HT.sIx_none, HT.sIx_nat, List.drop_zero, Nat.sub_zero]
  rw [Nat.min_comm, ← List.take_take]
  exact List.take_of_length_le (by rw [List.length_take]; exact Nat.min_le_right _ _)
theorem cut_from {xs : List V} {i : Int} {m : Nat} (hi : i = (m : Int)) (h : m ≤ xs.length) : cutV xs (some i) none = xs.drop m := by
  unfold cutV
  rw [hi, HT.sIx_none, HT.sIx_nat, Nat.min_eq_left h]
  exact List.take_of_length_le (by rw [List.length_drop]; exact Nat.le_refl _)
theorem take_drop_set {xs : List V} {m : Nat} (h : m < xs.length) (v : V) : xs.take m ++ [v] ++ xs.drop (m + 1) = xs.set m v := by
  rw [List.set_eq_take_append_cons_drop, if_pos h, List.append_assoc]
  rfl
theorem refs_set {n m : Nat} {r : Nat → Addr} (p : Addr) (h : m < n) : (refs n r).set m (.ref p) = refs n fun i => if i = m then p else r i := by
  apply List.ext_getElem?
  intro j
  rw [List.getElem?_set, List.getElem?_map, List.getElem?_map, List.length_map, List.length_range]
  by_cases c : m = j
  · subst c
    rw [if_pos rfl, if_pos h, List.getElem?_range h]
    show some (V.ref p) = some (V.ref (if m = m then p else r m))
    rw [if_pos rfl]
  · rw [if_neg c]
    by_cases d : j < n
    · rw [List.getElem?_range d]
      show some (V.ref (r j)) = some (V.ref (if j = m then p else r j))
      rw [if_neg (fun e => c e.symm)]
    · rw [List.getElem?_eq_none (by rw [List.length_range]; omega)]
      rfl
theorem atI_pV {ps : List Nat} {i : Nat} {k : Int} (hk : k = (i : Int)) (h : i < ps.length) : atI (pV ps) k = some (V.int ((ps.getD i 0 : Nat) : Int)) := by
  rw [hk]
  refine atI_nat ?_
  rw [List.getElem?_map, List.getElem?_eq_getElem h, List.getD_eq_getElem?_getD, List.getElem?_eq_getElem h]
  rfl
theorem getD_lt {ps : List Nat} {n i : Nat} (h : ∀ x ∈ ps, x < n) (hi : i < ps.length) : ps.getD i 0 < n := by
  rw [List.getD_eq_getElem?_getD, List.getElem?_eq_getElem hi]
  exact h _ (List.getElem_mem hi)
structure Callee (P : Program) (w : World) (K : PySem.W.Frag) (mg : Str → Option Value) (base : Heap) (lv : Nat) (x : Str) (ps : List Str) (sp : Sp) : Prop where
  ex : ∃ f fd, FnOk P w K mg base CX0 lv f fd ps sp ∧ Binds K fd ps [] ∧ PySem.W.keepIn K (.ref f) = true ∧ mg x = some (.ref f)
def spLaw (K : PySem.W.Frag) : Sp := fun vs H Q _ => ∃ (a : Addr) (ns : List Int), vs = [.ref a] ∧ SqL K H a (ns.map V.int) ∧ ns.length ≤ 63 ∧ ∀ H', Q (.bl true) H'
section
variable {P : Program} {w : World} {K : PySem.W.Frag} {mg : Str → Option Value} {base : Heap}
abbrev nLaw : List Str := ["script", "state", "cell", "many", "table", "found", "mixed", "one", "other", "worth", "line", "fewer", "some", "due", "k"]
theorem scLaw : FnScope nLaw ["script"] (defScope sLaw) := ⟨rfl, rfl, rfl, by decide +kernel, rfl, by decide +kernel, by decide +kernel⟩
/-- from the way made shorter on -/
theorem law_tail {f0 : Addr} (B : Blt mg) (cS : Callee P w K mg base 2 "shortened" ["table"] spShort) (cL : Callee P w K mg base 1 "_law_aless" ["one", "other"] spLess) (cW : Callee P w K mg base 2 "walk" ["table", "one", "other"] spWalk)
    {cdv : Value} {A : Around} {outer : List Env} {s : Shared} {H : Hp} {E : XK} (hr : Room 3 (A.deeper (envOfC "law" (defScope sLaw) s.heap.objs.size f0 cdv))) :
    ∃ tt : TS, PSs (cxOf CX0 P w K mg base nLaw "law" (defScope sLaw) f0 cdv A outer s H E).nox ((defBody sLaw).drop 7) tt ∧
      ∀ (nx : L2.St → Hp → Prop) (Q : VK) (H0 : Hp) (a d : V) (c : Int) (n : Nat) (t g : Addr) (f : F), 1 ≤ n → n ≤ 6 → Nice f → TabAt H0 t n f → TabAt H0 g n (fw n f) → (∀ H', Q (.bl true) H') →
        tt { nx := nx, rt := Q } [some a, some d, some (.int c), some (.int (n : Int)), some (.ref t), some (.ref g), none, none, none, none, none, none, none, none, none] H0 := by
  obtain ⟨fS, dS, GS, bS, kS, mS⟩ := cS.ex
  obtain ⟨fL, dL, GL, bL, kL, mL⟩ := cL.ex
  obtain ⟨fW, dW, GW, bW, kW, mW⟩ := cW.ex
  have hr1 := hr.mono (show 1 ≤ 3 by decide)
  have hr2 := hr.mono (show 2 ≤ 3 by decide)
  refine ⟨_, pss_cons (ps_set (i := 6) scLaw.nd rfl (Or.inl rfl) (pe_op op_fdiv (pe_op op_mod (pe_op op_pow (pe_op op_add (pe_op op_mod (pv 2) pe_int) pe_int) pe_int) pe_int) pe_int))
    (pss_cons (ps_set (i := 7) scLaw.nd rfl (Or.inl rfl) (pe_op op_mod (pv 6) (pv 3)))
    (pss_cons (ps_set (i := 8) scLaw.nd rfl (Or.inl rfl) (pe_op op_mod (pe_op op_fdiv (pv 6) pe_int) (pv 3)))
    (pss_cons (ps_if (pt_cmpR op_eq (pv 7) (pv 8) (nomark _)) (pss_one (ps_ret pe_bl)) pss_nil)
    (pss_cons (ps_set (i := 9) scLaw.nd rfl (Or.inl rfl) (pe_op op_fdiv (pe_op op_mul (ixT (K := K) (ixT (K := K) (pv 4) (pv 7)) (pv 8)) (pe_op op_mod (pe_op op_fdiv (pv 6) pe_int) pe_int)) pe_int))
    (pss_cons (ps_set (i := 10) scLaw.nd rfl (Or.inl rfl) (pe_op op_catA (pe_op op_catA (pe_slice sl_tupA (ixT (K := K) (pv 4) (pv 7)) po_none (po_some (pv 8))) (pe_tup (pa_cons (pv 9) pa_nil))) (pe_slice sl_tupA (ixT (K := K) (pv 4) (pv 7)) (po_some (pe_op op_add (pv 8) pe_int)) po_none)))
    (pss_cons (ps_set (i := 11) scLaw.nd rfl (Or.inr rfl) (pe_op op_catA (pe_op op_catA (pe_slice sl_tupA (pv 4) po_none (po_some (pv 7))) (pe_tup (pa_cons (pv 10) pa_nil))) (pe_slice sl_tupA (pv 4) (po_some (pe_op op_add (pv 7) pe_int)) po_none)))
    (pss_cons (ps_set (i := 12) scLaw.nd rfl (Or.inr rfl) (pe_call GW hr2 (by rfl) mW kW bW .nil pass0 (pa_cons (pv 11) (pa_cons (pv 7) (pa_cons (pv 8) pa_nil)))))
    (pss_cons (ps_set (i := 13) scLaw.nd rfl (Or.inl rfl) (pe_callB (cr_sum rfl) (by rfl) B.sum (by decide +kernel) (pa_cons
      (pe_lc (own := [("k", 14)]) (g := gName 14) rfl scLaw.nd (pi_range2 (by rfl) B.range (pa_cons pe_int (pa_cons (pe_callB call_len (by rfl) B.len PySem.boot_len (pa_cons (pv 12) pa_nil)) pa_nil))) (blkOk_by (own := [("k", 14)]) (N := nLaw) (sc := defScope sLaw) (by decide +kernel))
        (fun _ _ _ _ _ => pg_name (i := 14) scLaw.nd rfl (Or.inl rfl)) (fun _ _ _ _ _ => pts_nil) (fun _ _ _ _ _ => ixT (K := K) (ixT (K := K) (pv 11) (ixT (K := K) (pv 12) (pe_op op_sub (pv 14) pe_int))) (ixT (K := K) (pv 12) (pv 14)))) pa_nil)))
    (pss_one (ps_ret (pe_and (pe_call GL hr1 (by rfl) mL kL bL .nil pass0 (pa_cons (pe_call GS hr2 (by rfl) mS kS bS .nil pass0 (pa_cons (pv 11) pa_nil)) (pa_cons (pv 5) pa_nil)))
      (pe_and (pe_cmpR op_eq (ixT (K := K) (ixT (K := K) (pe_call GS hr2 (by rfl) mS kS bS .nil pass0 (pa_cons (pv 11) pa_nil)) (pv 7)) (pv 8)) (pv 13) (nomark _)) (pe_one (pe_cmpR op_le (pv 13) (pv 9) (nomark _))))))))))))))), ?_⟩
  intro nx Q H0 a d c n t g f hn1 hn6 hf hT hG k
  have h8 : n ≤ 8 := by omega
  obtain ⟨r, ha, hb⟩ := id hT
  -- mixed
  have hc0 := Int.emod_nonneg c (show (1000003 : Int) ≠ 0 by decide)
  have hc1 := Int.emod_lt_of_pos c (show (0 : Int) < 1000003 by decide)
  refine ⟨_, rfl, _, _, rfl, rfl, (by show (0 : Int) < 1000003; decide), _, _, rfl, rfl, _, _, rfl, rfl, ⟨by decide, by decide, by omega⟩, _, _, rfl, rfl, (by show (0 : Int) < 2147483647; decide), _, _, rfl, rfl, ⟨by decide, by decide⟩, ?_⟩
  show gName 6 (V.int ((c % 1000003 + 1) ^ (5 : Int).toNat % 2147483647 / 8)) _ _ _
  have hM : 0 ≤ (c % 1000003 + 1) ^ (5 : Int).toNat % 2147483647 / 8 := Int.ediv_nonneg (Int.emod_nonneg _ (by decide)) (by decide)
  generalize (c % 1000003 + 1) ^ (5 : Int).toNat % 2147483647 / 8 = M at hM
  -- one
  refine ⟨_, rfl, _, rfl, _, _, rfl, rfl, (by omega), ?_⟩
  show gName 7 (V.int (M % (n : Int))) _ _ _
  obtain ⟨o, ho, eo⟩ : ∃ o : Nat, o < n ∧ M % (n : Int) = (o : Int) := by
    have h0 := Int.emod_nonneg M (show (n : Int) ≠ 0 by omega)
    have h1 := Int.emod_lt_of_pos M (show (0 : Int) < n by omega)
    exact ⟨(M % (n : Int)).toNat, by omega, by omega⟩
  rw [eo]
  -- other
  refine ⟨_, rfl, _, _, rfl, rfl, ⟨by decide, by decide⟩, _, rfl, _, _, rfl, rfl, (by omega), ?_⟩
  show gName 8 (V.int (M / 7 % (n : Int))) _ _ _
  obtain ⟨p2, hp2, ep2⟩ : ∃ o : Nat, o < n ∧ M / 7 % (n : Int) = (o : Int) := by
    have h0 := Int.emod_nonneg (M / 7) (show (n : Int) ≠ 0 by omega)
    have h1 := Int.emod_lt_of_pos (M / 7) (show (0 : Int) < n by omega)
    exact ⟨(M / 7 % (n : Int)).toNat, by omega, by omega⟩
  rw [ep2]
  refine ⟨_, rfl, _, rfl, rfl, _, rfl, ?_⟩
  refine ite2 (fun _ => k _) (fun hne => ?_)
  have hop : o ≠ p2 := fun e => hne (decide_eq_true (by rw [e]))
  -- worth
  have hq0 := Int.emod_nonneg (M / 49) (show (5 : Int) ≠ 0 by decide)
  have hq1 := Int.emod_lt_of_pos (M / 49) (show (0 : Int) < 5 by decide)
  refine ⟨_, rfl, _, rfl, t, _, _, _, rfl, rfl, SqT.of ha, atI_map rfl ho, _, rfl, _, _, _, _, rfl, rfl, SqT.of (hb o ho), atI_map rfl hp2, _, rfl, _, _, rfl, rfl, ⟨by decide, by decide⟩, _, _, rfl, rfl, (by show (0 : Int) < 5; decide), _, _, rfl, rfl, .inr ⟨by omega, by omega⟩, _, _, rfl, rfl, ⟨by decide, by decide⟩, ?_⟩
  show gName 9 (V.int (f o p2 * (M / 49 % 5) / 5)) _ _ _
  have hW : 0 ≤ f o p2 * (M / 49 % 5) / 5 ∧ f o p2 * (M / 49 % 5) / 5 ≤ f o p2 := by
    have hx := hf.nn o p2
    generalize M / 49 % 5 = z at hq0 hq1
    generalize f o p2 = x at hx
    have hz : z = 0 ∨ z = 1 ∨ z = 2 ∨ z = 3 ∨ z = 4 := by omega
    rcases hz with e | e | e | e | e <;> subst e <;> omega
  generalize f o p2 * (M / 49 % 5) / 5 = W at hW
  have hlen : ∀ {φ : Nat → V}, ((List.range n).map φ).length = n := len_map
  refine ⟨_, rfl, _, rfl, t, _, _, _, rfl, rfl, SqT.of ha, atI_map rfl ho, _, rfl, _, rfl, ?_⟩
  refine sl_any (hb o ho) fun q1 H1 s1 h1 => ?_
  refine ⟨_, rfl, (by show 1 ≤ sizeLine; decide), fun q2 hq2 => ?_⟩
  have s2 := same_new hq2 (.tup [.int W])
  refine cat_any (s2 _ _ h1) upd_same ?_ fun q3 H3 s3 h3 => ?_
  · have := cutV_length (rowI n (f o)) none (some (p2 : Int))
    rw [len_map] at this
    exact small256 (by show _ + 1 ≤ 256; omega)
  have s03 := (s1.trans s2).trans s3
  refine ⟨_, rfl, _, rfl, t, _, _, _, rfl, rfl, sT s03 ha, atI_map rfl ho, _, rfl, _, _, rfl, rfl, _, rfl, ?_⟩
  refine nopart_ ?_
  refine sl_any (s03 _ _ (hb o ho)) fun q4 H4 s4 h4 => ?_
  refine cat_any (s4 _ _ h3) h4 ?_ fun L H5 s5 h5 => ?_
  · have e1 := cutV_length (rowI n (f o)) none (some (p2 : Int))
    have e2 := cutV_length (rowI n (f o)) (some ((p2 : Int) + 1)) none
    rw [len_map] at e1 e2
    rw [List.length_append]
    exact small256 (by show _ + 1 + _ ≤ 256; omega)
  have s05 := (s03.trans s4).trans s5
  rw [cut_to (m := p2) rfl, cut_from (m := p2 + 1) (by omega) (by rw [len_map]; omega), take_drop_set (by rw [len_map]; exact hp2), row_set hp2] at h5
  clear s1 h1 hq2 s2 s3 h3 s03 s4 h4 s5
  refine ⟨_, rfl, _, rfl, _, rfl, ?_⟩
  refine sl_any (s05 _ _ ha) fun q1 H6 s1 h1 => ?_
  refine ⟨_, rfl, (by show 1 ≤ sizeLine; decide), fun q2 hq2 => ?_⟩
  have s2 := same_new hq2 (.tup [.ref L])
  refine cat_any (s2 _ _ h1) upd_same ?_ fun q3 H7 s3 h3 => ?_
  · have := cutV_length (refs n r) none (some (o : Int))
    rw [len_map] at this
    exact small256 (by show _ + 1 ≤ 256; omega)
  have s03 := (s1.trans s2).trans s3
  have s07 := s05.trans s03
  refine ⟨_, rfl, _, rfl, _, _, rfl, rfl, _, rfl, ?_⟩
  refine nopart_ ?_
  refine sl_any (s07 _ _ ha) fun q4 H8 s4 h4 => ?_
  refine cat_any (s4 _ _ h3) h4 ?_ fun fa H9 s5 h6 => ?_
  · have e1 := cutV_length (refs n r) none (some (o : Int))
    have e2 := cutV_length (refs n r) (some ((o : Int) + 1)) none
    rw [len_map] at e1 e2
    rw [List.length_append]
    exact small256 (by show _ + 1 + _ ≤ 256; omega)
  rw [cut_to (m := o) rfl, cut_from (m := o + 1) (by omega) (by rw [len_map]; omega), take_drop_set (by rw [len_map]; exact ho), refs_set L ho] at h6
  have s59 := (s03.trans s4).trans s5
  have s09 := s05.trans s59
  have hL9 := s59 _ _ h5
  have hG9 := hG.keep s09
  generalize hfz : (fun x y => if x = o ∧ y = p2 then W else f x y : F) = fz
  have hfz' : ∀ x y, fz x y = if x = o ∧ y = p2 then W else f x y := fun x y => by rw [← hfz]
  have hfn : Nice fz := ⟨fun x y => by
    rw [hfz']
    split
    · exact hW.1
    · exact hf.nn x y, fun x => by
    rw [hfz', if_neg (fun z => hop (z.1.symm.trans z.2))]
    exact hf.dz x⟩
  have hfle : ∀ x y, fz x y ≤ f x y := fun x y => by
    rw [hfz']
    split
    · rename_i z
      rw [z.1, z.2]
      exact hW.2
    · exact Int.le_refl _
  have hfT : TabAt H9 fa n fz := by
    refine ⟨_, h6, fun i hi => ?_⟩
    by_cases e : i = o
    · subst e
      show H9 (if i = i then L else r i) = _
      rw [if_pos rfl, hL9]
      refine congrArg (fun l => some (HO.tup l)) (List.map_congr_left fun j _ => ?_)
      show V.int (if j = p2 then W else f i j) = V.int (fz i j)
      rw [hfz']
      by_cases e2 : j = p2
      · rw [if_pos e2, if_pos ⟨rfl, e2⟩]
      · rw [if_neg e2, if_neg (fun z => e2 z.2)]
    · show H9 (if i = o then L else r i) = _
      rw [if_neg e, s09 _ _ (hb i hi)]
      refine congrArg (fun l => some (HO.tup l)) (List.map_congr_left fun j _ => ?_)
      show V.int (f i j) = V.int (fz i j)
      rw [hfz', if_neg (fun z => e z.1)]
  have hWz : fz o p2 = W := by rw [hfz', if_pos ⟨rfl, rfl⟩]
  clear h1 hq2 h3 h4 h6 s1 s2 s3 s03 s4 s5 s05 s07 s59 h5 hL9
  refine ⟨_, rfl, _, rfl, _, rfl, fa, n, o, p2, fz, rfl, hfT, hfn, h8, ho, hp2, fun H10 pa ps s10 hpa hps hp0 hp300 hpl => ?_⟩
  have hfT10 := hfT.keep s10
  obtain ⟨r', ha', hb'⟩ := id hfT10
  -- due
  refine ⟨_, rfl, _, ps.length, rfl, .inr ⟨_, SqT.of hpa, (pV_len ps).symm⟩, 1, (ps.length : Int), rfl, ⟨by omega, by omega, by omega, by omega⟩, fun D hD => ?_⟩
  have hm : ((ps.length : Int) - 1).toNat = ps.length - 1 := by omega
  rw [hm]
  refine lc_range (lo := 1) (n := ps.length - 1) (fun i H' => H' = upd H10 D (.lst ((List.range i).map fun k => V.int (fz (ps.getD k 0) (ps.getD (k + 1) 0))))) rfl ?_ ?_
  · rintro i H' hi rfl
    have sD := same_new hD (.lst ((List.range i).map fun k => V.int (fz (ps.getD k 0) (ps.getD (k + 1) 0))))
    refine ⟨rfl, yes_ (iteT ?_)⟩
    have g1 := getD_lt hps (show i < ps.length by omega)
    have g2 := getD_lt hps (show i + 1 < ps.length by omega)
    refine ⟨_, rfl, _, rfl, _, rfl, _, _, rfl, rfl, pa, _, _, _, rfl, rfl, sT sD hpa, atI_pV (i := i) (by omega) (by omega), fa, _, _, _, rfl, rfl, sT sD ha', atI_map rfl g1,
      _, rfl, _, rfl, pa, _, _, _, rfl, rfl, sT sD hpa, atI_pV (i := i + 1) (by omega) (by omega), _, _, _, _, rfl, rfl, sT sD (hb' _ g1), atI_map rfl g2, _, upd_same, ?_, ?_⟩
    · rw [len_map]
      exact small1000 (by omega)
    · rw [upd_upd, map_succ]
  rintro H' rfl
  have sD := same_new hD (.lst ((List.range (ps.length - 1)).map fun k => V.int (fz (ps.getD k 0) (ps.getD (k + 1) 0))))
  refine ⟨D, (List.range (ps.length - 1)).map fun k => fz (ps.getD k 0) (ps.getD (k + 1) 0), rfl, by rw [List.map_map]; exact SqL.of upd_same, ?_⟩
  rw [pl_sum, hpl]
  have s11 := s10.trans sD
  have hfT11 := hfT.keep s11
  have hG11 := hG9.keep s11
  generalize upd H10 D (.lst ((List.range (ps.length - 1)).map fun k => V.int (fz (ps.getD k 0) (ps.getD (k + 1) 0)))) = H11 at hfT11 hG11
  refine ⟨_, rfl, fa, n, fz, rfl, hfT11, hfn, h8, fun H12 u1 s12 hu1 => ?_⟩
  refine ⟨_, rfl, u1, g, n, fw n fz, fw n f, rfl, hu1, hG11.keep s12, h8, fun i j _ _ => fw_mono hfle n i j, fun H13 s13 => ⟨true, rfl, iteT ?_⟩⟩
  refine ⟨_, rfl, fa, n, fz, rfl, hfT11.keep (s12.trans s13), hfn, h8, fun H14 u2 s14 hu2 => ?_⟩
  obtain ⟨r2, h21, h22⟩ := hu2
  refine ⟨_, rfl, u2, _, _, _, rfl, rfl, SqT.of h21, atI_map rfl ho, _, rfl, _, _, _, _, rfl, rfl, SqT.of (h22 o ho), atI_map rfl hp2, _, rfl, rfl, _, rfl, ?_⟩
  rw [decide_eq_true rfl]
  refine iteT ⟨_, rfl, _, rfl, _, _, rfl, rfl, ?_⟩
  have hle := fw_le fz o p2 n
  show Q (V.bl (decide (fw n fz o p2 ≤ W))) H14
  rw [decide_eq_true (show fw n fz o p2 ≤ W by omega)]
  exact k _
theorem ok_law {f0 : Addr} {fd : FuncData} (Fn : Fun K "law" "law" sLaw f0 fd) (B : Blt mg) (cC : Callee P w K mg base 1 "_law_acell" ["state"] (spCell K)) (cT : Callee P w K mg base 2 "_law_atable" ["state", "many", "even"] (spTab K))
    (cS : Callee P w K mg base 2 "shortened" ["table"] spShort) (cI : Callee P w K mg base 3 "is_straight" ["table"] spStraight) (cL : Callee P w K mg base 1 "_law_aless" ["one", "other"] spLess) (cE : Callee P w K mg base 1 "is_even" ["table"] spEven)
    (cM : Callee P w K mg base 3 "shortest" ["table"] spShortest) (cW : Callee P w K mg base 2 "walk" ["table", "one", "other"] spWalk) : FnOk P w K mg base CX0 4 f0 fd ["script"] (spLaw K) := by
  obtain ⟨fC, dC, GC, bC, kC, mC⟩ := cC.ex
  obtain ⟨fT, dT, GT, bT, kT, mT⟩ := cT.ex
  obtain ⟨fS, dS, GS, bS, kS, mS⟩ := cS.ex
  obtain ⟨fI, dI, GI, bI, kI, mI⟩ := cI.ex
  obtain ⟨fL, dL, GL, bL, kL, mL⟩ := cL.ex
  obtain ⟨fE, dE, GE, bE, kE, mE⟩ := cE.ex
  obtain ⟨fM, dM, GM, bM, kM, mM⟩ := cM.ex
  refine Fn.ok scLaw (fun vs H Q E h => ?_) (fun cdv A outer s H vs Q E hr h => ?_)
  · obtain ⟨a, ns, rfl, _⟩ := h
    rfl
  obtain ⟨a, ns, rfl, hS, h63, k⟩ := h
  have hr1 := hr.mono (show 1 ≤ 3 by decide)
  have hr2 := hr.mono (show 2 ≤ 3 by decide)
  obtain ⟨tt, hps, hrd⟩ := law_tail (f0 := f0) (cdv := cdv) (A := A) (outer := outer) (s := s) (H := H) (E := E) B cS cL cW hr
  refine ⟨_, pss_cons (ps_set (i := 1) scLaw.nd rfl (Or.inl rfl) (pe_disp (pps_cons pe_str (pv 0) (pps_cons pe_str pe_int pps_nil)) (by rfl) (by rfl) (fun z => by cases z) (by decide)))
    (pss_cons (ps_set (i := 2) scLaw.nd rfl (Or.inl rfl) (pe_call GC hr1 (by rfl) mC kC bC .nil pass0 (pa_cons (pv 1) pa_nil)))
    (pss_cons (ps_set (i := 3) scLaw.nd rfl (Or.inl rfl) (pe_op op_add pe_int (pe_op op_mod (pv 2) pe_int)))
    (pss_cons (ps_set (i := 4) scLaw.nd rfl (Or.inl rfl) (pe_call GT hr2 (by rfl) mT kT bT .nil pass0 (pa_cons (pv 1) (pa_cons (pv 3) (pa_cons (pe_cmpR op_eq (pe_op op_mod (pe_op op_fdiv (pv 2) pe_int) pe_int) pe_int (nomark _)) pa_nil)))))
    (pss_cons (ps_set (i := 5) scLaw.nd rfl (Or.inl rfl) (pe_call GS hr2 (by rfl) mS kS bS .nil pass0 (pa_cons (pv 4) pa_nil)))
    (pss_cons (ps_if (PW.pt (pw_or (pt_not (pt_val (pe_call GI hr (by rfl) mI kI bI .nil pass0 (pa_cons (pv 5) pa_nil)))) (pw_or (pt_cmpR (op_neD hr.units) (pe_call GS hr2 (by rfl) mS kS bS .nil pass0 (pa_cons (pv 5) pa_nil)) (pv 5) (nomark _))
        (pw_or1 (pt_not (pt_val (pe_call GL hr1 (by rfl) mL kL bL .nil pass0 (pa_cons (pv 5) (pa_cons (pv 4) pa_nil))))))))) (pss_one (ps_ret pe_bl)) pss_nil)
    (pss_cons (ps_if (PW.pt (pw_or (PW.pt (pw_and (pt_val (pe_call GE hr1 (by rfl) mE kE bE .nil pass0 (pa_cons (pv 4) pa_nil))) (pw_and1 (pt_not (pt_val (pe_call GE hr1 (by rfl) mE kE bE .nil pass0 (pa_cons (pv 5) pa_nil)))))))
        (pw_or1 (pt_cmpR op_gt (ixT (K := K) (pe_call GM hr (by rfl) mM kM bM .nil pass0 (pa_cons (pv 5) pa_nil)) pe_int) (ixT (K := K) (pe_call GM hr (by rfl) mM kM bM .nil pass0 (pa_cons (pv 4) pa_nil)) pe_int) (nomark _))))) (pss_one (ps_ret pe_bl)) pss_nil)
    hps)))))), ?_⟩
  intro d hd
  refine ⟨_, rfl, upd_same, stK a 0, rfl, (by show 2 ≤ 15; decide), ?_⟩
  rw [merge_st, upd_upd]
  have hS1 : SqL K (upd H d (.dK (stK a 0))) a (ns.map V.int) := (same_new hd _).seq hS
  have hd1 : (upd H d (.dK (stK a 0))) d = some (.dK (stK a 0)) := upd_same
  generalize upd H d (.dK (stK a 0)) = H1 at hS1 hd1
  refine ⟨_, rfl, d, a, 0, ns, rfl, hd1, hS1, Int.le_refl 0, fun c => ?_⟩
  have hS2 : SqL K (upd H1 d (.dK (stK a (0 + 1)))) a (ns.map V.int) := sq_upd hS1 hd1
  have hd2 : (upd H1 d (.dK (stK a (0 + 1)))) d = some (.dK (stK a (0 + 1))) := upd_same
  generalize upd H1 d (.dK (stK a (0 + 1))) = H2 at hS2 hd2
  refine ⟨_, rfl, _, _, rfl, rfl, (by show (0 : Int) < 6; decide), _, _, rfl, rfl, ?_⟩
  obtain ⟨n, hn1, hn6, en⟩ : ∃ n : Nat, 1 ≤ n ∧ n ≤ 6 ∧ 1 + c % 6 = (n : Int) := by
    have h0 := Int.emod_nonneg c (show (6 : Int) ≠ 0 by decide)
    have h1 := Int.emod_lt_of_pos c (show (0 : Int) < 6 by decide)
    exact ⟨(1 + c % 6).toNat, by omega, by omega, by omega⟩
  show gName 3 (V.int (1 + c % 6)) _ _ _
  rw [en]
  have h8 : n ≤ 8 := by omega
  refine ⟨_, rfl, _, rfl, _, rfl, _, _, rfl, rfl, ⟨by decide, by decide⟩, _, _, rfl, rfl, (by show (0 : Int) < 2; decide), rfl, d, a, 0 + 1, ns, n, _, rfl, hd2, hS2, by omega, hn1, h8, fun H3 t f hf hT => ?_⟩
  clear hS hS1 hd1 hS2 hd2
  refine ⟨_, rfl, t, n, f, rfl, hT, hf, h8, fun H4 g s4 hG => ?_⟩
  have hT4 := hT.keep s4
  have hfg := hf.fw n
  have hfix := fw_fix hf n
  refine ⟨_, rfl, g, n, fw n f, rfl, hG, hfg, h8, hfix, fun H5 s5 => ⟨true, rfl, iteF ?_⟩⟩
  refine ⟨_, rfl, g, n, fw n f, rfl, hG.keep s5, hfg, h8, fun H6 g2 s6 hG2 => ?_⟩
  rw [hfix] at hG2
  have s56 := s5.trans s6
  refine ⟨_, rfl, tabD n (fw n f), tabD n (fw n f), hG2.dp, (hG.keep s56).dp, tabD_shaped _ _, tabD_shaped _ _, _, rfl, ?_⟩
  rw [tabD_eqv]
  refine iteF ?_
  refine ⟨_, rfl, _, rfl, g, t, n, fw n f, f, rfl, hG.keep s56, hT4.keep s56, h8, fun i j _ _ => fw_le f i j n, fun H7 s7 => ⟨true, rfl, iteF ?_⟩⟩
  have s47 := s56.trans s7
  have hT7 := hT4.keep s47
  have hG7 := hG.keep s47
  clear s5 s6 s7 s56 hG2
  refine ⟨_, rfl, t, n, f, rfl, hT7, hn1, h8, fun H8 s8 => ⟨_, rfl, ?_⟩⟩
  have fin : ∀ H', Same H7 H' → tt { nx := fun _ H' => Q .non H', rt := Q } [some (.ref a), some (.ref d), some (.int c), some (.int (n : Int)), some (.ref t), some (.ref g), none, none, none, none, none, none, none, none, none] H' :=
    fun H' s' => hrd _ Q H' (.ref a) (.ref d) c n t g f hn1 hn6 hf (hT7.keep s') (hG7.keep s') k
  have last : ∀ (H9 : Hp) (Z : VK), Same H7 H9 → (∀ H', Same H7 H' → Z (.bl false) H') → (tOp (rI0 fun i j => V.bl (decide (j < i))) (tOp (rIxT K) (tCall spShortest [] E0 (tCons (tVar 5) tNil)) (tC (V.int 0))) (tOp (rIxT K) (tCall spShortest [] E0 (tCons (tVar 4) tNil)) (tC (V.int 0))))
      [some (.ref a), some (.ref d), some (.int c), some (.int (n : Int)), some (.ref t), some (.ref g), none, none, none, none, none, none, none, none, none] H9 Z := by
    intro H9 Z s9 hZ
    refine ⟨_, rfl, g, n, fw n f, rfl, hG7.keep s9, hn1, h8, fun H10 p x y s10 hp => ?_⟩
    refine ⟨p, _, 0, _, rfl, rfl, SqT.of hp, atI_nat (j := 0) rfl, ?_⟩
    refine ⟨_, rfl, t, n, f, rfl, hT7.keep (s9.trans s10), hn1, h8, fun H11 q x y s11 hq => ?_⟩
    refine ⟨q, _, 0, _, rfl, rfl, SqT.of hq, atI_nat (j := 0) rfl, _, _, rfl, rfl, ?_⟩
    have hm := R_mono (fun i j => fw_le f i j n) n (n - 1) [0] 0
    show Z (V.bl (decide (R f n (n - 1) [0] 0 < R (fw n f) n (n - 1) [0] 0))) H11
    rw [decide_eq_false (show ¬ R f n (n - 1) [0] 0 < R (fw n f) n (n - 1) [0] 0 by omega)]
    exact hZ H11 ((s9.trans s10).trans s11)
  refine ite2 (fun hE => ?_) (fun hE => ?_)
  · refine ⟨_, rfl, g, n, fw n f, rfl, hG7.keep s8, hn1, h8, fun H9 s9 => ⟨_, rfl, ?_⟩⟩
    have hE2 : evenB n (fw n f) = true := evenB_iff.mpr fun i j hi hj => fw_sym (evenB_iff.mp hE) n (Nat.le_refl n) i j hi hj
    rw [hE2]
    refine iteF ?_
    exact last H9 _ (s8.trans s9) fun H' s' => ⟨false, rfl, iteF (fin H' s')⟩
  · refine iteF ?_
    exact last H8 _ s8 fun H' s' => ⟨false, rfl, iteF (fin H' s')⟩
end
end Hr

namespace Hr
open PySem PySem.Spec PyProof.Rows L2
/-! ### what the top has left -/
theorem all_mk {l : PySem.W.OpenLaw} {w : World} {K : PySem.W.Frag} {h : Heap} {mg : Str → Option Value} {fa f1 f2 f3 f4 f5 f6 f7 f8 f9 f10 f11 f12 f13 f14 : Addr} (X : K.In h) (G : h.Ns mainGlobals mg) (hfa : mg "law" = some (.ref fa))
    {od1 an1 od2 an2 od3 an3 od4 an4 od5 an5 od6 an6 od7 an7 od8 an8 od9 an9 od10 an10 od11 an11 od12 an12 od13 an13 od14 an14 : Option Addr} {sl1 sl2 sl3 sl4 sl5 sl6 sl7 sl8 sl9 sl10 sl11 sl12 sl13 sl14 : Array (Option Value)} {oc1 kV1 dc1 pm1 cd1 ct1 oc2 kV2 dc2 pm2 cd2 ct2 oc3 kV3 dc3 pm3 cd3 ct3 oc4 kV4 dc4 pm4 cd4 ct4 oc5 kV5 dc5 pm5 cd5 ct5 oc6 kV6 dc6 pm6 cd6 ct6 oc7 kV7 dc7 pm7 cd7 ct7 oc8 kV8 dc8 pm8 cd8 ct8 oc9 kV9 dc9 pm9 cd9 ct9 oc10 kV10 dc10 pm10 cd10 ct10 oc11 kV11 dc11 pm11 cd11 ct11 oc12 kV12 dc12 pm12 cd12 ct12 oc13 kV13 dc13 pm13 cd13 ct13 oc14 kV14 dc14 pm14 cd14 ct14 : Value}
    (a1 : PySem.W.nsIn K mainGlobals "is_even" = some (some (.ref f1))) (l1 : K.lookup f1 = some ⟨oc1, od1, .func (PySem.W.fnOf "is_even" "is_even" (defArgs sEven) (defBody sEven) (defScope sEven) .none kV1 dc1 pm1 an1 cd1 ct1), sl1⟩) (c1 : PySem.W.codeIn K cd1 "is_even" = true) (k1 : PySem.W.keepIn K (.ref f1) = true)
    (a2 : PySem.W.nsIn K mainGlobals "is_straight" = some (some (.ref f2))) (l2 : K.lookup f2 = some ⟨oc2, od2, .func (PySem.W.fnOf "is_straight" "is_straight" (defArgs sStraight) (defBody sStraight) (defScope sStraight) .none kV2 dc2 pm2 an2 cd2 ct2), sl2⟩) (c2 : PySem.W.codeIn K cd2 "is_straight" = true) (k2 : PySem.W.keepIn K (.ref f2) = true)
    (a3 : PySem.W.nsIn K mainGlobals "least_ways" = some (some (.ref f3))) (l3 : K.lookup f3 = some ⟨oc3, od3, .func (PySem.W.fnOf "least_ways" "least_ways" (defArgs sLeast) (defBody sLeast) (defScope sLeast) .none kV3 dc3 pm3 an3 cd3 ct3), sl3⟩) (c3 : PySem.W.codeIn K cd3 "least_ways" = true) (k3 : PySem.W.keepIn K (.ref f3) = true)
    (a4 : PySem.W.nsIn K mainGlobals "shortened" = some (some (.ref f4))) (l4 : K.lookup f4 = some ⟨oc4, od4, .func (PySem.W.fnOf "shortened" "shortened" (defArgs sShortened) (defBody sShortened) (defScope sShortened) .none kV4 dc4 pm4 an4 cd4 ct4), sl4⟩) (c4 : PySem.W.codeIn K cd4 "shortened" = true) (k4 : PySem.W.keepIn K (.ref f4) = true)
    (a5 : PySem.W.nsIn K mainGlobals "walk" = some (some (.ref f5))) (l5 : K.lookup f5 = some ⟨oc5, od5, .func (PySem.W.fnOf "walk" "walk" (defArgs sWalk) (defBody sWalk) (defScope sWalk) .none kV5 dc5 pm5 an5 cd5 ct5), sl5⟩) (c5 : PySem.W.codeIn K cd5 "walk" = true) (k5 : PySem.W.keepIn K (.ref f5) = true)
    (a6 : PySem.W.nsIn K mainGlobals "rests" = some (some (.ref f6))) (l6 : K.lookup f6 = some ⟨oc6, od6, .func (PySem.W.fnOf "rests" "rests" (defArgs sRests) (defBody sRests) (defScope sRests) .none kV6 dc6 pm6 an6 cd6 ct6), sl6⟩) (c6 : PySem.W.codeIn K cd6 "rests" = true) (k6 : PySem.W.keepIn K (.ref f6) = true)
    (a7 : PySem.W.nsIn K mainGlobals "sets_of" = some (some (.ref f7))) (l7 : K.lookup f7 = some ⟨oc7, od7, .func (PySem.W.fnOf "sets_of" "sets_of" (defArgs sSets) (defBody sSets) (defScope sSets) .none kV7 dc7 pm7 an7 cd7 ct7), sl7⟩) (c7 : PySem.W.codeIn K cd7 "sets_of" = true) (k7 : PySem.W.keepIn K (.ref f7) = true)
    (a8 : PySem.W.nsIn K mainGlobals "best_rest" = some (some (.ref f8))) (l8 : K.lookup f8 = some ⟨oc8, od8, .func (PySem.W.fnOf "best_rest" "best_rest" (defArgs sBest) (defBody sBest) (defScope sBest) .none kV8 dc8 pm8 an8 cd8 ct8), sl8⟩) (c8 : PySem.W.codeIn K cd8 "best_rest" = true) (k8 : PySem.W.keepIn K (.ref f8) = true)
    (a9 : PySem.W.nsIn K mainGlobals "shortest" = some (some (.ref f9))) (l9 : K.lookup f9 = some ⟨oc9, od9, .func (PySem.W.fnOf "shortest" "shortest" (defArgs sShortest) (defBody sShortest) (defScope sShortest) .none kV9 dc9 pm9 an9 cd9 ct9), sl9⟩) (c9 : PySem.W.codeIn K cd9 "shortest" = true) (k9 : PySem.W.keepIn K (.ref f9) = true)
    (a10 : PySem.W.nsIn K mainGlobals "_law_acell" = some (some (.ref f10))) (l10 : K.lookup f10 = some ⟨oc10, od10, .func (PySem.W.fnOf "_law_acell" "_law_acell" (defArgs sCell) (defBody sCell) (defScope sCell) .none kV10 dc10 pm10 an10 cd10 ct10), sl10⟩) (c10 : PySem.W.codeIn K cd10 "_law_acell" = true) (k10 : PySem.W.keepIn K (.ref f10) = true)
    (a11 : PySem.W.nsIn K mainGlobals "_law_alength" = some (some (.ref f11))) (l11 : K.lookup f11 = some ⟨oc11, od11, .func (PySem.W.fnOf "_law_alength" "_law_alength" (defArgs sLen) (defBody sLen) (defScope sLen) .none kV11 dc11 pm11 an11 cd11 ct11), sl11⟩) (c11 : PySem.W.codeIn K cd11 "_law_alength" = true) (k11 : PySem.W.keepIn K (.ref f11) = true)
    (a12 : PySem.W.nsIn K mainGlobals "_law_atable" = some (some (.ref f12))) (l12 : K.lookup f12 = some ⟨oc12, od12, .func (PySem.W.fnOf "_law_atable" "_law_atable" (defArgs sTab) (defBody sTab) (defScope sTab) .none kV12 dc12 pm12 an12 cd12 ct12), sl12⟩) (c12 : PySem.W.codeIn K cd12 "_law_atable" = true) (k12 : PySem.W.keepIn K (.ref f12) = true)
    (a13 : PySem.W.nsIn K mainGlobals "_law_aless" = some (some (.ref f13))) (l13 : K.lookup f13 = some ⟨oc13, od13, .func (PySem.W.fnOf "_law_aless" "_law_aless" (defArgs sLess) (defBody sLess) (defScope sLess) .none kV13 dc13 pm13 an13 cd13 ct13), sl13⟩) (c13 : PySem.W.codeIn K cd13 "_law_aless" = true) (k13 : PySem.W.keepIn K (.ref f13) = true)
    (a14 : PySem.W.nsIn K mainGlobals "law" = some (some (.ref f14))) (l14 : K.lookup f14 = some ⟨oc14, od14, .func (PySem.W.fnOf "law" "law" (defArgs sLaw) (defBody sLaw) (defScope sLaw) .none kV14 dc14 pm14 an14 cd14 ct14), sl14⟩) (c14 : PySem.W.codeIn K cd14 "law" = true) (k14 : PySem.W.keepIn K (.ref f14) = true)
    (z1 : PySem.W.nsIn K mainGlobals "len" = some none) (z2 : PySem.W.nsIn K mainGlobals "all" = some none) (z3 : PySem.W.nsIn K mainGlobals "range" = some none) (z4 : PySem.W.nsIn K mainGlobals "list" = some none) (z5 : PySem.W.nsIn K mainGlobals "tuple" = some none) (z6 : PySem.W.nsIn K mainGlobals "sorted" = some none) (z7 : PySem.W.nsIn K mainGlobals "zip" = some none) (z8 : PySem.W.nsIn K mainGlobals "sum" = some none) :
    ∃ fd : FuncData, (∀ (s : Shared) (v : Value), BindsTo s fd ⟨[v], []⟩ [("script", v)]) ∧ ∀ base : Heap, K.In base → base.Ns mainGlobals mg → FnOk l.prog w K mg base CX0 4 fa fd ["script"] (spLaw K) := by
  have e := hfa.symm.trans (PySem.W.mg_of X G a14)
  cases e
  have F1 := fun_mk (st := sEven) l1 c1 k1
  have F2 := fun_mk (st := sStraight) l2 c2 k2
  have F3 := fun_mk (st := sLeast) l3 c3 k3
  have F4 := fun_mk (st := sShortened) l4 c4 k4
  have F5 := fun_mk (st := sWalk) l5 c5 k5
  have F6 := fun_mk (st := sRests) l6 c6 k6
  have F7 := fun_mk (st := sSets) l7 c7 k7
  have F8 := fun_mk (st := sBest) l8 c8 k8
  have F9 := fun_mk (st := sShortest) l9 c9 k9
  have F10 := fun_mk (st := sCell) l10 c10 k10
  have F11 := fun_mk (st := sLen) l11 c11 k11
  have F12 := fun_mk (st := sTab) l12 c12 k12
  have F13 := fun_mk (st := sLess) l13 c13 k13
  have F14 := fun_mk (st := sLaw) l14 c14 k14
  have b1 := F1.binds (ps := ["table"]) fun _ _ _ _ _ _ us hl => match us, hl with | [_], _ => rfl
  have m1 := PySem.W.mg_of X G a1
  have b2 := F2.binds (ps := ["table"]) fun _ _ _ _ _ _ us hl => match us, hl with | [_], _ => rfl
  have m2 := PySem.W.mg_of X G a2
  have b3 := F3.binds (ps := ["table"]) fun _ _ _ _ _ _ us hl => match us, hl with | [_], _ => rfl
  have m3 := PySem.W.mg_of X G a3
  have b4 := F4.binds (ps := ["table"]) fun _ _ _ _ _ _ us hl => match us, hl with | [_], _ => rfl
  have m4 := PySem.W.mg_of X G a4
  have b5 := F5.binds (ps := ["table", "one", "other"]) fun _ _ _ _ _ _ us hl => match us, hl with | [_, _, _], _ => rfl
  have m5 := PySem.W.mg_of X G a5
  have b6 := F6.binds (ps := ["table"]) fun _ _ _ _ _ _ us hl => match us, hl with | [_], _ => rfl
  have m6 := PySem.W.mg_of X G a6
  have b7 := F7.binds (ps := ["many", "size"]) fun _ _ _ _ _ _ us hl => match us, hl with | [_, _], _ => rfl
  have m7 := PySem.W.mg_of X G a7
  have b8 := F8.binds (ps := ["table", "found", "some", "last"]) fun _ _ _ _ _ _ us hl => match us, hl with | [_, _, _, _], _ => rfl
  have m8 := PySem.W.mg_of X G a8
  have b9 := F9.binds (ps := ["table"]) fun _ _ _ _ _ _ us hl => match us, hl with | [_], _ => rfl
  have m9 := PySem.W.mg_of X G a9
  have b10 := F10.binds (ps := ["state"]) fun _ _ _ _ _ _ us hl => match us, hl with | [_], _ => rfl
  have m10 := PySem.W.mg_of X G a10
  have b11 := F11.binds (ps := ["cell"]) fun _ _ _ _ _ _ us hl => match us, hl with | [_], _ => rfl
  have m11 := PySem.W.mg_of X G a11
  have b12 := F12.binds (ps := ["state", "many", "even"]) fun _ _ _ _ _ _ us hl => match us, hl with | [_, _, _], _ => rfl
  have m12 := PySem.W.mg_of X G a12
  have b13 := F13.binds (ps := ["one", "other"]) fun _ _ _ _ _ _ us hl => match us, hl with | [_, _], _ => rfl
  have m13 := PySem.W.mg_of X G a13
  have B : Blt mg := ⟨PySem.W.mg_none_of X G z1, PySem.W.mg_none_of X G z2, PySem.W.mg_none_of X G z3, PySem.W.mg_none_of X G z4, PySem.W.mg_none_of X G z5, PySem.W.mg_none_of X G z6, PySem.W.mg_none_of X G z7, PySem.W.mg_none_of X G z8⟩
  refine ⟨PySem.W.fnOf "law" "law" (defArgs sLaw) (defBody sLaw) (defScope sLaw) .none kV14 dc14 pm14 an14 cd14 ct14, fun s v => .of_eq rfl, fun base _ _ => ?_⟩
  have G1 : FnOk l.prog w K mg base CX0 1 f1 _ ["table"] spEven := ok_even F1 B
  have G3 : FnOk l.prog w K mg base CX0 1 f3 _ ["table"] spLeast := ok_least F3 B
  have G4 : FnOk l.prog w K mg base CX0 2 f4 _ ["table"] spShort := ok_short F4 B G3 b3 k3 m3
  have G2 : FnOk l.prog w K mg base CX0 3 f2 _ ["table"] spStraight := ok_straight F2 G4 b4 k4 m4
  have G5 : FnOk l.prog w K mg base CX0 2 f5 _ ["table", "one", "other"] spWalk := ok_walk F5 B G3 b3 k3 m3
  have G7 : FnOk l.prog w K mg base CX0 1 f7 _ ["many", "size"] spSets := ok_sets F7 B
  have G8 : FnOk l.prog w K mg base CX0 1 f8 _ ["table", "found", "some", "last"] (spBest l.prog w) := ok_best F8 B
  have G6 : FnOk l.prog w K mg base CX0 2 f6 _ ["table"] (spRests l.prog w) := ok_rests F6 B G7 b7 k7 m7 G8 b8 k8 m8
  have G9 : FnOk l.prog w K mg base CX0 3 f9 _ ["table"] spShortest := ok_shortest F9 B G6 b6 k6 m6
  have G10 : FnOk l.prog w K mg base CX0 1 f10 _ ["state"] (spCell K) := ok_cell F10 B
  have G11 : FnOk l.prog w K mg base CX0 1 f11 _ ["cell"] spLen := ok_len F11
  have G12 : FnOk l.prog w K mg base CX0 2 f12 _ ["state", "many", "even"] (spTab K) := ok_tab F12 B G10 b10 k10 m10 G11 b11 k11 m11
  have G13 : FnOk l.prog w K mg base CX0 1 f13 _ ["one", "other"] spLess := ok_less F13 B
  exact ok_law F14 B ⟨⟨_, _, G10, b10, k10, m10⟩⟩ ⟨⟨_, _, G12, b12, k12, m12⟩⟩ ⟨⟨_, _, G4, b4, k4, m4⟩⟩ ⟨⟨_, _, G2, b2, k2, m2⟩⟩ ⟨⟨_, _, G13, b13, k13, m13⟩⟩ ⟨⟨_, _, G1, b1, k1, m1⟩⟩ ⟨⟨_, _, G9, b9, k9, m9⟩⟩ ⟨⟨_, _, G5, b5, k5, m5⟩⟩
end Hr
open PySem PySem.W PyProof.Rows
set_option maxRecDepth 100000 in
set_option maxHeartbeats 0 in
theorem PySem.Challenge.cw_homeround_k05_whole_shortened_holds : PySem.Challenge.rw_homeround_k05_whole_shortened.Holds := by
  w_on; o_law; k_head; (case hw => w_witness2)
  k_fill
  refine L2.walk_of (l := PySem.Challenge.rw_homeround_k05_whole_shortened) (n := 63) (k := 4) (x := "script") (CX := fun _ => L2.CX0) (sp := fun w => Hr.spLaw _) rfl (by decide) rfl ⟨rfl, by decide, by decide⟩ (fun w h Y => PySem.W.kIn_of Y) ?F (fun _ _ a ns hl _ hS => ⟨a, ns, rfl, hS, hl, fun _ => rfl⟩) (fun _ _ _ _ _ h => h)
  case F =>
    intro w mg fa h KX G hmg
    refine' Hr.all_mk KX G hmg ?a1 ?l1 ?c1 ?k1 ?a2 ?l2 ?c2 ?k2 ?a3 ?l3 ?c3 ?k3 ?a4 ?l4 ?c4 ?k4 ?a5 ?l5 ?c5 ?k5 ?a6 ?l6 ?c6 ?k6 ?a7 ?l7 ?c7 ?k7 ?a8 ?l8 ?c8 ?k8 ?a9 ?l9 ?c9 ?k9 ?a10 ?l10 ?c10 ?k10 ?a11 ?l11 ?c11 ?k11 ?a12 ?l12 ?c12 ?k12 ?a13 ?l13 ?c13 ?k13 ?a14 ?l14 ?c14 ?k14 ?z1 ?z2 ?z3 ?z4 ?z5 ?z6 ?z7 ?z8
    (case a1 => k_is); (case l1 => k_is); (case c1 => k_is); (case k1 => k_is)
    (case a2 => k_is); (case l2 => k_is); (case c2 => k_is); (case k2 => k_is)
    (case a3 => k_is); (case l3 => k_is); (case c3 => k_is); (case k3 => k_is)
    (case a4 => k_is); (case l4 => k_is); (case c4 => k_is); (case k4 => k_is)
    (case a5 => k_is); (case l5 => k_is); (case c5 => k_is); (case k5 => k_is)
    (case a6 => k_is); (case l6 => k_is); (case c6 => k_is); (case k6 => k_is)
    (case a7 => k_is); (case l7 => k_is); (case c7 => k_is); (case k7 => k_is)
    (case a8 => k_is); (case l8 => k_is); (case c8 => k_is); (case k8 => k_is)
    (case a9 => k_is); (case l9 => k_is); (case c9 => k_is); (case k9 => k_is)
    (case a10 => k_is); (case l10 => k_is); (case c10 => k_is); (case k10 => k_is)
    (case a11 => k_is); (case l11 => k_is); (case c11 => k_is); (case k11 => k_is)
    (case a12 => k_is); (case l12 => k_is); (case c12 => k_is); (case k12 => k_is)
    (case a13 => k_is); (case l13 => k_is); (case c13 => k_is); (case k13 => k_is)
    (case a14 => k_is); (case l14 => k_is); (case c14 => k_is); (case k14 => k_is)
    (case z1 => k_is); (case z2 => k_is); (case z3 => k_is); (case z4 => k_is); (case z5 => k_is); (case z6 => k_is); (case z7 => k_is); (case z8 => k_is)
